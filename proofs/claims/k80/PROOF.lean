import PyProof.Rows.All
import Wide.All
import OpenK.AllK
import Wide.FinOn
import KE.KStateDown
import HandS.ForMost
import HandS.DictComp
import HandS.Conv
import HandS.FStr
import HandS.Deep
import HandS.Zip
import HandS.Defaults
import HandS.MakeKw
import HandS.IsInst
import HandS.Style
import HandS.Flow
import HandS.SetKeys
import HandS.Small
import HandS.Codes
import HandS.WideMore
import HandS.Sort
import HandS.Dict
import HandS.ExcInit
import HandS.TryMany
import HandS.ExcField
import HandS.ExcIs
import KE.KExcInit
import KE.KExcLine
import HandS.ExcOwn
import HandS.CallSlots
import HandS.WordsExc
import KE.KExcIs
import HandS.SetFor
import HandS.Ends
import HandS.Head0
import HandS.Head1
import HandS.Head2
import HandS.Head3
import HandS.HeadEnd
import HandS.HeadHook1
import HandS.HeadHook2
import PySem.Challenge.RW_nonesooner_k80_fall_runs_there_and_back
set_option Elab.async false
set_option linter.all false
set_option maxRecDepth 100000
set_option maxHeartbeats 0
/-! part DCore -/
set_option maxHeartbeats 0
/-! A layer of data over HandS: what is frozen is a value (D), what may change is a cell; readings speak of data alone. -/
namespace DL
open PySem PySem.Spec PyProof.Rows L2
/-! ### data -/
inductive D where
  | non | bl (b : Bool) | int (i : Int) | str (x : Str) | ty (n : String) | cell (p : Addr)
  | lst (ds : List D) | tup (ds : List D) | dic (ks : List Key) (ds : List D) | ins (C : Addr) (fs : List Str) (ds : List D)
  | exc (a C dd : Addr) (fs : List Str) (ds : List D)
mutual
def Rep (H : Hp) : D → V → Prop
  | .non, v => v = V.non
  | .bl b, v => v = V.bl b
  | .int i, v => v = V.int i
  | .str x, v => v = V.str x
  | .ty n, v => v = V.ty n
  | .cell p, v => v = V.ref p
  | .lst ds, v => ∃ a vs, v = V.ref a ∧ H a = some (.lst vs) ∧ RepL H ds vs
  | .tup ds, v => ∃ a vs, v = V.ref a ∧ H a = some (.tup vs) ∧ RepL H ds vs
  | .dic ks ds, v => ∃ a vs, v = V.ref a ∧ H a = some (.dK (ks.zip vs)) ∧ ks.length = ds.length ∧ RepL H ds vs
  | .ins C fs ds, v => ∃ a dx vs, v = V.ref a ∧ H a = some (.ins C dx (fs.zip vs)) ∧ fs.length = ds.length ∧ RepL H ds vs
  | .exc a _ dd fs ds, v => v = V.ref a ∧ ∃ vs, H dd = some (.xd (fs.zip vs)) ∧ fs.length = ds.length ∧ RepL H ds vs
def RepL (H : Hp) : List D → List V → Prop
  | [], vs => vs = []
  | d :: r, vs => ∃ v vr, vs = v :: vr ∧ Rep H d v ∧ RepL H r vr
end
/-- what an object holds -/
def Con (H : Hp) : D → HO → Prop
  | .lst ds, o => ∃ vs, o = .lst vs ∧ RepL H ds vs
  | .tup ds, o => ∃ vs, o = .tup vs ∧ RepL H ds vs
  | .dic ks ds, o => ∃ vs, o = .dK (ks.zip vs) ∧ ks.length = ds.length ∧ RepL H ds vs
  | .ins C fs ds, o => ∃ dx vs, o = .ins C dx (fs.zip vs) ∧ fs.length = ds.length ∧ RepL H ds vs
  | _, _ => False
mutual
theorem Rep.mono {H H' : Hp} (e : Same H H') : ∀ (d : D) (v : V), Rep H d v → Rep H' d v
  | .non, v, h => h
  | .bl b, v, h => h
  | .int i, v, h => h
  | .str x, v, h => h
  | .ty n, v, h => h
  | .cell p, v, h => h
  | .lst ds, v, ⟨a, vs, h1, h2, h3⟩ => ⟨a, vs, h1, e _ _ h2, RepL.mono e ds vs h3⟩
  | .tup ds, v, ⟨a, vs, h1, h2, h3⟩ => ⟨a, vs, h1, e _ _ h2, RepL.mono e ds vs h3⟩
  | .dic ks ds, v, ⟨a, vs, h1, h2, h4, h3⟩ => ⟨a, vs, h1, e _ _ h2, h4, RepL.mono e ds vs h3⟩
  | .ins C fs ds, v, ⟨a, dx, vs, h1, h2, h4, h3⟩ => ⟨a, dx, vs, h1, e _ _ h2, h4, RepL.mono e ds vs h3⟩
  | .exc _ _ _ fs ds, v, ⟨h1, vs, h2, h4, h3⟩ => ⟨h1, vs, e _ _ h2, h4, RepL.mono e ds vs h3⟩
theorem RepL.mono {H H' : Hp} (e : Same H H') : ∀ (ds : List D) (vs : List V), RepL H ds vs → RepL H' ds vs
  | [], vs, h => h
  | d :: r, vs, ⟨v, vr, h1, h2, h3⟩ => ⟨v, vr, h1, Rep.mono e d v h2, RepL.mono e r vr h3⟩
end
theorem Con.mono {H H' : Hp} (e : Same H H') : ∀ {d : D} {o : HO}, Con H d o → Con H' d o
  | .lst ds, o, ⟨vs, h1, h2⟩ => ⟨vs, h1, h2.mono e⟩
  | .tup ds, o, ⟨vs, h1, h2⟩ => ⟨vs, h1, h2.mono e⟩
  | .dic ks ds, o, ⟨vs, h1, h3, h2⟩ => ⟨vs, h1, h3, h2.mono e⟩
  | .ins C fs ds, o, ⟨dx, vs, h1, h3, h2⟩ => ⟨dx, vs, h1, h3, h2.mono e⟩
  | .non, _, h => h.elim
  | .bl _, _, h => h.elim
  | .int _, _, h => h.elim
  | .str _, _, h => h.elim
  | .ty _, _, h => h.elim
  | .cell _, _, h => h.elim
  | .exc _ _ _ _ _, _, h => h.elim
theorem Con.rep {H : Hp} {a : Addr} : ∀ {d : D} {o : HO}, Con H d o → H a = some o → Rep H d (.ref a)
  | .lst ds, o, ⟨vs, h1, h2⟩, e => ⟨a, vs, rfl, h1 ▸ e, h2⟩
  | .tup ds, o, ⟨vs, h1, h2⟩, e => ⟨a, vs, rfl, h1 ▸ e, h2⟩
  | .dic ks ds, o, ⟨vs, h1, h3, h2⟩, e => ⟨a, vs, rfl, h1 ▸ e, h3, h2⟩
  | .ins C fs ds, o, ⟨dx, vs, h1, h3, h2⟩, e => ⟨a, dx, vs, rfl, h1 ▸ e, h3, h2⟩
  | .non, _, h, _ => h.elim
  | .bl _, _, h, _ => h.elim
  | .int _, _, h, _ => h.elim
  | .str _, _, h, _ => h.elim
  | .ty _, _, h, _ => h.elim
  | .cell _, _, h, _ => h.elim
  | .exc _ _ _ _ _, _, h, _ => h.elim
theorem RepL.length {H : Hp} : ∀ {ds : List D} {vs : List V}, RepL H ds vs → ds.length = vs.length
  | [], _, h => by cases h; rfl
  | d :: r, _, ⟨v, vr, h1, _, h3⟩ => by cases h1; simp only [List.length_cons, RepL.length h3]
theorem RepL.get {H : Hp} : ∀ {ds : List D} {vs : List V} {i : Nat} {d : D}, RepL H ds vs → ds[i]? = some d → ∃ v, vs[i]? = some v ∧ Rep H d v
  | [], _, i, d, h, e => by simp at e
  | d :: r, _, 0, d', ⟨v, vr, h1, h2, _⟩, e => by
    cases h1
    simp at e
    exact ⟨v, rfl, e ▸ h2⟩
  | d :: r, _, i + 1, d', ⟨v, vr, h1, _, h3⟩, e => by
    cases h1
    simp at e
    obtain ⟨w, a, b⟩ := RepL.get h3 e
    exact ⟨w, by simpa using a, b⟩
theorem RepL.getV {H : Hp} {ds : List D} {vs : List V} {i : Nat} {v : V} (h : RepL H ds vs) (e : vs[i]? = some v) : ∃ d, ds[i]? = some d ∧ Rep H d v := by
  have hl := h.length
  obtain ⟨hi, _⟩ := List.getElem?_eq_some_iff.mp e
  have e1 : ds[i]? = some (ds[i]'(by omega)) := List.getElem?_eq_getElem (by omega)
  obtain ⟨w, a, b⟩ := h.get e1
  rw [e] at a
  cases a
  exact ⟨_, e1, b⟩
theorem RepL.append {H : Hp} : ∀ {ds es : List D} {vs ws : List V}, RepL H ds vs → RepL H es ws → RepL H (ds ++ es) (vs ++ ws)
  | [], _, _, _, h, h' => by cases h; exact h'
  | d :: r, _, _, _, ⟨v, vr, h1, h2, h3⟩, h' => by cases h1; exact ⟨v, vr ++ _, rfl, h2, RepL.append h3 h'⟩
theorem RepL.set {H : Hp} {d : D} {v : V} (hd : Rep H d v) : ∀ {ds : List D} {vs : List V} (i : Nat), RepL H ds vs → RepL H (ds.set i d) (vs.set i v)
  | [], _, _, h => by cases h; exact rfl
  | d' :: r, _, 0, ⟨w, vr, h1, h2, h3⟩ => by cases h1; exact ⟨v, vr, rfl, hd, h3⟩
  | d' :: r, _, i + 1, ⟨w, vr, h1, h2, h3⟩ => by cases h1; exact ⟨w, vr.set i v, rfl, h2, RepL.set hd i h3⟩
theorem RepL.take {H : Hp} : ∀ {ds : List D} {vs : List V} (n : Nat), RepL H ds vs → RepL H (ds.take n) (vs.take n)
  | _, _, 0, _ => rfl
  | [], _, n + 1, h => by cases h; exact rfl
  | d :: r, _, n + 1, ⟨v, vr, h1, h2, h3⟩ => by cases h1; exact ⟨v, _, rfl, h2, RepL.take n h3⟩
theorem RepL.drop {H : Hp} : ∀ {ds : List D} {vs : List V} (n : Nat), RepL H ds vs → RepL H (ds.drop n) (vs.drop n)
  | _, _, 0, h => h
  | [], _, n + 1, h => by cases h; exact rfl
  | d :: r, _, n + 1, ⟨v, vr, h1, h2, h3⟩ => by cases h1; exact RepL.drop n h3
theorem RepL.eraseIdx {H : Hp} : ∀ {ds : List D} {vs : List V} (n : Nat), RepL H ds vs → RepL H (ds.eraseIdx n) (vs.eraseIdx n)
  | [], _, n, h => by cases h; exact rfl
  | d :: r, _, 0, ⟨v, vr, h1, h2, h3⟩ => by cases h1; exact h3
  | d :: r, _, n + 1, ⟨v, vr, h1, h2, h3⟩ => by cases h1; exact ⟨v, _, rfl, h2, RepL.eraseIdx n h3⟩
theorem RepL.one {H : Hp} {d : D} {v : V} (h : Rep H d v) : RepL H [d] [v] := ⟨v, [], rfl, h, rfl⟩
theorem RepL.ints {H : Hp} : ∀ {ns : List Int} {vs : List V}, RepL H (ns.map D.int) vs → vs = ns.map V.int
  | [], _, h => h
  | n :: r, _, ⟨v, vr, h1, h2, h3⟩ => by cases h1; cases (show v = V.int n from h2); rw [RepL.ints h3]; rfl
theorem RepL.of_ints {H : Hp} : ∀ (ns : List Int), RepL H (ns.map D.int) (ns.map V.int)
  | [] => rfl
  | n :: r => ⟨_, _, rfl, rfl, RepL.of_ints r⟩
theorem RepL.strs {H : Hp} : ∀ {ns : List Str} {vs : List V}, RepL H (ns.map D.str) vs → vs = ns.map V.str
  | [], _, h => h
  | n :: r, _, ⟨v, vr, h1, h2, h3⟩ => by cases h1; cases (show v = V.str n from h2); rw [RepL.strs h3]; rfl
theorem RepL.of_strs {H : Hp} : ∀ (ns : List Str), RepL H (ns.map D.str) (ns.map V.str)
  | [] => rfl
  | n :: r => ⟨_, _, rfl, rfl, RepL.of_strs r⟩
theorem RepL.bls {H : Hp} : ∀ {ns : List Bool} {vs : List V}, RepL H (ns.map D.bl) vs → vs = ns.map V.bl
  | [], _, h => h
  | n :: r, _, ⟨v, vr, h1, h2, h3⟩ => by cases h1; cases (show v = V.bl n from h2); rw [RepL.bls h3]; rfl
/-! ### cells -/
abbrev Mp := Addr → Option D
def updM (M : Mp) (p : Addr) (d : D) : Mp := fun q => if q = p then some d else M q
def delM (M : Mp) (p : Addr) : Mp := fun q => if q = p then none else M q
theorem updM_same {M : Mp} {p : Addr} {d : D} : updM M p d p = some d := by unfold updM; rw [if_pos rfl]
theorem updM_ne {M : Mp} {p q : Addr} {d : D} (h : q ≠ p) : updM M p d q = M q := by unfold updM; rw [if_neg h]
theorem updM_updM {M : Mp} {p : Addr} {d e : D} : updM (updM M p d) p e = updM M p e := by funext q; unfold updM; split <;> rfl
theorem delM_same {M : Mp} {p : Addr} : delM M p p = none := by unfold delM; rw [if_pos rfl]
theorem delM_ne {M : Mp} {p q : Addr} (h : q ≠ p) : delM M p q = M q := by unfold delM; rw [if_neg h]
theorem delM_updM {M : Mp} {p : Addr} {d : D} (h : M p = none) : delM (updM M p d) p = M := by
  funext q
  unfold delM updM
  by_cases e : q = p
  · rw [if_pos e, e, h]
  · rw [if_neg e, if_neg e]
theorem updM_id {M : Mp} {p : Addr} {d : D} (h : M p = some d) : updM M p d = M := by
  funext q
  unfold updM
  by_cases e : q = p
  · rw [if_pos e, e, h]
  · rw [if_neg e]
theorem updM_comm {M : Mp} {p q : Addr} {d e : D} (h : p ≠ q) : updM (updM M p d) q e = updM (updM M q e) p d := by
  funext r
  unfold updM
  by_cases e1 : r = q
  · rw [if_pos e1, if_neg (fun z => h (z.symm.trans e1)), if_pos e1]
  · rw [if_neg e1]
    by_cases e2 : r = p
    · rw [if_pos e2, if_pos e2]
    · rw [if_neg e2, if_neg e2, if_neg e1]
theorem ne_cell {M : Mp} {p q : Addr} {d : D} (h : M p = some d) (h' : M q = none) : p ≠ q := by
  intro e; subst e; rw [h] at h'; cases h'
/-- the frozen part Hb and the cells M of the heap H -/
structure Sx (Hb H : Hp) (M : Mp) : Prop where
  le : ∀ a o, Hb a = some o → H a = some o ∨ ∃ kvs od, o = .dK kvs ∧ H a = some (.frz od o)
  cell : ∀ p d, M p = some d → Hb p = none ∧ ∃ o, H p = some o ∧ Con Hb d o
/-- what a step keeps -/
structure Fr (Hb H : Hp) (M : Mp) (Hb' H' : Hp) (M' : Mp) : Prop where
  same : Same Hb Hb'
  keep : ∀ a o, H a = some o → M a = none → H' a = some o
  out : ∀ a o, H a = some o → Hb a = none → M a = none → Hb' a = none ∧ M' a = none
theorem Fr.refl (Hb H : Hp) (M : Mp) : Fr Hb H M Hb H M := ⟨Same.refl _, fun _ _ e _ => e, fun _ _ _ h1 h2 => ⟨h1, h2⟩⟩
theorem Sx.apart {Hb H : Hp} {M : Mp} (s : Sx Hb H M) {a : Addr} {o : HO} (h : Hb a = some o) : M a = none := by
  cases e : M a with
  | none => rfl
  | some d =>
    have := (s.cell a d e).1
    rw [h] at this
    cases this
theorem Fr.trans {Hb H Hb1 H1 Hb2 H2 : Hp} {M M1 M2 : Mp} (a : Fr Hb H M Hb1 H1 M1) (s : Sx Hb1 H1 M1) (b : Fr Hb1 H1 M1 Hb2 H2 M2) : Fr Hb H M Hb2 H2 M2 := by
  refine ⟨a.same.trans b.same, fun x o e h => ?_, fun x o e h1 h2 => ?_⟩
  · have e1 := a.keep x o e h
    cases q : Hb x with
    | some u => exact b.keep x o e1 (s.apart (a.same x u q))
    | none => exact b.keep x o e1 (a.out x o e q h).2
  · have e1 := a.keep x o e h2
    obtain ⟨q1, q2⟩ := a.out x o e h1 h2
    exact b.out x o e1 q1 q2
section
variable {Hb H : Hp} {M : Mp}
theorem Sx.none_of (s : Sx Hb H M) {p : Addr} (h : H p = none) : Hb p = none ∧ M p = none := by
  constructor
  · cases e : Hb p with
    | none => rfl
    | some o =>
      rcases s.le p o e with z | ⟨_, _, _, z⟩ <;> rw [h] at z <;> cases z
  · cases e : M p with
    | none => rfl
    | some d =>
      obtain ⟨_, o, z, _⟩ := s.cell p d e
      rw [h] at z; cases z
/-- a new frozen object -/
theorem Sx.frozen (s : Sx Hb H M) {p : Addr} {o : HO} (h : H p = none) : Sx (upd Hb p o) (upd H p o) M ∧ Fr Hb H M (upd Hb p o) (upd H p o) M := by
  obtain ⟨n1, n2⟩ := s.none_of h
  have sm : Same Hb (upd Hb p o) := fun b u e => by rw [upd_ne (ne_of_none e n1)]; exact e
  refine ⟨⟨fun a u e => ?_, fun q d e => ?_⟩, ⟨sm, fun a u e _ => by rw [upd_ne (ne_of_none e h)]; exact e, fun a u e h1 h2 => ⟨by rw [upd_ne (ne_of_none e h)]; exact h1, h2⟩⟩⟩
  · by_cases ha : a = p
    · subst ha
      rw [upd_same] at e ⊢
      exact .inl e
    · rw [upd_ne ha] at e ⊢
      exact s.le a u e
  · have hq : q ≠ p := ne_cell e n2
    obtain ⟨e1, u, e2, e3⟩ := s.cell q d e
    exact ⟨by rw [upd_ne hq]; exact e1, u, by rw [upd_ne hq]; exact e2, e3.mono sm⟩
/-- a new object that is neither frozen nor a cell -/
theorem Sx.extra (s : Sx Hb H M) {p : Addr} {o : HO} (h : H p = none) : Sx Hb (upd H p o) M ∧ Fr Hb H M Hb (upd H p o) M := by
  obtain ⟨n1, n2⟩ := s.none_of h
  refine ⟨⟨fun a u e => ?_, fun q d e => ?_⟩, ⟨Same.refl _, fun a u e _ => by rw [upd_ne (ne_of_none e h)]; exact e, fun a u e h1 h2 => ⟨h1, h2⟩⟩⟩
  · rw [upd_ne (ne_of_none e n1)]
    exact s.le a u e
  · rw [upd_ne (ne_cell e n2)]
    exact s.cell q d e
/-- a new cell -/
theorem Sx.newCell (s : Sx Hb H M) {p : Addr} {o : HO} {d : D} (h : H p = none) (c : Con Hb d o) : Sx Hb (upd H p o) (updM M p d) ∧ Fr Hb H M Hb (upd H p o) (updM M p d) := by
  obtain ⟨n1, n2⟩ := s.none_of h
  refine ⟨⟨fun a u e => ?_, fun q d' e => ?_⟩, ⟨Same.refl _, fun a u e _ => by rw [upd_ne (ne_of_none e h)]; exact e, fun a u e h1 h2 => ⟨h1, by rw [updM_ne (ne_of_none e h)]; exact h2⟩⟩⟩
  · rw [upd_ne (ne_of_none e n1)]
    exact s.le a u e
  · by_cases hq : q = p
    · subst hq
      rw [updM_same] at e
      cases e
      exact ⟨n1, o, upd_same, c⟩
    · rw [updM_ne hq] at e
      rw [upd_ne hq]
      exact s.cell q d' e
/-- a cell is changed -/
theorem Sx.mut (s : Sx Hb H M) {p : Addr} {o : HO} {d d0 : D} (h : M p = some d0) (c : Con Hb d o) : Sx Hb (upd H p o) (updM M p d) ∧ Fr Hb H M Hb (upd H p o) (updM M p d) := by
  obtain ⟨n1, _⟩ := s.cell p d0 h
  refine ⟨⟨fun a u e => ?_, fun q d' e => ?_⟩, ⟨Same.refl _, fun a u e z => by rw [upd_ne (ne_cell h z).symm]; exact e, fun a u e h1 h2 => ⟨h1, by rw [updM_ne (ne_cell h h2).symm]; exact h2⟩⟩⟩
  · rw [upd_ne (ne_of_none e n1)]
    exact s.le a u e
  · by_cases hq : q = p
    · subst hq
      rw [updM_same] at e
      cases e
      exact ⟨n1, o, upd_same, c⟩
    · rw [updM_ne hq] at e
      rw [upd_ne hq]
      exact s.cell q d' e
/-- a cell is frozen -/
theorem Sx.freeze (s : Sx Hb H M) {p : Addr} {d : D} (h : M p = some d) : ∃ Hb', Sx Hb' H (delM M p) ∧ Fr Hb H M Hb' H (delM M p) ∧ Rep Hb' d (.ref p) := by
  obtain ⟨n1, o, e, c⟩ := s.cell p d h
  have sm : Same Hb (upd Hb p o) := fun b u e => by rw [upd_ne (ne_of_none e n1)]; exact e
  refine ⟨upd Hb p o, ⟨fun a u z => ?_, fun q d' z => ?_⟩, ⟨sm, fun _ _ e _ => e, fun a u e h1 h2 => ⟨by rw [upd_ne (ne_cell h h2).symm]; exact h1, by rw [delM_ne (ne_cell h h2).symm]; exact h2⟩⟩, (c.mono sm).rep upd_same⟩
  · by_cases ha : a = p
    · subst ha
      rw [upd_same] at z
      cases z
      exact .inl e
    · rw [upd_ne ha] at z
      exact s.le a u z
  · have hq : q ≠ p := fun z' => by subst z'; rw [delM_same] at z; cases z
    rw [delM_ne hq] at z
    obtain ⟨e1, u, e2, e3⟩ := s.cell q d' z
    exact ⟨by rw [upd_ne hq]; exact e1, u, e2, e3.mono sm⟩
/-- cells may be forgotten -/
def SubM (M' M : Mp) : Prop := ∀ p d, M' p = some d → M p = some d
theorem Sx.weak (s : Sx Hb H M) {M' : Mp} (h : SubM M' M) : Sx Hb H M' ∧ Fr Hb H M Hb H M' :=
  ⟨⟨s.le, fun p d e => s.cell p d (h p d e)⟩, ⟨Same.refl _, fun _ _ e _ => e, fun a u e h1 h2 => ⟨h1, by
    cases q : M' a with
    | none => rfl
    | some d =>
      rw [h a d q] at h2
      cases h2⟩⟩⟩
theorem SubM.refl (M : Mp) : SubM M M := fun _ _ e => e
theorem SubM.upd {M M' : Mp} {p : Addr} {d : D} (h : SubM M M') (hp : M p = none) : SubM M (updM M' p d) := fun q d' e => by
  rw [updM_ne (ne_cell e hp)]
  exact h q d' e
theorem SubM.del {M M' : Mp} {p : Addr} (h : SubM M M') (hp : M p = none) : SubM M (delM M' p) := fun q d' e => by
  rw [delM_ne (ne_cell e hp)]
  exact h q d' e
theorem SubM.free {M M' : Mp} {p : Addr} (h : SubM M M') (hp : M' p = none) : M p = none := by
  cases e : M p with
  | none => rfl
  | some d => rw [h p d e] at hp; cases hp
end
/-- what x holds -/
def look (M : Mp) : D → Option D
  | .cell p => M p
  | d => some d
section
variable {Hb H : Hp} {M : Mp} {v : V}
theorem look_lst (s : Sx Hb H M) {x : D} {ds : List D} (r : Rep Hb x v) (l : look M x = some (.lst ds)) : ∃ a vs, v = .ref a ∧ H a = some (.lst vs) ∧ RepL Hb ds vs := by
  cases x with
  | cell p =>
    obtain ⟨_, o, e, vs, rfl, c⟩ := s.cell p _ (show M p = _ from l)
    exact ⟨p, vs, r, e, c⟩
  | lst ds' =>
    cases (show (some (D.lst ds') : Option D) = some (D.lst ds) from l)
    obtain ⟨a, vs, h1, h2, h3⟩ := r
    rcases s.le a _ h2 with z | ⟨_, _, z, _⟩
    · exact ⟨a, vs, h1, z, h3⟩
    · cases z
  | _ => cases l
theorem look_tup (s : Sx Hb H M) {x : D} {ds : List D} (r : Rep Hb x v) (l : look M x = some (.tup ds)) : ∃ a vs, v = .ref a ∧ H a = some (.tup vs) ∧ RepL Hb ds vs := by
  cases x with
  | cell p =>
    obtain ⟨_, o, e, vs, rfl, c⟩ := s.cell p _ (show M p = _ from l)
    exact ⟨p, vs, r, e, c⟩
  | tup ds' =>
    cases (show (some (D.tup ds') : Option D) = some (D.tup ds) from l)
    obtain ⟨a, vs, h1, h2, h3⟩ := r
    rcases s.le a _ h2 with z | ⟨_, _, z, _⟩
    · exact ⟨a, vs, h1, z, h3⟩
    · cases z
  | _ => cases l
theorem look_dic (s : Sx Hb H M) {x : D} {ks : List Key} {ds : List D} (r : Rep Hb x v) (l : look M x = some (.dic ks ds)) :
    ∃ a vs, v = .ref a ∧ (H a = some (.dK (ks.zip vs)) ∨ ∃ od, H a = some (.frz od (.dK (ks.zip vs)))) ∧ ks.length = ds.length ∧ RepL Hb ds vs := by
  cases x with
  | cell p =>
    obtain ⟨_, o, e, vs, rfl, c1, c⟩ := s.cell p _ (show M p = _ from l)
    exact ⟨p, vs, r, .inl e, c1, c⟩
  | dic ks' ds' =>
    cases (show (some (D.dic ks' ds') : Option D) = some (D.dic ks ds) from l)
    obtain ⟨a, vs, h1, h2, h4, h3⟩ := r
    rcases s.le a _ h2 with z | ⟨_, od, z, z'⟩
    · exact ⟨a, vs, h1, .inl z, h4, h3⟩
    · exact ⟨a, vs, h1, .inr ⟨od, z'⟩, h4, h3⟩
  | _ => cases l
theorem look_ins (s : Sx Hb H M) {x : D} {C : Addr} {fs : List Str} {ds : List D} (r : Rep Hb x v) (l : look M x = some (.ins C fs ds)) :
    ∃ a dx vs, v = .ref a ∧ H a = some (.ins C dx (fs.zip vs)) ∧ fs.length = ds.length ∧ RepL Hb ds vs := by
  cases x with
  | cell p =>
    obtain ⟨_, o, e, dx, vs, rfl, c1, c⟩ := s.cell p _ (show M p = _ from l)
    exact ⟨p, dx, vs, r, e, c1, c⟩
  | ins C' fs' ds' =>
    cases (show (some (D.ins C' fs' ds') : Option D) = some (D.ins C fs ds) from l)
    obtain ⟨a, dx, vs, h1, h2, h4, h3⟩ := r
    rcases s.le a _ h2 with z | ⟨_, _, z, _⟩
    · exact ⟨a, dx, vs, h1, z, h4, h3⟩
    · cases z
  | _ => cases l
end
/-! ### readings over data -/
abbrev Env := List (Option D)
abbrev DK := D → Mp → Prop
abbrev DE := Env → Mp → DK → Prop
abbrev DT := Env → Mp → (Bool → Mp → Prop) → Prop
abbrev DA := Env → Mp → (List D → Mp → Prop) → Prop
structure DEnds where
  nx : Env → Mp → Prop
  rt : D → Mp → Prop
  bk : Env → Mp → Prop
  ct : Env → Mp → Prop
abbrev DS := DEnds → Env → Mp → Prop
abbrev DG := D → Env → Mp → (Env → Mp → Prop) → Prop
abbrev DGs := List D → Env → Mp → (Env → Mp → Prop) → Prop
/-- what a for walks: its items -/
abbrev DI := Env → Mp → (List D → Mp → Prop) → Prop
structure EnvR (Hb : Hp) (σ : L2.St) (ρ : Env) : Prop where
  len : σ.length = ρ.length
  get : ∀ (i : Nat) (d : D), ρ[i]? = some (some d) → ∃ v, σ[i]? = some (some v) ∧ Rep Hb d v
theorem EnvR.mono {Hb Hb' : Hp} {σ : L2.St} {ρ : Env} (e : Same Hb Hb') (h : EnvR Hb σ ρ) : EnvR Hb' σ ρ :=
  ⟨h.len, fun i d z => let ⟨v, a, b⟩ := h.get i d z; ⟨v, a, b.mono e⟩⟩
theorem EnvR.set {Hb : Hp} {σ : L2.St} {ρ : Env} {d : D} {v : V} (i : Nat) (h : EnvR Hb σ ρ) (r : Rep Hb d v) : EnvR Hb (σ.set i (some v)) (ρ.set i (some d)) := by
  refine ⟨by rw [List.length_set, List.length_set]; exact h.len, fun j d' z => ?_⟩
  by_cases hj : j = i
  · subst hj
    obtain ⟨hl, _⟩ := List.getElem?_eq_some_iff.mp z
    rw [List.length_set] at hl
    rw [List.getElem?_set_self hl] at z
    cases z
    exact ⟨v, List.getElem?_set_self (by rw [h.len]; exact hl), r⟩
  · rw [List.getElem?_set_ne (Ne.symm hj)] at z
    obtain ⟨w, a, b⟩ := h.get j d' z
    exact ⟨w, by rw [List.getElem?_set_ne (Ne.symm hj)]; exact a, b⟩
theorem EnvR.unset {Hb : Hp} {σ : L2.St} {ρ : Env} (i : Nat) (h : EnvR Hb σ ρ) : EnvR Hb (σ.set i none) (ρ.set i none) := by
  refine ⟨by rw [List.length_set, List.length_set]; exact h.len, fun j d' z => ?_⟩
  by_cases hj : j = i
  · subst hj
    obtain ⟨hl, _⟩ := List.getElem?_eq_some_iff.mp z
    rw [List.length_set] at hl
    rw [List.getElem?_set_self hl] at z
    cases z
  · rw [List.getElem?_set_ne (Ne.symm hj)] at z
    obtain ⟨w, a, b⟩ := h.get j d' z
    exact ⟨w, by rw [List.getElem?_set_ne (Ne.symm hj)]; exact a, b⟩
def wipeD (ρ : Env) : List Nat → Env
  | [] => ρ
  | v :: vs => (wipeD ρ vs).set v none
theorem EnvR.wipe {Hb : Hp} {σ : L2.St} {ρ : Env} (h : EnvR Hb σ ρ) : ∀ vs : List Nat, EnvR Hb (L2.wipe σ vs) (wipeD ρ vs)
  | [] => h
  | v :: vs => by
    unfold L2.wipe wipeD
    exact EnvR.unset v (EnvR.wipe h vs)
/-- behind a step -/
def OK (Hb H : Hp) (M : Mp) (QD : DK) (Q : VK) : Prop := ∀ d M' Hb' H' v, QD d M' → Fr Hb H M Hb' H' M' → Sx Hb' H' M' → Rep Hb' d v → Q v H'
def SndE (t : TE) (td : DE) : Prop := ∀ ρ M QD, td ρ M QD → ∀ Hb σ H Q, Sx Hb H M → EnvR Hb σ ρ → OK Hb H M QD Q → t σ H Q
def OKT (Hb H : Hp) (M : Mp) (QD : Bool → Mp → Prop) (Q : Bool → Hp → Prop) : Prop := ∀ b M' Hb' H', QD b M' → Fr Hb H M Hb' H' M' → Sx Hb' H' M' → Q b H'
def SndT (t : TT) (td : DT) : Prop := ∀ ρ M QD, td ρ M QD → ∀ Hb σ H Q, Sx Hb H M → EnvR Hb σ ρ → OKT Hb H M QD Q → t σ H Q
def OKA (Hb H : Hp) (M : Mp) (QD : List D → Mp → Prop) (Q : List V → Hp → Prop) : Prop := ∀ ds M' Hb' H' vs, QD ds M' → Fr Hb H M Hb' H' M' → Sx Hb' H' M' → RepL Hb' ds vs → Q vs H'
def SndA (t : TA) (td : DA) : Prop := ∀ ρ M QD, td ρ M QD → ∀ Hb σ H Q, Sx Hb H M → EnvR Hb σ ρ → OKA Hb H M QD Q → t σ H Q
/-- an end -/
def OKS (Hb H : Hp) (M : Mp) (QD : Env → Mp → Prop) (Q : L2.St → Hp → Prop) : Prop := ∀ ρ' M' Hb' σ' H', QD ρ' M' → Fr Hb H M Hb' H' M' → Sx Hb' H' M' → EnvR Hb' σ' ρ' → Q σ' H'
structure OKE (Hb H : Hp) (M : Mp) (P : DEnds) (E : Ends) : Prop where
  nx : OKS Hb H M P.nx E.nx
  rt : OK Hb H M P.rt E.rt
  bk : OKS Hb H M P.bk E.bk
  ct : OKS Hb H M P.ct E.ct
def SndS (t : TS) (td : DS) : Prop := ∀ P ρ M, td P ρ M → ∀ Hb σ H E, Sx Hb H M → EnvR Hb σ ρ → OKE Hb H M P E → t E σ H
def SndG (t : TG) (td : DG) : Prop := ∀ x ρ M QD, td x ρ M QD → ∀ Hb σ H v Q, Sx Hb H M → EnvR Hb σ ρ → Rep Hb x v → OKS Hb H M QD Q → t v σ H Q
def SndGs (t : TGs) (td : DGs) : Prop := ∀ xs ρ M QD, td xs ρ M QD → ∀ Hb σ H vs Q, Sx Hb H M → EnvR Hb σ ρ → RepL Hb xs vs → OKS Hb H M QD Q → t vs σ H Q
/-- an iterator gives these items -/
def ItD (J : It) (Hb H : Hp) (M : Mp) (ds : List D) : Prop := ∀ Hb2 H2 M2, Fr Hb H M Hb2 H2 M2 → Sx Hb2 H2 M2 → ∀ i : Nat,
  (ds.length ≤ i → J.stop i H2) ∧ ∀ d, ds[i]? = some d → J.go i H2 ∧ ∀ x H3, J.yld i H2 x H3 → ∃ Hb3, Fr Hb2 H2 M2 Hb3 H3 M2 ∧ Sx Hb3 H3 M2 ∧ Rep Hb3 d x
def SndI (wi : TI) (di : DI) : Prop := ∀ ρ M QD, di ρ M QD → ∀ Hb σ H R, Sx Hb H M → EnvR Hb σ ρ →
  (∀ ds M' Hb' H' J, QD ds M' → Fr Hb H M Hb' H' M' → Sx Hb' H' M' → ItD J Hb' H' M' ds → R J H') → wi σ H R
section
variable {Hb H Hb1 H1 : Hp} {M M1 : Mp}
theorem OK.fr {QD : DK} {Q : VK} (k : OK Hb H M QD Q) (s : Sx Hb1 H1 M1) (f : Fr Hb H M Hb1 H1 M1) : OK Hb1 H1 M1 QD Q := fun d M' Hb' H' v q g s' r => k d M' Hb' H' v q (f.trans s g) s' r
theorem OKT.fr {QD : Bool → Mp → Prop} {Q : Bool → Hp → Prop} (k : OKT Hb H M QD Q) (s : Sx Hb1 H1 M1) (f : Fr Hb H M Hb1 H1 M1) : OKT Hb1 H1 M1 QD Q := fun b M' Hb' H' q g s' => k b M' Hb' H' q (f.trans s g) s'
theorem OKA.fr {QD : List D → Mp → Prop} {Q : List V → Hp → Prop} (k : OKA Hb H M QD Q) (s : Sx Hb1 H1 M1) (f : Fr Hb H M Hb1 H1 M1) : OKA Hb1 H1 M1 QD Q := fun d M' Hb' H' v q g s' r => k d M' Hb' H' v q (f.trans s g) s' r
theorem OKS.fr {QD : Env → Mp → Prop} {Q : L2.St → Hp → Prop} (k : OKS Hb H M QD Q) (s : Sx Hb1 H1 M1) (f : Fr Hb H M Hb1 H1 M1) : OKS Hb1 H1 M1 QD Q := fun ρ' M' Hb' σ' H' q g s' r => k ρ' M' Hb' σ' H' q (f.trans s g) s' r
theorem OKE.fr {P : DEnds} {E : Ends} (k : OKE Hb H M P E) (s : Sx Hb1 H1 M1) (f : Fr Hb H M Hb1 H1 M1) : OKE Hb1 H1 M1 P E := ⟨k.nx.fr s f, k.rt.fr s f, k.bk.fr s f, k.ct.fr s f⟩
end
/-! ### the judgements -/
section
variable (X : Cx)
structure PED (e : Expr) (td : DE) : Prop where
  ex : ∃ t, PE X e t ∧ SndE t td
structure PTD (e : Expr) (td : DT) : Prop where
  ex : ∃ t, PT X e t ∧ SndT t td
structure PWD (e : Expr) (td : DT) : Prop where
  ex : ∃ t, PW X e t ∧ SndT t td
structure PAD (es : List Expr) (td : DA) : Prop where
  ex : ∃ t, PA X es t ∧ SndA t td
structure PSD (st : Stmt) (td : DS) : Prop where
  ex : ∃ t, PS X st t ∧ SndS t td
structure PSsD (sts : List Stmt) (td : DS) : Prop where
  ex : ∃ t, PSs X sts t ∧ SndS t td
structure PGD (e : Expr) (td : DG) : Prop where
  ex : ∃ t, PG X e t ∧ SndG t td
structure PGsD (es : List Expr) (td : DGs) : Prop where
  ex : ∃ t, PGs X es t ∧ SndGs t td
structure PID (tg it : Expr) (td : DI) : Prop where
  ex : ∃ t, PI X tg it t ∧ SndI t td
end
end DL

/-! part DExpr -/
set_option maxHeartbeats 0
namespace DL
open PySem PySem.Spec PyProof.Rows L2
/-! ### values of scalars -/
section
variable {X : Cx} {e a b c : Expr} {es : List Expr} {pos : Pos} {ta tb tc : DE} {da : DA} {tA tB' : DT}
def dVar (i : Nat) : DE := fun ρ M Q => match ρ[i]? with
  | some (some d) => Q d M
  | _ => False
theorem snd_var (i : Nat) : SndE (tVar i) (dVar i) := fun ρ M QD h Hb σ H Q s r k => by
  unfold dVar at h
  cases e1 : ρ[i]? with
  | none => rw [e1] at h; exact h.elim
  | some o =>
    cases o with
    | none => rw [e1] at h; exact h.elim
    | some d =>
      rw [e1] at h
      obtain ⟨v, h1, h2⟩ := r.get i d e1
      exact ⟨v, h1, k d M Hb H v h (Fr.refl _ _ _) s h2⟩
theorem dv (i : Nat) {x : Str} (hN : X.N[i]? = some x := by rfl) (hv : Vis X.env.scope x := by first | exact Or.inl rfl | exact Or.inr (Or.inl rfl) | exact Or.inr (Or.inr rfl)) (hd : (x == ("__debug__" : Str)) = false := by decide)
    (hcd : (x == ("__classdict__" : Str)) = false := by decide) : PED X (.Name x pos) (dVar i) := ⟨⟨_, pe_var hN hv hd hcd, snd_var i⟩⟩
def dC (d : D) : DE := fun _ M Q => Q d M
theorem snd_c {d : D} {v : V} (h : ∀ H, Rep H d v) : SndE (tC v) (dC d) := fun ρ M QD q Hb σ H Q s r k => k d M Hb H v q (Fr.refl _ _ _) s (h _)
theorem de_int {i : Int} {j : Nat} : PED X (.Constant (.int i) j pos) (dC (.int i)) := ⟨⟨_, pe_int, snd_c fun _ => rfl⟩⟩
theorem de_bl {b : Bool} {j : Nat} : PED X (.Constant (.bool b) j pos) (dC (.bl b)) := ⟨⟨_, pe_bl, snd_c fun _ => rfl⟩⟩
theorem de_non {j : Nat} : PED X (.Constant .none j pos) (dC .non) := ⟨⟨_, pe_non, snd_c fun _ => rfl⟩⟩
theorem de_str {x : Str} {j : Nat} : PED X (.Constant (.str x) j pos) (dC (.str x)) := ⟨⟨_, pe_str, snd_c fun _ => rfl⟩⟩
theorem de_globI {x : Str} {i : Int} {t : Tok} (hg : Gl X x) (hm : X.mg x = some (.int i t)) (hd : (x == ("__debug__" : Str)) = false := by decide) : PED X (.Name x pos) (dC (.int i)) :=
  ⟨⟨_, pe_glob (v := .int i) hg hm ⟨_, rfl⟩ hd, snd_c fun _ => rfl⟩⟩
theorem de_globS {x : Str} {y : Str} {t : Tok} (hg : Gl X x) (hm : X.mg x = some (.str y t)) (hd : (x == ("__debug__" : Str)) = false := by decide) : PED X (.Name x pos) (dC (.str y)) :=
  ⟨⟨_, pe_glob (v := .str y) hg hm ⟨_, rfl⟩ hd, snd_c fun _ => rfl⟩⟩
/-! ### operators -/
abbrev DR := D → D → Mp → DK → Prop
def SndR (r : R2) (rd : DR) : Prop := ∀ x y M QD, rd x y M QD → ∀ Hb H vx vy Q, Sx Hb H M → Rep Hb x vx → Rep Hb y vy → OK Hb H M QD Q → r vx vy H Q
structure OpD (X : Cx) (f : Value → Value → Sem Value) (rd : DR) : Prop where
  ex : ∃ r, OpR X f r ∧ SndR r rd
def dOp (rd : DR) (ta tb : DE) : DE := fun ρ M Q => ta ρ M fun x M1 => tb ρ M1 fun y M2 => rd x y M2 Q
theorem snd_op {r : R2} {rd : DR} {ua ub : TE} (hr : SndR r rd) (ha : SndE ua ta) (hb : SndE ub tb) : SndE (tOp r ua ub) (dOp rd ta tb) := fun ρ M QD h Hb σ H Q s rr k =>
  ha ρ M _ h Hb σ H _ s rr fun x M1 Hb1 H1 v h1 f1 s1 r1 => hb ρ M1 _ h1 Hb1 σ H1 _ s1 (rr.mono f1.same) fun y M2 Hb2 H2 w h2 f2 s2 r2 =>
    hr x y M2 QD h2 Hb2 H2 v w Q s2 (r1.mono f2.same) r2 (k.fr s2 (f1.trans s1 f2))
theorem de_op {op : Operator} {rd : DR} (ho : OpD X (binaryOp op) rd) (ha : PED X a ta) (hb : PED X b tb) : PED X (.BinOp a op b pos) (dOp rd ta tb) := by
  obtain ⟨⟨r, h1, h2⟩⟩ := ho
  obtain ⟨⟨ua, h3, h4⟩⟩ := ha
  obtain ⟨⟨ub, h5, h6⟩⟩ := hb
  exact ⟨⟨_, pe_op h1 h3 h5, snd_op h2 h4 h6⟩⟩
theorem de_cmp {op : CmpOp} {rd : DR} (ho : OpD X (compareOp op) rd) (ha : PED X a ta) (hb : PED X b tb) (hm : behindInMarks op b = false := by first | exact nomark _ | rfl) : PED X (.Compare a [op] [b] pos) (dOp rd ta tb) := by
  obtain ⟨⟨r, h1, h2⟩⟩ := ho
  obtain ⟨⟨ua, h3, h4⟩⟩ := ha
  obtain ⟨⟨ub, h5, h6⟩⟩ := hb
  exact ⟨⟨_, pe_cmpR h1 h3 h5 hm, snd_op h2 h4 h6⟩⟩
def dI0 (g : Int → Int → D) : DR := fun x y M Q => match x, y with
  | .int i, .int j => Q (g i j) M
  | _, _ => False
def dIC (C : Int → Int → Prop) (g : Int → Int → D) : DR := fun x y M Q => match x, y with
  | .int i, .int j => C i j ∧ Q (g i j) M
  | _, _ => False
theorem snd_I0 {g : Int → Int → V} {g' : Int → Int → D} (hg : ∀ H i j, Rep H (g' i j) (g i j)) : SndR (rI0 g) (dI0 g') := fun x y M QD h Hb H vx vy Q s rx ry k => by
  unfold dI0 at h
  split at h
  · rename_i i j
    cases (show vx = V.int i from rx)
    cases (show vy = V.int j from ry)
    exact ⟨i, j, rfl, rfl, k _ M Hb H _ h (Fr.refl _ _ _) s (hg _ _ _)⟩
  · exact h.elim
theorem snd_IC {C : Int → Int → Prop} {g : Int → Int → V} {g' : Int → Int → D} (hg : ∀ H i j, Rep H (g' i j) (g i j)) : SndR (rI C g) (dIC C g') := fun x y M QD h Hb H vx vy Q s rx ry k => by
  unfold dIC at h
  split at h
  · rename_i i j
    cases (show vx = V.int i from rx)
    cases (show vy = V.int j from ry)
    exact ⟨i, j, rfl, rfl, h.1, k _ M Hb H _ h.2 (Fr.refl _ _ _) s (hg _ _ _)⟩
  · exact h.elim
theorem o_add : OpD X (binaryOp .Add) (dI0 fun i j => .int (i + j)) := ⟨⟨_, op_add, snd_I0 fun _ _ _ => rfl⟩⟩
theorem o_sub : OpD X (binaryOp .Sub) (dI0 fun i j => .int (i - j)) := ⟨⟨_, op_sub, snd_I0 fun _ _ _ => rfl⟩⟩
theorem o_mul : OpD X (binaryOp .Mult) (dIC CMul fun i j => .int (i * j)) := ⟨⟨_, op_mul, snd_IC fun _ _ _ => rfl⟩⟩
theorem o_fdiv : OpD X (binaryOp .FloorDiv) (dIC CDiv fun i j => .int (i / j)) := ⟨⟨_, op_fdiv, snd_IC fun _ _ _ => rfl⟩⟩
theorem o_mod : OpD X (binaryOp .Mod) (dIC (fun _ j => 0 < j) fun i j => .int (i % j)) := ⟨⟨_, op_mod, snd_IC fun _ _ _ => rfl⟩⟩
theorem o_pow : OpD X (binaryOp .Pow) (dIC CPow fun i j => .int (i ^ j.toNat)) := ⟨⟨_, op_pow, snd_IC fun _ _ _ => rfl⟩⟩
theorem o_shl : OpD X (binaryOp .LShift) (dIC CPow fun i j => .int (i * 2 ^ j.toNat)) := ⟨⟨_, op_shl, snd_IC fun _ _ _ => rfl⟩⟩
theorem o_shr : OpD X (binaryOp .RShift) (dIC (fun _ j => 0 ≤ j) fun i j => .int (i / 2 ^ j.toNat)) := ⟨⟨_, op_shr, snd_IC fun _ _ _ => rfl⟩⟩
theorem o_band : OpD X (binaryOp .BitAnd) (dI0 fun i j => .int (Builtin.bitAnd i j)) := ⟨⟨_, op_and, snd_I0 fun _ _ _ => rfl⟩⟩
theorem o_bor : OpD X (binaryOp .BitOr) (dI0 fun i j => .int (Builtin.bitOr i j)) := ⟨⟨_, op_or, snd_I0 fun _ _ _ => rfl⟩⟩
theorem o_lt : OpD X (compareOp .Lt) (dI0 fun i j => .bl (decide (i < j))) := ⟨⟨_, op_lt, snd_I0 fun _ _ _ => rfl⟩⟩
theorem o_le : OpD X (compareOp .LtE) (dI0 fun i j => .bl (decide (i ≤ j))) := ⟨⟨_, op_le, snd_I0 fun _ _ _ => rfl⟩⟩
theorem o_gt : OpD X (compareOp .Gt) (dI0 fun i j => .bl (decide (j < i))) := ⟨⟨_, op_gt, snd_I0 fun _ _ _ => rfl⟩⟩
theorem o_ge : OpD X (compareOp .GtE) (dI0 fun i j => .bl (decide (j ≤ i))) := ⟨⟨_, op_ge, snd_I0 fun _ _ _ => rfl⟩⟩
/-- text + text -/
def dCatS : DR := fun x y M Q => match x, y with
  | .str i, .str j => i.length + j.length ≤ sizeLine ∧ Q (.str (i ++ j)) M
  | _, _ => False
theorem o_cats : OpD X (binaryOp .Add) dCatS := ⟨⟨_, op_add_str, fun x y M QD h Hb H vx vy Q s rx ry k => by
  unfold dCatS at h
  split at h
  · rename_i i j
    cases (show vx = V.str i from rx)
    cases (show vy = V.str j from ry)
    exact ⟨i, j, rfl, rfl, h.1, k _ M Hb H _ h.2 (Fr.refl _ _ _) s rfl⟩
  · exact h.elim⟩⟩
/-- list + list: a new frozen list -/
def dCatL : DR := fun x y M Q => match look M x, look M y with
  | some (.lst xs), some (.lst ys) => xs.length + ys.length ≤ sizeLine ∧ Q (.lst (xs ++ ys)) M
  | _, _ => False
theorem o_catl : OpD X (binaryOp .Add) dCatL := ⟨⟨_, op_cat, fun x y M QD h Hb H vx vy Q s rx ry k => by
  unfold dCatL at h
  split at h
  · rename_i xs ys e1 e2
    obtain ⟨a, vs, rfl, ha, r1⟩ := look_lst s rx e1
    obtain ⟨b, ws, rfl, hb, r2⟩ := look_lst s ry e2
    refine ⟨a, b, vs, ws, rfl, rfl, ha, hb, by rw [← r1.length, ← r2.length]; exact h.1, fun p hp => ?_⟩
    obtain ⟨s1, f1⟩ := s.frozen (o := .lst (vs ++ ws)) hp
    exact k _ M _ _ _ h.2 f1 s1 ⟨p, _, rfl, upd_same, (r1.append r2).mono f1.same⟩
  · exact h.elim⟩⟩
/-- list * int: a new cell -/
def dRepC : DR := fun x y M Q => match look M x, y with
  | some (.lst xs), .int k => -(2 ^ 63) ≤ k ∧ k < 2 ^ 63 ∧ xs.length * k.toNat ≤ sizeLine ∧ ∀ p, M p = none → Q (.cell p) (updM M p (.lst (List.replicate k.toNat xs).flatten))
  | _, _ => False
theorem RepL.flat {H : Hp} {ds : List D} {vs : List V} (h : RepL H ds vs) : ∀ n : Nat, RepL H (List.replicate n ds).flatten (List.replicate n vs).flatten
  | 0 => rfl
  | n + 1 => by
    rw [List.replicate_succ, List.replicate_succ, List.flatten_cons, List.flatten_cons]
    exact h.append (RepL.flat h n)
/-- scalars by == -/
def scD : D → D → Option Bool
  | .int i, .int j => some (decide (i = j))
  | .str i, .str j => some (decide (i = j))
  | .bl i, .bl j => some (decide (i = j))
  | .non, .non => some true
  | .non, .int _ => some false
  | .int _, .non => some false
  | .non, .bl _ => some false
  | .bl _, .non => some false
  | .non, .str _ => some false
  | .str _, .non => some false
  | .int _, .str _ => some false
  | .str _, .int _ => some false
  | .bl _, .str _ => some false
  | .str _, .bl _ => some false
  | _, _ => none
theorem scD_sc {x y : D} {k : Bool} (h : scD x y = some k) {H : Hp} {v w : V} (rx : Rep H x v) (ry : Rep H y w) : scal v w = true ∧ decide (v = w) = k := by
  cases x <;> cases y <;> simp only [scD, reduceCtorEq, Option.some.injEq] at h <;> subst h <;> cases rx <;> cases ry <;> simp [scal]
def dEq : DR := fun x y M Q => match scD x y with
  | some k => Q (.bl k) M
  | none => False
def dNe : DR := fun x y M Q => match scD x y with
  | some k => Q (.bl (!k)) M
  | none => False
theorem o_eq : OpD X (compareOp .Eq) dEq := ⟨⟨_, op_eq, fun x y M QD h Hb H vx vy Q s rx ry k => by
  unfold dEq at h
  split at h
  · rename_i c e
    obtain ⟨h1, h2⟩ := scD_sc e rx ry
    exact ⟨h1, by rw [h2]; exact k _ M Hb H _ h (Fr.refl _ _ _) s rfl⟩
  · exact h.elim⟩⟩
theorem o_ne : OpD X (compareOp .NotEq) dNe := ⟨⟨_, op_ne, fun x y M QD h Hb H vx vy Q s rx ry k => by
  unfold dNe at h
  split at h
  · rename_i c e
    obtain ⟨h1, h2⟩ := scD_sc e rx ry
    exact ⟨h1, by rw [h2]; exact k _ M Hb H _ h (Fr.refl _ _ _) s rfl⟩
  · exact h.elim⟩⟩
/-- is None -/
def isN : D → Bool
  | .non => true
  | _ => false
theorem isN_v {x : D} {H : Hp} {v : V} (r : Rep H x v) : decide (v = .non) = isN x := by
  cases x
  case non => cases r; rfl
  case bl => cases r; rfl
  case int => cases r; rfl
  case str => cases r; rfl
  case ty => cases r; rfl
  case cell => cases r; rfl
  case exc => obtain ⟨rfl, _⟩ := r; rfl
  case lst => obtain ⟨a, vs, rfl, _⟩ := r; rfl
  case tup => obtain ⟨a, vs, rfl, _⟩ := r; rfl
  case dic => obtain ⟨a, vs, rfl, _⟩ := r; rfl
  case ins => obtain ⟨a, dx, vs, rfl, _⟩ := r; rfl
def dIsN : DR := fun x y M Q => match y with
  | .non => Q (.bl (isN x)) M
  | _ => False
def dNotN : DR := fun x y M Q => match y with
  | .non => Q (.bl (!isN x)) M
  | _ => False
theorem o_is : OpD X (compareOp .Is) dIsN := ⟨⟨_, op_isN, fun x y M QD h Hb H vx vy Q s rx ry k => by
  unfold dIsN at h
  split at h
  · cases (show vy = V.non from ry)
    exact ⟨rfl, by rw [isN_v rx]; exact k _ M Hb H _ h (Fr.refl _ _ _) s rfl⟩
  · exact h.elim⟩⟩
theorem o_isnot : OpD X (compareOp .IsNot) dNotN := ⟨⟨_, op_notN, fun x y M QD h Hb H vx vy Q s rx ry k => by
  unfold dNotN at h
  split at h
  · cases (show vy = V.non from ry)
    exact ⟨rfl, by rw [isN_v rx]; exact k _ M Hb H _ h (Fr.refl _ _ _) s rfl⟩
  · exact h.elim⟩⟩
/-- list * int as a value: a cell -/
theorem o_rep : OpD X (binaryOp .Mult) dRepC := ⟨⟨_, op_rep, fun x y M QD h Hb H vx vy Q s rx ry k => by
  unfold dRepC at h
  split at h
  · rename_i xs j e1
    obtain ⟨a, vs, rfl, ha, r1⟩ := look_lst s rx e1
    cases (show vy = V.int j from ry)
    obtain ⟨h1, h2, h3, h4⟩ := h
    refine ⟨a, j, vs, rfl, rfl, ha, h1, h2, by rw [← r1.length]; exact h3, fun p hp => ?_⟩
    obtain ⟨s1, f1⟩ := s.newCell (o := .lst (List.replicate j.toNat vs).flatten) (d := .lst (List.replicate j.toNat xs).flatten) hp ⟨_, rfl, r1.flat _⟩
    exact k _ _ _ _ _ (h4 p (s.none_of hp).2) f1 s1 rfl
  · exact h.elim⟩⟩
/-! ### one place -/
abbrev DU := D → Mp → DK → Prop
def dUn (rd : DU) (ta : DE) : DE := fun ρ M Q => ta ρ M fun x M1 => rd x M1 Q
def dI1 (g : Int → D) : DU := fun x M Q => match x with
  | .int i => Q (g i) M
  | _ => False
theorem snd_un1 {g : Int → V} {g' : Int → D} {ua : TE} (hg : ∀ H i, Rep H (g' i) (g i)) (ha : SndE ua ta) : SndE (tUn (rU g) ua) (dUn (dI1 g') ta) := fun ρ M QD h Hb σ H Q s rr k =>
  ha ρ M _ h Hb σ H _ s rr fun x M1 Hb1 H1 v h1 f1 s1 r1 => by
    dsimp only [dI1] at h1
    split at h1
    · rename_i i
      cases (show v = V.int i from r1)
      exact ⟨i, rfl, k _ M1 Hb1 H1 _ h1 f1 s1 (hg _ _)⟩
    · exact h1.elim
theorem de_neg (ha : PED X a ta) : PED X (.UnaryOp .USub a pos) (dUn (dI1 fun i => .int (-i)) ta) := by
  obtain ⟨⟨ua, h3, h4⟩⟩ := ha
  exact ⟨⟨_, pe_un un_neg h3, snd_un1 (fun _ _ => rfl) h4⟩⟩
theorem de_inv (ha : PED X a ta) : PED X (.UnaryOp .Invert a pos) (dUn (dI1 fun i => .int (Builtin.bitNot i)) ta) := by
  obtain ⟨⟨ua, h3, h4⟩⟩ := ha
  exact ⟨⟨_, pe_un un_inv h3, snd_un1 (fun _ _ => rfl) h4⟩⟩
/-- a choice by a truth value -/
def dIte (b : Bool) (A B : Prop) : Prop := (b = true → A) ∧ (b = false → B)
theorem dIte.ite {b : Bool} {A B : Prop} (h : dIte b A B) : if b = true then A else B := by
  cases b with
  | true => exact h.1 rfl
  | false => exact h.2 rfl
theorem dT {b : Bool} {A B : Prop} (e : b = true) (h : A) : dIte b A B := ⟨fun _ => h, fun z => by rw [e] at z; cases z⟩
theorem dF {b : Bool} {A B : Prop} (e : b = false) (h : B) : dIte b A B := ⟨fun z => (by rw [e] at z; cases z), fun _ => h⟩
theorem d2 {c : Prop} [Decidable c] {A B : Prop} (h1 : c → A) (h2 : ¬ c → B) : dIte (decide c) A B := ⟨fun z => h1 (of_decide_eq_true z), fun z => h2 (of_decide_eq_false z)⟩
theorem dN2 {c : Prop} [Decidable c] {A B : Prop} (h1 : ¬ c → A) (h2 : c → B) : dIte (!decide c) A B := ⟨fun z => h1 (of_decide_eq_false (by simpa using z)), fun z => h2 (of_decide_eq_true (by simpa using z))⟩
def dNotV (ta : DE) : DE := fun ρ M Q => ta ρ M fun x M1 => match x with
  | .bl c => Q (.bl (!c)) M1
  | _ => False
theorem de_not (ha : PED X a ta) : PED X (.UnaryOp .Not a pos) (dNotV ta) := by
  obtain ⟨⟨ua, h3, h4⟩⟩ := ha
  refine ⟨⟨_, pe_not h3, fun ρ M QD h Hb σ H Q s rr k => h4 ρ M _ h Hb σ H _ s rr fun x M1 Hb1 H1 v h1 f1 s1 r1 => ?_⟩⟩
  dsimp only at h1
  split at h1
  · rename_i c
    cases (show v = V.bl c from r1)
    exact ⟨c, rfl, k _ M1 Hb1 H1 _ h1 f1 s1 rfl⟩
  · exact h1.elim
def dAndV (ta tb : DE) : DE := fun ρ M Q => ta ρ M fun x M1 => match x with
  | .bl c => dIte c (tb ρ M1 Q) (Q (.bl false) M1)
  | _ => False
def dOrV (ta tb : DE) : DE := fun ρ M Q => ta ρ M fun x M1 => match x with
  | .bl c => dIte c (Q (.bl true) M1) (tb ρ M1 Q)
  | _ => False
theorem de_one {op} (h : PED X a ta) : PED X (.BoolOp op [a] pos) ta := by
  obtain ⟨⟨ua, h3, h4⟩⟩ := h
  exact ⟨⟨_, pe_one h3, h4⟩⟩
theorem de_and {rest : List Expr} (ha : PED X a ta) (hb : PED X (.BoolOp .And (b :: rest) pos) tb) : PED X (.BoolOp .And (a :: b :: rest) pos) (dAndV ta tb) := by
  obtain ⟨⟨ua, h3, h4⟩⟩ := ha
  obtain ⟨⟨ub, h5, h6⟩⟩ := hb
  refine ⟨⟨_, pe_and h3 h5, fun ρ M QD h Hb σ H Q s rr k => h4 ρ M _ h Hb σ H _ s rr fun x M1 Hb1 H1 v h1 f1 s1 r1 => ?_⟩⟩
  dsimp only at h1
  split at h1
  · rename_i c
    cases (show v = V.bl c from r1)
    refine ⟨c, rfl, ?_⟩
    cases c with
    | true => exact ite_tt (h6 ρ M1 _ (h1.1 rfl) Hb1 σ H1 _ s1 (rr.mono f1.same) (k.fr s1 f1))
    | false => exact ite_ff (k _ M1 Hb1 H1 _ (h1.2 rfl) f1 s1 rfl)
  · exact h1.elim
theorem de_or {rest : List Expr} (ha : PED X a ta) (hb : PED X (.BoolOp .Or (b :: rest) pos) tb) : PED X (.BoolOp .Or (a :: b :: rest) pos) (dOrV ta tb) := by
  obtain ⟨⟨ua, h3, h4⟩⟩ := ha
  obtain ⟨⟨ub, h5, h6⟩⟩ := hb
  refine ⟨⟨_, pe_or h3 h5, fun ρ M QD h Hb σ H Q s rr k => h4 ρ M _ h Hb σ H _ s rr fun x M1 Hb1 H1 v h1 f1 s1 r1 => ?_⟩⟩
  dsimp only at h1
  split at h1
  · rename_i c
    cases (show v = V.bl c from r1)
    refine ⟨c, rfl, ?_⟩
    cases c with
    | true => exact ite_tt (k _ M1 Hb1 H1 _ (h1.1 rfl) f1 s1 rfl)
    | false => exact ite_ff (h6 ρ M1 _ (h1.2 rfl) Hb1 σ H1 _ s1 (rr.mono f1.same) (k.fr s1 f1))
  · exact h1.elim
/-! ### tests -/
def dB (ta : DE) : DT := fun ρ M Q => ta ρ M fun x M1 => match x with
  | .bl c => Q c M1
  | _ => False
theorem snd_B {ua : TE} (h : SndE ua ta) : SndT (tB ua) (dB ta) := fun ρ M QD q Hb σ H Q s rr k => h ρ M _ q Hb σ H _ s rr fun x M1 Hb1 H1 v h1 f1 s1 r1 => by
  dsimp only at h1
  split at h1
  · rename_i c
    cases (show v = V.bl c from r1)
    exact ⟨c, rfl, k c M1 Hb1 H1 h1 f1 s1⟩
  · exact h1.elim
theorem dt_val (h : PED X e ta) (he : ∀ whole, isTrue e X.env whole = (do let v ← whole; standAt e.pos; holding [v] (truthy v)) := by intro _; rfl) : PTD X e (dB ta) := by
  obtain ⟨⟨ua, h3, h4⟩⟩ := h
  exact ⟨⟨_, pt_val h3 he, snd_B h4⟩⟩
theorem dt_cmp {op : CmpOp} {rd : DR} (ho : OpD X (compareOp op) rd) (ha : PED X a ta) (hb : PED X b tb) (hm : behindInMarks op b = false := by first | exact nomark _ | rfl) : PTD X (.Compare a [op] [b] pos) (dB (dOp rd ta tb)) := by
  obtain ⟨⟨r, h1, h2⟩⟩ := ho
  obtain ⟨⟨ua, h3, h4⟩⟩ := ha
  obtain ⟨⟨ub, h5, h6⟩⟩ := hb
  exact ⟨⟨_, pt_cmpR h1 h3 h5 hm, snd_B (snd_op h2 h4 h6)⟩⟩
/-- a value's truth -/
def truD (M : Mp) (x : D) : Option Bool := match look M x with
  | some (.lst ds) => some (!ds.isEmpty)
  | some (.tup ds) => some (!ds.isEmpty)
  | some .non => some false
  | some (.bl b) => some b
  | some (.int i) => some (i != 0)
  | _ => none
def dTru (ta : DE) : DT := fun ρ M Q => ta ρ M fun x M1 => ∃ k, truD M1 x = some k ∧ Q k M1
theorem isE {α β : Type} {xs : List α} {ys : List β} (h : xs.length = ys.length) : (!xs.isEmpty) = (!ys.isEmpty) := by
  cases xs <;> cases ys <;> simp_all
theorem dt_truth (h : PED X e ta) (he : ∀ whole, isTrue e X.env whole = (do let v ← whole; standAt e.pos; holding [v] (truthy v)) := by intro _; rfl) : PTD X e (dTru ta) := by
  obtain ⟨⟨ua, h3, h4⟩⟩ := h
  refine ⟨⟨_, pt_truth h3 he, fun ρ M QD q Hb σ H Q s rr k => h4 ρ M _ q Hb σ H _ s rr fun x M1 Hb1 H1 v h1 f1 s1 r1 => ?_⟩⟩
  obtain ⟨c, e1, q1⟩ := h1
  refine ⟨c, ?_, k c M1 Hb1 H1 q1 f1 s1⟩
  unfold truD at e1
  split at e1
  · rename_i ds e2
    obtain ⟨a, vs, rfl, ha, r⟩ := look_lst s1 r1 e2
    cases e1
    exact .inl ⟨vs, .inl (.inl ha), isE r.length⟩
  · rename_i ds e2
    obtain ⟨a, vs, rfl, ha, r⟩ := look_tup s1 r1 e2
    cases e1
    exact .inr (.inl ⟨vs, .inl (.inl ha), isE r.length⟩)
  · rename_i e2
    cases e1
    cases x <;> simp only [look, reduceCtorEq, Option.some.injEq] at e2
    · cases r1; rfl
    · obtain ⟨_, o, _, c⟩ := s1.cell _ _ e2
      exact c.elim
  · rename_i b e2
    cases e1
    cases x <;> simp only [look, reduceCtorEq, Option.some.injEq, D.bl.injEq] at e2
    · subst e2; cases r1; rfl
    · obtain ⟨_, o, _, c⟩ := s1.cell _ _ e2
      exact c.elim
  · rename_i i e2
    cases e1
    cases x <;> simp only [look, reduceCtorEq, Option.some.injEq, D.int.injEq] at e2
    · subst e2; cases r1; rfl
    · obtain ⟨_, o, _, c⟩ := s1.cell _ _ e2
      exact c.elim
  · cases e1
def dAnd (t u : DT) : DT := fun ρ M Q => t ρ M fun c M1 => dIte c (u ρ M1 Q) (Q false M1)
def dOr (t u : DT) : DT := fun ρ M Q => t ρ M fun c M1 => dIte c (Q true M1) (u ρ M1 Q)
def dNot (t : DT) : DT := fun ρ M Q => t ρ M fun c M1 => Q (!c) M1
theorem PWD.pt (h : PWD X e tA) : PTD X e tA := by
  obtain ⟨⟨ua, h3, h4⟩⟩ := h
  exact ⟨⟨_, h3.pt, h4⟩⟩
theorem dw_and1 (h : PTD X a tA) : PWD X (.BoolOp .And [a] pos) tA := by
  obtain ⟨⟨ua, h3, h4⟩⟩ := h
  exact ⟨⟨_, pw_and1 h3, h4⟩⟩
theorem dw_or1 (h : PTD X a tA) : PWD X (.BoolOp .Or [a] pos) tA := by
  obtain ⟨⟨ua, h3, h4⟩⟩ := h
  exact ⟨⟨_, pw_or1 h3, h4⟩⟩
theorem dw_and {rest : List Expr} (ha : PTD X a tA) (hb : PWD X (.BoolOp .And (b :: rest) pos) tB') : PWD X (.BoolOp .And (a :: b :: rest) pos) (dAnd tA tB') := by
  obtain ⟨⟨ua, h3, h4⟩⟩ := ha
  obtain ⟨⟨ub, h5, h6⟩⟩ := hb
  refine ⟨⟨_, pw_and h3 h5, fun ρ M QD h Hb σ H Q s rr k => h4 ρ M _ h Hb σ H _ s rr fun c M1 Hb1 H1 h1 f1 s1 => ?_⟩⟩
  cases c with
  | true => exact ite_tt (h6 ρ M1 _ (h1.1 rfl) Hb1 σ H1 _ s1 (rr.mono f1.same) (k.fr s1 f1))
  | false => exact ite_ff (k _ M1 Hb1 H1 (h1.2 rfl) f1 s1)
theorem dw_or {rest : List Expr} (ha : PTD X a tA) (hb : PWD X (.BoolOp .Or (b :: rest) pos) tB') : PWD X (.BoolOp .Or (a :: b :: rest) pos) (dOr tA tB') := by
  obtain ⟨⟨ua, h3, h4⟩⟩ := ha
  obtain ⟨⟨ub, h5, h6⟩⟩ := hb
  refine ⟨⟨_, pw_or h3 h5, fun ρ M QD h Hb σ H Q s rr k => h4 ρ M _ h Hb σ H _ s rr fun c M1 Hb1 H1 h1 f1 s1 => ?_⟩⟩
  cases c with
  | true => exact ite_tt (k _ M1 Hb1 H1 (h1.1 rfl) f1 s1)
  | false => exact ite_ff (h6 ρ M1 _ (h1.2 rfl) Hb1 σ H1 _ s1 (rr.mono f1.same) (k.fr s1 f1))
theorem dt_not (ha : PTD X a tA) : PTD X (.UnaryOp .Not a pos) (dNot tA) := by
  obtain ⟨⟨ua, h3, h4⟩⟩ := ha
  exact ⟨⟨_, pt_not h3, fun ρ M QD h Hb σ H Q s rr k => h4 ρ M _ h Hb σ H _ s rr fun c M1 Hb1 H1 h1 f1 s1 => k _ M1 Hb1 H1 h1 f1 s1⟩⟩
def dIf (t : DT) (ta tb : DE) : DE := fun ρ M Q => t ρ M fun c M1 => dIte c (ta ρ M1 Q) (tb ρ M1 Q)
theorem de_if (hc : PTD X c tA) (ha : PED X a ta) (hb : PED X b tb) : PED X (.IfExp c a b pos) (dIf tA ta tb) := by
  obtain ⟨⟨uc, h1', h2'⟩⟩ := hc
  obtain ⟨⟨ua, h3, h4⟩⟩ := ha
  obtain ⟨⟨ub, h5, h6⟩⟩ := hb
  refine ⟨⟨_, pe_ifExp h1' h3 h5, fun ρ M QD h Hb σ H Q s rr k => h2' ρ M _ h Hb σ H _ s rr fun c M1 Hb1 H1 h1 f1 s1 => ?_⟩⟩
  cases c with
  | true => exact ite_tt (h4 ρ M1 _ (h1.1 rfl) Hb1 σ H1 _ s1 (rr.mono f1.same) (k.fr s1 f1))
  | false => exact ite_ff (h6 ρ M1 _ (h1.2 rfl) Hb1 σ H1 _ s1 (rr.mono f1.same) (k.fr s1 f1))
/-- a op b op' c -/
def dChain (r r' : DR) (ta tb tc : DE) : DE := fun ρ M Q => ta ρ M fun x M1 => tb ρ M1 fun y M2 => r x y M2 fun z M3 => match z with
  | .bl k => dIte k (tc ρ M3 fun w M4 => r' y w M4 Q) (Q (.bl false) M3)
  | _ => False
theorem snd_chain {r r' : R2} {rd rd' : DR} {ua ub uc : TE} (hr : SndR r rd) (hr' : SndR r' rd') (ha : SndE ua ta) (hb : SndE ub tb) (hc : SndE uc tc) : SndE (tChain r r' ua ub uc) (dChain rd rd' ta tb tc) := fun ρ M QD h Hb σ H Q s rr k =>
  ha ρ M _ h Hb σ H _ s rr fun x M1 Hb1 H1 v h1 f1 s1 r1 => hb ρ M1 _ h1 Hb1 σ H1 _ s1 (rr.mono f1.same) fun y M2 Hb2 H2 w h2 f2 s2 r2 =>
    hr x y M2 _ h2 Hb2 H2 v w _ s2 (r1.mono f2.same) r2 fun z M3 Hb3 H3 u h3 f3 s3 r3 => by
      dsimp only at h3
      split at h3
      · rename_i c
        cases (show u = V.bl c from r3)
        refine ⟨c, rfl, ?_⟩
        cases c with
        | true =>
          refine ite_tt (hc ρ M3 _ (h3.1 rfl) Hb3 σ H3 _ s3 (rr.mono ((f1.trans s1 f2).trans s2 f3).same) fun w' M4 Hb4 H4 v4 h4 f4 s4 r4 => ?_)
          exact hr' y w' M4 QD h4 Hb4 H4 w v4 Q s4 (r2.mono (f3.trans s3 f4).same) r4 (k.fr s4 ((f1.trans s1 f2).trans s2 (f3.trans s3 f4)))
        | false => exact ite_ff (k _ M3 Hb3 H3 _ (h3.2 rfl) ((f1.trans s1 f2).trans s2 f3) s3 rfl)
      · exact h3.elim
theorem de_chain {op op' : CmpOp} {r r' : DR} (ho : OpD X (compareOp op) r) (ho' : OpD X (compareOp op') r') (ha : PED X a ta) (hb : PED X b tb) (hc : PED X c tc)
    (hm : lastMarks [op, op'] [b, c] = false := by with_unfolding_all rfl) : PED X (.Compare a [op, op'] [b, c] pos) (dChain r r' ta tb tc) := by
  obtain ⟨⟨r1, h1, h2⟩⟩ := ho
  obtain ⟨⟨r2, h1', h2'⟩⟩ := ho'
  obtain ⟨⟨ua, h3, h4⟩⟩ := ha
  obtain ⟨⟨ub, h5, h6⟩⟩ := hb
  obtain ⟨⟨uc, h7, h8⟩⟩ := hc
  exact ⟨⟨_, pe_chain h1 h1' h3 h5 h7 hm, snd_chain h2 h2' h4 h6 h8⟩⟩
theorem dt_chain {op op' : CmpOp} {r r' : DR} (ho : OpD X (compareOp op) r) (ho' : OpD X (compareOp op') r') (ha : PED X a ta) (hb : PED X b tb) (hc : PED X c tc)
    (hm : lastMarks [op, op'] [b, c] = false := by with_unfolding_all rfl) : PTD X (.Compare a [op, op'] [b, c] pos) (dB (dChain r r' ta tb tc)) := by
  obtain ⟨⟨r1, h1, h2⟩⟩ := ho
  obtain ⟨⟨r2, h1', h2'⟩⟩ := ho'
  obtain ⟨⟨ua, h3, h4⟩⟩ := ha
  obtain ⟨⟨ub, h5, h6⟩⟩ := hb
  obtain ⟨⟨uc, h7, h8⟩⟩ := hc
  exact ⟨⟨_, pt_chain h1 h1' h3 h5 h7 hm, snd_B (snd_chain h2 h2' h4 h6 h8)⟩⟩
/-! ### arguments, displays -/
def dNil : DA := fun _ M Q => Q [] M
def dCons (ta : DE) (da : DA) : DA := fun ρ M Q => ta ρ M fun x M1 => da ρ M1 fun xs M2 => Q (x :: xs) M2
theorem da_nil : PAD X [] dNil := ⟨⟨_, pa_nil, fun ρ M QD h Hb σ H Q s rr k => k [] M Hb H [] h (Fr.refl _ _ _) s rfl⟩⟩
theorem da_cons (ha : PED X e ta) (hr : PAD X es da) (hs : starEach (e :: es) X.env = (false, eval e X.env) :: starEach es X.env := by rfl) : PAD X (e :: es) (dCons ta da) := by
  obtain ⟨⟨ua, h3, h4⟩⟩ := ha
  obtain ⟨⟨ub, h5, h6⟩⟩ := hr
  exact ⟨⟨_, pa_cons h3 h5 hs, fun ρ M QD h Hb σ H Q s rr k => h4 ρ M _ h Hb σ H _ s rr fun x M1 Hb1 H1 v h1 f1 s1 r1 =>
    h6 ρ M1 _ h1 Hb1 σ H1 _ s1 (rr.mono f1.same) fun xs M2 Hb2 H2 vs h2 f2 s2 r2 => k _ M2 Hb2 H2 _ h2 (f1.trans s1 f2) s2 ⟨v, vs, rfl, r1.mono f2.same, r2⟩⟩⟩
def dTup (da : DA) : DE := fun ρ M Q => da ρ M fun ds M1 => ds.length ≤ sizeLine ∧ Q (.tup ds) M1
def dLst (da : DA) : DE := fun ρ M Q => da ρ M fun ds M1 => ds.length ≤ sizeLine ∧ Q (.lst ds) M1
/-- a list that will change -/
def dLstC (da : DA) : DE := fun ρ M Q => da ρ M fun ds M1 => ds.length ≤ sizeLine ∧ ∀ p, M1 p = none → Q (.cell p) (updM M1 p (.lst ds))
theorem de_tup {x1} (h : PAD X es da) : PED X (.Tuple es x1 pos) (dTup da) := by
  obtain ⟨⟨ua, h3, h4⟩⟩ := h
  refine ⟨⟨_, pe_tup h3, fun ρ M QD h Hb σ H Q s rr k => h4 ρ M _ h Hb σ H _ s rr fun xs M1 Hb1 H1 vs h1 f1 s1 r1 => ⟨by rw [← r1.length]; exact h1.1, fun p hp => ?_⟩⟩⟩
  obtain ⟨s2, f2⟩ := s1.frozen (o := .tup vs) hp
  exact k _ M1 _ _ _ h1.2 (f1.trans s1 f2) s2 ⟨p, vs, rfl, upd_same, r1.mono f2.same⟩
theorem de_lst (h : PAD X es da) : PED X (.List es pos) (dLst da) := by
  obtain ⟨⟨ua, h3, h4⟩⟩ := h
  refine ⟨⟨_, pe_lst h3, fun ρ M QD h Hb σ H Q s rr k => h4 ρ M _ h Hb σ H _ s rr fun xs M1 Hb1 H1 vs h1 f1 s1 r1 => ⟨by rw [← r1.length]; exact h1.1, fun p hp => ?_⟩⟩⟩
  obtain ⟨s2, f2⟩ := s1.frozen (o := .lst vs) hp
  exact k _ M1 _ _ _ h1.2 (f1.trans s1 f2) s2 ⟨p, vs, rfl, upd_same, r1.mono f2.same⟩
theorem de_lstC (h : PAD X es da) : PED X (.List es pos) (dLstC da) := by
  obtain ⟨⟨ua, h3, h4⟩⟩ := h
  refine ⟨⟨_, pe_lst h3, fun ρ M QD h Hb σ H Q s rr k => h4 ρ M _ h Hb σ H _ s rr fun xs M1 Hb1 H1 vs h1 f1 s1 r1 => ⟨by rw [← r1.length]; exact h1.1, fun p hp => ?_⟩⟩⟩
  obtain ⟨s2, f2⟩ := s1.newCell (o := .lst vs) (d := .lst xs) hp ⟨vs, rfl, r1⟩
  exact k _ _ _ _ _ (h1.2 p (s1.none_of hp).2) (f1.trans s1 f2) s2 rfl
/-- {} that will change; that will not -/
def dDNewC : DE := fun _ M Q => ∀ p, M p = none → Q (.cell p) (updM M p (.dic [] []))
def dDNew : DE := fun _ M Q => Q (.dic [] []) M
theorem de_dnewC : PED X (.Dict [] [] pos) dDNewC := ⟨⟨_, pe_dnewK, fun ρ M QD h Hb σ H Q s rr k p hp => by
  obtain ⟨s2, f2⟩ := s.newCell (o := .dK []) (d := .dic [] []) hp ⟨[], rfl, rfl, rfl⟩
  exact k _ _ _ _ _ (h p (s.none_of hp).2) f2 s2 rfl⟩⟩
theorem de_dnew : PED X (.Dict [] [] pos) dDNew := ⟨⟨_, pe_dnewK, fun ρ M QD h Hb σ H Q s rr k p hp => by
  obtain ⟨s2, f2⟩ := s.frozen (o := .dK []) hp
  exact k _ _ _ _ _ h f2 s2 ⟨p, [], rfl, upd_same, rfl, rfl⟩⟩⟩
end
end DL

/-! part DStmt -/
set_option maxHeartbeats 0
namespace DL
open PySem PySem.Spec PyProof.Rows L2
/-! ### targets -/
section
variable {X : Cx} {e a b c o i : Expr} {es : List Expr} {pos : Pos} {ta tb tc : DE} {da : DA} {tA tB' : DT} {g : DG} {gs : DGs} {sts rest : List Stmt} {st : Stmt} {t u : DS}
def dName (i : Nat) : DG := fun d ρ M Q => Q (ρ.set i (some d)) M
theorem snd_name (i : Nat) : SndG (gName i) (dName i) := fun x ρ M QD h Hb σ H v Q s r rx k => k _ M Hb _ H h (Fr.refl _ _ _) s (r.set i rx)
theorem dg_name {i : Nat} {x : Str} (hN : X.N.Nodup) (hi : X.N[i]? = some x := by rfl) (hx : Loc X.env.scope x := by first | exact Or.inl rfl | exact Or.inr rfl)
    (hf : X.fn x = true ∨ X.env.scope.names.lookup x = some .local := by first | exact .inl rfl | exact .inr rfl) : PGD X (.Name x pos) (dName i) := ⟨⟨_, pg_name hN hi hx hf, snd_name i⟩⟩
def dgNil : DGs := fun xs ρ M Q => match xs with
  | [] => Q ρ M
  | _ => False
def dgCons (g : DG) (gs : DGs) : DGs := fun xs ρ M Q => match xs with
  | x :: r => g x ρ M fun ρ' M' => gs r ρ' M' Q
  | [] => False
theorem dgs_nil : PGsD X [] dgNil := ⟨⟨_, pgs_nil, fun xs ρ M QD h Hb σ H vs Q s r rx k => by
  cases xs with
  | nil => cases rx; exact ⟨rfl, k _ M Hb _ H h (Fr.refl _ _ _) s r⟩
  | cons x y => exact h.elim⟩⟩
theorem dgs_cons (h1 : PGD X e g) (h2 : PGsD X es gs) (hh : (assignEach (e :: es) X.env).map (·.2) = assign e X.env :: (assignEach es X.env).map (·.2) := by rfl) : PGsD X (e :: es) (dgCons g gs) := by
  obtain ⟨⟨t1, a1, b1⟩⟩ := h1
  obtain ⟨⟨t2, a2, b2⟩⟩ := h2
  refine ⟨⟨_, pgs_cons a1 a2 hh, fun xs ρ M QD h Hb σ H vs Q s r rx k => ?_⟩⟩
  cases xs with
  | nil => exact h.elim
  | cons x y =>
    obtain ⟨v, vr, rfl, r1, r2⟩ := rx
    exact ⟨v, vr, rfl, b1 x ρ M _ h Hb σ H v _ s r r1 fun ρ' M' Hb' σ' H' q f s' r' => b2 y ρ' M' QD q Hb' σ' H' vr Q s' r' (r2.mono f.same) (k.fr s' f)⟩
def dgTup (n : Nat) (gs : DGs) : DG := fun x ρ M Q => match look M x with
  | some (.tup ds) => ds.length = n ∧ gs ds ρ M Q
  | _ => False
theorem dg_tup {es : List Expr} {k : Nat} {n : Nat} (hc : X.calm = true) (h : PGsD X es gs) (hn : (assignEach es X.env).length = n := by rfl) (hst : (assignEach es X.env).findIdx? (·.1) = none := by rfl) : PGD X (.Tuple es k pos) (dgTup n gs) := by
  obtain ⟨⟨t1, a1, b1⟩⟩ := h
  refine ⟨⟨gTup X.K n t1, pg_tup hc a1 hn hst, fun x ρ M QD h Hb σ H v Q s r rx k => ?_⟩⟩
  unfold dgTup at h
  split at h
  · rename_i ds e1
    obtain ⟨a, vs, rfl, ha, r1⟩ := look_tup s rx e1
    exact ⟨a, vs, rfl, .inl (.inl ha), by rw [← r1.length]; exact h.1, b1 ds ρ M QD h.2 Hb σ H vs Q s r r1 k⟩
  · exact h.elim
/-! ### statements -/
def dNext : DS := fun P ρ M => P.nx ρ M
def dSeq (t u : DS) : DS := fun P ρ M => t { P with nx := u P } ρ M
theorem dss_nil : PSsD X [] dNext := ⟨⟨_, pss_nil, fun P ρ M h Hb σ H E s r k => k.nx _ _ _ _ _ h (Fr.refl _ _ _) s r⟩⟩
theorem snd_seq {t' u' : TS} (h1 : SndS t' t) (h2 : SndS u' u) : SndS (tSeq t' u') (dSeq t u) := fun P ρ M h Hb σ H E s r k =>
  h1 _ ρ M h Hb σ H _ s r ⟨fun ρ' M' Hb' σ' H' q f s' r' => h2 P ρ' M' q Hb' σ' H' E s' r' (k.fr s' f), k.rt, k.bk, k.ct⟩
theorem dss_cons (h1 : PSD X st t) (h2 : PSsD X rest u) : PSsD X (st :: rest) (dSeq t u) := by
  obtain ⟨⟨t1, a1, b1⟩⟩ := h1
  obtain ⟨⟨t2, a2, b2⟩⟩ := h2
  exact ⟨⟨_, pss_cons a1 a2, snd_seq b1 b2⟩⟩
theorem dss_one (h1 : PSD X st t) : PSsD X [st] t := by
  obtain ⟨⟨t1, a1, b1⟩⟩ := h1
  exact ⟨⟨_, pss_one a1, b1⟩⟩
theorem ds_pass : PSD X (.Pass pos) dNext := ⟨⟨_, ps_pass, fun P ρ M h Hb σ H E s r k => k.nx _ _ _ _ _ h (Fr.refl _ _ _) s r⟩⟩
def dBreak : DS := fun P ρ M => P.bk ρ M
def dCont : DS := fun P ρ M => P.ct ρ M
theorem ds_break : PSD X (.Break pos) dBreak := ⟨⟨_, ps_break, fun P ρ M h Hb σ H E s r k => k.bk _ _ _ _ _ h (Fr.refl _ _ _) s r⟩⟩
theorem ds_continue : PSD X (.Continue pos) dCont := ⟨⟨_, ps_continue, fun P ρ M h Hb σ H E s r k => k.ct _ _ _ _ _ h (Fr.refl _ _ _) s r⟩⟩
def dDrop (ta : DE) : DS := fun P ρ M => ta ρ M fun _ M1 => P.nx ρ M1
theorem ds_expr (h : PED X e ta) (hs : swapsWith e none pos.line X.env = pure false := by rfl) : PSD X (.Expr e pos) (dDrop ta) := by
  obtain ⟨⟨t1, a1, b1⟩⟩ := h
  exact ⟨⟨_, ps_expr a1 hs, fun P ρ M h Hb σ H E s r k => b1 ρ M _ h Hb σ H _ s r fun d M' Hb' H' v q f s' r' => k.nx _ _ _ _ _ q f s' (r.mono f.same)⟩⟩
def dRet (ta : DE) : DS := fun P ρ M => ta ρ M P.rt
theorem ds_ret (h : PED X e ta) : PSD X (.Return (some e) pos) (dRet ta) := by
  obtain ⟨⟨t1, a1, b1⟩⟩ := h
  exact ⟨⟨_, ps_ret a1, fun P ρ M h Hb σ H E s r k => b1 ρ M _ h Hb σ H _ s r k.rt⟩⟩
/-- return of a cell: it is frozen -/
def dRetF (ta : DE) : DS := fun P ρ M => ta ρ M fun x M1 => match x with
  | .cell p => ∃ d, M1 p = some d ∧ P.rt d (delM M1 p)
  | _ => False
theorem ds_retF (h : PED X e ta) : PSD X (.Return (some e) pos) (dRetF ta) := by
  obtain ⟨⟨t1, a1, b1⟩⟩ := h
  refine ⟨⟨_, ps_ret a1, fun P ρ M h Hb σ H E s r k => b1 ρ M _ h Hb σ H _ s r fun d M' Hb' H' v q f s' r' => ?_⟩⟩
  cases d with
  | cell p =>
    obtain ⟨d, e1, q1⟩ := q
    obtain ⟨Hb2, s2, f2, r2⟩ := s'.freeze e1
    cases (show v = V.ref p from r')
    exact k.rt _ _ Hb2 H' _ q1 (f.trans s' f2) s2 r2
  | _ => exact q.elim
def dRetN : DS := fun P _ M => P.rt .non M
theorem ds_retN : PSD X (.Return none pos) dRetN := ⟨⟨_, ps_retN, fun P ρ M h Hb σ H E s r k => k.rt _ _ _ _ _ h (Fr.refl _ _ _) s rfl⟩⟩
def dIfS (c : DT) (t u : DS) : DS := fun P ρ M => c ρ M fun b M1 => dIte b (t P ρ M1) (u P ρ M1)
theorem ds_if {c : Expr} {x y : List Stmt} (hc : PTD X c tA) (ha : PSsD X x t) (hb : PSsD X y u) : PSD X (.If c x y pos) (dIfS tA t u) := by
  obtain ⟨⟨tc, a0, b0⟩⟩ := hc
  obtain ⟨⟨t1, a1, b1⟩⟩ := ha
  obtain ⟨⟨t2, a2, b2⟩⟩ := hb
  refine ⟨⟨_, ps_if a0 a1 a2, fun P ρ M h Hb σ H E s r k => b0 ρ M _ h Hb σ H _ s r fun b M1 Hb1 H1 h1 f1 s1 => ?_⟩⟩
  cases b with
  | true => exact ite_tt (b1 P ρ M1 (h1.1 rfl) Hb1 σ H1 E s1 (r.mono f1.same) (k.fr s1 f1))
  | false => exact ite_ff (b2 P ρ M1 (h1.2 rfl) Hb1 σ H1 E s1 (r.mono f1.same) (k.fr s1 f1))
def dNever : DS := fun _ _ _ => False
theorem ds_never : PSD X st dNever := ⟨⟨_, ps_never, fun P ρ M h Hb σ H E s r k => h.elim⟩⟩
def dAsg (ta : DE) (g : DG) : DS := fun P ρ M => ta ρ M fun x M1 => g x ρ M1 P.nx
theorem snd_asg {t1 : TE} {g1 : TG} (h1 : SndE t1 ta) (h2 : SndG g1 g) : SndS (tAsg t1 g1) (dAsg ta g) := fun P ρ M h Hb σ H E s r k =>
  h1 ρ M _ h Hb σ H _ s r fun d M' Hb' H' v q f s' r' => h2 d ρ M' _ q Hb' σ H' v _ s' (r.mono f.same) r' (k.nx.fr s' f)
theorem ds_asg {tg : Expr} (h1 : PED X e ta) (h2 : PGD X tg g) (hs : swapsWithSole [tg] e pos.line X.env = pure false := by rfl) (hw : swappedStores [tg] e X.env = pure none := by rfl)
    (h1' : (assignEach [tg] X.env).map (·.2) = [assign tg X.env] := by rfl) : PSD X (.Assign [tg] e pos) (dAsg ta g) := by
  obtain ⟨⟨t1, a1, b1⟩⟩ := h1
  obtain ⟨⟨t2, a2, b2⟩⟩ := h2
  exact ⟨⟨_, ps_asg a1 a2 hs hw h1', snd_asg b1 b2⟩⟩
theorem ds_set {i : Nat} {x : Str} {pos' : Pos} (hN : X.N.Nodup) (h1 : PED X e ta) (hi : X.N[i]? = some x := by rfl) (hx : Loc X.env.scope x := by first | exact Or.inl rfl | exact Or.inr rfl)
    (hs : swapsWith e (some (.Name x pos')) pos.line X.env = pure false := by rfl) (hf : X.fn x = true ∨ X.env.scope.names.lookup x = some .local := by first | exact .inl rfl | exact .inr rfl) :
    PSD X (.Assign [.Name x pos'] e pos) (dAsg ta (dName i)) := by
  obtain ⟨⟨t1, a1, b1⟩⟩ := h1
  exact ⟨⟨_, ps_set hN hi hx a1 hs hf, snd_asg b1 (snd_name i)⟩⟩
end
end DL

/-! part DLoop -/
set_option maxHeartbeats 0
namespace DL
open PySem PySem.Spec PyProof.Rows L2
/-! ### for -/
/-- the turns of a loop over the items ds, from ρ, M -/
def dLoop (ds : List D) (g : DG) (tb : DS) (P : DEnds) (ρ : Env) (M : Mp) : Prop :=
  ∃ W : Nat → Env → Mp → Prop, W 0 ρ M ∧ (∀ (i : Nat) (d : D) (ρ' : Env) (M' : Mp), ds[i]? = some d → W i ρ' M' → g d ρ' M' fun ρ2 M2 => tb { P with nx := W (i + 1), ct := W (i + 1), bk := P.nx } ρ2 M2) ∧ ∀ ρ' M', W ds.length ρ' M' → P.nx ρ' M'
def dFor (di : DI) (g : DG) (tb : DS) : DS := fun P ρ M => di ρ M fun ds M1 => dLoop ds g tb P ρ M1
theorem loop_core {gt : TG} {g : DG} {bt : TS} {tb : DS} (hg : SndG gt g) (hb : SndS bt tb) {ds : List D} {P : DEnds} {ρ : Env} {M : Mp} (h : dLoop ds g tb P ρ M) {Hb H : Hp} {σ : L2.St} {E : Ends} {J : It} (s : Sx Hb H M) (r : EnvR Hb σ ρ) (k : OKE Hb H M P E) (it : ItD J Hb H M ds) :
    ∃ W : Nat → Nat → L2.St → Hp → Prop, (∃ m, W 0 m σ H) ∧ ∀ i m σ H, W i m σ H →
      (J.stop i H ∧ E.nx σ H) ∨ (J.go i H ∧ ∃ N : L2.St → Hp → Prop, (∀ σ' H', N σ' H' → ∃ m', m' < m ∧ W (i + 1) m' σ' H') ∧ ∀ x H', J.yld i H x H' → gt x σ H' fun σ2 H2 => bt { E with nx := N, ct := N, bk := E.nx } σ2 H2) := by
  obtain ⟨W, w0, ws, we⟩ := h
  let St (i : Nat) (σ' : L2.St) (H' : Hp) : Prop := ∃ ρ' M' Hb', W i ρ' M' ∧ Fr Hb H M Hb' H' M' ∧ Sx Hb' H' M' ∧ EnvR Hb' σ' ρ'
  refine ⟨fun i m σ' H' => m = ds.length - i ∧ i ≤ ds.length ∧ St i σ' H', ⟨ds.length, rfl, Nat.zero_le _, ρ, M, Hb, w0, Fr.refl _ _ _, s, r⟩, ?_⟩
  rintro i m σ' H' ⟨rfl, hi, ρ', M', Hb', w, f, s', r'⟩
  obtain ⟨stop, go⟩ := it Hb' H' M' f s' i
  by_cases hlt : i < ds.length
  · obtain ⟨g1, g2⟩ := go _ (List.getElem?_eq_getElem hlt)
    refine .inr ⟨g1, St (i + 1), fun σ2 H2 q => ⟨ds.length - (i + 1), by omega, rfl, hlt, q⟩, fun x H3 y => ?_⟩
    obtain ⟨Hb3, f3, s3, r3⟩ := g2 x H3 y
    refine hg _ ρ' M' _ (ws i _ ρ' M' (List.getElem?_eq_getElem hlt) w) Hb3 σ' H3 x _ s3 (r'.mono f3.same) r3 fun ρ4 M4 Hb4 σ4 H4 q4 f4 s4 r4 => ?_
    have f34 := (f.trans s' f3).trans s3 f4
    refine hb _ ρ4 M4 q4 Hb4 σ4 H4 _ s4 r4 ⟨fun ρ5 M5 Hb5 σ5 H5 q5 f5 s5 r5 => ⟨ρ5, M5, Hb5, q5, f34.trans s4 f5, s5, r5⟩, k.rt.fr s4 f34, k.nx.fr s4 f34, fun ρ5 M5 Hb5 σ5 H5 q5 f5 s5 r5 => ⟨ρ5, M5, Hb5, q5, f34.trans s4 f5, s5, r5⟩⟩
  · have e : i = ds.length := by omega
    subst e
    exact .inl ⟨stop (Nat.le_refl _), k.nx _ _ _ _ _ (we ρ' M' w) f s' r'⟩
theorem snd_for {wi : TI} {di : DI} {gt : TG} {g : DG} {bt : TS} {tb : DS} (hi : SndI wi di) (hg : SndG gt g) (hb : SndS bt tb) : SndS (tFor wi gt bt) (dFor di g tb) := fun P ρ M h Hb σ H E s r k =>
  hi ρ M _ h Hb σ H _ s r fun ds M' Hb' H' J q f s' it => loop_core hg hb q s' (r.mono f.same) (k.fr s' f) it
section
variable {X : Cx} {e a b c o i : Expr} {es : List Expr} {pos : Pos} {ta tb tc : DE} {da : DA} {tA tB' : DT} {g : DG} {gs : DGs} {sts rest : List Stmt} {st : Stmt} {t u : DS} {di : DI}
theorem ds_for {tg iter : Expr} {body : List Stmt} (hp : PassesOwn (model X.prog X.w) X.A X.env X.xe) (hc : X.calm = true) (hi : PID X tg iter di) (hg : PGD X tg g) (hb : PSsD X body t)
    (hs : ∀ x, foldedSetIterable iter X.env x = pure x := by intro _; rfl) : PSD X (.For tg iter body [] pos) (dFor di g t) := by
  obtain ⟨⟨t0, a0, b0⟩⟩ := hi
  obtain ⟨⟨t1, a1, b1⟩⟩ := hg
  obtain ⟨⟨t2, a2, b2⟩⟩ := hb
  exact ⟨⟨_, ps_for hp hc a0 a1 a2 hs, snd_for b0 b1 b2⟩⟩
/-! ### what is walked -/
/-- a list, frozen -/
def diList (ta : DE) : DI := fun ρ M Q => ta ρ M fun x M1 => match x with
  | .lst ds => Q ds M1
  | _ => False
theorem di_list {tg : Expr} (h : PED X e ta) : PID X tg e (diList ta) := by
  obtain ⟨⟨t1, a1, b1⟩⟩ := h
  refine ⟨⟨_, pi_list a1, fun ρ M QD h Hb σ H R s r k => b1 ρ M _ h Hb σ H _ s r fun d M' Hb' H' v q f s' r' => ?_⟩⟩
  dsimp only at q
  split at q
  · rename_i ds
    obtain ⟨a, vs, rfl, ha, rl⟩ := look_lst s' r' rfl
    have hm : M' a = none := by
      obtain ⟨a2, vs2, e2, h2, _⟩ := r'
      cases e2
      exact s'.apart h2
    refine ⟨a, rfl, ⟨vs, .inl (.inl ha)⟩, k ds M' Hb' H' _ q f s' fun Hb2 H2 M2 f2 s2 i => ?_⟩
    have ha2 := f2.keep a _ ha hm
    refine ⟨fun hi => ⟨vs, .inl (.inl ha2), by rw [← rl.length]; exact hi⟩, fun d hd => ?_⟩
    obtain ⟨v, hv, rv⟩ := rl.get hd
    refine ⟨⟨vs, v, .inl (.inl ha2), hv⟩, fun x H3 y => ?_⟩
    obtain ⟨rfl, y⟩ := y
    have := y vs (.inl (.inl ha2))
    rw [hv] at this
    cases this
    exact ⟨Hb2, Fr.refl _ _ _, s2, rv.mono f2.same⟩
  · exact q.elim
/-- a tuple, frozen -/
def diTup (ta : DE) : DI := fun ρ M Q => ta ρ M fun x M1 => match x with
  | .tup ds => Q ds M1
  | _ => False
theorem di_tup {tg : Expr} (h : PED X e ta) : PID X tg e (diTup ta) := by
  obtain ⟨⟨t1, a1, b1⟩⟩ := h
  refine ⟨⟨_, pi_tup a1, fun ρ M QD h Hb σ H R s r k => b1 ρ M _ h Hb σ H _ s r fun d M' Hb' H' v q f s' r' => ?_⟩⟩
  dsimp only at q
  split at q
  · rename_i ds
    obtain ⟨a, vs, rfl, ha, rl⟩ := look_tup s' r' rfl
    have hm : M' a = none := by
      obtain ⟨a2, vs2, e2, h2, _⟩ := r'
      cases e2
      exact s'.apart h2
    refine ⟨a, rfl, ⟨vs, .inl (.inl ha)⟩, k ds M' Hb' H' _ q f s' fun Hb2 H2 M2 f2 s2 i => ?_⟩
    have ha2 := f2.keep a _ ha hm
    refine ⟨fun hi => ⟨vs, .inl (.inl ha2), by rw [← rl.length]; exact hi⟩, fun d hd => ?_⟩
    obtain ⟨v, hv, rv⟩ := rl.get hd
    refine ⟨⟨vs, v, .inl (.inl ha2), hv⟩, fun x H3 y => ?_⟩
    obtain ⟨rfl, y⟩ := y
    have := y vs (.inl (.inl ha2))
    rw [hv] at this
    cases this
    exact ⟨Hb2, Fr.refl _ _ _, s2, rv.mono f2.same⟩
  · exact q.elim
/-- the ints from lo on -/
def rngD (lo : Int) (n : Nat) : List D := (List.range n).map fun i => D.int (lo + (i : Nat))
theorem rngD_len (lo : Int) (n : Nat) : (rngD lo n).length = n := by simp [rngD]
theorem rngD_get {lo : Int} {n i : Nat} {d : D} (h : (rngD lo n)[i]? = some d) : i < n ∧ d = .int (lo + (i : Nat)) := by
  unfold rngD at h
  rw [List.getElem?_map] at h
  cases e : (List.range n)[i]? with
  | none => rw [e] at h; cases h
  | some j =>
    rw [e] at h
    have hi : i < n := by
      have := (List.getElem?_eq_some_iff.mp e).1
      simpa using this
    rw [List.getElem?_range hi] at e
    cases e
    cases h
    exact ⟨hi, rfl⟩
theorem it_rng {lo : Int} {n : Nat} {Hb H : Hp} {M : Mp} : ItD (Itr lo n) Hb H M (rngD lo n) := fun Hb2 H2 M2 f2 s2 i => by
  refine ⟨fun hi => by rw [rngD_len] at hi; exact hi, fun d hd => ?_⟩
  obtain ⟨h1, rfl⟩ := rngD_get hd
  refine ⟨h1, fun x H3 y => ?_⟩
  obtain ⟨rfl, rfl⟩ := y
  exact ⟨Hb2, Fr.refl _ _ _, s2, rfl⟩
def small (i : Int) : Prop := -(2 ^ 62) ≤ i ∧ i < 2 ^ 62
def diRng1 (ta : DE) : DI := fun ρ M Q => ta ρ M fun x M1 => match x with
  | .int j => small j ∧ Q (rngD 0 j.toNat) M1
  | _ => False
theorem one_arg {t1 : TE} (h : SndE t1 ta) {ρ : Env} {M : Mp} {QD : DK} (q : ta ρ M QD) {Hb H : Hp} {σ : L2.St} {Q : List V → Hp → Prop} (s : Sx Hb H M) (r : EnvR Hb σ ρ)
    (k : ∀ d M' Hb' H' v, QD d M' → Fr Hb H M Hb' H' M' → Sx Hb' H' M' → Rep Hb' d v → Q [v] H') : tCons t1 tNil σ H Q := h ρ M _ q Hb σ H _ s r k
theorem di_rng1 {tg : Expr} {p : Pos} (hg : Gl X "range") (hm : X.mg "range" = none) (h : PED X a ta) (hst : starEach [a] X.env = (false, eval a X.env) :: starEach [] X.env := by rfl) : PID X tg (.Call (.Name "range" p) [a] [] pos) (diRng1 ta) := by
  obtain ⟨⟨t1, a1, b1⟩⟩ := h
  refine ⟨⟨_, pi_range1 hg hm (pa_cons a1 pa_nil hst) (by rw [hst]; rfl), fun ρ M QD h Hb σ H R s r k => one_arg b1 h s r fun d M' Hb' H' v q f s' r' => ?_⟩⟩
  split at q
  · rename_i j
    cases (show v = V.int j from r')
    exact ⟨j, rfl, q.1.1, q.1.2, k _ M' Hb' H' _ q.2 f s' it_rng⟩
  · exact q.elim
def diRng2 (ta tb : DE) : DI := fun ρ M Q => ta ρ M fun x M1 => tb ρ M1 fun y M2 => match x, y with
  | .int i, .int j => small i ∧ small j ∧ Q (rngD i (j - i).toNat) M2
  | _, _ => False
theorem two_args {t1 t2 : TE} (h : SndE t1 ta) (h2 : SndE t2 tb) {ρ : Env} {M : Mp} {QD : D → D → Mp → Prop} (q : ta ρ M fun x M1 => tb ρ M1 fun y M2 => QD x y M2) {Hb H : Hp} {σ : L2.St} {Q : List V → Hp → Prop} (s : Sx Hb H M) (r : EnvR Hb σ ρ)
    (k : ∀ d e M' Hb' H' v w, QD d e M' → Fr Hb H M Hb' H' M' → Sx Hb' H' M' → Rep Hb' d v → Rep Hb' e w → Q [v, w] H') : tCons t1 (tCons t2 tNil) σ H Q :=
  h ρ M _ q Hb σ H _ s r fun d M1 Hb1 H1 v q1 f1 s1 r1 => h2 ρ M1 _ q1 Hb1 σ H1 _ s1 (r.mono f1.same) fun e M2 Hb2 H2 w q2 f2 s2 r2 => k d e M2 Hb2 H2 v w q2 (f1.trans s1 f2) s2 (r1.mono f2.same) r2
theorem di_rng2 {tg : Expr} {p : Pos} (hg : Gl X "range") (hm : X.mg "range" = none) (h : PED X a ta) (h' : PED X b tb) (hst : starEach [a, b] X.env = (false, eval a X.env) :: starEach [b] X.env := by rfl) (hst' : starEach [b] X.env = (false, eval b X.env) :: starEach [] X.env := by rfl)
    (hpl : (backTo pos (starEach [b] X.env)).any (·.1) = false := by rfl) : PID X tg (.Call (.Name "range" p) [a, b] [] pos) (diRng2 ta tb) := by
  obtain ⟨⟨t1, a1, b1⟩⟩ := h
  obtain ⟨⟨t2, a2, b2⟩⟩ := h'
  refine ⟨⟨_, pi_range2 hg hm (pa_cons a1 (pa_cons a2 pa_nil hst') hst) (by rw [hst, hst']; rfl) (by rw [hst']; rfl), fun ρ M QD h Hb σ H R s r k => two_args b1 b2 h s r fun d e M' Hb' H' v w q f s' r' r2' => ?_⟩⟩
  split at q
  · rename_i i j
    cases (show v = V.int i from r')
    cases (show w = V.int j from r2')
    exact ⟨i, j, rfl, ⟨q.1.1, q.1.2, q.2.1.1, q.2.1.2⟩, k _ M' Hb' H' _ q.2.2 f s' it_rng⟩
  · exact q.elim
/-- range(i, j, -1) -/
def diDown (ta tb tc : DE) : DI := fun ρ M Q => ta ρ M fun x M1 => tb ρ M1 fun y M2 => tc ρ M2 fun z M3 => match x, y, z with
  | .int i, .int j, .int c => small i ∧ small j ∧ c = -1 ∧ Q ((List.range (i - j).toNat).map fun k => D.int (i + (k : Nat) * -1)) M3
  | _, _, _ => False
theorem di_down {tg : Expr} {p : Pos} (hg : Gl X "range") (hm : X.mg "range" = none) (h : PED X a ta) (h' : PED X b tb) (h'' : PED X c tc) (hst : starEach [a, b, c] X.env = (false, eval a X.env) :: starEach [b, c] X.env := by rfl)
    (hst' : starEach [b, c] X.env = (false, eval b X.env) :: starEach [c] X.env := by rfl) (hst'' : starEach [c] X.env = (false, eval c X.env) :: starEach [] X.env := by rfl)
    (hpl : (backTo pos (starEach [b, c] X.env)).any (·.1) = false := by rfl) : PID X tg (.Call (.Name "range" p) [a, b, c] [] pos) (diDown ta tb tc) := by
  obtain ⟨⟨t1, a1, b1⟩⟩ := h
  obtain ⟨⟨t2, a2, b2⟩⟩ := h'
  obtain ⟨⟨t3, a3, b3⟩⟩ := h''
  refine ⟨⟨_, pi_range3 hg hm (pa_cons a1 (pa_cons a2 (pa_cons a3 pa_nil hst'') hst') hst) hst hpl, fun ρ M QD h Hb σ H R s r k =>
    b1 ρ M _ h Hb σ H _ s r fun d M1 Hb1 H1 v q1 f1 s1 r1 => b2 ρ M1 _ q1 Hb1 σ H1 _ s1 (r.mono f1.same) fun e M2 Hb2 H2 w q2 f2 s2 r2 => b3 ρ M2 _ q2 Hb2 σ H2 _ s2 (r.mono (f1.trans s1 f2).same) fun g M3 Hb3 H3 x q3 f3 s3 r3 => ?_⟩⟩
  dsimp only at q3
  split at q3
  · rename_i i j cc
    cases (show v = V.int i from r1)
    cases (show w = V.int j from r2)
    cases (show x = V.int cc from r3)
    obtain ⟨x1, x2, rfl, x3⟩ := q3
    refine ⟨i, j, -1, (i - j).toNat, rfl, RgC.neg x1.1 x1.2 x2.1 x2.2, k _ M3 Hb3 H3 _ x3 ((f1.trans s1 f2).trans s2 f3) s3 fun Hb4 H4 M4 f4 s4 n => ?_⟩
    refine ⟨fun hi => by (show (i - j).toNat ≤ n); rw [List.length_map, List.length_range] at hi; exact hi, fun d hd => ?_⟩
    rw [List.getElem?_map] at hd
    cases e : (List.range (i - j).toNat)[n]? with
    | none => rw [e] at hd; cases hd
    | some m =>
      rw [e] at hd
      have hi : n < (i - j).toNat := by
        have := (List.getElem?_eq_some_iff.mp e).1
        simpa using this
      rw [List.getElem?_range hi] at e
      cases e
      cases hd
      refine ⟨hi, fun x H5 y => ?_⟩
      obtain ⟨rfl, rfl⟩ := y
      exact ⟨Hb4, Fr.refl _ _ _, s4, rfl⟩
  · exact q3.elim
/-- enumerate of a frozen list -/
def diEnum (ta : DE) : DI := fun ρ M Q => ta ρ M fun x M1 => match x with
  | .lst ds => Q (ds.mapIdx fun i d => .tup [.int (i : Nat), d]) M1
  | _ => False
theorem di_enum {p tpos : Pos} {elts : List Expr} {kk : Nat} (hg : Gl X "enumerate") (hm : X.mg "enumerate" = none) (h : PED X e ta) (hst : starEach [e] X.env = [(false, eval e X.env)] := by rfl) :
    PID X (.Tuple elts kk tpos) (.Call (.Name "enumerate" p) [e] [] pos) (diEnum ta) := by
  obtain ⟨⟨t1, a1, b1⟩⟩ := h
  refine ⟨⟨_, pi_enum hg hm (pa_cons a1 pa_nil hst) hst, fun ρ M QD h Hb σ H R s r k => one_arg b1 h s r fun d M' Hb' H' v q f s' r' => ?_⟩⟩
  split at q
  · rename_i ds
    obtain ⟨a, vs, rfl, ha, rl⟩ := look_lst s' r' rfl
    have hm : M' a = none := by
      obtain ⟨a2, vs2, e2, h2, _⟩ := r'
      cases e2
      exact s'.apart h2
    refine ⟨a, vs, rfl, .inl (.inl ha), k _ M' Hb' H' _ q f s' fun Hb2 H2 M2 f2 s2 i => ?_⟩
    have ha2 := f2.keep a _ ha hm
    refine ⟨fun hi => ⟨vs, .inl (.inl ha2), by rw [← rl.length]; simpa using hi⟩, fun d hd => ?_⟩
    rw [List.getElem?_mapIdx] at hd
    cases e1 : ds[i]? with
    | none => rw [e1] at hd; cases hd
    | some d1 =>
      rw [e1] at hd
      cases hd
      obtain ⟨v, hv, rv⟩ := rl.get e1
      refine ⟨⟨vs, v, .inl (.inl ha2), hv⟩, fun x H3 y => ?_⟩
      obtain ⟨T, x1, rfl, nT, rfl, y⟩ := y
      have := y vs (.inl (.inl ha2))
      rw [hv] at this
      cases this
      obtain ⟨s3, f3⟩ := s2.frozen (o := .tup [.int (i : Nat), v]) nT
      exact ⟨_, f3, s3, T, _, rfl, upd_same, ⟨_, _, rfl, rfl, _, _, rfl, (rv.mono f2.same).mono f3.same, rfl⟩⟩
  · exact q.elim
/-- zip of two frozen lists, of two frozen tuples -/
def diZip (ta tb : DE) : DI := fun ρ M Q => ta ρ M fun x M1 => tb ρ M1 fun y M2 => match x, y with
  | .lst ds, .lst es => Q (List.zipWith (fun d e => .tup [d, e]) ds es) M2
  | .tup ds, .tup es => Q (List.zipWith (fun d e => .tup [d, e]) ds es) M2
  | _, _ => False
theorem zip_at {α β γ : Type} {f : α → β → γ} {xs : List α} {ys : List β} {i : Nat} {z : γ} (h : (List.zipWith f xs ys)[i]? = some z) : ∃ x y, xs[i]? = some x ∧ ys[i]? = some y ∧ z = f x y := by
  rw [List.getElem?_zipWith] at h
  split at h
  · rename_i x y e1 e2
    cases h
    exact ⟨x, y, e1, e2, rfl⟩
  · cases h
theorem di_zip {e2 : Expr} {p tpos : Pos} {elts : List Expr} {kk : Nat} (hg : Gl X "zip") (hm : X.mg "zip" = none) (h : PED X e ta) (h' : PED X e2 tb) (hst : starEach [e, e2] X.env = (false, eval e X.env) :: starEach [e2] X.env := by rfl) (hst' : starEach [e2] X.env = (false, eval e2 X.env) :: starEach [] X.env := by rfl)
    (hpl : (backTo pos (starEach [e2] X.env)).any (·.1) = false := by rfl) : PID X (.Tuple elts kk tpos) (.Call (.Name "zip" p) [e, e2] [] pos) (diZip ta tb) := by
  obtain ⟨⟨t1, a1, b1⟩⟩ := h
  obtain ⟨⟨t2, a2, b2⟩⟩ := h'
  refine ⟨⟨_, RZ.pi_zipA hg hm (pa_cons a1 (pa_cons a2 pa_nil hst') hst) hst hpl, fun ρ M QD h Hb σ H R s r k => two_args b1 b2 h s r fun d e M' Hb' H' v w q f s' r' r2' => ?_⟩⟩
  split at q
  · rename_i ds es
    obtain ⟨a, vs, rfl, ha, rl⟩ := look_lst s' r' rfl
    obtain ⟨b, ws, rfl, hb, rl2⟩ := look_lst s' r2' rfl
    have hm1 : M' a = none := by
      obtain ⟨a2, vs2, e2, h2, _⟩ := r'
      cases e2
      exact s'.apart h2
    have hm2 : M' b = none := by
      obtain ⟨a2, vs2, e2, h2, _⟩ := r2'
      cases e2
      exact s'.apart h2
    refine ⟨a, b, vs, ws, rfl, .inl ⟨.inl (.inl ha), .inl (.inl hb), k _ M' Hb' H' _ q f s' fun Hb2 H2 M2 f2 s2 i => ?_⟩⟩
    have ha2 := f2.keep a _ ha hm1
    have hb2 := f2.keep b _ hb hm2
    refine ⟨fun hi => ⟨vs, ws, .inl (.inl ha2), .inl (.inl hb2), by rw [← rl.length, ← rl2.length]; rw [List.length_zipWith] at hi; omega⟩, fun d hd => ?_⟩
    obtain ⟨d1, d2, e1, e2, rfl⟩ := zip_at hd
    obtain ⟨v, hv, rv⟩ := rl.get e1
    obtain ⟨w, hw, rw'⟩ := rl2.get e2
    refine ⟨⟨vs, ws, v, w, .inl (.inl ha2), .inl (.inl hb2), hv, hw⟩, fun x H3 y => ?_⟩
    obtain ⟨T, x1, x2, rfl, nT, rfl, y1, y2⟩ := y
    have z1 := y1 vs (.inl (.inl ha2))
    have z2 := y2 ws (.inl (.inl hb2))
    rw [hv] at z1
    rw [hw] at z2
    cases z1
    cases z2
    obtain ⟨s3, f3⟩ := s2.frozen (o := .tup [v, w]) nT
    exact ⟨_, f3, s3, T, _, rfl, upd_same, ⟨_, _, rfl, (rv.mono f2.same).mono f3.same, _, _, rfl, (rw'.mono f2.same).mono f3.same, rfl⟩⟩
  · rename_i ds es
    obtain ⟨a, vs, rfl, ha, rl⟩ := look_tup s' r' rfl
    obtain ⟨b, ws, rfl, hb, rl2⟩ := look_tup s' r2' rfl
    have hm1 : M' a = none := by
      obtain ⟨a2, vs2, e2, h2, _⟩ := r'
      cases e2
      exact s'.apart h2
    have hm2 : M' b = none := by
      obtain ⟨a2, vs2, e2, h2, _⟩ := r2'
      cases e2
      exact s'.apart h2
    refine ⟨a, b, vs, ws, rfl, .inr ⟨.inl (.inl ha), .inl (.inl hb), k _ M' Hb' H' _ q f s' fun Hb2 H2 M2 f2 s2 i => ?_⟩⟩
    have ha2 := f2.keep a _ ha hm1
    have hb2 := f2.keep b _ hb hm2
    refine ⟨fun hi => ⟨vs, ws, .inl (.inl ha2), .inl (.inl hb2), by rw [← rl.length, ← rl2.length]; rw [List.length_zipWith] at hi; omega⟩, fun d hd => ?_⟩
    obtain ⟨d1, d2, e1, e2, rfl⟩ := zip_at hd
    obtain ⟨v, hv, rv⟩ := rl.get e1
    obtain ⟨w, hw, rw'⟩ := rl2.get e2
    refine ⟨⟨vs, ws, v, w, .inl (.inl ha2), .inl (.inl hb2), hv, hw⟩, fun x H3 y => ?_⟩
    obtain ⟨T, x1, x2, rfl, nT, rfl, y1, y2⟩ := y
    have z1 := y1 vs (.inl (.inl ha2))
    have z2 := y2 ws (.inl (.inl hb2))
    rw [hv] at z1
    rw [hw] at z2
    cases z1
    cases z2
    obtain ⟨s3, f3⟩ := s2.frozen (o := .tup [v, w]) nT
    exact ⟨_, f3, s3, T, _, rfl, upd_same, ⟨_, _, rfl, (rv.mono f2.same).mono f3.same, _, _, rfl, (rw'.mono f2.same).mono f3.same, rfl⟩⟩
  · exact q.elim
/-! ### while -/
def dWhile (c : DT) (tb : DS) : DS := fun P ρ M => ∃ W : Nat → Env → Mp → Prop, (∃ m, W m ρ M) ∧ ∀ m ρ M, W m ρ M → c ρ M fun b M1 =>
  dIte b (tb { P with nx := fun ρ' M' => ∃ m', m' < m ∧ W m' ρ' M', ct := fun ρ' M' => ∃ m', m' < m ∧ W m' ρ' M', bk := P.nx } ρ M1) (P.nx ρ M1)
theorem ds_while {c : Expr} {body : List Stmt} (hp : PassesOwn (model X.prog X.w) X.A X.env X.xe) (hc : PTD X c tA) (hb : PSsD X body t) : PSD X (.While c body [] pos) (dWhile tA t) := by
  obtain ⟨⟨t1, a1, b1⟩⟩ := hc
  obtain ⟨⟨t2, a2, b2⟩⟩ := hb
  refine ⟨⟨_, ps_while hp a1 a2, fun P ρ M h Hb σ H E s r k => ?_⟩⟩
  obtain ⟨W, ⟨m0, w0⟩, ws⟩ := h
  refine ⟨fun m σ' H' => ∃ ρ' M' Hb', W m ρ' M' ∧ Fr Hb H M Hb' H' M' ∧ Sx Hb' H' M' ∧ EnvR Hb' σ' ρ', ⟨m0, ρ, M, Hb, w0, Fr.refl _ _ _, s, r⟩, ?_⟩
  rintro m σ' H' ⟨ρ', M', Hb', w, f, s', r'⟩
  refine b1 ρ' M' _ (ws m ρ' M' w) Hb' σ' H' _ s' r' fun b M1 Hb1 H1 q1 f1 s1 => ?_
  have ff := f.trans s' f1
  cases b with
  | true =>
    refine ite_tt ⟨fun σ2 H2 => ∃ m', m' < m ∧ ∃ ρ' M' Hb', W m' ρ' M' ∧ Fr Hb H M Hb' H2 M' ∧ Sx Hb' H2 M' ∧ EnvR Hb' σ2 ρ', fun σ2 H2 ⟨m', hm, z⟩ => ⟨m', hm, z⟩, ?_⟩
    exact b2 _ ρ' M1 (q1.1 rfl) Hb1 σ' H1 _ s1 (r'.mono f1.same) ⟨fun ρ5 M5 Hb5 σ5 H5 ⟨m', hm, q5⟩ f5 s5 r5 => ⟨m', hm, ρ5, M5, Hb5, q5, ff.trans s1 f5, s5, r5⟩, k.rt.fr s1 ff, k.nx.fr s1 ff,
      fun ρ5 M5 Hb5 σ5 H5 ⟨m', hm, q5⟩ f5 s5 r5 => ⟨m', hm, ρ5, M5, Hb5, q5, ff.trans s1 f5, s5, r5⟩⟩
  | false => exact ite_ff (k.nx _ _ _ _ _ (q1.2 rfl) ff s1 (r'.mono f1.same))
end
/-! ### comprehensions -/
theorem wipe_set_mem {j : Nat} {o : Option V} : ∀ {vs : List Nat} {σ : L2.St}, j ∈ vs → L2.wipe (σ.set j o) vs = L2.wipe σ vs
  | [], _, h => by cases h
  | v :: vs, σ, h => by
    unfold L2.wipe
    by_cases hj : j ∈ vs
    · rw [wipe_set_mem hj]
    · have e : j = v := by
        rcases List.mem_cons.mp h with z | z
        · exact z
        · exact absurd z hj
      subst e
      have : ∀ (us : List Nat) (τ : L2.St), j ∉ us → L2.wipe (τ.set j o) us = (L2.wipe τ us).set j o := by
        intro us
        induction us with
        | nil => intro τ _; rfl
        | cons u us ih =>
          intro τ hu
          unfold L2.wipe
          rw [ih τ (fun z => hu (List.mem_cons_of_mem _ z)), List.set_comm _ _ (fun z => hu (by rw [z]; exact List.mem_cons_self))]
      rw [this vs σ hj, List.set_set]
theorem wipe_idem : ∀ (vs : List Nat) (σ : L2.St), L2.wipe (L2.wipe σ vs) vs = L2.wipe σ vs
  | [], _ => rfl
  | v :: vs, σ => by
    have e : ∀ τ : L2.St, L2.wipe τ (v :: vs) = (L2.wipe τ vs).set v none := fun _ => rfl
    rw [e, e]
    by_cases hv : v ∈ vs
    · rw [wipe_set_mem hv, wipe_idem vs]
    · have : ∀ (us : List Nat) (τ : L2.St), v ∉ us → L2.wipe (τ.set v none) us = (L2.wipe τ us).set v none := by
        intro us
        induction us with
        | nil => intro τ _; rfl
        | cons u us ih =>
          intro τ hu
          unfold L2.wipe
          rw [ih τ (fun z => hu (List.mem_cons_of_mem _ z)), List.set_comm _ _ (fun z => hu (by rw [z]; exact List.mem_cons_self))]
      rw [this vs _ hv, List.set_set, wipe_idem vs]
/-- a comprehension's target: it sets own slots alone -/
abbrev CG := D → Env → Option Env
def GW (g : TG) (vs : List Nat) (gd : CG) : Prop := ∀ (d : D) (x : V) (Hb H : Hp) (M : Mp) (ρ ρ2 : Env) (σ : L2.St) (Q : L2.St → Hp → Prop), Sx Hb H M → Rep Hb d x → EnvR Hb (L2.wipe σ vs) ρ → gd d ρ = some ρ2 →
  (∀ σ2, EnvR Hb σ2 ρ2 → L2.wipe σ2 vs = L2.wipe σ vs → Q σ2 H) → g x (L2.wipe σ vs) H Q
def cgName (i : Nat) : CG := fun d ρ => some (ρ.set i (some d))
theorem gw_name {i : Nat} {vs : List Nat} (h : i ∈ vs) : GW (gName i) vs (cgName i) := fun d x Hb H M ρ ρ2 σ Q s r e z k => by
  cases z
  exact k _ (e.set i r) (by rw [wipe_set_mem h, wipe_idem])
def cgPair (i j : Nat) : CG := fun d ρ => match d with
  | .tup [a, b] => some ((ρ.set i (some a)).set j (some b))
  | _ => none
theorem gw_pair {K : PySem.W.Frag} {i j : Nat} {vs : List Nat} (h : i ∈ vs) (h' : j ∈ vs) : GW (gTup K 2 (gCons (gName i) (gCons (gName j) gNil))) vs (cgPair i j) := fun d x Hb H M ρ ρ2 σ Q s r e z k => by
  unfold cgPair at z
  split at z
  · rename_i a b
    cases z
    obtain ⟨p, ws, rfl, hp, rl⟩ := look_tup s r rfl
    obtain ⟨v1, vr, rfl, r1, v2, vr2, rfl, r2, h3⟩ := rl
    cases h3
    exact ⟨p, [v1, v2], rfl, .inl (.inl hp), rfl, v1, [v2], rfl, v2, [], rfl, rfl, k _ ((e.set i r1).set j r2) (by rw [wipe_set_mem h', wipe_set_mem h, wipe_idem])⟩
  · cases z
/-- the turns of a comprehension over the items ds -/
def dGather (ds : List D) (gd : CG) (tt : DT) (te : DE) (vs : List Nat) (ρ : Env) (M : Mp) (Q : List D → Mp → Prop) : Prop :=
  ds.length ≤ 16000000 ∧ ∃ W : Nat → List D → Mp → Prop, W 0 [] M ∧ (∀ (i : Nat) (d : D) (acc : List D) (M' : Mp), ds[i]? = some d → acc.length ≤ i → W i acc M' → ∃ ρ2, gd d (wipeD ρ vs) = some ρ2 ∧ tt ρ2 M' fun b M3 =>
    dIte b (te ρ2 M3 fun y M4 => W (i + 1) (acc ++ [y]) M4) (W (i + 1) acc M3)) ∧ ∀ acc M', acc.length ≤ ds.length → W ds.length acc M' → Q acc M'
def dLc (di : DI) (gd : CG) (tt : DT) (te : DE) (vs : List Nat) : DE := fun ρ M Q => di ρ M fun ds M1 => dGather ds gd tt te vs ρ M1 fun acc M2 => Q (.lst acc) M2
theorem gather_core {gt : TG} {gd : CG} {tt : DT} {te : DE} {ut : TT} {ue : TE} {vs : List Nat} (hg : GW gt vs gd) (ht : SndT ut tt) (he : SndE ue te) {ds : List D} {ρ : Env} {M : Mp} {QD : List D → Mp → Prop} (h : dGather ds gd tt te vs ρ M QD)
    {Hb H : Hp} {σ : L2.St} {Q : VK} {J : It} (s : Sx Hb H M) (r : EnvR Hb σ ρ) (k : OK Hb H M (fun x M' => ∃ acc, x = .lst acc ∧ QD acc M') Q) (it : ItD J Hb H M ds) {Dl : Addr} (hD : H Dl = none) :
    ∃ W : Nat → Nat → Hp → Prop, (∃ m, W 0 m (upd H Dl (.lst []))) ∧ ∀ i m H, W i m H →
      (J.stop i H ∧ Q (.ref Dl) H) ∨ (J.go i H ∧ ∃ Nx : Hp → Prop, (∀ H', Nx H' → ∃ m', m' < m ∧ W (i + 1) m' H') ∧ ∀ x H', J.yld i H x H' → gt x (L2.wipe σ vs) H' fun σ2 H2 => L2.wipe σ2 vs = L2.wipe σ vs ∧ ut σ2 H2 fun b H3 =>
        if b = true then ue σ2 H3 fun y H4 => ∃ acc, H4 Dl = some (.lst acc) ∧ acc.length < sizeLine ∧ Nx (upd H4 Dl (.lst (acc ++ [y]))) else Nx H3) := by
  obtain ⟨hl, W, w0, ws, we⟩ := h
  have hsz : 16000000 < sizeLine := by rw [sizeLine_eq]; decide
  obtain ⟨n1, n2⟩ := s.none_of hD
  let St (i : Nat) (H' : Hp) : Prop := ∃ acc M' Hb' xs, W i acc M' ∧ acc.length ≤ i ∧ Fr Hb H M Hb' H' M' ∧ Sx Hb' H' M' ∧ H' Dl = some (.lst xs) ∧ RepL Hb' acc xs ∧ Hb' Dl = none ∧ M' Dl = none
  obtain ⟨s0, f0⟩ := s.extra (o := .lst []) hD
  refine ⟨fun i m H' => m = ds.length - i ∧ i ≤ ds.length ∧ St i H', ⟨ds.length, rfl, Nat.zero_le _, [], M, Hb, [], w0, Nat.le_refl _, f0, s0, upd_same, rfl, n1, n2⟩, ?_⟩
  rintro i m H' ⟨rfl, hi, acc, M', Hb', xs, w, ha, f, s', hx, rx, m1, m2⟩
  obtain ⟨stop, go⟩ := it Hb' H' M' f s' i
  by_cases hlt : i < ds.length
  · obtain ⟨g1, g2⟩ := go _ (List.getElem?_eq_getElem hlt)
    refine .inr ⟨g1, St (i + 1), fun H2 q => ⟨ds.length - (i + 1), by omega, rfl, hlt, q⟩, fun x H3 y => ?_⟩
    obtain ⟨Hb3, f3, s3, r3⟩ := g2 x H3 y
    obtain ⟨ρ2, e2, q2⟩ := ws i _ acc M' (List.getElem?_eq_getElem hlt) ha w
    have ff3 := f.trans s' f3
    refine hg _ x Hb3 H3 M' _ ρ2 σ _ s3 r3 ((r.wipe vs).mono (f.trans s' f3).same) e2 fun σ2 rσ hw => ⟨hw, ?_⟩
    refine ht ρ2 M' _ q2 Hb3 σ2 H3 _ s3 rσ fun b M4 Hb4 H4 q4 f4 s4 => ?_
    have ff4 := ff3.trans s3 f4
    have x3 : H3 Dl = some (.lst xs) := f3.keep _ _ hx m2
    obtain ⟨y1, y2⟩ := f3.out _ _ hx m1 m2
    have x4 : H4 Dl = some (.lst xs) := f4.keep _ _ x3 y2
    obtain ⟨z1, z2⟩ := f4.out _ _ x3 y1 y2
    cases b with
    | true =>
      refine ite_tt (he ρ2 M4 _ (q4.1 rfl) Hb4 σ2 H4 _ s4 (rσ.mono f4.same) fun d M5 Hb5 H5 v q5 f5 s5 r5 => ?_)
      have x5 : H5 Dl = some (.lst xs) := f5.keep _ _ x4 z2
      obtain ⟨u1, u2⟩ := f5.out _ _ x4 z1 z2
      refine ⟨xs, x5, by rw [← rx.length]; omega, ?_⟩
      refine ⟨acc ++ [d], M5, Hb5, xs ++ [v], q5, by rw [List.length_append, List.length_singleton]; omega, ?_, ?_, upd_same, ((rx.mono f3.same).mono (f4.trans s4 f5).same).append (RepL.one r5), u1, u2⟩
      · have ff5 := ff4.trans s4 f5
        exact ⟨ff5.same, fun a o e q => by rw [upd_ne (ne_of_none e hD)]; exact ff5.keep a o e q, ff5.out⟩
      · refine ⟨fun a o e => ?_, fun p d' e => ?_⟩
        · rw [upd_ne (ne_of_none e u1)]
          exact s5.le a o e
        · rw [upd_ne (ne_cell e u2)]
          exact s5.cell p d' e
    | false => exact ite_ff ⟨acc, M4, Hb4, xs, q4.2 rfl, by omega, ff4, s4, x4, (rx.mono f3.same).mono f4.same, z1, z2⟩
  · have e : i = ds.length := by omega
    subst e
    refine .inl ⟨stop (Nat.le_refl _), ?_⟩
    -- the new list is frozen
    have sm : Same Hb' (upd Hb' Dl (.lst xs)) := fun b u e => by rw [upd_ne (ne_of_none e m1)]; exact e
    have s6 : Sx (upd Hb' Dl (.lst xs)) H' M' := by
      refine ⟨fun a u z => ?_, fun q d' z => ?_⟩
      · by_cases haD : a = Dl
        · subst haD
          rw [upd_same] at z
          cases z
          exact .inl hx
        · rw [upd_ne haD] at z
          exact s'.le a u z
      · obtain ⟨e1, u, e2, e3⟩ := s'.cell q d' z
        have hq : q ≠ Dl := ne_cell z m2
        exact ⟨by rw [upd_ne hq]; exact e1, u, e2, e3.mono sm⟩
    refine k (.lst acc) M' (upd Hb' Dl (.lst xs)) H' _ ⟨acc, rfl, we acc M' ha w⟩ ⟨f.same.trans sm, f.keep, fun a o e h1 h2 => ?_⟩ s6 ⟨Dl, xs, rfl, upd_same, rx.mono sm⟩
    obtain ⟨y1, y2⟩ := f.out a o e h1 h2
    exact ⟨by rw [upd_ne (ne_of_none e hD)]; exact y1, y2⟩
theorem snd_lc {wi : TI} {di : DI} {gt : TG} {gd : CG} {tt : DT} {te : DE} {ut : TT} {ue : TE} {vs : List Nat} (hi : SndI wi di) (hg : GW gt vs gd) (ht : SndT ut tt) (he : SndE ue te) : SndE (tLc wi gt ut ue vs) (dLc di gd tt te vs) := fun ρ M QD h Hb σ H Q s r k =>
  hi ρ M _ h Hb σ H _ s r fun ds M' Hb' H' J q f s' it Dl hD => gather_core hg ht he q s' (r.mono f.same) (fun d M2 Hb2 H2 v ⟨acc, e, q2⟩ f2 s2 r2 => (k.fr s' f) d M2 Hb2 H2 v (by rw [e]; exact q2) f2 s2 r2) it hD
def dYes : DT := fun _ M Q => Q true M
theorem snd_yes : SndT tYes dYes := fun ρ M QD h Hb σ H Q s r k => k true M Hb H h (Fr.refl _ _ _) s
structure PTsD (X : Cx) (ifs : List Expr) (td : DT) : Prop where
  ex : ∃ t, PTs X ifs t ∧ SndT t td
section
variable {X : Cx} {e a b c o i : Expr} {es : List Expr} {pos : Pos} {ta tb tc : DE} {da : DA} {tA tB' : DT} {di : DI}
theorem dts_nil : PTsD X [] dYes := ⟨⟨_, pts_nil, snd_yes⟩⟩
theorem dts_one {c : Expr} (h : PTD X c tA) : PTsD X [c] tA := by
  obtain ⟨⟨t, a, b⟩⟩ := h
  exact ⟨⟨t, pts_one a, b⟩⟩
/-- what of a comprehension's element and tests is to be shown: for every block -/
def Blk (X : Cx) (scope : Scope) (Φ : Cx → Prop) : Prop := ∀ (s : Shared) (H : Hp) (C : Addr) (cl : List (Str × Addr)) (fp : List Addr), Φ (X.blk s H scope (compEnvC scope cl C X.env) fp)
/-- the reading of HandS that a reading over data stands for -/
def lowE (td : DE) : TE := fun σ H Q => ∃ Hb ρ M QD, Sx Hb H M ∧ EnvR Hb σ ρ ∧ td ρ M QD ∧ OK Hb H M QD Q
def lowT (td : DT) : TT := fun σ H Q => ∃ Hb ρ M QD, Sx Hb H M ∧ EnvR Hb σ ρ ∧ td ρ M QD ∧ OKT Hb H M QD Q
theorem snd_lowE (td : DE) : SndE (lowE td) td := fun ρ M QD h Hb σ H Q s r k => ⟨Hb, ρ, M, QD, s, r, h, k⟩
theorem snd_lowT (td : DT) : SndT (lowT td) td := fun ρ M QD h Hb σ H Q s r k => ⟨Hb, ρ, M, QD, s, r, h, k⟩
theorem PED.low {td : DE} (h : PED X e td) : PE X e (lowE td) := by
  obtain ⟨⟨t, a, b⟩⟩ := h
  exact ⟨fun pins s σ H Q I ⟨Hb, ρ, M, QD, s1, r1, q, k⟩ => a.run pins s σ H Q I (b ρ M QD q Hb σ H Q s1 r1 k)⟩
theorem PTsD.low {td : DT} (h : PTsD X es td) : PTs X es (lowT td) := by
  obtain ⟨⟨t, a, b⟩⟩ := h
  exact ⟨fun pins s σ H Q I ⟨Hb, ρ, M, QD, s1, r1, q, k⟩ => a.run pins s σ H Q I (b ρ M QD q Hb σ H Q s1 r1 k)⟩
/-- [elt for tg in iter if ..] -/
theorem de_lc {elt tg iter : Expr} {ifs : List Expr} {scope : Scope} {own : List (Str × Nat)} {gt : TG} {gd : CG} {tt : DT} {te : DE} (hc : X.calm = true) (hN : X.N.Nodup) (hi : PID X tg iter di) (ok : BlkOk X.N X.env.scope scope own)
    (hg : Blk X scope fun Y => PG Y tg gt) (gw : GW gt (own.map (·.2)) gd) (ht : Blk X scope fun Y => PTsD Y ifs tt) (he : Blk X scope fun Y => PED Y elt te) (hs : ∀ x, foldedSetIterable iter X.env x = pure x := by intro _; rfl) :
    PED X (.ListComp elt [⟨tg, iter, ifs, 0⟩] scope pos) (dLc di gd tt te (own.map (·.2))) := by
  obtain ⟨⟨t0, a0, b0⟩⟩ := hi
  exact ⟨⟨_, pe_lc hc hN a0 ok hg (fun s H C cl fp => (ht s H C cl fp).low) (fun s H C cl fp => (he s H C cl fp).low) hs, snd_lc b0 gw (snd_lowT _) (snd_lowE _)⟩⟩
theorem ds_setLc {i : Nat} {y : Str} {py spos : Pos} {elt tg iter : Expr} {ifs : List Expr} {scope : Scope} {own : List (Str × Nat)} {gt : TG} {gd : CG} {tt : DT} {te : DE} (hc : X.calm = true) (hN : X.N.Nodup) (hi : PID X tg iter di) (ok : BlkOk X.N X.env.scope scope own)
    (hg : Blk X scope fun Y => PG Y tg gt) (gw : GW gt (own.map (·.2)) gd) (ht : Blk X scope fun Y => PTsD Y ifs tt) (he : Blk X scope fun Y => PED Y elt te)
    (hy : X.N[i]? = some y := by rfl) (hyl : X.env.scope.names.lookup y = some .local := by rfl) (hsw : swapsWith (.ListComp elt [⟨tg, iter, ifs, 0⟩] scope pos) (some (.Name y py)) spos.line X.env = pure true := by exact sw_true rfl rfl rfl (by decide +kernel))
    (hs : ∀ x, foldedSetIterable iter X.env x = pure x := by intro _; rfl) :
    PSD X (.Assign [.Name y py] (.ListComp elt [⟨tg, iter, ifs, 0⟩] scope pos) spos) (dAsg (dLc di gd tt te (own.map (·.2))) (dName i)) := by
  obtain ⟨⟨t0, a0, b0⟩⟩ := hi
  exact ⟨⟨_, ps_setLc hc hN hy hyl hsw a0 ok hg (fun s H C cl fp => (ht s H C cl fp).low) (fun s H C cl fp => (he s H C cl fp).low) hs, snd_asg (snd_lc b0 gw (snd_lowT _) (snd_lowE _)) (snd_name i)⟩⟩
end
end DL

/-! part DCall -/
set_option maxHeartbeats 0
namespace DL
open PySem PySem.Spec PyProof.Rows L2
/-! ### promises over data -/
abbrev SpD := List D → Mp → DK → Prop
def liftSp (spd : SpD) : Sp := fun vs H Q _ => ∃ Hb ds M QD, Sx Hb H M ∧ RepL Hb ds vs ∧ spd ds M QD ∧ OK Hb H M QD Q
abbrev FnD (P : Program) (w : World) (K : PySem.W.Frag) (mg : Str → Option Value) (base : Heap) (k : Nat) (f : Addr) (fd : FuncData) (ps : List Str) (spd : SpD) : Prop := FnOk P w K mg base CX0 k f fd ps (liftSp spd)
def startD (N : List Str) (ds : List D) : Env := ds.map some ++ List.replicate (N.length - ds.length) none
theorem start_env {Hb : Hp} {N : List Str} {ds : List D} {vs : List V} (h : RepL Hb ds vs) : EnvR Hb (L2.start N vs) (startD N ds) := by
  have hl := h.length
  refine ⟨by unfold L2.start startD; rw [List.length_append, List.length_append, List.length_map, List.length_map, hl, List.length_replicate, List.length_replicate], fun i d z => ?_⟩
  unfold startD at z
  by_cases hi : i < ds.length
  · rw [List.getElem?_append_left (by rw [List.length_map]; exact hi), List.getElem?_map] at z
    cases e : ds[i]? with
    | none => rw [e] at z; cases z
    | some d' =>
      rw [e] at z
      cases z
      obtain ⟨v, hv, r⟩ := h.get e
      refine ⟨v, ?_, r⟩
      unfold L2.start
      rw [List.getElem?_append_left (by rw [List.length_map, ← hl]; exact hi), List.getElem?_map, hv]
      rfl
  · rw [List.getElem?_append_right (by rw [List.length_map]; omega)] at z
    rw [List.getElem?_replicate] at z
    split at z <;> cases z
/-- a body's ends: what is left behind of cells may be forgotten -/
def endsD (Q : DK) : DEnds := ⟨fun _ M' => ∃ M0, SubM M0 M' ∧ Q .non M0, fun d M' => ∃ M0, SubM M0 M' ∧ Q d M0, fun _ _ => False, fun _ _ => False⟩
section
variable {P : Program} {w : World} {K : PySem.W.Frag} {mg : Str → Option Value} {base : Heap}
/-- THE RULE for a def -/
theorem okD {x qual : Str} {st : Stmt} {f : Addr} {fd : FuncData} {N ps : List Str} {k : Nat} {spd : SpD} {td : DS} (F : Fun K x qual st f fd) (S : FnScope N ps (defScope st)) (len : ∀ ds M Q, spd ds M Q → ds.length = ps.length)
    (hb : ∀ (cdv : Value) (A : Around) (outer : List PySem.Env) (s : Shared) (H : Hp) (E : XK), Room k (A.deeper (envOfC qual (defScope st) s.heap.objs.size f cdv)) →
      PSsD (cxOf CX0 P w K mg base N qual (defScope st) f cdv A outer s H E).nox (defBody st) td)
    (hr : ∀ ds M Q, spd ds M Q → td (endsD Q) (startD N ds) M) : FnD P w K mg base (k + 1) f fd ps spd := by
  refine F.ok S (fun vs H Q E h => ?_) (fun cdv A outer s H vs Q E hroom h => ?_)
  · obtain ⟨Hb, ds, M, QD, s, r, h1, _⟩ := h
    rw [← r.length]
    exact len ds M QD h1
  · obtain ⟨⟨t, a, b⟩⟩ := hb cdv A outer s H E hroom
    obtain ⟨Hb, ds, M, QD, s1, r, h1, k1⟩ := h
    refine ⟨t, a, b _ _ M (hr ds M QD h1) Hb _ H _ s1 (start_env r) ⟨fun ρ' M' Hb' σ' H' q f s' r' => ?_, fun d M' Hb' H' v q f s' r' => ?_, fun ρ' M' Hb' σ' H' q f s' r' => q.elim, fun ρ' M' Hb' σ' H' q f s' r' => q.elim⟩⟩
    · obtain ⟨M0, h0, q0⟩ := q
      obtain ⟨s2, f2⟩ := s'.weak h0
      exact k1 .non M0 Hb' H' .non q0 (f.trans s' f2) s2 rfl
    · obtain ⟨M0, h0, q0⟩ := q
      obtain ⟨s2, f2⟩ := s'.weak h0
      exact k1 d M0 Hb' H' v q0 (f.trans s' f2) s2 r'
end
/-! ### calls -/
section
variable {X : Cx} {e a b c o i : Expr} {es : List Expr} {pos : Pos} {ta tb tc : DE} {da : DA} {k : Nat} {f C : Addr} {fd : FuncData} {ps : List Str} {spd : SpD} {x m : Str} {p apos : Pos}
def dCall (spd : SpD) (da : DA) : DE := fun ρ M Q => da ρ M fun ds M1 => spd ds M1 Q
theorem snd_call {u : TA} (h : SndA u da) {E : XK} : SndE (tCall (liftSp spd) [] E u) (dCall spd da) := fun ρ M QD q Hb σ H Q s r kk =>
  h ρ M _ q Hb σ H _ s r fun ds M1 Hb1 H1 vs q1 f1 s1 r1 => ⟨Hb1, ds, M1, QD, s1, by rw [List.append_nil]; exact r1, q1, kk.fr s1 f1⟩
/-- f(e, ..) -/
theorem de_call (F : FnD X.prog X.w X.K X.mg X.base k f fd ps spd) (hr : Room k X.A) (hg : Gl X x) (hm : X.mg x = some (.ref f)) (hk : PySem.W.keepIn X.K (.ref f) = true) (hb : Binds X.K fd ps []) (ha : PAD X (e :: es) da)
    (hdb : (x == ("__debug__" : Str)) = false := by decide) (he : starEach (e :: es) X.env = (false, eval e X.env) :: starEach es X.env := by rfl) (hpl : (backTo pos (starEach es X.env)).any (·.1) = false := by rfl) :
    PED X (.Call (.Name x p) (e :: es) [] pos) (dCall spd da) := by
  obtain ⟨⟨u, a1, b1⟩⟩ := ha
  exact ⟨⟨_, pe_call F hr hg hm hk hb .nil pass0 a1 hdb he hpl, snd_call b1⟩⟩
theorem de_call0 (F : FnD X.prog X.w X.K X.mg X.base k f fd ps spd) (hr : Room k X.A) (hg : Gl X x) (hm : X.mg x = some (.ref f)) (hk : PySem.W.keepIn X.K (.ref f) = true) (hb : Binds X.K fd ps [])
    (hdb : (x == ("__debug__" : Str)) = false := by decide) : PED X (.Call (.Name x p) [] [] pos) (dCall spd dNil) :=
  ⟨⟨_, pe_call0 F hr hg hm hk hb .nil pass0 hdb, snd_call (u := tNil) fun ρ M QD h Hb σ H Q s r kk => kk [] M Hb H [] h (Fr.refl _ _ _) s rfl⟩⟩
/-- o.m(e, ..) of an instance of the class at C -/
def dMeth (C : Addr) (m : Str) (spd : SpD) (ta : DE) (da : DA) : DE := fun ρ M Q => ta ρ M fun x M1 => match look M1 x with
  | some (.ins C' fs _) => C' = C ∧ m ∉ fs ∧ da ρ M1 fun ds M2 => spd (x :: ds) M2 Q
  | _ => False
theorem look_zip {fs : List Str} {vs : List V} {m : Str} (h : m ∉ fs) : (fs.zip vs).lookup m = none := by
  induction fs generalizing vs with
  | nil => rfl
  | cons f r ih =>
    cases vs with
    | nil => rfl
    | cons v vr =>
      rw [List.zip_cons_cons, List.lookup_cons]
      have e : (m == f) = false := by
        rw [beq_eq_false_iff_ne]
        intro z
        exact h (by rw [z]; exact List.mem_cons_self)
      rw [e]
      exact ih fun z => h (List.mem_cons_of_mem _ z)
theorem snd_meth {t1 : TE} {u : TA} (h1 : SndE t1 ta) (h2 : SndA u da) {E : XK} : SndE (tMeth C m (liftSp spd) [] E t1 u) (dMeth C m spd ta da) := fun ρ M QD q Hb σ H Q s r kk =>
  h1 ρ M _ q Hb σ H _ s r fun x M1 Hb1 H1 v q1 f1 s1 r1 => by
    dsimp only at q1
    split at q1
    · rename_i C' fs ds' e1
      obtain ⟨rfl, hm, q1⟩ := q1
      obtain ⟨a, dx, ws, rfl, ha, _, _⟩ := look_ins s1 r1 e1
      refine ⟨a, dx, _, rfl, ha, look_zip hm, ?_⟩
      refine h2 ρ M1 _ q1 Hb1 σ H1 _ s1 (r.mono f1.same) fun ds M2 Hb2 H2 vs q2 f2 s2 r2 => ⟨Hb2, x :: ds, M2, QD, s2, ⟨_, _, rfl, r1.mono f2.same, by rw [List.append_nil]; exact r2⟩, q2, kk.fr s2 (f1.trans s1 f2)⟩
    · exact q1.elim
theorem de_meth {pl : Sem Bool} (ho : PED X o ta) (c : Cls X.K C) (hm : Meth X.K C m f) (F : FnD X.prog X.w X.K X.mg X.base k f fd ps spd) (hr : Room k X.A) (hb : Binds X.K fd ps []) (ha : PAD X (e :: es) da)
    (hst : starEach (e :: es) X.env = (false, eval e X.env) :: starEach es X.env := by rfl) (hpl : (backTo pos (starEach es X.env)).any (·.1) = false := by rfl)
    (ht : eval (.Call (.Attribute o m apos) (e :: es) [] pos) X.env = (do
      let ov ← eval o X.env
      standAt apos.atName
      let (f, first) ← holding [ov] (getMethod ov m pl)
      callWith pos f first (backTo pos (starEach (e :: es) X.env)) (backToKw pos (keywordEach [] X.env))) := by rfl) :
    PED X (.Call (.Attribute o m apos) (e :: es) [] pos) (dMeth C m spd ta da) := by
  obtain ⟨⟨t1, a1, b1⟩⟩ := ho
  obtain ⟨⟨u, a2, b2⟩⟩ := ha
  exact ⟨⟨_, pe_meth a1 c hm F hr hb .nil pass0 a2 hst hpl ht, snd_meth b1 b2⟩⟩
theorem de_meth0 {pl : Sem Bool} (ho : PED X o ta) (c : Cls X.K C) (hm : Meth X.K C m f) (F : FnD X.prog X.w X.K X.mg X.base k f fd ps spd) (hr : Room k X.A) (hb : Binds X.K fd ps [])
    (ht : eval (.Call (.Attribute o m apos) [] [] pos) X.env = (do
      let ov ← eval o X.env
      standAt apos.atName
      let (f, first) ← holding [ov] (getMethod ov m pl)
      callWith pos f first (backTo pos (starEach [] X.env)) (backToKw pos (keywordEach [] X.env))) := by rfl) :
    PED X (.Call (.Attribute o m apos) [] [] pos) (dMeth C m spd ta dNil) := by
  obtain ⟨⟨t1, a1, b1⟩⟩ := ho
  exact ⟨⟨_, pe_meth0 a1 c hm F hr hb .nil pass0 ht, snd_meth (u := tNil) b1 fun ρ M QD h Hb σ H Q s r kk => kk [] M Hb H [] h (Fr.refl _ _ _) s rfl⟩⟩
/-- C(e, ..): a new instance, frozen behind its __init__ -/
def dMake (C : Addr) (spd : SpD) (da : DA) : DE := fun ρ M Q => da ρ M fun ds M1 => ∀ p, M1 p = none → spd (.cell p :: ds) (updM M1 p (.ins C [] [])) fun d M2 => d = .non ∧ ∃ z, M2 p = some z ∧ Q z (delM M2 p)
theorem snd_make {u : TA} (h : SndA u da) {E : XK} : SndE (tMake C (liftSp spd) [] E u) (dMake C spd da) := fun ρ M QD q Hb σ H Q s r kk =>
  h ρ M _ q Hb σ H _ s r fun ds M1 Hb1 H1 vs q1 f1 s1 r1 p dx hp hdx hne => by
    obtain ⟨s2, f2⟩ := s1.extra (o := .own p) hdx
    have hp2 : (upd H1 dx (.own p)) p = none := by rw [upd_ne hne.symm]; exact hp
    obtain ⟨s3, f3⟩ := s2.newCell (o := .ins C dx []) (d := .ins C [] []) hp2 ⟨dx, [], rfl, rfl, rfl⟩
    have f03 := (f1.trans s1 f2).trans s2 f3
    refine ⟨Hb1, .cell p :: ds, _, _, s3, ⟨_, _, rfl, rfl, by rw [List.append_nil]; exact r1⟩, q1 p (s1.none_of hp).2, fun d M2 Hb2 H2 v q2 f4 s4 r4 => ?_⟩
    obtain ⟨rfl, z, e1, q3⟩ := q2
    obtain ⟨Hb5, s5, f5, r5⟩ := s4.freeze e1
    exact ⟨r4, kk z _ Hb5 H2 _ q3 ((f03.trans s3 f4).trans s4 f5) s5 r5⟩
theorem de_make (M : Mk X.K C f) (F : FnD X.prog X.w X.K X.mg X.base k f fd ps spd) (hr : Room (k + 1) X.A) (hg : Gl X x) (hm : X.mg x = some (.ref C)) (hb : Binds X.K fd ps []) (ha : PAD X (e :: es) da)
    (hdb : (x == ("__debug__" : Str)) = false := by decide) (he : starEach (e :: es) X.env = (false, eval e X.env) :: starEach es X.env := by rfl) (hpl : (backTo pos (starEach es X.env)).any (·.1) = false := by rfl) :
    PED X (.Call (.Name x p) (e :: es) [] pos) (dMake C spd da) := by
  obtain ⟨⟨u, a1, b1⟩⟩ := ha
  exact ⟨⟨_, by first | exact pe_make M F hr hg hm hb .nil pass0 a1 hdb he hpl | exact pe_make M F hr hg hm hb .nil pass0 a1, snd_make b1⟩⟩
/-! ### fields -/
def fldD : List Str → List D → Str → Option D
  | f :: fs, d :: ds, m => if f = m then some d else fldD fs ds m
  | _, _, _ => none
theorem fld_look {Hb : Hp} {m : Str} {d : D} : ∀ {fs : List Str} {ds : List D} {vs : List V}, RepL Hb ds vs → fldD fs ds m = some d → ∃ v, (fs.zip vs).lookup m = some v ∧ Rep Hb d v
  | [], _, _, _, h => by cases h
  | f :: fs, [], _, _, h => by cases h
  | f :: fs, d' :: ds, _, ⟨v, vr, h1, h2, h3⟩, h => by
    cases h1
    unfold fldD at h
    by_cases e : f = m
    · rw [if_pos e] at h
      cases h
      exact ⟨v, by rw [List.zip_cons_cons, List.lookup_cons, e, beq_self_eq_true], h2⟩
    · rw [if_neg e] at h
      obtain ⟨w, a, b⟩ := fld_look h3 h
      refine ⟨w, ?_, b⟩
      rw [List.zip_cons_cons, List.lookup_cons]
      have : (m == f) = false := by
        rw [beq_eq_false_iff_ne]
        exact fun z => e z.symm
      rw [this]
      exact a
def dFld (C : Addr) (m : Str) (ta : DE) : DE := fun ρ M Q => ta ρ M fun x M1 => match look M1 x with
  | some (.ins C' fs ds) => C' = C ∧ ∃ d, fldD fs ds m = some d ∧ Q d M1
  | _ => False
theorem de_fld (c : Cls X.K C) (n : NoAttr X.K C m) (h : PED X e ta) (hb : attributeBase e m X.env (eval e X.env) = eval e X.env := by rfl) : PED X (.Attribute e m pos) (dFld C m ta) := by
  obtain ⟨⟨t1, a1, b1⟩⟩ := h
  refine ⟨⟨_, pe_fld a1 hb, fun ρ M QD q Hb σ H Q s r kk => b1 ρ M _ q Hb σ H _ s r fun x M1 Hb1 H1 v q1 f1 s1 r1 => ?_⟩⟩
  dsimp only at q1
  split at q1
  · rename_i C' fs ds e1
    obtain ⟨rfl, d, e2, q2⟩ := q1
    obtain ⟨a, dx, vs, rfl, ha, _, rl⟩ := look_ins s1 r1 e1
    obtain ⟨v, h1, h2⟩ := fld_look rl e2
    exact ⟨a, C', dx, _, v, rfl, ha, c, n, h1, kk d M1 Hb1 H1 v q2 f1 s1 h2⟩
  · exact q1.elim
/-- o.f = e, the object a cell, the field new (or there) -/
def putFD (m : Str) (d : D) : List Str → List D → List Str × List D
  | f :: fs, x :: ds => if f = m then (f :: fs, d :: ds) else ((f :: (putFD m d fs ds).1), (x :: (putFD m d fs ds).2))
  | _, _ => ([m], [d])
theorem putF_zip {Hb : Hp} {m : Str} {d : D} {v : V} (hv : Rep Hb d v) : ∀ {fs : List Str} {ds : List D} {vs : List V}, RepL Hb ds vs → fs.length = ds.length →
    ∃ ws, putF m v (fs.zip vs) = ((putFD m d fs ds).1).zip ws ∧ ((putFD m d fs ds).1).length = ((putFD m d fs ds).2).length ∧ RepL Hb (putFD m d fs ds).2 ws
  | [], [], _, h, _ => by
    cases h
    exact ⟨[v], rfl, rfl, RepL.one hv⟩
  | [], _ :: _, _, _, h => by cases h
  | _ :: _, [], _, _, h => by cases h
  | f :: fs, x :: ds, _, ⟨w, vr, h1, h2, h3⟩, hl => by
    cases h1
    have hl' : fs.length = ds.length := by simpa using hl
    by_cases e : f = m
    · refine ⟨v :: vr, ?_, ?_, ?_⟩
      · show (if f = m then _ else _) = _
        rw [if_pos e]
        unfold putFD
        rw [if_pos e]
        rfl
      · unfold putFD
        rw [if_pos e]
        exact hl
      · unfold putFD
        rw [if_pos e]
        exact ⟨v, vr, rfl, hv, h3⟩
    · obtain ⟨ws, i1, i2, i3⟩ := putF_zip hv h3 hl'
      refine ⟨w :: ws, ?_, ?_, ?_⟩
      · show (if f = m then _ else _) = _
        rw [if_neg e]
        unfold putFD
        rw [if_neg e]
        show _ :: putF m v (fs.zip vr) = _
        rw [i1]
        rfl
      · unfold putFD
        rw [if_neg e]
        simp only [List.length_cons, i2]
      · unfold putFD
        rw [if_neg e]
        exact ⟨w, ws, rfl, h2, i3⟩
def dFldS (C : Addr) (m : Str) (ta tv : DE) : DS := fun P ρ M => tv ρ M fun d M1 => ta ρ M1 fun x M2 => match x with
  | .cell p => ∃ fs ds, M2 p = some (.ins C fs ds) ∧ ds.length < 900 ∧ P.nx ρ (updM M2 p (.ins C (putFD m d fs ds).1 (putFD m d fs ds).2))
  | _ => False
theorem ds_fld {value : Expr} {pos' : Pos} (c : Cls X.K C) (n : NoAttr X.K C m) (h : PED X o ta) (hv : PED X value tb) (hs : swapsWith value (some (.Attribute o m pos')) pos.line X.env = pure false := by rfl) :
    PSD X (.Assign [.Attribute o m pos'] value pos) (dFldS C m ta tb) := by
  obtain ⟨⟨t1, a1, b1⟩⟩ := h
  obtain ⟨⟨t2, a2, b2⟩⟩ := hv
  refine ⟨⟨_, by first | exact ps_fld a1 a2 hs | exact ps_fld a1 a2, fun P ρ M q Hb σ H E s r kk => b2 ρ M _ q Hb σ H _ s r fun d M1 Hb1 H1 v q1 f1 s1 r1 => b1 ρ M1 _ q1 Hb1 σ H1 _ s1 (r.mono f1.same) fun x M2 Hb2 H2 w q2 f2 s2 r2 => ?_⟩⟩
  dsimp only at q2
  split at q2
  · rename_i p
    obtain ⟨fs, ds, e1, h9, q3⟩ := q2
    obtain ⟨_, o', e2, dx, vs, rfl, hl, rl⟩ := s2.cell p _ e1
    obtain ⟨ws, i1, i2, i3⟩ := putF_zip (m := m) (r1.mono f2.same) rl hl
    cases (show w = V.ref p from r2)
    obtain ⟨s3, f3⟩ := s2.mut (o := .ins C dx (putF m v (fs.zip vs))) (d := .ins C (putFD m d fs ds).1 (putFD m d fs ds).2) e1 ⟨dx, ws, by rw [i1], i2, i3⟩
    refine ⟨p, C, dx, _, rfl, e2, c, n, ?_, kk.nx _ _ _ _ _ q3 ((f1.trans s1 f2).trans s2 f3) s3 (((r.mono f1.same).mono f2.same).mono f3.same)⟩
    rw [List.length_zip, hl, rl.length, Nat.min_self, ← rl.length]
    omega
  · exact q2.elim
end
end DL

/-! part DOps -/
set_option maxHeartbeats 0
namespace DL
open PySem PySem.Spec PyProof.Rows L2
section
variable {X : Cx} {e a b c o i f : Expr} {es : List Expr} {pos p apos : Pos} {ta tb tc : DE} {da : DA} {tA : DT} {x : Str}
/-! ### subscripts -/
theorem atI_rep {Hb : Hp} {ds : List D} {vs : List V} {i : Int} {d : D} (r : RepL Hb ds vs) (h : atI ds i = some d) : ∃ v, atI vs i = some v ∧ Rep Hb d v := by
  unfold atI at h ⊢
  rw [← r.length]
  cases e : ixN ds.length i with
  | none => rw [e] at h; cases h
  | some j =>
    rw [e] at h
    exact r.get h
/-- x[i] of a list (frozen or a cell), of a tuple, of a text -/
def dIx : DR := fun x y M Q => match look M x, y with
  | some (.lst ds), .int i => ∃ d, atI ds i = some d ∧ Q d M
  | some (.tup ds), .int i => ∃ d, atI ds i = some d ∧ Q d M
  | _, _ => False
theorem de_ix (ha : PED X a ta) (hb : PED X b tb) (hs : PlainIx b := by intro _ _; rfl) : PED X (.Subscript a b pos) (dOp dIx ta tb) := by
  obtain ⟨⟨ua, h3, h4⟩⟩ := ha
  obtain ⟨⟨ub, h5, h6⟩⟩ := hb
  refine ⟨⟨_, pe_ix ix_seq h3 h5 hs, snd_op (fun x y M QD h Hb H vx vy Q s rx ry k => ?_) h4 h6⟩⟩
  unfold dIx at h
  split at h
  · rename_i ds j e1
    obtain ⟨d, e2, q⟩ := h
    obtain ⟨p, vs, rfl, hp, rl⟩ := look_lst s rx e1
    cases (show vy = V.int j from ry)
    obtain ⟨v, e3, r3⟩ := atI_rep rl e2
    exact .inl ⟨p, vs, j, v, rfl, rfl, .inl (.inl hp), e3, k d M Hb H v q (Fr.refl _ _ _) s r3⟩
  · rename_i ds j e1
    obtain ⟨d, e2, q⟩ := h
    obtain ⟨p, vs, rfl, hp, rl⟩ := look_tup s rx e1
    cases (show vy = V.int j from ry)
    obtain ⟨v, e3, r3⟩ := atI_rep rl e2
    exact .inr (.inl ⟨p, vs, j, v, rfl, rfl, .inl (.inl hp), e3, k d M Hb H v q (Fr.refl _ _ _) s r3⟩)
  · exact h.elim
def dIxS : DR := fun x y M Q => match x, y with
  | .str z, .int i => z.length ≤ sizeLine ∧ ∃ c, atI z.cps.toList i = some c ∧ Q (.str ⟨#[c]⟩) M
  | _, _ => False
theorem de_ixS (ha : PED X a ta) (hb : PED X b tb) (hs : PlainIx b := by intro _ _; rfl) : PED X (.Subscript a b pos) (dOp dIxS ta tb) := by
  obtain ⟨⟨ua, h3, h4⟩⟩ := ha
  obtain ⟨⟨ub, h5, h6⟩⟩ := hb
  refine ⟨⟨_, pe_ix ix_str h3 h5 hs, snd_op (fun x y M QD h Hb H vx vy Q s rx ry k => ?_) h4 h6⟩⟩
  unfold dIxS at h
  split at h
  · rename_i z j
    obtain ⟨hz, c, e2, q⟩ := h
    cases (show vx = V.str z from rx)
    cases (show vy = V.int j from ry)
    exact ⟨z, j, c, rfl, rfl, hz, e2, k _ M Hb H _ q (Fr.refl _ _ _) s rfl⟩
  · exact h.elim
/-- parts of a slice -/
abbrev DO := Env → Mp → (Option Int → Mp → Prop) → Prop
def SndO (t : TO) (td : DO) : Prop := ∀ ρ M QD, td ρ M QD → ∀ Hb σ H (Q : Option Int → Hp → Prop), Sx Hb H M → EnvR Hb σ ρ → (∀ z M' Hb' H', QD z M' → Fr Hb H M Hb' H' M' → Sx Hb' H' M' → Q z H') → t σ H Q
structure POD (X : Cx) (e : Option Expr) (td : DO) : Prop where
  ex : ∃ t, PO X e t ∧ SndO t td
def dNoPart : DO := fun _ M Q => Q none M
def dPart (ta : DE) : DO := fun ρ M Q => ta ρ M fun x M1 => match x with
  | .int i => Q (some i) M1
  | _ => False
theorem do_none : POD X none dNoPart := ⟨⟨_, po_none, fun ρ M QD h Hb σ H Q s r k => k none M Hb H h (Fr.refl _ _ _) s⟩⟩
theorem do_some (h : PED X e ta) : POD X (some e) (dPart ta) := by
  obtain ⟨⟨ua, h3, h4⟩⟩ := h
  refine ⟨⟨_, po_some h3, fun ρ M QD h Hb σ H Q s r k => h4 ρ M _ h Hb σ H _ s r fun d M1 Hb1 H1 v q1 f1 s1 r1 => ?_⟩⟩
  dsimp only at q1
  split at q1
  · rename_i j
    cases (show v = V.int j from r1)
    exact ⟨j, rfl, k _ M1 Hb1 H1 q1 f1 s1⟩
  · exact q1.elim
def cutD (ds : List D) (lo hi : Option Int) : List D := (ds.drop (HT.sIx ds.length 0 lo)).take (HT.sIx ds.length ds.length hi - HT.sIx ds.length 0 lo)
def dSl (ta : DE) (tl th : DO) : DE := fun ρ M Q => ta ρ M fun x M1 => tl ρ M1 fun l M2 => th ρ M2 fun u M3 => match look M3 x with
  | some (.lst ds) => Q (.lst (cutD ds l u)) M3
  | _ => False
theorem de_sl {lo hi : Option Expr} {tl th : DO} {p2 : Pos} (h : PED X e ta) (hl : POD X lo tl) (hh : POD X hi th) : PED X (.Subscript e (.Slice lo hi none p2) pos) (dSl ta tl th) := by
  obtain ⟨⟨ua, h3, h4⟩⟩ := h
  obtain ⟨⟨ul, h5, h6⟩⟩ := hl
  obtain ⟨⟨uh, h7, h8⟩⟩ := hh
  refine ⟨⟨_, pe_slice sl_list h3 h5 h7, fun ρ M QD h Hb σ H Q s r k => h4 ρ M _ h Hb σ H _ s r fun x M1 Hb1 H1 v q1 f1 s1 r1 => h6 ρ M1 _ q1 Hb1 σ H1 _ s1 (r.mono f1.same) fun l M2 Hb2 H2 q2 f2 s2 =>
    h8 ρ M2 _ q2 Hb2 σ H2 _ s2 ((r.mono f1.same).mono f2.same) fun u M3 Hb3 H3 q3 f3 s3 => ?_⟩⟩
  split at q3
  · rename_i ds e1
    obtain ⟨a, vs, rfl, ha, rl⟩ := look_lst s3 ((r1.mono f2.same).mono f3.same) e1
    refine ⟨a, vs, rfl, .inl (.inl ha), fun p hp => ?_⟩
    obtain ⟨s4, f4⟩ := s3.frozen (o := .lst (cutV vs l u)) hp
    have rc : RepL Hb3 (cutD ds l u) (cutV vs l u) := by
      unfold cutV cutD
      rw [← rl.length]
      exact (rl.drop _).take _
    exact k _ M3 _ _ _ q3 (((f1.trans s1 f2).trans s2 f3).trans s3 f4) s4 ⟨p, _, rfl, upd_same, rc.mono f4.same⟩
  · exact q3.elim
def dSlS (ta : DE) (tl th : DO) : DE := fun ρ M Q => ta ρ M fun x M1 => tl ρ M1 fun l M2 => th ρ M2 fun u M3 => match x with
  | .str z => z.length ≤ sizeLine ∧ Q (.str (cutS z l u)) M3
  | _ => False
theorem de_slS {lo hi : Option Expr} {tl th : DO} {p2 : Pos} (h : PED X e ta) (hl : POD X lo tl) (hh : POD X hi th) : PED X (.Subscript e (.Slice lo hi none p2) pos) (dSlS ta tl th) := by
  obtain ⟨⟨ua, h3, h4⟩⟩ := h
  obtain ⟨⟨ul, h5, h6⟩⟩ := hl
  obtain ⟨⟨uh, h7, h8⟩⟩ := hh
  refine ⟨⟨_, pe_slice sl_str h3 h5 h7, fun ρ M QD h Hb σ H Q s r k => h4 ρ M _ h Hb σ H _ s r fun x M1 Hb1 H1 v q1 f1 s1 r1 => h6 ρ M1 _ q1 Hb1 σ H1 _ s1 (r.mono f1.same) fun l M2 Hb2 H2 q2 f2 s2 =>
    h8 ρ M2 _ q2 Hb2 σ H2 _ s2 ((r.mono f1.same).mono f2.same) fun u M3 Hb3 H3 q3 f3 s3 => ?_⟩⟩
  split at q3
  · rename_i z
    cases (show v = V.str z from r1)
    exact ⟨z, rfl, q3.1, k _ M3 Hb3 H3 _ q3.2 ((f1.trans s1 f2).trans s2 f3) s3 rfl⟩
  · exact q3.elim
/-! ### in -/
def flatD : D → Bool
  | .non => true
  | .bl _ => true
  | .int _ => true
  | .str _ => true
  | _ => false
def eqD : D → D → Bool
  | .non, .non => true
  | .bl a, .bl b => a == b
  | .bl a, .int b => (if a then 1 else 0) == b
  | .int a, .bl b => a == (if b then 1 else 0)
  | .int a, .int b => a == b
  | .str a, .str b => a == b
  | _, _ => false
theorem flat_rep {x : D} {H : Hp} {v : V} (h : flatD x = true) (r : Rep H x v) : flatV v = true := by
  cases x <;> simp only [flatD, Bool.false_eq_true] at h <;> cases r <;> rfl
theorem eq_rep {x y : D} {H : Hp} {v w : V} (h : flatD x = true) (h' : flatD y = true) (r : Rep H x v) (r' : Rep H y w) : eqV v w = eqD x y := by
  cases x <;> simp only [flatD, Bool.false_eq_true] at h <;> cases y <;> simp only [flatD, Bool.false_eq_true] at h' <;> cases r <;> cases r' <;> rfl
def inD (x : D) (ds : List D) : Bool := ds.any fun y => eqD y x
theorem in_rep {x : D} {H : Hp} {v : V} (h : flatD x = true) (r : Rep H x v) : ∀ {ds : List D} {vs : List V}, ds.all flatD = true → RepL H ds vs → inV v vs = inD x ds ∧ vs.all flatV = true
  | [], _, _, h2 => by cases h2; exact ⟨rfl, rfl⟩
  | d :: ds, _, h1, ⟨w, wr, e, r1, r2⟩ => by
    cases e
    rw [List.all_cons, Bool.and_eq_true] at h1
    obtain ⟨i1, i2⟩ := in_rep h r h1.2 r2
    refine ⟨?_, by rw [List.all_cons, flat_rep h1.1 r1, i2]; rfl⟩
    show (eqV w v || inV v wr) = (eqD d x || inD x ds)
    rw [i1, eq_rep h1.1 h r1 r]
def dIn (neg : Bool) : DR := fun x y M Q => match look M y with
  | some (.lst ds) => flatD x = true ∧ ds.all flatD = true ∧ Q (.bl (if neg then !inD x ds else inD x ds)) M
  | some (.tup ds) => flatD x = true ∧ ds.all flatD = true ∧ Q (.bl (if neg then !inD x ds else inD x ds)) M
  | _ => False
theorem snd_in {neg : Bool} : SndR (rIn X.K neg) (dIn neg) := fun x y M QD h Hb H vx vy Q s rx ry k => by
  unfold dIn at h
  split at h
  · rename_i ds e1
    obtain ⟨a, vs, rfl, ha, rl⟩ := look_lst s ry e1
    obtain ⟨i1, i2⟩ := in_rep h.1 rx h.2.1 rl
    exact ⟨a, vs, rfl, .inl (.inl (.inl ha)), flat_rep h.1 rx, i2, k _ M Hb H _ h.2.2 (Fr.refl _ _ _) s (by rw [i1]; rfl)⟩
  · rename_i ds e1
    obtain ⟨a, vs, rfl, ha, rl⟩ := look_tup s ry e1
    obtain ⟨i1, i2⟩ := in_rep h.1 rx h.2.1 rl
    exact ⟨a, vs, rfl, .inr (.inl (.inl ha)), flat_rep h.1 rx, i2, k _ M Hb H _ h.2.2 (Fr.refl _ _ _) s (by rw [i1]; rfl)⟩
  · exact h.elim
theorem o_in : OpD X (compareOp .In) (dIn false) := ⟨⟨_, op_in_seq, snd_in⟩⟩
theorem o_notin : OpD X (compareOp .NotIn) (dIn true) := ⟨⟨_, op_notIn_seq, snd_in⟩⟩
/-- one sign in a text -/
def dInS : DR := fun x y M Q => match y with
  | .str z => ∃ c, x = .str ⟨#[c]⟩ ∧ Q (.bl (decide (c ∈ z.cps.toList))) M
  | _ => False
theorem o_inS : OpD X (compareOp .In) dInS := ⟨⟨_, op_in_sign, fun x y M QD h Hb H vx vy Q s rx ry k => by
  unfold dInS at h
  split at h
  · rename_i z
    obtain ⟨c, rfl, q⟩ := h
    exact ⟨c, z, rx, ry, k _ M Hb H _ q (Fr.refl _ _ _) s rfl⟩
  · exact h.elim⟩⟩
/-! deep data -/
mutual
def pyD : D → Option PyData
  | .non => some .none
  | .bl b => some (.bool b)
  | .int i => some (.int i)
  | .str x => some (.str x)
  | .lst ds => (pyDs ds).map .list
  | .tup ds => (pyDs ds).map .tuple
  | _ => none
def pyDs : List D → Option (List PyData)
  | [] => some []
  | d :: r => (pyD d).bind fun z => (pyDs r).map (z :: ·)
end
mutual
theorem py_rep {K : PySem.W.Frag} {Hb H : Hp} {M : Mp} (s : Sx Hb H M) : ∀ (d : D) (v : V) (z : PyData), Rep Hb d v → pyD d = some z → Dp K H v z
  | .non, v, z, r, h => by cases h; cases r; exact .non
  | .bl b, v, z, r, h => by cases h; cases r; exact .bl _
  | .int i, v, z, r, h => by cases h; cases r; exact .int _
  | .str x, v, z, r, h => by cases h; cases r; exact .str _
  | .lst ds, v, z, r, h => by
    obtain ⟨a, vs, rfl, ha, rl⟩ := look_lst (M := M) s r rfl
    unfold pyD at h
    cases e : pyDs ds with
    | none => rw [e] at h; cases h
    | some zs =>
      rw [e] at h
      cases h
      exact .lst (.inl (.inl ha)) (py_reps s ds vs zs rl e)
  | .tup ds, v, z, r, h => by
    obtain ⟨a, vs, rfl, ha, rl⟩ := look_tup (M := M) s r rfl
    unfold pyD at h
    cases e : pyDs ds with
    | none => rw [e] at h; cases h
    | some zs =>
      rw [e] at h
      cases h
      exact .tup (.inl (.inl ha)) (py_reps s ds vs zs rl e)
  | .ty n, _, _, _, h => by cases h
  | .cell p, _, _, _, h => by cases h
  | .dic k d, _, _, _, h => by cases h
  | .ins C f d, _, _, _, h => by cases h
  | .exc _ _ _ _ _, _, _, _, h => by cases h
theorem py_reps {K : PySem.W.Frag} {Hb H : Hp} {M : Mp} (s : Sx Hb H M) : ∀ (ds : List D) (vs : List V) (zs : List PyData), RepL Hb ds vs → pyDs ds = some zs → DpAll K H vs zs
  | [], vs, zs, r, h => by cases r; cases h; exact .nil
  | d :: r, vs, zs, ⟨v, vr, e, r1, r2⟩, h => by
    cases e
    unfold pyDs at h
    cases e1 : pyD d with
    | none => rw [e1] at h; cases h
    | some z =>
      rw [e1] at h
      cases e2 : pyDs r with
      | none => rw [e2] at h; cases h
      | some zr =>
        rw [e2] at h
        cases h
        exact .cons (py_rep s d v z r1 e1) (py_reps s r vr zr r2 e2)
end
def dEqD (neg : Bool) : DR := fun x y M Q => ∃ a b, pyD x = some a ∧ pyD y = some b ∧ SeqAt.shaped a = true ∧ SeqAt.shaped b = true ∧ Q (.bl (if neg then !PyData.eqv a b else PyData.eqv a b)) M
theorem o_eqD (hu : X.A.units + 64 < cLine) : OpD X (compareOp .Eq) (dEqD false) := ⟨⟨_, op_eqD hu, fun x y M QD ⟨a, b, h1, h2, h3, h4, q⟩ Hb H vx vy Q s rx ry k =>
  ⟨a, b, py_rep s x vx a rx h1, py_rep s y vy b ry h2, h3, h4, k _ M Hb H _ q (Fr.refl _ _ _) s rfl⟩⟩⟩
theorem o_neD (hu : X.A.units + 64 < cLine) : OpD X (compareOp .NotEq) (dEqD true) := ⟨⟨_, op_neD hu, fun x y M QD ⟨a, b, h1, h2, h3, h4, q⟩ Hb H vx vy Q s rx ry k =>
  ⟨a, b, py_rep s x vx a rx h1, py_rep s y vy b ry h2, h3, h4, k _ M Hb H _ q (Fr.refl _ _ _) s rfl⟩⟩⟩
def dInDp (neg : Bool) : DR := fun x y M Q => ∃ a bs, pyD x = some a ∧ pyD y = some (.list bs) ∧ SeqAt.shaped a = true ∧ SeqAt.shaped (.list bs) = true ∧ Q (.bl (if neg then !bs.any fun z => PyData.eqv z a else bs.any fun z => PyData.eqv z a)) M
theorem o_inD (hu : X.A.units + 65 < cLine) : OpD X (compareOp .In) (dInDp false) := ⟨⟨_, op_inD hu, fun x y M QD ⟨a, b, h1, h2, h3, h4, q⟩ Hb H vx vy Q s rx ry k =>
  ⟨a, b, py_rep s x vx a rx h1, py_rep s y vy _ ry h2, h3, h4, k _ M Hb H _ q (Fr.refl _ _ _) s rfl⟩⟩⟩
/-! ### dicts -/
def getK : List Key → List D → Key → Option D
  | k :: ks, d :: ds, m => if k = m then some d else getK ks ds m
  | _, _, _ => none
theorem getK_rep {Hb : Hp} {m : Key} : ∀ {ks : List Key} {ds : List D} {vs : List V}, RepL Hb ds vs → (∀ d, getK ks ds m = some d → ∃ v, valV (ks.zip vs) m = some v ∧ Rep Hb d v) ∧ (getK ks ds m = none → ks.length = ds.length → valV (ks.zip vs) m = none)
  | [], _, _, _ => ⟨fun _ h => (by cases h), fun _ _ => rfl⟩
  | k :: ks, [], _, _ => ⟨fun _ h => (by cases h), fun _ h => (by cases h)⟩
  | k :: ks, d :: ds, _, ⟨v, vr, e, r1, r2⟩ => by
    cases e
    have ih := getK_rep (m := m) (ks := ks) r2
    have ev : valV ((k :: ks).zip (v :: vr)) m = if k = m then some v else valV (ks.zip vr) m := by
      unfold valV
      rw [List.zip_cons_cons, List.find?_cons]
      by_cases h : k = m
      · rw [if_pos h]
        simp [h]
      · rw [if_neg h]
        simp [h]
    rw [ev]
    unfold getK
    by_cases h : k = m
    · rw [if_pos h, if_pos h]
      exact ⟨fun d' h' => (by cases h'; exact ⟨v, rfl, r1⟩), fun h' => (by cases h')⟩
    · rw [if_neg h, if_neg h]
      exact ⟨ih.1, fun h1 h2 => ih.2 h1 (by simpa using h2)⟩
def keyD : D → Option Key
  | .int i => some (.inl i)
  | .str x => some (.inr x)
  | _ => none
theorem keyD_rep {y : D} {k : Key} {H : Hp} {v : V} (h : keyD y = some k) (r : Rep H y v) : v = kV k := by
  cases y <;> simp only [keyD, reduceCtorEq, Option.some.injEq] at h <;> subst h <;> exact r
theorem dget_of {Hb H : Hp} {M : Mp} (s : Sx Hb H M) {x y : D} {vx vy : V} {ks : List Key} {ds : List D} {k : Key} (rx : Rep Hb x vx) (ry : Rep Hb y vy) (l : look M x = some (.dic ks ds)) (hk : keyD y = some k) :
    ∃ a vs, vx = .ref a ∧ DGet H a vy (valV (ks.zip vs) k) ∧ IsD H a ∧ ks.length = ds.length ∧ RepL Hb ds vs := by
  obtain ⟨a, vs, rfl, ha, hl, rl⟩ := look_dic s rx l
  refine ⟨a, vs, rfl, .inl ⟨ks.zip vs, k, ?_, keyD_rep hk ry, rfl⟩, .inl ⟨ks.zip vs, ?_⟩, hl, rl⟩
  · rcases ha with h | ⟨od, h⟩
    · exact .inl h
    · exact .inr ⟨od, h⟩
  · rcases ha with h | ⟨od, h⟩
    · exact .inl h
    · exact .inr ⟨od, h⟩
def dGetR : DR := fun x y M Q => match look M x, keyD y with
  | some (.dic ks ds), some k => ∃ d, getK ks ds k = some d ∧ Q d M
  | _, _ => False
def dGet (ta tb : DE) : DE := fun ρ M Q => ta ρ M fun x M1 => tb ρ M1 fun y M2 => dGetR x y M2 Q
theorem de_get (hu : X.A.units + 1 < cLine) (ha : PED X o ta) (hb : PED X i tb) (hs : NoSl i := by intro _ _; rfl) : PED X (.Subscript o i pos) (dGet ta tb) := by
  obtain ⟨⟨ua, h3, h4⟩⟩ := ha
  obtain ⟨⟨ub, h5, h6⟩⟩ := hb
  refine ⟨⟨_, pe_dget hu h3 h5 hs, fun ρ M QD h Hb σ H Q s r kk => h4 ρ M _ h Hb σ H _ s r fun x M1 Hb1 H1 v q1 f1 s1 r1 => h6 ρ M1 _ q1 Hb1 σ H1 _ s1 (r.mono f1.same) fun y M2 Hb2 H2 w q2 f2 s2 r2 => ?_⟩⟩
  dsimp only [dGetR] at q2
  split at q2
  · rename_i ks ds k e1 e2
    obtain ⟨d, e3, q3⟩ := q2
    obtain ⟨a, vs, rfl, g, _, hl, rl⟩ := dget_of s2 (r1.mono f2.same) r2 e1 e2
    obtain ⟨u, h1, h2⟩ := (getK_rep rl).1 d e3
    rw [h1] at g
    exact ⟨a, u, rfl, g, kk d M2 Hb2 H2 u q3 (f1.trans s1 f2) s2 h2⟩
  · exact q2.elim
def dDIn (neg : Bool) (ty td : DE) : DE := fun ρ M Q => ty ρ M fun y M1 => td ρ M1 fun x M2 => match look M2 x, keyD y with
  | some (.dic ks ds), some k => Q (.bl (if neg then !(getK ks ds k).isSome else (getK ks ds k).isSome)) M2
  | _, _ => False
theorem getK_some {Hb : Hp} {m : Key} {ks : List Key} {ds : List D} {vs : List V} (r : RepL Hb ds vs) (hl : ks.length = ds.length) : (valV (ks.zip vs) m).isSome = (getK ks ds m).isSome := by
  cases e : getK ks ds m with
  | none => rw [(getK_rep r).2 e hl]; rfl
  | some d =>
    obtain ⟨v, h, _⟩ := (getK_rep r).1 d e
    rw [h]
    rfl
theorem snd_din {t1 t2 : TE} (h1 : SndE t1 tb) (h2 : SndE t2 ta) : SndE (tDIn t1 t2) (dDIn false tb ta) ∧ SndE (tDNotIn t1 t2) (dDIn true tb ta) := by
  constructor
  all_goals
    refine fun ρ M QD h Hb σ H Q s r kk => h1 ρ M _ h Hb σ H _ s r fun y M1 Hb1 H1 v q1 f1 s1 r1 => h2 ρ M1 _ q1 Hb1 σ H1 _ s1 (r.mono f1.same) fun x M2 Hb2 H2 w q2 f2 s2 r2 => ?_
    dsimp only at q2
    split at q2
    · rename_i ks ds k e1 e2
      obtain ⟨a, vs, rfl, g, _, hl, rl⟩ := dget_of s2 r2 (r1.mono f2.same) e1 e2
      exact ⟨a, _, rfl, g, kk _ M2 Hb2 H2 _ q2 (f1.trans s1 f2) s2 (by rw [getK_some rl hl]; rfl)⟩
    · exact q2.elim
theorem de_din (hu : X.A.units + 1 < cLine) (hi : PED X i tb) (ho : PED X o ta) (h1 : behindInMarks .In o = false := by rfl) : PED X (.Compare i [.In] [o] pos) (dDIn false tb ta) := by
  obtain ⟨⟨ua, h3, h4⟩⟩ := hi
  obtain ⟨⟨ub, h5, h6⟩⟩ := ho
  exact ⟨⟨_, pe_cmp (pc_din hu h3 h5) h1, (snd_din h4 h6).1⟩⟩
theorem de_dnotin (hu : X.A.units + 1 < cLine) (hi : PED X i tb) (ho : PED X o ta) (h1 : behindInMarks .NotIn o = false := by rfl) : PED X (.Compare i [.NotIn] [o] pos) (dDIn true tb ta) := by
  obtain ⟨⟨ua, h3, h4⟩⟩ := hi
  obtain ⟨⟨ub, h5, h6⟩⟩ := ho
  exact ⟨⟨_, pe_cmp (pc_dnotin hu h3 h5) h1, (snd_din h4 h6).2⟩⟩
theorem dt_din (hu : X.A.units + 1 < cLine) (hi : PED X i tb) (ho : PED X o ta) (h1 : behindInMarks .In o = false := by rfl) : PTD X (.Compare i [.In] [o] pos) (dB (dDIn false tb ta)) := by
  obtain ⟨⟨ua, h3, h4⟩⟩ := hi
  obtain ⟨⟨ub, h5, h6⟩⟩ := ho
  exact ⟨⟨_, pt_cmp (pc_din hu h3 h5) h1, snd_B (snd_din h4 h6).1⟩⟩
theorem dt_dnotin (hu : X.A.units + 1 < cLine) (hi : PED X i tb) (ho : PED X o ta) (h1 : behindInMarks .NotIn o = false := by rfl) : PTD X (.Compare i [.NotIn] [o] pos) (dB (dDIn true tb ta)) := by
  obtain ⟨⟨ua, h3, h4⟩⟩ := hi
  obtain ⟨⟨ub, h5, h6⟩⟩ := ho
  exact ⟨⟨_, pt_cmp (pc_dnotin hu h3 h5) h1, snd_B (snd_din h4 h6).2⟩⟩
/-- d.get(k, z) -/
def dGet2 (td ty tz : DE) : DE := fun ρ M Q => td ρ M fun x M1 => (∃ ks ds, look M1 x = some (.dic ks ds)) ∧ ty ρ M1 fun y M2 => tz ρ M2 fun z M3 => match look M3 x, keyD y with
  | some (.dic ks ds), some k => Q ((getK ks ds k).getD z) M3
  | _, _ => False
theorem isd_of {Hb H : Hp} {M : Mp} (s : Sx Hb H M) {x : D} {vx : V} (rx : Rep Hb x vx) (h : ∃ ks ds, look M x = some (.dic ks ds)) : ∃ a, vx = .ref a ∧ IsD H a := by
  obtain ⟨ks, ds, e⟩ := h
  obtain ⟨a, vs0, rfl, ha0, _, _⟩ := look_dic s rx e
  refine ⟨a, rfl, ?_⟩
  rcases ha0 with h | ⟨od, h⟩
  · exact .inl ⟨_, .inl h⟩
  · exact .inl ⟨_, .inr ⟨od, h⟩⟩
theorem de_get2 {cpos : Pos} (hu : X.A.units + 1 < cLine) (ho : PED X o ta) (he : PED X e tb) (hf : PED X f tc) (m : M2 X o "get" apos e f cpos := by exact ⟨rfl, rfl, rfl, rfl⟩) : PED X (.Call (.Attribute o "get" apos) [e, f] [] cpos) (dGet2 ta tb tc) := by
  obtain ⟨⟨ua, h3, h4⟩⟩ := ho
  obtain ⟨⟨ub, h5, h6⟩⟩ := he
  obtain ⟨⟨uc, h7, h8⟩⟩ := hf
  refine ⟨⟨_, pe_dget2 hu h3 h5 h7 m, fun ρ M QD h Hb σ H Q s r kk => h4 ρ M _ h Hb σ H _ s r fun x M1 Hb1 H1 v q1 f1 s1 r1 => ?_⟩⟩
  obtain ⟨a, rfl, ia⟩ := isd_of s1 r1 q1.1
  refine ⟨a, rfl, ia, h6 ρ M1 _ q1.2 Hb1 σ H1 _ s1 (r.mono f1.same) fun y M2 Hb2 H2 w q2 f2 s2 r2 => h8 ρ M2 _ q2 Hb2 σ H2 _ s2 ((r.mono f1.same).mono f2.same) fun z M3 Hb3 H3 u q3 f3 s3 r3 => ?_⟩
  dsimp only at q3
  split at q3
  · rename_i ks ds k e1 e2
    obtain ⟨a', vs, ea, g, _, hl, rl⟩ := dget_of s3 ((r1.mono f2.same).mono f3.same) (r2.mono f3.same) e1 e2
    cases ea
    cases e3 : getK ks ds k with
    | none =>
      rw [(getK_rep rl).2 e3 hl] at g
      rw [e3] at q3
      exact ⟨none, g, kk z M3 Hb3 H3 u q3 ((f1.trans s1 f2).trans s2 f3) s3 r3⟩
    | some d =>
      obtain ⟨u', h1, h2⟩ := (getK_rep rl).1 d e3
      rw [h1] at g
      rw [e3] at q3
      exact ⟨some u', g, kk d M3 Hb3 H3 u' q3 ((f1.trans s1 f2).trans s2 f3) s3 h2⟩
  · exact q3.elim
/-- d[k] = v, d a cell -/
def putKD (m : Key) (d : D) : List Key → List D → List Key × List D
  | k :: ks, x :: ds => if k = m then (k :: ks, d :: ds) else (k :: (putKD m d ks ds).1, x :: (putKD m d ks ds).2)
  | _, _ => ([m], [d])
theorem putK_zip {Hb : Hp} {m : Key} {d : D} {v : V} (hv : Rep Hb d v) : ∀ {ks : List Key} {ds : List D} {vs : List V}, RepL Hb ds vs → ks.length = ds.length →
    ∃ ws, (ks.Nodup → putK (ks.zip vs) m v = ((putKD m d ks ds).1).zip ws) ∧ ((putKD m d ks ds).1).length = ((putKD m d ks ds).2).length ∧ RepL Hb (putKD m d ks ds).2 ws
  | [], [], _, h, _ => by
    cases h
    exact ⟨[v], fun _ => rfl, rfl, RepL.one hv⟩
  | [], _ :: _, _, _, h => by cases h
  | _ :: _, [], _, _, h => by cases h
  | k :: ks, x :: ds, _, ⟨w, vr, h1, h2, h3⟩, hl => by
    cases h1
    have hl' : ks.length = ds.length := by simpa using hl
    by_cases e : k = m
    · refine ⟨v :: vr, fun hn => ?_, ?_, ?_⟩
      · unfold putKD
        rw [if_pos e, List.zip_cons_cons, List.zip_cons_cons]
        have hn' := (List.nodup_cons.mp hn).1
        have hmem : ∀ q ∈ ks.zip vr, q.1 ≠ m := fun q hq z => hn' (by
          have := (List.of_mem_zip (a := q.1) (b := q.2) hq).1
          rw [z, ← e] at this
          exact this)
        unfold putK
        rw [if_pos (by simp [e]), List.map_cons, if_pos e]
        congr 1
        rw [List.map_congr_left (g := id) fun q hq => by rw [if_neg (hmem q hq)]; rfl, List.map_id]
      · unfold putKD
        rw [if_pos e]
        exact hl
      · unfold putKD
        rw [if_pos e]
        exact ⟨v, vr, rfl, hv, h3⟩
    · obtain ⟨ws, i1, i2, i3⟩ := putK_zip hv h3 hl'
      refine ⟨w :: ws, fun hn => ?_, ?_, ?_⟩
      · unfold putKD
        rw [if_neg e, List.zip_cons_cons, List.zip_cons_cons, ← i1 (List.nodup_cons.mp hn).2]
        unfold putK
        simp only [List.any_cons, e, decide_false, Bool.false_or, List.map_cons, if_false]
        split <;> rfl
      · unfold putKD
        rw [if_neg e]
        simp only [List.length_cons, i2]
      · unfold putKD
        rw [if_neg e]
        exact ⟨w, ws, rfl, h2, i3⟩
end
end DL

/-! part DOps2 -/
set_option maxHeartbeats 0
namespace DL
open PySem PySem.Spec PyProof.Rows L2
section
variable {X : Cx} {e a b c o i f : Expr} {es : List Expr} {pos p apos cpos : Pos} {ta tb tc : DE} {da : DA} {tA : DT} {x : Str}
/-! ### stores -/
/-- xs[i] = v, xs a cell -/
def dgSub (ta tb : DE) : DG := fun d ρ M Q => ta ρ M fun x M1 => tb ρ M1 fun y M2 => match x, y with
  | .cell p, .int k => ∃ ds j, M2 p = some (.lst ds) ∧ ixN ds.length k = some j ∧ Q ρ (updM M2 p (.lst (ds.set j d)))
  | _, _ => False
theorem dg_sub (ho : PED X o ta) (hi : PED X i tb)
    (ha : ∀ v, assign (.Subscript o i pos) X.env v = (do
      let ov ← holding [v] (eval o X.env)
      let iv ← holding [v, ov] (eval i X.env)
      standAt pos
      holding [v, ov, iv] (setItem ov iv v)
      release [v, ov, iv] []) := by intro _; rfl) : PGD X (.Subscript o i pos) (dgSub ta tb) := by
  obtain ⟨⟨ua, h3, h4⟩⟩ := ho
  obtain ⟨⟨ub, h5, h6⟩⟩ := hi
  refine ⟨⟨_, pg_sub h3 h5 set_list ha, fun d ρ M QD h Hb σ H v Q s r rx k => h4 ρ M _ h Hb σ H _ s r fun x M1 Hb1 H1 w q1 f1 s1 r1 => h6 ρ M1 _ q1 Hb1 σ H1 _ s1 (r.mono f1.same) fun y M2 Hb2 H2 u q2 f2 s2 r2 => ?_⟩⟩
  dsimp only at q2
  split at q2
  · rename_i p kk
    obtain ⟨ds, j, e1, e2, q3⟩ := q2
    obtain ⟨_, o', e3, vs, rfl, rl⟩ := s2.cell p _ e1
    cases (show w = V.ref p from r1)
    cases (show u = V.int kk from r2)
    have ff := f1.trans s1 f2
    obtain ⟨s3, f3⟩ := s2.mut (o := .lst (vs.set j v)) (d := .lst (ds.set j d)) e1 ⟨_, rfl, rl.set (rx.mono ff.same) j⟩
    exact ⟨p, vs, kk, j, rfl, rfl, e3, by rw [← rl.length]; exact e2, k _ _ _ _ _ q3 (ff.trans s2 f3) s3 ((r.mono ff.same).mono f3.same)⟩
  · exact q2.elim
/-- d[k] = v, d a cell -/
def dDPut (td ty tv : DE) : DS := fun P ρ M => tv ρ M fun d M1 => td ρ M1 fun x M2 => ty ρ M2 fun y M3 => match x, keyD y with
  | .cell p, some k => ∃ ks ds, M3 p = some (.dic ks ds) ∧ ks.Nodup ∧ ks.length < 16000000 ∧ P.nx ρ (updM M3 p (.dic (putKD k d ks ds).1 (putKD k d ks ds).2))
  | _, _ => False
theorem big16 : 16000000 < sizeLine := by rw [sizeLine_eq]; decide
theorem ds_dput {value : Expr} {pos' : Pos} (hu : X.A.units + 1 < cLine) (ho : PED X o ta) (hi : PED X i tb) (hv : PED X value tc) (hs : swapsWith value (some (.Subscript o i pos')) pos.line X.env = pure false := by rfl) :
    PSD X (.Assign [.Subscript o i pos'] value pos) (dDPut ta tb tc) := by
  obtain ⟨⟨ua, h3, h4⟩⟩ := ho
  obtain ⟨⟨ub, h5, h6⟩⟩ := hi
  obtain ⟨⟨uc, h7, h8⟩⟩ := hv
  refine ⟨⟨_, ps_dput hu h3 h5 h7 hs, fun P ρ M h Hb σ H E s r k => h8 ρ M _ h Hb σ H _ s r fun d M1 Hb1 H1 v q1 f1 s1 r1 => h4 ρ M1 _ q1 Hb1 σ H1 _ s1 (r.mono f1.same) fun x M2 Hb2 H2 w q2 f2 s2 r2 =>
    h6 ρ M2 _ q2 Hb2 σ H2 _ s2 ((r.mono f1.same).mono f2.same) fun y M3 Hb3 H3 u q3 f3 s3 r3 => ?_⟩⟩
  dsimp only at q3
  split at q3
  · rename_i p kk e0
    obtain ⟨ks, ds, e1, hn, hz, q4⟩ := q3
    obtain ⟨_, o', e3, vs, rfl, hl, rl⟩ := s3.cell p _ e1
    cases (show w = V.ref p from r2)
    have f23 := f2.trans s2 f3
    obtain ⟨ws, i1, i2, i3⟩ := putK_zip (m := kk) (r1.mono f23.same) rl hl
    obtain ⟨s4, f4⟩ := s3.mut (o := .dK (putK (ks.zip vs) kk v)) (d := .dic (putKD kk d ks ds).1 (putKD kk d ks ds).2) e1 ⟨ws, by rw [i1 hn], i2, i3⟩
    refine ⟨p, _, rfl, .inl ⟨_, kk, e3, keyD_rep e0 r3, ?_, rfl⟩, k.nx _ _ _ _ _ q4 ((f1.trans s1 f23).trans s3 f4) s4 (((r.mono f1.same).mono f23.same).mono f4.same)⟩
    rw [List.length_zip, hl, rl.length, Nat.min_self, ← rl.length, ← hl]
    have := big16
    omega
  · exact q3.elim
/-- name op= e, ints -/
def dAug (j : Nat) (g : Int → Int → Int) (ta : DE) : DS := fun P ρ M => match ρ[j]? with
  | some (some (.int n)) => ta ρ M fun y M1 => match y with
    | .int m => P.nx (ρ.set j (some (.int (g n m)))) M1
    | _ => False
  | _ => False
theorem ip_or : PIp X .BitOr (ipI fun i j => Builtin.bitOr i j) := by
  intro pins s σ H x y v u Q I r1 r2 h
  obtain ⟨i, j, e1, e2, q⟩ := h
  subst e1; subst e2
  obtain ⟨t, rfl⟩ := r1
  obtain ⟨t', rfl⟩ := r2
  exact ior_int ⟨.int _, H, I.tok _, ⟨_, rfl⟩, q⟩
theorem ip_and : PIp X .BitAnd (ipI fun i j => Builtin.bitAnd i j) := by
  intro pins s σ H x y v u Q I r1 r2 h
  obtain ⟨i, j, e1, e2, q⟩ := h
  subst e1; subst e2
  obtain ⟨t, rfl⟩ := r1
  obtain ⟨t', rfl⟩ := r2
  exact iand_int ⟨.int _, H, I.tok _, ⟨_, rfl⟩, q⟩
theorem ds_aug {j : Nat} {op : Operator} {g : Int → Int → Int} {pos' : Pos} (hN : X.N.Nodup) (hop : PIp X op (ipI g)) (he : PED X e ta) (hi : X.N[j]? = some x := by rfl) (hx : L2.Loc X.env.scope x := by first | exact Or.inl rfl | exact Or.inr rfl)
    (hf : X.fn x = true ∨ X.env.scope.names.lookup x = some .local := by first | exact .inl rfl | exact .inr rfl) : PSD X (.AugAssign (.Name x pos') op e pos) (dAug j g ta) := by
  obtain ⟨⟨ua, h3, h4⟩⟩ := he
  refine ⟨⟨_, ps_aug hN hi hx h3 hop hf, fun P ρ M h Hb σ H E s r k => ?_⟩⟩
  unfold dAug at h
  split at h
  · rename_i n e1
    obtain ⟨v, e2, r2⟩ := r.get j _ e1
    cases (show v = V.int n from r2)
    refine ⟨.int n, e2, h4 ρ M _ h Hb σ H _ s r fun y M1 Hb1 H1 w q1 f1 s1 r1 => ?_⟩
    dsimp only at q1
    split at q1
    · rename_i m
      cases (show w = V.int m from r1)
      exact ⟨n, m, rfl, rfl, k.nx _ _ _ _ _ q1 f1 s1 ((r.mono f1.same).set j rfl)⟩
    · exact q1.elim
  · exact h.elim
/-- xs[i] op= e, xs a cell of ints -/
def rGetL (K : PySem.W.Frag) : V → V → Hp → VK → Prop := fun x y H Q => ∃ p xs i v, x = .ref p ∧ y = .int i ∧ SqL K H p xs ∧ 0 ≤ i ∧ xs[i.toNat]? = some v ∧ Q v H
theorem get_list : PGet X (rGetL X.K) := by
  intro pins s σ H x y v u Q I rx ry h
  obtain ⟨p, xs, i, z, rfl, rfl, hq, h0, he, q⟩ := h
  cases rx
  obtain ⟨t, rfl⟩ := ry
  obtain ⟨its, r, pl, hz⟩ := I.list hq
  obtain ⟨w, ew, rw'⟩ := r.get he
  have hn := line63
  have hl := r.length
  have hlt := (List.getElem?_eq_some_iff.mp he).1
  exact wpAny_getItem_list pl.isList h0 (by omega) (by simpa using ew) ⟨z, H, I, rw', q⟩
def dAugS (g : Int → Int → Int) (ta tb tc : DE) : DS := fun P ρ M => ta ρ M fun x M1 => tb ρ M1 fun y M2 => match x, y with
  | .cell p, .int k => ∃ ds n, M2 p = some (.lst ds) ∧ 0 ≤ k ∧ ds[k.toNat]? = some (.int n) ∧ tc ρ M2 fun z M3 => match z with
    | .int m => M3 p = some (.lst ds) ∧ P.nx ρ (updM M3 p (.lst (ds.set k.toNat (.int (g n m)))))
    | _ => False
  | _, _ => False
theorem ds_augS {op : Operator} {g : Int → Int → Int} {tpos : Pos} (hop : PIp X op (ipI g)) (ho : PED X o ta) (hi : PED X i tb) (he : PED X e tc)
    (ha : ∀ ov iv new, augStore i ov iv new = (do holding [new, ov, iv] (setItem ov iv new); release [new, ov, iv] []; pure .next) := by intros; rfl) : PSD X (.AugAssign (.Subscript o i tpos) op e pos) (dAugS g ta tb tc) := by
  obtain ⟨⟨ua, h3, h4⟩⟩ := ho
  obtain ⟨⟨ub, h5, h6⟩⟩ := hi
  obtain ⟨⟨uc, h7, h8⟩⟩ := he
  refine ⟨⟨_, ps_augS h3 h5 get_list h7 hop set_list ha, fun P ρ M h Hb σ H E s r k => h4 ρ M _ h Hb σ H _ s r fun x M1 Hb1 H1 w q1 f1 s1 r1 => h6 ρ M1 _ q1 Hb1 σ H1 _ s1 (r.mono f1.same) fun y M2 Hb2 H2 u q2 f2 s2 r2 => ?_⟩⟩
  dsimp only at q2
  split at q2
  · rename_i p kk
    obtain ⟨ds, n, e1, h0, e2, q3⟩ := q2
    obtain ⟨_, o', e3, vs, rfl, rl⟩ := s2.cell p _ e1
    cases (show w = V.ref p from r1)
    cases (show u = V.int kk from r2)
    obtain ⟨v, hv, rv⟩ := rl.get e2
    cases (show v = V.int n from rv)
    refine ⟨p, vs, kk, .int n, rfl, rfl, .inl (.inl e3), h0, hv, h8 ρ M2 _ q3 Hb2 σ H2 _ s2 ((r.mono f1.same).mono f2.same) fun z M3 Hb3 H3 u3 q4 f3 s3 r3 => ?_⟩
    dsimp only at q4
    split at q4
    · rename_i m
      cases (show u3 = V.int m from r3)
      obtain ⟨e4, q5⟩ := q4
      obtain ⟨_, o', e5, ws, rfl, rl2⟩ := s3.cell p _ e4
      obtain ⟨v2, hv2, rv2⟩ := rl2.get e2
      obtain ⟨s4, f4⟩ := s3.mut (o := .lst (ws.set kk.toNat (.int (g n m)))) (d := .lst (ds.set kk.toNat (.int (g n m)))) e4 ⟨_, rfl, rl2.set (show Rep Hb3 (.int (g n m)) (.int (g n m)) from rfl) _⟩
      refine ⟨n, m, rfl, rfl, p, ws, kk, kk.toNat, rfl, rfl, e5, ?_, k.nx _ _ _ _ _ q5 (((f1.trans s1 f2).trans s2 f3).trans s3 f4) s4 ((((r.mono f1.same).mono f2.same).mono f3.same).mono f4.same)⟩
      have hlt := (List.getElem?_eq_some_iff.mp hv2).1
      unfold ixN
      rw [if_pos h0, if_pos (by omega)]
    · exact q4.elim
  · exact q2.elim
/-! ### methods of lists -/
def dApp (ta tb : DE) : DE := fun ρ M Q => ta ρ M fun x M1 => match x with
  | .cell p => (∃ ds0, M1 p = some (.lst ds0)) ∧ tb ρ M1 fun y M2 => ∃ ds, M2 p = some (.lst ds) ∧ ds.length < 16000000 ∧ Q .non (updM M2 p (.lst (ds ++ [y])))
  | _ => False
theorem one_argA {t1 : TE} (h : SndE t1 tb) : SndA (tCons t1 tNil) (dCons tb dNil) := fun ρ M QD h1 Hb σ H Q s r k => h ρ M _ h1 Hb σ H _ s r fun d M1 Hb1 H1 v q1 f1 s1 r1 => k _ M1 Hb1 H1 _ q1 f1 s1 (RepL.one r1)
theorem de_app (ho : PED X o ta) (he : PED X e tb) (hbase : attributeBase o "append" X.env (eval o X.env) = eval o X.env := by rfl)
    (hfew : ((backTo cpos (starEach [e] X.env)).all (fun x => !x.1) && (backToKw cpos (keywordEach [] X.env)).all (fun x => x.1.isSome)
      && decide (([e] : List Expr).length + ([] : List Keyword).length + (if ([] : List Keyword).isEmpty then 0 else 1) < 30)) = true := by rfl)
    (hline : (apos.endLine == cpos.line) = true := by rfl) (hs : starEach [e] X.env = (false, eval e X.env) :: starEach [] X.env := by rfl) (hplain : (backTo cpos (starEach [] X.env)).any (·.1) = false := by rfl) :
    PED X (.Call (.Attribute o "append" apos) [e] [] cpos) (dApp ta tb) := by
  obtain ⟨⟨ua, h3, h4⟩⟩ := ho
  obtain ⟨⟨ub, h5, h6⟩⟩ := he
  refine ⟨⟨_, pe_bm PySem.F.plainAttrs_list PySem.F.slot_list_append PySem.F.type_list_append mt_append h3 (pa_cons h5 pa_nil hs) hbase hfew hline hs hplain, fun ρ M QD h Hb σ H Q s r k => h4 ρ M _ h Hb σ H _ s r fun x M1 Hb1 H1 w q1 f1 s1 r1 => ?_⟩⟩
  dsimp only at q1
  split at q1
  · rename_i p
    obtain ⟨⟨ds0, e0⟩, q2⟩ := q1
    obtain ⟨_, o0, e00, vs0, rfl, _⟩ := s1.cell p _ e0
    cases (show w = V.ref p from r1)
    refine ⟨.inl ⟨rfl, vs0, .inl (.inl e00)⟩, h6 ρ M1 _ q2 Hb1 σ H1 _ s1 (r.mono f1.same) fun y M2 Hb2 H2 u q3 f2 s2 r2 => ?_⟩
    obtain ⟨ds, e1, hz, q4⟩ := q3
    obtain ⟨_, o1, e2, vs, rfl, rl⟩ := s2.cell p _ e1
    obtain ⟨s3, f3⟩ := s2.mut (o := .lst (vs ++ [u])) (d := .lst (ds ++ [y])) e1 ⟨_, rfl, rl.append (RepL.one r2)⟩
    exact ⟨p, vs, u, rfl, rfl, e2, by rw [← rl.length]; exact Nat.lt_trans hz big16, k _ _ _ _ _ q4 ((f1.trans s1 f2).trans s2 f3) s3 rfl⟩
  · exact q1.elim
/-- xs.pop(i) -/
def dPopAt (ta tb : DE) : DE := fun ρ M Q => ta ρ M fun x M1 => match x with
  | .cell p => (∃ ds0, M1 p = some (.lst ds0)) ∧ tb ρ M1 fun y M2 => match y with
    | .int i => ∃ ds d, M2 p = some (.lst ds) ∧ 0 ≤ i ∧ i < 2 ^ 63 ∧ ds[i.toNat]? = some d ∧ Q d (updM M2 p (.lst (ds.eraseIdx i.toNat)))
    | _ => False
  | _ => False
theorem seqIx {i : Int} {n : Nat} (h0 : 0 ≤ i) (h : i.toNat < n) : seqIndex? i n = some i.toNat := by
  first
    | exact seqIndex_of h0 (by omega)
    | (unfold seqIndex?; simp only []; split <;> omega)
theorem de_popAt (ho : PED X o ta) (he : PED X e tb) (hbase : attributeBase o "pop" X.env (eval o X.env) = eval o X.env := by rfl)
    (hfew : ((backTo cpos (starEach [e] X.env)).all (fun x => !x.1) && (backToKw cpos (keywordEach [] X.env)).all (fun x => x.1.isSome)
      && decide (([e] : List Expr).length + ([] : List Keyword).length + (if ([] : List Keyword).isEmpty then 0 else 1) < 30)) = true := by rfl)
    (hline : (apos.endLine == cpos.line) = true := by rfl) (hs : starEach [e] X.env = (false, eval e X.env) :: starEach [] X.env := by rfl) (hplain : (backTo cpos (starEach [] X.env)).any (·.1) = false := by rfl) :
    PED X (.Call (.Attribute o "pop" apos) [e] [] cpos) (dPopAt ta tb) := by
  obtain ⟨⟨ua, h3, h4⟩⟩ := ho
  obtain ⟨⟨ub, h5, h6⟩⟩ := he
  refine ⟨⟨_, pe_bm PySem.F.plainAttrs_list PySem.F.slot_list_pop PySem.F.type_list_pop mt_popAt h3 (pa_cons h5 pa_nil hs) hbase hfew hline hs hplain, fun ρ M QD h Hb σ H Q s r k => h4 ρ M _ h Hb σ H _ s r fun x M1 Hb1 H1 w q1 f1 s1 r1 => ?_⟩⟩
  dsimp only at q1
  split at q1
  · rename_i p
    obtain ⟨⟨ds0, e0⟩, q2⟩ := q1
    obtain ⟨_, o0, e00, vs0, rfl, _⟩ := s1.cell p _ e0
    cases (show w = V.ref p from r1)
    refine ⟨.inl ⟨rfl, vs0, .inl (.inl e00)⟩, h6 ρ M1 _ q2 Hb1 σ H1 _ s1 (r.mono f1.same) fun y M2 Hb2 H2 u q3 f2 s2 r2 => ?_⟩
    dsimp only at q3
    split at q3
    · rename_i j
      cases (show u = V.int j from r2)
      obtain ⟨ds, d, e1, h0, h1, e5, q4⟩ := q3
      obtain ⟨_, o1, e2, vs, rfl, rl⟩ := s2.cell p _ e1
      obtain ⟨v, hv, rv⟩ := rl.get e5
      obtain ⟨s3, f3⟩ := s2.mut (o := .lst (vs.eraseIdx j.toNat)) (d := .lst (ds.eraseIdx j.toNat)) e1 ⟨_, rfl, rl.eraseIdx _⟩
      exact ⟨p, vs, j, j.toNat, v, rfl, rfl, e2, by omega, h1, seqIx h0 (List.getElem?_eq_some_iff.mp hv).1, hv, k _ _ _ _ _ q4 ((f1.trans s1 f2).trans s2 f3) s3 (rv.mono f3.same)⟩
    · exact q3.elim
  · exact q1.elim
/-- xs.insert(0, y) -/
def dIns0 (ta tb tc : DE) : DE := fun ρ M Q => ta ρ M fun x M1 => match x with
  | .cell p => (∃ ds0, M1 p = some (.lst ds0)) ∧ tb ρ M1 fun y M2 => tc ρ M2 fun z M3 => match y with
    | .int i => ∃ ds, M3 p = some (.lst ds) ∧ ds.length < 16000000 ∧ i = 0 ∧ Q .non (updM M3 p (.lst (z :: ds)))
    | _ => False
  | _ => False
theorem de_ins0 (ho : PED X o ta) (he : PED X e tb) (hf : PED X f tc) (hbase : attributeBase o "insert" X.env (eval o X.env) = eval o X.env := by rfl)
    (hfew : ((backTo cpos (starEach [e, f] X.env)).all (fun x => !x.1) && (backToKw cpos (keywordEach [] X.env)).all (fun x => x.1.isSome)
      && decide (([e, f] : List Expr).length + ([] : List Keyword).length + (if ([] : List Keyword).isEmpty then 0 else 1) < 30)) = true := by rfl)
    (hline : (apos.endLine == cpos.line) = true := by rfl) (hs : starEach [e, f] X.env = (false, eval e X.env) :: starEach [f] X.env := by rfl) (hs' : starEach [f] X.env = (false, eval f X.env) :: starEach [] X.env := by rfl) (hplain : (backTo cpos (starEach [f] X.env)).any (·.1) = false := by rfl) :
    PED X (.Call (.Attribute o "insert" apos) [e, f] [] cpos) (dIns0 ta tb tc) := by
  obtain ⟨⟨ua, h3, h4⟩⟩ := ho
  obtain ⟨⟨ub, h5, h6⟩⟩ := he
  obtain ⟨⟨uc, h7, h8⟩⟩ := hf
  refine ⟨⟨_, pe_bm PySem.F.plainAttrs_list PySem.F.slot_list_insert PySem.F.type_list_insert mt_insert h3 (pa_cons h5 (pa_cons h7 pa_nil hs') hs) hbase hfew hline hs hplain, fun ρ M QD h Hb σ H Q s r k => h4 ρ M _ h Hb σ H _ s r fun x M1 Hb1 H1 w q1 f1 s1 r1 => ?_⟩⟩
  dsimp only at q1
  split at q1
  · rename_i p
    obtain ⟨⟨ds0, e0⟩, q2⟩ := q1
    obtain ⟨_, o0, e00, vs0, rfl, _⟩ := s1.cell p _ e0
    cases (show w = V.ref p from r1)
    refine ⟨.inl ⟨rfl, vs0, .inl (.inl e00)⟩, two_args h6 h8 q2 s1 (r.mono f1.same) fun y z M3 Hb3 H3 u u' q3 f3 s3 r2 r3 => ?_⟩
    split at q3
    · rename_i j
      cases (show u = V.int j from r2)
      obtain ⟨ds, e1, hz, rfl, q4⟩ := q3
      obtain ⟨_, o1, e2, vs, rfl, rl⟩ := s3.cell p _ e1
      obtain ⟨s4, f4⟩ := s3.mut (o := .lst (u' :: vs)) (d := .lst (z :: ds)) e1 ⟨_, rfl, u', vs, rfl, r3, rl⟩
      refine ⟨p, vs, 0, u', rfl, rfl, e2, by rw [← rl.length]; exact Nat.lt_trans hz big16, Int.le_refl 0, by decide, ?_⟩
      exact k _ _ _ _ _ q4 ((f1.trans s1 f3).trans s3 f4) s4 rfl
    · exact q3.elim
  · exact q1.elim
/-- d.setdefault(k, z), d a cell -/
def dSetd (td ty tz : DE) : DE := fun ρ M Q => td ρ M fun x M1 => match x with
  | .cell p => (∃ ks ds, M1 p = some (.dic ks ds)) ∧ ty ρ M1 fun y M2 => tz ρ M2 fun z M3 => match keyD y with
    | some k => ∃ ks ds, M3 p = some (.dic ks ds) ∧ ks.Nodup ∧ ks.length < 16000000 ∧ (∀ d, getK ks ds k = some d → Q d M3) ∧ (getK ks ds k = none → Q z (updM M3 p (.dic (putKD k z ks ds).1 (putKD k z ks ds).2)))
    | none => False
  | _ => False
theorem de_setd (ho : PED X o ta) (he : PED X e tb) (hf : PED X f tc) (m : M2 X o "setdefault" apos e f cpos := by exact ⟨rfl, rfl, rfl, rfl⟩) : PED X (.Call (.Attribute o "setdefault" apos) [e, f] [] cpos) (dSetd ta tb tc) := by
  obtain ⟨⟨ua, h3, h4⟩⟩ := ho
  obtain ⟨⟨ub, h5, h6⟩⟩ := he
  obtain ⟨⟨uc, h7, h8⟩⟩ := hf
  refine ⟨⟨_, pe_dsetd h3 h5 h7 m, fun ρ M QD h Hb σ H Q s r k => h4 ρ M _ h Hb σ H _ s r fun x M1 Hb1 H1 w q1 f1 s1 r1 => ?_⟩⟩
  dsimp only at q1
  split at q1
  · rename_i p
    obtain ⟨⟨ks0, ds0, e0⟩, q2⟩ := q1
    obtain ⟨_, o0, e00, vs0, rfl, _, _⟩ := s1.cell p _ e0
    cases (show w = V.ref p from r1)
    refine ⟨p, rfl, .inl ⟨_, .inl e00⟩, h6 ρ M1 _ q2 Hb1 σ H1 _ s1 (r.mono f1.same) fun y M2 Hb2 H2 u q3 f2 s2 r2 => h8 ρ M2 _ q3 Hb2 σ H2 _ s2 ((r.mono f1.same).mono f2.same) fun z M3 Hb3 H3 u' q4 f3 s3 r3 => ?_⟩
    dsimp only at q4
    split at q4
    · rename_i kk ek
      obtain ⟨ks, ds, e1, hn, hz, qa, qb⟩ := q4
      obtain ⟨_, o1, e2, vs, rfl, hl, rl⟩ := s3.cell p _ e1
      have ff := (f1.trans s1 f2).trans s2 f3
      obtain ⟨ws, i1, i2, i3⟩ := putK_zip (m := kk) r3 rl hl
      refine ⟨ks.zip vs, kk, e2, keyD_rep ek (r2.mono f3.same), ?_, fun v hv => ?_, fun hv => ?_⟩
      · rw [List.length_zip, hl, rl.length, Nat.min_self, ← rl.length, ← hl]
        have := big16
        omega
      · cases e3 : getK ks ds kk with
        | none =>
          rw [(getK_rep rl).2 e3 hl] at hv
          cases hv
        | some d =>
          obtain ⟨v', h1', h2'⟩ := (getK_rep rl).1 d e3
          rw [h1'] at hv
          cases hv
          exact k d M3 Hb3 H3 _ (qa d e3) ff s3 h2'
      · cases e3 : getK ks ds kk with
        | none =>
          obtain ⟨s4, f4⟩ := s3.mut (o := .dK (putK (ks.zip vs) kk u')) (d := .dic (putKD kk z ks ds).1 (putKD kk z ks ds).2) e1 ⟨ws, by rw [i1 hn], i2, i3⟩
          exact k z _ _ _ _ (qb e3) (ff.trans s3 f4) s4 (r3.mono f4.same)
        | some d =>
          obtain ⟨v', h1', h2'⟩ := (getK_rep rl).1 d e3
          rw [h1'] at hv
          cases hv
    · exact q4.elim
  · exact q1.elim
end
end DL

/-! part DOps3 -/
set_option maxHeartbeats 0
namespace DL
open PySem PySem.Spec PyProof.Rows L2
section
variable {X : Cx} {e a b c o i f : Expr} {es : List Expr} {pos p apos cpos : Pos} {ta tb tc : DE} {da : DA} {tA : DT} {x : Str}
/-! ### dict displays, keys written texts -/
def SndP (trs : List (TE × TE)) (ks : List Str) (da : DA) : Prop := ∀ ρ M QD, da ρ M QD → ∀ Hb σ H (Q : List (V × V) → Hp → Prop), Sx Hb H M → EnvR Hb σ ρ →
  (∀ ds M' Hb' H' vs, QD ds M' → Fr Hb H M Hb' H' M' → Sx Hb' H' M' → RepL Hb' ds vs → ks.length = ds.length → Q ((ks.zip vs).map fun q => (V.str q.1, q.2)) H') → tPairs trs σ H Q
structure PPsD (X : Cx) (pos : Pos) (keys : List (Option Expr)) (values : List Expr) (ks : List Str) (da : DA) : Prop where
  ex : ∃ trs, PPs X pos keys values trs ∧ SndP trs ks da
theorem dpp_nil : PPsD X pos [] [] [] dNil := ⟨⟨_, pps_nil, fun ρ M QD h Hb σ H Q s r k => k [] M Hb H [] h (Fr.refl _ _ _) s rfl rfl⟩⟩
theorem dpp_cons {k : Str} {j : Nat} {p2 : Pos} {v : Expr} {ks : List (Option Expr)} {vs : List Expr} {kz : List Str} (h : PED X v ta) (hr : PPsD X pos ks vs kz da) :
    PPsD X pos (some (.Constant (.str k) j p2) :: ks) (v :: vs) (k :: kz) (dCons ta da) := by
  obtain ⟨⟨u, h1, h2⟩⟩ := h
  obtain ⟨⟨trs, h3, h4⟩⟩ := hr
  refine ⟨⟨_, pps_cons pe_str h1 h3, fun ρ M QD h Hb σ H Q s r kk => ?_⟩⟩
  show u σ H fun y H2 => tPairs trs σ H2 fun ps H3 => Q ((.str k, y) :: ps) H3
  refine h2 ρ M _ h Hb σ H _ s r fun d M1 Hb1 H1 w q1 f1 s1 r1 => h4 ρ M1 _ q1 Hb1 σ H1 _ s1 (r.mono f1.same) fun ds M2 Hb2 H2 ws q2 f2 s2 r2 hl => ?_
  exact kk (d :: ds) M2 Hb2 H2 (w :: ws) q2 (f1.trans s1 f2) s2 ⟨w, ws, rfl, r1.mono f2.same, r2⟩ (by simp [hl])
def dDisp (ks : List Str) (da : DA) : DE := fun ρ M Q => da ρ M fun ds M1 => Q (.dic (ks.map Sum.inr) ds) M1
theorem mergeK_new : ∀ (more acc : List (Key × V)), (acc ++ more).map (·.1) |>.Nodup → mergeK acc more = acc ++ more
  | [], acc, _ => by rw [List.append_nil]; rfl
  | (k, v) :: r, acc, h => by
    have hv : valV acc k = none := by
      unfold valV
      rw [Option.map_eq_none_iff, List.find?_eq_none]
      intro q hq
      simp only [decide_eq_true_eq]
      intro z
      rw [List.map_append, List.map_cons, List.nodup_append] at h
      exact h.2.2 q.1 (List.mem_map_of_mem hq) k List.mem_cons_self z
    show mergeK (putK acc k v) r = _
    rw [putK_new v hv, mergeK_new r (acc ++ [(k, v)]) (by simpa using h)]
    simp
theorem de_disp {keys : List (Option Expr)} {values : List Expr} {ks : List Str} (h : PPsD X pos keys values ks da) (hn : (ks.map (Sum.inr : Str → Key)).Nodup := by decide +kernel) (hall : keys.all (·.isSome) = true := by rfl) (hl : keys.length = values.length := by rfl)
    (h0 : keys ≠ [] := by intro z; cases z) (h15 : keys.length ≤ 15 := by decide) (hk : ks.length ≤ 15 := by decide) : PED X (.Dict keys values pos) (dDisp ks da) := by
  obtain ⟨⟨trs, h1, h2⟩⟩ := h
  refine ⟨⟨_, pe_disp h1 hall hl h0 h15, fun ρ M QD q Hb σ H Q s r kk p hp => ?_⟩⟩
  obtain ⟨s0, f0⟩ := s.extra (o := .dK []) hp
  obtain ⟨n1, n2⟩ := s.none_of hp
  refine h2 ρ M _ q Hb σ (upd H p (.dK [])) _ s0 r fun ds M1 Hb1 H1 vs q1 f1 s1 r1 hlen => ?_
  have e1 : H1 p = some (.dK []) := f1.keep p _ upd_same n2
  obtain ⟨m1, m2⟩ := f1.out p _ upd_same n1 n2
  have ez : ((ks.zip vs).map fun q => (V.str q.1, q.2)) = ((ks.map (Sum.inr : Str → Key)).zip vs).map (fun kv => (kV kv.1, kv.2)) := by
    have : ∀ (ks : List Str) (vs : List V), ((ks.zip vs).map fun q => (V.str q.1, q.2)) = ((ks.map (Sum.inr : Str → Key)).zip vs).map (fun kv => (kV kv.1, kv.2)) := by
      intro ks
      induction ks with
      | nil => intro vs; rfl
      | cons k ks ih =>
        intro vs
        cases vs with
        | nil => rfl
        | cons v vr => simp only [List.map_cons, List.zip_cons_cons, ih]; rfl
    exact this ks vs
  have hlz : (ks.map (Sum.inr : Str → Key)).length = vs.length := by rw [List.length_map, hlen, r1.length]
  refine ⟨e1, (ks.map (Sum.inr : Str → Key)).zip vs, ez, by rw [List.length_zip, hlz, Nat.min_self, ← hlz, List.length_map]; exact hk, ?_⟩
  have em : mergeK [] ((ks.map (Sum.inr : Str → Key)).zip vs) = (ks.map (Sum.inr : Str → Key)).zip vs := by
    rw [mergeK_new _ [] (by rw [List.nil_append, List.map_fst_zip (by omega)]; exact hn), List.nil_append]
  rw [em]
  -- the dict is frozen
  generalize hO : (HO.dK ((ks.map (Sum.inr : Str → Key)).zip vs)) = O
  have sm : Same Hb1 (upd Hb1 p O) := fun b u e => by rw [upd_ne (ne_of_none e m1)]; exact e
  have s2 : Sx (upd Hb1 p O) (upd H1 p O) M1 := by
    refine ⟨fun a u z => ?_, fun q d' z => ?_⟩
    · by_cases ha : a = p
      · subst ha
        rw [upd_same] at z ⊢
        exact .inl z
      · rw [upd_ne ha] at z ⊢
        exact s1.le a u z
    · obtain ⟨e1, u, e2, e3⟩ := s1.cell q d' z
      have hq : q ≠ p := ne_cell z m2
      exact ⟨by rw [upd_ne hq]; exact e1, u, by rw [upd_ne hq]; exact e2, e3.mono sm⟩
  refine kk _ M1 _ _ _ q1 ⟨f1.same.trans sm, fun a o e q => ?_, fun a o e q1 q2 => ?_⟩ s2 ⟨p, vs, rfl, by rw [upd_same, hO], by rw [List.length_map]; exact hlen, r1.mono sm⟩
  · rw [upd_ne (ne_of_none e hp)]
    exact f1.keep a o (by rw [upd_ne (ne_of_none e hp)]; exact e) q
  · obtain ⟨y1, y2⟩ := f1.out a o (by rw [upd_ne (ne_of_none e hp)]; exact e) q1 q2
    exact ⟨by rw [upd_ne (ne_of_none e hp)]; exact y1, y2⟩
/-! ### dict comprehensions, the keys new at each turn -/
def dGatherK (ds : List D) (gd : CG) (tt : DT) (tk te : DE) (vs : List Nat) (ρ : Env) (M : Mp) (Q : List Key → List D → Mp → Prop) : Prop :=
  ds.length ≤ 16000000 ∧ ∃ W : Nat → List Key → List D → Mp → Prop, W 0 [] [] M ∧ (∀ (i : Nat) (d : D) (ks : List Key) (acc : List D) (M' : Mp), ds[i]? = some d → W i ks acc M' → ks.length ≤ i → ∃ ρ2, gd d (wipeD ρ vs) = some ρ2 ∧ tt ρ2 M' fun b M3 =>
    dIte b (tk ρ2 M3 fun y M4 => te ρ2 M4 fun z M5 => ∃ k, keyD y = some k ∧ k ∉ ks ∧ W (i + 1) (ks ++ [k]) (acc ++ [z]) M5) (W (i + 1) ks acc M3)) ∧ ∀ ks acc M', W ds.length ks acc M' → Q ks acc M'
theorem gatherK_core {gt : TG} {gd : CG} {tt : DT} {tk te : DE} {ut : TT} {uk ue : TE} {vs : List Nat} (hg : GW gt vs gd) (ht : SndT ut tt) (hk : SndE uk tk) (he : SndE ue te) {ds : List D} {ρ : Env} {M : Mp} {QD : List Key → List D → Mp → Prop} (h : dGatherK ds gd tt tk te vs ρ M QD)
    {Hb H : Hp} {σ : L2.St} {Q : VK} {J : It} (s : Sx Hb H M) (r : EnvR Hb σ ρ) (k : OK Hb H M (fun x M' => ∃ ks acc, x = .dic ks acc ∧ QD ks acc M') Q) (it : ItD J Hb H M ds) {Dl : Addr} (hD : H Dl = none) :
    ∃ W : Nat → Nat → Hp → Prop, (∃ m, W 0 m (upd H Dl (.dK []))) ∧ ∀ i m H, W i m H →
      (J.stop i H ∧ Q (.ref Dl) H) ∨ (J.go i H ∧ ∃ Nx : Hp → Prop, (∀ H', Nx H' → ∃ m', m' < m ∧ W (i + 1) m' H') ∧ ∀ x H', J.yld i H x H' → gt x (L2.wipe σ vs) H' fun σ2 H2 => L2.wipe σ2 vs = L2.wipe σ vs ∧ ut σ2 H2 fun b H3 =>
        if b = true then uk σ2 H3 fun y H4 => ue σ2 H4 fun z H5 => ∃ kvs k, y = kV k ∧ H5 Dl = some (.dK kvs) ∧ kvs.length < sizeLine ∧ Nx (upd H5 Dl (.dK (putK kvs k z))) else Nx H3) := by
  obtain ⟨hl, W, w0, ws, we⟩ := h
  have hsz := big16
  obtain ⟨n1, n2⟩ := s.none_of hD
  let St (i : Nat) (H' : Hp) : Prop := ∃ ks acc M' Hb' xs, W i ks acc M' ∧ ks.length ≤ i ∧ ks.length = acc.length ∧ Fr Hb H M Hb' H' M' ∧ Sx Hb' H' M' ∧ H' Dl = some (.dK (ks.zip xs)) ∧ RepL Hb' acc xs ∧ Hb' Dl = none ∧ M' Dl = none
  obtain ⟨s0, f0⟩ := s.extra (o := .dK []) hD
  refine ⟨fun i m H' => m = ds.length - i ∧ i ≤ ds.length ∧ St i H', ⟨ds.length, rfl, Nat.zero_le _, [], [], M, Hb, [], w0, Nat.le_refl _, rfl, f0, s0, upd_same, rfl, n1, n2⟩, ?_⟩
  rintro i m H' ⟨rfl, hi, ks, acc, M', Hb', xs, w, ha, hka, f, s', hx, rx, m1, m2⟩
  obtain ⟨stop, go⟩ := it Hb' H' M' f s' i
  by_cases hlt : i < ds.length
  · obtain ⟨g1, g2⟩ := go _ (List.getElem?_eq_getElem hlt)
    refine .inr ⟨g1, St (i + 1), fun H2 q => ⟨ds.length - (i + 1), by omega, rfl, hlt, q⟩, fun x H3 y => ?_⟩
    obtain ⟨Hb3, f3, s3, r3⟩ := g2 x H3 y
    obtain ⟨ρ2, e2, q2⟩ := ws i _ ks acc M' (List.getElem?_eq_getElem hlt) w ha
    have ff3 := f.trans s' f3
    refine hg _ x Hb3 H3 M' _ ρ2 σ _ s3 r3 ((r.wipe vs).mono (f.trans s' f3).same) e2 fun σ2 rσ hw => ⟨hw, ?_⟩
    refine ht ρ2 M' _ q2 Hb3 σ2 H3 _ s3 rσ fun b M4 Hb4 H4 q4 f4 s4 => ?_
    have ff4 := ff3.trans s3 f4
    have x3 : H3 Dl = some (.dK (ks.zip xs)) := f3.keep _ _ hx m2
    obtain ⟨y1, y2⟩ := f3.out _ _ hx m1 m2
    have x4 : H4 Dl = some (.dK (ks.zip xs)) := f4.keep _ _ x3 y2
    obtain ⟨z1, z2⟩ := f4.out _ _ x3 y1 y2
    cases b with
    | true =>
      refine ite_tt (hk ρ2 M4 _ (q4.1 rfl) Hb4 σ2 H4 _ s4 (rσ.mono f4.same) fun d M5 Hb5 H5 v q5 f5 s5 r5 => he ρ2 M5 _ q5 Hb5 σ2 H5 _ s5 ((rσ.mono f4.same).mono f5.same) fun d' M6 Hb6 H6 v' q6 f6 s6 r6 => ?_)
      obtain ⟨kk, ek, hnk, q7⟩ := q6
      have f56 := f5.trans s5 f6
      have x6 : H6 Dl = some (.dK (ks.zip xs)) := f56.keep _ _ x4 z2
      obtain ⟨u1, u2⟩ := f56.out _ _ x4 z1 z2
      have hlx : ks.length = xs.length := by rw [hka, rx.length]
      refine ⟨ks.zip xs, kk, keyD_rep ek (r5), x6, by rw [List.length_zip, hlx, Nat.min_self, ← hlx]; omega, ?_⟩
      have ep : putK (ks.zip xs) kk v' = (ks ++ [kk]).zip (xs ++ [v']) := by
        rw [putK_new, List.zip_append hlx]
        · rfl
        · unfold valV
          rw [Option.map_eq_none_iff, List.find?_eq_none]
          intro q hq
          simp only [decide_eq_true_eq]
          intro z
          exact hnk (by rw [← z]; exact (List.of_mem_zip (a := q.1) (b := q.2) hq).1)
      rw [ep]
      refine ⟨ks ++ [kk], acc ++ [d'], M6, Hb6, xs ++ [v'], q7, by rw [List.length_append, List.length_singleton]; omega, by simp [hka], ?_, ?_, upd_same, ((rx.mono f3.same).mono (f4.trans s4 f56).same).append (RepL.one r6), u1, u2⟩
      · have ff5 := ff4.trans s4 f56
        exact ⟨ff5.same, fun a o e q => by rw [upd_ne (ne_of_none e hD)]; exact ff5.keep a o e q, ff5.out⟩
      · refine ⟨fun a o e => ?_, fun p d' e => ?_⟩
        · rw [upd_ne (ne_of_none e u1)]
          exact s6.le a o e
        · rw [upd_ne (ne_cell e u2)]
          exact s6.cell p d' e
    | false => exact ite_ff ⟨ks, acc, M4, Hb4, xs, q4.2 rfl, by omega, hka, ff4, s4, x4, (rx.mono f3.same).mono f4.same, z1, z2⟩
  · have e : i = ds.length := by omega
    subst e
    refine .inl ⟨stop (Nat.le_refl _), ?_⟩
    have sm : Same Hb' (upd Hb' Dl (.dK (ks.zip xs))) := fun b u e => by rw [upd_ne (ne_of_none e m1)]; exact e
    have s6 : Sx (upd Hb' Dl (.dK (ks.zip xs))) H' M' := by
      refine ⟨fun a u z => ?_, fun q d' z => ?_⟩
      · by_cases haD : a = Dl
        · subst haD
          rw [upd_same] at z
          cases z
          exact .inl hx
        · rw [upd_ne haD] at z
          exact s'.le a u z
      · obtain ⟨e1, u, e2, e3⟩ := s'.cell q d' z
        have hq : q ≠ Dl := ne_cell z m2
        exact ⟨by rw [upd_ne hq]; exact e1, u, e2, e3.mono sm⟩
    refine k (.dic ks acc) M' (upd Hb' Dl (.dK (ks.zip xs))) H' _ ⟨ks, acc, rfl, we ks acc M' w⟩ ⟨f.same.trans sm, f.keep, fun a o e h1 h2 => ?_⟩ s6 ⟨Dl, xs, rfl, upd_same, hka, rx.mono sm⟩
    obtain ⟨y1, y2⟩ := f.out a o e h1 h2
    exact ⟨by rw [upd_ne (ne_of_none e hD)]; exact y1, y2⟩
def dDc (di : DI) (gd : CG) (tt : DT) (tk te : DE) (vs : List Nat) : DE := fun ρ M Q => di ρ M fun ds M1 => dGatherK ds gd tt tk te vs ρ M1 fun ks acc M2 => Q (.dic ks acc) M2
theorem snd_dc {wi : TI} {di : DI} {gt : TG} {gd : CG} {tt : DT} {tk te : DE} {ut : TT} {uk ue : TE} {vs : List Nat} (hi : SndI wi di) (hg : GW gt vs gd) (ht : SndT ut tt) (hk : SndE uk tk) (he : SndE ue te) : SndE (tDc wi gt ut uk ue vs) (dDc di gd tt tk te vs) := fun ρ M QD h Hb σ H Q s r k =>
  hi ρ M _ h Hb σ H _ s r fun ds M' Hb' H' J q f s' it Dl hD => gatherK_core hg ht hk he q s' (r.mono f.same) (fun d M2 Hb2 H2 v ⟨ks, acc, e, q2⟩ f2 s2 r2 => (k.fr s' f) d M2 Hb2 H2 v (by rw [e]; exact q2) f2 s2 r2) it hD
theorem de_dc {kx vx tg iter : Expr} {ifs : List Expr} {scope : Scope} {own : List (Str × Nat)} {gt : TG} {gd : CG} {tt : DT} {tk te : DE} {di : DI} (hc : X.calm = true) (hN : X.N.Nodup) (hi : PID X tg iter di) (ok : BlkOk X.N X.env.scope scope own)
    (hg : Blk X scope fun Y => PG Y tg gt) (gw : GW gt (own.map (·.2)) gd) (ht : Blk X scope fun Y => PTsD Y ifs tt) (hk : Blk X scope fun Y => PED Y kx tk) (he : Blk X scope fun Y => PED Y vx te) (hs : ∀ x, foldedSetIterable iter X.env x = pure x := by intro _; rfl) :
    PED X (.DictComp kx vx [⟨tg, iter, ifs, 0⟩] scope pos) (dDc di gd tt tk te (own.map (·.2))) := by
  obtain ⟨⟨t0, a0, b0⟩⟩ := hi
  exact ⟨⟨_, pe_dc hc hN a0 ok hg (fun s H C cl fp => (ht s H C cl fp).low) (fun s H C cl fp => (hk s H C cl fp).low) (fun s H C cl fp => (he s H C cl fp).low) hs, snd_dc b0 gw (snd_lowT _) (snd_lowE _) (snd_lowE _)⟩⟩
/-! ### a frozen dict walked by its items, while it is locked -/
/-- a path to a frozen dict: a name, a field of a name -/
structure Pth (t : TE) (g : Env → Mp → Option D) : Prop where
  at_ : ∀ ρ M d, g ρ M = some d → ∀ Hb σ H, Sx Hb H M → EnvR Hb σ ρ → ∃ v, Rep Hb d v ∧ ∀ H2, (∀ a C dx fs, H a = some (.ins C dx fs) → H2 a = some (.ins C dx fs)) → ∀ Q : VK, Q v H2 → t σ H2 Q
structure PPD (X : Cx) (e : Expr) (g : Env → Mp → Option D) : Prop where
  ex : ∃ t, PE X e t ∧ Pth t g
def gVar (i : Nat) : Env → Mp → Option D := fun ρ _ => (ρ[i]?).join
theorem dp_var (i : Nat) {x : Str} (hN : X.N[i]? = some x := by rfl) (hv : Vis X.env.scope x := by first | exact Or.inl rfl | exact Or.inr (Or.inl rfl) | exact Or.inr (Or.inr rfl)) (hd : (x == ("__debug__" : Str)) = false := by decide)
    (hcd : (x == ("__classdict__" : Str)) = false := by decide) : PPD X (.Name x pos) (gVar i) := ⟨⟨_, pe_var hN hv hd hcd, ⟨fun ρ M d h Hb σ H s r => by
  have e : ρ[i]? = some (some d) := by
    unfold gVar at h
    cases q : ρ[i]? with
    | none => rw [q] at h; cases h
    | some o => rw [q] at h; cases o <;> cases h; rfl
  obtain ⟨v, h1, h2⟩ := r.get i d e
  exact ⟨v, h2, fun H2 _ Q q => ⟨v, h1, q⟩⟩⟩⟩⟩
def gFld (C : Addr) (m : Str) (g : Env → Mp → Option D) : Env → Mp → Option D := fun ρ M => match (g ρ M).bind (look M) with
  | some (.ins C' fs ds) => if C' = C then fldD fs ds m else none
  | _ => none
theorem dp_fld {C : Addr} {m : Str} {g : Env → Mp → Option D} (c : Cls X.K C) (n : NoAttr X.K C m) (h : PPD X e g) (hb : attributeBase e m X.env (eval e X.env) = eval e X.env := by rfl) : PPD X (.Attribute e m pos) (gFld C m g) := by
  obtain ⟨⟨t1, a1, b1⟩⟩ := h
  refine ⟨⟨_, pe_fld a1 hb, ⟨fun ρ M d h Hb σ H s r => ?_⟩⟩⟩
  unfold gFld at h
  split at h
  · rename_i C' fs ds e1
    split at h
    · rename_i ec
      subst ec
      cases eg : g ρ M with
      | none => rw [eg] at e1; cases e1
      | some z =>
        rw [eg] at e1
        obtain ⟨v, h1, h2⟩ := b1.at_ ρ M z eg Hb σ H s r
        obtain ⟨a, dx, vs, rfl, ha, _, rl⟩ := look_ins s h1 e1
        obtain ⟨u, h3, h4⟩ := fld_look rl h
        refine ⟨u, h4, fun H2 hk Q q => h2 H2 hk _ ⟨a, C', dx, _, u, rfl, hk _ _ _ _ ha, c, n, h3, q⟩⟩
    · cases h
  · cases h
/-- the items of a frozen dict -/
def keyOf : Key → D
  | .inl i => .int i
  | .inr x => .str x
def itemsD (ks : List Key) (ds : List D) : List D := List.zipWith (fun k d => .tup [keyOf k, d]) ks ds
theorem keyOf_rep {H : Hp} (k : Key) : Rep H (keyOf k) (kV k) := by cases k <;> rfl
theorem zip_at2 {α β : Type} {xs : List α} {ys : List β} {i : Nat} {x : α} {y : β} (h : (xs.zip ys)[i]? = some (x, y)) : xs[i]? = some x ∧ ys[i]? = some y := by
  obtain ⟨a, b, e1, e2, e3⟩ := zip_at (f := Prod.mk) (by simpa [List.zip] using h)
  cases e3
  exact ⟨e1, e2⟩
theorem it_items {a : Addr} {od : Obj} {ks : List Key} {ds : List D} {vs : List V} {Hb H : Hp} {M : Mp} (hl : ks.length = ds.length) (rl : RepL Hb ds vs) (hb : Hb a = some (.dK (ks.zip vs))) (s : Sx Hb H M) (h : H a = some (.frz od (.dK (ks.zip vs)))) :
    ItD (Iti a od (ks.zip vs)) Hb H M (itemsD ks ds) := fun Hb2 H2 M2 f2 s2 i => by
  have h2 := f2.keep a _ h (s.apart hb)
  have hlz : (ks.zip vs).length = ds.length := by rw [List.length_zip, hl, rl.length, Nat.min_self]
  refine ⟨fun hi => ⟨h2, by unfold itemsD at hi; rw [List.length_zipWith, hl, Nat.min_self] at hi; omega⟩, fun d hd => ?_⟩
  obtain ⟨k, d1, e1, e2, rfl⟩ := zip_at hd
  obtain ⟨v, hv, rv⟩ := rl.get e2
  have hlt := (List.getElem?_eq_some_iff.mp e2).1
  refine ⟨⟨h2, by omega⟩, fun x H3 y => ?_⟩
  obtain ⟨T, k', v', e3, rfl, nT, rfl⟩ := y
  obtain ⟨e4, e5⟩ := zip_at2 e3
  rw [e1] at e4
  rw [hv] at e5
  cases e4
  cases e5
  obtain ⟨s3, f3⟩ := s2.frozen (o := .tup [kV k, v]) nT
  exact ⟨_, f3, s3, T, _, rfl, upd_same, ⟨_, _, rfl, keyOf_rep k, _, _, rfl, (rv.mono f2.same).mono f3.same, rfl⟩⟩
def dForItems (pth : Env → Mp → Option D) (g : DG) (tb : DS) : DS := fun P ρ M => ∃ ks ds, pth ρ M = some (.dic ks ds) ∧ dLoop (itemsD ks ds) g tb P ρ M
/-- behind the lock -/
theorem unlock {Hb H Hb' H' : Hp} {M M' : Mp} {a : Addr} {od : Obj} {kvs : List (Key × V)} (hb : Hb a = some (.dK kvs)) (ha : H a = some (.dK kvs)) (s : Sx Hb H M) (f : Fr Hb (upd H a (.frz od (.dK kvs))) M Hb' H' M') (s' : Sx Hb' H' M') :
    H' a = some (.frz od (.dK kvs)) ∧ Fr Hb H M Hb' (upd H' a (.dK kvs)) M' ∧ Sx Hb' (upd H' a (.dK kvs)) M' := by
  have hm := s.apart hb
  refine ⟨f.keep a _ upd_same hm, ⟨f.same, fun b o e q => ?_, fun b o e q1 q2 => ?_⟩, ⟨fun b o e => ?_, fun p d e => ?_⟩⟩
  · by_cases hba : b = a
    · subst hba
      rw [ha] at e
      cases e
      exact upd_same
    · rw [upd_ne hba]
      exact f.keep b o (by rw [upd_ne hba]; exact e) q
  · by_cases hba : b = a
    · subst hba
      rw [hb] at q1
      cases q1
    · exact f.out b o (by rw [upd_ne hba]; exact e) q1 q2
  · by_cases hba : b = a
    · subst hba
      have := f.same _ _ hb
      rw [this] at e
      cases e
      exact .inl upd_same
    · rw [upd_ne hba]
      exact s'.le b o e
  · have hpa : p ≠ a := by
      intro z
      subst z
      have := s'.apart (f.same _ _ hb)
      rw [this] at e
      cases e
    rw [upd_ne hpa]
    exact s'.cell p d e
theorem locked {Hb H : Hp} {M : Mp} {a : Addr} {kvs : List (Key × V)} (hb : Hb a = some (.dK kvs)) (s : Sx Hb H M) (od : Obj) : Sx Hb (upd H a (.frz od (.dK kvs))) M := by
  refine ⟨fun b o e => ?_, fun p d e => ?_⟩
  · by_cases hba : b = a
    · subst hba
      rw [hb] at e
      cases e
      exact .inr ⟨_, od, rfl, upd_same⟩
    · rw [upd_ne hba]
      exact s.le b o e
  · have hpa : p ≠ a := by
      intro z
      subst z
      rw [s.apart hb] at e
      cases e
    rw [upd_ne hpa]
    exact s.cell p d e
theorem ps_either {st : Stmt} {t u : TS} (h1 : PS X st t) (h2 : PS X st u) : PS X st (fun D σ H => t D σ H ∨ u D σ H) := ⟨fun pins s σ H D I h => by
  rcases h with h | h
  · exact h1.run pins s σ H D I h
  · exact h2.run pins s σ H D I h⟩
theorem pe_either {t u : TE} (h1 : PE X e t) (h2 : PE X e u) : PE X e (fun σ H Q => t σ H Q ∨ u σ H Q) := ⟨fun pins s σ H Q I h => by
  rcases h with h | h
  · exact h1.run pins s σ H Q I h
  · exact h2.run pins s σ H Q I h⟩
theorem ds_forItems {elts : List Expr} {kk : Nat} {tpos apos cpos : Pos} {body : List Stmt} {g : DG} {t : DS} {pth : Env → Mp → Option D} (hp : PassesOwn (model X.prog X.w) X.A X.env X.xe) (hc : X.calm = true) (hi : PPD X e pth) (hg : PGD X (.Tuple elts kk tpos) g) (hb : PSsD X body t)
    (hbase : attributeBase e "items" X.env (eval e X.env) = eval e X.env := by rfl) (hline : (apos.endLine == cpos.line) = true := by rfl)
    (hs : ∀ x, foldedSetIterable (.Call (.Attribute e "items" apos) [] [] cpos) X.env x = pure x := by intro _; rfl) : PSD X (.For (.Tuple elts kk tpos) (.Call (.Attribute e "items" apos) [] [] cpos) body [] pos) (dForItems pth g t) := by
  obtain ⟨⟨t0, a0, b0⟩⟩ := hi
  obtain ⟨⟨t1, a1, b1⟩⟩ := hg
  obtain ⟨⟨t2, a2, b2⟩⟩ := hb
  have hfor := ps_for (tg := .Tuple elts kk tpos) hp hc (pi_items (elts := elts) (kk := kk) (tpos := tpos) a0 hbase hline) a1 a2 hs (pos := pos)
  refine ⟨⟨_, ps_either hfor (ps_lock hfor), fun P ρ M h Hb σ H E s r k => ?_⟩⟩
  obtain ⟨ks, ds, e1, q⟩ := h
  obtain ⟨v, rv, hv⟩ := b0.at_ ρ M _ e1 Hb σ H s r
  obtain ⟨a, vs, rfl, hba, hl, rl⟩ := id rv
  rcases s.le a _ hba with ha | ⟨kvs, od, ek, ha⟩
  · right
    refine ⟨a, .dK (ks.zip vs), ha, True.intro, fun od => ?_⟩
    have s1 := locked hba s od
    refine hv _ (fun b C dx fs hbb => ?_) _ ⟨a, od, ks.zip vs, rfl, upd_same, ?_⟩
    · have : b ≠ a := fun z => by subst z; rw [ha] at hbb; cases hbb
      rw [upd_ne this]
      exact hbb
    refine loop_core b1 b2 q s1 r ⟨fun ρ' M' Hb' σ' H' q' f' s' r' => ?_, fun d M' Hb' H' w q' f' s' r' => ?_, fun ρ' M' Hb' σ' H' q' f' s' r' => ?_, fun ρ' M' Hb' σ' H' q' f' s' r' => ?_⟩ (it_items hl rl hba s1 upd_same)
    · obtain ⟨u1, u2, u3⟩ := unlock hba ha s f' s'
      exact ⟨u1, k.nx _ _ _ _ _ q' u2 u3 r'⟩
    · obtain ⟨u1, u2, u3⟩ := unlock hba ha s f' s'
      exact ⟨u1, k.rt _ _ _ _ _ q' u2 u3 r'⟩
    · obtain ⟨u1, u2, u3⟩ := unlock hba ha s f' s'
      exact ⟨u1, k.bk _ _ _ _ _ q' u2 u3 r'⟩
    · obtain ⟨u1, u2, u3⟩ := unlock hba ha s f' s'
      exact ⟨u1, k.ct _ _ _ _ _ q' u2 u3 r'⟩
  · left
    cases ek
    exact hv H (fun _ _ _ _ z => z) _ ⟨a, od, ks.zip vs, rfl, ha, loop_core b1 b2 q s r k (it_items hl rl hba s ha)⟩
/-- {k: v for .. in d.items()} -/
def dDcItems (pth : Env → Mp → Option D) (gd : CG) (tt : DT) (tk te : DE) (vs : List Nat) : DE := fun ρ M Q => ∃ ks ds, pth ρ M = some (.dic ks ds) ∧ dGatherK (itemsD ks ds) gd tt tk te vs ρ M fun ks' acc M2 => Q (.dic ks' acc) M2
theorem de_dcItems {kx vx : Expr} {elts : List Expr} {kk : Nat} {tpos apos cpos : Pos} {ifs : List Expr} {scope : Scope} {own : List (Str × Nat)} {gt : TG} {gd : CG} {tt : DT} {tk te : DE} {pth : Env → Mp → Option D} (hc : X.calm = true) (hN : X.N.Nodup) (hi : PPD X e pth) (ok : BlkOk X.N X.env.scope scope own)
    (hg : Blk X scope fun Y => PG Y (.Tuple elts kk tpos) gt) (gw : GW gt (own.map (·.2)) gd) (ht : Blk X scope fun Y => PTsD Y ifs tt) (hk : Blk X scope fun Y => PED Y kx tk) (he : Blk X scope fun Y => PED Y vx te)
    (hbase : attributeBase e "items" X.env (eval e X.env) = eval e X.env := by rfl) (hline : (apos.endLine == cpos.line) = true := by rfl)
    (hs : ∀ x, foldedSetIterable (.Call (.Attribute e "items" apos) [] [] cpos) X.env x = pure x := by intro _; rfl) :
    PED X (.DictComp kx vx [⟨.Tuple elts kk tpos, .Call (.Attribute e "items" apos) [] [] cpos, ifs, 0⟩] scope pos) (dDcItems pth gd tt tk te (own.map (·.2))) := by
  obtain ⟨⟨t0, a0, b0⟩⟩ := hi
  have hdc := pe_dc hc hN (pi_items (elts := elts) (kk := kk) (tpos := tpos) a0 hbase hline) ok hg (fun s H C cl fp => (ht s H C cl fp).low) (fun s H C cl fp => (hk s H C cl fp).low) (fun s H C cl fp => (he s H C cl fp).low) hs (pos := pos)
  refine ⟨⟨_, pe_either hdc (pe_lock hdc), fun ρ M QD h Hb σ H Q s r k => ?_⟩⟩
  obtain ⟨ks, ds, e1, q⟩ := h
  obtain ⟨v, rv, hv⟩ := b0.at_ ρ M _ e1 Hb σ H s r
  obtain ⟨a, vs, rfl, hba, hl, rl⟩ := id rv
  rcases s.le a _ hba with ha | ⟨kvs, od, ek, ha⟩
  · right
    refine ⟨a, .dK (ks.zip vs), ha, True.intro, fun od => ?_⟩
    have s1 := locked hba s od
    refine hv _ (fun b C dx fs hbb => ?_) _ ⟨a, od, ks.zip vs, rfl, upd_same, fun Dl hD => ?_⟩
    · have : b ≠ a := fun z => by subst z; rw [ha] at hbb; cases hbb
      rw [upd_ne this]
      exact hbb
    refine gatherK_core (Q := fun v H' => H' a = some (.frz od (.dK (ks.zip vs))) ∧ Q v (upd H' a (.dK (ks.zip vs)))) gw (snd_lowT _) (snd_lowE _) (snd_lowE _) q s1 r (fun d M2 Hb2 H2 v ⟨ks', acc, e, q2⟩ f2 s2 r2 => ?_) (it_items hl rl hba s1 upd_same) hD
    obtain ⟨u1, u2, u3⟩ := unlock hba ha s f2 s2
    exact ⟨u1, k d M2 Hb2 _ v (by rw [e]; exact q2) u2 u3 r2⟩
  · left
    cases ek
    exact hv H (fun _ _ _ _ z => z) _ ⟨a, od, ks.zip vs, rfl, ha, fun Dl hD => gatherK_core gw (snd_lowT _) (snd_lowE _) (snd_lowE _) q s r (fun d M2 Hb2 H2 v ⟨ks', acc, e, q2⟩ f2 s2 r2 => k d M2 Hb2 H2 v (by rw [e]; exact q2) f2 s2 r2) (it_items hl rl hba s ha) hD⟩
end
end DL

/-! part DOps4 -/
set_option maxHeartbeats 0
namespace DL
open PySem PySem.Spec PyProof.Rows L2
/-! ### calls of what is built in, by values -/
abbrev DCl := List D → Mp → DK → Prop
def SndC (r : List V → Hp → VK → Prop) (rd : DCl) : Prop := ∀ xs M QD, rd xs M QD → ∀ Hb H vs Q, Sx Hb H M → RepL Hb xs vs → OK Hb H M QD Q → r vs H Q
structure ClD (X : Cx) (f : Value) (rd : DCl) : Prop where
  ex : ∃ r, CallR X f r ∧ SndC r rd
def dCB (rd : DCl) (da : DA) : DE := fun ρ M Q => da ρ M fun xs M1 => rd xs M1 Q
theorem snd_cb {r : List V → Hp → VK → Prop} {rd : DCl} {u : TA} {da : DA} (h : SndC r rd) (ha : SndA u da) : SndE (tCB r u) (dCB rd da) := fun ρ M QD q Hb σ H Q s rr k =>
  ha ρ M _ q Hb σ H _ s rr fun xs M1 Hb1 H1 vs q1 f1 s1 r1 => h xs M1 QD q1 Hb1 H1 vs Q s1 r1 (k.fr s1 f1)
theorem rep1 {Hb : Hp} {x : D} {vs : List V} (h : RepL Hb [x] vs) : ∃ v, vs = [v] ∧ Rep Hb x v := by
  obtain ⟨v, vr, rfl, r, h2⟩ := h
  cases h2
  exact ⟨v, rfl, r⟩
theorem rep2 {Hb : Hp} {x y : D} {vs : List V} (h : RepL Hb [x, y] vs) : ∃ v w, vs = [v, w] ∧ Rep Hb x v ∧ Rep Hb y w := by
  obtain ⟨v, vr, rfl, r, w, vr2, rfl, r2, h2⟩ := h
  cases h2
  exact ⟨v, w, rfl, r, r2⟩
section
variable {X : Cx} {e a b c o i f : Expr} {es : List Expr} {pos p apos cpos : Pos} {ta tb tc : DE} {da : DA} {tA : DT} {x : Str} {bid T : String} {rd : DCl}
theorem de_callB (hc : ClD X (.builtin bid) rd) (hg : Gl X x) (hm : X.mg x = none) (hv : bootBuiltins x = some (.builtin bid)) (ha : PAD X (e :: es) da) (hn : x ≠ "__name__" := by decide) (hdb : (x == ("__debug__" : Str)) = false := by decide)
    (he : starEach (e :: es) X.env = (false, eval e X.env) :: starEach es X.env := by rfl) (hpl : (backTo pos (starEach es X.env)).any (·.1) = false := by rfl) : PED X (.Call (.Name x p) (e :: es) [] pos) (dCB rd da) := by
  obtain ⟨⟨r, h1, h2⟩⟩ := hc
  obtain ⟨⟨u, h3, h4⟩⟩ := ha
  exact ⟨⟨_, pe_callB h1 hg hm hv h3 hn hdb he hpl, snd_cb h2 h4⟩⟩
theorem de_callTy (hc : ClD X (.type T) rd) (hg : Gl X x) (hm : X.mg x = none) (hv : bootBuiltins x = some (.type T)) (ha : PAD X (e :: es) da) (hn : x ≠ "__name__" := by decide) (hdb : (x == ("__debug__" : Str)) = false := by decide)
    (he : starEach (e :: es) X.env = (false, eval e X.env) :: starEach es X.env := by rfl) (hpl : (backTo pos (starEach es X.env)).any (·.1) = false := by rfl) : PED X (.Call (.Name x p) (e :: es) [] pos) (dCB rd da) := by
  obtain ⟨⟨r, h1, h2⟩⟩ := hc
  obtain ⟨⟨u, h3, h4⟩⟩ := ha
  exact ⟨⟨_, pe_callTy h1 hg hm hv h3 hn hdb he hpl, snd_cb h2 h4⟩⟩
/-- a built-in class as a value -/
theorem de_ty {n : String} (hg : Gl X x) (hm : X.mg x = none) (hv : bootBuiltins x = some (.type n)) (hn : x ≠ "__name__" := by decide) (hd : (x == ("__debug__" : Str)) = false := by decide) : PED X (.Name x pos) (dC (.ty n)) :=
  ⟨⟨_, pe_bltn (v := .ty n) hg hm hv rfl hn hd, snd_c fun _ => rfl⟩⟩
/-- len -/
def cLen : DCl := fun xs M Q => match xs with
  | [x] => match look M x with
    | some (.lst ds) => Q (.int (ds.length : Nat)) M
    | some (.tup ds) => Q (.int (ds.length : Nat)) M
    | _ => False
  | _ => False
theorem c_len : ClD X (.builtin "len") cLen := ⟨⟨_, call_len_seq, fun xs M QD h Hb H vs Q s r k => by
  unfold cLen at h
  split at h
  · rename_i x
    obtain ⟨v, rfl, r1⟩ := rep1 r
    split at h
    · rename_i ds e1
      obtain ⟨a, ws, rfl, ha, rl⟩ := look_lst s r1 e1
      exact ⟨a, ws, rfl, .inl (.inl (.inl ha)), k _ M Hb H _ h (Fr.refl _ _ _) s (by rw [rl.length]; rfl)⟩
    · rename_i ds e1
      obtain ⟨a, ws, rfl, ha, rl⟩ := look_tup s r1 e1
      exact ⟨a, ws, rfl, .inr (.inl (.inl ha)), k _ M Hb H _ h (Fr.refl _ _ _) s (by rw [rl.length]; rfl)⟩
    · exact h.elim
  · exact h.elim⟩⟩
def cLenS : DCl := fun xs M Q => match xs with
  | [.str z] => z.length ≤ sizeLine ∧ Q (.int (z.length : Nat)) M
  | _ => False
theorem c_lenS : ClD X (.builtin "len") cLenS := ⟨⟨_, call_len_str, fun xs M QD h Hb H vs Q s r k => by
  unfold cLenS at h
  split at h
  · rename_i z
    obtain ⟨v, rfl, r1⟩ := rep1 r
    cases (show v = V.str z from r1)
    exact ⟨z, rfl, h.1, k _ M Hb H _ h.2 (Fr.refl _ _ _) s rfl⟩
  · exact h.elim⟩⟩
/-- len of a dict -/
def cLenD : DCl := fun xs M Q => match xs with
  | [x] => match look M x with
    | some (.dic ks _) => Q (.int (ks.length : Nat)) M
    | _ => False
  | _ => False
theorem call_lenRd : CallR X (.builtin "len") (fun xs H Q => ∃ a kvs, xs = [V.ref a] ∧ Rd H a (.dK kvs) ∧ Q (.int kvs.length) H) := by
  intro pins s σ H xs us Q I r h
  obtain ⟨a, kvs, rfl, ha, q⟩ := h
  obtain ⟨u, rfl, ru⟩ := vals1 r
  cases ru
  exact d_len I ha fun t s' I' => ⟨.int kvs.length, H, I', ⟨t, rfl⟩, q⟩
theorem rd_dic {Hb H : Hp} {M : Mp} (s : Sx Hb H M) {x : D} {v : V} {ks : List Key} {ds : List D} (r : Rep Hb x v) (l : look M x = some (.dic ks ds)) :
    ∃ a vs, v = .ref a ∧ Rd H a (.dK (ks.zip vs)) ∧ ks.length = ds.length ∧ RepL Hb ds vs := by
  obtain ⟨a, vs, e, ha, hl, rl⟩ := look_dic s r l
  refine ⟨a, vs, e, ?_, hl, rl⟩
  rcases ha with h | ⟨od, h⟩
  · exact .inl h
  · exact .inr ⟨od, h⟩
theorem c_lenD : ClD X (.builtin "len") cLenD := ⟨⟨_, call_lenRd, fun xs M QD h Hb H vs Q s r k => by
  unfold cLenD at h
  split at h
  · rename_i x
    obtain ⟨v, rfl, r1⟩ := rep1 r
    split at h
    · rename_i ks ds e1
      obtain ⟨a, ws, rfl, ha, hl, rl⟩ := rd_dic s r1 e1
      exact ⟨a, _, rfl, ha, k _ M Hb H _ h (Fr.refl _ _ _) s (by rw [List.length_zip, hl, rl.length, Nat.min_self]; rfl)⟩
    · exact h.elim
  · exact h.elim⟩⟩
/-- int(n), int(flag) -/
def cInt : DCl := fun xs M Q => match xs with
  | [.int i] => Q (.int i) M
  | [.bl k] => Q (.int (if k then 1 else 0)) M
  | _ => False
theorem c_int : ClD X (.type "int") cInt := ⟨⟨_, call_int1, fun xs M QD h Hb H vs Q s r k => by
  unfold cInt at h
  split at h
  · rename_i i
    obtain ⟨v, rfl, r1⟩ := rep1 r
    cases (show v = V.int i from r1)
    exact .inl ⟨i, rfl, k _ M Hb H _ h (Fr.refl _ _ _) s rfl⟩
  · rename_i b
    obtain ⟨v, rfl, r1⟩ := rep1 r
    cases (show v = V.bl b from r1)
    exact .inr ⟨b, rfl, k _ M Hb H _ h (Fr.refl _ _ _) s rfl⟩
  · exact h.elim⟩⟩
def cIntS : DCl := fun xs M Q => match xs with
  | [.str z] => ∃ n, PySem.intText? z = some n ∧ z.length ≤ 640 ∧ Q (.int n) M
  | _ => False
theorem c_intS : ClD X (.type "int") cIntS := ⟨⟨_, call_int_str, fun xs M QD h Hb H vs Q s r k => by
  unfold cIntS at h
  split at h
  · rename_i z
    obtain ⟨v, rfl, r1⟩ := rep1 r
    cases (show v = V.str z from r1)
    obtain ⟨n, h1, h2, q⟩ := h
    exact ⟨z, n, rfl, h1, h2, k _ M Hb H _ q (Fr.refl _ _ _) s rfl⟩
  · exact h.elim⟩⟩
def cStr : DCl := fun xs M Q => match xs with
  | [.int i] => i.natAbs.log2 < 1920 ∧ Q (.str (toString i)) M
  | _ => False
theorem c_str : ClD X (.type "str") cStr := ⟨⟨_, call_str_int, fun xs M QD h Hb H vs Q s r k => by
  unfold cStr at h
  split at h
  · rename_i i
    obtain ⟨v, rfl, r1⟩ := rep1 r
    cases (show v = V.int i from r1)
    exact ⟨i, rfl, h.1, k _ M Hb H _ h.2 (Fr.refl _ _ _) s rfl⟩
  · exact h.elim⟩⟩
/-- list(x) of a list or tuple: frozen; a cell -/
def cList : DCl := fun xs M Q => match xs with
  | [x] => match look M x with
    | some (.lst ds) => Q (.lst ds) M
    | some (.tup ds) => Q (.lst ds) M
    | _ => False
  | _ => False
def cListC : DCl := fun xs M Q => match xs with
  | [x] => match look M x with
    | some (.lst ds) => ∀ p, M p = none → Q (.cell p) (updM M p (.lst ds))
    | some (.tup ds) => ∀ p, M p = none → Q (.cell p) (updM M p (.lst ds))
    | _ => False
  | _ => False
theorem c_list : ClD X (.type "list") cList := ⟨⟨_, call_list_of, fun xs M QD h Hb H vs Q s r k => by
  unfold cList at h
  split at h
  · rename_i x
    obtain ⟨v, rfl, r1⟩ := rep1 r
    split at h
    · rename_i ds e1
      obtain ⟨a, ws, rfl, ha, rl⟩ := look_lst s r1 e1
      refine ⟨a, ws, rfl, .inl (.inl (.inl ha)), fun l hl => ?_⟩
      obtain ⟨s2, f2⟩ := s.frozen (o := .lst ws) hl
      exact k _ M _ _ _ h f2 s2 ⟨l, ws, rfl, upd_same, rl.mono f2.same⟩
    · rename_i ds e1
      obtain ⟨a, ws, rfl, ha, rl⟩ := look_tup s r1 e1
      refine ⟨a, ws, rfl, .inr (.inl (.inl ha)), fun l hl => ?_⟩
      obtain ⟨s2, f2⟩ := s.frozen (o := .lst ws) hl
      exact k _ M _ _ _ h f2 s2 ⟨l, ws, rfl, upd_same, rl.mono f2.same⟩
    · exact h.elim
  · exact h.elim⟩⟩
theorem c_listC : ClD X (.type "list") cListC := ⟨⟨_, call_list_of, fun xs M QD h Hb H vs Q s r k => by
  unfold cListC at h
  split at h
  · rename_i x
    obtain ⟨v, rfl, r1⟩ := rep1 r
    split at h
    · rename_i ds e1
      obtain ⟨a, ws, rfl, ha, rl⟩ := look_lst s r1 e1
      refine ⟨a, ws, rfl, .inl (.inl (.inl ha)), fun l hl => ?_⟩
      obtain ⟨s2, f2⟩ := s.newCell (o := .lst ws) (d := .lst ds) hl ⟨ws, rfl, rl⟩
      exact k _ _ _ _ _ (h l (s.none_of hl).2) f2 s2 rfl
    · rename_i ds e1
      obtain ⟨a, ws, rfl, ha, rl⟩ := look_tup s r1 e1
      refine ⟨a, ws, rfl, .inr (.inl (.inl ha)), fun l hl => ?_⟩
      obtain ⟨s2, f2⟩ := s.newCell (o := .lst ws) (d := .lst ds) hl ⟨ws, rfl, rl⟩
      exact k _ _ _ _ _ (h l (s.none_of hl).2) f2 s2 rfl
    · exact h.elim
  · exact h.elim⟩⟩
/-- list(d) of a dict: its keys -/
def cListD : DCl := fun xs M Q => match xs with
  | [x] => match look M x with
    | some (.dic ks _) => Q (.lst (ks.map keyOf)) M
    | _ => False
  | _ => False
theorem call_listRd (hc : X.calm = true) : CallR X (.type "list") (fun xs H Q => ∃ p kvs, xs = [V.ref p] ∧ Rd H p (.dK kvs) ∧ ∀ q, H q = none → Q (.ref q) (upd H q (.lst (kvs.map fun kv => kV kv.1)))) := by
  intro pins s σ H xs us Q I r h
  obtain ⟨p, kvs, e, hk, q⟩ := h
  subst e
  obtain ⟨u, eu, rx⟩ := vals1 r
  subst eu
  obtain rfl : u = Value.ref p := rx
  obtain ⟨z, lo, vs, rk, hd⟩ := dk_rd I.hok hk
  obtain ⟨ep, hat⟩ := hd.dictAt
  have hl : kvs.length = vs.length := Paired.length rk
  refine PySem.W.kdl_call (PySem.W.kdl_dict (knd := mixKind X.prog X.w) (kvs := vs) (ep := ep) lo) (I.ok.hd hc) hat (by rw [← hl]; exact z) fun h' tk acc' c' hkeep hS hacc => ?_
  refine ⟨.ref s.heap.objs.size, upd H s.heap.objs.size (.lst (kvs.map fun kv => kV kv.1)), I.laid hkeep (Nat.le_refl _) (show ObjOk X.prog X.w _ _ _ (.lst (kvs.map fun kv => kV kv.1)) from ⟨?_, acc'.toList, c', ?_, ?_⟩), rfl, q _ (I.hok.fresh (Nat.le_refl _))⟩
  · rw [List.length_map]; exact z
  · have el : acc'.toList.length = acc'.size := by simp
    refine vals_of_at (by rw [List.length_map, el, hacc.1, hl]) fun j x w h1 h2 => ?_
    obtain ⟨k, y, hky, hi⟩ := hacc.2 j w (by rw [← Array.getElem?_toList]; exact h2)
    have e1 : (kvs.map (·.1))[j]? = some k := by
      rw [KV.keys rk, List.getElem?_map, hky] <;> rfl
    have e2 : (kvs.map fun kv => kV kv.1)[j]? = some (kV k) := by
      have e3 : (kvs.map fun kv => kV kv.1) = (kvs.map (·.1)).map kV := by rw [List.map_map] <;> rfl
      rw [e3, List.getElem?_map, e1] <;> rfl
    rw [e2] at h1
    cases h1
    exact keyIs_rel hi
  · rw [Array.toArray_toList]; exact hS
theorem repKeys {H : Hp} : ∀ ks : List Key, RepL H (ks.map keyOf) (ks.map kV)
  | [] => rfl
  | k :: r => ⟨_, _, rfl, keyOf_rep k, repKeys r⟩
theorem c_listD (hc : X.calm = true) : ClD X (.type "list") cListD := ⟨⟨_, call_listRd hc, fun xs M QD h Hb H vs Q s r k => by
  unfold cListD at h
  split at h
  · rename_i x
    obtain ⟨v, rfl, r1⟩ := rep1 r
    split at h
    · rename_i ks ds e1
      obtain ⟨a, ws, rfl, ha, hl, rl⟩ := rd_dic s r1 e1
      refine ⟨a, _, rfl, ha, fun l hl' => ?_⟩
      have ek : ((ks.zip ws).map fun kv => kV kv.1) = ks.map kV := by
        have e9 : ((ks.zip ws).map fun kv => kV kv.1) = ((ks.zip ws).map Prod.fst).map kV := by rw [List.map_map]; rfl
        rw [e9, List.map_fst_zip (by rw [hl, rl.length]; exact Nat.le_refl _)]
      rw [ek]
      obtain ⟨s2, f2⟩ := s.frozen (o := .lst (ks.map kV)) hl'
      exact k _ M _ _ _ h f2 s2 ⟨l, _, rfl, upd_same, repKeys ks⟩
    · exact h.elim
  · exact h.elim⟩⟩
/-- tuple(x) of a list -/
def cTuple : DCl := fun xs M Q => match xs with
  | [x] => match look M x with
    | some (.lst ds) => Q (.tup ds) M
    | _ => False
  | _ => False
theorem c_tuple : ClD X (.type "tuple") cTuple := ⟨⟨_, call_tuple_of, fun xs M QD h Hb H vs Q s r k => by
  unfold cTuple at h
  split at h
  · rename_i x
    obtain ⟨v, rfl, r1⟩ := rep1 r
    split at h
    · rename_i ds e1
      obtain ⟨a, ws, rfl, ha, rl⟩ := look_lst s r1 e1
      refine ⟨a, ws, rfl, .inl ⟨.inl (.inl ha), fun l hl => ?_⟩⟩
      obtain ⟨s2, f2⟩ := s.frozen (o := .tup ws) hl
      exact k _ M _ _ _ h f2 s2 ⟨l, ws, rfl, upd_same, rl.mono f2.same⟩
    · exact h.elim
  · exact h.elim⟩⟩
/-- dict(d): a cell; frozen -/
def cDictC : DCl := fun xs M Q => match xs with
  | [x] => match look M x with
    | some (.dic ks ds) => ∀ p, M p = none → Q (.cell p) (updM M p (.dic ks ds))
    | _ => False
  | _ => False
theorem c_dictC : ClD X (.type "dict") cDictC := ⟨⟨_, call_dictD, fun xs M QD h Hb H vs Q s r k => by
  unfold cDictC at h
  split at h
  · rename_i x
    obtain ⟨v, rfl, r1⟩ := rep1 r
    split at h
    · rename_i ks ds e1
      obtain ⟨a, ws, rfl, ha, hl, rl⟩ := rd_dic s r1 e1
      refine ⟨a, _, rfl, ha, fun l hl' => ?_⟩
      obtain ⟨s2, f2⟩ := s.newCell (o := .dK (ks.zip ws)) (d := .dic ks ds) hl' ⟨ws, rfl, hl, rl⟩
      exact k _ _ _ _ _ (h l (s.none_of hl').2) f2 s2 rfl
    · exact h.elim
  · exact h.elim⟩⟩
/-- sorted(xs), ints; sorted(d), its int keys -/
def cSorted : DCl := fun xs M Q => match xs with
  | [x] => ∃ ns : List Int, look M x = some (.lst (ns.map .int)) ∧ ns.length < 64 ∧ ∀ ns' : List Int, ns'.Perm ns → ns'.Pairwise (· ≤ ·) → Q (.lst (ns'.map .int)) M
  | _ => False
theorem c_sorted : ClD X (.builtin "sorted") cSorted := ⟨⟨_, cr_sorted, fun xs M QD h Hb H vs Q s r k => by
  unfold cSorted at h
  split at h
  · rename_i x
    obtain ⟨v, rfl, r1⟩ := rep1 r
    obtain ⟨ns, e1, h64, q⟩ := h
    obtain ⟨a, ws, rfl, ha, rl⟩ := look_lst s r1 e1
    have := rl.ints
    subst this
    refine ⟨a, ns, rfl, .inl (.inl ha), h64, fun ns' l hp ho hl => ?_⟩
    obtain ⟨s2, f2⟩ := s.frozen (o := .lst (ns'.map V.int)) hl
    exact k _ M _ _ _ (q ns' hp ho) f2 s2 ⟨l, _, rfl, upd_same, RepL.of_ints ns'⟩
  · exact h.elim⟩⟩
def cSortedD : DCl := fun xs M Q => match xs with
  | [x] => ∃ (ns : List Int) (ds : List D), look M x = some (.dic (ns.map .inl) ds) ∧ ns.length < 64 ∧ ∀ ns' : List Int, ns'.Perm ns → ns'.Pairwise (· ≤ ·) → Q (.lst (ns'.map .int)) M
  | _ => False
theorem c_sortedD (hc : X.calm = true) : ClD X (.builtin "sorted") cSortedD := ⟨⟨_, call_sortedDI hc, fun xs M QD h Hb H vs Q s r k => by
  unfold cSortedD at h
  split at h
  · rename_i x
    obtain ⟨v, rfl, r1⟩ := rep1 r
    obtain ⟨ns, ds, e1, h64, q⟩ := h
    obtain ⟨a, ws, rfl, ha, hl, rl⟩ := rd_dic s r1 e1
    refine ⟨a, _, ns, rfl, ha, List.map_fst_zip (by rw [hl, rl.length]; exact Nat.le_refl _), h64, fun ns' l hp ho hl => ?_⟩
    obtain ⟨s2, f2⟩ := s.frozen (o := .lst (ns'.map V.int)) hl
    exact k _ M _ _ _ (q ns' hp ho) f2 s2 ⟨l, _, rfl, upd_same, RepL.of_ints ns'⟩
  · exact h.elim⟩⟩
/-- min(a, b), max(a, b) -/
def cMin2 : DCl := fun xs M Q => match xs with
  | [.int i, .int j] => Q (.int (if j < i then j else i)) M
  | _ => False
def cMax2 : DCl := fun xs M Q => match xs with
  | [.int i, .int j] => Q (.int (if j > i then j else i)) M
  | _ => False
theorem c_min2 (hc : X.calm = true) : ClD X (.builtin "min") cMin2 := ⟨⟨_, call_min2 hc, fun xs M QD h Hb H vs Q s r k => by
  unfold cMin2 at h
  split at h
  · rename_i i j
    obtain ⟨v, w, rfl, r1, r2⟩ := rep2 r
    cases (show v = V.int i from r1)
    cases (show w = V.int j from r2)
    exact ⟨i, j, rfl, k _ M Hb H _ h (Fr.refl _ _ _) s rfl⟩
  · exact h.elim⟩⟩
theorem c_max2 (hc : X.calm = true) : ClD X (.builtin "max") cMax2 := ⟨⟨_, call_max2 hc, fun xs M QD h Hb H vs Q s r k => by
  unfold cMax2 at h
  split at h
  · rename_i i j
    obtain ⟨v, w, rfl, r1, r2⟩ := rep2 r
    cases (show v = V.int i from r1)
    cases (show w = V.int j from r2)
    exact ⟨i, j, rfl, k _ M Hb H _ h (Fr.refl _ _ _) s rfl⟩
  · exact h.elim⟩⟩
/-- min(xs), max(xs) of ints -/
def cMinL : DCl := fun xs M Q => match xs with
  | [x] => ∃ ns : List Int, look M x = some (.lst (ns.map .int)) ∧ 0 < ns.length ∧ ∀ m, m ∈ ns → (∀ y ∈ ns, m ≤ y) → Q (.int m) M
  | _ => False
def cMaxL : DCl := fun xs M Q => match xs with
  | [x] => ∃ ns : List Int, look M x = some (.lst (ns.map .int)) ∧ 0 < ns.length ∧ ∀ m, m ∈ ns → (∀ y ∈ ns, y ≤ m) → Q (.int m) M
  | _ => False
theorem c_minL (hc : X.calm = true) : ClD X (.builtin "min") cMinL := ⟨⟨_, cr_min hc, fun xs M QD h Hb H vs Q s r k => by
  unfold cMinL at h
  split at h
  · rename_i x
    obtain ⟨v, rfl, r1⟩ := rep1 r
    obtain ⟨ns, e1, h0, q⟩ := h
    obtain ⟨a, ws, rfl, ha, rl⟩ := look_lst s r1 e1
    have := rl.ints
    subst this
    exact ⟨a, ns, rfl, .inl (.inl ha), h0, fun m h1 h2 => k _ M Hb H _ (q m h1 h2) (Fr.refl _ _ _) s rfl⟩
  · exact h.elim⟩⟩
theorem c_maxL (hc : X.calm = true) : ClD X (.builtin "max") cMaxL := ⟨⟨_, cr_max hc, fun xs M QD h Hb H vs Q s r k => by
  unfold cMaxL at h
  split at h
  · rename_i x
    obtain ⟨v, rfl, r1⟩ := rep1 r
    obtain ⟨ns, e1, h0, q⟩ := h
    obtain ⟨a, ws, rfl, ha, rl⟩ := look_lst s r1 e1
    have := rl.ints
    subst this
    exact ⟨a, ns, rfl, .inl (.inl ha), h0, fun m h1 h2 => k _ M Hb H _ (q m h1 h2) (Fr.refl _ _ _) s rfl⟩
  · exact h.elim⟩⟩
/-- any(bs), all(bs) of truth values -/
def blsD : List D → Option (List Bool)
  | [] => some []
  | .bl b :: r => (blsD r).map (b :: ·)
  | _ :: _ => none
theorem blsD_map : ∀ {ds : List D} {bs : List Bool}, blsD ds = some bs → ds = bs.map .bl
  | [], bs, h => by cases h; rfl
  | d :: r, bs, h => by
    cases d <;> simp only [blsD, reduceCtorEq] at h
    rename_i b
    cases e : blsD r with
    | none => rw [e] at h; cases h
    | some cs =>
      rw [e] at h
      cases h
      rw [blsD_map e]
      rfl
theorem blsD_of (bs : List Bool) : blsD (bs.map .bl) = some bs := by
  induction bs with
  | nil => rfl
  | cons b r ih => simp [blsD, ih]
def cAny : DCl := fun xs M Q => match xs with
  | [x] => ∃ bs : List Bool, look M x = some (.lst (bs.map .bl)) ∧ Q (.bl (bs.any id)) M
  | _ => False
def cAll : DCl := fun xs M Q => match xs with
  | [x] => ∃ bs : List Bool, look M x = some (.lst (bs.map .bl)) ∧ Q (.bl (bs.all id)) M
  | _ => False
theorem c_any (hc : X.calm = true) : ClD X (.builtin "any") cAny := ⟨⟨_, cr_any hc, fun xs M QD h Hb H vs Q s r k => by
  unfold cAny at h
  split at h
  · rename_i x
    obtain ⟨v, rfl, r1⟩ := rep1 r
    obtain ⟨bs, e1, q⟩ := h
    obtain ⟨a, ws, rfl, ha, rl⟩ := look_lst s r1 e1
    have := rl.bls
    subst this
    exact ⟨a, bs, rfl, .inl (.inl ha), k _ M Hb H _ q (Fr.refl _ _ _) s rfl⟩
  · exact h.elim⟩⟩
theorem c_all (hc : X.calm = true) : ClD X (.builtin "all") cAll := ⟨⟨_, cr_all hc, fun xs M QD h Hb H vs Q s r k => by
  unfold cAll at h
  split at h
  · rename_i x
    obtain ⟨v, rfl, r1⟩ := rep1 r
    obtain ⟨bs, e1, q⟩ := h
    obtain ⟨a, ws, rfl, ha, rl⟩ := look_lst s r1 e1
    have := rl.bls
    subst this
    exact ⟨a, bs, rfl, .inl (.inl ha), k _ M Hb H _ q (Fr.refl _ _ _) s rfl⟩
  · exact h.elim⟩⟩
/-! ### isinstance -/
def kindD (M : Mp) (x : D) : Option String := match look M x with
  | some .non => some "NoneType"
  | some (.bl _) => some "bool"
  | some (.int _) => some "int"
  | some (.str _) => some "str"
  | some (.lst _) => some "list"
  | some (.tup _) => some "tuple"
  | some (.dic _ _) => some "dict"
  | _ => none
theorem kind_ty {K : PySem.W.Frag} {Hb H : Hp} {M : Mp} (s : Sx Hb H M) {x : D} {v : V} {n : String} (r : Rep Hb x v) (h : kindD M x = some n) : TyX K H v (.type n) := by
  unfold kindD at h
  split at h
  · rename_i e
    cases h
    cases x <;> simp only [look, reduceCtorEq, Option.some.injEq] at e
    · cases r; exact .base .non
    · obtain ⟨_, o, _, c⟩ := s.cell _ _ e
      exact c.elim
  · rename_i b e
    cases h
    cases x <;> simp only [look, reduceCtorEq, Option.some.injEq] at e
    · cases r; exact .base (.bl _)
    · obtain ⟨_, o, _, c⟩ := s.cell _ _ e
      exact c.elim
  · rename_i b e
    cases h
    cases x <;> simp only [look, reduceCtorEq, Option.some.injEq] at e
    · cases r; exact .base (.int _)
    · obtain ⟨_, o, _, c⟩ := s.cell _ _ e
      exact c.elim
  · rename_i b e
    cases h
    cases x <;> simp only [look, reduceCtorEq, Option.some.injEq] at e
    · cases r; exact .base (.str _)
    · obtain ⟨_, o, _, c⟩ := s.cell _ _ e
      exact c.elim
  · rename_i ds e
    cases h
    obtain ⟨a, ws, rfl, ha, rl⟩ := look_lst s r e
    exact .base (.lst ha)
  · rename_i ds e
    cases h
    obtain ⟨a, ws, rfl, ha, rl⟩ := look_tup s r e
    exact .base (.tup ha)
  · rename_i ks ds e
    cases h
    obtain ⟨a, ws, rfl, ha, hl, rl⟩ := look_dic s r e
    rcases ha with ha | ⟨od, ha⟩
    · exact .base (.dK ha)
    · exact .fDict ha
  · cases h
/-- whether a value of the kind k is one of the class n -/
def kitD (k n : String) : Bool := k == n || (k == "bool" && n == "int") 
def kinds : List String := ["NoneType", "bool", "int", "str", "list", "tuple", "dict"]
theorem kit_tab : (kinds.all fun k => kinds.tail.all fun n => kitB k n == some (kitD k n)) = true := by decide +kernel
theorem kind_in {M : Mp} {x : D} {k : String} (h : kindD M x = some k) : k ∈ kinds := by
  unfold kindD at h
  split at h <;> cases h <;> decide
theorem kit_at {k n : String} (hk : k ∈ kinds) (hn : n ∈ kinds.tail) : kitB k n = some (kitD k n) := by
  have h := List.all_eq_true.mp (List.all_eq_true.mp kit_tab k hk) n hn
  exact eq_of_beq h
def cIsi : DCl := fun xs M Q => match xs with
  | [x, .ty n] => n ∈ kinds.tail ∧ ∃ k, kindD M x = some k ∧ Q (.bl (kitD k n)) M
  | _ => False
theorem c_isi : ClD X (.builtin "isinstance") cIsi := ⟨⟨_, call_isi, fun xs M QD h Hb H vs Q s r k => by
  unfold cIsi at h
  split at h
  · rename_i x n
    obtain ⟨v, w, rfl, r1, r2⟩ := rep2 r
    cases (show w = V.ty n from r2)
    obtain ⟨hn, kk, e1, q⟩ := h
    exact ⟨v, .ty n, .type kk, .type n, _, rfl, .ty n, kind_ty s r1 e1, kit_ty (kit_at (kind_in e1) hn), k _ M Hb H _ q (Fr.refl _ _ _) s rfl⟩
  · exact h.elim⟩⟩
/-- isinstance(x, (T1, T2)) -/
def cIsiT : DCl := fun xs M Q => match xs with
  | [x, .tup [.ty m, .ty n]] => m ∈ kinds.tail ∧ n ∈ kinds.tail ∧ ∃ k, kindD M x = some k ∧ Q (.bl (kitD k m || kitD k n)) M
  | _ => False
theorem c_isiT : ClD X (.builtin "isinstance") cIsiT := ⟨⟨_, call_isiT, fun xs M QD h Hb H vs Q s r k => by
  unfold cIsiT at h
  split at h
  · rename_i x m n
    obtain ⟨v, w, rfl, r1, r2⟩ := rep2 r
    obtain ⟨a, ws, rfl, ha, rl⟩ := look_tup (M := M) s r2 rfl
    obtain ⟨c1, c2, rfl, k1, k2⟩ := rep2 rl
    cases (show c1 = V.ty m from k1)
    cases (show c2 = V.ty n from k2)
    obtain ⟨hm, hn, kk, e1, q⟩ := h
    refine ⟨v, a, _, .type kk, [.type m, .type n], kitD kk m || kitD kk n, rfl, ha, .cons (.ty m) (.cons (.ty n) .nil), kind_ty s r1 e1, ?_, k _ M Hb H _ q (Fr.refl _ _ _) s rfl⟩
    refine kitAny_cons (kit_ty (kit_at (kind_in e1) hm)) (fun hb => ?_) (fun hb => by rw [hb]; rfl)
    rw [hb, Bool.false_or]
    exact kitAny_cons (kit_ty (kit_at (kind_in e1) hn)) (fun hb => by rw [hb]; exact kitAny_nil) (fun hb => hb)
  · exact h.elim⟩⟩
/-! ### texts -/
def dSplit (ta tb : DE) : DE := fun ρ M Q => ta ρ M fun x M1 => match x with
  | .str z => tb ρ M1 fun y M2 => match y with
    | .str w => (w.length == 0) = false ∧ z.length + 2 ≤ sizeLine ∧ Q (.lst ((Txt.split z w).map .str)) M2
    | _ => False
  | _ => False
theorem de_split (ho : PED X o ta) (he : PED X e tb) (hs : starEach [e] X.env = [(false, eval e X.env)] := by rfl) (hbase : attributeBase o "split" X.env (eval o X.env) = eval o X.env := by rfl) (hline : (apos.endLine == pos.line) = true := by rfl) :
    PED X (.Call (.Attribute o "split" apos) [e] [] pos) (dSplit ta tb) := by
  obtain ⟨⟨ua, h3, h4⟩⟩ := ho
  obtain ⟨⟨ub, h5, h6⟩⟩ := he
  refine ⟨⟨_, pe_split h3 h5 hs hbase hline, fun ρ M QD h Hb σ H Q s r k => h4 ρ M _ h Hb σ H _ s r fun x M1 Hb1 H1 w q1 f1 s1 r1 => ?_⟩⟩
  dsimp only at q1
  split at q1
  · rename_i z
    cases (show w = V.str z from r1)
    refine ⟨⟨z, rfl⟩, h6 ρ M1 _ q1 Hb1 σ H1 _ s1 (r.mono f1.same) fun y M2 Hb2 H2 u q2 f2 s2 r2 => ?_⟩
    dsimp only at q2
    split at q2
    · rename_i w
      cases (show u = V.str w from r2)
      refine ⟨z, w, rfl, rfl, q2.1, q2.2.1, fun p hp => ?_⟩
      obtain ⟨s3, f3⟩ := s2.frozen (o := .lst ((Txt.split z w).map V.str)) hp
      exact k _ M2 _ _ _ q2.2.2 ((f1.trans s1 f2).trans s2 f3) s3 ⟨p, _, rfl, upd_same, RepL.of_strs _⟩
    · exact q2.elim
  · exact q1.elim
def dJoin (ta tb : DE) : DE := fun ρ M Q => ta ρ M fun x M1 => match x with
  | .str z => tb ρ M1 fun y M2 => ∃ ys : List Str, (look M2 y = some (.lst (ys.map .str)) ∨ look M2 y = some (.tup (ys.map .str))) ∧ (ys.map (·.length)).sum + ys.length * z.length ≤ 16777216 ∧ Q (.str (Txt.join z ys)) M2
  | _ => False
theorem de_join (ho : PED X o ta) (he : PED X e tb) (hs : starEach [e] X.env = [(false, eval e X.env)] := by rfl) (hbase : attributeBase o "join" X.env (eval o X.env) = eval o X.env := by rfl) (hline : (apos.endLine == pos.line) = true := by rfl) :
    PED X (.Call (.Attribute o "join" apos) [e] [] pos) (dJoin ta tb) := by
  obtain ⟨⟨ua, h3, h4⟩⟩ := ho
  obtain ⟨⟨ub, h5, h6⟩⟩ := he
  refine ⟨⟨_, pe_join h3 h5 hs hbase hline, fun ρ M QD h Hb σ H Q s r k => h4 ρ M _ h Hb σ H _ s r fun x M1 Hb1 H1 w q1 f1 s1 r1 => ?_⟩⟩
  dsimp only at q1
  split at q1
  · rename_i z
    cases (show w = V.str z from r1)
    refine ⟨⟨z, rfl⟩, h6 ρ M1 _ q1 Hb1 σ H1 _ s1 (r.mono f1.same) fun y M2 Hb2 H2 u q2 f2 s2 r2 => ?_⟩
    obtain ⟨ys, e1, hz, q3⟩ := q2
    rcases e1 with e1 | e1
    · obtain ⟨a, ws, rfl, ha, rl⟩ := look_lst s2 r2 e1
      have := rl.strs
      subst this
      exact ⟨z, a, ys, rfl, rfl, .inl (.inl (.inl ha)), hz, k _ M2 Hb2 H2 _ q3 (f1.trans s1 f2) s2 rfl⟩
    · obtain ⟨a, ws, rfl, ha, rl⟩ := look_tup s2 r2 e1
      have := rl.strs
      subst this
      exact ⟨z, a, ys, rfl, rfl, .inr (.inl (.inl ha)), hz, k _ M2 Hb2 H2 _ q3 (f1.trans s1 f2) s2 rfl⟩
  · exact q1.elim
/-! f-strings -/
def dFmt (ta : DE) : DE := fun ρ M Q => ta ρ M fun x M1 => match x with
  | .str y => y.length ≤ sizeLine ∧ Q (.str y) M1
  | .int i => i.natAbs.log2 < 1920 ∧ Q (.str (toString i)) M1
  | _ => False
theorem de_fmt (he : PED X e ta) : PED X (.FormattedValue e (-1) none pos) (dFmt ta) := by
  obtain ⟨⟨ua, h3, h4⟩⟩ := he
  refine ⟨⟨_, pe_fmt h3, fun ρ M QD h Hb σ H Q s r k => h4 ρ M _ h Hb σ H _ s r fun x M1 Hb1 H1 w q1 f1 s1 r1 => ?_⟩⟩
  dsimp only at q1
  split at q1
  · rename_i y
    cases (show w = V.str y from r1)
    exact .inl ⟨y, rfl, q1.1, k _ M1 Hb1 H1 _ q1.2 f1 s1 rfl⟩
  · rename_i y
    cases (show w = V.int y from r1)
    exact .inr ⟨y, rfl, q1.1, k _ M1 Hb1 H1 _ q1.2 f1 s1 rfl⟩
  · exact q1.elim
def dJs : List DE → Str → Env → Mp → (Str → Mp → Prop) → Prop
  | [], acc, _, M, Q => Q acc M
  | t :: ts, acc, ρ, M, Q => t ρ M fun x M1 => match x with
    | .str y => (acc ++ y).length ≤ sizeLine ∧ dJs ts (acc ++ y) ρ M1 Q
    | _ => False
inductive PJD (X : Cx) : List Expr → List DE → Prop where
  | nil : PJD X [] []
  | cons {e : Expr} {t : DE} {es : List Expr} {ts : List DE} (h : PED X e t) (r : PJD X es ts) : PJD X (e :: es) (t :: ts)
theorem PJD.low {es : List Expr} {ts : List DE} (h : PJD X es ts) : PJ X es (ts.map lowE) := by
  induction h with
  | nil => exact .nil
  | cons h _ ih => exact .cons h.low ih
theorem snd_js : ∀ (ts : List DE) (acc : Str) (ρ : Env) (M : Mp) (QD : Str → Mp → Prop), dJs ts acc ρ M QD → ∀ Hb σ H (Q : Str → Hp → Prop), Sx Hb H M → EnvR Hb σ ρ →
    (∀ z M' Hb' H', QD z M' → Fr Hb H M Hb' H' M' → Sx Hb' H' M' → Q z H') → tJs (ts.map lowE) acc σ H Q
  | [], acc, ρ, M, QD, h, Hb, σ, H, Q, s, r, k => k _ M Hb H h (Fr.refl _ _ _) s
  | t :: ts, acc, ρ, M, QD, h, Hb, σ, H, Q, s, r, k => by
    refine snd_lowE t ρ M _ h Hb σ H _ s r fun x M1 Hb1 H1 w q1 f1 s1 r1 => ?_
    dsimp only at q1
    split at q1
    · rename_i y
      cases (show w = V.str y from r1)
      exact ⟨y, rfl, q1.1, snd_js ts (acc ++ y) ρ M1 QD q1.2 Hb1 σ H1 Q s1 (r.mono f1.same) fun z M' Hb' H' q f s' => k z M' Hb' H' q (f1.trans s1 f) s'⟩
    · exact q1.elim
def dJoined (ts : List DE) : DE := fun ρ M Q => dJs ts Str.empty ρ M fun z M' => Q (.str z) M'
theorem de_joined {v1 v2 : Expr} {rest : List Expr} {ts : List DE} (h : PJD X (v1 :: v2 :: rest) ts) : PED X (.JoinedStr (v1 :: v2 :: rest) pos) (dJoined ts) :=
  ⟨⟨_, pe_joined h.low, fun ρ M QD h Hb σ H Q s r k => snd_js ts _ ρ M _ h Hb σ H _ s r fun z M' Hb' H' q f s' => k _ M' Hb' H' _ q f s' rfl⟩⟩
/-! ### a, b = x, y; a, b, c = x, y, z -/
def dPar2 (i j : Nat) (ta tb : DE) : DS := fun P ρ M => ta ρ M fun x M1 => tb ρ M1 fun y M2 => P.nx ((ρ.set i (some x)).set j (some y)) M2
theorem ds_par2 {i j : Nat} {x y : Str} {a b : Expr} {px py pt : Pos} {kt k2 pt2} (hc : X.calm = true) (hN : X.N.Nodup) (hi : X.N[i]? = some x) (hj : X.N[j]? = some y) (hij : i ≠ j)
    (hx : X.env.scope.names.lookup x = some .local) (hy : X.env.scope.names.lookup y = some .local) (ha : PED X a ta) (hb : PED X b tb)
    (hw : swappedStores [.Tuple [.Name x px, .Name y py] kt pt] (.Tuple [a, b] k2 pt2) X.env = pure (some [x, y]) := by rfl)
    (hs : swapsWithSole [.Tuple [.Name x px, .Name y py] kt pt] (.Tuple [a, b] k2 pt2) pos.line X.env = pure false := by rfl)
    (hst : starEach [a, b] X.env = (false, eval a X.env) :: starEach [b] X.env := by rfl) (hst' : starEach [b] X.env = (false, eval b X.env) :: starEach [] X.env := by rfl) :
    PSD X (.Assign [.Tuple [.Name x px, .Name y py] kt pt] (.Tuple [a, b] k2 pt2) pos) (dPar2 i j ta tb) := by
  obtain ⟨⟨ua, h3, h4⟩⟩ := ha
  obtain ⟨⟨ub, h5, h6⟩⟩ := hb
  exact ⟨⟨_, ps_par hc hN hi hj hij hx hy (pa_cons h3 (pa_cons h5 pa_nil hst') hst) hw hs, fun P ρ M h Hb σ H E s r k => two_args h4 h6 h s r fun d e M' Hb' H' v w q f s' r1 r2 =>
    ⟨v, w, rfl, k.nx _ _ _ _ _ q f s' (((r.mono f.same).set i r1).set j r2)⟩⟩⟩
def dPar3 (i j l : Nat) (ta tb tc : DE) : DS := fun P ρ M => ta ρ M fun x M1 => tb ρ M1 fun y M2 => tc ρ M2 fun z M3 => P.nx (((ρ.set i (some x)).set j (some y)).set l (some z)) M3
theorem ds_par3 {i j l : Nat} {x y z : Str} {a b c : Expr} {px py pz pt : Pos} {kt k2 pt2} (hc : X.calm = true) (hN : X.N.Nodup) (hi : X.N[i]? = some x) (hj : X.N[j]? = some y) (hl : X.N[l]? = some z) (hij : i ≠ j) (hil : i ≠ l) (hjl : j ≠ l)
    (hx : X.env.scope.names.lookup x = some .local) (hy : X.env.scope.names.lookup y = some .local) (hz : X.env.scope.names.lookup z = some .local) (ha : PED X a ta) (hb : PED X b tb) (hcc : PED X c tc)
    (hw : swappedStores [.Tuple [.Name x px, .Name y py, .Name z pz] kt pt] (.Tuple [a, b, c] k2 pt2) X.env = pure (some [x, y, z]) := by rfl)
    (hs : swapsWithSole [.Tuple [.Name x px, .Name y py, .Name z pz] kt pt] (.Tuple [a, b, c] k2 pt2) pos.line X.env = pure false := by rfl)
    (hst : starEach [a, b, c] X.env = (false, eval a X.env) :: starEach [b, c] X.env := by rfl) (hst' : starEach [b, c] X.env = (false, eval b X.env) :: starEach [c] X.env := by rfl) (hst'' : starEach [c] X.env = (false, eval c X.env) :: starEach [] X.env := by rfl) :
    PSD X (.Assign [.Tuple [.Name x px, .Name y py, .Name z pz] kt pt] (.Tuple [a, b, c] k2 pt2) pos) (dPar3 i j l ta tb tc) := by
  obtain ⟨⟨ua, h3, h4⟩⟩ := ha
  obtain ⟨⟨ub, h5, h6⟩⟩ := hb
  obtain ⟨⟨uc, h7, h8⟩⟩ := hcc
  refine ⟨⟨_, ps_par3 hc hN hi hj hl hij hil hjl hx hy hz (pa_cons h3 (pa_cons h5 (pa_cons h7 pa_nil hst'') hst') hst) hw hs, fun P ρ M h Hb σ H E s r k =>
    h4 ρ M _ h Hb σ H _ s r fun d M1 Hb1 H1 v q1 f1 s1 r1 => two_args h6 h8 q1 s1 (r.mono f1.same) fun d2 d3 M' Hb' H' v2 v3 q f s' r2 r3 => ?_⟩⟩
  exact ⟨v, v2, v3, rfl, k.nx _ _ _ _ _ q (f1.trans s1 f) s' (((((r.mono f1.same).mono f.same).set i (r1.mono f.same)).set j r2).set l r3)⟩
/-! ### a ghost step: cells of a family are frozen -/
def subD (F : Addr → Bool) (M : Mp) : D → D
  | .cell p => if F p then (M p).getD (.cell p) else .cell p
  | d => d
def subC (F : Addr → Bool) (M : Mp) : D → D
  | .lst ds => .lst (ds.map (subD F M))
  | .dic ks ds => .dic ks (ds.map (subD F M))
  | .ins C fs ds => .ins C fs (ds.map (subD F M))
  | d => d
def delF (F : Addr → Bool) (M : Mp) : Mp := fun p => if F p then none else (M p).map (subC F M)
theorem RepL.sub {H H' : Hp} {F : Addr → Bool} {M : Mp} (h : ∀ d v, Rep H d v → Rep H' (subD F M d) v) : ∀ {ds : List D} {vs : List V}, RepL H ds vs → RepL H' (ds.map (subD F M)) vs
  | [], _, r => by cases r; exact rfl
  | d :: ds, _, ⟨v, vr, e, r1, r2⟩ => by cases e; exact ⟨v, vr, rfl, h d v r1, RepL.sub h r2⟩
theorem Con.sub {H H' : Hp} {F : Addr → Bool} {M : Mp} (hs : Same H H') (h : ∀ d v, Rep H d v → Rep H' (subD F M d) v) : ∀ {d : D} {o : HO}, Con H d o → Con H' (subC F M d) o
  | .lst ds, o, ⟨vs, h1, h2⟩ => ⟨vs, h1, h2.sub h⟩
  | .tup ds, o, ⟨vs, h1, h2⟩ => ⟨vs, h1, h2.mono hs⟩
  | .dic ks ds, o, ⟨vs, h1, h3, h2⟩ => ⟨vs, h1, by rw [List.length_map]; exact h3, h2.sub h⟩
  | .ins C fs ds, o, ⟨dx, vs, h1, h3, h2⟩ => ⟨dx, vs, h1, by rw [List.length_map]; exact h3, h2.sub h⟩
  | .non, _, h => h.elim
  | .bl _, _, h => h.elim
  | .int _, _, h => h.elim
  | .str _, _, h => h.elim
  | .ty _, _, h => h.elim
  | .cell _, _, h => h.elim
  | .exc _ _ _ _ _, _, h => h.elim
/-- all cells of F frozen at once -/
theorem Sx.freezeF {Hb H : Hp} {M : Mp} (s : Sx Hb H M) (F : Addr → Bool) : ∃ Hb', Sx Hb' H (delF F M) ∧ Fr Hb H M Hb' H (delF F M) ∧ ∀ d v, Rep Hb d v → Rep Hb' (subD F M d) v := by
  let Hb' : Hp := fun a => if F a = true ∧ (M a).isSome = true then H a else Hb a
  have sm : Same Hb Hb' := fun a o e => by
    show (if F a = true ∧ (M a).isSome = true then H a else Hb a) = some o
    rw [if_neg (fun z => by rw [s.apart e] at z; simp at z)]
    exact e
  have rs : ∀ d v, Rep Hb d v → Rep Hb' (subD F M d) v := fun d v r => by
    cases d with
    | cell p =>
      show Rep Hb' (if F p = true then (M p).getD (.cell p) else .cell p) v
      by_cases hF : F p = true
      · rw [if_pos hF]
        cases e : M p with
        | none => exact r
        | some d' =>
          cases (show v = V.ref p from r)
          obtain ⟨n1, o, e1, c⟩ := s.cell p d' e
          exact (c.mono sm).rep (by show (if F p = true ∧ (M p).isSome = true then H p else Hb p) = some o; rw [if_pos ⟨hF, by rw [e]; rfl⟩]; exact e1)
      · rw [if_neg hF]
        exact r
    | _ => exact r.mono sm
  refine ⟨Hb', ⟨fun a o e => ?_, fun p d e => ?_⟩, ⟨sm, fun _ _ e _ => e, fun a o e h1 h2 => ⟨?_, ?_⟩⟩, rs⟩
  · have e' : (if F a = true ∧ (M a).isSome = true then H a else Hb a) = some o := e
    split at e'
    · exact .inl e'
    · exact s.le a o e'
  · unfold delF at e
    by_cases hF : F p = true
    · rw [if_pos hF] at e
      cases e
    · rw [if_neg hF] at e
      cases e1 : M p with
      | none => rw [e1] at e; cases e
      | some d' =>
        rw [e1] at e
        cases e
        obtain ⟨n1, o, e2, c⟩ := s.cell p d' e1
        refine ⟨?_, o, e2, c.sub sm rs⟩
        show (if F p = true ∧ (M p).isSome = true then H p else Hb p) = none
        rw [if_neg (fun z => hF z.1)]
        exact n1
  · show (if F a = true ∧ (M a).isSome = true then H a else Hb a) = none
    rw [if_neg (fun z => by rw [h2] at z; simp at z)]
    exact h1
  · unfold delF
    rw [h2]
    split <;> rfl
def dFreeze (td : DS) : DS := fun P ρ M => ∃ F : Addr → Bool, td P (ρ.map (Option.map (subD F M))) (delF F M)
theorem dss_freeze {sts : List Stmt} {td : DS} (h : PSsD X sts td) : PSsD X sts (dFreeze td) := by
  obtain ⟨⟨t, a, b⟩⟩ := h
  refine ⟨⟨t, a, fun P ρ M ⟨F, q⟩ Hb σ H E s r k => ?_⟩⟩
  obtain ⟨Hb', s', f', rs⟩ := s.freezeF F
  refine b P _ _ q Hb' σ H E s' ⟨by rw [List.length_map]; exact r.len, fun j d e => ?_⟩ (k.fr s' f')
  rw [List.getElem?_map] at e
  cases e1 : ρ[j]? with
  | none => rw [e1] at e; cases e
  | some o =>
    rw [e1] at e
    cases o with
    | none => cases e
    | some d' =>
      cases e
      obtain ⟨v, h1, h2⟩ := r.get j d' e1
      exact ⟨v, h1, rs d' v h2⟩
end
end DL

/-! part DKw -/
set_option maxHeartbeats 0
namespace DL
open PySem PySem.Spec PyProof.Rows L2
section
variable {P : Program} {w : World} {K : PySem.W.Frag} {mg : Str → Option Value} {base : Heap}
/-- THE RULE for a def with keyword-only defaults -/
theorem okDk {x qual : Str} {st : Stmt} {dvs : List V} {kws : List (Str × V)} {f : Addr} {fd : FuncData} {N ps : List Str} {k : Nat} {spd : SpD} {td : DS} (F : FunD K x qual (defArgs st) (defBody st) (defScope st) dvs kws f fd) (S : FnScope N ps (defScope st)) (len : ∀ ds M Q, spd ds M Q → ds.length = ps.length)
    (hb : ∀ (cdv : Value) (A : Around) (outer : List PySem.Env) (s : Shared) (H : Hp) (E : XK), Room k (A.deeper (envOfC qual (defScope st) s.heap.objs.size f cdv)) →
      PSsD (cxOf CX0 P w K mg base N qual (defScope st) f cdv A outer s H E).nox (defBody st) td)
    (hr : ∀ ds M Q, spd ds M Q → td (endsD Q) (startD N ds) M) : FnD P w K mg base (k + 1) f fd ps spd := by
  refine F.ok S (fun vs H Q E h => ?_) (fun cdv A outer s H vs Q E hroom h => ?_)
  · obtain ⟨Hb, ds, M, QD, s, r, h1, _⟩ := h
    rw [← r.length]
    exact len ds M QD h1
  · obtain ⟨⟨t, a, b⟩⟩ := hb cdv A outer s H E hroom
    obtain ⟨Hb, ds, M, QD, s1, r, h1, k1⟩ := h
    refine ⟨t, a.nox, b _ _ M (hr ds M QD h1) Hb _ H _ s1 (start_env r) ⟨fun ρ' M' Hb' σ' H' q f s' r' => ?_, fun d M' Hb' H' v q f s' r' => ?_, fun ρ' M' Hb' σ' H' q f s' r' => q.elim, fun ρ' M' Hb' σ' H' q f s' r' => q.elim⟩⟩
    · obtain ⟨M0, h0, q0⟩ := q
      obtain ⟨s2, f2⟩ := s'.weak h0
      exact k1 .non M0 Hb' H' .non q0 (f.trans s' f2) s2 rfl
    · obtain ⟨M0, h0, q0⟩ := q
      obtain ⟨s2, f2⟩ := s'.weak h0
      exact k1 d M0 Hb' H' v q0 (f.trans s' f2) s2 r'
end
section
variable {X : Cx} {e a b c o i : Expr} {es : List Expr} {kws : List Keyword} {pos kpos : Pos} {ta tb tc : DE} {da dk : DA} {k n : Nat} {f C : Addr} {fd : FuncData} {ps ks : List Str} {spd : SpD} {x m : Str} {p apos : Pos} {nm : Option Str}
/-- f(e, ..), the defaults dz fill up -/
def dCallDf (spd : SpD) (dz : List D) (da : DA) : DE := fun ρ M Q => da ρ M fun ds M1 => spd (ds ++ dz) M1 Q
theorem de_callDf {ds : List Value} {dvs : List V} {dz : List D} (F : FnD X.prog X.w X.K X.mg X.base k f fd ps spd) (hr : Room k X.A) (hg : Gl X x) (hm : X.mg x = some (.ref f)) (hk : PySem.W.keepIn X.K (.ref f) = true) (hb : Binds X.K fd ps ds) (hd : Vals dvs ds) (hz : ∀ H, RepL H dz dvs) (ha : PAD X (e :: es) da)
    (hdb : (x == ("__debug__" : Str)) = false := by decide) (he : starEach (e :: es) X.env = (false, eval e X.env) :: starEach es X.env := by rfl) (hpl : (backTo pos (starEach es X.env)).any (·.1) = false := by rfl) :
    PED X (.Call (.Name x p) (e :: es) [] pos) (dCallDf spd dz da) := by
  obtain ⟨⟨u, a1, b1⟩⟩ := ha
  exact ⟨⟨_, pe_call F hr hg hm hk hb hd pass0 a1 hdb he hpl, fun ρ M QD q Hb σ H Q s r kk => b1 ρ M _ q Hb σ H _ s r fun ds M1 Hb1 H1 vs q1 f1 s1 r1 => ⟨Hb1, ds ++ dz, M1, QD, s1, r1.append (hz _), q1, kk.fr s1 f1⟩⟩⟩
/-! keywords -/
structure PKD (X : Cx) (kws : List Keyword) (td : DA) : Prop where
  ex : ∃ t, PK X kws t ∧ SndA t td
theorem dk_nil : PKD X [] dNil := ⟨⟨_, pk_nil, fun ρ M QD h Hb σ H Q s r k => k [] M Hb H [] h (Fr.refl _ _ _) s rfl⟩⟩
theorem dk_cons (h : PED X e ta) (hr : PKD X kws dk) : PKD X (⟨nm, e, kpos⟩ :: kws) (dCons ta dk) := by
  obtain ⟨⟨u, h1, h2⟩⟩ := h
  obtain ⟨⟨v, h3, h4⟩⟩ := hr
  exact ⟨⟨_, pk_cons h1 h3, fun ρ M QD h Hb σ H Q s rr k => h2 ρ M _ h Hb σ H _ s rr fun x M1 Hb1 H1 v h1 f1 s1 r1 =>
    h4 ρ M1 _ h1 Hb1 σ H1 _ s1 (rr.mono f1.same) fun xs M2 Hb2 H2 vs h2 f2 s2 r2 => k _ M2 Hb2 H2 _ h2 (f1.trans s1 f2) s2 ⟨v, vs, rfl, r1.mono f2.same, r2⟩⟩⟩
/-- how keywords bind, in values and in data -/
structure KBD (K : PySem.W.Frag) (fd : FuncData) (ps : List Str) (n : Nat) (ks : List Str) (gD : List D → List D → List D) : Prop where
  ex : ∃ g gV, KBn K fd ps n ks g gV ∧ ∀ H ds es vs ws, RepL H ds vs → RepL H es ws → RepL H (gD ds es) (gV vs ws)
theorem run_kw {gV : List V → List V → List V} {g : List Value → List Value → List Value} {sp : Sp} {pins : List (Addr × Obj)} {σ : L2.St} {H : Hp} {s : Shared} {Q : VK} {us ws : List Value} {vs zs : List V} (F : FnOk X.prog X.w X.K X.mg X.base CX0 k f fd ps sp) (hr : Room k X.A) (hb : KBn X.K fd ps n ks g gV)
    (I : Inv X pins σ H s) (r : Vals vs us) (rz : Vals zs ws) (l1 : vs.length = n) (l2 : zs.length = ks.length) (h : sp (gV vs zs) H Q E0) : wpAny (model X.prog X.w) X.A (call (.ref f) us (ks.zip ws)) (EP X pins σ Q) X.xe s :=
  run_fnN F hr hb pass0 I r rz l1 l2 h
/-- o.m(k = v, ..) -/
def tMethK (C : Addr) (m : Str) (nk : Nat) (sp : Sp) (gV : List V → List V → List V) (ta : TE) (tk : TA) : TE := fun σ H Q => ta σ H fun x H1 => ∃ a dx fs, x = .ref a ∧ H1 a = some (.ins C dx fs) ∧ fs.lookup m = none ∧
  tk σ H1 fun zs H2 => zs.length = nk ∧ sp (gV [x] zs) H2 Q E0
theorem pe_methK {t1 : TE} {tk : TA} {g : List Value → List Value → List Value} {gV : List V → List V → List V} {sp : Sp} {pl : Sem Bool} (he : PE X o t1) (c : Cls X.K C) (hm : Meth X.K C m f) (F : FnOk X.prog X.w X.K X.mg X.base CX0 k f fd ps sp) (hr : Room k X.A) (hb : KBn X.K fd ps 1 ks g gV) (hkw : PK X kws tk)
    (hall : (backToKw pos (keywordEach kws X.env)).all (·.1.isSome) = true := by rfl) (hks : (backToKw pos (keywordEach kws X.env)).filterMap (·.1) = ks := by rfl)
    (hpl : ((backTo pos (starEach [] X.env)).any (·.1) || (backToKw pos (keywordEach kws X.env)).any (·.1.isNone)) = false := by rfl)
    (ht : eval (.Call (.Attribute o m apos) [] kws pos) X.env = (do
      let ov ← eval o X.env
      standAt apos.atName
      let (f, first) ← holding [ov] (getMethod ov m pl)
      callWith pos f first (backTo pos (starEach [] X.env)) (backToKw pos (keywordEach kws X.env))) := by rfl) :
    PE X (.Call (.Attribute o m apos) [] kws pos) (tMethK C m ks.length sp gV t1 tk) := by
  refine ⟨fun pins s σ H Q I h => ?_⟩
  refine PySem.W.methodCall_KW (pl := pl) (thn (he.run pins s σ H _ I h) fun u s1 ⟨x, H1, I1, rx, a, dx, fs, ex, ea, l, q⟩ => ?_) ht
  subst ex
  obtain rfl : u = Value.ref a := rx
  refine getmeth_ok I1 ea c hm l ?_
  refine PySem.W.callWith_KW0 (first := [.ref a]) (h₀ := X.base) I.ok.mod.kin hm.kp hall (thn (hkw.run pos pins s1 σ H1 _ I1 q) fun ws s2 ⟨zs, H2, I2, r, l2, q2⟩ => ⟨I2.kIn, ?_⟩) hpl
  rw [hks]
  exact run_kw (us := [.ref a]) (vs := [.ref a]) F hr hb I2 (.cons rfl .nil) r rfl l2 q2
def dMethK (C : Addr) (m : Str) (nk : Nat) (spd : SpD) (gD : List D → List D → List D) (ta : DE) (dk : DA) : DE := fun ρ M Q => ta ρ M fun x M1 => match look M1 x with
  | some (.ins C' fs _) => C' = C ∧ m ∉ fs ∧ dk ρ M1 fun zs M2 => zs.length = nk ∧ spd (gD [x] zs) M2 Q
  | _ => False
theorem de_methK {gD : List D → List D → List D} {pl : Sem Bool} (ho : PED X o ta) (c : Cls X.K C) (hm : Meth X.K C m f) (F : FnD X.prog X.w X.K X.mg X.base k f fd ps spd) (hr : Room k X.A) (hb : KBD X.K fd ps 1 ks gD) (hkw : PKD X kws dk)
    (hall : (backToKw pos (keywordEach kws X.env)).all (·.1.isSome) = true := by rfl) (hks : (backToKw pos (keywordEach kws X.env)).filterMap (·.1) = ks := by rfl)
    (hpl : ((backTo pos (starEach [] X.env)).any (·.1) || (backToKw pos (keywordEach kws X.env)).any (·.1.isNone)) = false := by rfl)
    (ht : eval (.Call (.Attribute o m apos) [] kws pos) X.env = (do
      let ov ← eval o X.env
      standAt apos.atName
      let (f, first) ← holding [ov] (getMethod ov m pl)
      callWith pos f first (backTo pos (starEach [] X.env)) (backToKw pos (keywordEach kws X.env))) := by rfl) :
    PED X (.Call (.Attribute o m apos) [] kws pos) (dMethK C m ks.length spd gD ta dk) := by
  obtain ⟨⟨t1, a1, b1⟩⟩ := ho
  obtain ⟨⟨t2, a2, b2⟩⟩ := hkw
  obtain ⟨⟨g, gV, h1, h2⟩⟩ := hb
  refine ⟨⟨_, pe_methK a1 c hm F hr h1 a2 hall hks hpl ht, fun ρ M QD q Hb σ H Q s r kk => b1 ρ M _ q Hb σ H _ s r fun x M1 Hb1 H1 v q1 f1 s1 r1 => ?_⟩⟩
  dsimp only at q1
  split at q1
  · rename_i C' fs ds' e1
    obtain ⟨rfl, hm', q1⟩ := q1
    obtain ⟨a, dx, ws, rfl, ha, _, _⟩ := look_ins s1 r1 e1
    refine ⟨a, dx, _, rfl, ha, look_zip hm', b2 ρ M1 _ q1 Hb1 σ H1 _ s1 (r.mono f1.same) fun zs M2 Hb2 H2 vs q2 f2 s2 r2 => ⟨by rw [← r2.length]; exact q2.1, Hb2, gD [x] zs, M2, QD, s2, h2 Hb2 _ _ _ _ (RepL.one (r1.mono f2.same)) r2, q2.2, kk.fr s2 (f1.trans s1 f2)⟩⟩
  · exact q1.elim
/-- C(k = v, ..) -/
def tMakeK (C : Addr) (nk : Nat) (sp : Sp) (gV : List V → List V → List V) (tk : TA) : TE := fun σ H Q => tk σ H fun zs H2 => zs.length = nk ∧
  ∀ x dx, H2 x = none → H2 dx = none → dx ≠ x → sp (gV [.ref x] zs) (upd (upd H2 dx (.own x)) x (.ins C dx [])) (fun v H3 => v = .non ∧ Q (.ref x) H3) E0
theorem pe_makeK {tk : TA} {g : List Value → List Value → List Value} {gV : List V → List V → List V} {sp : Sp} (M : Mk X.K C f) (F : FnOk X.prog X.w X.K X.mg X.base CX0 k f fd ps sp) (hr : Room (k + 1) X.A) (hg : Gl X x) (hm : X.mg x = some (.ref C)) (hb : KBn X.K fd ps 1 ks g gV)
    (hkw : PK X kws tk) (hall : (backToKw pos (keywordEach kws X.env)).all (·.1.isSome) = true := by rfl) (hks : (backToKw pos (keywordEach kws X.env)).filterMap (·.1) = ks := by rfl)
    (hdb : (x == ("__debug__" : Str)) = false := by decide)
    (hpl : ((backTo pos (starEach [] X.env)).any (·.1) || (backToKw pos (keywordEach kws X.env)).any (·.1.isNone)) = false := by rfl) :
    PE X (.Call (.Name x p) [] kws pos) (tMakeK C ks.length sp gV tk) := by
  refine ⟨fun pins s σ H Q I h => ?_⟩
  refine wpAny_Call_Name_kw (ld_glob I hg hm ?_ hdb)
  refine PySem.W.callWith_KW0 (h₀ := X.base) I.ok.mod.kin M.kp hall (thn (hkw.run pos pins s σ H _ I h) fun ws s2 ⟨zs, H2, I2, rz, l2, q2⟩ => ⟨I2.kIn, ?_⟩) hpl
  rw [hks]
  exact run_makeN (n := 0) (us := []) (vs := []) M F hr hb pass0 I2 .nil rz rfl l2 q2
def dMakeK (C : Addr) (nk : Nat) (spd : SpD) (gD : List D → List D → List D) (dk : DA) : DE := fun ρ M Q => dk ρ M fun zs M1 => zs.length = nk ∧ ∀ p, M1 p = none → spd (gD [.cell p] zs) (updM M1 p (.ins C [] [])) fun d M2 => d = .non ∧ ∃ z, M2 p = some z ∧ Q z (delM M2 p)
theorem de_makeK {gD : List D → List D → List D} (M : Mk X.K C f) (F : FnD X.prog X.w X.K X.mg X.base k f fd ps spd) (hr : Room (k + 1) X.A) (hg : Gl X x) (hm : X.mg x = some (.ref C)) (hb : KBD X.K fd ps 1 ks gD)
    (hkw : PKD X kws dk) (hall : (backToKw pos (keywordEach kws X.env)).all (·.1.isSome) = true := by rfl) (hks : (backToKw pos (keywordEach kws X.env)).filterMap (·.1) = ks := by rfl)
    (hdb : (x == ("__debug__" : Str)) = false := by decide)
    (hpl : ((backTo pos (starEach [] X.env)).any (·.1) || (backToKw pos (keywordEach kws X.env)).any (·.1.isNone)) = false := by rfl) :
    PED X (.Call (.Name x p) [] kws pos) (dMakeK C ks.length spd gD dk) := by
  obtain ⟨⟨t2, a2, b2⟩⟩ := hkw
  obtain ⟨⟨g, gV, h1, h2⟩⟩ := hb
  refine ⟨⟨_, pe_makeK M F hr hg hm h1 a2 hall hks hdb hpl, fun ρ M QD q Hb σ H Q s r kk => b2 ρ M _ q Hb σ H _ s r fun zs M1 Hb1 H1 vs q1 f1 s1 r1 => ⟨by rw [← r1.length]; exact q1.1, fun p dx hp hdx hne => ?_⟩⟩⟩
  obtain ⟨s2, f2⟩ := s1.extra (o := .own p) hdx
  have hp2 : (upd H1 dx (.own p)) p = none := by rw [upd_ne hne.symm]; exact hp
  obtain ⟨s3, f3⟩ := s2.newCell (o := .ins C dx []) (d := .ins C [] []) hp2 ⟨dx, [], rfl, rfl, rfl⟩
  have f03 := (f1.trans s1 f2).trans s2 f3
  refine ⟨Hb1, gD [.cell p] zs, _, _, s3, h2 Hb1 _ _ _ _ (RepL.one rfl) r1, q1.2 p (s1.none_of hp).2, fun d M2 Hb2 H2 v q2 f4 s4 r4 => ?_⟩
  obtain ⟨rfl, z, e1, q3⟩ := q2
  obtain ⟨Hb5, s5, f5, r5⟩ := s4.freeze e1
  exact ⟨r4, kk z _ Hb5 H2 _ q3 ((f03.trans s3 f4).trans s4 f5) s5 r5⟩
end
end DL

/-! part DRg -/
set_option maxHeartbeats 0
namespace DL
open PySem PySem.Spec PyProof.Rows L2
section
variable {X : Cx} {e a b c o i : Expr} {es : List Expr} {pos : Pos} {ta tb tc : DE} {p q : Pos}
/-- list(range(n)) -/
def dLstRg (ta : DE) : DE := fun ρ M Q => ta ρ M fun x M1 => match x with
  | .int n => RgOk 0 n ∧ Q (.lst (rngD 0 n.toNat)) M1
  | _ => False
theorem rep_rng {H : Hp} (lo : Int) (n : Nat) : RepL H (rngD lo n) ((List.range n).map fun i => V.int (lo + (i : Nat))) := by
  unfold rngD
  have : ∀ l : List Nat, RepL H (l.map fun i => D.int (lo + (i : Nat))) (l.map fun i => V.int (lo + (i : Nat))) := by
    intro l
    induction l with
    | nil => exact rfl
    | cons k r ih => exact ⟨_, _, rfl, rfl, ih⟩
  exact this _
theorem de_listRg {p2 pos2 : Pos} (hc : X.calm = true) (hg : Gl X "list") (hm : X.mg "list" = none) (hg2 : Gl X "range") (hm2 : X.mg "range" = none) (ha : PED X a ta)
    (hst : starEach [a] X.env = (false, eval a X.env) :: starEach [] X.env := by rfl)
    (na : starEach [.Call (.Name "range" p2) [a] [] pos2] X.env = (false, eval (.Call (.Name "range" p2) [a] [] pos2) X.env) :: starEach [] X.env := by rfl) :
    PED X (.Call (.Name "list" p) [.Call (.Name "range" p2) [a] [] pos2] [] pos) (dLstRg ta) := by
  obtain ⟨⟨t1, a1, b1⟩⟩ := ha
  refine ⟨⟨_, pe_listRg hc hg hm (prg_1 hg2 hm2 a1 hst) na, fun ρ M QD h Hb σ H Q s r k => b1 ρ M _ h Hb σ H _ s r fun d M1 Hb1 H1 v q1 f1 s1 r1 => ?_⟩⟩
  dsimp only at q1
  split at q1
  · rename_i n
    cases (show v = V.int n from r1)
    refine ⟨n, rfl, q1.1, fun q hq => ?_⟩
    obtain ⟨s2, f2⟩ := s1.frozen (o := .lst (rgV 0 n)) hq
    refine k _ M1 _ _ _ q1.2 (f1.trans s1 f2) s2 ⟨q, _, rfl, upd_same, ?_⟩
    have e : rgV 0 n = (List.range n.toNat).map fun i => V.int (0 + (i : Nat)) := by unfold rgV; rw [Int.sub_zero]
    rw [e]
    exact rep_rng 0 n.toNat
  · exact q1.elim
end
end DL

/-! part DSet -/
set_option maxHeartbeats 0
namespace DL
open PySem PySem.Spec PyProof.Rows L2
theorem hu64 {A : Around} {k : Nat} (hr : Room k A) : A.units + 64 < cLine := hr.units
theorem hu65 {A : Around} {k : Nat} (hr : Room k A) : A.units + 65 < cLine := by have := hr.un; omega
section
variable {X : Cx} {e a b c o i : Expr} {es : List Expr} {pos : Pos} {ta tb tc : DE} {p q : Pos}
/-- len(set(ints)), no int twice -/
def dLenSet (ta : DE) : DE := fun ρ M Q => ta ρ M fun x M1 => ∃ ns : List Int, look M1 x = some (.lst (ns.map .int)) ∧ ns.Nodup ∧ ns.length ≤ 4000 ∧ Q (.int ns.length) M1
theorem de_lenSet {p2 q : Pos} (hc : X.calm = true) (hg : Gl X "len") (hm : X.mg "len" = none) (hg2 : Gl X "set") (hm2 : X.mg "set" = none) (ha : PED X a ta)
    (na : starEach [a] X.env = (false, eval a X.env) :: starEach [] X.env := by rfl) : PED X (.Call (.Name "len" p) [.Call (.Name "set" p2) [a] [] q] [] pos) (dLenSet ta) := by
  obtain ⟨⟨t1, a1, b1⟩⟩ := ha
  refine ⟨⟨_, RZ.pe_lenSetI hg hm hg2 hm2 a1 hc na, fun ρ M QD h Hb σ H Q s r k => b1 ρ M _ h Hb σ H _ s r fun d M1 Hb1 H1 v q1 f1 s1 r1 => ?_⟩⟩
  obtain ⟨ns, e1, hn, hl, q1⟩ := q1
  obtain ⟨a', vs, rfl, ha', rl⟩ := look_lst s1 r1 e1
  have := rl.ints
  subst this
  exact ⟨a', ns, rfl, .inl (.inl ha'), hn, hl, k _ M1 _ _ _ q1 f1 s1 rfl⟩
theorem pi_or {tg it : Expr} {t1 t2 : TI} (h1 : PI X tg it t1) (h2 : PI X tg it t2) : PI X tg it (fun σ H R => t1 σ H R ∨ t2 σ H R) :=
  ⟨fun pins s σ H R I h => h.elim (fun h => h1.run pins s σ H R I h) (fun h => h2.run pins s σ H R I h)⟩
/-- a frozen list, or a tuple -/
def diSeq (ta : DE) : DI := fun ρ M Q => diList ta ρ M Q ∨ diTup ta ρ M Q
theorem di_seq {tg : Expr} (h : PED X e ta) : PID X tg e (diSeq ta) := by
  obtain ⟨⟨t1, a1, b1⟩⟩ := di_list (tg := tg) h
  obtain ⟨⟨t2, a2, b2⟩⟩ := di_tup (tg := tg) h
  exact ⟨⟨_, pi_or a1 a2, fun ρ M QD h Hb σ H R s r k => h.elim (fun h => .inl (b1 ρ M QD h Hb σ H R s r k)) (fun h => .inr (b2 ρ M QD h Hb σ H R s r k))⟩⟩
/-- the signs of a text -/
def signD (z : Str) : List D := z.cps.toList.map fun c => D.str ⟨#[c]⟩
def diStr (ta : DE) : DI := fun ρ M Q => ta ρ M fun x M1 => match x with
  | .str z => Q (signD z) M1
  | _ => False
theorem di_str {tg : Expr} (h : PED X e ta) : PID X tg e (diStr ta) := by
  obtain ⟨⟨t1, a1, b1⟩⟩ := h
  refine ⟨⟨_, pi_str a1, fun ρ M QD h Hb σ H R s r k => b1 ρ M _ h Hb σ H _ s r fun d M' Hb' H' v q f s' r' => ?_⟩⟩
  dsimp only at q
  split at q
  · rename_i z
    cases (show v = V.str z from r')
    refine ⟨z, rfl, k _ M' Hb' H' _ q f s' fun Hb2 H2 M2 f2 s2 i => ⟨fun hi => ?_, fun d hd => ?_⟩⟩
    · show z.cps.size ≤ i
      unfold signD at hi
      rw [List.length_map, Array.length_toList] at hi
      exact hi
    · unfold signD at hd
      rw [List.getElem?_map, Array.getElem?_toList] at hd
      cases e : z.cps[i]? with
      | none => rw [e] at hd; cases hd
      | some c =>
        rw [e] at hd
        cases hd
        refine ⟨?_, fun x H3 y => ?_⟩
        · show i < z.cps.size
          exact (Array.getElem?_eq_some_iff.mp e).1
        · obtain ⟨rfl, c', e', rfl⟩ := y
          rw [e] at e'
          cases e'
          exact ⟨Hb2, Fr.refl _ _ _, s2, rfl⟩
  · exact q.elim
/-- range(i, j, c) -/
def diRng3 (ta tb tc : DE) : DI := fun ρ M Q => ta ρ M fun x M1 => tb ρ M1 fun y M2 => tc ρ M2 fun z M3 => match x, y, z with
  | .int i, .int j, .int c => ∃ n, RgC i j c n ∧ Q ((List.range n).map fun k => D.int (i + (k : Nat) * c)) M3
  | _, _, _ => False
theorem di_rng3 {tg : Expr} {p : Pos} (hg : Gl X "range") (hm : X.mg "range" = none) (h : PED X a ta) (h' : PED X b tb) (h'' : PED X c tc) (hst : starEach [a, b, c] X.env = (false, eval a X.env) :: starEach [b, c] X.env := by rfl)
    (hst' : starEach [b, c] X.env = (false, eval b X.env) :: starEach [c] X.env := by rfl) (hst'' : starEach [c] X.env = (false, eval c X.env) :: starEach [] X.env := by rfl)
    (hpl : (backTo pos (starEach [b, c] X.env)).any (·.1) = false := by rfl) : PID X tg (.Call (.Name "range" p) [a, b, c] [] pos) (diRng3 ta tb tc) := by
  obtain ⟨⟨t1, a1, b1⟩⟩ := h
  obtain ⟨⟨t2, a2, b2⟩⟩ := h'
  obtain ⟨⟨t3, a3, b3⟩⟩ := h''
  refine ⟨⟨_, pi_range3 hg hm (pa_cons a1 (pa_cons a2 (pa_cons a3 pa_nil hst'') hst') hst) hst hpl, fun ρ M QD h Hb σ H R s r k =>
    b1 ρ M _ h Hb σ H _ s r fun d M1 Hb1 H1 v q1 f1 s1 r1 => b2 ρ M1 _ q1 Hb1 σ H1 _ s1 (r.mono f1.same) fun e M2 Hb2 H2 w q2 f2 s2 r2 => b3 ρ M2 _ q2 Hb2 σ H2 _ s2 (r.mono (f1.trans s1 f2).same) fun g M3 Hb3 H3 x q3 f3 s3 r3 => ?_⟩⟩
  dsimp only at q3
  split at q3
  · rename_i i j cc
    cases (show v = V.int i from r1)
    cases (show w = V.int j from r2)
    cases (show x = V.int cc from r3)
    obtain ⟨nn, x1, x3⟩ := q3
    refine ⟨i, j, cc, nn, rfl, x1, k _ M3 Hb3 H3 _ x3 ((f1.trans s1 f2).trans s2 f3) s3 fun Hb4 H4 M4 f4 s4 n => ?_⟩
    refine ⟨fun hi => by (show nn ≤ n); rw [List.length_map, List.length_range] at hi; exact hi, fun d hd => ?_⟩
    rw [List.getElem?_map] at hd
    cases e : (List.range nn)[n]? with
    | none => rw [e] at hd; cases hd
    | some m =>
      rw [e] at hd
      have hi : n < nn := by
        have := (List.getElem?_eq_some_iff.mp e).1
        simpa using this
      rw [List.getElem?_range hi] at e
      cases e
      cases hd
      refine ⟨hi, fun x H5 y => ?_⟩
      obtain ⟨rfl, rfl⟩ := y
      exact ⟨Hb4, Fr.refl _ _ _, s4, rfl⟩
  · exact q3.elim
end
end DL

/-! part DHelp -/
set_option maxHeartbeats 0
namespace DL
open PySem PySem.Spec PyProof.Rows L2
/-! helpers for readings -/
theorem lc_fm {α : Type} {ds : List D} {gd : CG} {tt : DT} {te : DE} {vs : List Nat} {ρ : Env} {M : Mp} {Q : List D → Mp → Prop} (l : List α) (f : α → D) (r : α → Env) (c : α → Bool) (g : α → D)
    (h1 : ds = l.map f) (hl : l.length ≤ 16000000) (h2 : ∀ x ∈ l, gd (f x) (wipeD ρ vs) = some (r x)) (h3 : ∀ x ∈ l, ∀ K : Bool → Mp → Prop, K (c x) M → tt (r x) M K)
    (h4 : ∀ x ∈ l, c x = true → ∀ K : DK, K (g x) M → te (r x) M K) (hq : Q ((l.filter c).map g) M) : dGather ds gd tt te vs ρ M Q := by
  subst h1
  refine ⟨by rw [List.length_map]; exact hl, fun i acc M' => acc = ((l.take i).filter c).map g ∧ M' = M, ⟨rfl, rfl⟩, ?_, ?_⟩
  · rintro i d acc M' hd _ ⟨rfl, rfl⟩
    rw [List.getElem?_map] at hd
    cases e : l[i]? with
    | none => rw [e] at hd; cases hd
    | some x =>
      rw [e] at hd
      cases hd
      have hx : x ∈ l := List.mem_of_getElem? e
      have ht : l.take (i + 1) = l.take i ++ [x] := by rw [List.take_succ, e]; rfl
      refine ⟨r x, h2 x hx, h3 x hx _ ⟨fun hc => h4 x hx hc _ ⟨?_, rfl⟩, fun hc => ⟨?_, rfl⟩⟩⟩
      · rw [ht, List.filter_append, List.map_append, List.filter_cons, if_pos hc]; rfl
      · rw [ht, List.filter_append, List.map_append, List.filter_cons, if_neg (by rw [hc]; exact Bool.false_ne_true)]; simp
  · rintro acc M' _ ⟨rfl, rfl⟩
    rw [List.length_map, List.take_length]
    exact hq
theorem lc_m {α : Type} {ds : List D} {gd : CG} {te : DE} {vs : List Nat} {ρ : Env} {M : Mp} {Q : List D → Mp → Prop} (l : List α) (f : α → D) (r : α → Env) (g : α → D)
    (h1 : ds = l.map f) (hl : l.length ≤ 16000000) (h2 : ∀ x ∈ l, gd (f x) (wipeD ρ vs) = some (r x))
    (h4 : ∀ x ∈ l, ∀ K : DK, K (g x) M → te (r x) M K) (hq : Q (l.map g) M) : dGather ds gd dYes te vs ρ M Q :=
  lc_fm l f r (fun _ => true) g h1 hl h2 (fun _ _ _ h => h) (fun x hx _ => h4 x hx) (by rw [List.filter_eq_self.mpr (fun _ _ => rfl)]; exact hq)
theorem dc_fm {α : Type} {ds : List D} {gd : CG} {tt : DT} {tk te : DE} {vs : List Nat} {ρ : Env} {M : Mp} {Q : List Key → List D → Mp → Prop} (l : List α) (f : α → D) (r : α → Env) (k : α → Key) (g : α → D)
    (h1 : ds = l.map f) (hl : l.length ≤ 16000000) (hn : (l.map k).Nodup) (h2 : ∀ x ∈ l, gd (f x) (wipeD ρ vs) = some (r x)) (h3 : ∀ x ∈ l, ∀ K : Bool → Mp → Prop, K true M → tt (r x) M K)
    (h4 : ∀ x ∈ l, ∀ K : DK, K (keyOf (k x)) M → tk (r x) M K) (h5 : ∀ x ∈ l, ∀ K : DK, K (g x) M → te (r x) M K) (hq : Q (l.map k) (l.map g) M) : dGatherK ds gd tt tk te vs ρ M Q := by
  subst h1
  refine ⟨by rw [List.length_map]; exact hl, fun i ks acc M' => ks = (l.take i).map k ∧ acc = (l.take i).map g ∧ M' = M, ⟨rfl, rfl, rfl⟩, ?_, ?_⟩
  · rintro i d ks acc M' hd ⟨rfl, rfl, rfl⟩ _
    rw [List.getElem?_map] at hd
    cases e : l[i]? with
    | none => rw [e] at hd; cases hd
    | some x =>
      rw [e] at hd
      cases hd
      have hx : x ∈ l := List.mem_of_getElem? e
      have ht : l.take (i + 1) = l.take i ++ [x] := by rw [List.take_succ, e]; rfl
      refine ⟨r x, h2 x hx, h3 x hx _ ⟨fun hc => h4 x hx _ (h5 x hx _ ⟨k x, by cases k x <;> rfl, ?_, ?_, ?_, rfl⟩), fun hc => (by cases hc)⟩⟩
      · intro hm
        have hl2 : l = l.take i ++ (x :: l.drop (i + 1)) := by
          have e3 := (List.getElem?_eq_some_iff.mp e)
          obtain ⟨hi, e4⟩ := e3
          rw [← e4, List.getElem_cons_drop, List.take_append_drop]
        rw [hl2, List.map_append, List.map_cons] at hn
        exact (List.nodup_append.mp hn).2.2 _ hm _ List.mem_cons_self rfl
      · rw [ht, List.map_append]; rfl
      · rw [ht, List.map_append]; rfl
  · rintro ks acc M' ⟨rfl, rfl, rfl⟩
    rw [List.length_map, List.take_length]
    exact hq
/-- a loop by its items -/
theorem loop_l {α : Type} {ds : List D} {g : DG} {tb : DS} {P : DEnds} {ρ : Env} {M : Mp} (l : List α) (f : α → D) (h1 : ds = l.map f) (W : Nat → Env → Mp → Prop) (h0 : W 0 ρ M)
    (hs : ∀ i x ρ' M', l[i]? = some x → x ∈ l → W i ρ' M' → g (f x) ρ' M' fun ρ2 M2 => tb { P with nx := W (i + 1), ct := W (i + 1), bk := P.nx } ρ2 M2) (he : ∀ ρ' M', W l.length ρ' M' → P.nx ρ' M') : dLoop ds g tb P ρ M := by
  subst h1
  refine ⟨W, h0, fun i d ρ' M' hd hw => ?_, fun ρ' M' hw => he ρ' M' (by rw [List.length_map] at hw; exact hw)⟩
  rw [List.getElem?_map] at hd
  cases e : l[i]? with
  | none => rw [e] at hd; cases hd
  | some x =>
    rw [e] at hd
    cases hd
    exact hs i x ρ' M' e (List.mem_of_getElem? e) hw
theorem lines (n : Nat) (h : n ≤ 16000000) : n ≤ sizeLine := by rw [sizeLine_eq]; omega
def dN (k : Nat) : D := .int (k : Int)
theorem rngD_map (n : Nat) : rngD 0 n = (List.range n).map dN := by
  unfold rngD dN
  refine List.map_congr_left fun i _ => ?_
  rw [Int.zero_add]
theorem rngD_map2 (lo n : Nat) : rngD (lo : Int) n = (List.range' lo n).map dN := by
  unfold rngD dN
  rw [List.range'_eq_map_range, List.map_map]
  exact List.map_congr_left fun i _ => by
    show D.int _ = D.int _
    congr 1
theorem seq_cut {t u : DS} {P : DEnds} {ρ : Env} {M : Mp} (Mid : Env → Mp → Prop) (h1 : ∀ N : Env → Mp → Prop, (∀ ρ' M', Mid ρ' M' → N ρ' M') → t { P with nx := N } ρ M) (h2 : ∀ ρ' M', Mid ρ' M' → u P ρ' M') : dSeq t u P ρ M := h1 _ h2
theorem ix_cell {M : Mp} {p : Addr} {ds : List D} {i : Int} {d : D} {Q : DK} (h : M p = some (.lst ds)) (e : atI ds i = some d) (q : Q d M) : dIx (.cell p) (.int i) M Q := by
  unfold dIx
  rw [show look M (.cell p) = M p from rfl, h]
  exact ⟨d, e, q⟩
theorem len_cell {M : Mp} {p : Addr} {ds : List D} {Q : DK} (h : M p = some (.lst ds)) (q : Q (.int (ds.length : Nat)) M) : cLen [.cell p] M Q := by
  unfold cLen
  simp only [look, h]
  exact q
theorem lenD_cell {M : Mp} {p : Addr} {ks : List Key} {ds : List D} {Q : DK} (h : M p = some (.dic ks ds)) (q : Q (.int (ks.length : Nat)) M) : cLenD [.cell p] M Q := by
  unfold cLenD
  simp only [look, h]
  exact q
theorem din_cell {neg : Bool} {ty td : DE} {ρ : Env} {M : Mp} {p : Addr} {y : D} {k : Key} {ks : List Key} {ds : List D} {Q : DK} (hy : ∀ K : DK, K y M → ty ρ M K) (hd : ∀ K : DK, K (.cell p) M → td ρ M K) (h : M p = some (.dic ks ds)) (e : keyD y = some k)
    (q : Q (.bl (if neg then !(getK ks ds k).isSome else (getK ks ds k).isSome)) M) : dDIn neg ty td ρ M Q := by
  refine hy _ (hd _ ?_)
  simp only [look, h, e]
  exact q
theorem get2_cell {td ty tz : DE} {ρ : Env} {M : Mp} {p : Addr} {y z : D} {k : Key} {ks : List Key} {ds : List D} {Q : DK} (hd : ∀ K : DK, K (.cell p) M → td ρ M K) (hy : ∀ K : DK, K y M → ty ρ M K) (hz : ∀ K : DK, K z M → tz ρ M K) (h : M p = some (.dic ks ds)) (e : keyD y = some k)
    (q : Q ((getK ks ds k).getD z) M) : dGet2 td ty tz ρ M Q := by
  refine hd _ ⟨⟨ks, ds, h⟩, hy _ (hz _ ?_)⟩
  simp only [look, h, e]
  exact q
theorem get_cell {M : Mp} {p : Addr} {y : D} {k : Key} {ks : List Key} {ds : List D} {d : D} {Q : DK} (h : M p = some (.dic ks ds)) (e : keyD y = some k) (g : getK ks ds k = some d) (q : Q d M) : dGetR (.cell p) y M Q := by
  unfold dGetR
  rw [show look M (.cell p) = M p from rfl, h, e]
  exact ⟨d, g, q⟩
end DL

/-! part DBits -/
set_option maxHeartbeats 0
namespace DL
open PySem PySem.Spec PyProof.Rows L2
/-! masks -/
theorem band_nat (a b : Nat) : Builtin.bitAnd (a : Int) (b : Int) = ((a &&& b : Nat) : Int) := by
  unfold Builtin.bitAnd
  rw [decide_eq_true (Int.natCast_nonneg a), decide_eq_true (Int.natCast_nonneg b)]
  rfl
theorem bnot_nat (a : Nat) : ¬ (0 ≤ Builtin.bitNot (a : Int)) := by unfold Builtin.bitNot; omega
theorem bnot2 (x : Int) : Builtin.bitNot (Builtin.bitNot x) = x := by unfold Builtin.bitNot; omega
theorem bor_nat (a b : Nat) : Builtin.bitOr (a : Int) (b : Int) = ((a ||| b : Nat) : Int) := by
  unfold Builtin.bitOr Builtin.bitAnd
  rw [decide_eq_false (bnot_nat a), decide_eq_false (bnot_nat b)]
  show Builtin.bitNot (Builtin.bitNot _) = _
  rw [bnot2, bnot2, bnot2]
  rfl
theorem sub_bits : ∀ (a b : Nat), (∀ j, b.testBit j = true → a.testBit j = true) → b ≤ a ∧ ∀ j, (a - b).testBit j = (a.testBit j && !b.testBit j) := by
  intro a
  induction a using Nat.strongRecOn with
  | _ a ih =>
    intro b h
    by_cases ha : a = 0
    · subst ha
      have hb : b = 0 := Nat.eq_of_testBit_eq fun j => by
        cases e : b.testBit j with
        | false => simp
        | true => have := h j e; simp at this
      subst hb
      simp
    · have h' : ∀ j, (b / 2).testBit j = true → (a / 2).testBit j = true := fun j e => by
        have := h (j + 1) (by rw [Nat.testBit_succ]; exact e)
        rw [Nat.testBit_succ] at this
        exact this
      obtain ⟨i1, i2⟩ := ih (a / 2) (by omega) (b / 2) h'
      have h0 : b % 2 = 1 → a % 2 = 1 := fun e => by
        have := h 0 (by rw [Nat.testBit_zero]; exact decide_eq_true e)
        rw [Nat.testBit_zero] at this
        exact of_decide_eq_true this
      refine ⟨by omega, fun j => ?_⟩
      cases j with
      | zero =>
        rw [Nat.testBit_zero, Nat.testBit_zero, Nat.testBit_zero]
        by_cases e1 : a % 2 = 1 <;> by_cases e2 : b % 2 = 1
        · rw [decide_eq_true e1, decide_eq_true e2, decide_eq_false (by omega)]; rfl
        · rw [decide_eq_true e1, decide_eq_false e2, decide_eq_true (by omega)]; rfl
        · exact absurd (h0 e2) e1
        · rw [decide_eq_false e1, decide_eq_false e2, decide_eq_false (by omega)]; rfl
      | succ j =>
        rw [Nat.testBit_succ, Nat.testBit_succ, Nat.testBit_succ, ← i2 j]
        congr 1
        omega
theorem band_not (a b : Nat) : ∃ c : Nat, Builtin.bitAnd (a : Int) (Builtin.bitNot (b : Int)) = (c : Int) ∧ ∀ j, c.testBit j = (a.testBit j && !b.testBit j) := by
  refine ⟨a - (a &&& b), ?_, fun j => ?_⟩
  · unfold Builtin.bitAnd
    rw [decide_eq_true (Int.natCast_nonneg a), decide_eq_false (bnot_nat b)]
    show (a : Int) - _ = _
    rw [bnot2]
    have := (sub_bits a (a &&& b) (fun j e => by rw [Nat.testBit_and, Bool.and_eq_true] at e; exact e.1)).1
    show (a : Int) - ((a &&& b : Nat) : Int) = _
    omega
  · rw [(sub_bits a (a &&& b) (fun j e => by rw [Nat.testBit_and, Bool.and_eq_true] at e; exact e.1)).2 j, Nat.testBit_and]
    cases a.testBit j <;> cases b.testBit j <;> rfl
theorem shl_nat (h : Nat) : (1 : Int) * 2 ^ ((h : Int)).toNat = ((2 ^ h : Nat) : Int) := by
  rw [Int.one_mul, Int.toNat_natCast, Int.natCast_pow]
  rfl
theorem shr_one (m h : Nat) : decide (Builtin.bitAnd ((m : Int) / 2 ^ ((h : Int)).toNat) 1 = 1) = m.testBit h := by
  have e : ((m : Int) / 2 ^ ((h : Int)).toNat) = ((m / 2 ^ h : Nat) : Int) := by
    rw [Int.toNat_natCast, Int.natCast_ediv, Int.natCast_pow]
    rfl
  rw [e, show (1 : Int) = ((1 : Nat) : Int) from rfl, band_nat, Nat.and_one_is_mod, Nat.testBit_eq_decide_div_mod_eq]
  by_cases h2 : m / 2 ^ h % 2 = 1
  · rw [decide_eq_true h2, decide_eq_true (by rw [h2])]
  · rw [decide_eq_false h2, decide_eq_false (by omega)]
theorem pow_cond (h : Nat) (hh : h < 1000) : CPow 1 (h : Int) := ⟨Int.natCast_nonneg h, by omega, by decide⟩
theorem nz_bits (m : Nat) : m ≠ 0 ↔ ∃ j, m.testBit j = true := by
  constructor
  · intro h
    obtain ⟨i, e⟩ := Nat.exists_testBit_of_ne_zero h
    exact ⟨i, e⟩
  · rintro ⟨j, e⟩ rfl
    simp at e
end DL

/-! part DMore -/
set_option maxHeartbeats 0
namespace DL
open PySem PySem.Spec PyProof.Rows L2
section
variable {X : Cx} {e a b c o i : Expr} {es : List Expr} {pos apos cpos : Pos} {ta tb tc : DE} {da : DA} {p q : Pos}
theorem hu_of0 {A : Around} {k : Nat} (hr : Room k A) : A.units < cLine := by have := hr.units; omega
/-! ### d.pop(k), the key there -/
def delKD (k : Key) : List Key → List D → List Key × List D
  | m :: ks, d :: ds => if m = k then delKD k ks ds else (m :: (delKD k ks ds).1, d :: (delKD k ks ds).2)
  | _, _ => ([], [])
theorem delK_zip {Hb : Hp} {k : Key} : ∀ {ks : List Key} {ds : List D} {vs : List V}, RepL Hb ds vs → ks.length = ds.length →
    ∃ ws, dropK (ks.zip vs) k = (delKD k ks ds).1.zip ws ∧ (delKD k ks ds).1.length = (delKD k ks ds).2.length ∧ RepL Hb (delKD k ks ds).2 ws
  | [], [], _, h, _ => by cases h; exact ⟨[], rfl, rfl, rfl⟩
  | [], _ :: _, _, _, h => by cases h
  | _ :: _, [], _, _, h => by cases h
  | m :: ks, d :: ds, _, ⟨v, vr, h1, h2, h3⟩, hl => by
    cases h1
    obtain ⟨ws, i1, i2, i3⟩ := delK_zip (k := k) h3 (by simpa using hl)
    unfold delKD
    unfold dropK at i1 ⊢
    rw [List.zip_cons_cons, List.filter_cons]
    by_cases e : m = k
    · rw [if_pos e, if_neg (by simpa using e)]
      exact ⟨ws, i1, i2, i3⟩
    · rw [if_neg e, if_pos (by simpa using e)]
      exact ⟨v :: ws, by rw [i1]; rfl, by simp only [List.length_cons, i2], v, ws, rfl, h2, i3⟩
def dDPop (td ty : DE) : DE := fun ρ M Q => td ρ M fun x M1 => match x with
  | .cell p => (∃ ks ds, M1 p = some (.dic ks ds)) ∧ ty ρ M1 fun y M2 => match keyD y with
    | some k => ∃ ks ds d, M2 p = some (.dic ks ds) ∧ getK ks ds k = some d ∧ Q d (updM M2 p (.dic (delKD k ks ds).1 (delKD k ks ds).2))
    | none => False
  | _ => False
theorem getK_val {Hb : Hp} {k : Key} {d : D} : ∀ {ks : List Key} {ds : List D} {vs : List V}, RepL Hb ds vs → getK ks ds k = some d → ∃ v, valV (ks.zip vs) k = some v ∧ Rep Hb d v
  | [], _, _, _, h => by cases h
  | _ :: _, [], _, _, h => by cases h
  | m :: ks, x :: ds, _, ⟨v, vr, h1, h2, h3⟩, h => by
    cases h1
    unfold getK at h
    unfold valV
    rw [List.zip_cons_cons, List.find?_cons]
    by_cases e : m = k
    · rw [if_pos e] at h
      cases h
      rw [show decide ((m, v).1 = k) = true from decide_eq_true e]
      exact ⟨v, rfl, h2⟩
    · rw [if_neg e] at h
      rw [show decide ((m, v).1 = k) = false from decide_eq_false e]
      exact getK_val h3 h
theorem de_dpop (ho : PED X o ta) (he : PED X e tb) (m : M1 X o "pop" apos e cpos) : PED X (.Call (.Attribute o "pop" apos) [e] [] cpos) (dDPop ta tb) := by
  obtain ⟨⟨ua, h3, h4⟩⟩ := ho
  obtain ⟨⟨ub, h5, h6⟩⟩ := he
  refine ⟨⟨_, pe_dpop1 h3 h5 m, fun ρ M QD h Hb σ H Q s r k => h4 ρ M _ h Hb σ H _ s r fun x M1 Hb1 H1 w q1 f1 s1 r1 => ?_⟩⟩
  dsimp only at q1
  split at q1
  · rename_i p
    obtain ⟨⟨ks0, ds0, e0⟩, q2⟩ := q1
    obtain ⟨_, o0, e00, vs0, rfl, _⟩ := s1.cell p _ e0
    cases (show w = V.ref p from r1)
    refine ⟨p, rfl, .inl ⟨_, .inl e00⟩, h6 ρ M1 _ q2 Hb1 σ H1 _ s1 (r.mono f1.same) fun y M2 Hb2 H2 u q3 f2 s2 r2 => ?_⟩
    dsimp only at q3
    split at q3
    · rename_i kk ek
      obtain ⟨ks, ds, d, e1, g, q4⟩ := q3
      obtain ⟨_, o', e3, vs, rfl, hl, rl⟩ := s2.cell p _ e1
      obtain ⟨v, hv, rv⟩ := getK_val rl g
      obtain ⟨ws, i1, i2, i3⟩ := delK_zip (k := kk) rl hl
      obtain ⟨s3, f3⟩ := s2.mut (o := .dK (dropK (ks.zip vs) kk)) (d := .dic (delKD kk ks ds).1 (delKD kk ks ds).2) e1 ⟨ws, by rw [i1], i2, i3⟩
      exact ⟨_, kk, v, e3, keyD_rep ek r2, hv, k _ _ _ _ _ q4 ((f1.trans s1 f2).trans s2 f3) s3 (rv.mono f3.same)⟩
    · exact q3.elim
  · exact q1.elim
/-! ### x in range(n) -/
theorem cr_range1 : CallR X (.type "range") (fun vs H Q => ∃ j, vs = [V.int j] ∧ ∀ p, H p = none → Q (.ref p) (upd H p (.rng 0 j))) := by
  intro pins s σ H vs us Q I r h
  obtain ⟨j, rfl, q⟩ := h
  obtain ⟨u, rfl, ru⟩ := vals1 r
  obtain ⟨t, rfl⟩ := ru
  refine call_range_1 ⟨.ref s.heap.objs.size, upd H s.heap.objs.size (.rng 0 j), ?_, rfl, q _ (I.hok.fresh (Nat.le_refl _))⟩
  first
    | exact I.laid (t' := s.toks + 2) (fun b o e => Heap.get?_push_of_some _ e) (Nat.le_refl _) ⟨_, _, _, Heap.get?_push_size _ rfl⟩
    | exact I.laid (t' := s.toks) (fun b o e => Heap.get?_push_of_some _ e) (Nat.le_refl _) ⟨_, _, _, Heap.get?_push_size _ rfl⟩
def dInRg (ta tb : DE) : DE := fun ρ M Q => ta ρ M fun x M1 => tb ρ M1 fun y M2 => match x, y with
  | .int i, .int j => Q (.bl (decide (0 ≤ i ∧ i < j))) M2
  | _, _ => False
theorem de_inRg {p2 pos2 : Pos} (hg : Gl X "range") (hm : X.mg "range" = none) (ha : PED X a ta) (hb : PED X b tb)
    (he : starEach [b] X.env = (false, eval b X.env) :: starEach [] X.env := by rfl) (hpl : (backTo pos2 (starEach [] X.env)).any (·.1) = false := by rfl)
    (hmk : behindInMarks .In (.Call (.Name "range" p2) [b] [] pos2) = false := by first | exact nomark _ | rfl) :
    PED X (.Compare a [.In] [.Call (.Name "range" p2) [b] [] pos2] pos) (dInRg ta tb) := by
  obtain ⟨⟨ua, h3, h4⟩⟩ := ha
  obtain ⟨⟨ub, h5, h6⟩⟩ := hb
  refine ⟨⟨_, pe_cmpR op_in_rng h3 (pe_callTy cr_range1 hg hm boot_range (pa_cons h5 pa_nil he) (by decide) (by decide) he hpl) hmk, fun ρ M QD h Hb σ H Q s r k =>
    h4 ρ M _ h Hb σ H _ s r fun x M1 Hb1 H1 v q1 f1 s1 r1 => h6 ρ M1 _ q1 Hb1 σ H1 _ s1 (r.mono f1.same) fun y M2 Hb2 H2 w q2 f2 s2 r2 => ?_⟩⟩
  dsimp only at q2
  split at q2
  · rename_i i j
    cases (show v = V.int i from r1)
    cases (show w = V.int j from r2)
    refine ⟨j, rfl, fun p hp => ?_⟩
    obtain ⟨s3, f3⟩ := s2.extra (o := .rng 0 j) hp
    exact ⟨i, p, 0, j, rfl, rfl, upd_same, k _ M2 Hb2 _ _ q2 ((f1.trans s1 f2).trans s2 f3) s3 rfl⟩
  · exact q2.elim
/-! ### dicts of ints compared -/
def intsD : List D → Bool
  | [] => true
  | .int _ :: r => intsD r
  | _ :: _ => false
def dSameDic (neg : Bool) : DR := fun x y M Q => ∃ ks ds, look M x = some (.dic ks ds) ∧ look M y = some (.dic ks ds) ∧ ks.Nodup ∧ intsD ds = true ∧ Q (.bl (!neg)) M
theorem val_self {Hb : Hp} : ∀ {ks : List Key} {ds : List D} {vs ws : List V}, ks.Nodup → intsD ds = true → RepL Hb ds vs → RepL Hb ds ws → vs = ws ∧ ∀ z ∈ ks.zip vs, valV (ks.zip vs) z.1 = some z.2 ∧ flatB z.2 = true
  | [], [], _, _, _, _, h1, h2 => by cases h1; cases h2; exact ⟨rfl, fun z hz => by cases hz⟩
  | [], _ :: _, vs, ws, _, hi, h1, h2 => by
    have : ∀ (ds : List D) (vs ws : List V), intsD ds = true → RepL Hb ds vs → RepL Hb ds ws → vs = ws := by
      intro ds
      induction ds with
      | nil => intro vs ws _ a b; cases a; cases b; rfl
      | cons d r ih =>
        intro vs ws hi a b
        obtain ⟨v, vr, rfl, a2, a3⟩ := a
        obtain ⟨u, ur, rfl, b2, b3⟩ := b
        cases d <;> first | (simp only [intsD, Bool.false_eq_true] at hi) | skip
        rename_i n
        cases (show v = V.int n from a2)
        cases (show u = V.int n from b2)
        rw [ih vr ur hi a3 b3]
    exact ⟨this _ _ _ hi h1 h2, fun z hz => by cases hz⟩
  | k :: ks, [], _, _, _, _, h1, h2 => by cases h1; cases h2; exact ⟨rfl, fun z hz => by cases hz⟩
  | k :: ks, d :: ds, _, _, nd, hi, ⟨v, vr, a1, a2, a3⟩, ⟨u, ur, b1, b2, b3⟩ => by
    cases a1
    cases b1
    rw [List.nodup_cons] at nd
    cases d <;> first | (simp only [intsD, Bool.false_eq_true] at hi) | skip
    rename_i n
    cases (show v = V.int n from a2)
    cases (show u = V.int n from b2)
    obtain ⟨h1, h2⟩ := val_self nd.2 hi a3 b3
    refine ⟨by rw [h1], fun z hz => ?_⟩
    rw [List.zip_cons_cons] at hz ⊢
    unfold valV
    rw [List.find?_cons]
    rcases List.mem_cons.mp hz with rfl | hz
    · rw [show decide ((k, V.int n).1 = k) = true from decide_eq_true rfl]
      exact ⟨rfl, rfl⟩
    · have hk : k ≠ z.1 := fun e => nd.1 (by rw [e]; exact (List.of_mem_zip (a := z.1) (b := z.2) hz).1)
      rw [show decide ((k, V.int n).1 = z.1) = false from decide_eq_false hk]
      exact h2 z hz
theorem rd_obj {X : Cx} {pins : List (Addr × Obj)} {σ : L2.St} {H : Hp} {s : Shared} {a : Addr} {u : HO} (I : Inv X pins σ H s) (h : Rd H a u) : ObjOk X.prog X.w H s.heap a u := by
  rcases h with h | ⟨od, h⟩
  · exact I.hok a _ h
  · exact (show _ ∧ _ from I.hok a _ h).2
def rSameRd (neg : Bool) : R2 := fun x y H Q => ∃ a b ks, x = V.ref a ∧ y = V.ref b ∧ Rd H a (.dK ks) ∧ Rd H b (.dK ks) ∧ (∀ z ∈ ks, valV ks z.1 = some z.2 ∧ flatB z.2 = true) ∧ Q (.bl (!neg)) H
theorem op_sameEq (hu : X.A.units < cLine) : OpR X (compareOp .Eq) (rSameRd false) := by
  intro pins s σ H x y v u Q I rx ry h
  obtain ⟨a, b, ks, rfl, rfl, ea, eb, hp, q⟩ := h
  cases (show v = Value.ref a from rx)
  cases (show u = Value.ref b from ry)
  have oa := rd_obj I ea
  have ob := rd_obj I eb
  obtain ⟨_, ya, va, ra, pa⟩ := oa
  obtain ⟨_, yb, vb, rb, pb⟩ := ob
  have hl : va.length = vb.length := ra.length.symm.trans rb.length
  exact PySem.W.keq_eq (r := true) (knd := mixKind X.prog X.w) ya yb pa pb hu (fun _ => hits_all rb ra hp) (fin_bl I q (by simp [hl]))
theorem op_sameNe (hu : X.A.units < cLine) : OpR X (compareOp .NotEq) (rSameRd true) := by
  intro pins s σ H x y v u Q I rx ry h
  obtain ⟨a, b, ks, rfl, rfl, ea, eb, hp, q⟩ := h
  cases (show v = Value.ref a from rx)
  cases (show u = Value.ref b from ry)
  have oa := rd_obj I ea
  have ob := rd_obj I eb
  obtain ⟨_, ya, va, ra, pa⟩ := oa
  obtain ⟨_, yb, vb, rb, pb⟩ := ob
  have hl : va.length = vb.length := ra.length.symm.trans rb.length
  exact PySem.W.keq_ne (r := true) (knd := mixKind X.prog X.w) ya yb pa pb hu (fun _ => hits_all rb ra hp) (fin_bl I q (by simp [hl]))
theorem snd_same {neg : Bool} : SndR (rSameRd neg) (dSameDic neg) := fun x y M QD h Hb H vx vy Q s rx ry k => by
  obtain ⟨ks, ds, e1, e2, nd, hi, q⟩ := h
  obtain ⟨a, vs, rfl, ha, hl, ra⟩ := rd_dic s rx e1
  obtain ⟨b, ws, rfl, hb, _, rb⟩ := rd_dic s ry e2
  obtain ⟨ez, hz⟩ := val_self nd hi ra rb
  subst ez
  exact ⟨a, b, _, rfl, rfl, ha, hb, hz, k _ M Hb H _ q (Fr.refl _ _ _) s rfl⟩
theorem o_eqDic (hu : X.A.units < cLine) : OpD X (compareOp .Eq) (dSameDic false) := ⟨⟨_, op_sameEq hu, snd_same⟩⟩
theorem o_neDic (hu : X.A.units < cLine) : OpD X (compareOp .NotEq) (dSameDic true) := ⟨⟨_, op_sameNe hu, snd_same⟩⟩
/-! ### {"a": .., ..} that will change -/
def dDispC (ks : List Str) (da : DA) : DE := fun ρ M Q => da ρ M fun ds M1 => ∀ p, M1 p = none → Q (.cell p) (updM M1 p (.dic (ks.map Sum.inr) ds))
theorem de_dispC {keys : List (Option Expr)} {values : List Expr} {ks : List Str} (h : PPsD X pos keys values ks da) (hn : (ks.map (Sum.inr : Str → Key)).Nodup := by decide +kernel) (hall : keys.all (·.isSome) = true := by rfl) (hl : keys.length = values.length := by rfl)
    (h0 : keys ≠ [] := by intro z; cases z) (h15 : keys.length ≤ 15 := by decide) (hk : ks.length ≤ 15 := by decide) : PED X (.Dict keys values pos) (dDispC ks da) := by
  obtain ⟨⟨trs, h1, h2⟩⟩ := h
  refine ⟨⟨_, pe_disp h1 hall hl h0 h15, fun ρ M QD q Hb σ H Q s r kk p hp => ?_⟩⟩
  obtain ⟨s0, f0⟩ := s.extra (o := .dK []) hp
  obtain ⟨n1, n2⟩ := s.none_of hp
  refine h2 ρ M _ q Hb σ (upd H p (.dK [])) _ s0 r fun ds M1 Hb1 H1 vs q1 f1 s1 r1 hlen => ?_
  have e1 : H1 p = some (.dK []) := f1.keep p _ upd_same n2
  obtain ⟨m1, m2⟩ := f1.out p _ upd_same n1 n2
  have ez : ((ks.zip vs).map fun q => (V.str q.1, q.2)) = ((ks.map (Sum.inr : Str → Key)).zip vs).map (fun kv => (kV kv.1, kv.2)) := by
    have : ∀ (ks : List Str) (vs : List V), ((ks.zip vs).map fun q => (V.str q.1, q.2)) = ((ks.map (Sum.inr : Str → Key)).zip vs).map (fun kv => (kV kv.1, kv.2)) := by
      intro ks
      induction ks with
      | nil => intro vs; rfl
      | cons k ks ih =>
        intro vs
        cases vs with
        | nil => rfl
        | cons v vr => simp only [List.map_cons, List.zip_cons_cons, ih]; rfl
    exact this ks vs
  have hlz : (ks.map (Sum.inr : Str → Key)).length = vs.length := by rw [List.length_map, hlen, r1.length]
  refine ⟨e1, (ks.map (Sum.inr : Str → Key)).zip vs, ez, by rw [List.length_zip, hlz, Nat.min_self, ← hlz, List.length_map]; exact hk, ?_⟩
  have em : mergeK [] ((ks.map (Sum.inr : Str → Key)).zip vs) = (ks.map (Sum.inr : Str → Key)).zip vs := by
    rw [mergeK_new _ [] (by rw [List.nil_append, List.map_fst_zip (by omega)]; exact hn), List.nil_append]
  rw [em]
  generalize hO : (HO.dK ((ks.map (Sum.inr : Str → Key)).zip vs)) = O
  have s2 : Sx Hb1 (upd H1 p O) (updM M1 p (.dic (ks.map Sum.inr) ds)) := by
    refine ⟨fun a u z => ?_, fun q d' z => ?_⟩
    · rw [upd_ne (ne_of_none z m1)]
      exact s1.le a u z
    · by_cases hq : q = p
      · subst hq
        rw [updM_same] at z
        cases z
        exact ⟨m1, O, upd_same, vs, hO.symm, by rw [List.length_map]; exact hlen, r1⟩
      · rw [updM_ne hq] at z
        rw [upd_ne hq]
        exact s1.cell q d' z
  refine kk _ _ _ _ _ (q1 p m2) ⟨f1.same, fun a o e q => ?_, fun a o e q1 q2 => ?_⟩ s2 rfl
  · rw [upd_ne (ne_of_none e hp)]
    exact f1.keep a o (by rw [upd_ne (ne_of_none e hp)]; exact e) q
  · obtain ⟨y1, y2⟩ := f1.out a o (by rw [upd_ne (ne_of_none e hp)]; exact e) q1 q2
    exact ⟨y1, by rw [updM_ne (ne_of_none e hp)]; exact y2⟩
/-! ### [.. for k in d] of a frozen dict -/
theorem it_keys {a : Addr} {od : Obj} {ks : List Key} {ds : List D} {vs : List V} {Hb H : Hp} {M : Mp} (hl : ks.length = ds.length) (rl : RepL Hb ds vs) (hb : Hb a = some (.dK (ks.zip vs))) (s : Sx Hb H M) (h : H a = some (.frz od (.dK (ks.zip vs)))) :
    ItD (Itk a od (ks.zip vs)) Hb H M (ks.map keyOf) := fun Hb2 H2 M2 f2 s2 i => by
  have h2 := f2.keep a _ h (s.apart hb)
  have hlz : (ks.zip vs).length = ks.length := by rw [List.length_zip, hl, rl.length, Nat.min_self]
  refine ⟨fun hi => ⟨h2, by rw [List.length_map] at hi; omega⟩, fun d hd => ?_⟩
  rw [List.getElem?_map] at hd
  cases e1 : ks[i]? with
  | none => rw [e1] at hd; cases hd
  | some kk =>
    rw [e1] at hd
    cases hd
    have hlt := (List.getElem?_eq_some_iff.mp e1).1
    refine ⟨⟨h2, by omega⟩, fun x H3 y => ?_⟩
    obtain ⟨rfl, k', v', e3, rfl⟩ := y
    obtain ⟨e4, e5⟩ := zip_at2 e3
    rw [e1] at e4
    cases e4
    exact ⟨Hb2, Fr.refl _ _ _, s2, keyOf_rep kk⟩
def dLcKeys (pth : Env → Mp → Option D) (gd : CG) (tt : DT) (te : DE) (vs : List Nat) : DE := fun ρ M Q => ∃ ks ds, pth ρ M = some (.dic ks ds) ∧ dGather (ks.map keyOf) gd tt te vs ρ M fun acc M2 => Q (.lst acc) M2
theorem de_lcKeys {elt tg : Expr} {ifs : List Expr} {scope : Scope} {own : List (Str × Nat)} {gt : TG} {gd : CG} {tt : DT} {te : DE} {pth : Env → Mp → Option D} (hc : X.calm = true) (hN : X.N.Nodup) (hi : PPD X e pth) (ok : BlkOk X.N X.env.scope scope own)
    (hg : Blk X scope fun Y => PG Y tg gt) (gw : GW gt (own.map (·.2)) gd) (ht : Blk X scope fun Y => PTsD Y ifs tt) (he : Blk X scope fun Y => PED Y elt te)
    (hs : ∀ x, foldedSetIterable e X.env x = pure x := by intro _; rfl) :
    PED X (.ListComp elt [⟨tg, e, ifs, 0⟩] scope pos) (dLcKeys pth gd tt te (own.map (·.2))) := by
  obtain ⟨⟨t0, a0, b0⟩⟩ := hi
  have hlc := pe_lc (pos := pos) hc hN (pi_keys (tg := tg) a0) ok hg (fun s H C cl fp => (ht s H C cl fp).low) (fun s H C cl fp => (he s H C cl fp).low) hs
  refine ⟨⟨_, pe_either hlc (pe_lock hlc), fun ρ M QD h Hb σ H Q s r k => ?_⟩⟩
  obtain ⟨ks, ds, e1, q⟩ := h
  obtain ⟨v, rv, hv⟩ := b0.at_ ρ M _ e1 Hb σ H s r
  obtain ⟨a, vs, rfl, hba, hl, rl⟩ := id rv
  rcases s.le a _ hba with ha | ⟨kvs, od, ek, ha⟩
  · right
    refine ⟨a, .dK (ks.zip vs), ha, True.intro, fun od => ?_⟩
    have s1 := locked hba s od
    refine hv _ (fun b C dx fs hbb => ?_) _ ⟨a, od, rfl, .inl ⟨ks.zip vs, upd_same, fun Dl hD => ?_⟩⟩
    · rw [upd_ne (fun z => by subst z; rw [ha] at hbb; cases hbb)]
      exact hbb
    refine gather_core (Q := fun v H' => H' a = some (.frz od (.dK (ks.zip vs))) ∧ Q v (upd H' a (.dK (ks.zip vs)))) gw (snd_lowT _) (snd_lowE _) q s1 r (fun d M2 Hb2 H2 v ⟨acc, e, q2⟩ f2 s2 r2 => ?_) (it_keys hl rl hba s1 upd_same) hD
    obtain ⟨u1, u2, u3⟩ := unlock hba ha s f2 s2
    exact ⟨u1, k d M2 Hb2 _ v (by rw [e]; exact q2) u2 u3 r2⟩
  · left
    cases ek
    exact hv H (fun _ _ _ _ z => z) _ ⟨a, od, rfl, .inl ⟨ks.zip vs, ha, fun Dl hD => gather_core gw (snd_lowT _) (snd_lowE _) q s r (fun d M2 Hb2 H2 v ⟨acc, e, q2⟩ f2 s2 r2 => k d M2 Hb2 H2 v (by rw [e]; exact q2) f2 s2 r2) (it_keys hl rl hba s ha) hD⟩⟩
end
end DL

/-! part EX1 -/
set_option maxHeartbeats 0
/-! own exception classes over any built-in base: their fields, their making -/
namespace DX
open PySem PySem.Spec PySem.Calls PyProof.Rows L2
open Builtin Builtin.ObjectAttr
/-- what is known of an own exception class C over the built-in class B -/
structure OwnX (K : PySem.W.Frag) (C : Addr) (B newId initId : String) (bmB : List Value) : Prop where
  fb : ExcBaseFacts B newId initId bmB
  sf : PySem.StoreFacts B bmB "object.__setattr__" "object"
  ini : PySem.W.excInitIn K C bmB newId = true
  ovr : PySem.W.excOver K C bmB = true
  dic : PySem.W.hasDictIn K C = true
  sa : PySem.W.findIn K (.ref C) "__setattr__" = some (some (.builtin "object.__setattr__"))
  exC : PySem.W.subIn K (.ref C) (.type "BaseException") = some true
  tyC : PySem.W.typeIn K (.ref C) = some (.type "type")
  kC : PySem.W.keepIn K (.ref C) = true
section
variable {prog : Program} {w : World} {A : Around} {R : Result → Shared → Prop} {hp : Heap} {g : Array GenState} {d : Drawn} {t : Nat} {os : OsState} {K : PySem.W.Frag} {C x dx : Addr} {B newId initId : String} {bmB : List Value} {fv : Array Value} {name : Str} {tk : Tok} {v : Value}
theorem own_first (T : OwnX K C B newId initId bmB) (X : K.In hp) (at_ : hp.get? x = some { cls := .ref C, data := .fields fv }) (tak : PySem.W.takerIn K C name = some none)
    (k : ∀ h' tk' dx, (∀ b o, b ≠ x → hp.get? b = some o → h'.get? b = some o) → hp.objs.size ≤ dx → dx ≠ x → h'.get? x = some { cls := .ref C, dict := some dx, data := .fields fv } → h'.Ns1 dx (fun y => if y = name then some v else none) → R (.ok (.ret .none)) ⟨h', g, d, tk', os⟩) :
    codeAny (model prog w) A (.call (.builtin "object.__setattr__") ⟨[.ref x, .str name tk, v], []⟩) R ⟨hp, g, d, t, os⟩ := by
  have inst : PySem.W.InstAt hp x { cls := .ref C, data := .fields fv } C none := ⟨at_, rfl, rfl, trivial⟩
  have far : x ≠ hp.objs.size := Nat.ne_of_lt (Heap.lt_size at_)
  refine PySem.W.osa_openX (s := ⟨hp, g, d, t, os⟩) T.sf X inst T.ovr tak fun b => ?_
  obtain ⟨cd, kn, hasD⟩ := PySem.W.any_some T.dic
  have lk : PySem.W.Looks (model prog w) hp (classData C) cd := PySem.W.looks_clsIn X kn
  obtain ⟨n1, b1, m1, s1, q1, h1, n2, s2, a1, c1, d1⟩ := cd
  dsimp only at hasD
  subst hasD
  show wpAny _ _ (storeInOwnDict (.ref x) (.ref C) (.str name tk) name v b) _ _ _
  unfold storeInOwnDict ownDictForStores
  repeat (first | with_reducible refine HandSPX.store_in_new ?_ ?_ | with_reducible refine wpAny_loadPart_at at_ ?_ | with_reducible refine lk.at ?_ | wp_step)
  · exact ⟨_, #[], _, (Heap.get?_update_ne _ _ _ _ far.symm).trans (Heap.get?_push_at rfl rfl), rfl, fun e he => absurd he (by simp), fun _ => rfl⟩
  · intro h' tk' ns same
    have old : (hp.push { cls := .type "dict", data := .dict #[] }).get? x = some { cls := .ref C, data := .fields fv } := Heap.get?_push_of_some _ at_
    refine k h' tk' hp.objs.size (fun b o ne ho => ?_) (Nat.le_refl _) far.symm ((same.2 x far).trans (Heap.get?_update_self _ old rfl)) ns
    exact (same.2 b (Nat.ne_of_lt (Heap.lt_size ho))).trans ((Heap.get?_update_ne _ _ _ _ ne).trans (Heap.get?_push_of_some _ ho))
theorem own_next {m0 : Str → Option Value} {nl : List Str} (T : OwnX K C B newId initId bmB) (X : K.In hp) (at_ : hp.get? x = some { cls := .ref C, dict := some dx, data := .fields fv }) (ns : hp.Ns1 dx m0) (wi : Within m0 nl) (few : nl.length ≤ 1000) (tak : PySem.W.takerIn K C name = some none)
    (k : ∀ h' tk', (∀ b o, b ≠ dx → hp.get? b = some o → h'.get? b = some o) → h'.Ns1 dx (fun y => if y = name then some v else m0 y) → R (.ok (.ret .none)) ⟨h', g, d, tk', os⟩) :
    codeAny (model prog w) A (.call (.builtin "object.__setattr__") ⟨[.ref x, .str name tk, v], []⟩) R ⟨hp, g, d, t, os⟩ := by
  obtain ⟨oD, _, _, isD, _, _⟩ := ns.count wi
  have inst : PySem.W.InstAt hp x { cls := .ref C, dict := some dx, data := .fields fv } C (some oD) := ⟨at_, rfl, rfl, isD⟩
  refine PySem.W.osa_openX (s := ⟨hp, g, d, t, os⟩) T.sf X inst T.ovr tak fun b => ?_
  obtain ⟨cd, kn, hasD⟩ := PySem.W.any_some T.dic
  have lk : PySem.W.Looks (model prog w) hp (classData C) cd := PySem.W.looks_clsIn X kn
  obtain ⟨n1, b1, m1, s1, q1, h1, n2, s2, a1, c1, d1⟩ := cd
  dsimp only at hasD
  subst hasD
  show wpAny _ _ (storeInOwnDict (.ref x) (.ref C) (.str name tk) name v b) _ _ _
  unfold storeInOwnDict ownDictForStores
  repeat (first | with_reducible refine OEX.store_in_old ns wi few ?_ | with_reducible refine wpAny_loadPart_at at_ ?_ | with_reducible refine lk.at ?_ | wp_step)
  intro h' tk' ns' same
  exact k h' tk' (fun b o ne ho => (same.2 b ne).trans ho) ns'
end
end DX

/-! part EX2 -/
set_option maxHeartbeats 0
/-! own exception classes over any built-in base: stores in __init__, making -/
namespace DX
open PySem PySem.Spec PyProof.Rows L2
section
variable {X : Cx} {pins : List (Addr × Obj)} {σ : L2.St} {H : Hp} {s : Shared} {a C dx : Addr} {B newId initId : String} {bmB : List Value} {f : Str} {y : V} {u : Value} {fs : List (Str × V)} {Q : Unit → Shared → Prop} {E : Value → Shared → Prop} {A : Around}
theorem xst_new (T : OwnX X.K C B newId initId bmB) (I : Inv X pins σ H s) (e : H a = some (exo a C none)) (hno : PySem.W.takerIn X.K C f = some none) (ry : RelV y u)
    (h : ∀ dx s', H dx = none → dx ≠ a → Inv X pins σ (upd (upd H dx (exd dx [(f, y)])) a (exo a C (some dx))) s' → Q () s') : wpAny (model X.prog X.w) A (setAttr (.ref a) f u) Q E s := by
  obtain ⟨t1, ho⟩ := exo_at I.hok e
  obtain ⟨hp, g, d, t, os⟩ := s
  refine PySem.W.set_plain I.kIn (ox := { cls := .ref C, dict := none, data := .fields #[.ref t1, .none, .none, .none, .bool false, .none] }) (od := none) ⟨ho, rfl, rfl, trivial⟩ T.sa ?_
  refine own_first T I.kIn ho hno (fun h' tk' dx k dn dne hx hn => ?_)
  have hnd : H dx = none := I.hok.fresh dn
  have nd : ∀ {b : Addr} {o : Obj}, hp.get? b = some o → b ≠ dx := fun {b o} q => Nat.ne_of_lt (Nat.lt_of_lt_of_le (Heap.lt_size q) dn)
  have na : ∀ {b : Addr}, H b = none → b ≠ a := fun {b} n z => by
    rw [z, e] at n
    cases n
  have Un1 : Un X.fs [] H (upd (upd H dx (exd dx [(f, y)])) a (exo a C (some dx))) hp h' := {
    keep := fun b o q n _ _ => k b o (na n) q
    slot := fun b o q n _ _ => ⟨o.slots, k b o (na n) q⟩
    free := fun b o q n _ => by rw [upd_ne (na n), upd_ne (nd q)]; exact n
    there := fun b o q _ => by
      by_cases hb : b = a
      · exact ⟨_, by rw [hb]; exact hx⟩
      · exact ⟨o, k b o hb q⟩
    tups := fun b xs q => by rw [upd_ne (at_ne e q exo_tup), upd_ne (ne_of_none q hnd)]; exact q
    frzs := fun b o v q => by rw [upd_ne (at_ne e q exo_frz), upd_ne (ne_of_none q hnd)]; exact q
    tbls := fun b ps q => ⟨#[], by rw [upd_ne (at_ne e q exo_tbl), upd_ne (ne_of_none q hnd), q]; simp⟩ }
  refine h dx _ hnd dne (I.un (t' := tk') Un1 fun b o q => ?_)
  by_cases hb : b = a
  · subst hb
    rw [upd_same] at q
    cases q
    exact exo_ok hx
  · rw [upd_ne hb] at q
    by_cases hd : b = dx
    · subst hd
      rw [upd_same] at q
      cases q
      exact exd_ok hn (relO_put (fs := []) ry fun g => True.intro)
    · rw [upd_ne hd] at q
      exact (I.hok b o q).stay (fun c v hc z => k c v (by
          rcases hc with hc | hc
          · rw [hc]
            exact hb
          · exact at_ne e hc exo_own) z)
        (fun c hc => by rw [upd_ne (at_ne e hc exo_own), upd_ne (ne_of_none hc hnd)]; exact hc) (fun c xs hc => by rw [upd_ne (at_ne e hc exo_tup), upd_ne (ne_of_none hc hnd)]; exact hc)
theorem xst_old (T : OwnX X.K C B newId initId bmB) (I : Inv X pins σ H s) (e : H a = some (exo a C (some dx))) (ed : H dx = some (exd dx fs)) (hl : fs.length ≤ 900) (hno : PySem.W.takerIn X.K C f = some none) (ry : RelV y u)
    (h : ∀ s', Inv X pins σ (upd H dx (exd dx ((f, y) :: fs))) s' → Q () s') : wpAny (model X.prog X.w) A (setAttr (.ref a) f u) Q E s := by
  obtain ⟨t1, ho⟩ := exo_at I.hok e
  obtain ⟨mA, hns, rel⟩ := exd_at I.hok ed
  have hw := within_of rel
  obtain ⟨hp, g, d, t, os⟩ := s
  obtain ⟨oD, _, _, hoD, _, _⟩ := hns.count hw
  refine PySem.W.set_plain I.kIn (ox := { cls := .ref C, dict := some dx, data := .fields #[.ref t1, .none, .none, .none, .bool false, .none] }) (od := some oD) ⟨ho, rfl, rfl, hoD⟩ T.sa ?_
  refine own_next T I.kIn ho hns hw (by rw [List.length_map]; omega) hno (fun h' tk' k hn => ?_)
  have hd : ∃ o, h'.get? dx = some o := by
    obtain ⟨o, _, _, e', _⟩ := hn
    exact ⟨o, e'⟩
  exact h _ (I.write (t' := tk') (x := dx) (e := dx) (o := exd dx ((f, y) :: fs)) (by rw [ed]; exact True.intro) (.inl rfl) k hd (exd_ok hn (relO_put ry rel)))
/-- self.f = e -/
def tXst (C : Addr) (f : Str) (to te : TE) : TS := fun D σ H => te σ H fun y H1 => to σ H1 fun x H2 => ∃ a : Addr, x = .ref a ∧
  ((H2 a = some (exo a C none) ∧ ∀ dx, H2 dx = none → dx ≠ a → D.nx σ (upd (upd H2 dx (exd dx [(f, y)])) a (exo a C (some dx)))) ∨
    ∃ (dx : Addr) (fs : List (Str × V)), H2 a = some (exo a C (some dx)) ∧ H2 dx = some (exd dx fs) ∧ fs.length ≤ 900 ∧ D.nx σ (upd H2 dx (exd dx ((f, y) :: fs))))
theorem ps_xst {o e : Expr} {to te : TE} {p' pos : Pos} (T : OwnX X.K C B newId initId bmB) (hno : PySem.W.takerIn X.K C f = some none) (ho : PE X o to) (he : PE X e te) (hs : swapsWith e (some (.Attribute o f p')) pos.line X.env = pure false := by rfl) : PS X (.Assign [.Attribute o f p'] e pos) (tXst C f to te) := by
  refine ⟨fun pins s σ H D I h => ?_⟩
  refine plainObj_wpAny_Assign_Attribute (thn (he.run pins s σ H _ I h) fun v s1 ⟨y, H1, I1, r1, q1⟩ => thn (ho.run pins s1 σ H1 _ I1 q1) fun u s2 ⟨x, H2, I2, r2, a, ex, q⟩ => ?_) hs
  subst ex
  obtain rfl : u = Value.ref a := r2
  rcases q with ⟨ea, q⟩ | ⟨dx, fs, ea, ed, hl, q⟩
  · exact xst_new T I2 ea hno r1 fun dx s' n ne J => ⟨σ, _, J, q dx n ne⟩
  · exact xst_old T I2 ea ed hl hno r1 fun s' J => ⟨σ, _, J, q⟩
/-- what an __init__ of such a class keeps: the fields are fl of the values given -/
def xInit (C : Addr) (n : Nat) (fl : List V → List (Str × V)) : Sp := fun vs H Q _ => ∃ a ws, vs = .ref a :: ws ∧ ws.length = n ∧ H a = some (exo a C none) ∧ ∀ dx, H dx = none → dx ≠ a → Q .non (upd (upd H dx (exd dx (fl ws))) a (exo a C (some dx)))
theorem upd3 {H : Hp} {a dx : Addr} {o o2 o3 : HO} (h : dx ≠ a) : upd (upd (upd H dx o) a o2) dx o3 = upd (upd H dx o3) a o2 := by
  funext b
  unfold upd
  by_cases h1 : b = dx
  · rw [if_pos h1, if_neg (fun z => h (h1.symm.trans z)), if_pos h1]
  · by_cases h2 : b = a
    · rw [if_neg h1, if_pos h2, if_pos h2]
    · rw [if_neg h1, if_neg h2, if_neg h1, if_neg h2, if_neg h1]
/-- C(e, ..): what is made -/
def tMkX (C : Addr) (n : Nat) (fl : List V → List (Str × V)) (ta : TA) : L2.St → Hp → XK → Prop := fun σ H Q => ta σ H fun vs H1 => vs.length = n ∧ ∀ dx, H1 dx = none → Q (.ref C) (some dx) (upd H1 dx (.xd (fl vs)))
theorem pmk_x {x : Str} {e : Expr} {es : List Expr} {ta : TA} {p pos : Pos} {fI : Addr} {k n : Nat} {fd : FuncData} {ps : List Str} {fl : List V → List (Str × V)} (T : OwnX X.K C B newId initId bmB) (iC : PySem.W.findIn X.K (.ref C) "__init__" = some (some (.ref fI))) (tI : PySem.W.typeIn X.K (.ref fI) = some (.type "function"))
    (hn9 : n ≤ 900) (F1 : FnOk X.prog X.w X.K X.mg X.base CX0 k fI fd ps (xInit C n fl)) (hr : Room (k + 1) X.A) (hb : Binds X.K fd ps []) (hg : Gl X x) (hm : X.mg x = some (.ref C)) (ha : PA X (e :: es) ta)
    (hdb : (x == ("__debug__" : Str)) = false := by decide) (he : starEach (e :: es) X.env = (false, eval e X.env) :: starEach es X.env := by rfl) (hpl : (backTo pos (starEach es X.env)).any (·.1) = false := by rfl) :
    PMk X (.Call (.Name x p) (e :: es) [] pos) (tMkX C n fl ta) := by
  intro pins s σ H Q I h
  refine wpAny_Call_Name_kw (ld_glob I hg hm ?_ hdb)
  refine PySem.W.callWith_K (h₀ := X.base) I.ok.mod.kin T.kC (thn (ha.run pos pins s σ H _ I h) fun us s1 ⟨vs, H1, I1, r1, hz, q1⟩ => ⟨I1.kIn, ?_⟩) he hpl
  show wpAny _ _ (call (.ref C) us) _ _ _
  obtain ⟨nm, N, qn, bs, bm, hdct, sn, sub, ab, col, dd, k0, k1, k2, k3, k5, hC, hT⟩ := PySem.W.excInit_of I1.kIn T.ini
  obtain ⟨hp, g, dr, tk, os⟩ := s1
  have hsz : hp.objs.size ≤ hp.objs.size + 1 := Nat.le_succ _
  have hn : H1 (hp.objs.size + 1) = none := I1.hok.fresh hsz
  have hq : xInit C n fl (.ref (hp.objs.size + 1) :: (vs ++ [])) (upd H1 (hp.objs.size + 1) (exo (hp.objs.size + 1) C none))
      (fun v H2 => v = .non ∧ ∃ (d : Addr) (fs : List (Str × V)), H2 (hp.objs.size + 1) = some (exo (hp.objs.size + 1) C (some d)) ∧ H2 d = some (exd d fs) ∧ H1 d = none ∧ Q (.ref C) (some d) (upd (del H2 (hp.objs.size + 1)) d (.xd fs))) (fun _ _ _ => False) := by
    refine ⟨_, vs, by rw [List.append_nil], hz, upd_same, fun dx hdx hne => ⟨rfl, dx, fl vs, upd_same, by rw [upd_ne hne, upd_same], by rw [upd_ne hne] at hdx; exact hdx, ?_⟩⟩
    rw [upd_ne hne] at hdx
    have e1 : upd (del (upd (upd (upd H1 (hp.objs.size + 1) (exo (hp.objs.size + 1) C none)) dx (exd dx (fl vs))) (hp.objs.size + 1) (exo (hp.objs.size + 1) C (some dx))) (hp.objs.size + 1)) dx (.xd (fl vs)) = upd H1 dx (.xd (fl vs)) := by
      funext b
      by_cases h1 : b = dx
      · rw [h1, upd_same, upd_same]
      · rw [upd_ne h1, upd_ne h1]
        by_cases h2 : b = hp.objs.size + 1
        · rw [h2, del_same, hn]
        · rw [del_ne h2, upd_ne h2, upd_ne h1, upd_ne h2]
    rw [e1]
    exact q1 dx hdx
  have kk : ∀ b o, hp.get? b = some o → ((hp.push (PySem.W.kdv_tup us)).push (PySem.HandSPX.excO C hp.objs.size)).get? b = some o := fun b o e => Heap.get?_push_of_some _ (Heap.get?_push_of_some _ e)
  have hget : ((hp.push (PySem.W.kdv_tup us)).push (PySem.HandSPX.excO C hp.objs.size)).get? (hp.objs.size + 1) = some (PySem.HandSPX.excO C hp.objs.size) := by heap_get
  have I2 : Inv X pins σ (upd H1 (hp.objs.size + 1) (exo (hp.objs.size + 1) C none)) ⟨(hp.push (PySem.W.kdv_tup us)).push (PySem.HandSPX.excO C hp.objs.size), g, dr, tk, os⟩ :=
    I1.laid (t' := tk) (a := hp.objs.size + 1) (o := exo (hp.objs.size + 1) C none) (h' := (hp.push (PySem.W.kdv_tup us)).push (PySem.HandSPX.excO C hp.objs.size)) kk hsz (exo_ok hget)
  have r2 : Vals (V.ref (hp.objs.size + 1) :: (vs ++ [])) (Value.ref (hp.objs.size + 1) :: us) := by
    rw [List.append_nil]
    exact .cons rfl r1
  have hl : (Value.ref (hp.objs.size + 1) :: us ++ []).length = ps.length := by
    have e := r2.length
    rw [F1.len _ _ _ _ hq] at e
    rw [List.append_nil]
    exact e.symm
  have b2 := hb _ (Value.ref (hp.objs.size + 1) :: us) I2.kIn hl
  rw [List.append_nil] at b2
  have hus : us.length ≤ sizeLine := by
    rw [← Paired.length r1, sizeLine_eq]
    omega
  refine wpAny_call (PySem.HandSPX.call_own T.fb hT hC (PySem.W.looks_findIn I1.kIn iC) (fun self => PySem.W.bind_fn I1.kIn self tI) hus
    (codeAny_mono (F1.run _ X.stack _ _ ⟨Value.ref (hp.objs.size + 1) :: us, []⟩ (Value.ref (hp.objs.size + 1) :: us) _ _ (fun _ _ _ => False) (hr.make C us []) (I2.env0.make C us []) b2 r2 hq) fun r s' hq' => ?_))
  cases r with
  | error er => exact False.elim hq'
  | ok fl =>
    cases fl with
    | ret u =>
      obtain ⟨v, H2, os2, bare2, un2, hok2, rv, ev, d, fs, ea, ed, hd1, q2⟩ := hq'
      subst ev
      obtain ⟨h2, g2, d2, t2, os'⟩ := s'
      exact ⟨rv, mk_end (raises_own T.exC T.tyC) I1 hsz kk un2 hok2 os2 bare2 ea ed hd1 q2⟩
    | next => exact False.elim hq'
    | brk => exact False.elim hq'
    | cont => exact False.elim hq'
end
end DX

/-! part EX3 -/
set_option maxHeartbeats 0
/-! try with several «except X as n» clauses; isinstance of a caught exception that has a dict -/
namespace DX
open PySem PySem.Spec PyProof.Rows L2
def wManyA (K : PySem.W.Frag) (Wout : WX) (D : Ends) : List (Value × Nat × (Addr → Value → Option Addr → TS)) → WX
  | [] => Wout
  | (c, i, ts) :: r => fun cls d σ H => ∃ b, PySem.W.exmOne K cls c = some b ∧
      (b = true → ∀ a, H a = none → ts a cls d { nx := fun σ' H' => D.nx (σ'.set i none) H', rt := D.rt, bk := fun σ' H' => D.bk (σ'.set i none) H', ct := fun σ' H' => D.ct (σ'.set i none) H' } (σ.set i (some (.ref a))) H) ∧
      (b = false → wManyA K Wout D r cls d σ H)
inductive HdsA (X : Cx) : List ExceptHandler → List (Value × Nat × (Addr → Value → Option Addr → TS)) → Prop
  | nil : HdsA X [] []
  | cons {x n : Str} {i : Nat} {c : Value} {ts : Addr → Value → Option Addr → TS} {b₀ : Stmt} {suite : List Stmt} {np pos' : Pos} {hds : List ExceptHandler} {l : List (Value × Nat × (Addr → Value → Option Addr → TS))} (hi : X.N[i]? = some n) (hln : X.env.kindOf n = some .local) (hc : Names X x c)
      (hsu : ∀ (a : Addr) (oe : Obj) (cls : Value) (d : Option Addr) (pn : List (Addr × Obj)), Zc cls d oe → (∃ vs, oe.data = .fields vs) → PSs (X.suite a ((a, oe) :: pn)) (b₀ :: suite) (ts a cls d)) (r : HdsA X hds l) :
      HdsA X (.ExceptHandler (some (.Name x np)) (some n) (b₀ :: suite) pos' :: hds) ((c, i, ts) :: l)
section
variable {X : Cx} {body : List Stmt} {h₀ : ExceptHandler} {hds : List ExceptHandler} {l : List (Value × Nat × (Addr → Value → Option Addr → TS))} {pos : Pos} {tb : WX → TS} {Wout : WX}
theorem ps_try_many_as (hs : X.stack = X.env :: X.outer) (hf : X.env.frame = some X.env.locals) (hN : X.N.Nodup) (tk : Takes X Wout)
    (hb : ∀ (W : WX) (pn : List (Addr × Obj)) (xe : Value → Shared → Prop), Takes (X.tr pn xe) W → PassesOwn (model X.prog X.w) X.A X.env xe → PSs (X.tr pn xe) body (tb W))
    (hh : HdsA X (h₀ :: hds) l) : PS X (.Try body (h₀ :: hds) [] [] pos) (fun D σ H => tb (wManyA X.K Wout D l) D σ H) := by
  refine ⟨fun pins s σ H D I h => ?_⟩
  have ok := I.ok
  have hfr : X.A.frames = some (X.env :: X.outer) := by rw [ok.frames, hs]
  refine wpAny_Try_except ?_
  refine wpAny_mono ((hb (wManyA X.K Wout D l) (X.pn ++ pins) (fun e s₁ => wpAny (model X.prog X.w) X.A (noteFrame e X.env) (fun _ s₂ => wpAny (model X.prog X.w) X.A (setFlight e none) (fun _ s₃ =>
    wpAny (model X.prog X.w) X.A (handleBy e X.env (h₀ :: hds)) (SP X pins D) X.xe s₃) X.xe s₂) X.xe s₁) (fun u s' xx => ?_) PassesOwn.looking).run [] s σ H D (I.toTry _) h) (fun f s1 hsp => ?_) (fun e s1 he => he)
  · obtain ⟨a, B, sI, pins', σ', H', cls, d, rfl, J', nb, up, sky, na, os, ag, w⟩ := xx
    have J : Inv X pins σ' H' sI := J'.ofTry ok
    have sky' : Sky B (X.env :: X.outer) a (Zc cls d) X.env.locals s'.heap := by rw [← hs]; exact sky
    show wpAny (model X.prog X.w) X.A (noteFrame (.ref a) X.env) _ _ _
    refine Sky.land Zc.steady hfr hf sky' fun h3 fl3 up3 => ?_
    have J3 : Inv X pins σ' H' { s' with heap := h3 } := J.landed nb fl3.1 (up.trans up3) os ag
    obtain ⟨oe3, vs3, he3, hz3, hd3⟩ := fl3.there
    have notFr : ∀ {h : Heap} {o : Obj} {vs : Array Value}, h.FunFrames B (X.env :: X.outer) → h.get? a = some o → o.data = .fields vs → a ∉ frs (X.env :: X.outer) := fun {h o vs} ff e dd hm => by
      obtain ⟨_, o', e', hnf⟩ := ff.mem hm
      rw [e] at e'; cases e'
      exact hnf _ dd
    have nfr := notFr fl3.2.2.1 he3 hd3
    have nL : a ≠ X.env.locals := fun z => nfr (List.mem_filterMap.mpr ⟨X.env, List.mem_cons_self, by rw [hf, z]⟩)
    have nF : a ∉ X.fs := fun hm => by
      obtain ⟨e, he, q⟩ := List.mem_filterMap.mp hm
      exact nfr (List.mem_filterMap.mpr ⟨e, List.mem_cons_of_mem _ he, q⟩)
    have S3 := J3.suite he3 hd3 na nL nF
    have go : ∀ {hds' : List ExceptHandler} {l' : List (Value × Nat × (Addr → Value → Option Addr → TS))}, HdsA X hds' l' → wManyA X.K Wout D l' cls d σ' H' →
        wpAny (model X.prog X.w) X.A (handleBy (.ref a) X.env hds') (SP X pins D) X.xe { s' with heap := h3 } := by
      intro hds' l' hk
      induction hk with
      | nil =>
        intro w
        refine wpAny_handleBy_nil ?_
        obtain ⟨k1, k2, k3, oe, vs, T, oT, ts', he, hz, hd, h1, hr⟩ := id fl3
        unfold PySem.passOn
        refine wpAny_bind (wpAny_field he hd h1 ?_)
        rw [if_neg (show ¬ ((Value.ref T == Value.none) = true) from by simp)]
        have fin : wpAny (model X.prog X.w) X.A (setFlight (.ref a) X.env.frame) (fun _ s4 => wpAny (model X.prog X.w) X.A (throw (.ref a) : Sem Flow) (SP X pins D) X.xe s4) X.xe { s' with heap := h3 } := by
          rw [hf]
          refine HandSPX.setFlight_upZ fl3 fun h4 hh4 up4 => wpAny_throw (tk _ _ ?_)
          exact ⟨a, B, sI, pins, σ', H', cls, d, rfl, J, nb, (up.trans up3).trans up4, .inr (.inr (by rw [hs]; exact hh4)), na, os, ag, w⟩
        first
          | exact wpAny_bind (wpAny_pure (wpAny_bind fin))
          | exact wpAny_bind fin
      | @cons x n i c ts b₀ suite np pos' hds2 l2 hi hln hc hsu r ih =>
        intro w
        obtain ⟨b, hb1, hyes, hno⟩ := w
        have hloc : Loc X.env.scope n := .inl hln
        refine wpAny_handleBy_cons (codeAny_handlers_test ?_) (by intro q; cases q)
        have LT : PySem.W.Looks (model X.prog X.w) h3 (typeOf (.ref a)) cls := fun A Q E s k q => wpAny_typeOf_ref (k _ _ he3) (by rw [hz3.1]; exact q)
        have LM := PySem.W.exm_one (M := model X.prog X.w) (J3.kIn) LT hb1
        have test : ∀ {Q : Value → Shared → Prop} {E : Value → Shared → Prop}, Q c { s' with heap := h3 } → wpAny (model X.prog X.w) (X.A.mark (some (.ref a))) (eval (.Name x np) X.env) Q E { s' with heap := h3 } := fun {Q E} q => by
          obtain ⟨hg, hdbg, hm | ⟨hm, hv, hnn⟩⟩ := hc
          · exact ld_glob (X := X.suite a ((a, oe3) :: (X.pn ++ pins))) S3 hg hm q hdbg
          · exact ld_blt (X := X.suite a ((a, oe3) :: (X.pn ++ pins))) S3 hg hm hv q hnn hdbg
        refine test (LM.here ?_)
        cases b with
        | true =>
          refine codeAny_handlers_suite_as ?_
          refine HandSPX.lands_againZ fl3 fun h4 fl4 up4 => ?_
          have J4 : Inv X pins σ' H' { s' with heap := h4 } := J.landed nb fl4.1 ((up.trans up3).trans up4) os ag
          obtain ⟨oe4, vs4, he4, hz4, hd4⟩ := fl4.there
          have S4 := J4.suite he4 hd4 na nL nF
          refine store_ok (X := X.suite a ((a, oe4) :: (X.pn ++ pins))) (v := .ref a) S4 hN hi hloc rfl (fun s5 S5 => ?_) (.inr hln)
          refine wpAny_mono ((hsu a oe4 cls d (X.pn ++ pins) hz4 ⟨_, hd4⟩).run [] s5 _ H' _ S5 (hyes rfl a na)) (fun f s6 hsp => ?_) (fun _ _ z => False.elim z)
          have end_ : ∀ {σ6 : L2.St} {H6 : Hp} {Q : Shared → Prop}, Inv (X.suite a ((a, oe4) :: (X.pn ++ pins))) [] σ6 H6 s6 → (∀ s7, Inv X pins (σ6.set i none) H6 s7 → Q s7) →
              wpAny (model X.prog X.w) X.A (do bindName X.env n .none; unbindBehindTheSuite X.env n pos') (fun _ s7 => Q s7) X.xe s6 := fun {σ6 H6 Q} S6 hq => gone_ok (S6.unsuite ok) hN hi hln hq
          cases f with
          | next =>
            obtain ⟨σ6, H6, S6, q6⟩ := hsp
            exact end_ S6 fun s7 J7 => ⟨_, _, J7, q6⟩
          | brk =>
            obtain ⟨σ6, H6, S6, q6⟩ := hsp
            exact end_ S6 fun s7 J7 => ⟨_, _, J7, q6⟩
          | cont =>
            obtain ⟨σ6, H6, S6, q6⟩ := hsp
            exact end_ S6 fun s7 J7 => ⟨_, _, J7, q6⟩
          | ret u =>
            obtain ⟨v6, σ6, H6, S6, r6, q6⟩ := hsp
            exact end_ S6 fun s7 J7 => ⟨_, _, _, J7, r6, q6⟩
        | false =>
          show wpAny _ X.A (handleBy (.ref a) X.env hds2) _ _ _
          exact ih (hno rfl)
    exact go hh w
  · cases f with
    | next =>
      obtain ⟨σ', H', J', q⟩ := hsp
      exact wpAny_execs_nil ⟨σ', H', J'.ofTry ok, q⟩
    | brk =>
      obtain ⟨σ', H', J', q⟩ := hsp
      exact ⟨σ', H', J'.ofTry ok, q⟩
    | cont =>
      obtain ⟨σ', H', J', q⟩ := hsp
      exact ⟨σ', H', J'.ofTry ok, q⟩
    | ret u =>
      obtain ⟨v, σ', H', J', r, q⟩ := hsp
      exact ⟨v, σ', H', J'.ofTry ok, r, q⟩
end
end DX

/-! part DX1 -/
set_option maxHeartbeats 0
/-! what is raised, over data: judgements with a raised end -/
namespace DL
open PySem PySem.Spec PyProof.Rows L2
/-- what is raised: the class, the fields -/
abbrev XD := Addr → List Str → List D → Mp → Prop
abbrev XS := Env → XD
abbrev DEX := XD → DE
abbrev DTX := XD → DT
abbrev DAX := XD → DA
abbrev DSX := XS → DS
abbrev SpX := List D → Mp → DK → XD → Prop
def OKX (Hb H : Hp) (M : Mp) (XE : XD) (W : XK) : Prop := ∀ C dd fs ds M' Hb' H', XE C fs ds M' → Fr Hb H M Hb' H' M' → Sx Hb' H' M' → (∀ a, Rep Hb' (.exc a C dd fs ds) (.ref a)) → W (.ref C) (some dd) H'
def OKXS (Hb H : Hp) (M : Mp) (XE : XS) (W : WX) : Prop := ∀ C dd fs ds ρ' M' Hb' σ' H', XE ρ' C fs ds M' → Fr Hb H M Hb' H' M' → Sx Hb' H' M' → EnvR Hb' σ' ρ' → (∀ a, Rep Hb' (.exc a C dd fs ds) (.ref a)) → W (.ref C) (some dd) σ' H'
section
variable {Hb H Hb1 H1 : Hp} {M M1 : Mp}
theorem OKX.fr {XE : XD} {W : XK} (k : OKX Hb H M XE W) (s : Sx Hb1 H1 M1) (f : Fr Hb H M Hb1 H1 M1) : OKX Hb1 H1 M1 XE W := fun C dd fs ds M' Hb' H' q g s' r => k C dd fs ds M' Hb' H' q (f.trans s g) s' r
theorem OKXS.fr {XE : XS} {W : WX} (k : OKXS Hb H M XE W) (s : Sx Hb1 H1 M1) (f : Fr Hb H M Hb1 H1 M1) : OKXS Hb1 H1 M1 XE W := fun C dd fs ds ρ' M' Hb' σ' H' q g s' r => k C dd fs ds ρ' M' Hb' σ' H' q (f.trans s g) s' r
/-- at the slots σ -/
theorem OKXS.at {XE : XS} {W : WX} {σ : L2.St} {ρ : Env} (k : OKXS Hb H M XE W) (r : EnvR Hb σ ρ) : OKX Hb H M (XE ρ) (WE W σ) := fun C dd fs ds M' Hb' H' q g s' r' => k C dd fs ds ρ M' Hb' σ H' q g s' (r.mono g.same) r'
end
/-- the canonical readings -/
def canE (td : DEX) (W : WX) : TE := fun σ H Q => ∃ Hb ρ M XE QD, Sx Hb H M ∧ EnvR Hb σ ρ ∧ td XE ρ M QD ∧ OK Hb H M QD Q ∧ OKX Hb H M XE (WE W σ)
def canT (td : DTX) (W : WX) : TT := fun σ H Q => ∃ Hb ρ M XE QD, Sx Hb H M ∧ EnvR Hb σ ρ ∧ td XE ρ M QD ∧ OKT Hb H M QD Q ∧ OKX Hb H M XE (WE W σ)
def canA (td : DAX) (W : WX) : TA := fun σ H Q => ∃ Hb ρ M XE QD, Sx Hb H M ∧ EnvR Hb σ ρ ∧ td XE ρ M QD ∧ OKA Hb H M QD Q ∧ OKX Hb H M XE (WE W σ)
def canS (td : DSX) (W : WX) : TS := fun E σ H => ∃ Hb ρ M XE P, Sx Hb H M ∧ EnvR Hb σ ρ ∧ td XE P ρ M ∧ OKE Hb H M P E ∧ OKXS Hb H M XE W
def canS0 (td : DS) : TS := fun E σ H => ∃ Hb ρ M P, Sx Hb H M ∧ EnvR Hb σ ρ ∧ td P ρ M ∧ OKE Hb H M P E
structure PEX (X : Cx) (e : Expr) (td : DEX) : Prop where
  run : ∀ W, Takes X W → PE X e (canE td W)
structure PTX (X : Cx) (e : Expr) (td : DTX) : Prop where
  run : ∀ W, Takes X W → PT X e (canT td W)
structure PAX (X : Cx) (es : List Expr) (td : DAX) : Prop where
  run : ∀ W, Takes X W → PA X es (canA td W)
structure PKX (X : Cx) (kws : List Keyword) (td : DAX) : Prop where
  run : ∀ W, Takes X W → PK X kws (canA td W)
structure PSX (X : Cx) (st : Stmt) (td : DSX) : Prop where
  run : ∀ W, Takes X W → PS X st (canS td W)
structure PSsX (X : Cx) (sts : List Stmt) (td : DSX) : Prop where
  run : ∀ W, Takes X W → PSs X sts (canS td W)
section
variable {X : Cx}
theorem PE.imp {e : Expr} {t t' : TE} (h : PE X e t) (w : ∀ σ H Q, t' σ H Q → t σ H Q) : PE X e t' := ⟨fun pins s σ H Q I q => h.run pins s σ H Q I (w σ H Q q)⟩
theorem PT.imp {e : Expr} {t t' : TT} (h : PT X e t) (w : ∀ σ H Q, t' σ H Q → t σ H Q) : PT X e t' := ⟨fun pins s σ H Q I q => h.run pins s σ H Q I (w σ H Q q)⟩
theorem PA.imp {e : List Expr} {t t' : TA} (h : PA X e t) (w : ∀ σ H Q, t' σ H Q → t σ H Q) : PA X e t' := ⟨fun pos pins s σ H Q I q => h.run pos pins s σ H Q I (w σ H Q q)⟩
theorem PK.imp {e : List Keyword} {t t' : TA} (h : PK X e t) (w : ∀ σ H Q, t' σ H Q → t σ H Q) : PK X e t' := ⟨fun pos pins s σ H Q I q => h.run pos pins s σ H Q I (w σ H Q q)⟩
theorem PS.imp {e : Stmt} {t t' : TS} (h : PS X e t) (w : ∀ D σ H, t' D σ H → t D σ H) : PS X e t' := ⟨fun pins s σ H D I q => h.run pins s σ H D I (w D σ H q)⟩
theorem PSs.imp {e : List Stmt} {t t' : TS} (h : PSs X e t) (w : ∀ D σ H, t' D σ H → t D σ H) : PSs X e t' := ⟨fun pins s σ H D I q => h.run pins s σ H D I (w D σ H q)⟩
theorem PSsD.can {sts : List Stmt} {td : DS} (h : PSsD X sts td) : PSs X sts (canS0 td) := by
  obtain ⟨⟨t, a, b⟩⟩ := h
  exact PSs.imp a fun D σ H ⟨Hb, ρ, M, P, s, r, q, k⟩ => b P ρ M q Hb σ H D s r k
end
/-! ### what raises nothing -/
section
variable {X : Cx} {e : Expr} {es : List Expr} {kws : List Keyword} {st : Stmt} {sts rest : List Stmt}
theorem ex_of {td : DE} (h : PED X e td) : PEX X e (fun _ => td) := ⟨fun W tk => by
  obtain ⟨⟨t, a, b⟩⟩ := h
  exact PE.imp a fun σ H Q ⟨Hb, ρ, M, XE, QD, s, r, q, k, _⟩ => b ρ M QD q Hb σ H Q s r k⟩
theorem tx_of {td : DT} (h : PTD X e td) : PTX X e (fun _ => td) := ⟨fun W tk => by
  obtain ⟨⟨t, a, b⟩⟩ := h
  exact PT.imp a fun σ H Q ⟨Hb, ρ, M, XE, QD, s, r, q, k, _⟩ => b ρ M QD q Hb σ H Q s r k⟩
theorem ax_of {td : DA} (h : PAD X es td) : PAX X es (fun _ => td) := ⟨fun W tk => by
  obtain ⟨⟨t, a, b⟩⟩ := h
  exact PA.imp a fun σ H Q ⟨Hb, ρ, M, XE, QD, s, r, q, k, _⟩ => b ρ M QD q Hb σ H Q s r k⟩
theorem kx_of {td : DA} (h : PKD X kws td) : PKX X kws (fun _ => td) := ⟨fun W tk => by
  obtain ⟨⟨t, a, b⟩⟩ := h
  exact PK.imp a fun σ H Q ⟨Hb, ρ, M, XE, QD, s, r, q, k, _⟩ => b ρ M QD q Hb σ H Q s r k⟩
theorem sx_of {td : DS} (h : PSD X st td) : PSX X st (fun _ => td) := ⟨fun W tk => by
  obtain ⟨⟨t, a, b⟩⟩ := h
  exact PS.imp a fun D σ H ⟨Hb, ρ, M, XE, P, s, r, q, k, _⟩ => b P ρ M q Hb σ H D s r k⟩
theorem ssx_of {td : DS} (h : PSsD X sts td) : PSsX X sts (fun _ => td) := ⟨fun W tk => by
  obtain ⟨⟨t, a, b⟩⟩ := h
  exact PSs.imp a fun D σ H ⟨Hb, ρ, M, XE, P, s, r, q, k, _⟩ => b P ρ M q Hb σ H D s r k⟩
end
/-! ### expressions -/
section
variable {X : Cx} {e a b c o i : Expr} {es : List Expr} {kws : List Keyword} {pos apos kpos p : Pos} {ta tb : DEX} {da dk : DAX} {x m : Str} {nm : Option Str}
def xCons (ta : DEX) (da : DAX) : DAX := fun XE ρ M Q => ta XE ρ M fun x M1 => da XE ρ M1 fun xs M2 => Q (x :: xs) M2
theorem snd_xcons {ta : DEX} {da : DAX} {W : WX} {σ : L2.St} {H : Hp} {Q : List V → Hp → Prop} (h : canA (xCons ta da) W σ H Q) : (tCons (canE ta W) (canA da W)) σ H Q := by
  obtain ⟨Hb, ρ, M, XE, QD, s, r, q, k, kx⟩ := h
  refine ⟨Hb, ρ, M, XE, _, s, r, q, fun d M1 Hb1 H1 v q1 f1 s1 r1 => ?_, kx⟩
  exact ⟨Hb1, ρ, M1, XE, _, s1, r.mono f1.same, q1, fun ds M2 Hb2 H2 vs q2 f2 s2 r2 => k _ M2 Hb2 H2 _ q2 (f1.trans s1 f2) s2 ⟨v, vs, rfl, r1.mono f2.same, r2⟩, kx.fr s1 f1⟩
theorem ax_nil : PAX X [] (fun _ => dNil) := ax_of ⟨⟨_, pa_nil, fun ρ M QD h Hb σ H Q s r k => k [] M Hb H [] h (Fr.refl _ _ _) s rfl⟩⟩
theorem ax_cons (h1 : PEX X e ta) (h2 : PAX X es da) (hs : starEach (e :: es) X.env = (false, eval e X.env) :: starEach es X.env := by rfl) : PAX X (e :: es) (xCons ta da) :=
  ⟨fun W tk => PA.imp (pa_cons (h1.run W tk) (h2.run W tk) hs) fun _ _ _ => snd_xcons⟩
theorem kx_nil : PKX X [] (fun _ => dNil) := kx_of dk_nil
theorem kx_cons (h1 : PEX X e ta) (h2 : PKX X kws dk) : PKX X (⟨nm, e, kpos⟩ :: kws) (xCons ta dk) :=
  ⟨fun W tk => PK.imp (pk_cons (h1.run W tk) (h2.run W tk)) fun _ _ _ => snd_xcons⟩
def xTup (da : DAX) : DEX := fun XE ρ M Q => da XE ρ M fun ds M1 => ds.length ≤ sizeLine ∧ Q (.tup ds) M1
theorem ex_tup {x1} (h : PAX X es da) : PEX X (.Tuple es x1 pos) (xTup da) := ⟨fun W tk => PE.imp (pe_tup (h.run W tk)) fun σ H Q ⟨Hb, ρ, M, XE, QD, s, r, q, k, kx⟩ =>
  ⟨Hb, ρ, M, XE, _, s, r, q, fun ds M1 Hb1 H1 vs h1 f1 s1 r1 => ⟨by rw [← r1.length]; exact h1.1, fun p hp => by
    obtain ⟨s2, f2⟩ := s1.frozen (o := .tup vs) hp
    exact k _ M1 _ _ _ h1.2 (f1.trans s1 f2) s2 ⟨p, vs, rfl, upd_same, r1.mono f2.same⟩⟩, kx⟩⟩
def xOp (rd : DR) (ta tb : DEX) : DEX := fun XE ρ M Q => ta XE ρ M fun x M1 => tb XE ρ M1 fun y M2 => rd x y M2 Q
def xB (ta : DEX) : DTX := fun XE ρ M Q => ta XE ρ M fun x M1 => match x with
  | .bl c => Q c M1
  | _ => False
def xTru (ta : DEX) : DTX := fun XE ρ M Q => ta XE ρ M fun x M1 => match x with
  | .bl c => Q c M1
  | _ => False
theorem tx_val (h : PEX X e ta) (he : ∀ whole, isTrue e X.env whole = (do let v ← whole; standAt e.pos; holding [v] (truthy v)) := by intro _; rfl) : PTX X e (xB ta) := ⟨fun W tk => PT.imp (pt_val (h.run W tk) he) fun σ H Q ⟨Hb, ρ, M, XE, QD, s, r, q, k, kx⟩ =>
  ⟨Hb, ρ, M, XE, _, s, r, q, fun d M1 Hb1 H1 v h1 f1 s1 r1 => by
    dsimp only at h1
    split at h1
    · rename_i c
      cases (show v = V.bl c from r1)
      exact ⟨c, rfl, k c M1 Hb1 H1 h1 f1 s1⟩
    · exact h1.elim, kx⟩⟩
theorem tx_cmp {op : CmpOp} {rd : DR} (ho : OpD X (compareOp op) rd) (ha : PEX X a ta) (hb : PEX X b tb) (hm : behindInMarks op b = false := by first | exact nomark _ | rfl) : PTX X (.Compare a [op] [b] pos) (xB (xOp rd ta tb)) := ⟨fun W tk => by
  obtain ⟨⟨r0, h1, h2⟩⟩ := ho
  refine PT.imp (pt_cmpR h1 (ha.run W tk) (hb.run W tk) hm) fun σ H Q ⟨Hb, ρ, M, XE, QD, s, r, q, k, kx⟩ => ?_
  refine ⟨Hb, ρ, M, XE, _, s, r, q, fun x M1 Hb1 H1 v q1 f1 s1 r1 => ⟨Hb1, ρ, M1, XE, _, s1, r.mono f1.same, q1, fun y M2 Hb2 H2 u q2 f2 s2 r2 => ?_, kx.fr s1 f1⟩, kx⟩
  refine h2 x y M2 _ q2 Hb2 H2 v u _ s2 (r1.mono f2.same) r2 fun d M3 Hb3 H3 w q3 f3 s3 r3 => ?_
  dsimp only at q3
  split at q3
  · rename_i c
    cases (show w = V.bl c from r3)
    exact ⟨c, rfl, k c M3 Hb3 H3 q3 ((f1.trans s1 f2).trans s2 f3) s3⟩
  · exact q3.elim⟩
def xNot (tA : DTX) : DTX := fun XE ρ M Q => tA XE ρ M fun c M1 => Q (!c) M1
theorem tx_not {tA : DTX} (h : PTX X a tA) : PTX X (.UnaryOp .Not a pos) (xNot tA) := ⟨fun W tk => PT.imp (pt_not (h.run W tk)) fun σ H Q ⟨Hb, ρ, M, XE, QD, s, r, q, k, kx⟩ =>
  ⟨Hb, ρ, M, XE, _, s, r, q, fun c M1 Hb1 H1 h1 f1 s1 => k _ M1 Hb1 H1 h1 f1 s1, kx⟩⟩
end
/-! ### calls -/
def liftSpX (spx : SpX) : Sp := fun vs H Q E => ∃ Hb ds M QD XE, Sx Hb H M ∧ RepL Hb ds vs ∧ spx ds M QD XE ∧ OK Hb H M QD Q ∧ OKX Hb H M XE E
abbrev FnX (P : Program) (w : World) (K : PySem.W.Frag) (mg : Str → Option Value) (base : Heap) (k : Nat) (f : Addr) (fd : FuncData) (ps : List Str) (spx : SpX) : Prop := FnOk P w K mg base (L2.CX P w) k f fd ps (liftSpX spx)
section
variable {X : Cx} {e a b c o i : Expr} {es : List Expr} {kws : List Keyword} {pos apos kpos p : Pos} {ta tb : DEX} {da dk : DAX} {x m : Str} {k : Nat} {f C : Addr} {fd : FuncData} {ps ks : List Str} {spx : SpX}
def xCall (spx : SpX) (da : DAX) : DEX := fun XE ρ M Q => da XE ρ M fun ds M1 => spx ds M1 Q XE
theorem ex_call (F : FnX X.prog X.w X.K X.mg X.base k f fd ps spx) (hr : Room k X.A) (hg : Gl X x) (hm : X.mg x = some (.ref f)) (hk : PySem.W.keepIn X.K (.ref f) = true) (hb : Binds X.K fd ps []) (ha : PAX X (e :: es) da)
    (hdb : (x == ("__debug__" : Str)) = false := by decide) (he : starEach (e :: es) X.env = (false, eval e X.env) :: starEach es X.env := by rfl) (hpl : (backTo pos (starEach es X.env)).any (·.1) = false := by rfl) :
    PEX X (.Call (.Name x p) (e :: es) [] pos) (xCall spx da) := ⟨fun W tk => PE.imp (pe_callS F hr hg hm hk hb (fun σ => passAt tk σ) (ha.run W tk) hdb he hpl) fun σ H Q ⟨Hb, ρ, M, XE, QD, s, r, q, kk, kx⟩ =>
  ⟨Hb, ρ, M, XE, _, s, r, q, fun ds M1 Hb1 H1 vs q1 f1 s1 r1 => ⟨Hb1, ds, M1, QD, XE, s1, r1, q1, kk.fr s1 f1, kx.fr s1 f1⟩, kx⟩⟩
def tMethS (C : Addr) (m : Str) (sp : Sp) (E : L2.St → XK) (ta : TE) (t : TA) : TE := fun σ H Q => ta σ H fun x H1 => ∃ a dx fs, x = .ref a ∧ H1 a = some (.ins C dx fs) ∧ fs.lookup m = none ∧ t σ H1 fun vs H2 => sp (.ref a :: vs) H2 Q (E σ)
theorem pe_methS {CX : CXT} {E : L2.St → XK} {ta : TE} {t : TA} {sp : Sp} {pl : Sem Bool} (he : PE X o ta) (c : Cls X.K C) (hm : Meth X.K C m f) (F : FnOk X.prog X.w X.K X.mg X.base CX k f fd ps sp) (hr : Room k X.A) (hb : Binds X.K fd ps []) (hx : ∀ σ, PassesAt CX X σ (E σ)) (ha : PA X (e :: es) t)
    (hst : starEach (e :: es) X.env = (false, eval e X.env) :: starEach es X.env := by rfl) (hpl : (backTo pos (starEach es X.env)).any (·.1) = false := by rfl)
    (ht : eval (.Call (.Attribute o m apos) (e :: es) [] pos) X.env = (do
      let ov ← eval o X.env
      standAt apos.atName
      let (f, first) ← holding [ov] (getMethod ov m pl)
      callWith pos f first (backTo pos (starEach (e :: es) X.env)) (backToKw pos (keywordEach [] X.env))) := by rfl) :
    PE X (.Call (.Attribute o m apos) (e :: es) [] pos) (tMethS C m sp E ta t) := by
  refine ⟨fun pins s σ H Q I h => ?_⟩
  refine PySem.W.methodCall_KW (pl := pl) (thn (he.run pins s σ H _ I h) fun u s1 ⟨x, H1, I1, rx, a, dx, fs, ex, ea, l, q⟩ => ?_) ht
  subst ex
  obtain rfl : u = Value.ref a := rx
  refine getmeth_ok I1 ea c hm l ?_
  refine PySem.W.callWith_K (first := [.ref a]) (h₀ := X.base) I.ok.mod.kin hm.kp (thn (ha.run pos pins s1 σ H1 _ I1 q) fun us s2 ⟨vs, H2, I2, r, q2⟩ => ⟨I2.kIn, ?_⟩) hst hpl
  exact run_fnS (us := .ref a :: us) (vs := .ref a :: vs) F hr hb (hx σ) I2 (.cons rfl r) q2
def xMeth (C : Addr) (m : Str) (spx : SpX) (ta : DEX) (da : DAX) : DEX := fun XE ρ M Q => ta XE ρ M fun x M1 => match look M1 x with
  | some (.ins C' fs _) => C' = C ∧ m ∉ fs ∧ da XE ρ M1 fun ds M2 => spx (x :: ds) M2 Q XE
  | _ => False
theorem ex_meth {pl : Sem Bool} (ho : PEX X o ta) (c : Cls X.K C) (hm : Meth X.K C m f) (F : FnX X.prog X.w X.K X.mg X.base k f fd ps spx) (hr : Room k X.A) (hb : Binds X.K fd ps []) (ha : PAX X (e :: es) da)
    (hst : starEach (e :: es) X.env = (false, eval e X.env) :: starEach es X.env := by rfl) (hpl : (backTo pos (starEach es X.env)).any (·.1) = false := by rfl)
    (ht : eval (.Call (.Attribute o m apos) (e :: es) [] pos) X.env = (do
      let ov ← eval o X.env
      standAt apos.atName
      let (f, first) ← holding [ov] (getMethod ov m pl)
      callWith pos f first (backTo pos (starEach (e :: es) X.env)) (backToKw pos (keywordEach [] X.env))) := by rfl) :
    PEX X (.Call (.Attribute o m apos) (e :: es) [] pos) (xMeth C m spx ta da) := ⟨fun W tk => PE.imp (pe_methS (ho.run W tk) c hm F hr hb (fun σ => passAt tk σ) (ha.run W tk) hst hpl ht) fun σ H Q ⟨Hb, ρ, M, XE, QD, s, r, q, kk, kx⟩ =>
  ⟨Hb, ρ, M, XE, _, s, r, q, fun x M1 Hb1 H1 v q1 f1 s1 r1 => by
    dsimp only at q1
    split at q1
    · rename_i C' fs ds' e1
      obtain ⟨rfl, hm', q1⟩ := q1
      obtain ⟨a, dx, ws, rfl, ha', _, _⟩ := look_ins s1 r1 e1
      exact ⟨a, dx, _, rfl, ha', look_zip hm', Hb1, ρ, M1, XE, _, s1, r.mono f1.same, q1, fun ds M2 Hb2 H2 vs q2 f2 s2 r2 => ⟨Hb2, x :: ds, M2, QD, XE, s2, ⟨_, _, rfl, r1.mono f2.same, r2⟩, q2, kk.fr s2 (f1.trans s1 f2), kx.fr s2 (f1.trans s1 f2)⟩, kx.fr s1 f1⟩
    · exact q1.elim, kx⟩⟩
theorem run_kwS {CX : CXT} {n : Nat} {E : XK} {gV : List V → List V → List V} {g : List Value → List Value → List Value} {sp : Sp} {pins : List (Addr × Obj)} {σ : L2.St} {H : Hp} {s : Shared} {Q : VK} {us ws : List Value} {vs zs : List V} (F : FnOk X.prog X.w X.K X.mg X.base CX k f fd ps sp) (hr : Room k X.A) (hb : KBn X.K fd ps n ks g gV) (hx : PassesAt CX X σ E)
    (I : Inv X pins σ H s) (r : Vals vs us) (rz : Vals zs ws) (l1 : vs.length = n) (l2 : zs.length = ks.length) (h : sp (gV vs zs) H Q E) : wpAny (model X.prog X.w) X.A (call (.ref f) us (ks.zip ws)) (EP X pins σ Q) X.xe s := by
  have r2 := hb.rel r rz
  refine wpAny_call (codeAny_mono (F.run X.A X.stack s H ⟨us, ks.zip ws⟩ (g us ws) (gV vs zs) Q E hr I.env0 (hb.to s us ws I.kIn (r.length.symm.trans l1) (rz.length.symm.trans l2)) r2 h) fun r s' hq => ?_)
  cases r with
  | error e => exact hx pins H s e s' I hq
  | ok fl =>
    cases fl with
    | ret u => exact I.after hq
    | next => exact False.elim hq
    | brk => exact False.elim hq
    | cont => exact False.elim hq
def tMethKS (C : Addr) (m : Str) (nk : Nat) (sp : Sp) (gV : List V → List V → List V) (E : L2.St → XK) (ta : TE) (tk : TA) : TE := fun σ H Q => ta σ H fun x H1 => ∃ a dx fs, x = .ref a ∧ H1 a = some (.ins C dx fs) ∧ fs.lookup m = none ∧
  tk σ H1 fun zs H2 => zs.length = nk ∧ sp (gV [x] zs) H2 Q (E σ)
theorem pe_methKS {CX : CXT} {E : L2.St → XK} {t1 : TE} {tk : TA} {g : List Value → List Value → List Value} {gV : List V → List V → List V} {sp : Sp} {pl : Sem Bool} (he : PE X o t1) (c : Cls X.K C) (hm : Meth X.K C m f) (F : FnOk X.prog X.w X.K X.mg X.base CX k f fd ps sp) (hr : Room k X.A) (hb : KBn X.K fd ps 1 ks g gV) (hx : ∀ σ, PassesAt CX X σ (E σ)) (hkw : PK X kws tk)
    (hall : (backToKw pos (keywordEach kws X.env)).all (·.1.isSome) = true := by rfl) (hks : (backToKw pos (keywordEach kws X.env)).filterMap (·.1) = ks := by rfl)
    (hpl : ((backTo pos (starEach [] X.env)).any (·.1) || (backToKw pos (keywordEach kws X.env)).any (·.1.isNone)) = false := by rfl)
    (ht : eval (.Call (.Attribute o m apos) [] kws pos) X.env = (do
      let ov ← eval o X.env
      standAt apos.atName
      let (f, first) ← holding [ov] (getMethod ov m pl)
      callWith pos f first (backTo pos (starEach [] X.env)) (backToKw pos (keywordEach kws X.env))) := by rfl) :
    PE X (.Call (.Attribute o m apos) [] kws pos) (tMethKS C m ks.length sp gV E t1 tk) := by
  refine ⟨fun pins s σ H Q I h => ?_⟩
  refine PySem.W.methodCall_KW (pl := pl) (thn (he.run pins s σ H _ I h) fun u s1 ⟨x, H1, I1, rx, a, dx, fs, ex, ea, l, q⟩ => ?_) ht
  subst ex
  obtain rfl : u = Value.ref a := rx
  refine getmeth_ok I1 ea c hm l ?_
  refine PySem.W.callWith_KW0 (first := [.ref a]) (h₀ := X.base) I.ok.mod.kin hm.kp hall (thn (hkw.run pos pins s1 σ H1 _ I1 q) fun ws s2 ⟨zs, H2, I2, r, l2, q2⟩ => ⟨I2.kIn, ?_⟩) hpl
  rw [hks]
  exact run_kwS (us := [.ref a]) (vs := [.ref a]) F hr hb (hx σ) I2 (.cons rfl .nil) r rfl l2 q2
def xMethK (C : Addr) (m : Str) (nk : Nat) (spx : SpX) (gD : List D → List D → List D) (ta : DEX) (dk : DAX) : DEX := fun XE ρ M Q => ta XE ρ M fun x M1 => match look M1 x with
  | some (.ins C' fs _) => C' = C ∧ m ∉ fs ∧ dk XE ρ M1 fun zs M2 => zs.length = nk ∧ spx (gD [x] zs) M2 Q XE
  | _ => False
theorem ex_methK {gD : List D → List D → List D} {pl : Sem Bool} (ho : PEX X o ta) (c : Cls X.K C) (hm : Meth X.K C m f) (F : FnX X.prog X.w X.K X.mg X.base k f fd ps spx) (hr : Room k X.A) (hb : KBD X.K fd ps 1 ks gD) (hkw : PKX X kws dk)
    (hall : (backToKw pos (keywordEach kws X.env)).all (·.1.isSome) = true := by rfl) (hks : (backToKw pos (keywordEach kws X.env)).filterMap (·.1) = ks := by rfl)
    (hpl : ((backTo pos (starEach [] X.env)).any (·.1) || (backToKw pos (keywordEach kws X.env)).any (·.1.isNone)) = false := by rfl)
    (ht : eval (.Call (.Attribute o m apos) [] kws pos) X.env = (do
      let ov ← eval o X.env
      standAt apos.atName
      let (f, first) ← holding [ov] (getMethod ov m pl)
      callWith pos f first (backTo pos (starEach [] X.env)) (backToKw pos (keywordEach kws X.env))) := by rfl) :
    PEX X (.Call (.Attribute o m apos) [] kws pos) (xMethK C m ks.length spx gD ta dk) := ⟨fun W tk => by
  obtain ⟨⟨g, gV, h1, h2⟩⟩ := hb
  refine PE.imp (pe_methKS (ho.run W tk) c hm F hr h1 (fun σ => passAt tk σ) (hkw.run W tk) hall hks hpl ht) fun σ H Q ⟨Hb, ρ, M, XE, QD, s, r, q, kk, kx⟩ => ?_
  refine ⟨Hb, ρ, M, XE, _, s, r, q, fun x M1 Hb1 H1 v q1 f1 s1 r1 => ?_, kx⟩
  dsimp only at q1
  split at q1
  · rename_i C' fs ds' e1
    obtain ⟨rfl, hm', q1⟩ := q1
    obtain ⟨a, dx, ws, rfl, ha', _, _⟩ := look_ins s1 r1 e1
    exact ⟨a, dx, _, rfl, ha', look_zip hm', Hb1, ρ, M1, XE, _, s1, r.mono f1.same, q1, fun zs M2 Hb2 H2 vs q2 f2 s2 r2 => ⟨by rw [← r2.length]; exact q2.1, Hb2, gD [x] zs, M2, QD, XE, s2, h2 Hb2 _ _ _ _ (RepL.one (r1.mono f2.same)) r2, q2.2, kk.fr s2 (f1.trans s1 f2), kx.fr s2 (f1.trans s1 f2)⟩, kx.fr s1 f1⟩
  · exact q1.elim⟩
end
end DL

/-! part DX2 -/
set_option maxHeartbeats 0
namespace DL
open PySem PySem.Spec PyProof.Rows L2
/-! ### statements -/
section
variable {X : Cx} {e a b c o i : Expr} {es : List Expr} {pos p : Pos} {ta tb : DEX} {tA : DTX} {da dk : DAX} {x : Str} {st : Stmt} {sts rest ths els : List Stmt} {t u : DSX} {g : DG}
def xSeq (t u : DSX) : DSX := fun XE P ρ M => t XE { P with nx := fun ρ' M' => u XE P ρ' M' } ρ M
theorem ssx_nil : PSsX X [] (fun _ => dNext) := ssx_of dss_nil
theorem ssx_cons (h1 : PSX X st t) (h2 : PSsX X rest u) : PSsX X (st :: rest) (xSeq t u) := ⟨fun W tk => PSs.imp (pss_cons (h1.run W tk) (h2.run W tk)) fun D σ H ⟨Hb, ρ, M, XE, P, s, r, q, k, kx⟩ =>
  ⟨Hb, ρ, M, XE, _, s, r, q, ⟨fun ρ' M' Hb' σ' H' q' f s' r' => ⟨Hb', ρ', M', XE, P, s', r', q', k.fr s' f, kx.fr s' f⟩, k.rt, k.bk, k.ct⟩, kx⟩⟩
def xDrop (ta : DEX) : DSX := fun XE P ρ M => ta (XE ρ) ρ M fun _ M1 => P.nx ρ M1
theorem sx_expr (h : PEX X e ta) (hs : swapsWith e none pos.line X.env = pure false := by rfl) : PSX X (.Expr e pos) (xDrop ta) := ⟨fun W tk => PS.imp (ps_expr (h.run W tk) hs) fun D σ H ⟨Hb, ρ, M, XE, P, s, r, q, k, kx⟩ =>
  ⟨Hb, ρ, M, XE ρ, _, s, r, q, fun d M' Hb' H' v q f s' r' => k.nx _ _ _ _ _ q f s' (r.mono f.same), kx.at r⟩⟩
def xRet (ta : DEX) : DSX := fun XE P ρ M => ta (XE ρ) ρ M P.rt
theorem sx_ret (h : PEX X e ta) : PSX X (.Return (some e) pos) (xRet ta) := ⟨fun W tk => PS.imp (ps_ret (h.run W tk)) fun D σ H ⟨Hb, ρ, M, XE, P, s, r, q, k, kx⟩ =>
  ⟨Hb, ρ, M, XE ρ, _, s, r, q, k.rt, kx.at r⟩⟩
def xIfS (c : DTX) (t u : DSX) : DSX := fun XE P ρ M => c (XE ρ) ρ M fun b M1 => dIte b (t XE P ρ M1) (u XE P ρ M1)
theorem sx_if (hc : PTX X c tA) (ha : PSsX X ths t) (hb : PSsX X els u) : PSX X (.If c ths els pos) (xIfS tA t u) := ⟨fun W tk => PS.imp (ps_if (hc.run W tk) (ha.run W tk) (hb.run W tk)) fun D σ H ⟨Hb, ρ, M, XE, P, s, r, q, k, kx⟩ =>
  ⟨Hb, ρ, M, XE ρ, _, s, r, q, fun b M1 Hb1 H1 h1 f1 s1 => by
    cases b with
    | true => exact ite_tt ⟨Hb1, ρ, M1, XE, P, s1, r.mono f1.same, h1.1 rfl, k.fr s1 f1, kx.fr s1 f1⟩
    | false => exact ite_ff ⟨Hb1, ρ, M1, XE, P, s1, r.mono f1.same, h1.2 rfl, k.fr s1 f1, kx.fr s1 f1⟩, kx.at r⟩⟩
def xAsg (ta : DEX) (g : DG) : DSX := fun XE P ρ M => ta (XE ρ) ρ M fun x M1 => g x ρ M1 P.nx
theorem snd_xasg {W : WX} {g1 : TG} (h2 : SndG g1 g) {D : Ends} {σ : L2.St} {H : Hp} (h : canS (xAsg ta g) W D σ H) : tAsg (canE ta W) g1 D σ H := by
  obtain ⟨Hb, ρ, M, XE, P, s, r, q, k, kx⟩ := h
  exact ⟨Hb, ρ, M, XE ρ, _, s, r, q, fun d M' Hb' H' v q f s' r' => h2 d ρ M' _ q Hb' σ H' v _ s' (r.mono f.same) r' (k.nx.fr s' f), kx.at r⟩
theorem sx_asg {tg : Expr} (h1 : PEX X e ta) (h2 : PGD X tg g) (hs : swapsWithSole [tg] e pos.line X.env = pure false := by rfl) (hw : swappedStores [tg] e X.env = pure none := by rfl)
    (h1' : (assignEach [tg] X.env).map (·.2) = [assign tg X.env] := by rfl) : PSX X (.Assign [tg] e pos) (xAsg ta g) := ⟨fun W tk => by
  obtain ⟨⟨t2, a2, b2⟩⟩ := h2
  exact PS.imp (ps_asg (h1.run W tk) a2 hs hw h1') fun D σ H h => snd_xasg b2 h⟩
theorem sx_set {i : Nat} {x : Str} {pos' : Pos} (hN : X.N.Nodup) (h1 : PEX X e ta) (hi : X.N[i]? = some x := by rfl) (hx : Loc X.env.scope x := by first | exact Or.inl rfl | exact Or.inr rfl)
    (hs : swapsWith e (some (.Name x pos')) pos.line X.env = pure false := by rfl) (hf : X.fn x = true ∨ X.env.scope.names.lookup x = some .local := by first | exact .inl rfl | exact .inr rfl) :
    PSX X (.Assign [.Name x pos'] e pos) (xAsg ta (dName i)) := ⟨fun W tk => PS.imp (ps_set hN hi hx (h1.run W tk) hs hf) fun D σ H h => snd_xasg (snd_name i) h⟩
/-! raise C(e, ..) -/
def xRaise (C : Addr) (n : Nat) (fs : List Str) (fl : List D → List D) (da : DAX) : DSX := fun XE P ρ M => da (XE ρ) ρ M fun ds M1 => ds.length = n ∧ XE ρ C fs (fl ds) M1
/-- how an exception class makes its instances: the fields in values and in data -/
structure MkX (K : PySem.W.Frag) (P : Program) (w : World) (mg : Str → Option Value) (base : Heap) (C : Addr) (n : Nat) (fs : List Str) (fl : List D → List D) : Prop where
  ex : ∃ B newId initId bmB fI k fd ps flV, DX.OwnX K C B newId initId bmB ∧ PySem.W.findIn K (.ref C) "__init__" = some (some (.ref fI)) ∧ PySem.W.typeIn K (.ref fI) = some (.type "function") ∧
    n ≤ 900 ∧ k ≤ 1 ∧ FnOk P w K mg base CX0 k fI fd ps (DX.xInit C n flV) ∧ Binds K fd ps [] ∧
    ∀ Hb ds vs, ds.length = n → RepL Hb ds vs → ∃ ws, flV vs = fs.zip ws ∧ fs.length = (fl ds).length ∧ RepL Hb (fl ds) ws
theorem Sx.xdict {Hb H : Hp} {M : Mp} (s : Sx Hb H M) {p : Addr} {o : HO} (h : H p = none) : Sx (upd Hb p o) (upd H p o) M ∧ Fr Hb H M (upd Hb p o) (upd H p o) M := s.frozen h
theorem sx_raise {C : Addr} {n : Nat} {fs : List Str} {fl : List D → List D} {kk : Nat} (hc : X.calm = true) (T : MkX X.K X.prog X.w X.mg X.base C n fs fl) (hr : Room (kk + 2) X.A) (hg : Gl X x) (hm : X.mg x = some (.ref C)) (ha : PAX X (e :: es) da)
    {p2 : Pos} (hdb : (x == ("__debug__" : Str)) = false := by decide) (he : starEach (e :: es) X.env = (false, eval e X.env) :: starEach es X.env := by rfl) (hpl : (backTo pos (starEach es X.env)).any (·.1) = false := by rfl) :
    PSX X (.Raise (some (.Call (.Name x p) (e :: es) [] pos)) none p2) (xRaise C n fs fl da) := ⟨fun W tk => by
  obtain ⟨B, newId, initId, bmB, fI, k, fd, ps, flV, T1, iC, tI, n9, k1, F, hb, hfl⟩ := T.ex
  refine PS.imp (ps_raise hc tk (DX.pmk_x T1 iC tI n9 F (hr.mono (by omega)) hb hg hm (ha.run W tk) hdb he hpl)) fun D σ H ⟨Hb, ρ, M, XE, P, s, r, q, k, kx⟩ => ?_
  refine ⟨Hb, ρ, M, XE ρ, _, s, r, q, fun ds M1 Hb1 H1 vs q1 f1 s1 r1 => ⟨by rw [← r1.length]; exact q1.1, fun dx hdx => ?_⟩, kx.at r⟩
  obtain ⟨ws, e1, e2, r2⟩ := hfl Hb1 ds vs q1.1 r1
  obtain ⟨s2, f2⟩ := s1.frozen (o := .xd (flV vs)) hdx
  exact kx C dx fs (fl ds) ρ M1 _ σ _ q1.2 (f1.trans s1 f2) s2 ((r.mono f1.same).mono f2.same) fun a => ⟨rfl, ws, by rw [upd_same, e1], e2, r2.mono f2.same⟩⟩
end
/-! ### defs -/
def endsX (Q : DK) : DEnds := endsD Q
def exX (XE : XD) : XS := fun _ C fs ds M' => ∃ M0, SubM M0 M' ∧ XE C fs ds M0
section
variable {P : Program} {w : World} {K : PySem.W.Frag} {mg : Str → Option Value} {base : Heap}
theorem okX {x qual : Str} {st : Stmt} {dvs : List V} {kws : List (Str × V)} {f : Addr} {fd : FuncData} {N ps : List Str} {k : Nat} {spx : SpX} {td : DSX} (F : FunD K x qual (defArgs st) (defBody st) (defScope st) dvs kws f fd) (S : FnScope N ps (defScope st)) (len : ∀ ds M Q XE, spx ds M Q XE → ds.length = ps.length)
    (hb : ∀ (cdv : Value) (A : Around) (outer : List PySem.Env) (s : Shared) (H : Hp) (E : XK), Room k (A.deeper (envOfC qual (defScope st) s.heap.objs.size f cdv)) →
      PSsX (cxOf (L2.CX P w) P w K mg base N qual (defScope st) f cdv A outer s H E) (defBody st) td)
    (hr : ∀ ds M Q XE, spx ds M Q XE → td (exX XE) (endsD Q) (startD N ds) M) : FnX P w K mg base (k + 1) f fd ps spx := by
  refine F.ok S (fun vs H Q E h => ?_) (fun cdv A outer s H vs Q E hroom h => ?_)
  · obtain ⟨Hb, ds, M, QD, XE, s, r, h1, _⟩ := h
    rw [← r.length]
    exact len ds M QD XE h1
  · obtain ⟨Hb, ds, M, QD, XE, s1, r, h1, k1, kx⟩ := h
    refine ⟨_, (hb cdv A outer s H E hroom).run (fun cls d _ H => E cls d H) (takes_of rfl rfl rfl rfl), Hb, _, M, exX XE, _, s1, start_env r, hr ds M QD XE h1, ⟨fun ρ' M' Hb' σ' H' q f s' r' => ?_, fun d M' Hb' H' v q f s' r' => ?_, fun ρ' M' Hb' σ' H' q f s' r' => q.elim, fun ρ' M' Hb' σ' H' q f s' r' => q.elim⟩, fun C dd fs ds' ρ' M' Hb' σ' H' q f s' r' rx => ?_⟩
    · obtain ⟨M0, h0, q0⟩ := q
      obtain ⟨s2, f2⟩ := s'.weak h0
      exact k1 .non M0 Hb' H' .non q0 (f.trans s' f2) s2 rfl
    · obtain ⟨M0, h0, q0⟩ := q
      obtain ⟨s2, f2⟩ := s'.weak h0
      exact k1 d M0 Hb' H' v q0 (f.trans s' f2) s2 r'
    · obtain ⟨M0, h0, q0⟩ := q
      obtain ⟨s2, f2⟩ := s'.weak h0
      exact kx C dd fs ds' M0 Hb' H' q0 (f.trans s' f2) s2 rx
/-- a def that raises nothing -/
theorem FnD.x {k : Nat} {f : Addr} {fd : FuncData} {ps : List Str} {spd : SpD} (F : FnD P w K mg base k f fd ps spd) : FnX P w K mg base k f fd ps (fun ds M Q _ => spd ds M Q) :=
  ⟨fun vs H Q E ⟨Hb, ds, M, QD, XE, s, r, h, k1, _⟩ => F.len vs H Q E ⟨Hb, ds, M, QD, s, r, h, k1⟩, fun A outer s H args us vs Q E hr he hb hv ⟨Hb, ds, M, QD, XE, s1, r, h, k1, _⟩ =>
    codeAny_mono (F.run A outer s H args us vs Q E hr he hb hv ⟨Hb, ds, M, QD, s1, r, h, k1⟩) fun rr s' q => by
      cases rr with
      | error e => exact False.elim q
      | ok fl =>
        cases fl with
        | ret u => exact q
        | next => exact q
        | brk => exact q
        | cont => exact q⟩
end
/-! ### try -/
abbrev Hd := (Addr → Bool → Prop) × Nat × (Addr → Value → Option Addr → DS)
def endsU (i : Nat) (P : DEnds) : DEnds := ⟨fun ρ M => P.nx (ρ.set i none) M, P.rt, fun ρ M => P.bk (ρ.set i none) M, fun ρ M => P.ct (ρ.set i none) M⟩
def dMany (XE : XS) (P : DEnds) : List Hd → XS
  | [] => XE
  | (tst, i, ts) :: r => fun ρ C fs ds M => ∃ b, tst C b ∧ (b = true → ∀ a dd, ts a (.ref C) (some dd) (endsU i P) (ρ.set i (some (.exc a C dd fs ds))) M) ∧ (b = false → dMany XE P r ρ C fs ds M)
def xTry (tb : DSX) (l : List Hd) : DSX := fun XE P ρ M => tb (dMany XE P l) P ρ M
inductive HdsX (X : Cx) : List ExceptHandler → List Hd → Prop
  | nil : HdsX X [] []
  | cons {x n : Str} {i : Nat} {c : Value} {tst : Addr → Bool → Prop} {ts : Addr → Value → Option Addr → DS} {b₀ : Stmt} {suite : List Stmt} {np pos' : Pos} {hds : List ExceptHandler} {l : List Hd} (hi : X.N[i]? = some n) (hln : X.env.kindOf n = some .local) (hc : Names X x c)
      (ht : ∀ C b, tst C b → PySem.W.exmOne X.K (.ref C) c = some b)
      (hsu : ∀ (a : Addr) (oe : Obj) (cls : Value) (d : Option Addr) (pn : List (Addr × Obj)), Zc cls d oe → (∃ vs, oe.data = .fields vs) → PSsD (X.suite a ((a, oe) :: pn)) (b₀ :: suite) (ts a cls d)) (r : HdsX X hds l) :
      HdsX X (.ExceptHandler (some (.Name x np)) (some n) (b₀ :: suite) pos' :: hds) ((tst, i, ts) :: l)
theorem HdsX.can {X : Cx} {hds : List ExceptHandler} {l : List Hd} (h : HdsX X hds l) : ∃ l' : List (Value × Nat × (Addr → Value → Option Addr → TS)), DX.HdsA X hds l' ∧
    ∀ W D Hb H M XE P, OKE Hb H M P D → OKXS Hb H M XE W → OKXS Hb H M (dMany XE P l) (DX.wManyA X.K W D l') := by
  induction h with
  | nil => exact ⟨[], .nil, fun W D Hb H M XE P k kx => kx⟩
  | @cons x n i c tst ts b₀ suite np pos' hds l hi hln hc ht hsu r ih =>
    obtain ⟨l', a1, a2⟩ := ih
    refine ⟨(c, i, fun a cls d => canS0 (ts a cls d)) :: l', .cons hi hln hc (fun a oe cls d pn hz hf => (hsu a oe cls d pn hz hf).can) a1, fun W D Hb H M XE P k kx => ?_⟩
    intro C dd fs ds ρ' M' Hb' σ' H' q f s' r' rx
    obtain ⟨b, h1, h2, h3⟩ := q
    refine ⟨b, ht C b h1, fun e a na => ?_, fun e => a2 W D Hb H M XE P k kx C dd fs ds ρ' M' Hb' σ' H' (h3 e) f s' r' rx⟩
    refine ⟨Hb', _, M', _, s', EnvR.set i r' (rx a), h2 e a dd, ⟨fun ρ2 M2 Hb2 σ2 H2 q2 f2 s2 r2 => ?_, fun d M2 Hb2 H2 v q2 f2 s2 r2 => ?_, fun ρ2 M2 Hb2 σ2 H2 q2 f2 s2 r2 => ?_, fun ρ2 M2 Hb2 σ2 H2 q2 f2 s2 r2 => ?_⟩⟩
    · exact k.nx _ _ _ _ _ q2 (f.trans s' f2) s2 (r2.unset i)
    · exact k.rt _ _ _ _ _ q2 (f.trans s' f2) s2 r2
    · exact k.bk _ _ _ _ _ q2 (f.trans s' f2) s2 (r2.unset i)
    · exact k.ct _ _ _ _ _ q2 (f.trans s' f2) s2 (r2.unset i)
section
variable {X : Cx} {body : List Stmt} {h₀ : ExceptHandler} {hds : List ExceptHandler} {l : List Hd} {pos : Pos} {tb : DSX}
theorem sx_try (hs : X.stack = X.env :: X.outer) (hf : X.env.frame = some X.env.locals) (hN : X.N.Nodup)
    (hb : ∀ (pn : List (Addr × Obj)) (xe : Value → Shared → Prop), PassesOwn (model X.prog X.w) X.A X.env xe → PSsX (X.tr pn xe) body tb)
    (hh : HdsX X (h₀ :: hds) l) : PSX X (.Try body (h₀ :: hds) [] [] pos) (xTry tb l) := ⟨fun W tk => by
  obtain ⟨l', a1, a2⟩ := hh.can
  refine PS.imp (DX.ps_try_many_as hs hf hN tk (fun W' pn xe tk' po => (hb pn xe po).run W' tk') a1) fun D σ H ⟨Hb, ρ, M, XE, P, s, r, q, k, kx⟩ => ?_
  exact ⟨Hb, ρ, M, dMany XE P l, P, s, r, q, k, a2 W D Hb H M XE P k kx⟩⟩
/-- where no exception is let out: as a statement that raises nothing -/
theorem sd_try (hs : X.stack = X.env :: X.outer) (hf : X.env.frame = some X.env.locals) (hN : X.N.Nodup)
    (hb : ∀ (pn : List (Addr × Obj)) (xe : Value → Shared → Prop), PassesOwn (model X.prog X.w) X.A X.env xe → PSsX (X.tr pn xe) body tb)
    (hh : HdsX X (h₀ :: hds) l) : PSD X (.Try body (h₀ :: hds) [] [] pos) (fun P ρ M => xTry tb l (fun _ _ _ _ _ => False) P ρ M) := by
  have h := (sx_try (pos := pos) hs hf hN hb hh).run (fun _ _ _ _ => False) takes_none5
  exact ⟨⟨_, h, fun P ρ M q Hb σ H E s r k => ⟨Hb, ρ, M, _, P, s, r, q, k, fun C dd fs ds ρ' M' Hb' σ' H' z _ _ _ _ => z.elim⟩⟩⟩
end
/-! ### in an except suite -/
section
variable {X : Cx} {a : Addr} {oe : Obj} {cls : Value} {d : Option Addr} {pn : List (Addr × Obj)} {e : Expr} {te : DE} {pos : Pos} {n : Str}
/-- e.f -/
def dXf (a : Addr) (cls : Value) (d : Option Addr) (ok : Addr → Prop) (n : Str) (te : DE) : DE := fun ρ M Q => te ρ M fun x M1 => match x with
  | .exc a' C dd fs ds => a' = a ∧ cls = .ref C ∧ d = some dd ∧ ok C ∧ ∃ v, fldD fs ds n = some v ∧ Q v M1
  | _ => False
def tXf2 (a : Addr) (cls : Value) (d : Option Addr) (ok : Addr → Prop) (f : Str) (te : TE) : TE := fun σ H Q => te σ H fun x H1 => x = .ref a ∧ ∃ C, ok C ∧ cls = .ref C ∧ ∃ (dd : Addr) (fs : List (Str × V)) (v : V), d = some dd ∧ H1 dd = some (.xd fs) ∧ fs.lookup f = some v ∧ Q v H1
theorem pe_xf2 {ok : Addr → Prop} {te : TE} (T : ∀ C, ok C → XfC X.K C ∧ PySem.W.findIn X.K (.ref C) n = some none)
    (hz : Zc cls d oe) (hf : ∃ vs, oe.data = .fields vs) (he : PE (X.suite a ((a, oe) :: pn)) e te) (hb : attributeBase e n X.env (eval e X.env) = eval e X.env := by rfl) :
    PE (X.suite a ((a, oe) :: pn)) (.Attribute e n pos) (tXf2 a cls d ok n te) := by
  refine ⟨fun pins s σ H Q I h => ?_⟩
  refine attr_of hb (thn (he.run pins s σ H _ I h) fun u s1 hh => ?_)
  obtain ⟨x, H1, I1, rx, ex, C, hC, ec, dd, fs, v, ed, ea, l, q⟩ := hh
  obtain ⟨T1, hno⟩ := T C hC
  subst ex
  obtain rfl : u = Value.ref a := rx
  subst ec
  subst ed
  obtain ⟨ha, _⟩ := I1.pin (a, oe) (List.mem_append_left _ List.mem_cons_self)
  obtain ⟨vs, hd⟩ := hf
  have hx : ObjOk X.prog X.w H1 s1.heap dd (.xd fs) := I1.hok dd _ ea
  obtain ⟨mA, hns, hr⟩ := hx
  obtain ⟨od, ho, hl⟩ := lookIn_ns hns
  obtain ⟨u, hu, ru⟩ := RelO.some_of (v := v) (o := mA n) (by rw [← l]; exact hr n)
  have J : PySem.W.InstAt s1.heap a oe C (some od) := ⟨ha, hz.1, by unfold PySem.W.notCls; rw [hd] <;> rfl, by rw [hz.2]; exact ho⟩
  exact HandSPX.exc_get I1.kIn J T1.ga T1.gg T1.exC (PySem.W.findObj_own T1.hdC hno rfl (by rw [hl, hu])) (handed_of ru) ⟨v, H1, I1.tok _, ru, q⟩
theorem exc_at {Hb H : Hp} {M : Mp} (s : Sx Hb H M) {a C dd : Addr} {fs : List Str} {ds : List D} {v : V} (r : Rep Hb (.exc a C dd fs ds) v) : v = V.ref a ∧ ∃ vs, H dd = some (.xd (fs.zip vs)) ∧ fs.length = ds.length ∧ RepL Hb ds vs := by
  obtain ⟨h1, vs, h2, h3, h4⟩ := r
  refine ⟨h1, vs, ?_, h3, h4⟩
  rcases s.le dd _ h2 with z | ⟨_, _, z, _⟩
  · exact z
  · cases z
theorem de_xf {ok : Addr → Prop} (T : ∀ C, ok C → XfC X.K C ∧ PySem.W.findIn X.K (.ref C) n = some none) (hz : Zc cls d oe) (hf : ∃ vs, oe.data = .fields vs) (he : PED (X.suite a ((a, oe) :: pn)) e te)
    (hb : attributeBase e n X.env (eval e X.env) = eval e X.env := by rfl) : PED (X.suite a ((a, oe) :: pn)) (.Attribute e n pos) (dXf a cls d ok n te) := by
  obtain ⟨⟨t, a1, b1⟩⟩ := he
  refine ⟨⟨_, pe_xf2 T hz hf a1 hb, fun ρ M QD q Hb σ H Q s r k => b1 ρ M _ q Hb σ H _ s r fun x M1 Hb1 H1 v q1 f1 s1 r1 => ?_⟩⟩
  dsimp only at q1
  split at q1
  · rename_i a' C dd fs ds
    obtain ⟨rfl, ec, ed, hC, dv, e1, q2⟩ := q1
    obtain ⟨rfl, vs, h2, h3, h4⟩ := exc_at s1 r1
    obtain ⟨w, h5, h6⟩ := fld_look h4 e1
    exact ⟨rfl, C, hC, ec, dd, _, w, ed, h2, h5, k dv M1 Hb1 H1 w q2 f1 s1 h6⟩
  · exact q1.elim
/-- isinstance(e, T) of the caught exception -/
def rIsX (K : PySem.W.Frag) (a : Addr) (cls : Value) (d : Option Addr) (ok : Addr → V → Bool → Prop) : List V → Hp → VK → Prop := fun xs H Q => ∃ (C dd : Addr) (fs : List (Str × V)) (c : V) (b : Bool), xs = [.ref a, c] ∧ cls = .ref C ∧ d = some dd ∧ H dd = some (.xd fs) ∧ ok C c b ∧ Q (.bl b) H
theorem call_isX {ok : Addr → V → Bool → Prop} (T : ∀ C c b, ok C c b → ExcC X.K C ∧ ∃ cv, (∀ u, RelV c u → u = cv) ∧ PySem.W.kitOne X.K (.ref C) cv = some b) (hz : Zc cls d oe) (hf : ∃ vs, oe.data = .fields vs) : CallR (X.suite a ((a, oe) :: pn)) (.builtin "isinstance") (rIsX X.K a cls d ok) := by
  intro pins s σ H xs us Q I r h
  obtain ⟨C, dd, fs, c, b, rfl, rfl, rfl, ea, hok, q⟩ := h
  obtain ⟨E, cv, hcv, e⟩ := T C c b hok
  cases r with
  | cons rx rr =>
    cases rr with
    | cons rt rr =>
      cases rr
      cases rx
      have ec := hcv _ rt
      subst ec
      obtain ⟨hget, _⟩ := I.pin (a, oe) (List.mem_append.mpr (.inl List.mem_cons_self))
      obtain ⟨vs, hv⟩ := hf
      have hx : ObjOk X.prog X.w H s.heap dd (.xd fs) := I.hok dd _ ea
      obtain ⟨mA, hns, hr⟩ := hx
      obtain ⟨od, ho, hl⟩ := lookIn_ns hns
      have J : PySem.W.InstAt s.heap a oe C (some od) := ⟨hget, hz.1, by unfold PySem.W.notCls; rw [hv] <;> rfl, by rw [hz.2]; exact ho⟩
      have hcl : (PySem.W.clsIn X.K C).isSome = true := by
        obtain ⟨cd, hc, _⟩ := PySem.W.any_some E.hd
        rw [hc]; rfl
      exact PySem.W.kia_one (PySem.W.kitx_exc (od := some od) hcl E.hg E.hk E.hs E.ha E.hn E.ht E.hm) I.kIn J e (fun z => nomatch z) fun tk => ⟨.bl b, H, I.kept (t' := tk) fun _ _ z => z, rfl, q⟩
/-- how a class may stand as a datum -/
def valOf : D → Option V
  | .ty n => some (.ty n)
  | .cell p => some (.ref p)
  | _ => none
def cIsX (a : Addr) (cls : Value) (d : Option Addr) (ok : Addr → D → Bool → Prop) : DCl := fun xs M Q => match xs with
  | [.exc a' C dd _ _, c] => a' = a ∧ cls = .ref C ∧ d = some dd ∧ ∃ b, ok C c b ∧ Q (.bl b) M
  | _ => False
theorem c_isX {ok : Addr → D → Bool → Prop} (T : ∀ C c b, ok C c b → ∃ v, valOf c = some v ∧ ExcC X.K C ∧ ∃ cv, (∀ u, RelV v u → u = cv) ∧ PySem.W.kitOne X.K (.ref C) cv = some b) (hz : Zc cls d oe) (hf : ∃ vs, oe.data = .fields vs) :
    ClD (X.suite a ((a, oe) :: pn)) (.builtin "isinstance") (cIsX a cls d ok) :=
  ⟨⟨_, call_isX (ok := fun C v b => ∃ c, valOf c = some v ∧ ok C c b) (fun C v b ⟨c, e, h⟩ => by
      obtain ⟨v', e', h1, h2⟩ := T C c b h
      rw [e] at e'
      cases e'
      exact ⟨h1, h2⟩) hz hf, fun xs M QD h Hb H vs Q s r k => by
    unfold cIsX at h
    split at h
    · rename_i a' C dd fs ds c
      obtain ⟨rfl, ec, ed, b, hb, q⟩ := h
      obtain ⟨v0, vr, rfl, r0, v1, vr1, rfl, r1, rfl⟩ := r
      obtain ⟨rfl, vs, h2, h3, h4⟩ := exc_at s r0
      obtain ⟨v, e, _⟩ := T C c b hb
      have ev : v1 = v := by
        cases c <;> simp only [valOf, reduceCtorEq, Option.some.injEq] at e
        · cases e; exact r1
        · cases e; exact r1
      subst ev
      exact ⟨C, dd, _, v1, b, rfl, ec, ed, h2, ⟨c, e, hb⟩, k _ _ _ _ _ q (Fr.refl _ _ _) s rfl⟩
    · exact h.elim⟩⟩
end
end DL

/-! part DX3 -/
set_option maxHeartbeats 0
namespace DL
open PySem PySem.Spec PyProof.Rows L2
/-! ### a comprehension whose list will change -/
theorem gather_coreC {gt : TG} {gd : CG} {tt : DT} {te : DE} {ut : TT} {ue : TE} {vs : List Nat} (hg : GW gt vs gd) (ht : SndT ut tt) (he : SndE ue te) {ds : List D} {ρ : Env} {M : Mp} {QD : List D → Mp → Prop} (h : dGather ds gd tt te vs ρ M QD)
    {Hb H : Hp} {σ : L2.St} {Q : VK} {J : It} (s : Sx Hb H M) (r : EnvR Hb σ ρ) (k : OK Hb H M (fun x M' => ∃ acc p M0, x = .cell p ∧ M0 p = none ∧ M' = updM M0 p (.lst acc) ∧ QD acc M0) Q) (it : ItD J Hb H M ds) {Dl : Addr} (hD : H Dl = none) :
    ∃ W : Nat → Nat → Hp → Prop, (∃ m, W 0 m (upd H Dl (.lst []))) ∧ ∀ i m H, W i m H →
      (J.stop i H ∧ Q (.ref Dl) H) ∨ (J.go i H ∧ ∃ Nx : Hp → Prop, (∀ H', Nx H' → ∃ m', m' < m ∧ W (i + 1) m' H') ∧ ∀ x H', J.yld i H x H' → gt x (L2.wipe σ vs) H' fun σ2 H2 => L2.wipe σ2 vs = L2.wipe σ vs ∧ ut σ2 H2 fun b H3 =>
        if b = true then ue σ2 H3 fun y H4 => ∃ acc, H4 Dl = some (.lst acc) ∧ acc.length < sizeLine ∧ Nx (upd H4 Dl (.lst (acc ++ [y]))) else Nx H3) := by
  obtain ⟨hl, W, w0, ws, we⟩ := h
  have hsz : 16000000 < sizeLine := by rw [sizeLine_eq]; decide
  obtain ⟨n1, n2⟩ := s.none_of hD
  let St (i : Nat) (H' : Hp) : Prop := ∃ acc M' Hb' xs, W i acc M' ∧ acc.length ≤ i ∧ Fr Hb H M Hb' H' M' ∧ Sx Hb' H' M' ∧ H' Dl = some (.lst xs) ∧ RepL Hb' acc xs ∧ Hb' Dl = none ∧ M' Dl = none
  obtain ⟨s0, f0⟩ := s.extra (o := .lst []) hD
  refine ⟨fun i m H' => m = ds.length - i ∧ i ≤ ds.length ∧ St i H', ⟨ds.length, rfl, Nat.zero_le _, [], M, Hb, [], w0, Nat.le_refl _, f0, s0, upd_same, rfl, n1, n2⟩, ?_⟩
  rintro i m H' ⟨rfl, hi, acc, M', Hb', xs, w, ha, f, s', hx, rx, m1, m2⟩
  obtain ⟨stop, go⟩ := it Hb' H' M' f s' i
  by_cases hlt : i < ds.length
  · obtain ⟨g1, g2⟩ := go _ (List.getElem?_eq_getElem hlt)
    refine .inr ⟨g1, St (i + 1), fun H2 q => ⟨ds.length - (i + 1), by omega, rfl, hlt, q⟩, fun x H3 y => ?_⟩
    obtain ⟨Hb3, f3, s3, r3⟩ := g2 x H3 y
    obtain ⟨ρ2, e2, q2⟩ := ws i _ acc M' (List.getElem?_eq_getElem hlt) ha w
    have ff3 := f.trans s' f3
    refine hg _ x Hb3 H3 M' _ ρ2 σ _ s3 r3 ((r.wipe vs).mono (f.trans s' f3).same) e2 fun σ2 rσ hw => ⟨hw, ?_⟩
    refine ht ρ2 M' _ q2 Hb3 σ2 H3 _ s3 rσ fun b M4 Hb4 H4 q4 f4 s4 => ?_
    have ff4 := ff3.trans s3 f4
    have x3 : H3 Dl = some (.lst xs) := f3.keep _ _ hx m2
    obtain ⟨y1, y2⟩ := f3.out _ _ hx m1 m2
    have x4 : H4 Dl = some (.lst xs) := f4.keep _ _ x3 y2
    obtain ⟨z1, z2⟩ := f4.out _ _ x3 y1 y2
    cases b with
    | true =>
      refine ite_tt (he ρ2 M4 _ (q4.1 rfl) Hb4 σ2 H4 _ s4 (rσ.mono f4.same) fun d M5 Hb5 H5 v q5 f5 s5 r5 => ?_)
      have x5 : H5 Dl = some (.lst xs) := f5.keep _ _ x4 z2
      obtain ⟨u1, u2⟩ := f5.out _ _ x4 z1 z2
      refine ⟨xs, x5, by rw [← rx.length]; omega, ?_⟩
      refine ⟨acc ++ [d], M5, Hb5, xs ++ [v], q5, by rw [List.length_append, List.length_singleton]; omega, ?_, ?_, upd_same, ((rx.mono f3.same).mono (f4.trans s4 f5).same).append (RepL.one r5), u1, u2⟩
      · have ff5 := ff4.trans s4 f5
        exact ⟨ff5.same, fun a o e q => by rw [upd_ne (ne_of_none e hD)]; exact ff5.keep a o e q, ff5.out⟩
      · refine ⟨fun a o e => ?_, fun p d' e => ?_⟩
        · rw [upd_ne (ne_of_none e u1)]
          exact s5.le a o e
        · rw [upd_ne (ne_cell e u2)]
          exact s5.cell p d' e
    | false => exact ite_ff ⟨acc, M4, Hb4, xs, q4.2 rfl, by omega, ff4, s4, x4, (rx.mono f3.same).mono f4.same, z1, z2⟩
  · have e : i = ds.length := by omega
    subst e
    refine .inl ⟨stop (Nat.le_refl _), ?_⟩
    have s6 : Sx Hb' H' (updM M' Dl (.lst acc)) := by
      refine ⟨s'.le, fun q d' z => ?_⟩
      by_cases hq : q = Dl
      · subst hq
        rw [updM_same] at z
        cases z
        exact ⟨m1, _, hx, xs, rfl, rx⟩
      · rw [updM_ne hq] at z
        exact s'.cell q d' z
    refine k (.cell Dl) _ Hb' H' _ ⟨acc, Dl, M', rfl, m2, rfl, we acc M' ha w⟩ ⟨f.same, f.keep, fun a o e h1 h2 => ?_⟩ s6 rfl
    obtain ⟨y1, y2⟩ := f.out a o e h1 h2
    exact ⟨y1, by rw [updM_ne (ne_of_none e hD)]; exact y2⟩
def dLcC (di : DI) (gd : CG) (tt : DT) (te : DE) (vs : List Nat) : DE := fun ρ M Q => di ρ M fun ds M1 => dGather ds gd tt te vs ρ M1 fun acc M2 => ∀ p, M2 p = none → Q (.cell p) (updM M2 p (.lst acc))
theorem snd_lcC {wi : TI} {di : DI} {gt : TG} {gd : CG} {tt : DT} {te : DE} {ut : TT} {ue : TE} {vs : List Nat} (hi : SndI wi di) (hg : GW gt vs gd) (ht : SndT ut tt) (he : SndE ue te) : SndE (tLc wi gt ut ue vs) (dLcC di gd tt te vs) := fun ρ M QD h Hb σ H Q s r k =>
  hi ρ M _ h Hb σ H _ s r fun ds M' Hb' H' J q f s' it Dl hD => gather_coreC hg ht he q s' (r.mono f.same) (fun d M2 Hb2 H2 v ⟨acc, p, M0, e, hp, e2, q2⟩ f2 s2 r2 => (k.fr s' f) d M2 Hb2 H2 v (by rw [e, e2]; exact q2 p hp) f2 s2 r2) it hD
section
variable {X : Cx} {e a b c o i : Expr} {es : List Expr} {pos : Pos} {di : DI}
theorem de_lcC {elt tg iter : Expr} {ifs : List Expr} {scope : Scope} {own : List (Str × Nat)} {gt : TG} {gd : CG} {tt : DT} {te : DE} (hc : X.calm = true) (hN : X.N.Nodup) (hi : PID X tg iter di) (ok : BlkOk X.N X.env.scope scope own)
    (hg : Blk X scope fun Y => PG Y tg gt) (gw : GW gt (own.map (·.2)) gd) (ht : Blk X scope fun Y => PTsD Y ifs tt) (he : Blk X scope fun Y => PED Y elt te) (hs : ∀ x, foldedSetIterable iter X.env x = pure x := by intro _; rfl) :
    PED X (.ListComp elt [⟨tg, iter, ifs, 0⟩] scope pos) (dLcC di gd tt te (own.map (·.2))) := by
  obtain ⟨⟨t0, a0, b0⟩⟩ := hi
  exact ⟨⟨_, pe_lc hc hN a0 ok hg (fun s H C cl fp => (ht s H C cl fp).low) (fun s H C cl fp => (he s H C cl fp).low) hs, snd_lcC b0 gw (snd_lowT _) (snd_lowE _)⟩⟩
/-! ### lifts that let nothing out -/
theorem ex_ofn {td : DE} (h : PED X.nox e td) : PEX X e (fun _ => td) := by
  obtain ⟨⟨t, a, b⟩⟩ := h
  exact ex_of ⟨⟨t, a.nox, b⟩⟩
theorem tx_ofn {td : DT} (h : PTD X.nox e td) : PTX X e (fun _ => td) := by
  obtain ⟨⟨t, a, b⟩⟩ := h
  exact tx_of ⟨⟨t, a.nox, b⟩⟩
theorem PS.nox {st : Stmt} {t : TS} (h : PS X.nox st t) : PS X st t := ⟨fun pins s σ H D I hw =>
  wpAny_mono (h.run pins s σ H D (I.wish _) hw) (fun _ _ q => q.unwish) fun _ _ z => False.elim z⟩
theorem sx_ofn {st : Stmt} {td : DS} (h : PSD X.nox st td) : PSX X st (fun _ => td) := by
  obtain ⟨⟨t, a, b⟩⟩ := h
  exact sx_of ⟨⟨t, PS.nox a, b⟩⟩
theorem ssx_ofn {sts : List Stmt} {td : DS} (h : PSsD X.nox sts td) : PSsX X sts (fun _ => td) := by
  obtain ⟨⟨t, a, b⟩⟩ := h
  exact ssx_of ⟨⟨t, a.nox, b⟩⟩
/-- a class's name -/
theorem de_globC {x : Str} {C : Addr} (hg : Gl X x) (hm : X.mg x = some (.ref C)) (hd : (x == ("__debug__" : Str)) = false := by decide) : PED X (.Name x pos) (dC (.cell C)) :=
  ⟨⟨_, pe_glob (v := .ref C) hg hm rfl hd, fun ρ M QD h Hb σ H Q s r k => k _ M Hb H _ h (Fr.refl _ _ _) s rfl⟩⟩
end
theorem FnX.d {P : Program} {w : World} {K : PySem.W.Frag} {mg : Str → Option Value} {base : Heap} {k : Nat} {f : Addr} {fd : FuncData} {ps : List Str} {spx : SpX} (F : FnX P w K mg base k f fd ps spx) : FnD P w K mg base k f fd ps (fun ds M Q => spx ds M Q fun _ _ _ _ => False) :=
  ⟨fun vs H Q E ⟨Hb, ds, M, QD, s, r, h, k1⟩ => F.len vs H Q (fun _ _ _ => False) ⟨Hb, ds, M, QD, _, s, r, h, k1, fun _ _ _ _ _ _ _ z _ _ _ => z.elim⟩, fun A outer s H args us vs Q E hr he hb hv ⟨Hb, ds, M, QD, s1, r, h, k1⟩ =>
    codeAny_mono (F.run A outer s H args us vs Q (fun _ _ _ => False) hr he hb hv ⟨Hb, ds, M, QD, _, s1, r, h, k1, fun _ _ _ _ _ _ _ z _ _ _ => z.elim⟩) fun rr s' q => by
      cases rr with
      | error e =>
        obtain ⟨_, _, _, _, _, _, _, _, _, _, _, _, z⟩ := q
        exact z.elim
      | ok fl =>
        cases fl with
        | ret u => exact q
        | next => exact q
        | brk => exact q
        | cont => exact q⟩
/-- d.get(k) -/
def dGet1 (td ty : DE) : DE := fun ρ M Q => td ρ M fun x M1 => (∃ ks ds, look M1 x = some (.dic ks ds)) ∧ ty ρ M1 fun y M2 => match look M2 x, keyD y with
  | some (.dic ks ds), some k => Q ((getK ks ds k).getD .non) M2
  | _, _ => False
theorem de_get1 {X : Cx} {o e : Expr} {ta tb : DE} {apos cpos : Pos} (hu : X.A.units + 1 < cLine) (ho : PED X o ta) (he : PED X e tb) (m : M1 X o "get" apos e cpos := by exact ⟨rfl, rfl, rfl, rfl⟩) : PED X (.Call (.Attribute o "get" apos) [e] [] cpos) (dGet1 ta tb) := by
  obtain ⟨⟨ua, h3, h4⟩⟩ := ho
  obtain ⟨⟨ub, h5, h6⟩⟩ := he
  refine ⟨⟨_, pe_dget1 hu h3 h5 m, fun ρ M QD h Hb σ H Q s r kk => h4 ρ M _ h Hb σ H _ s r fun x M1 Hb1 H1 v q1 f1 s1 r1 => ?_⟩⟩
  obtain ⟨a, rfl, ia⟩ := isd_of s1 r1 q1.1
  refine ⟨a, rfl, ia, h6 ρ M1 _ q1.2 Hb1 σ H1 _ s1 (r.mono f1.same) fun y M2 Hb2 H2 w q2 f2 s2 r2 => ?_⟩
  dsimp only at q2
  split at q2
  · rename_i ks ds k e1 e2
    obtain ⟨a', vs, ea, g, _, hl, rl⟩ := dget_of s2 (r1.mono f2.same) r2 e1 e2
    cases ea
    cases e3 : getK ks ds k with
    | none =>
      rw [(getK_rep rl).2 e3 hl] at g
      rw [e3] at q2
      exact ⟨none, g, kk .non M2 Hb2 H2 .non q2 (f1.trans s1 f2) s2 rfl⟩
    | some d =>
      obtain ⟨u', h1, h2⟩ := (getK_rep rl).1 d e3
      rw [h1] at g
      rw [e3] at q2
      exact ⟨some u', g, kk d M2 Hb2 H2 u' q2 (f1.trans s1 f2) s2 h2⟩
  · exact q2.elim
/-! ### an own exception class by its facts -/
/-- its methods and fields as K tells them -/
structure XcK (K : PySem.W.Frag) (C fI : Addr) (bmB : List Value) (newId : String) (fsl : List Str) : Prop where
  ini : PySem.W.excInitIn K C bmB newId = true
  ovr : PySem.W.excOver K C bmB = true
  dic : PySem.W.hasDictIn K C = true
  sa : PySem.W.findIn K (.ref C) "__setattr__" = some (some (.builtin "object.__setattr__"))
  exC : PySem.W.subIn K (.ref C) (.type "BaseException") = some true
  tyC : PySem.W.typeIn K (.ref C) = some (.type "type")
  kC : PySem.W.keepIn K (.ref C) = true
  iC : PySem.W.findIn K (.ref C) "__init__" = some (some (.ref fI))
  tI : PySem.W.typeIn K (.ref fI) = some (.type "function")
  tk : ∀ f ∈ fsl, PySem.W.takerIn K C f = some none
  nf : ∀ f ∈ fsl, PySem.W.findIn K (.ref C) f = some none
  xf : XfC K C
  ec : ExcC K C
def excCB (K : PySem.W.Frag) (D : Addr) : Bool := decide (PySem.W.findIn K (.ref D) "__getattribute__" = some (some (.builtin "BaseException.__getattribute__"))) && (decide (PySem.W.findIn K (.ref D) "__getattr__" = some none) &&
  (decide (PySem.W.subIn K (.ref D) (.type "BaseException") = some true) && (PySem.W.hasDictIn K D && (decide (PySem.W.findIn K (.ref D) "__class__" = some (some (.builtin "object.__class__"))) &&
  (decide (PySem.W.specialIn K (.builtin "object.__class__") "__get__" = some (some (.builtin "getset_descriptor.__get__"))) && (decide (PySem.W.takesIn K (.builtin "object.__class__") = some true) && decide (PySem.W.mroIn K D (.type "object") = some true)))))))
theorem excCB_ok {K : PySem.W.Frag} {D : Addr} (h : excCB K D = true) : ExcC K D := by
  unfold excCB at h
  simp only [Bool.and_eq_true, decide_eq_true_eq] at h
  obtain ⟨h1, h2, h3, h4, h5, h6, h7, h8⟩ := h
  exact ⟨h1, h2, h3, h4, h5, h6, h7, h8⟩
def xcB (bmB : List Value) (newId : String) (fsl : List Str) (K : PySem.W.Frag) (C fI : Addr) : Bool :=
  PySem.W.excInitIn K C bmB newId && (PySem.W.excOver K C bmB && (PySem.W.hasDictIn K C && (decide (PySem.W.findIn K (.ref C) "__setattr__" = some (some (.builtin "object.__setattr__"))) &&
  (decide (PySem.W.subIn K (.ref C) (.type "BaseException") = some true) && (decide (PySem.W.typeIn K (.ref C) = some (.type "type")) && (PySem.W.keepIn K (.ref C) &&
  (decide (PySem.W.findIn K (.ref C) "__init__" = some (some (.ref fI))) && (decide (PySem.W.typeIn K (.ref fI) = some (.type "function")) &&
  (fsl.all (fun f => decide (PySem.W.takerIn K C f = some none)) && (fsl.all (fun f => decide (PySem.W.findIn K (.ref C) f = some none)) && (xfB K C && excCB K C)))))))))))
theorem xcB_ok {bmB : List Value} {newId : String} {fsl : List Str} {K : PySem.W.Frag} {C fI : Addr} (h : xcB bmB newId fsl K C fI = true) : XcK K C fI bmB newId fsl := by
  unfold xcB at h
  simp only [Bool.and_eq_true, decide_eq_true_eq, List.all_eq_true] at h
  obtain ⟨h1, h2, h3, h4, h5, h6, h7, h8, h9, ha, hb, hc, hd⟩ := h
  exact ⟨h1, h2, h3, h4, h5, h6, h7, h8, h9, ha, hb, xfB_ok hc, excCB_ok hd⟩
theorem XcK.own {K : PySem.W.Frag} {C fI : Addr} {bmB : List Value} {B newId initId : String} {fsl : List Str} (h : XcK K C fI bmB newId fsl) (fb : ExcBaseFacts B newId initId bmB) (sf : PySem.StoreFacts B bmB "object.__setattr__" "object") : DX.OwnX K C B newId initId bmB :=
  ⟨fb, sf, h.ini, h.ovr, h.dic, h.sa, h.exC, h.tyC, h.kC⟩
/-! self.a = x; self.code = «..» -/
open DX in
theorem xst2 {C a : Addr} {D : Ends} {σ : L2.St} {H : Hp} {f1 f2 : Str} {o1 e1 o2 e2 : TE} {y1 y2 : V} (ea : H a = some (exo a C none)) (h1 : ∀ H Q, Q (V.ref a) H → o1 σ H Q) (h2 : ∀ H Q, Q (V.ref a) H → o2 σ H Q) (k1 : ∀ H Q, Q y1 H → e1 σ H Q) (k2 : ∀ H Q, Q y2 H → e2 σ H Q)
    (q : ∀ dx, H dx = none → dx ≠ a → D.nx σ (upd (upd H dx (exd dx [(f2, y2), (f1, y1)])) a (exo a C (some dx)))) : tSeq (tXst C f1 o1 e1) (tSeq (tXst C f2 o2 e2) tNext) D σ H := by
  refine k1 _ _ (h1 _ _ ⟨a, rfl, .inl ⟨ea, fun dx hd ne => ?_⟩⟩)
  refine k2 _ _ (h2 _ _ ⟨a, rfl, .inr ⟨dx, _, upd_same, by rw [upd_ne ne, upd_same], by show 1 ≤ 900; omega, ?_⟩⟩)
  show D.nx σ _
  rw [upd3 ne]
  exact q dx hd ne
open DX in
theorem xst3 {C a : Addr} {D : Ends} {σ : L2.St} {H : Hp} {f1 f2 f3 : Str} {o1 e1 o2 e2 o3 e3 : TE} {y1 y2 y3 : V} (ea : H a = some (exo a C none)) (h1 : ∀ H Q, Q (V.ref a) H → o1 σ H Q) (h2 : ∀ H Q, Q (V.ref a) H → o2 σ H Q) (h3 : ∀ H Q, Q (V.ref a) H → o3 σ H Q) (k1 : ∀ H Q, Q y1 H → e1 σ H Q) (k2 : ∀ H Q, Q y2 H → e2 σ H Q) (k3 : ∀ H Q, Q y3 H → e3 σ H Q)
    (q : ∀ dx, H dx = none → dx ≠ a → D.nx σ (upd (upd H dx (exd dx [(f3, y3), (f2, y2), (f1, y1)])) a (exo a C (some dx)))) : tSeq (tXst C f1 o1 e1) (tSeq (tXst C f2 o2 e2) (tSeq (tXst C f3 o3 e3) tNext)) D σ H := by
  refine k1 _ _ (h1 _ _ ⟨a, rfl, .inl ⟨ea, fun dx hd ne => ?_⟩⟩)
  refine k2 _ _ (h2 _ _ ⟨a, rfl, .inr ⟨dx, _, upd_same, by rw [upd_ne ne, upd_same], by show 1 ≤ 900; omega, ?_⟩⟩)
  show tSeq (tXst C f3 o3 e3) tNext D σ _
  rw [upd3 ne]
  refine k3 _ _ (h3 _ _ ⟨a, rfl, .inr ⟨dx, _, upd_same, by rw [upd_ne ne, upd_same], by show 2 ≤ 900; omega, ?_⟩⟩)
  show D.nx σ _
  rw [upd3 ne]
  exact q dx hd ne
end DL

/-! part DX4 -/
set_option maxHeartbeats 0
/-! cells read as if they were frozen, while an expression runs whose value is plain -/
namespace DL
open PySem PySem.Spec PyProof.Rows L2
mutual
/-- cells replaced by what they hold -/
inductive Deep (M : Mp) : D → D → Prop
  | same (d : D) : Deep M d d
  | cellL {p : Addr} {ds es : List D} : M p = some (.lst ds) → DeepL M ds es → Deep M (.cell p) (.lst es)
  | cellD {p : Addr} {ks : List Key} {ds es : List D} : M p = some (.dic ks ds) → DeepL M ds es → Deep M (.cell p) (.dic ks es)
  | lst {ds es : List D} : DeepL M ds es → Deep M (.lst ds) (.lst es)
  | tup {ds es : List D} : DeepL M ds es → Deep M (.tup ds) (.tup es)
  | dic {ks : List Key} {ds es : List D} : DeepL M ds es → Deep M (.dic ks ds) (.dic ks es)
inductive DeepL (M : Mp) : List D → List D → Prop
  | nil : DeepL M [] []
  | cons {d e : D} {ds es : List D} : Deep M d e → DeepL M ds es → DeepL M (d :: ds) (e :: es)
end
theorem DeepL.refl (M : Mp) : ∀ ds : List D, DeepL M ds ds
  | [] => .nil
  | d :: r => .cons (.same d) (DeepL.refl M r)
theorem DeepL.of {M : Mp} {α : Type} {f g : α → D} : ∀ l : List α, (∀ x ∈ l, Deep M (f x) (g x)) → DeepL M (l.map f) (l.map g)
  | [], _ => .nil
  | x :: r, h => .cons (h x List.mem_cons_self) (DeepL.of r fun y hy => h y (List.mem_cons_of_mem _ hy))
theorem DeepL.len {M : Mp} : ∀ {ds es : List D}, DeepL M ds es → ds.length = es.length
  | _, _, .nil => rfl
  | _, _, .cons _ h => by rw [List.length_cons, List.length_cons, DeepL.len h]
inductive DeepE (M : Mp) : Env → Env → Prop
  | nil : DeepE M [] []
  | no {x : Option D} {r r' : Env} : DeepE M r r' → DeepE M (x :: r) (none :: r')
  | one {d e : D} {r r' : Env} : Deep M d e → DeepE M r r' → DeepE M (some d :: r) (some e :: r')
theorem DeepE.refl (M : Mp) : ∀ r : Env, DeepE M r r
  | [] => .nil
  | none :: r => .no (DeepE.refl M r)
  | some d :: r => .one (.same d) (DeepE.refl M r)
def allB (Hb H : Hp) (M : Mp) : Hp := fun a => if (M a).isSome = true then H a else Hb a
theorem allB_same {Hb H : Hp} {M : Mp} (s : Sx Hb H M) : Same Hb (allB Hb H M) := fun a o e => by
  unfold allB
  rw [s.apart e]
  exact e
theorem allB_cell {Hb H : Hp} {M : Mp} {p : Addr} {d : D} (h : M p = some d) : allB Hb H M p = H p := by
  unfold allB
  rw [h]
  rfl
mutual
theorem Deep.rep {Hb H : Hp} {M : Mp} (s : Sx Hb H M) {d e : D} : Deep M d e → ∀ v, Rep Hb d v → Rep (allB Hb H M) e v
  | .same d, v, r => r.mono (allB_same s)
  | .cellL (p := p) h hl, v, r => by
    obtain ⟨_, o, e1, vs, rfl, c⟩ := s.cell p _ h
    exact ⟨p, vs, r, (allB_cell h).trans e1, DeepL.rep s hl vs c⟩
  | .cellD (p := p) h hl, v, r => by
    obtain ⟨_, o, e1, vs, rfl, c1, c⟩ := s.cell p _ h
    exact ⟨p, vs, r, (allB_cell h).trans e1, by rw [← hl.len]; exact c1, DeepL.rep s hl vs c⟩
  | .lst hl, v, ⟨a, vs, e1, e2, c⟩ => ⟨a, vs, e1, allB_same s _ _ e2, DeepL.rep s hl vs c⟩
  | .tup hl, v, ⟨a, vs, e1, e2, c⟩ => ⟨a, vs, e1, allB_same s _ _ e2, DeepL.rep s hl vs c⟩
  | .dic hl, v, ⟨a, vs, e1, e2, e3, c⟩ => ⟨a, vs, e1, allB_same s _ _ e2, by rw [← hl.len]; exact e3, DeepL.rep s hl vs c⟩
theorem DeepL.rep {Hb H : Hp} {M : Mp} (s : Sx Hb H M) {ds es : List D} : DeepL M ds es → ∀ vs, RepL Hb ds vs → RepL (allB Hb H M) es vs
  | .nil, vs, r => r
  | .cons h hl, vs, ⟨v, vr, e, r1, r2⟩ => ⟨v, vr, e, Deep.rep s h v r1, DeepL.rep s hl vr r2⟩
end
theorem DeepE.rep {Hb H : Hp} {M : Mp} (s : Sx Hb H M) : ∀ {r r' : Env} {σ : L2.St}, DeepE M r r' → EnvR Hb σ r → EnvR (allB Hb H M) σ r'
  | _, _, σ, .nil, h => ⟨h.len, fun i d z => by simp at z⟩
  | _, _, [], .no (x := x) (r := r) h, hr => by have := hr.len; cases this
  | _, _, [], .one (d := d) (r := r) h1 h, hr => by have := hr.len; cases this
  | _, _, u :: σ, .no (x := x) (r := r) h, hr => by
    have h2 : EnvR Hb σ r := ⟨by have := hr.len; simpa using this, fun i d z => hr.get (i + 1) d (by simpa using z)⟩
    have h3 := DeepE.rep s h h2
    refine ⟨by rw [List.length_cons, List.length_cons, h3.len], fun i d z => ?_⟩
    cases i with
    | zero => simp at z
    | succ i => exact h3.get i d (by simpa using z)
  | _, _, u :: σ, .one (d := d) (r := r) h1 h, hr => by
    have h2 : EnvR Hb σ r := ⟨by have := hr.len; simpa using this, fun i d z => hr.get (i + 1) d (by simpa using z)⟩
    have h3 := DeepE.rep s h h2
    refine ⟨by rw [List.length_cons, List.length_cons, h3.len], fun i d' z => ?_⟩
    cases i with
    | zero =>
      obtain ⟨v, e, r1⟩ := hr.get 0 d (by rfl)
      have z2 : some (some _) = some (some d') := z
      cases z2
      exact ⟨v, e, Deep.rep s h1 v r1⟩
    | succ i => exact h3.get i d' (by simpa using z)
theorem allB_sx {Hb H : Hp} {M : Mp} (s : Sx Hb H M) : Sx (allB Hb H M) H (fun _ => none) := by
  refine ⟨fun a o e => ?_, fun p d e => by cases e⟩
  unfold allB at e
  split at e
  · exact .inl e
  · exact s.le a o e
/-- plain values -/
def scal : D → Prop
  | .non => True
  | .bl _ => True
  | .int _ => True
  | .str _ => True
  | _ => False
theorem scal_rep {Hb Hb' : Hp} {d : D} {v : V} (h : scal d) (r : Rep Hb d v) : Rep Hb' d v := by
  cases d <;> first | exact h.elim | exact r
/-- behind it all that was there stands as it stood -/
theorem peek_back {Hb H Hb2 H2 : Hp} {M M2 : Mp} (s : Sx Hb H M) (f : Fr (allB Hb H M) H (fun _ => none) Hb2 H2 M2) : Sx Hb H2 M ∧ Fr Hb H M Hb H2 M := by
  have k : ∀ a o, H a = some o → H2 a = some o := fun a o e => f.keep a o e rfl
  refine ⟨⟨fun a o e => ?_, fun p d e => ?_⟩, Same.refl _, fun a o e _ => k a o e, fun a o e h1 h2 => ⟨h1, h2⟩⟩
  · rcases s.le a o e with z | ⟨kvs, od, z, z'⟩
    · exact .inl (k a o z)
    · exact .inr ⟨kvs, od, z, k a _ z'⟩
  · obtain ⟨e1, o, e2, c⟩ := s.cell p d e
    exact ⟨e1, o, k p o e2, c⟩
def dPeek (td : DE) : DE := fun ρ M Q => ∃ ρ1, DeepE M ρ ρ1 ∧ td ρ1 (fun _ => none) fun y _ => scal y ∧ Q y M
theorem de_peek {X : Cx} {e : Expr} {td : DE} (h : PED X e td) : PED X e (dPeek td) := by
  obtain ⟨⟨t, a, b⟩⟩ := h
  refine ⟨⟨t, a, fun ρ M QD ⟨ρ1, hd, q⟩ Hb σ H Q s r k => ?_⟩⟩
  refine b ρ1 _ _ q (allB Hb H M) σ H Q (allB_sx s) (hd.rep s r) fun d M' Hb' H' v ⟨q1, q2⟩ f s' r' => ?_
  obtain ⟨s2, f2⟩ := peek_back s f
  exact k d M Hb H' v q2 f2 s2 (scal_rep q1 r')
/-- a test -/
def dPeekT (td : DT) : DT := fun ρ M Q => ∃ ρ1, DeepE M ρ ρ1 ∧ td ρ1 (fun _ => none) fun b _ => Q b M
theorem dt_peek {X : Cx} {e : Expr} {td : DT} (h : PTD X e td) : PTD X e (dPeekT td) := by
  obtain ⟨⟨t, a, b⟩⟩ := h
  refine ⟨⟨t, a, fun ρ M QD ⟨ρ1, hd, q⟩ Hb σ H Q s r k => ?_⟩⟩
  refine b ρ1 _ _ q (allB Hb H M) σ H Q (allB_sx s) (hd.rep s r) fun d M' Hb' H' q1 f s' => ?_
  obtain ⟨s2, f2⟩ := peek_back s f
  exact k d M Hb H' q1 f2 s2
/-- .. whose value is a new list of plain values -/
def dPeekC (td : DE) : DE := fun ρ M Q => ∃ ρ1, DeepE M ρ ρ1 ∧ td ρ1 (fun _ => none) fun y M2 => ∃ p ds, y = .cell p ∧ M2 = updM (fun _ => none) p (.lst ds) ∧ (∀ d ∈ ds, scal d) ∧ (M p = none → Q (.cell p) (updM M p (.lst ds)))
theorem scal_repL {Hb Hb' : Hp} : ∀ {ds : List D} {vs : List V}, (∀ d ∈ ds, scal d) → RepL Hb ds vs → RepL Hb' ds vs
  | [], _, _, h => h
  | d :: r, _, hs, ⟨v, vr, h1, h2, h3⟩ => ⟨v, vr, h1, scal_rep (hs d List.mem_cons_self) h2, scal_repL (fun x hx => hs x (List.mem_cons_of_mem _ hx)) h3⟩
theorem de_peekC {X : Cx} {e : Expr} {td : DE} (h : PED X e td) : PED X e (dPeekC td) := by
  obtain ⟨⟨t, a, b⟩⟩ := h
  refine ⟨⟨t, a, fun ρ M QD ⟨ρ1, hd, q⟩ Hb σ H Q s r k => ?_⟩⟩
  refine b ρ1 _ _ q (allB Hb H M) σ H Q (allB_sx s) (hd.rep s r) fun d M' Hb' H' v ⟨p, ds, e1, e2, hs, q2⟩ f s' r' => ?_
  subst e1 e2
  obtain ⟨s2, f2⟩ := peek_back s f
  obtain ⟨n1, o, e3, vs, rfl, rl⟩ := s'.cell p (.lst ds) updM_same
  have hp : H p = none := by
    cases e : H p with
    | none => rfl
    | some o =>
      cases e5 : allB Hb H M p with
      | none =>
        have := (f.out p o e e5 rfl).2
        rw [updM_same] at this
        cases this
      | some u =>
        have := f.same p u e5
        rw [n1] at this
        cases this
  obtain ⟨m1, m2⟩ := s.none_of hp
  have s3 : Sx Hb H' (updM M p (.lst ds)) := ⟨s2.le, fun q d' e => by
    by_cases hq : q = p
    · subst hq
      rw [updM_same] at e
      cases e
      exact ⟨m1, _, e3, vs, rfl, scal_repL hs rl⟩
    · rw [updM_ne hq] at e
      exact s2.cell q d' e⟩
  have f3 : Fr Hb H M Hb H' (updM M p (.lst ds)) := ⟨f2.same, f2.keep, fun a o e h1 h2 => ⟨h1, by rw [updM_ne (ne_of_none e hp)]; exact h2⟩⟩
  exact k (.cell p) _ Hb H' v (q2 m2) f3 s3 r'
end DL

/-! part DX5 -/
set_option maxHeartbeats 0
namespace DL
open PySem PySem.Spec PyProof.Rows L2
section
variable {X : Cx} {e a b c o i f : Expr} {es : List Expr} {pos p apos cpos : Pos} {ta tb tc : DE} {da : DA} {tA : DT} {x : Str} {st : Stmt} {t u : DS}
/-! ### either rule of a statement -/
def dEither (t u : DS) : DS := fun P ρ M => t P ρ M ∨ u P ρ M
theorem ds_either (h1 : PSD X st t) (h2 : PSD X st u) : PSD X st (dEither t u) := by
  obtain ⟨⟨t1, a1, b1⟩⟩ := h1
  obtain ⟨⟨t2, a2, b2⟩⟩ := h2
  exact ⟨⟨fun D σ H => t1 D σ H ∨ t2 D σ H, ⟨fun pins s σ H D I h => h.elim (a1.run pins s σ H D I) (a2.run pins s σ H D I)⟩, fun P ρ M h Hb σ H E s r k => h.elim (fun h => .inl (b1 P ρ M h Hb σ H E s r k)) fun h => .inr (b2 P ρ M h Hb σ H E s r k)⟩⟩
/-! ### o.extend(xs) -/
def dExt (ta tb : DE) : DE := fun ρ M Q => ta ρ M fun x M1 => match x with
  | .cell p => (∃ ds0, M1 p = some (.lst ds0)) ∧ tb ρ M1 fun y M2 => ∃ ds es, M2 p = some (.lst ds) ∧ y = .lst es ∧ ds.length + es.length ≤ 16000000 ∧ Q .non (updM M2 p (.lst (ds ++ es)))
  | _ => False
theorem de_ext (ho : PED X o ta) (he : PED X e tb) (hbase : attributeBase o "extend" X.env (eval o X.env) = eval o X.env := by rfl)
    (hfew : ((backTo cpos (starEach [e] X.env)).all (fun x => !x.1) && (backToKw cpos (keywordEach [] X.env)).all (fun x => x.1.isSome)
      && decide (([e] : List Expr).length + ([] : List Keyword).length + (if ([] : List Keyword).isEmpty then 0 else 1) < 30)) = true := by rfl)
    (hline : (apos.endLine == cpos.line) = true := by rfl) (hs : starEach [e] X.env = (false, eval e X.env) :: starEach [] X.env := by rfl) (hplain : (backTo cpos (starEach [] X.env)).any (·.1) = false := by rfl) :
    PED X (.Call (.Attribute o "extend" apos) [e] [] cpos) (dExt ta tb) := by
  obtain ⟨⟨ua, h3, h4⟩⟩ := ho
  obtain ⟨⟨ub, h5, h6⟩⟩ := he
  refine ⟨⟨_, pe_bm PySem.F.plainAttrs_list PySem.F.slot_list_extend PySem.F.type_list_extend mt_extend h3 (pa_cons h5 pa_nil hs) hbase hfew hline hs hplain, fun ρ M QD h Hb σ H Q s r k => h4 ρ M _ h Hb σ H _ s r fun x M1 Hb1 H1 w q1 f1 s1 r1 => ?_⟩⟩
  dsimp only at q1
  split at q1
  · rename_i p
    obtain ⟨⟨ds0, e0⟩, q2⟩ := q1
    obtain ⟨_, o0, e00, vs0, rfl, _⟩ := s1.cell p _ e0
    cases (show w = V.ref p from r1)
    refine ⟨.inl ⟨rfl, vs0, .inl (.inl e00)⟩, h6 ρ M1 _ q2 Hb1 σ H1 _ s1 (r.mono f1.same) fun y M2 Hb2 H2 u q3 f2 s2 r2 => ?_⟩
    obtain ⟨ds, es, e1, rfl, hz, q4⟩ := q3
    obtain ⟨_, o1, e2, vs, rfl, rl⟩ := s2.cell p _ e1
    obtain ⟨b, ws, rfl, e3, rl2⟩ := look_lst s2 r2 (ds := es) rfl
    obtain ⟨s3, f3⟩ := s2.mut (o := .lst (vs ++ ws)) (d := .lst (ds ++ es)) e1 ⟨_, rfl, rl.append rl2⟩
    exact ⟨p, b, vs, ws, rfl, rfl, e2, e3, by rw [← rl.length, ← rl2.length]; have := big16; omega, k _ _ _ _ _ q4 ((f1.trans s1 f2).trans s2 f3) s3 rfl⟩
  · exact q1.elim
/-! ### {k: v}, k an int -/
def dDisp1 (k : Int) (tv : DE) : DE := fun ρ M Q => tv ρ M fun d M1 => Q (.dic [.inl k] [d]) M1
theorem de_disp1 {k : Int} {v : Expr} {j : Nat} {p2 : Pos} (h : PED X v tc) : PED X (.Dict [some (.Constant (.int k) j p2)] [v] pos) (dDisp1 k tc) := by
  obtain ⟨⟨t1, a1, b1⟩⟩ := h
  refine ⟨⟨_, pe_disp (pps_cons pe_int a1 pps_nil) rfl rfl (by intro z; cases z) (by show 1 ≤ 15; omega), fun ρ M QD q Hb σ H Q s r kk p hp => ?_⟩⟩
  obtain ⟨s0, f0⟩ := s.extra (o := .dK []) hp
  obtain ⟨n1, n2⟩ := s.none_of hp
  show t1 σ (upd H p (.dK [])) _
  refine b1 ρ M _ q Hb σ (upd H p (.dK [])) _ s0 r fun d M1 Hb1 H1 v q1 f1 s1 r1 => ?_
  have e1 : H1 p = some (.dK []) := f1.keep p _ upd_same n2
  obtain ⟨m1, m2⟩ := f1.out p _ upd_same n1 n2
  refine ⟨e1, [(.inl k, v)], rfl, by show 1 ≤ 15; omega, ?_⟩
  generalize hO : (HO.dK (mergeK [] [((Sum.inl k : Key), v)])) = O
  have hO2 : O = .dK ([(Sum.inl k : Key)].zip [v]) := by rw [← hO]; rfl
  have sm : Same Hb1 (upd Hb1 p O) := fun b u e => by rw [upd_ne (ne_of_none e m1)]; exact e
  have s2 : Sx (upd Hb1 p O) (upd H1 p O) M1 := by
    refine ⟨fun a u z => ?_, fun q d' z => ?_⟩
    · by_cases ha : a = p
      · subst ha
        rw [upd_same] at z ⊢
        exact .inl z
      · rw [upd_ne ha] at z ⊢
        exact s1.le a u z
    · obtain ⟨e1, u, e2, e3⟩ := s1.cell q d' z
      have hq : q ≠ p := ne_cell z m2
      exact ⟨by rw [upd_ne hq]; exact e1, u, by rw [upd_ne hq]; exact e2, e3.mono sm⟩
  have f2 : Fr Hb H M (upd Hb1 p O) (upd H1 p O) M1 := by
    have f01 := f0.trans s0 f1
    refine ⟨f01.same.trans sm, fun a o e hm => by rw [upd_ne (ne_of_none e hp)]; exact f01.keep a o e hm, fun a o e h1 h2 => ?_⟩
    obtain ⟨y1, y2⟩ := f01.out a o e h1 h2
    exact ⟨by rw [upd_ne (ne_of_none e hp)]; exact y1, y2⟩
  exact kk _ _ _ _ _ q1 f2 s2 ⟨p, [v], rfl, by rw [upd_same, hO2], rfl, RepL.one (r1.mono sm)⟩
end
/-! ### o.m(e, .., k = v, ..), which may raise -/
section
variable {X : Cx} {e o : Expr} {es : List Expr} {kws : List Keyword} {pos apos : Pos} {ta : DEX} {da dk : DAX} {m : Str} {k n : Nat} {f C : Addr} {fd : FuncData} {ps ks : List Str} {spx : SpX}
def tMethPS (C : Addr) (m : Str) (n nk : Nat) (sp : Sp) (gV : List V → List V → List V) (E : L2.St → XK) (ta : TE) (t tk : TA) : TE := fun σ H Q => ta σ H fun x H1 => ∃ a dx fs, x = .ref a ∧ H1 a = some (.ins C dx fs) ∧ fs.lookup m = none ∧
  t σ H1 fun vs H2 => tk σ H2 fun zs H3 => vs.length + 1 = n ∧ zs.length = nk ∧ sp (gV (.ref a :: vs) zs) H3 Q (E σ)
theorem pe_methPS {CX : CXT} {E : L2.St → XK} {t1 : TE} {t tk : TA} {g : List Value → List Value → List Value} {gV : List V → List V → List V} {sp : Sp} {pl : Sem Bool} (he : PE X o t1) (c : Cls X.K C) (hm : Meth X.K C m f) (F : FnOk X.prog X.w X.K X.mg X.base CX k f fd ps sp) (hr : Room k X.A) (hb : KBn X.K fd ps n ks g gV) (hx : ∀ σ, PassesAt CX X σ (E σ)) (ha : PA X (e :: es) t) (hkw : PK X kws tk)
    (hall : (backToKw pos (keywordEach kws X.env)).all (·.1.isSome) = true := by rfl) (hks : (backToKw pos (keywordEach kws X.env)).filterMap (·.1) = ks := by rfl)
    (hst : starEach (e :: es) X.env = (false, eval e X.env) :: starEach es X.env := by rfl)
    (hpl : ((backTo pos (starEach (e :: es) X.env)).any (·.1) || (backToKw pos (keywordEach kws X.env)).any (·.1.isNone)) = false := by rfl)
    (ht : eval (.Call (.Attribute o m apos) (e :: es) kws pos) X.env = (do
      let ov ← eval o X.env
      standAt apos.atName
      let (f, first) ← holding [ov] (getMethod ov m pl)
      callWith pos f first (backTo pos (starEach (e :: es) X.env)) (backToKw pos (keywordEach kws X.env))) := by rfl) :
    PE X (.Call (.Attribute o m apos) (e :: es) kws pos) (tMethPS C m n ks.length sp gV E t1 t tk) := by
  refine ⟨fun pins s σ H Q I h => ?_⟩
  refine PySem.W.methodCall_KW (pl := pl) (thn (he.run pins s σ H _ I h) fun u s1 ⟨x, H1, I1, rx, a, dx, fs, ex, ea, l, q⟩ => ?_) ht
  subst ex
  obtain rfl : u = Value.ref a := rx
  refine getmeth_ok I1 ea c hm l ?_
  refine PySem.W.callWith_KW (first := [.ref a]) (h₀ := X.base) I.ok.mod.kin hm.kp hall (thn (ha.run pos pins s1 σ H1 _ I1 q) fun us s2 ⟨vs, H2, I2, r, q⟩ => ?_) hpl hst
  refine thn (hkw.run pos pins s2 σ H2 _ I2 q) fun ws s3 ⟨zs, H3, I3, rz, l1, l2, q2⟩ => ⟨I3.kIn, ?_⟩
  rw [hks]
  exact run_kwS (us := .ref a :: us) (vs := .ref a :: vs) F hr hb (hx σ) I3 (.cons rfl r) rz l1 l2 q2
def xMethP (C : Addr) (m : Str) (n nk : Nat) (spx : SpX) (gD : List D → List D → List D) (ta : DEX) (da dk : DAX) : DEX := fun XE ρ M Q => ta XE ρ M fun x M1 => match look M1 x with
  | some (.ins C' fs _) => C' = C ∧ m ∉ fs ∧ da XE ρ M1 fun ds M2 => dk XE ρ M2 fun zs M3 => ds.length + 1 = n ∧ zs.length = nk ∧ spx (gD (x :: ds) zs) M3 Q XE
  | _ => False
theorem ex_methP {gD : List D → List D → List D} {pl : Sem Bool} (ho : PEX X o ta) (c : Cls X.K C) (hm : Meth X.K C m f) (F : FnX X.prog X.w X.K X.mg X.base k f fd ps spx) (hr : Room k X.A) (hb : KBD X.K fd ps n ks gD) (ha : PAX X (e :: es) da) (hkw : PKX X kws dk)
    (hall : (backToKw pos (keywordEach kws X.env)).all (·.1.isSome) = true := by rfl) (hks : (backToKw pos (keywordEach kws X.env)).filterMap (·.1) = ks := by rfl)
    (hst : starEach (e :: es) X.env = (false, eval e X.env) :: starEach es X.env := by rfl)
    (hpl : ((backTo pos (starEach (e :: es) X.env)).any (·.1) || (backToKw pos (keywordEach kws X.env)).any (·.1.isNone)) = false := by rfl)
    (ht : eval (.Call (.Attribute o m apos) (e :: es) kws pos) X.env = (do
      let ov ← eval o X.env
      standAt apos.atName
      let (f, first) ← holding [ov] (getMethod ov m pl)
      callWith pos f first (backTo pos (starEach (e :: es) X.env)) (backToKw pos (keywordEach kws X.env))) := by rfl) :
    PEX X (.Call (.Attribute o m apos) (e :: es) kws pos) (xMethP C m n ks.length spx gD ta da dk) := ⟨fun W tk => by
  obtain ⟨⟨g, gV, h1, h2⟩⟩ := hb
  refine PE.imp (pe_methPS (ho.run W tk) c hm F hr h1 (fun σ => passAt tk σ) (ha.run W tk) (hkw.run W tk) hall hks hst hpl ht) fun σ H Q ⟨Hb, ρ, M, XE, QD, s, r, q, kk, kx⟩ => ?_
  refine ⟨Hb, ρ, M, XE, _, s, r, q, fun x M1 Hb1 H1 v q1 f1 s1 r1 => ?_, kx⟩
  dsimp only at q1
  split at q1
  · rename_i C' fs ds' e1
    obtain ⟨rfl, hm', q1⟩ := q1
    obtain ⟨a, dx, ws, rfl, ha', _, _⟩ := look_ins s1 r1 e1
    refine ⟨a, dx, _, rfl, ha', look_zip hm', Hb1, ρ, M1, XE, _, s1, r.mono f1.same, q1, fun ds M2 Hb2 H2 vs q2 f2 s2 r2 => ?_, kx.fr s1 f1⟩
    have f12 := f1.trans s1 f2
    exact ⟨Hb2, ρ, M2, XE, _, s2, r.mono f12.same, q2, fun zs M3 Hb3 H3 us q3 f3 s3 r3 => ⟨by rw [← r2.length]; exact q3.1, by rw [← r3.length]; exact q3.2.1, Hb3, gD (x :: ds) zs, M3, QD, XE, s3, h2 Hb3 _ _ _ _ ⟨_, _, rfl, r1.mono (f2.trans s2 f3).same, r2.mono f3.same⟩ r3, q3.2.2, kk.fr s3 (f12.trans s2 f3), kx.fr s3 (f12.trans s2 f3)⟩, kx.fr s2 f12⟩
  · exact q1.elim⟩
end
end DL

/-! part DX6 -/
set_option maxHeartbeats 0
namespace DL
open PySem PySem.Spec PyProof.Rows L2
section
variable {X : Cx} {body : List Stmt} {pos : Pos} {tA : DTX} {t : DSX}
/-! ### while, its test and body may raise -/
def xWhile (c : DTX) (tb : DSX) : DSX := fun XE P ρ M => ∃ W : Nat → Env → Mp → Prop, (∃ m, W m ρ M) ∧ ∀ m ρ M, W m ρ M → c (XE ρ) ρ M fun b M1 =>
  dIte b (tb XE { P with nx := fun ρ' M' => ∃ m', m' < m ∧ W m' ρ' M', ct := fun ρ' M' => ∃ m', m' < m ∧ W m' ρ' M', bk := P.nx } ρ M1) (P.nx ρ M1)
theorem sx_while {c : Expr} (hp : PassesOwn (model X.prog X.w) X.A X.env X.xe) (hc : PTX X c tA) (hb : PSsX X body t) : PSX X (.While c body [] pos) (xWhile tA t) := ⟨fun Wx tk => by
  refine PS.imp (ps_while hp (hc.run Wx tk) (hb.run Wx tk)) fun D σ H ⟨Hb, ρ, M, XE, P, s, r, ⟨W, ⟨m0, w0⟩, ws⟩, k, kx⟩ => ?_
  refine ⟨fun m σ' H' => ∃ ρ' M' Hb', W m ρ' M' ∧ Fr Hb H M Hb' H' M' ∧ Sx Hb' H' M' ∧ EnvR Hb' σ' ρ', ⟨m0, ρ, M, Hb, w0, Fr.refl _ _ _, s, r⟩, ?_⟩
  rintro m σ' H' ⟨ρ', M', Hb', w, f, s', r'⟩
  refine ⟨Hb', ρ', M', XE ρ', _, s', r', ws m ρ' M' w, fun b M1 Hb1 H1 q1 f1 s1 => ?_, (kx.fr s' f).at r'⟩
  have ff := f.trans s' f1
  cases b with
  | true =>
    refine ite_tt ⟨fun σ2 H2 => ∃ m', m' < m ∧ ∃ ρ' M' Hb', W m' ρ' M' ∧ Fr Hb H M Hb' H2 M' ∧ Sx Hb' H2 M' ∧ EnvR Hb' σ2 ρ', fun σ2 H2 ⟨m', hm, z⟩ => ⟨m', hm, z⟩, ?_⟩
    exact ⟨Hb1, ρ', M1, XE, _, s1, r'.mono f1.same, q1.1 rfl, ⟨fun ρ5 M5 Hb5 σ5 H5 ⟨m', hm, q5⟩ f5 s5 r5 => ⟨m', hm, ρ5, M5, Hb5, q5, ff.trans s1 f5, s5, r5⟩, k.rt.fr s1 ff, k.nx.fr s1 ff,
      fun ρ5 M5 Hb5 σ5 H5 ⟨m', hm, q5⟩ f5 s5 r5 => ⟨m', hm, ρ5, M5, Hb5, q5, ff.trans s1 f5, s5, r5⟩⟩, kx.fr s1 ff⟩
  | false => exact ite_ff (k.nx _ _ _ _ _ (q1.2 rfl) ff s1 (r'.mono f1.same))⟩
end
/-! ### C(k = v, ..), whose __init__ may raise -/
section
variable {X : Cx} {kws : List Keyword} {pos p : Pos} {dk : DAX} {x : Str} {k n : Nat} {f C : Addr} {fd : FuncData} {ps ks : List Str} {spx : SpX}
theorem run_makeS {CX : CXT} {E : XK} {gV : List V → List V → List V} {g : List Value → List Value → List Value} {sp : Sp} {pins : List (Addr × Obj)} {σ : L2.St} {H : Hp} {s : Shared} {Q : VK} {us ws : List Value} {vs zs : List V} (M : Mk X.K C f) (F : FnOk X.prog X.w X.K X.mg X.base CX k f fd ps sp) (hr : Room (k + 1) X.A) (hb : KBn X.K fd ps (n + 1) ks g gV)
    (hx : PassesAt CX X σ E) (I : Inv X pins σ H s) (r : Vals vs us) (rz : Vals zs ws) (l1 : vs.length = n) (l2 : zs.length = ks.length)
    (h : ∀ x dx, H x = none → H dx = none → dx ≠ x → sp (gV (.ref x :: vs) zs) (upd (upd H dx (.own x)) x (.ins C dx [])) (fun v H2 => v = .non ∧ Q (.ref x) H2) E) :
    wpAny (model X.prog X.w) X.A (call (.ref C) us (ks.zip ws)) (EP X pins σ Q) X.xe s := by
  have hq := h (s.heap.objs.size + 1) s.heap.objs.size (I.hok.fresh (Nat.le_succ _)) (I.hok.fresh (Nat.le_refl _)) (Nat.ne_of_lt (Nat.lt_succ_self _))
  have I2 := Inv.made (C := C) I
  have r1 : Vals (V.ref (s.heap.objs.size + 1) :: vs) (Value.ref (s.heap.objs.size + 1) :: us) := .cons rfl r
  have r2 := hb.rel r1 rz
  have e1 : (Value.ref (s.heap.objs.size + 1) :: us).length = n + 1 := r1.length.symm.trans (congrArg Nat.succ l1)
  have e2 : ws.length = ks.length := rz.length.symm.trans l2
  refine wpAny_call (make_map (f := f) I.kIn M.makes M.init (beq_iff_eq.mp M.fn) (codeAny_mono (F.run _ X.stack _ _ ⟨Value.ref (s.heap.objs.size + 1) :: us, ks.zip ws⟩ (g (Value.ref (s.heap.objs.size + 1) :: us) ws) _ _ E (hr.make C us (ks.zip ws))
    (I2.env0.make C us (ks.zip ws)) (hb.to _ (Value.ref (s.heap.objs.size + 1) :: us) ws I2.kIn e1 e2) r2 hq) fun r s' hq' => ?_))
  cases r with
  | error e => exact hx pins _ _ e s' I2 hq'
  | ok fl =>
    cases fl with
    | ret u =>
      obtain ⟨v, H', I3, rv, ev, q3⟩ := I2.after hq'
      subst ev
      exact ⟨rv, ⟨V.ref (s.heap.objs.size + 1), H', I3, rfl, q3⟩⟩
    | next => exact False.elim hq'
    | brk => exact False.elim hq'
    | cont => exact False.elim hq'
def tMakeKS (C : Addr) (nk : Nat) (sp : Sp) (gV : List V → List V → List V) (E : L2.St → XK) (tk : TA) : TE := fun σ H Q => tk σ H fun zs H2 => zs.length = nk ∧
  ∀ x dx, H2 x = none → H2 dx = none → dx ≠ x → sp (gV [.ref x] zs) (upd (upd H2 dx (.own x)) x (.ins C dx [])) (fun v H3 => v = .non ∧ Q (.ref x) H3) (E σ)
theorem pe_makeKS {CX : CXT} {E : L2.St → XK} {tk : TA} {g : List Value → List Value → List Value} {gV : List V → List V → List V} {sp : Sp} (M : Mk X.K C f) (F : FnOk X.prog X.w X.K X.mg X.base CX k f fd ps sp) (hr : Room (k + 1) X.A) (hg : Gl X x) (hm : X.mg x = some (.ref C)) (hb : KBn X.K fd ps 1 ks g gV) (hx : ∀ σ, PassesAt CX X σ (E σ))
    (hkw : PK X kws tk) (hall : (backToKw pos (keywordEach kws X.env)).all (·.1.isSome) = true := by rfl) (hks : (backToKw pos (keywordEach kws X.env)).filterMap (·.1) = ks := by rfl)
    (hdb : (x == ("__debug__" : Str)) = false := by decide)
    (hpl : ((backTo pos (starEach [] X.env)).any (·.1) || (backToKw pos (keywordEach kws X.env)).any (·.1.isNone)) = false := by rfl) :
    PE X (.Call (.Name x p) [] kws pos) (tMakeKS C ks.length sp gV E tk) := by
  refine ⟨fun pins s σ H Q I h => ?_⟩
  refine wpAny_Call_Name_kw (ld_glob I hg hm ?_ hdb)
  refine PySem.W.callWith_KW0 (h₀ := X.base) I.ok.mod.kin M.kp hall (thn (hkw.run pos pins s σ H _ I h) fun ws s2 ⟨zs, H2, I2, rz, l2, q2⟩ => ⟨I2.kIn, ?_⟩) hpl
  rw [hks]
  exact run_makeS (n := 0) (us := []) (vs := []) M F hr hb (hx σ) I2 .nil rz rfl l2 q2
def xMakeK (C : Addr) (nk : Nat) (spx : SpX) (gD : List D → List D → List D) (dk : DAX) : DEX := fun XE ρ M Q => dk XE ρ M fun zs M1 => zs.length = nk ∧ ∀ p, M1 p = none → spx (gD [.cell p] zs) (updM M1 p (.ins C [] [])) (fun d M2 => d = .non ∧ ∃ z, M2 p = some z ∧ Q z (delM M2 p)) XE
theorem ex_makeK {gD : List D → List D → List D} (Mm : Mk X.K C f) (F : FnX X.prog X.w X.K X.mg X.base k f fd ps spx) (hr : Room (k + 1) X.A) (hg : Gl X x) (hm : X.mg x = some (.ref C)) (hb : KBD X.K fd ps 1 ks gD)
    (hkw : PKX X kws dk) (hall : (backToKw pos (keywordEach kws X.env)).all (·.1.isSome) = true := by rfl) (hks : (backToKw pos (keywordEach kws X.env)).filterMap (·.1) = ks := by rfl)
    (hdb : (x == ("__debug__" : Str)) = false := by decide)
    (hpl : ((backTo pos (starEach [] X.env)).any (·.1) || (backToKw pos (keywordEach kws X.env)).any (·.1.isNone)) = false := by rfl) :
    PEX X (.Call (.Name x p) [] kws pos) (xMakeK C ks.length spx gD dk) := ⟨fun W tk => by
  obtain ⟨⟨g, gV, h1, h2⟩⟩ := hb
  refine PE.imp (pe_makeKS Mm F hr hg hm h1 (fun σ => passAt tk σ) (hkw.run W tk) hall hks hdb hpl) fun σ H Q ⟨Hb, ρ, M, XE, QD, s, r, q, kk, kx⟩ => ?_
  refine ⟨Hb, ρ, M, XE, _, s, r, q, fun zs M1 Hb1 H1 vs q1 f1 s1 r1 => ⟨by rw [← r1.length]; exact q1.1, fun p dx hp hdx hne => ?_⟩, kx⟩
  obtain ⟨s2, f2⟩ := s1.extra (o := .own p) hdx
  have hp2 : (upd H1 dx (.own p)) p = none := by rw [upd_ne hne.symm]; exact hp
  obtain ⟨s3, f3⟩ := s2.newCell (o := .ins C dx []) (d := .ins C [] []) hp2 ⟨dx, [], rfl, rfl, rfl⟩
  have f03 := (f1.trans s1 f2).trans s2 f3
  refine ⟨Hb1, gD [.cell p] zs, _, _, XE, s3, h2 Hb1 _ _ _ _ (RepL.one rfl) r1, q1.2 p (s1.none_of hp).2, fun d M2 Hb2 H2 v q2 f4 s4 r4 => ?_, kx.fr s3 f03⟩
  obtain ⟨rfl, z, e1, q3⟩ := q2
  obtain ⟨Hb5, s5, f5, r5⟩ := s4.freeze e1
  exact ⟨r4, kk z _ Hb5 H2 _ q3 ((f03.trans s3 f4).trans s4 f5) s5 r5⟩⟩
end
end DL

/-! part DX7 -/
set_option maxHeartbeats 0
namespace DL
open PySem PySem.Spec PyProof.Rows L2
section
variable {X : Cx} {e a b c o i f : Expr} {es : List Expr} {pos p apos cpos : Pos} {ta tb tc : DE} {da : DA} {tA : DT} {x : Str}
/-! ### xs.count(k), ints -/
def dCount (ta tb : DE) : DE := fun ρ M Q => ta ρ M fun x M1 => (∃ ns : List Int, look M1 x = some (.lst (ns.map .int))) ∧ tb ρ M1 fun y M2 => ∃ (ns : List Int) (k : Int), look M2 x = some (.lst (ns.map .int)) ∧ y = .int k ∧ Q (.int (ns.count k : Nat)) M2
theorem de_count (ho : PED X o ta) (he : PED X e tb) (hbase : attributeBase o "count" X.env (eval o X.env) = eval o X.env := by rfl)
    (hfew : ((backTo cpos (starEach [e] X.env)).all (fun x => !x.1) && (backToKw cpos (keywordEach [] X.env)).all (fun x => x.1.isSome)
      && decide (([e] : List Expr).length + ([] : List Keyword).length + (if ([] : List Keyword).isEmpty then 0 else 1) < 30)) = true := by rfl)
    (hline : (apos.endLine == cpos.line) = true := by rfl) (hs : starEach [e] X.env = (false, eval e X.env) :: starEach [] X.env := by rfl) (hplain : (backTo cpos (starEach [] X.env)).any (·.1) = false := by rfl) :
    PED X (.Call (.Attribute o "count" apos) [e] [] cpos) (dCount ta tb) := by
  obtain ⟨⟨ua, h3, h4⟩⟩ := ho
  obtain ⟨⟨ub, h5, h6⟩⟩ := he
  refine ⟨⟨_, pe_bm PySem.F.plainAttrs_list PySem.F.slot_list_count PySem.F.type_list_count mt_lcount h3 (pa_cons h5 pa_nil hs) hbase hfew hline hs hplain, fun ρ M QD h Hb σ H Q s r k => h4 ρ M _ h Hb σ H _ s r fun x M1 Hb1 H1 w q1 f1 s1 r1 => ?_⟩⟩
  obtain ⟨⟨ns0, e0⟩, q2⟩ := q1
  obtain ⟨a, vs, rfl, ha, rl⟩ := look_lst s1 r1 e0
  refine ⟨.inl ⟨rfl, vs, .inl (.inl ha)⟩, h6 ρ M1 _ q2 Hb1 σ H1 _ s1 (r.mono f1.same) fun y M2 Hb2 H2 u q3 f2 s2 r2 => ?_⟩
  obtain ⟨ns, kk, e1, rfl, q4⟩ := q3
  cases (show u = V.int kk from r2)
  obtain ⟨a', vs', e', ha', rl'⟩ := look_lst s2 (r1.mono f2.same) e1
  cases e'
  rw [rl'.ints] at ha'
  exact ⟨a, ns, kk, rfl, rfl, .inl (.inl ha'), k _ _ _ _ _ q4 (f1.trans s1 f2) s2 rfl⟩
/-! ### {k: v}, k any expression of an int -/
def dDispK (tk tv : DE) : DE := fun ρ M Q => tk ρ M fun x M1 => match x with
  | .int k => tv ρ M1 fun d M2 => Q (.dic [.inl k] [d]) M2
  | _ => False
theorem de_dispK {k v : Expr} (hk : PED X k tb) (h : PED X v tc) : PED X (.Dict [some k] [v] pos) (dDispK tb tc) := by
  obtain ⟨⟨t0, a0, b0⟩⟩ := hk
  obtain ⟨⟨t1, a1, b1⟩⟩ := h
  refine ⟨⟨_, pe_disp (pps_cons a0 a1 pps_nil) rfl rfl (by intro z; cases z) (by show 1 ≤ 15; omega), fun ρ M QD q Hb σ H Q s r kk p hp => ?_⟩⟩
  obtain ⟨s0, f0⟩ := s.extra (o := .dK []) hp
  obtain ⟨n1, n2⟩ := s.none_of hp
  show t0 σ (upd H p (.dK [])) _
  refine b0 ρ M _ q Hb σ (upd H p (.dK [])) _ s0 r fun d0 M0 Hb0 H0 v0 q0 f00 s00 r00 => ?_
  dsimp only at q0
  split at q0
  · rename_i ki
    cases (show v0 = V.int ki from r00)
    show t1 σ H0 _
    refine b1 ρ M0 _ q0 Hb0 σ H0 _ s00 (r.mono f00.same) fun d M1 Hb1 H1 v q1 f1' s1 r1 => ?_
    have f1 := f00.trans s00 f1'
    have e1 : H1 p = some (.dK []) := f1.keep p _ upd_same n2
    obtain ⟨m1, m2⟩ := f1.out p _ upd_same n1 n2
    refine ⟨e1, [(.inl ki, v)], rfl, by show 1 ≤ 15; omega, ?_⟩
    generalize hO : (HO.dK (mergeK [] [((Sum.inl ki : Key), v)])) = O
    have hO2 : O = .dK ([(Sum.inl ki : Key)].zip [v]) := by rw [← hO]; rfl
    have sm : Same Hb1 (upd Hb1 p O) := fun b u e => by rw [upd_ne (ne_of_none e m1)]; exact e
    have s2 : Sx (upd Hb1 p O) (upd H1 p O) M1 := by
      refine ⟨fun a u z => ?_, fun q d' z => ?_⟩
      · by_cases ha : a = p
        · subst ha
          rw [upd_same] at z ⊢
          exact .inl z
        · rw [upd_ne ha] at z ⊢
          exact s1.le a u z
      · obtain ⟨e1, u, e2, e3⟩ := s1.cell q d' z
        have hq : q ≠ p := ne_cell z m2
        exact ⟨by rw [upd_ne hq]; exact e1, u, by rw [upd_ne hq]; exact e2, e3.mono sm⟩
    have f2 : Fr Hb H M (upd Hb1 p O) (upd H1 p O) M1 := by
      have f01 := f0.trans s0 f1
      refine ⟨f01.same.trans sm, fun a o e hm => by rw [upd_ne (ne_of_none e hp)]; exact f01.keep a o e hm, fun a o e h1 h2 => ?_⟩
      obtain ⟨y1, y2⟩ := f01.out a o e h1 h2
      exact ⟨by rw [upd_ne (ne_of_none e hp)]; exact y1, y2⟩
    exact kk _ _ _ _ _ q1 f2 s2 ⟨p, [v], rfl, by rw [upd_same, hO2], rfl, RepL.one (r1.mono sm)⟩
  · exact q0.elim
end
/-! ### an own __eq__, isinstance of an own class -/
structure EqC (K : PySem.W.Frag) (C f : Addr) : Prop where
  eq : PySem.W.findIn K (.ref C) "__eq__" = some (some (.ref f))
  fn : PySem.W.isFn K (.ref f) = true
  nC : PySem.W.notFirst K C (.ref C) = true
  nS : PySem.W.notFirst K C (.type "str") = true
  icl : PySem.W.findIn K (.ref C) "__class__" = some (some (.builtin "object.__class__"))
  ign : PySem.W.specialIn K (.builtin "object.__class__") "__get__" = some (some (.builtin "getset_descriptor.__get__"))
  itk : PySem.W.takesIn K (.builtin "object.__class__") = some true
  imr : PySem.W.mroIn K C (.type "object") = some true
  kCC : PySem.W.kitOne K (.ref C) (.ref C) = some true
  kSC : PySem.W.kitOne K (.type "str") (.ref C) = some false
  kCS : PySem.W.kitOne K (.ref C) (.type "str") = some false
def eqcB (K : PySem.W.Frag) (C f : Addr) : Bool :=
  decide (PySem.W.findIn K (.ref C) "__eq__" = some (some (.ref f))) && (PySem.W.isFn K (.ref f) && (PySem.W.notFirst K C (.ref C) && (PySem.W.notFirst K C (.type "str") && (decide (PySem.W.findIn K (.ref C) "__class__" = some (some (.builtin "object.__class__"))) &&
  (decide (PySem.W.specialIn K (.builtin "object.__class__") "__get__" = some (some (.builtin "getset_descriptor.__get__"))) && (decide (PySem.W.takesIn K (.builtin "object.__class__") = some true) && (decide (PySem.W.mroIn K C (.type "object") = some true) &&
  (decide (PySem.W.kitOne K (.ref C) (.ref C) = some true) && (decide (PySem.W.kitOne K (.type "str") (.ref C) = some false) && decide (PySem.W.kitOne K (.ref C) (.type "str") = some false))))))))))
theorem eqcB_ok {K : PySem.W.Frag} {C f : Addr} (h : eqcB K C f = true) : EqC K C f := by
  unfold eqcB at h
  simp only [Bool.and_eq_true, decide_eq_true_eq] at h
  obtain ⟨h1, h2, h3, h4, h5, h6, h7, h8, h9, ha, hb⟩ := h
  exact ⟨h1, h2, h3, h4, h5, h6, h7, h8, h9, ha, hb⟩
section
variable {X : Cx} {k : Nat} {f C : Addr} {fd : FuncData} {ps : List Str} {spd : SpD}
def cIsOwn (C : Addr) : DCl := fun xs M Q => match xs with
  | [x, .cell C'] => C' = C ∧ (((∃ fs ds, look M x = some (.ins C fs ds)) ∧ Q (.bl true) M) ∨ ((∃ z, x = .str z) ∧ Q (.bl false) M))
  | _ => False
theorem c_isOwn (c : EqC X.K C f) (cl : Cls X.K C) : ClD X (.builtin "isinstance") (cIsOwn C) := ⟨⟨_, call_isi, fun xs M QD h Hb H vs Q s r k => by
  unfold cIsOwn at h
  split at h
  · rename_i x C'
    obtain ⟨v, w, rfl, r1, r2⟩ := rep2 r
    cases (show w = V.ref C' from r2)
    obtain ⟨rfl, h⟩ := h
    rcases h with ⟨⟨fs, ds, e1⟩, q⟩ | ⟨⟨z, rfl⟩, q⟩
    · obtain ⟨a, dx, ws, rfl, ha, _, _⟩ := look_ins s r1 e1
      exact ⟨_, _, _, _, _, rfl, .own C', .base (.ins ha cl c.icl c.ign c.itk c.imr), c.kCC, k _ M Hb H _ q (Fr.refl _ _ _) s rfl⟩
    · cases (show v = V.str z from r1)
      exact ⟨_, _, _, _, _, rfl, .own C', .base (.str z), c.kSC, k _ M Hb H _ q (Fr.refl _ _ _) s rfl⟩
  · exact h.elim⟩⟩
def dEqOwn (C : Addr) (sp : SpD) : DR := fun x y M Q => (∃ fs ds, look M x = some (.ins C fs ds)) ∧ ((∃ fs ds, look M y = some (.ins C fs ds)) ∨ ∃ z, y = .str z) ∧ sp [x, y] M (fun d M' => ∃ b, d = .bl b ∧ Q (.bl b) M')
def rEqOwn (C : Addr) (sp : Sp) : R2 := fun x y H Q => ∃ a dx fs, x = .ref a ∧ H a = some (.ins C dx fs) ∧ ((∃ b dy gs, y = .ref b ∧ H b = some (.ins C dy gs)) ∨ ∃ z, y = .str z) ∧ sp [x, y] H (fun v H' => ∃ b, v = .bl b ∧ Q (.bl b) H') (fun _ _ _ => False)
theorem op_eqOwn {sp : Sp} (c : EqC X.K C f) (F : FnOk X.prog X.w X.K X.mg X.base CX0 k f fd ps sp) (hr : Room k X.A) (hb : Binds X.K fd ps []) : OpR X (compareOp .Eq) (rEqOwn C sp) := by
  intro pins s σ H x y v u Q I rx ry hq
  obtain ⟨a, dx, fs, rfl, ha, hy, hsp⟩ := hq
  show wpAny (model X.prog X.w) X.A (richCompare .Eq v u) (EP X pins σ Q) X.xe s
  cases (show v = Value.ref a from rx)
  obtain ⟨mA, J, _⟩ := ins_get I.hok ha
  obtain ⟨od, J, _⟩ := J.look
  obtain ⟨m, hF⟩ := I.fr
  have hu : ∃ tb, PySem.W.Looks (model X.prog X.w) s.heap (typeOf u) tb ∧ PySem.W.notFirst X.K C tb = true := by
    rcases hy with ⟨b, dy, gs, rfl, hb'⟩ | ⟨z, rfl⟩
    · cases (show u = Value.ref b from ry)
      obtain ⟨mB, J', _⟩ := ins_get I.hok hb'
      obtain ⟨od', J', _⟩ := J'.look
      exact ⟨_, J'.type, c.nC⟩
    · obtain ⟨t, q⟩ := (show ∃ t, u = Value.str z t from ry)
      cases q
      exact ⟨.type "str", PySem.W.Looks.now, c.nS⟩
  obtain ⟨tb, hl, hn⟩ := hu
  refine PySem.W.cmp_K (op := .Eq) (tb := tb) hr.units0 hF I.ok.mod.kin J hl hn c.eq c.fn ?_
  have r2 : Vals [V.ref a, y] [Value.ref a, u] := .cons rfl (.cons ry .nil)
  have q := run_fn (ds := []) (dvs := []) (us := [.ref a, u]) (vs := [.ref a, y]) F hr hb .nil pass0 I r2 (by rw [List.append_nil]; exact hsp)
  refine wpAny_mono q (fun r s' z => ?_) fun _ _ x => x
  obtain ⟨w, H', I', rw', b, rfl, q2⟩ := z
  cases (show r = Value.bool b from rw')
  exact ⟨V.bl b, H', I', rfl, q2⟩
theorem o_eqOwn (c : EqC X.K C f) (F : FnD X.prog X.w X.K X.mg X.base k f fd ps spd) (hr : Room k X.A) (hb : Binds X.K fd ps []) : OpD X (compareOp .Eq) (dEqOwn C spd) := ⟨⟨_, op_eqOwn c F hr hb, fun x y M QD h Hb H vx vy Q s rx ry kk => by
  obtain ⟨⟨fs, ds, e1⟩, hy, q⟩ := h
  obtain ⟨a, dx, ws, rfl, ha, _, _⟩ := look_ins s rx e1
  refine ⟨a, dx, _, rfl, ha, ?_, Hb, [x, y], M, _, s, ⟨_, _, rfl, rx, _, _, rfl, ry, rfl⟩, q, fun d M' Hb' H' v q2 f2 s2 r2 => ?_⟩
  · rcases hy with ⟨gs, es, e2⟩ | ⟨z, rfl⟩
    · obtain ⟨b, dy, us, rfl, hb', _, _⟩ := look_ins s ry e2
      exact .inl ⟨b, dy, _, rfl, hb'⟩
    · exact .inr ⟨z, ry⟩
  · obtain ⟨b, rfl, q3⟩ := q2
    cases (show v = V.bl b from r2)
    exact ⟨b, rfl, kk _ _ _ _ _ q3 f2 s2 rfl⟩⟩⟩
end
/-! ### isinstance(e, (T1, T2)) of the caught exception -/
section
variable {X : Cx} {a : Addr} {oe : Obj} {cls : Value} {d : Option Addr} {pn : List (Addr × Obj)}
def rIsXT (K : PySem.W.Frag) (a : Addr) (cls : Value) (d : Option Addr) (ok : Addr → V → Bool → Prop) : List V → Hp → VK → Prop := fun xs H Q => ∃ (C dd : Addr) (fs : List (Str × V)) (c1 c2 : V) (tp : Addr) (b1 b2 : Bool), xs = [.ref a, .ref tp] ∧ H tp = some (.tup [c1, c2]) ∧ cls = .ref C ∧ d = some dd ∧ H dd = some (.xd fs) ∧ ok C c1 b1 ∧ ok C c2 b2 ∧ Q (.bl (b1 || b2)) H
theorem call_isXT {ok : Addr → V → Bool → Prop} (T : ∀ C c b, ok C c b → ExcC X.K C ∧ ∃ cv, (∀ u, RelV c u → u = cv) ∧ PySem.W.kitOne X.K (.ref C) cv = some b) (hz : Zc cls d oe) (hf : ∃ vs, oe.data = .fields vs) : CallR (X.suite a ((a, oe) :: pn)) (.builtin "isinstance") (rIsXT X.K a cls d ok) := by
  intro pins s σ H xs us Q I r h
  obtain ⟨C, dd, fs, c1, c2, tp, b1, b2, rfl, hT, rfl, rfl, ea, ho1, ho2, q⟩ := h
  obtain ⟨E, cv1, hcv1, e1⟩ := T C c1 b1 ho1
  obtain ⟨_, cv2, hcv2, e2⟩ := T C c2 b2 ho2
  obtain ⟨u1, u2, rfl, r1, r2⟩ := vals2 r
  cases (show u1 = Value.ref a from r1)
  cases (show u2 = Value.ref tp from r2)
  obtain ⟨_, its, rv, o, h1, h2, n, h3⟩ := (show ObjOk X.prog X.w H s.heap tp (.tup [c1, c2]) from I.hok tp _ hT)
  obtain ⟨w1, w2, rfl, k1, k2⟩ := vals2 rv
  have g1 := hcv1 _ k1
  have g2 := hcv2 _ k2
  subst g1 g2
  obtain ⟨oc, od, dt, sl⟩ := o
  simp only at h2 h3
  subst h2 h3
  obtain ⟨hget, _⟩ := I.pin (a, oe) (List.mem_append.mpr (.inl List.mem_cons_self))
  obtain ⟨vs, hv⟩ := hf
  have hx : ObjOk X.prog X.w H s.heap dd (.xd fs) := I.hok dd _ ea
  obtain ⟨mA, hns, hr⟩ := hx
  obtain ⟨od2, ho, hl⟩ := lookIn_ns hns
  have J : PySem.W.InstAt s.heap a oe C (some od2) := ⟨hget, hz.1, by unfold PySem.W.notCls; rw [hv] <;> rfl, by rw [hz.2]; exact ho⟩
  have hcl : (PySem.W.clsIn X.K C).isSome = true := by
    obtain ⟨cd, hc, _⟩ := PySem.W.any_some E.hd
    rw [hc]; rfl
  have ek : PySem.W.kitAny X.K (.ref C) [w1, w2] = some (b1 || b2) := kitAny_cons e1 (fun hb => by rw [hb, Bool.false_or]; exact kitAny_cons e2 (fun hb => by rw [hb]; exact kitAny_nil) (fun hb => hb)) (fun hb => by rw [hb]; rfl)
  exact PySem.W.kia_tup (PySem.W.kitx_exc (od := some od2) hcl E.hg E.hk E.hs E.ha E.hn E.ht E.hm) I.kIn J h1 ek (fun z => nomatch z) fun tk => ⟨.bl (b1 || b2), H, I.kept (t' := tk) fun _ _ z => z, rfl, q⟩
def cIsXT (a : Addr) (cls : Value) (d : Option Addr) (ok : Addr → D → Bool → Prop) : DCl := fun xs M Q => match xs with
  | [.exc a' C dd _ _, .tup [c1, c2]] => a' = a ∧ cls = .ref C ∧ d = some dd ∧ ∃ b1 b2, ok C c1 b1 ∧ ok C c2 b2 ∧ Q (.bl (b1 || b2)) M
  | _ => False
theorem c_isXT {ok : Addr → D → Bool → Prop} (T : ∀ C c b, ok C c b → ∃ v, valOf c = some v ∧ ExcC X.K C ∧ ∃ cv, (∀ u, RelV v u → u = cv) ∧ PySem.W.kitOne X.K (.ref C) cv = some b) (hz : Zc cls d oe) (hf : ∃ vs, oe.data = .fields vs) :
    ClD (X.suite a ((a, oe) :: pn)) (.builtin "isinstance") (cIsXT a cls d ok) :=
  ⟨⟨_, call_isXT (ok := fun C v b => ∃ c, valOf c = some v ∧ ok C c b) (fun C v b ⟨c, e, h⟩ => by
      obtain ⟨v', e', h1, h2⟩ := T C c b h
      rw [e] at e'
      cases e'
      exact ⟨h1, h2⟩) hz hf, fun xs M QD h Hb H vs Q s r k => by
    unfold cIsXT at h
    split at h
    · rename_i a' C dd fs ds c1 c2
      obtain ⟨rfl, ec, ed, b1, b2, hb1, hb2, q⟩ := h
      obtain ⟨v0, vr, rfl, r0, v1, vr1, rfl, r1, rfl⟩ := r
      obtain ⟨rfl, vs, h2, h3, h4⟩ := exc_at s r0
      obtain ⟨tp, ws, rfl, ha, rl⟩ := look_tup (M := M) s r1 rfl
      obtain ⟨x1, x2, rfl, k1, k2⟩ := rep2 rl
      have ev : ∀ {c : D} {b : Bool} {z : V}, ok C c b → Rep Hb c z → valOf c = some z := fun {c b z} hb rz => by
        obtain ⟨v, e, _⟩ := T C c b hb
        cases c <;> simp only [valOf, reduceCtorEq, Option.some.injEq] at e ⊢
        · exact rz.symm
        · exact rz.symm
      exact ⟨C, dd, _, x1, x2, tp, b1, b2, rfl, ha, ec, ed, h2, ⟨c1, ev hb1 k1, hb1⟩, ⟨c2, ev hb2 k2, hb2⟩, k _ _ _ _ _ q (Fr.refl _ _ _) s rfl⟩
    · exact h.elim⟩⟩
end
end DL

/-! part DX8 -/
set_option maxHeartbeats 0
namespace RZ
open PySem PySem.Spec PyProof.Rows L2
def tLenSetG (K : PySem.W.Frag) (ta : TE) : TE := fun σ H Q => ta σ H fun x H1 => ∃ (l : Addr) (ns : List Int), x = .ref l ∧ SqL K H1 l (ns.map V.int) ∧ ns.length ≤ 4000 ∧ Q (.int ((PyProof.Rows.firstMet (fun i => ns.getD i 0) ns.length).length : Nat)) H1
theorem firstMet_le (f : Nat → Int) : ∀ i, (PyProof.Rows.firstMet f i).length ≤ i
  | 0 => Nat.le_refl _
  | i + 1 => by
    rw [PyProof.Rows.firstMet_succ]
    unfold PyProof.Rows.step_dedup
    have := firstMet_le f i
    split
    · omega
    · rw [List.length_append]
      show _ + 1 ≤ _
      omega
theorem firstMet_mem (f : Nat → Int) : ∀ i x, x ∈ PyProof.Rows.firstMet f i ↔ ∃ j, j < i ∧ f j = x
  | 0, x => by
    constructor
    · intro h; cases h
    · rintro ⟨j, hj, _⟩; omega
  | i + 1, x => by
    rw [PyProof.Rows.firstMet_succ]
    unfold PyProof.Rows.step_dedup
    have ih := firstMet_mem f i
    split
    · rename_i e
      rw [ih]
      constructor
      · rintro ⟨j, hj, e2⟩; exact ⟨j, by omega, e2⟩
      · rintro ⟨j, hj, e2⟩
        by_cases h : j = i
        · subst h
          obtain ⟨y, hy, ey⟩ := List.any_eq_true.mp e
          have := eq_of_beq ey
          rw [← e2, ← this]
          exact (ih y).mp hy
        · exact ⟨j, by omega, e2⟩
    · rw [List.mem_append, ih, List.mem_singleton]
      constructor
      · rintro (⟨j, hj, e2⟩ | rfl)
        · exact ⟨j, by omega, e2⟩
        · exact ⟨i, by omega, rfl⟩
      · rintro ⟨j, hj, e2⟩
        by_cases h : j = i
        · subst h; exact .inr e2.symm
        · exact .inl ⟨j, by omega, e2⟩
theorem firstMet_full (f : Nat → Int) : ∀ i, (PyProof.Rows.firstMet f i).length = i → ∀ j k, j < k → k < i → f j ≠ f k
  | 0, _, j, k, _, h => absurd h (Nat.not_lt_zero _)
  | i + 1, h, j, k, hjk, hk => by
    rw [PyProof.Rows.firstMet_succ] at h
    unfold PyProof.Rows.step_dedup at h
    have hl := firstMet_le f i
    split at h
    · omega
    · rename_i e
      rw [List.length_append] at h
      have h' : (PyProof.Rows.firstMet f i).length = i := by
        have : (PyProof.Rows.firstMet f i).length + 1 = i + 1 := h
        omega
      by_cases hki : k = i
      · subst hki
        intro z
        refine e (List.any_eq_true.mpr ⟨f j, (firstMet_mem f k _).mpr ⟨j, hjk, rfl⟩, ?_⟩)
        rw [z]
        exact beq_self_eq_true _
      · exact firstMet_full f i h' j k hjk (by omega)
theorem firstMet_iff (ns : List Int) : (PyProof.Rows.firstMet (fun i => ns.getD i 0) ns.length).length = ns.length ↔ ns.Nodup := by
  constructor
  · intro h
    refine List.pairwise_iff_getElem.mpr fun i j hi hj hij => ?_
    have := firstMet_full _ _ h i j hij hj
    rwa [List.getD_eq_getElem?_getD, List.getD_eq_getElem?_getD, List.getElem?_eq_getElem hi, List.getElem?_eq_getElem hj] at this
  · intro h
    rw [firstMet_nodup h _ (Nat.le_refl _), List.take_length]
theorem pe_lenSetG {X : Cx} {a : Expr} {ta : TE} {p p2 q pos : Pos} (hg : Gl X "len") (hm : X.mg "len" = none) (hg2 : Gl X "set") (hm2 : X.mg "set" = none) (ha : PE X a ta) (hc : X.calm = true := by rfl)
    (na : starEach [a] X.env = (false, eval a X.env) :: starEach [] X.env := by rfl) : PE X (.Call (.Name "len" p) [.Call (.Name "set" p2) [a] [] q] [] pos) (tLenSetG X.K ta) := by
  refine ⟨fun pins s σ H Q I h => ?_⟩
  refine Call_ (ld_blt I hg hm boot_len ?_)
  refine PyProof.Rows.callWith_builtin1 (PyProof.Rows.args_cons ?_ rfl) rfl rfl
  refine Call_ (ld_blt I hg2 hm2 boot_set ?_)
  refine PyProof.Rows.callWith_type1 (PyProof.Rows.args_cons (thn (ha.run pins s σ H _ I h) fun v s1 ⟨x, H1, I1, r1, q1⟩ => PyProof.Rows.args_nil ?_) na) na rfl
  obtain ⟨l, ns, rfl, hq, hl, q1⟩ := q1
  cases r1
  obtain ⟨its, r, pl, hz⟩ := I1.list hq
  have hlen : its.toArray.size = ns.length := by rw [List.size_toArray, ← r.length, List.length_map]
  refine call_set_list (I1.ok.hd hc) pl.isList (by simpa using intsAre_vals r) (by rw [hlen]; unfold scanBound; omega) fun h' tk hS hk => ?_
  refine PyProof.Rows.args_nil ?_
  rw [hlen] at hS
  have hle := firstMet_le (fun i => ns.getD i 0) ns.length
  obtain ⟨o, es, ep, t, ho, hex, hd, _, _, _, hf, hn⟩ := hS
  have I2 : Inv X pins σ H1 { s1 with heap := h', toks := tk } := I1.kept fun b o e => hk b o (Heap.lt_size e) e
  exact call_len_set ho hex hd hf (by rw [hn] <;> omega) ⟨.int (PyProof.Rows.firstMet (fun i => ns.getD i 0) ns.length).length, H1, I2.tok _, ⟨_, by rw [hn]⟩, q1⟩
end RZ
namespace DL
open PySem PySem.Spec PyProof.Rows L2
section
variable {X : Cx} {a : Expr} {ta : DE} {pos p : Pos}
/-- len(set(ints)) -/
def dLenSetG (ta : DE) : DE := fun ρ M Q => ta ρ M fun x M1 => ∃ ns : List Int, look M1 x = some (.lst (ns.map .int)) ∧ ns.length ≤ 4000 ∧ ∀ k : Nat, k ≤ ns.length → (k = ns.length ↔ ns.Nodup) → Q (.int k) M1
theorem de_lenSetG {p2 q : Pos} (hc : X.calm = true) (hg : Gl X "len") (hm : X.mg "len" = none) (hg2 : Gl X "set") (hm2 : X.mg "set" = none) (ha : PED X a ta)
    (na : starEach [a] X.env = (false, eval a X.env) :: starEach [] X.env := by rfl) : PED X (.Call (.Name "len" p) [.Call (.Name "set" p2) [a] [] q] [] pos) (dLenSetG ta) := by
  obtain ⟨⟨t1, a1, b1⟩⟩ := ha
  refine ⟨⟨_, RZ.pe_lenSetG hg hm hg2 hm2 a1 hc na, fun ρ M QD h Hb σ H Q s r k => b1 ρ M _ h Hb σ H _ s r fun d M1 Hb1 H1 v q1 f1 s1 r1 => ?_⟩⟩
  obtain ⟨ns, e1, hl, q1⟩ := q1
  obtain ⟨a', vs, rfl, ha', rl⟩ := look_lst s1 r1 e1
  have := rl.ints
  subst this
  exact ⟨a', ns, rfl, .inl (.inl ha'), hl, k _ M1 _ _ _ (q1 _ (RZ.firstMet_le _ _) (RZ.firstMet_iff ns)) f1 s1 rfl⟩
end
theorem xseq_cut {t u : DSX} {XE : XS} {P : DEnds} {ρ : Env} {M : Mp} (Mid : Env → Mp → Prop) (h1 : ∀ N : Env → Mp → Prop, (∀ ρ' M', Mid ρ' M' → N ρ' M') → t XE { P with nx := N } ρ M) (h2 : ∀ ρ' M', Mid ρ' M' → u XE P ρ' M') : xSeq t u XE P ρ M := h1 _ h2
section
variable {X : Cx} {f C : Addr}
/-- isinstance(x, T), x an instance of C or what has a kind -/
def cIsiI (C : Addr) : DCl := fun xs M Q => cIsi xs M Q ∨ match xs with
  | [x, .ty n] => n = "str" ∧ (∃ fs ds, look M x = some (.ins C fs ds)) ∧ Q (.bl false) M
  | _ => False
theorem c_isiI (c : EqC X.K C f) (cl : Cls X.K C) : ClD X (.builtin "isinstance") (cIsiI C) := ⟨⟨_, call_isi, fun xs M QD h Hb H vs Q s r k => by
  unfold cIsiI at h
  rcases h with h | h
  · unfold cIsi at h
    split at h
    · rename_i x n
      obtain ⟨v, w, rfl, r1, r2⟩ := rep2 r
      cases (show w = V.ty n from r2)
      obtain ⟨hn, kk, e1, q⟩ := h
      exact ⟨v, .ty n, .type kk, .type n, _, rfl, .ty n, kind_ty s r1 e1, kit_ty (kit_at (kind_in e1) hn), k _ M Hb H _ q (Fr.refl _ _ _) s rfl⟩
    · exact h.elim
  · split at h
    · rename_i x n
      obtain ⟨v, w, rfl, r1, r2⟩ := rep2 r
      cases (show w = V.ty n from r2)
      obtain ⟨rfl, ⟨fs, ds, e1⟩, q⟩ := h
      obtain ⟨a, dx, ws, rfl, ha, _, _⟩ := look_ins s r1 e1
      exact ⟨_, _, _, _, _, rfl, .ty "str", .base (.ins ha cl c.icl c.ign c.itk c.imr), c.kCS, k _ M Hb H _ q (Fr.refl _ _ _) s rfl⟩
    · exact h.elim⟩⟩
end
end DL

/-! part DX9 -/
set_option maxHeartbeats 0
/-! a dict comprehension over items as a cell -/
namespace DL
open PySem PySem.Spec PyProof.Rows L2
section
variable {X : Cx} {e a b c o i f : Expr} {es : List Expr} {pos p apos cpos : Pos} {ta tb tc : DE} {da : DA} {tA : DT} {x : Str}
theorem gatherK_coreC {gt : TG} {gd : CG} {tt : DT} {tk te : DE} {ut : TT} {uk ue : TE} {vs : List Nat} (hg : GW gt vs gd) (ht : SndT ut tt) (hk : SndE uk tk) (he : SndE ue te) {ds : List D} {ρ : Env} {M : Mp} {QD : List Key → List D → Mp → Prop} (h : dGatherK ds gd tt tk te vs ρ M QD)
    {Hb H : Hp} {σ : L2.St} {Q : VK} {J : It} (s : Sx Hb H M) (r : EnvR Hb σ ρ) (k : OK Hb H M (fun x M' => ∃ ks acc p M0, x = .cell p ∧ M0 p = none ∧ M' = updM M0 p (.dic ks acc) ∧ QD ks acc M0) Q) (it : ItD J Hb H M ds) {Dl : Addr} (hD : H Dl = none) :
    ∃ W : Nat → Nat → Hp → Prop, (∃ m, W 0 m (upd H Dl (.dK []))) ∧ ∀ i m H, W i m H →
      (J.stop i H ∧ Q (.ref Dl) H) ∨ (J.go i H ∧ ∃ Nx : Hp → Prop, (∀ H', Nx H' → ∃ m', m' < m ∧ W (i + 1) m' H') ∧ ∀ x H', J.yld i H x H' → gt x (L2.wipe σ vs) H' fun σ2 H2 => L2.wipe σ2 vs = L2.wipe σ vs ∧ ut σ2 H2 fun b H3 =>
        if b = true then uk σ2 H3 fun y H4 => ue σ2 H4 fun z H5 => ∃ kvs k, y = kV k ∧ H5 Dl = some (.dK kvs) ∧ kvs.length < sizeLine ∧ Nx (upd H5 Dl (.dK (putK kvs k z))) else Nx H3) := by
  obtain ⟨hl, W, w0, ws, we⟩ := h
  have hsz := big16
  obtain ⟨n1, n2⟩ := s.none_of hD
  let St (i : Nat) (H' : Hp) : Prop := ∃ ks acc M' Hb' xs, W i ks acc M' ∧ ks.length ≤ i ∧ ks.length = acc.length ∧ Fr Hb H M Hb' H' M' ∧ Sx Hb' H' M' ∧ H' Dl = some (.dK (ks.zip xs)) ∧ RepL Hb' acc xs ∧ Hb' Dl = none ∧ M' Dl = none
  obtain ⟨s0, f0⟩ := s.extra (o := .dK []) hD
  refine ⟨fun i m H' => m = ds.length - i ∧ i ≤ ds.length ∧ St i H', ⟨ds.length, rfl, Nat.zero_le _, [], [], M, Hb, [], w0, Nat.le_refl _, rfl, f0, s0, upd_same, rfl, n1, n2⟩, ?_⟩
  rintro i m H' ⟨rfl, hi, ks, acc, M', Hb', xs, w, ha, hka, f, s', hx, rx, m1, m2⟩
  obtain ⟨stop, go⟩ := it Hb' H' M' f s' i
  by_cases hlt : i < ds.length
  · obtain ⟨g1, g2⟩ := go _ (List.getElem?_eq_getElem hlt)
    refine .inr ⟨g1, St (i + 1), fun H2 q => ⟨ds.length - (i + 1), by omega, rfl, hlt, q⟩, fun x H3 y => ?_⟩
    obtain ⟨Hb3, f3, s3, r3⟩ := g2 x H3 y
    obtain ⟨ρ2, e2, q2⟩ := ws i _ ks acc M' (List.getElem?_eq_getElem hlt) w ha
    have ff3 := f.trans s' f3
    refine hg _ x Hb3 H3 M' _ ρ2 σ _ s3 r3 ((r.wipe vs).mono (f.trans s' f3).same) e2 fun σ2 rσ hw => ⟨hw, ?_⟩
    refine ht ρ2 M' _ q2 Hb3 σ2 H3 _ s3 rσ fun b M4 Hb4 H4 q4 f4 s4 => ?_
    have ff4 := ff3.trans s3 f4
    have x3 : H3 Dl = some (.dK (ks.zip xs)) := f3.keep _ _ hx m2
    obtain ⟨y1, y2⟩ := f3.out _ _ hx m1 m2
    have x4 : H4 Dl = some (.dK (ks.zip xs)) := f4.keep _ _ x3 y2
    obtain ⟨z1, z2⟩ := f4.out _ _ x3 y1 y2
    cases b with
    | true =>
      refine ite_tt (hk ρ2 M4 _ (q4.1 rfl) Hb4 σ2 H4 _ s4 (rσ.mono f4.same) fun d M5 Hb5 H5 v q5 f5 s5 r5 => he ρ2 M5 _ q5 Hb5 σ2 H5 _ s5 ((rσ.mono f4.same).mono f5.same) fun d' M6 Hb6 H6 v' q6 f6 s6 r6 => ?_)
      obtain ⟨kk, ek, hnk, q7⟩ := q6
      have f56 := f5.trans s5 f6
      have x6 : H6 Dl = some (.dK (ks.zip xs)) := f56.keep _ _ x4 z2
      obtain ⟨u1, u2⟩ := f56.out _ _ x4 z1 z2
      have hlx : ks.length = xs.length := by rw [hka, rx.length]
      refine ⟨ks.zip xs, kk, keyD_rep ek (r5), x6, by rw [List.length_zip, hlx, Nat.min_self, ← hlx]; omega, ?_⟩
      have ep : putK (ks.zip xs) kk v' = (ks ++ [kk]).zip (xs ++ [v']) := by
        rw [putK_new, List.zip_append hlx]
        · rfl
        · unfold valV
          rw [Option.map_eq_none_iff, List.find?_eq_none]
          intro q hq
          simp only [decide_eq_true_eq]
          intro z
          exact hnk (by rw [← z]; exact (List.of_mem_zip (a := q.1) (b := q.2) hq).1)
      rw [ep]
      refine ⟨ks ++ [kk], acc ++ [d'], M6, Hb6, xs ++ [v'], q7, by rw [List.length_append, List.length_singleton]; omega, by simp [hka], ?_, ?_, upd_same, ((rx.mono f3.same).mono (f4.trans s4 f56).same).append (RepL.one r6), u1, u2⟩
      · have ff5 := ff4.trans s4 f56
        exact ⟨ff5.same, fun a o e q => by rw [upd_ne (ne_of_none e hD)]; exact ff5.keep a o e q, ff5.out⟩
      · refine ⟨fun a o e => ?_, fun p d' e => ?_⟩
        · rw [upd_ne (ne_of_none e u1)]
          exact s6.le a o e
        · rw [upd_ne (ne_cell e u2)]
          exact s6.cell p d' e
    | false => exact ite_ff ⟨ks, acc, M4, Hb4, xs, q4.2 rfl, by omega, hka, ff4, s4, x4, (rx.mono f3.same).mono f4.same, z1, z2⟩
  · have e : i = ds.length := by omega
    subst e
    refine .inl ⟨stop (Nat.le_refl _), ?_⟩
    have s6 : Sx Hb' H' (updM M' Dl (.dic ks acc)) := by
      refine ⟨s'.le, fun q d' z => ?_⟩
      by_cases hq : q = Dl
      · subst hq
        rw [updM_same] at z
        cases z
        exact ⟨m1, _, hx, xs, rfl, hka, rx⟩
      · rw [updM_ne hq] at z
        exact s'.cell q d' z
    refine k (.cell Dl) _ Hb' H' _ ⟨ks, acc, Dl, M', rfl, m2, rfl, we ks acc M' w⟩ ⟨f.same, f.keep, fun a o e h1 h2 => ?_⟩ s6 rfl
    obtain ⟨y1, y2⟩ := f.out a o e h1 h2
    exact ⟨y1, by rw [updM_ne (ne_of_none e hD)]; exact y2⟩
def dDcItemsC (pth : Env → Mp → Option D) (gd : CG) (tt : DT) (tk te : DE) (vs : List Nat) : DE := fun ρ M Q => ∃ ks ds, pth ρ M = some (.dic ks ds) ∧ dGatherK (itemsD ks ds) gd tt tk te vs ρ M fun ks' acc M2 => ∀ p, M2 p = none → Q (.cell p) (updM M2 p (.dic ks' acc))
theorem de_dcItemsC {kx vx : Expr} {elts : List Expr} {kk : Nat} {tpos apos cpos : Pos} {ifs : List Expr} {scope : Scope} {own : List (Str × Nat)} {gt : TG} {gd : CG} {tt : DT} {tk te : DE} {pth : Env → Mp → Option D} (hc : X.calm = true) (hN : X.N.Nodup) (hi : PPD X e pth) (ok : BlkOk X.N X.env.scope scope own)
    (hg : Blk X scope fun Y => PG Y (.Tuple elts kk tpos) gt) (gw : GW gt (own.map (·.2)) gd) (ht : Blk X scope fun Y => PTsD Y ifs tt) (hk : Blk X scope fun Y => PED Y kx tk) (he : Blk X scope fun Y => PED Y vx te)
    (hbase : attributeBase e "items" X.env (eval e X.env) = eval e X.env := by rfl) (hline : (apos.endLine == cpos.line) = true := by rfl)
    (hs : ∀ x, foldedSetIterable (.Call (.Attribute e "items" apos) [] [] cpos) X.env x = pure x := by intro _; rfl) :
    PED X (.DictComp kx vx [⟨.Tuple elts kk tpos, .Call (.Attribute e "items" apos) [] [] cpos, ifs, 0⟩] scope pos) (dDcItemsC pth gd tt tk te (own.map (·.2))) := by
  obtain ⟨⟨t0, a0, b0⟩⟩ := hi
  have hdc := pe_dc hc hN (pi_items (elts := elts) (kk := kk) (tpos := tpos) a0 hbase hline) ok hg (fun s H C cl fp => (ht s H C cl fp).low) (fun s H C cl fp => (hk s H C cl fp).low) (fun s H C cl fp => (he s H C cl fp).low) hs (pos := pos)
  refine ⟨⟨_, pe_either hdc (pe_lock hdc), fun ρ M QD h Hb σ H Q s r k => ?_⟩⟩
  obtain ⟨ks, ds, e1, q⟩ := h
  obtain ⟨v, rv, hv⟩ := b0.at_ ρ M _ e1 Hb σ H s r
  obtain ⟨a, vs, rfl, hba, hl, rl⟩ := id rv
  rcases s.le a _ hba with ha | ⟨kvs, od, ek, ha⟩
  · right
    refine ⟨a, .dK (ks.zip vs), ha, True.intro, fun od => ?_⟩
    have s1 := locked hba s od
    refine hv _ (fun b C dx fs hbb => ?_) _ ⟨a, od, ks.zip vs, rfl, upd_same, fun Dl hD => ?_⟩
    · have : b ≠ a := fun z => by subst z; rw [ha] at hbb; cases hbb
      rw [upd_ne this]
      exact hbb
    refine gatherK_coreC (Q := fun v H' => H' a = some (.frz od (.dK (ks.zip vs))) ∧ Q v (upd H' a (.dK (ks.zip vs)))) gw (snd_lowT _) (snd_lowE _) (snd_lowE _) q s1 r (fun d M2 Hb2 H2 v ⟨ks', acc, p, M0, e, hp0, e0, q2⟩ f2 s2 r2 => ?_) (it_items hl rl hba s1 upd_same) hD
    obtain ⟨u1, u2, u3⟩ := unlock hba ha s f2 s2
    exact ⟨u1, k d M2 Hb2 _ v (by rw [e, e0]; exact q2 p hp0) u2 u3 r2⟩
  · left
    cases ek
    exact hv H (fun _ _ _ _ z => z) _ ⟨a, od, ks.zip vs, rfl, ha, fun Dl hD => gatherK_coreC gw (snd_lowT _) (snd_lowE _) (snd_lowE _) q s r (fun d M2 Hb2 H2 v ⟨ks', acc, p, M0, e, hp0, e0, q2⟩ f2 s2 r2 => k d M2 Hb2 H2 v (by rw [e, e0]; exact q2 p hp0) f2 s2 r2) (it_items hl rl hba s ha) hD⟩
end
end DL

/-! part Tx85 -/
set_option maxHeartbeats 0
namespace K85
open PySem PySem.Spec PyProof.Rows L2 DL
def topS (i : Nat) : Stmt := PySem.Challenge.pw_nonesooner_k80_fall_runs_there_and_back.main.body.getD i (.Pass ⟨0, 0, 0, 0⟩)
abbrev s_value_of : Stmt := topS 17
theorem sc_value_of : FnScope ["digits", "first", "total", "at"] ["digits"] (defScope s_value_of) := ⟨rfl, rfl, rfl, by decide +kernel, rfl, by decide +kernel, by decide +kernel⟩
abbrev s_read_number : Stmt := topS 18
theorem sc_read_number : FnScope ["text", "most", "sign"] ["text", "most"] (defScope s_read_number) := ⟨rfl, rfl, rfl, by decide +kernel, rfl, by decide +kernel, by decide +kernel⟩
abbrev s_tokens_of : Stmt := topS 22
theorem sc_tokens_of : FnScope ["lines", "at"] ["lines", "at"] (defScope s_tokens_of) := ⟨rfl, rfl, rfl, by decide +kernel, rfl, by decide +kernel, by decide +kernel⟩
abbrev s_read_houses : Stmt := topS 23
theorem sc_read_houses : FnScope ["tokens", "houses"] ["tokens"] (defScope s_read_houses) := ⟨rfl, rfl, rfl, by decide +kernel, rfl, by decide +kernel, by decide +kernel⟩
abbrev s_read_most : Stmt := topS 24
theorem sc_read_most : FnScope ["tokens", "houses", "most"] ["tokens", "houses"] (defScope s_read_most) := ⟨rfl, rfl, rfl, by decide +kernel, rfl, by decide +kernel, by decide +kernel⟩
abbrev s_read_begins : Stmt := topS 25
theorem sc_read_begins : FnScope ["tokens", "houses", "bits", "bit"] ["tokens", "houses"] (defScope s_read_begins) := ⟨rfl, rfl, rfl, by decide +kernel, rfl, by decide +kernel, by decide +kernel⟩
abbrev s_read_fall : Stmt := topS 26
theorem sc_read_fall : FnScope ["tokens", "line", "houses", "earlier", "house", "turn", "pieces", "lot", "piece", "one"] ["tokens", "line", "houses", "earlier"] (defScope s_read_fall) := ⟨rfl, rfl, rfl, by decide +kernel, rfl, by decide +kernel, by decide +kernel⟩
abbrev s_read_falls : Stmt := topS 27
theorem sc_read_falls : FnScope ["text", "lines", "houses", "most", "begins", "falls", "at", "tokens", "house", "turn", "lot"] ["text"] (defScope s_read_falls) := ⟨rfl, rfl, rfl, by decide +kernel, rfl, by decide +kernel, by decide +kernel⟩
abbrev s_lot_text : Stmt := topS 28
theorem sc_lot_text : FnScope ["lot", "one"] ["lot"] (defScope s_lot_text) := ⟨rfl, rfl, rfl, by decide +kernel, rfl, by decide +kernel, by decide +kernel⟩
abbrev s_write_falls : Stmt := topS 29
theorem sc_write_falls : FnScope ["houses", "most", "begins", "falls", "rows", "bit", "house", "turn", "lot"] ["houses", "most", "begins", "falls"] (defScope s_write_falls) := ⟨rfl, rfl, rfl, by decide +kernel, rfl, by decide +kernel, by decide +kernel⟩
abbrev s_mask_of : Stmt := topS 31
theorem sc_mask_of : FnScope ["houses", "mask", "house"] ["houses"] (defScope s_mask_of) := ⟨rfl, rfl, rfl, by decide +kernel, rfl, by decide +kernel, by decide +kernel⟩
abbrev s_FallRun_init : Stmt := inClass (topS 35) 0
theorem sc_FallRun_init : FnScope ["self", "text", "houses", "most", "begins", "falls", "house", "fall", "rounds", "mask", "ups", "beat"] ["self", "text"] (defScope s_FallRun_init) := ⟨rfl, rfl, rfl, by decide +kernel, rfl, by decide +kernel, by decide +kernel⟩
abbrev s_FallRun___eq__ : Stmt := inClass (topS 35) 1
theorem sc_FallRun___eq__ : FnScope ["self", "other"] ["self", "other"] (defScope s_FallRun___eq__) := ⟨rfl, rfl, rfl, by decide +kernel, rfl, by decide +kernel, by decide +kernel⟩
abbrev s_FallRun_fallen : Stmt := inClass (topS 35) 3
theorem sc_FallRun_fallen : FnScope ["self", "house", "fall"] ["self"] (defScope s_FallRun_fallen) := ⟨rfl, rfl, rfl, by decide +kernel, rfl, by decide +kernel, by decide +kernel⟩
abbrev s_law_box : Stmt := topS 38
theorem sc_law_box : FnScope ["script", "mixed", "cell"] ["script"] (defScope s_law_box) := ⟨rfl, rfl, rfl, by decide +kernel, rfl, by decide +kernel, by decide +kernel⟩
abbrev s_law_take : Stmt := topS 39
theorem sc_law_take : FnScope ["box", "many", "cells", "here", "got", "small"] ["box", "many"] (defScope s_law_take) := ⟨rfl, rfl, rfl, by decide +kernel, rfl, by decide +kernel, by decide +kernel⟩
abbrev s_law_of : Stmt := topS 40
theorem sc_law_of : FnScope ["box", "things"] ["box", "things"] (defScope s_law_of) := ⟨rfl, rfl, rfl, by decide +kernel, rfl, by decide +kernel, by decide +kernel⟩
abbrev s_law_mixed : Stmt := topS 41
theorem sc_law_mixed : FnScope ["box", "things", "left", "found", "k"] ["box", "things"] (defScope s_law_mixed) := ⟨rfl, rfl, rfl, by decide +kernel, rfl, by decide +kernel, by decide +kernel⟩
abbrev s_law_same : Stmt := topS 42
theorem sc_law_same : FnScope ["found", "due", "k", "a", "b"] ["found", "due"] (defScope s_law_same) := ⟨rfl, rfl, rfl, by decide +kernel, rfl, by decide +kernel, by decide +kernel⟩
abbrev s_law_fall_world : Stmt := topS 43
theorem sc_law_fall_world : FnScope ["box", "n", "turn", "way", "falls", "most", "k", "lot", "j", "span", "i", "kind", "begins"] ["box", "n"] (defScope s_law_fall_world) := ⟨rfl, rfl, rfl, by decide +kernel, rfl, by decide +kernel, by decide +kernel⟩
abbrev s_law_lot_text : Stmt := topS 44
theorem sc_law_lot_text : FnScope ["lot", "j"] ["lot"] (defScope s_law_lot_text) := ⟨rfl, rfl, rfl, by decide +kernel, rfl, by decide +kernel, by decide +kernel⟩
abbrev s_law_fall_text : Stmt := topS 45
theorem sc_law_fall_text : FnScope ["world", "rows", "b", "i"] ["world"] (defScope s_law_fall_text) := ⟨rfl, rfl, rfl, by decide +kernel, rfl, by decide +kernel, by decide +kernel⟩
abbrev s_law_digits : Stmt := topS 46
theorem sc_law_digits : FnScope ["token", "c"] ["token"] (defScope s_law_digits) := ⟨rfl, rfl, rfl, by decide +kernel, rfl, by decide +kernel, by decide +kernel⟩
abbrev s_law_lot_of : Stmt := topS 47
theorem sc_law_lot_of : FnScope ["token", "found", "piece"] ["token"] (defScope s_law_lot_of) := ⟨rfl, rfl, rfl, by decide +kernel, rfl, by decide +kernel, by decide +kernel⟩
abbrev s_law_fall_why : Stmt := topS 48
theorem sc_law_fall_why : FnScope ["state", "pieces", "house", "at", "lot", "j", "falls"] ["state", "pieces"] (defScope s_law_fall_why) := ⟨rfl, rfl, rfl, by decide +kernel, rfl, by decide +kernel, by decide +kernel⟩
abbrev s_law_line_why : Stmt := topS 49
theorem sc_law_line_why : FnScope ["state", "line", "stage", "pieces", "number", "piece"] ["state", "line"] (defScope s_law_line_why) := ⟨rfl, rfl, rfl, by decide +kernel, rfl, by decide +kernel, by decide +kernel⟩
abbrev s_law_reads : Stmt := topS 50
theorem sc_law_reads : FnScope ["script_text", "lines", "state", "at", "line", "last", "why"] ["script_text"] (defScope s_law_reads) := ⟨rfl, rfl, rfl, by decide +kernel, rfl, by decide +kernel, by decide +kernel⟩
abbrev s_law_refused : Stmt := topS 51
theorem sc_law_refused : FnScope ["value", "e"] ["value"] (defScope s_law_refused) := ⟨rfl, rfl, rfl, by decide +kernel, rfl, by decide +kernel, by decide +kernel⟩
abbrev s_law_due : Stmt := topS 52
theorem sc_law_due : FnScope ["found"] ["found"] (defScope s_law_due) := ⟨rfl, rfl, rfl, by decide +kernel, rfl, by decide +kernel, by decide +kernel⟩
abbrev s_law_shown : Stmt := topS 53
theorem sc_law_shown : FnScope ["run", "world", "turn", "told", "due", "i", "found"] ["run", "world"] (defScope s_law_shown) := ⟨rfl, rfl, rfl, by decide +kernel, rfl, by decide +kernel, by decide +kernel⟩
abbrev s_law_turned : Stmt := topS 54
theorem sc_law_turned : FnScope ["box", "world", "lines", "falls", "i"] ["box", "world"] (defScope s_law_turned) := ⟨rfl, rfl, rfl, by decide +kernel, rfl, by decide +kernel, by decide +kernel⟩
abbrev s_law_tokens : Stmt := topS 55
theorem sc_law_tokens : FnScope ["world", "near"] ["world"] (defScope s_law_tokens) := ⟨rfl, rfl, rfl, by decide +kernel, rfl, by decide +kernel, by decide +kernel⟩
abbrev s_law_bent : Stmt := topS 56
theorem sc_law_bent : FnScope ["box", "world", "lines", "way", "at", "pieces", "k", "token", "bent", "other"] ["box", "world", "lines"] (defScope s_law_bent) := ⟨rfl, rfl, rfl, by decide +kernel, rfl, by decide +kernel, by decide +kernel⟩
abbrev s_law_edges : Stmt := topS 57
theorem sc_law_edges : FnScope ["box", "bits", "first", "more", "i", "lines", "run", "late", "wide", "found"] ["box"] (defScope s_law_edges) := ⟨rfl, rfl, rfl, by decide +kernel, rfl, by decide +kernel, by decide +kernel⟩
abbrev s_law : Stmt := topS 58
theorem sc_law : FnScope ["script", "box", "world", "turned", "run", "same", "near", "k", "i", "b", "turn", "lines", "change", "bent", "found", "odd"] ["script"] (defScope s_law) := ⟨rfl, rfl, rfl, by decide +kernel, rfl, by decide +kernel, by decide +kernel⟩
structure Fc (K : PySem.W.Frag) (mg : Str → Option Value) (x : Str) (st : Stmt) (ps : List Str) where
  f : Addr
  fd : FuncData
  F : FunD K x x (defArgs st) (defBody st) (defScope st) [] [] f fd
  b : Binds K fd ps []
  g : mg x = some (.ref f)
structure Mc (K : PySem.W.Frag) (C : Addr) (x qual : Str) (st : Stmt) (ps : List Str) where
  f : Addr
  fd : FuncData
  F : FunD K x qual (defArgs st) (defBody st) (defScope st) [] [] f fd
  b : Binds K fd ps []
  me : Meth K C x f
/-- a def with a keyword-only default, an int -/
structure Dc (K : PySem.W.Frag) (mg : Str → Option Value) (x : Str) (st : Stmt) (ps : List Str) (y : Str) (n : Int) where
  f : Addr
  fd : FuncData
  F : FunD K x x (defArgs st) (defBody st) (defScope st) [] [(y, .int n)] f fd
  ds : List Value
  vd : Vals [.int n] ds
  b : Binds K fd ps ds
  g : mg x = some (.ref f)
theorem Dc.hz {K : PySem.W.Frag} {mg : Str → Option Value} {x : Str} {st : Stmt} {ps : List Str} {y : Str} {n : Int} (d : Dc K mg x st ps y n) (H : Hp) : RepL H [.int n] [.int n] := RepL.one rfl
abbrev s_BadFalls_init : Stmt := inClass (topS 5) 0
theorem sc_BadFalls_init : FnScope ["self", "line", "why"] ["self", "line", "why"] (defScope s_BadFalls_init) := ⟨rfl, rfl, rfl, by decide +kernel, rfl, by decide +kernel, by decide +kernel⟩
structure X_BadFalls (K : PySem.W.Frag) (mg : Str → Option Value) where
  C : Addr
  g : mg "BadFalls" = some (.ref C)
  fI : Addr
  fd : FuncData
  F : FunD K "__init__" "BadFalls.__init__" (defArgs s_BadFalls_init) (defBody s_BadFalls_init) (defScope s_BadFalls_init) [] [] fI fd
  b : Binds K fd ["self", "line", "why"] []
  xk : XcK K C fI [.type "ValueError", .type "Exception", .type "BaseException", .type "object"] "ValueError.__new__" ["line", "why", "code"]
abbrev s_TooMany_init : Stmt := inClass (topS 6) 0
theorem sc_TooMany_init : FnScope ["self", "what", "many"] ["self", "what", "many"] (defScope s_TooMany_init) := ⟨rfl, rfl, rfl, by decide +kernel, rfl, by decide +kernel, by decide +kernel⟩
structure X_TooMany (K : PySem.W.Frag) (mg : Str → Option Value) where
  C : Addr
  g : mg "TooMany" = some (.ref C)
  fI : Addr
  fd : FuncData
  F : FunD K "__init__" "TooMany.__init__" (defArgs s_TooMany_init) (defBody s_TooMany_init) (defScope s_TooMany_init) [] [] fI fd
  b : Binds K fd ["self", "what", "many"] []
  xk : XcK K C fI [.type "ValueError", .type "Exception", .type "BaseException", .type "object"] "ValueError.__new__" ["what", "many", "code"]
structure FallRunC (K : PySem.W.Frag) (mg : Str → Option Value) where
  intro ::
  C : Addr
  g : mg "FallRun" = some (.ref C)
  cl : Cls K C
  n_falls_ : NoAttr K C "_falls"
  n_heard_ : NoAttr K C "_heard"
  n_rounds_ : NoAttr K C "_rounds"
  n_ups_ : NoAttr K C "_ups"
  n_zeros_ : NoAttr K C "_zeros"
  n_begins : NoAttr K C "begins"
  n_houses : NoAttr K C "houses"
  n_most : NoAttr K C "most"
  n_text : NoAttr K C "text"
  init : Mc K C "__init__" "FallRun.__init__" s_FallRun_init ["self", "text"]
  mk : Mk K C init.f
  eq_ : Mc K C "__eq__" "FallRun.__eq__" s_FallRun___eq__ ["self", "other"]
  fallen : Mc K C "fallen" "FallRun.fallen" s_FallRun_fallen ["self"]
  eqc : EqC K C eq_.f
  kb_init : KBD K init.fd ["self", "text"] 1 ["text"] (fun us ws => us ++ ws)
structure Txt (K : PySem.W.Frag) (mg : Str → Option Value) where
  value_of : Fc K mg "_value_of" s_value_of ["digits"]
  read_number : Dc K mg "read_number" s_read_number ["text", "most"] "most" 9
  tokens_of : Fc K mg "tokens_of" s_tokens_of ["lines", "at"]
  read_houses : Fc K mg "read_houses" s_read_houses ["tokens"]
  read_most : Fc K mg "read_most" s_read_most ["tokens", "houses"]
  read_begins : Fc K mg "read_begins" s_read_begins ["tokens", "houses"]
  read_fall : Fc K mg "read_fall" s_read_fall ["tokens", "line", "houses", "earlier"]
  read_falls : Fc K mg "read_falls" s_read_falls ["text"]
  lot_text : Fc K mg "lot_text" s_lot_text ["lot"]
  write_falls : Fc K mg "write_falls" s_write_falls ["houses", "most", "begins", "falls"]
  mask_of : Fc K mg "mask_of" s_mask_of ["houses"]
  law_box : Fc K mg "_law_box" s_law_box ["script"]
  law_take : Fc K mg "_law_take" s_law_take ["box", "many"]
  law_of : Fc K mg "_law_of" s_law_of ["box", "things"]
  law_mixed : Fc K mg "_law_mixed" s_law_mixed ["box", "things"]
  law_same : Fc K mg "_law_same" s_law_same ["found", "due"]
  law_fall_world : Fc K mg "_law_fall_world" s_law_fall_world ["box", "n"]
  law_lot_text : Fc K mg "_law_lot_text" s_law_lot_text ["lot"]
  law_fall_text : Fc K mg "_law_fall_text" s_law_fall_text ["world"]
  law_digits : Fc K mg "_law_digits" s_law_digits ["token"]
  law_lot_of : Fc K mg "_law_lot_of" s_law_lot_of ["token"]
  law_fall_why : Fc K mg "_law_fall_why" s_law_fall_why ["state", "pieces"]
  law_line_why : Fc K mg "_law_line_why" s_law_line_why ["state", "line"]
  law_reads : Fc K mg "_law_reads" s_law_reads ["script_text"]
  law_refused : Fc K mg "_law_refused" s_law_refused ["value"]
  law_due : Fc K mg "_law_due" s_law_due ["found"]
  law_shown : Fc K mg "_law_shown" s_law_shown ["run", "world"]
  law_turned : Fc K mg "_law_turned" s_law_turned ["box", "world"]
  law_tokens : Fc K mg "_law_tokens" s_law_tokens ["world"]
  law_bent : Fc K mg "_law_bent" s_law_bent ["box", "world", "lines"]
  law_edges : Fc K mg "_law_edges" s_law_edges ["box"]
  law : Fc K mg "law" s_law ["script"]
  FallRun : FallRunC K mg
  BadFalls : X_BadFalls K mg
  TooMany : X_TooMany K mg
  c_AgreeError : Addr
  gc_AgreeError : mg "AgreeError" = some (.ref c_AgreeError)
  c_BadBook : Addr
  gc_BadBook : mg "BadBook" = some (.ref c_BadBook)
  em_BadFalls_BadFalls : PySem.W.exmOne K (.ref BadFalls.C) (.ref BadFalls.C) = some true
  em_BadFalls_TooMany : PySem.W.exmOne K (.ref BadFalls.C) (.ref TooMany.C) = some false
  kt_BadFalls_AgreeError : PySem.W.kitOne K (.ref BadFalls.C) (.ref c_AgreeError) = some true
  kt_BadFalls_BadBook : PySem.W.kitOne K (.ref BadFalls.C) (.ref c_BadBook) = some false
  kt_BadFalls_TooMany : PySem.W.kitOne K (.ref BadFalls.C) (.ref TooMany.C) = some false
  em_TooMany_BadFalls : PySem.W.exmOne K (.ref TooMany.C) (.ref BadFalls.C) = some false
  em_TooMany_TooMany : PySem.W.exmOne K (.ref TooMany.C) (.ref TooMany.C) = some true
  kt_TooMany_AgreeError : PySem.W.kitOne K (.ref TooMany.C) (.ref c_AgreeError) = some true
  kt_TooMany_BadBook : PySem.W.kitOne K (.ref TooMany.C) (.ref c_BadBook) = some false
  kt_TooMany_TooMany : PySem.W.kitOne K (.ref TooMany.C) (.ref TooMany.C) = some true
  b_all : mg "all" = none
  b_any : mg "any" = none
  b_bool : mg "bool" = none
  b_dict : mg "dict" = none
  b_enumerate : mg "enumerate" = none
  b_int : mg "int" = none
  b_isinstance : mg "isinstance" = none
  b_len : mg "len" = none
  b_list : mg "list" = none
  b_max : mg "max" = none
  b_min : mg "min" = none
  b_range : mg "range" = none
  b_set : mg "set" = none
  b_sorted : mg "sorted" = none
  b_str : mg "str" = none
  b_tuple : mg "tuple" = none
  b_zip : mg "zip" = none
  t_LAST_BEAT : Tok
  g_LAST_BEAT : mg "LAST_BEAT" = some (.int 60 t_LAST_BEAT)
  t_MOST_HOUSES : Tok
  g_MOST_HOUSES : mg "MOST_HOUSES" = some (.int 40 t_MOST_HOUSES)
  t_DIGITS : Tok
  g_DIGITS : mg "_DIGITS" = some (.str "0123456789" t_DIGITS)
end K85

/-! part Hd1 -/
set_option maxHeartbeats 0
namespace K85
open PySem PySem.Spec PyProof.Rows L2 DL
def d_value_of : He.DefD := ⟨("_value_of", none), "_value_of", "_value_of", defArgs s_value_of, defBody s_value_of, defScope s_value_of, [], []⟩
def d_read_number : He.DefD := ⟨("read_number", none), "read_number", "read_number", defArgs s_read_number, defBody s_read_number, defScope s_read_number, [], [("most", .int 9)]⟩
def d_tokens_of : He.DefD := ⟨("tokens_of", none), "tokens_of", "tokens_of", defArgs s_tokens_of, defBody s_tokens_of, defScope s_tokens_of, [], []⟩
def d_read_houses : He.DefD := ⟨("read_houses", none), "read_houses", "read_houses", defArgs s_read_houses, defBody s_read_houses, defScope s_read_houses, [], []⟩
def d_read_most : He.DefD := ⟨("read_most", none), "read_most", "read_most", defArgs s_read_most, defBody s_read_most, defScope s_read_most, [], []⟩
def d_read_begins : He.DefD := ⟨("read_begins", none), "read_begins", "read_begins", defArgs s_read_begins, defBody s_read_begins, defScope s_read_begins, [], []⟩
def d_read_fall : He.DefD := ⟨("read_fall", none), "read_fall", "read_fall", defArgs s_read_fall, defBody s_read_fall, defScope s_read_fall, [], []⟩
def d_read_falls : He.DefD := ⟨("read_falls", none), "read_falls", "read_falls", defArgs s_read_falls, defBody s_read_falls, defScope s_read_falls, [], []⟩
def d_lot_text : He.DefD := ⟨("lot_text", none), "lot_text", "lot_text", defArgs s_lot_text, defBody s_lot_text, defScope s_lot_text, [], []⟩
def d_write_falls : He.DefD := ⟨("write_falls", none), "write_falls", "write_falls", defArgs s_write_falls, defBody s_write_falls, defScope s_write_falls, [], []⟩
def d_mask_of : He.DefD := ⟨("mask_of", none), "mask_of", "mask_of", defArgs s_mask_of, defBody s_mask_of, defScope s_mask_of, [], []⟩
def d_FallRun_init : He.DefD := ⟨("FallRun", some "__init__"), "__init__", "FallRun.__init__", defArgs s_FallRun_init, defBody s_FallRun_init, defScope s_FallRun_init, [], []⟩
def d_FallRun___eq__ : He.DefD := ⟨("FallRun", some "__eq__"), "__eq__", "FallRun.__eq__", defArgs s_FallRun___eq__, defBody s_FallRun___eq__, defScope s_FallRun___eq__, [], []⟩
def d_FallRun_fallen : He.DefD := ⟨("FallRun", some "fallen"), "fallen", "FallRun.fallen", defArgs s_FallRun_fallen, defBody s_FallRun_fallen, defScope s_FallRun_fallen, [], []⟩
def d_law_box : He.DefD := ⟨("_law_box", none), "_law_box", "_law_box", defArgs s_law_box, defBody s_law_box, defScope s_law_box, [], []⟩
def d_law_take : He.DefD := ⟨("_law_take", none), "_law_take", "_law_take", defArgs s_law_take, defBody s_law_take, defScope s_law_take, [], []⟩
def d_law_of : He.DefD := ⟨("_law_of", none), "_law_of", "_law_of", defArgs s_law_of, defBody s_law_of, defScope s_law_of, [], []⟩
def d_law_mixed : He.DefD := ⟨("_law_mixed", none), "_law_mixed", "_law_mixed", defArgs s_law_mixed, defBody s_law_mixed, defScope s_law_mixed, [], []⟩
def d_law_same : He.DefD := ⟨("_law_same", none), "_law_same", "_law_same", defArgs s_law_same, defBody s_law_same, defScope s_law_same, [], []⟩
def d_law_fall_world : He.DefD := ⟨("_law_fall_world", none), "_law_fall_world", "_law_fall_world", defArgs s_law_fall_world, defBody s_law_fall_world, defScope s_law_fall_world, [], []⟩
def d_law_lot_text : He.DefD := ⟨("_law_lot_text", none), "_law_lot_text", "_law_lot_text", defArgs s_law_lot_text, defBody s_law_lot_text, defScope s_law_lot_text, [], []⟩
def d_law_fall_text : He.DefD := ⟨("_law_fall_text", none), "_law_fall_text", "_law_fall_text", defArgs s_law_fall_text, defBody s_law_fall_text, defScope s_law_fall_text, [], []⟩
def d_law_digits : He.DefD := ⟨("_law_digits", none), "_law_digits", "_law_digits", defArgs s_law_digits, defBody s_law_digits, defScope s_law_digits, [], []⟩
def d_law_lot_of : He.DefD := ⟨("_law_lot_of", none), "_law_lot_of", "_law_lot_of", defArgs s_law_lot_of, defBody s_law_lot_of, defScope s_law_lot_of, [], []⟩
def d_law_fall_why : He.DefD := ⟨("_law_fall_why", none), "_law_fall_why", "_law_fall_why", defArgs s_law_fall_why, defBody s_law_fall_why, defScope s_law_fall_why, [], []⟩
def d_law_line_why : He.DefD := ⟨("_law_line_why", none), "_law_line_why", "_law_line_why", defArgs s_law_line_why, defBody s_law_line_why, defScope s_law_line_why, [], []⟩
def d_law_reads : He.DefD := ⟨("_law_reads", none), "_law_reads", "_law_reads", defArgs s_law_reads, defBody s_law_reads, defScope s_law_reads, [], []⟩
def d_law_refused : He.DefD := ⟨("_law_refused", none), "_law_refused", "_law_refused", defArgs s_law_refused, defBody s_law_refused, defScope s_law_refused, [], []⟩
def d_law_due : He.DefD := ⟨("_law_due", none), "_law_due", "_law_due", defArgs s_law_due, defBody s_law_due, defScope s_law_due, [], []⟩
def d_law_shown : He.DefD := ⟨("_law_shown", none), "_law_shown", "_law_shown", defArgs s_law_shown, defBody s_law_shown, defScope s_law_shown, [], []⟩
def d_law_turned : He.DefD := ⟨("_law_turned", none), "_law_turned", "_law_turned", defArgs s_law_turned, defBody s_law_turned, defScope s_law_turned, [], []⟩
def d_law_tokens : He.DefD := ⟨("_law_tokens", none), "_law_tokens", "_law_tokens", defArgs s_law_tokens, defBody s_law_tokens, defScope s_law_tokens, [], []⟩
def d_law_bent : He.DefD := ⟨("_law_bent", none), "_law_bent", "_law_bent", defArgs s_law_bent, defBody s_law_bent, defScope s_law_bent, [], []⟩
def d_law_edges : He.DefD := ⟨("_law_edges", none), "_law_edges", "_law_edges", defArgs s_law_edges, defBody s_law_edges, defScope s_law_edges, [], []⟩
def d_law : He.DefD := ⟨("law", none), "law", "law", defArgs s_law, defBody s_law, defScope s_law, [], []⟩
def d_BadFalls_init : He.DefD := ⟨("BadFalls", some "__init__"), "__init__", "BadFalls.__init__", defArgs s_BadFalls_init, defBody s_BadFalls_init, defScope s_BadFalls_init, [], []⟩
def d_TooMany_init : He.DefD := ⟨("TooMany", some "__init__"), "__init__", "TooMany.__init__", defArgs s_TooMany_init, defBody s_TooMany_init, defScope s_TooMany_init, [], []⟩
def fnl : List He.DefD := [d_value_of, d_read_number, d_tokens_of, d_read_houses, d_read_most, d_read_begins, d_read_fall, d_read_falls, d_lot_text, d_write_falls, d_mask_of, d_FallRun_init, d_FallRun___eq__, d_FallRun_fallen, d_law_box, d_law_take, d_law_of, d_law_mixed, d_law_same, d_law_fall_world, d_law_lot_text, d_law_fall_text, d_law_digits, d_law_lot_of, d_law_fall_why, d_law_line_why, d_law_reads, d_law_refused, d_law_due, d_law_shown, d_law_turned, d_law_tokens, d_law_bent, d_law_edges, d_law, d_BadFalls_init, d_TooMany_init]
def fal : List He.Fa := [.glo "_value_of", .glo "read_number", .glo "tokens_of", .glo "read_houses", .glo "read_most", .glo "read_begins", .glo "read_fall", .glo "read_falls", .glo "lot_text", .glo "write_falls", .glo "mask_of", .glo "_law_box", .glo "_law_take", .glo "_law_of", .glo "_law_mixed", .glo "_law_same", .glo "_law_fall_world", .glo "_law_lot_text", .glo "_law_fall_text", .glo "_law_digits", .glo "_law_lot_of", .glo "_law_fall_why", .glo "_law_line_why", .glo "_law_reads", .glo "_law_refused", .glo "_law_due", .glo "_law_shown", .glo "_law_turned", .glo "_law_tokens", .glo "_law_bent", .glo "_law_edges", .glo "law", .glo "BadFalls", .glo "TooMany", .glo "AgreeError", .glo "BadBook", .glo "FallRun", .cls "FallRun", .mkr "FallRun", .noat "FallRun" "_falls", .noat "FallRun" "_heard", .noat "FallRun" "_rounds", .noat "FallRun" "_ups", .noat "FallRun" "_zeros", .noat "FallRun" "begins", .noat "FallRun" "houses", .noat "FallRun" "most", .noat "FallRun" "text", .meth "FallRun" "__init__", .meth "FallRun" "__eq__", .meth "FallRun" "fallen", .free "all", .free "any", .free "bool", .free "dict", .free "enumerate", .free "int", .free "isinstance", .free "len", .free "list", .free "max", .free "min", .free "range", .free "set", .free "sorted", .free "str", .free "tuple", .free "zip", .int "LAST_BEAT" 60, .int "MOST_HOUSES" 40, .str "_DIGITS" "0123456789"]
abbrev R : PySem.W.OpenRow := PySem.W.OpenLaw.row PySem.Challenge.rw_nonesooner_k80_fall_runs_there_and_back
def ex (K : PySem.W.Frag) : Bool := xcB [.type "ValueError", .type "Exception", .type "BaseException", .type "object"] "ValueError.__new__" ["line", "why", "code"] K (He.ga K "BadFalls") (He.ma K (He.ga K "BadFalls") "__init__") && (xcB [.type "ValueError", .type "Exception", .type "BaseException", .type "object"] "ValueError.__new__" ["what", "many", "code"] K (He.ga K "TooMany") (He.ma K (He.ga K "TooMany") "__init__") && (decide (PySem.W.exmOne K (.ref (He.ga K "BadFalls")) (.ref (He.ga K "BadFalls")) = some true) && (decide (PySem.W.exmOne K (.ref (He.ga K "BadFalls")) (.ref (He.ga K "TooMany")) = some false) && (decide (PySem.W.kitOne K (.ref (He.ga K "BadFalls")) (.ref (He.ga K "AgreeError")) = some true) && (decide (PySem.W.kitOne K (.ref (He.ga K "BadFalls")) (.ref (He.ga K "BadBook")) = some false) && (decide (PySem.W.kitOne K (.ref (He.ga K "BadFalls")) (.ref (He.ga K "TooMany")) = some false) && (decide (PySem.W.exmOne K (.ref (He.ga K "TooMany")) (.ref (He.ga K "BadFalls")) = some false) && (decide (PySem.W.exmOne K (.ref (He.ga K "TooMany")) (.ref (He.ga K "TooMany")) = some true) && (decide (PySem.W.kitOne K (.ref (He.ga K "TooMany")) (.ref (He.ga K "AgreeError")) = some true) && (decide (PySem.W.kitOne K (.ref (He.ga K "TooMany")) (.ref (He.ga K "BadBook")) = some false) && (decide (PySem.W.kitOne K (.ref (He.ga K "TooMany")) (.ref (He.ga K "TooMany")) = some true) && (eqcB K (He.ga K "FallRun") (He.ma K (He.ga K "FallRun") "__eq__") && (true)))))))))))))
abbrev AlY : Type := He.AlD × Bool
def obsY (gt : Addr → Option Obj) : AlY := (He.obsD fal fnl (He.frG gt (He.asD gt 6)), ex (He.frG gt (He.asD gt 6)))
def hk : PySem.W.Hook where
  α := AlY
  obs := fun s => obsY s.heap.get?
  val := fun _ => (He.valD fnl, true)
  says := fun _ h => ∃ K : PySem.W.Frag, K.In h ∧ He.SaysD fal fnl K ∧ ex K = true
  of := fun _ _ e => ⟨_, He.frG_in, congrArg (fun z : AlY => z.1) e, congrArg (fun z : AlY => z.2) e⟩
  keeps := fun _ _ _ ⟨K, hK, c⟩ k => ⟨K, PySem.W.Frag.In.keeps hK k, c⟩
def ob (s : PySem.W.SharedT) : AlY := obsY (HandSHeadRun.getT s)
theorem ob_eq (s : PySem.W.SharedT) : ob s = hk.obs s.abs := by
  have e : HandSHeadRun.getT s = s.abs.heap.get? := funext (HandSHeadRun.getT_eq s)
  unfold ob
  rw [e]
  rfl
def loose : List Str := [("comb" : Str), ("_wall" : Str), ("AgreeError" : Str), ("BadBook" : Str), ("BadFalls" : Str), ("TooMany" : Str), ("Unlike" : Str), ("WrongKind" : Str), ("NoSuch" : Str), ("Ended" : Str), ("is_number" : Str), ("is_below" : Str), ("check_below" : Str), ("_DIGITS" : Str), ("_value_of" : Str), ("read_number" : Str), ("MOST_HOUSES" : Str), ("LAST_BEAT" : Str), ("tokens_of" : Str), ("read_houses" : Str), ("read_most" : Str), ("read_begins" : Str), ("read_fall" : Str), ("read_falls" : Str), ("lot_text" : Str), ("write_falls" : Str), ("mask_of" : Str), ("has" : Str), ("rank_of" : Str), ("choice_of" : Str)] ++ [("FallRun" : Str), ("check_book" : Str), ("_law_box" : Str), ("_law_take" : Str), ("_law_of" : Str), ("_law_mixed" : Str), ("_law_same" : Str), ("_law_fall_world" : Str), ("_law_lot_text" : Str), ("_law_fall_text" : Str), ("_law_digits" : Str), ("_law_lot_of" : Str), ("_law_fall_why" : Str), ("_law_line_why" : Str), ("_law_reads" : Str), ("_law_refused" : Str), ("_law_due" : Str), ("_law_shown" : Str), ("_law_turned" : Str), ("_law_tokens" : Str), ("_law_bent" : Str), ("_law_edges" : Str)]
theorem run (w : World) : HandSHeadRun.RunEqI R (PySem.W.view R.prog [0, 58]) hk ob 40000 loose w := by
  unfold HandSHeadRun.RunEqI
  kernel_rfl
end K85

/-! part XT -/
set_option maxHeartbeats 0
namespace K85
open PySem PySem.Spec PyProof.Rows L2 DL
section
variable {P : Program} {w : World} {K : PySem.W.Frag} {mg : Str → Option Value} {base : Heap}
def fl_BadFalls : List V → List (Str × V) := fun vs => [("code", .str "BadFalls"), ("why", vs.getD 1 .non), ("line", vs.getD 0 .non)]
theorem okx_BadFalls (T : Txt K mg) : FnOk P w K mg base CX0 1 T.BadFalls.fI T.BadFalls.fd ["self", "line", "why"] (DX.xInit T.BadFalls.C 2 fl_BadFalls) := by
  refine FunD.ok (k := 0) T.BadFalls.F sc_BadFalls_init (fun vs H Q E h => ?_) (fun cdv A outer s H vs Q E hroom h => ?_)
  · obtain ⟨a, ws, rfl, h1, _⟩ := h
    rw [List.length_cons, h1]
    rfl
  · obtain ⟨a, ws, rfl, h1, ea, q⟩ := h
    match ws, h1, q with
    | [v0, v1], _, q =>
      exact ⟨_, (pss_cons (DX.ps_xst (T.BadFalls.xk.own PySem.F.excBase_ValueError PySem.F.store_ValueError) (T.BadFalls.xk.tk _ (by decide)) (pe_var (i := 0) rfl (Or.inl rfl)) (pe_var (i := 1) rfl (Or.inl rfl))) (pss_cons (DX.ps_xst (T.BadFalls.xk.own PySem.F.excBase_ValueError PySem.F.store_ValueError) (T.BadFalls.xk.tk _ (by decide)) (pe_var (i := 0) rfl (Or.inl rfl)) (pe_var (i := 2) rfl (Or.inl rfl))) (pss_cons (DX.ps_xst (T.BadFalls.xk.own PySem.F.excBase_ValueError PySem.F.store_ValueError) (T.BadFalls.xk.tk _ (by decide)) (pe_var (i := 0) rfl (Or.inl rfl)) pe_str) pss_nil))), xst3 ea (fun _ _ q => ⟨_, rfl, q⟩) (fun _ _ q => ⟨_, rfl, q⟩) (fun _ _ q => ⟨_, rfl, q⟩) (fun _ _ q => ⟨_, rfl, q⟩) (fun _ _ q => ⟨_, rfl, q⟩) (fun _ _ q => q) (fun dx hd ne => q dx hd ne)⟩
theorem mkx_BadFalls (T : Txt K mg) : MkX K P w mg base T.BadFalls.C 2 ["code", "why", "line"] (fun ds => [.str "BadFalls", ds.getD 1 .non, ds.getD 0 .non]) :=
  ⟨"ValueError", _, _, _, T.BadFalls.fI, 1, _, _, fl_BadFalls, T.BadFalls.xk.own PySem.F.excBase_ValueError PySem.F.store_ValueError, T.BadFalls.xk.iC, T.BadFalls.xk.tI, by decide, by decide, okx_BadFalls T, T.BadFalls.b, fun Hb ds vs hl r => by
    match ds, hl, r with
    | [d0, d1], _, r =>
      obtain ⟨v0, r0, rfl, h0, v1, r1, rfl, h1, rfl⟩ := r
      exact ⟨[.str "BadFalls", v1, v0], rfl, rfl, _, _, rfl, rfl, _, _, rfl, h1, _, _, rfl, h0, rfl⟩⟩
def fl_TooMany : List V → List (Str × V) := fun vs => [("code", .str "TooMany"), ("many", vs.getD 1 .non), ("what", vs.getD 0 .non)]
theorem okx_TooMany (T : Txt K mg) : FnOk P w K mg base CX0 1 T.TooMany.fI T.TooMany.fd ["self", "what", "many"] (DX.xInit T.TooMany.C 2 fl_TooMany) := by
  refine FunD.ok (k := 0) T.TooMany.F sc_TooMany_init (fun vs H Q E h => ?_) (fun cdv A outer s H vs Q E hroom h => ?_)
  · obtain ⟨a, ws, rfl, h1, _⟩ := h
    rw [List.length_cons, h1]
    rfl
  · obtain ⟨a, ws, rfl, h1, ea, q⟩ := h
    match ws, h1, q with
    | [v0, v1], _, q =>
      exact ⟨_, (pss_cons (DX.ps_xst (T.TooMany.xk.own PySem.F.excBase_ValueError PySem.F.store_ValueError) (T.TooMany.xk.tk _ (by decide)) (pe_var (i := 0) rfl (Or.inl rfl)) (pe_var (i := 1) rfl (Or.inl rfl))) (pss_cons (DX.ps_xst (T.TooMany.xk.own PySem.F.excBase_ValueError PySem.F.store_ValueError) (T.TooMany.xk.tk _ (by decide)) (pe_var (i := 0) rfl (Or.inl rfl)) (pe_var (i := 2) rfl (Or.inl rfl))) (pss_cons (DX.ps_xst (T.TooMany.xk.own PySem.F.excBase_ValueError PySem.F.store_ValueError) (T.TooMany.xk.tk _ (by decide)) (pe_var (i := 0) rfl (Or.inl rfl)) pe_str) pss_nil))), xst3 ea (fun _ _ q => ⟨_, rfl, q⟩) (fun _ _ q => ⟨_, rfl, q⟩) (fun _ _ q => ⟨_, rfl, q⟩) (fun _ _ q => ⟨_, rfl, q⟩) (fun _ _ q => ⟨_, rfl, q⟩) (fun _ _ q => q) (fun dx hd ne => q dx hd ne)⟩
theorem mkx_TooMany (T : Txt K mg) : MkX K P w mg base T.TooMany.C 2 ["code", "many", "what"] (fun ds => [.str "TooMany", ds.getD 1 .non, ds.getD 0 .non]) :=
  ⟨"ValueError", _, _, _, T.TooMany.fI, 1, _, _, fl_TooMany, T.TooMany.xk.own PySem.F.excBase_ValueError PySem.F.store_ValueError, T.TooMany.xk.iC, T.TooMany.xk.tI, by decide, by decide, okx_TooMany T, T.TooMany.b, fun Hb ds vs hl r => by
    match ds, hl, r with
    | [d0, d1], _, r =>
      obtain ⟨v0, r0, rfl, h0, v1, r1, rfl, h1, rfl⟩ := r
      exact ⟨[.str "TooMany", v1, v0], rfl, rfl, _, _, rfl, rfl, _, _, rfl, h1, _, _, rfl, h0, rfl⟩⟩
def tst_BadFalls (T : Txt K mg) : Addr → Bool → Prop := fun C b => (C = T.BadFalls.C ∧ b = true) ∨ (C = T.TooMany.C ∧ b = false)
theorem tst_BadFalls_ok (T : Txt K mg) : ∀ C b, tst_BadFalls T C b → PySem.W.exmOne K (.ref C) (.ref T.BadFalls.C) = some b := by
  intro C b h
  unfold tst_BadFalls at h
  rcases h with ⟨rfl, rfl⟩ | ⟨rfl, rfl⟩
  · exact T.em_BadFalls_BadFalls
  · exact T.em_TooMany_BadFalls
def tst_TooMany (T : Txt K mg) : Addr → Bool → Prop := fun C b => (C = T.BadFalls.C ∧ b = false) ∨ (C = T.TooMany.C ∧ b = true)
theorem tst_TooMany_ok (T : Txt K mg) : ∀ C b, tst_TooMany T C b → PySem.W.exmOne K (.ref C) (.ref T.TooMany.C) = some b := by
  intro C b h
  unfold tst_TooMany at h
  rcases h with ⟨rfl, rfl⟩ | ⟨rfl, rfl⟩
  · exact T.em_BadFalls_TooMany
  · exact T.em_TooMany_TooMany
def isx (T : Txt K mg) : Addr → D → Bool → Prop := fun C c b => (C = T.BadFalls.C ∧ c = .cell T.c_AgreeError ∧ b = true) ∨ (C = T.BadFalls.C ∧ c = .cell T.c_BadBook ∧ b = false) ∨ (C = T.BadFalls.C ∧ c = .cell T.TooMany.C ∧ b = false) ∨ (C = T.TooMany.C ∧ c = .cell T.c_AgreeError ∧ b = true) ∨ (C = T.TooMany.C ∧ c = .cell T.c_BadBook ∧ b = false) ∨ (C = T.TooMany.C ∧ c = .cell T.TooMany.C ∧ b = true)
theorem isx_ok (T : Txt K mg) : ∀ C c b, isx T C c b → ∃ v, valOf c = some v ∧ ExcC K C ∧ ∃ cv, (∀ u, RelV v u → u = cv) ∧ PySem.W.kitOne K (.ref C) cv = some b := by
  intro C c b h
  unfold isx at h
  rcases h with ⟨rfl, rfl, rfl⟩ | ⟨rfl, rfl, rfl⟩ | ⟨rfl, rfl, rfl⟩ | ⟨rfl, rfl, rfl⟩ | ⟨rfl, rfl, rfl⟩ | ⟨rfl, rfl, rfl⟩
  · exact ⟨_, rfl, T.BadFalls.xk.ec, _, fun u h => h, T.kt_BadFalls_AgreeError⟩
  · exact ⟨_, rfl, T.BadFalls.xk.ec, _, fun u h => h, T.kt_BadFalls_BadBook⟩
  · exact ⟨_, rfl, T.BadFalls.xk.ec, _, fun u h => h, T.kt_BadFalls_TooMany⟩
  · exact ⟨_, rfl, T.TooMany.xk.ec, _, fun u h => h, T.kt_TooMany_AgreeError⟩
  · exact ⟨_, rfl, T.TooMany.xk.ec, _, fun u h => h, T.kt_TooMany_BadBook⟩
  · exact ⟨_, rfl, T.TooMany.xk.ec, _, fun u h => h, T.kt_TooMany_TooMany⟩
def xf_code (T : Txt K mg) : Addr → Prop := fun C => C = T.BadFalls.C ∨ C = T.TooMany.C
theorem xf_code_ok (T : Txt K mg) : ∀ C, xf_code T C → XfC K C ∧ PySem.W.findIn K (.ref C) "code" = some none := by
  intro C h
  unfold xf_code at h
  rcases h with rfl | rfl
  · exact ⟨T.BadFalls.xk.xf, T.BadFalls.xk.nf _ (by decide)⟩
  · exact ⟨T.TooMany.xk.xf, T.TooMany.xk.nf _ (by decide)⟩
def xf_line (T : Txt K mg) : Addr → Prop := fun C => C = T.BadFalls.C
theorem xf_line_ok (T : Txt K mg) : ∀ C, xf_line T C → XfC K C ∧ PySem.W.findIn K (.ref C) "line" = some none := by
  intro C h
  unfold xf_line at h
  rcases h with rfl
  · exact ⟨T.BadFalls.xk.xf, T.BadFalls.xk.nf _ (by decide)⟩
def xf_many (T : Txt K mg) : Addr → Prop := fun C => C = T.TooMany.C
theorem xf_many_ok (T : Txt K mg) : ∀ C, xf_many T C → XfC K C ∧ PySem.W.findIn K (.ref C) "many" = some none := by
  intro C h
  unfold xf_many at h
  rcases h with rfl
  · exact ⟨T.TooMany.xk.xf, T.TooMany.xk.nf _ (by decide)⟩
def xf_what (T : Txt K mg) : Addr → Prop := fun C => C = T.TooMany.C
theorem xf_what_ok (T : Txt K mg) : ∀ C, xf_what T C → XfC K C ∧ PySem.W.findIn K (.ref C) "what" = some none := by
  intro C h
  unfold xf_what at h
  rcases h with rfl
  · exact ⟨T.TooMany.xk.xf, T.TooMany.xk.nf _ (by decide)⟩
def xf_why (T : Txt K mg) : Addr → Prop := fun C => C = T.BadFalls.C
theorem xf_why_ok (T : Txt K mg) : ∀ C, xf_why T C → XfC K C ∧ PySem.W.findIn K (.ref C) "why" = some none := by
  intro C h
  unfold xf_why at h
  rcases h with rfl
  · exact ⟨T.BadFalls.xk.xf, T.BadFalls.xk.nf _ (by decide)⟩
end
end K85

/-! part G1 -/
set_option maxHeartbeats 0
namespace K85
open PySem PySem.Spec PyProof.Rows L2 DL
section
variable {P : Program} {w : World} {K : PySem.W.Frag} {mg : Str → Option Value} {base : Heap}
theorem ret_ok {Q : DK} {d : D} {M : Mp} (h : Q d M) : ∃ M0, SubM M0 M ∧ Q d M0 := ⟨M, SubM.refl _, h⟩
theorem exc_ok {XE : XD} {C : Addr} {fs : List Str} {ds : List D} {M : Mp} (h : XE C fs ds M) : ∃ M0, SubM M0 M ∧ XE C fs ds M0 := ⟨M, SubM.refl _, h⟩
/-- a value that may be asked for its kind -/
def plainD : D → Prop
  | .non => True
  | .bl _ => True
  | .int _ => True
  | .str _ => True
  | .lst _ => True
  | .tup _ => True
  | .dic _ _ => True
  | _ => False
def isNum : D → Bool
  | .int _ => true
  | _ => false
def belowB (x : D) (m : Nat) : Bool := match x with
  | .int i => decide (0 ≤ i ∧ i < m)
  | _ => false
theorem below_nat {k m : Nat} : belowB (dN k) m = decide (k < m) := by
  show decide (0 ≤ (k : Int) ∧ (k : Int) < m) = _
  rw [Bool.eq_iff_iff, decide_eq_true_eq, decide_eq_true_eq]
  omega
def sp_mask_of : SpD := fun ds M Q => ∃ (l : List Nat) (d : D), ds = [d] ∧ (d = .lst (l.map dN) ∨ d = .tup (l.map dN)) ∧ l.length ≤ 16000000 ∧ (∀ x ∈ l, x < 1000) ∧ ∀ m : Nat, (∀ j, m.testBit j = decide (j ∈ l)) → Q (dN m) M
theorem len_mask_of : ∀ ds M Q, sp_mask_of ds M Q → ds.length = 1 := by
  rintro _ _ _ ⟨_, _, rfl, _⟩; rfl
theorem ok_mask_of (T : Txt K mg) : FnD P w K mg base 1 T.mask_of.f T.mask_of.fd ["houses"] sp_mask_of := okDk T.mask_of.F sc_mask_of len_mask_of (fun cdv A outer s H E hr =>
        (dss_cons (ds_set (i := 1) sc_mask_of.nd de_int)
      (dss_cons (ds_for PassesOwn.never rfl (di_seq (dv 0)) (dg_name (i := 2) sc_mask_of.nd) (dss_one (ds_aug (j := 1) sc_mask_of.nd ip_or (de_op o_shl de_int (dv 2)))))
      (dss_one (ds_ret (dv 1))))))
      (by
    rintro _ M Q ⟨l, d, rfl, hd, hl0, hl, q⟩
    refine seq_cut (fun ρ' M' => M = M' ∧ ρ' = [some d, some (dN 0), none]) (fun N hN => hN _ _ ⟨rfl, rfl⟩) ?_
    rintro _ _ ⟨rfl, rfl⟩
    have main : dLoop (l.map dN) (dName 2) (dAug 1 (fun i j => Builtin.bitOr i j) (dOp (dIC CPow fun i j => .int (i * 2 ^ j.toNat)) (dC (.int 1)) (dVar 2))) { (endsD Q) with nx := dRet (dVar 1) (endsD Q) } [some d, some (dN 0), none] M := by
      refine loop_l l dN rfl (fun i ρ' M' => M = M' ∧ ∃ (m : Nat) (z : Option D), ρ' = [some d, some (dN m), z] ∧ ∀ j, m.testBit j = decide (j ∈ l.take i)) ⟨rfl, 0, none, rfl, by simp⟩ ?_ ?_
      · rintro i x _ _ e hx ⟨rfl, m, z, rfl, hm⟩
        refine And.intro (pow_cond x (hl x hx)) ?_
        refine ⟨rfl, m ||| 2 ^ x, some (dN x), ?_, fun j => ?_⟩
        · show [some _, some (D.int (Builtin.bitOr (m : Int) (1 * 2 ^ ((x : Int)).toNat))), some _] = _
          rw [shl_nat, bor_nat]
          rfl
        · rw [Nat.testBit_or, hm j, Nat.testBit_two_pow, List.take_succ, e]
          by_cases h1 : j ∈ l.take i <;> by_cases h2 : x = j <;> simp [h1, h2, eq_comm] <;> omega
      · rintro _ _ ⟨rfl, m, z, rfl, hm⟩
        rw [List.take_length] at hm
        exact ret_ok (q m hm)
    rcases hd with rfl | rfl
    · exact .inl main
    · exact .inr main
)
end
end K85

/-! part R2 -/
set_option maxHeartbeats 0
namespace K85
open PySem PySem.Spec PyProof.Rows L2 DL
section
variable {P : Program} {w : World} {K : PySem.W.Frag} {mg : Str → Option Value} {base : Heap}
def BoxAt (M : Mp) (b c : Addr) : Prop := ∃ (xs : List Int) (h : Nat) (m t : Int), M b = some (.lst [.cell c, .int h, .int m, .int t]) ∧ M c = some (.lst (xs.map .int)) ∧ b ≠ c
def BxR (b c : Addr) (M M' : Mp) : Prop := BoxAt M' b c ∧ ∀ q, q ≠ b → q ≠ c → M' q = M q
theorem BxR.refl {b c : Addr} {M : Mp} (h : BoxAt M b c) : BxR b c M M := ⟨h, fun _ _ _ => rfl⟩
theorem BxR.trans {b c : Addr} {M M' M2 : Mp} (h : BxR b c M M') (h' : BxR b c M' M2) : BxR b c M M2 := ⟨h'.1, fun q a e => (h'.2 q a e).trans (h.2 q a e)⟩
theorem BoxAt.other {M : Mp} {b c p : Addr} {d : D} (h : BoxAt M b c) (hb : p ≠ b) (hc : p ≠ c) : BoxAt (updM M p d) b c := by
  obtain ⟨xs, k, m, t, h1, h2, h3⟩ := h
  exact ⟨xs, k, m, t, by rw [updM_ne hb.symm]; exact h1, by rw [updM_ne hc.symm]; exact h2, h3⟩
theorem BoxAt.fresh {M : Mp} {b c p : Addr} (h : BoxAt M b c) (hp : M p = none) : p ≠ b ∧ p ≠ c := by
  obtain ⟨xs, k, m, t, h1, h2, h3⟩ := h
  exact ⟨fun e => by rw [e, h1] at hp; (cases hp), fun e => by rw [e, h2] at hp; (cases hp)⟩
theorem atI_nat {α : Type} {ds : List α} {h : Nat} (i : h < ds.length) : atI ds (h : Int) = some (ds[h]'i) := by
  unfold atI
  first
    | simp [i]
    | (unfold ixN; simp [i])
theorem ixN_nat {n h : Nat} (i : h < n) : ixN n (h : Int) = some h := by
  unfold ixN
  first
    | simp [i]
    | (split <;> omega)
def sp_law_take : SpD := fun ds M Q => ∃ b c many, ds = [.cell b, dN many] ∧ BoxAt M b c ∧ 0 < many ∧ many < 1000000000 ∧ ∀ r M', r < many → BxR b c M M' → Q (dN r) M'
theorem len_law_take : ∀ ds M Q, sp_law_take ds M Q → ds.length = 2 := by
  rintro _ _ _ ⟨_, _, _, rfl, _⟩; rfl
theorem mod_nat {x : Int} {many : Nat} (h : 0 < many) : ∃ r, r < many ∧ x % (many : Int) = (r : Int) := by
  have h1 := Int.emod_nonneg x (b := (many : Int)) (by omega)
  have h2 := Int.emod_lt_of_pos x (b := (many : Int)) (by omega)
  exact ⟨(x % (many : Int)).toNat, by omega, by omega⟩
theorem ok_law_take (T : Txt K mg) : FnD P w K mg base 1 T.law_take.f T.law_take.fd ["box", "many"] sp_law_take := okDk T.law_take.F sc_law_take len_law_take (fun cdv A outer s H E hr =>
        (dss_cons (ds_par2 (i := 2) (j := 3) rfl sc_law_take.nd rfl rfl (by decide) rfl rfl (de_ix (dv 0) de_int) (de_ix (dv 0) de_int))
      (dss_cons (ds_if (PWD.pt (dw_and (dt_cmp o_lt (dv 3) (de_callB c_len (by rfl) T.b_len boot_len (da_cons (dv 2) da_nil))) (dw_and1 (dt_cmp o_ge (de_ix (dv 2) (dv 3)) (de_op o_pow de_int de_int))))) (dss_cons (ds_set (i := 4) sc_law_take.nd (de_op o_mod (de_callTy c_int (by rfl) T.b_int boot_int (da_cons (de_ix (dv 2) (dv 3)) da_nil)) (dv 1)))
      (dss_cons (ds_asg (de_op o_fdiv (de_ix (dv 2) (dv 3)) (dv 1)) (dg_sub (dv 2) (dv 3)))
      (dss_one (ds_ret (dv 4))))) dss_nil)
      (dss_cons (ds_set (i := 5) sc_law_take.nd de_int)
      (dss_cons (ds_if (dt_cmp o_lt (dv 3) (de_callB c_len (by rfl) T.b_len boot_len (da_cons (dv 2) da_nil))) (dss_one (ds_set (i := 5) sc_law_take.nd (de_op o_mod (de_callTy c_int (by rfl) T.b_int boot_int (da_cons (de_ix (dv 2) (dv 3)) da_nil)) de_int))) dss_nil)
      (dss_cons (ds_asg (de_op o_add (de_ix (dv 0) de_int) de_int) (dg_sub (dv 0) de_int))
      (dss_cons (ds_asg (de_op o_mod (de_callTy c_int (by rfl) T.b_int boot_int (da_cons (de_op o_add (de_op o_add (de_op o_add (de_op o_mul (de_ix (dv 0) de_int) de_int) (de_op o_mul (dv 5) de_int)) (de_op o_mul (de_ix (dv 0) de_int) de_int)) de_int) da_nil)) de_int) (dg_sub (dv 0) de_int))
      (dss_cons (ds_if (dt_cmp o_eq (de_op o_mod (de_callTy c_int (by rfl) T.b_int boot_int (da_cons (de_ix (dv 0) de_int) da_nil)) de_int) de_int) (dss_one (ds_asg (de_op o_add (dv 3) de_int) (dg_sub (dv 0) de_int))) dss_nil)
      (dss_one (ds_ret (de_op o_mod (de_callTy c_int (by rfl) T.b_int boot_int (da_cons (de_op o_fdiv (de_op o_mod (de_callTy c_int (by rfl) T.b_int boot_int (da_cons (de_op o_mul (de_ix (dv 0) de_int) de_int) da_nil)) de_int) de_int) da_nil)) (dv 1))))))))))))
      (by
    rintro _ M Q ⟨b, c, many, rfl, ⟨xs, h, m, t, h1, h2, hne⟩, hm, hm2, q⟩
    have l1 : look M (.cell b) = some (.lst [.cell c, .int h, .int m, .int t]) := h1
    have l2 : look M (.cell c) = some (.lst (xs.map .int)) := h2
    have cdv : CDiv 0 (many : Int) := ⟨by omega, by omega⟩
    refine seq_cut (fun ρ' M' => M = M' ∧ ρ' = [some (.cell b), some (dN many), some (.cell c), some (.int h), none, none]) (fun N hN => ?_) ?_
    · conv => whnf
      rw [l1]
      conv => whnf
      refine ⟨_, rfl, ?_⟩
      conv => whnf
      rw [l1]
      conv => whnf
      refine ⟨_, rfl, ?_⟩
      exact hN _ _ ⟨rfl, rfl⟩
    rintro _ _ ⟨rfl, rfl⟩
    refine seq_cut (fun ρ' M' => M = M' ∧ ρ' = [some (.cell b), some (dN many), some (.cell c), some (.int h), none, none]) (fun N hN => ?_) ?_
    · conv => whnf
      rw [l2]
      refine d2 (fun e => ?_) (fun _ => ?_)
      · conv => whnf
        rw [l2]
        conv => whnf
        rw [List.length_map] at e
        have e' : h < xs.length := by omega
        refine ⟨.int (xs[h]'e'), ?_, ?_⟩
        · rw [atI_nat (by rw [List.length_map]; exact e')]
          simp
        refine And.intro ⟨by decide, by decide, by decide⟩ ?_
        refine d2 (fun _ => ?_) (fun _ => ?_)
        · conv => whnf
          rw [l2]
          conv => whnf
          refine ⟨.int (xs[h]'e'), ?_, ?_⟩
          · rw [atI_nat (by rw [List.length_map]; exact e')]
            simp
          refine And.intro (by show 0 < (many : Int); omega) ?_
          conv => whnf
          rw [l2]
          conv => whnf
          refine ⟨.int (xs[h]'e'), ?_, ?_⟩
          · rw [atI_nat (by rw [List.length_map]; exact e')]
            simp
          refine And.intro ⟨by omega, by omega⟩ ?_
          conv => whnf
          refine ⟨xs.map .int, h, h2, ixN_nat (by rw [List.length_map]; exact e'), ?_⟩
          obtain ⟨r, hr, er⟩ := mod_nat (x := xs[h]'e') hm
          refine ret_ok ?_
          show Q (.int (xs[h]'e' % (many : Int))) _
          rw [er]
          refine q r _ hr ⟨⟨xs.set h (xs[h]'e' / (many : Int)), h, m, t, ?_, ?_, hne⟩, fun z _ hz => ?_⟩
          · rw [updM_ne hne]; exact h1
          · rw [updM_same, List.map_set]
          · exact updM_ne hz
        · exact hN _ _ ⟨rfl, rfl⟩
      · exact dF rfl (hN _ _ ⟨rfl, rfl⟩)
    rintro _ _ ⟨rfl, rfl⟩
    refine seq_cut (fun ρ' M' => M = M' ∧ ∃ sm : Int, ρ' = [some (.cell b), some (dN many), some (.cell c), some (.int h), none, some (.int sm)]) (fun N hN => ?_) ?_
    · exact hN _ _ ⟨rfl, 0, rfl⟩
    rintro _ _ ⟨rfl, sm, rfl⟩
    refine seq_cut (fun ρ' M' => M = M' ∧ ∃ sm : Int, ρ' = [some (.cell b), some (dN many), some (.cell c), some (.int h), none, some (.int sm)]) (fun N hN => ?_) ?_
    · conv => whnf
      rw [l2]
      refine d2 (fun e => ?_) (fun _ => ?_)
      · conv => whnf
        rw [l2]
        conv => whnf
        rw [List.length_map] at e
        have e' : h < xs.length := by omega
        refine ⟨.int (xs[h]'e'), ?_, ?_⟩
        · rw [atI_nat (by rw [List.length_map]; exact e')]
          simp
        refine And.intro (show (0 : Int) < 1000003 by decide) ?_
        exact hN _ _ ⟨rfl, _, rfl⟩
      · exact hN _ _ ⟨rfl, _, rfl⟩
    rintro _ _ ⟨rfl, sm, rfl⟩
    -- box[3]
    refine seq_cut (fun ρ' M1 => M1 b = some (.lst [.cell c, .int h, .int m, .int (t + 1)]) ∧ M1 c = some (.lst (xs.map .int)) ∧ (∀ q, q ≠ b → q ≠ c → M1 q = M q) ∧ ρ' = [some (.cell b), some (dN many), some (.cell c), some (.int h), none, some (.int sm)]) (fun N hN => ?_) ?_
    · conv => whnf
      rw [l1]
      conv => whnf
      refine ⟨_, rfl, ?_⟩
      conv => whnf
      refine ⟨_, 3, h1, rfl, ?_⟩
      exact hN _ _ ⟨updM_same, by rw [updM_ne hne.symm]; exact h2, fun z hz _ => updM_ne hz, rfl⟩
    rintro _ M1 ⟨h3, h4, h5, rfl⟩
    have l3 : look M1 (.cell b) = some (.lst [.cell c, .int h, .int m, .int (t + 1)]) := h3
    refine seq_cut (fun ρ' M1 => (∃ m' : Int, M1 b = some (.lst [.cell c, .int h, .int m', .int (t + 1)])) ∧ M1 c = some (.lst (xs.map .int)) ∧ (∀ q, q ≠ b → q ≠ c → M1 q = M q) ∧ ρ' = [some (.cell b), some (dN many), some (.cell c), some (.int h), none, some (.int sm)]) (fun N hN => ?_) ?_
    · conv => whnf
      rw [l3]
      conv => whnf
      refine ⟨_, rfl, ?_⟩
      refine And.intro (.inr ⟨by decide, by decide⟩) ?_
      refine And.intro (.inr ⟨by decide, by decide⟩) ?_
      conv => whnf
      rw [l3]
      conv => whnf
      refine ⟨_, rfl, ?_⟩
      refine And.intro (.inr ⟨by decide, by decide⟩) ?_
      refine And.intro (show (0 : Int) < 2147483647 by decide) ?_
      conv => whnf
      refine ⟨_, 2, h3, rfl, ?_⟩
      exact hN _ _ ⟨⟨_, updM_same⟩, by rw [updM_ne hne.symm]; exact h4, fun z hz hz2 => by rw [updM_ne hz]; exact h5 z hz hz2, rfl⟩
    rintro _ M2 ⟨⟨m', h6⟩, h7, h8, rfl⟩
    have l6 : look M2 (.cell b) = some (.lst [.cell c, .int h, .int m', .int (t + 1)]) := h6
    refine seq_cut (fun ρ' M1 => (∃ h' : Nat, M1 b = some (.lst [.cell c, .int h', .int m', .int (t + 1)])) ∧ M1 c = some (.lst (xs.map .int)) ∧ (∀ q, q ≠ b → q ≠ c → M1 q = M q) ∧ ρ' = [some (.cell b), some (dN many), some (.cell c), some (.int h), none, some (.int sm)]) (fun N hN => ?_) ?_
    · conv => whnf
      rw [l6]
      conv => whnf
      refine ⟨_, rfl, ?_⟩
      refine And.intro (show (0 : Int) < 3 by decide) ?_
      refine d2 (fun _ => ?_) (fun _ => ?_)
      · conv => whnf
        refine ⟨_, 1, h6, rfl, ?_⟩
        exact hN _ _ ⟨⟨h + 1, updM_same⟩, by rw [updM_ne hne.symm]; exact h7, fun z hz hz2 => by rw [updM_ne hz]; exact h8 z hz hz2, rfl⟩
      · exact hN _ _ ⟨⟨h, h6⟩, h7, h8, rfl⟩
    rintro _ M3 ⟨⟨h', h9⟩, h10, h11, rfl⟩
    have l9 : look M3 (.cell b) = some (.lst [.cell c, .int h', .int m', .int (t + 1)]) := h9
    conv => whnf
    rw [l9]
    conv => whnf
    refine ⟨_, rfl, ?_⟩
    refine And.intro (.inr ⟨by decide, by decide⟩) ?_
    refine And.intro (show (0 : Int) < 2147483629 by decide) ?_
    refine And.intro (show CDiv _ 8 from ⟨by decide, by decide⟩) ?_
    refine And.intro (show (0 : Int) < (many : Int) by omega) ?_
    refine ret_ok ?_
    obtain ⟨r, hr, er⟩ := mod_nat (x := m' * 16807 % 2147483629 / 8) hm
    show Q (.int (m' * 16807 % 2147483629 / 8 % (many : Int))) _
    rw [er]
    exact q r _ hr ⟨⟨xs, h', m', t + 1, h9, h10, hne⟩, h11⟩
)
end
end K85

/-! part R3 -/
set_option maxHeartbeats 0
namespace K85
open PySem PySem.Spec PyProof.Rows L2 DL
section
variable {P : Program} {w : World} {K : PySem.W.Frag} {mg : Str → Option Value} {base : Heap}
def sp_law_mixed : SpD := fun ds M Q => ∃ b c xs, ds = [.cell b, .lst xs] ∧ BoxAt M b c ∧ xs.length < 1000 ∧ ∀ ys M', ys.Perm xs → BxR b c M M' → Q (.lst ys) M'
theorem len_law_mixed : ∀ ds M Q, sp_law_mixed ds M Q → ds.length = 2 := by
  rintro _ _ _ ⟨_, _, _, rfl, _⟩; rfl
theorem erase_perm {α : Type} {l : List α} {i : Nat} {d : α} (h : l[i]? = some d) : (d :: l.eraseIdx i).Perm l := by
  induction l generalizing i with
  | nil => simp at h
  | cons x r ih =>
    cases i with
    | zero => simp at h; subst h; exact .refl _
    | succ i =>
      have h' : r[i]? = some d := by simpa using h
      exact (List.Perm.swap x d _).trans (List.Perm.cons x (ih h'))
theorem ok_law_mixed (T : Txt K mg) : FnD P w K mg base 2 T.law_mixed.f T.law_mixed.fd ["box", "things"] sp_law_mixed := okDk T.law_mixed.F sc_law_mixed len_law_mixed (fun cdv A outer s H E hr =>
        (dss_cons (ds_par2 (i := 2) (j := 3) rfl sc_law_mixed.nd rfl rfl (by decide) rfl rfl (de_callTy c_listC (by rfl) T.b_list boot_list (da_cons (dv 1) da_nil)) (de_lstC da_nil))
      (dss_cons (ds_for PassesOwn.never rfl (di_rng1 (by rfl) T.b_range (de_callB c_len (by rfl) T.b_len boot_len (da_cons (dv 1) da_nil))) (dg_name (i := 4) sc_law_mixed.nd) (dss_one (ds_expr (de_app (dv 3) (de_popAt (dv 2) (de_call (ok_law_take T) (hr.mono (by decide)) (by rfl) T.law_take.g T.law_take.F.kp T.law_take.b (da_cons (dv 0) (da_cons (de_callB c_len (by rfl) T.b_len boot_len (da_cons (dv 2) da_nil)) da_nil))))))))
      (dss_one (ds_retF (dv 3))))))
      (by
    rintro _ M Q ⟨b, c, xs, rfl, hb, hl, q⟩
    refine seq_cut (fun ρ' M' => ∃ lf fd, M lf = none ∧ M fd = none ∧ lf ≠ fd ∧ M' = updM (updM M lf (.lst xs)) fd (.lst []) ∧ ρ' = [some (.cell b), some (.lst xs), some (.cell lf), some (.cell fd), none]) (fun N hN => ?_) ?_
    · conv => whnf
      intro lf h1
      conv => whnf
      refine ⟨by rw [sizeLine_eq]; decide, fun fd h2 => ?_⟩
      have hne : lf ≠ fd := fun e => by rw [e, updM_same] at h2; cases h2
      rw [updM_ne hne.symm] at h2
      exact hN _ _ ⟨lf, fd, h1, h2, hne, rfl, rfl⟩
    rintro _ _ ⟨lf, fd, h1, h2, hne, rfl, rfl⟩
    obtain ⟨hlb, hlc⟩ := hb.fresh h1
    obtain ⟨hfb, hfc⟩ := hb.fresh h2
    refine seq_cut (fun ρ' M' => ∃ F, M' fd = some (.lst F) ∧ F.Perm xs ∧ BoxAt M' b c ∧ (∀ q, q ≠ b → q ≠ c → q ≠ lf → q ≠ fd → M' q = M q) ∧ ∃ z, ρ' = [some (.cell b), some (.lst xs), some (.cell lf), some (.cell fd), z]) (fun N hN => ?_) ?_
    · conv => whnf
      refine ⟨⟨by omega, by omega⟩, ?_⟩
      refine loop_l (List.range xs.length) dN (by rw [show ((xs.length : Nat) : Int).toNat = xs.length from Int.toNat_natCast _]; exact rngD_map _) (fun i ρ' M' => ∃ L F, M' lf = some (.lst L) ∧ M' fd = some (.lst F) ∧ F.length = i ∧ (L ++ F).Perm xs ∧ BoxAt M' b c ∧ (∀ q, q ≠ b → q ≠ c → q ≠ lf → q ≠ fd → M' q = M q) ∧ ∃ z, ρ' = [some (.cell b), some (.lst xs), some (.cell lf), some (.cell fd), z]) ?_ ?_ ?_
      · refine ⟨xs, [], ?_, updM_same, rfl, by rw [List.append_nil], (hb.other hlb hlc).other hfb hfc, fun q _ _ h3 h4 => ?_, none, rfl⟩
        · rw [updM_ne hne, updM_same]
        · rw [updM_ne h4, updM_ne h3]
      · rintro i x _ M1 e hx ⟨L, F, e1, e2, e3, e4, e5, e6, z, rfl⟩
        have hx' : i < xs.length := by
          have := (List.getElem?_eq_some_iff.mp e).1
          simpa using this
        have hlen := e4.length_eq
        rw [List.length_append] at hlen
        conv => whnf
        refine ⟨⟨_, e2⟩, ⟨_, e1⟩, ?_⟩
        have l1 : look M1 (.cell lf) = some (.lst L) := e1
        conv => whnf
        rw [l1]
        conv => whnf
        refine ⟨b, c, L.length, rfl, e5, by omega, by omega, fun r M2 hr hM2 => ?_⟩
        refine ⟨L, L[r], by rw [hM2.2 _ hlb hlc]; exact e1, Int.natCast_nonneg _, by omega, by rw [Int.toNat_natCast]; exact List.getElem?_eq_getElem hr, ?_⟩
        refine ⟨F, by rw [updM_ne hne.symm, hM2.2 _ hfb hfc]; exact e2, by omega, ?_⟩
        refine ⟨L.eraseIdx r, F ++ [L[r]], ?_, updM_same, by rw [List.length_append, e3]; rfl, ?_, ((hM2.1).other hlb hlc).other hfb hfc, fun q a1 a2 a3 a4 => ?_, some (dN x), rfl⟩
        · rw [updM_ne hne, updM_same, Int.toNat_natCast]
        · refine List.Perm.trans ?_ e4
          have p := erase_perm (List.getElem?_eq_getElem hr)
          refine List.Perm.trans ?_ (p.append_right F)
          rw [← List.append_assoc]
          exact List.perm_append_singleton _ _
        · rw [updM_ne a4, updM_ne a3, hM2.2 q a1 a2]
          exact e6 q a1 a2 a3 a4
      · rintro _ M1 ⟨L, F, e1, e2, e3, e4, e5, e6, z, rfl⟩
        have hlen := e4.length_eq
        rw [List.length_append] at hlen
        rw [List.length_range] at e3
        have : L = [] := List.length_eq_zero_iff.mp (by omega)
        subst this
        exact hN _ _ ⟨F, e2, e4, e5, e6, z, rfl⟩
    rintro _ M1 ⟨F, e2, e4, e5, e6, z, rfl⟩
    conv => whnf
    refine ⟨.lst F, e2, delM (delM M1 fd) lf, ?_, q F _ e4 ⟨?_, fun y a1 a2 => ?_⟩⟩
    · intro y d e
      by_cases h : y = lf
      · rw [h, delM_same] at e; cases e
      · rw [delM_ne h] at e; exact e
    · obtain ⟨xs', k, m, t, g1, g2, g3⟩ := e5
      exact ⟨xs', k, m, t, by rw [delM_ne hlb.symm, delM_ne hfb.symm]; exact g1, by rw [delM_ne hlc.symm, delM_ne hfc.symm]; exact g2, g3⟩
    · by_cases h : y = lf
      · rw [h, delM_same, h1]
      · rw [delM_ne h]
        by_cases h' : y = fd
        · rw [h', delM_same, h2]
        · rw [delM_ne h']
          exact e6 y a1 a2 h h'
)
end
end K85

/-! part R4 -/
set_option maxHeartbeats 0
namespace K85
open PySem PySem.Spec PyProof.Rows L2 DL
section
variable {P : Program} {w : World} {K : PySem.W.Frag} {mg : Str → Option Value} {base : Heap}
structure Wd where
  n : Nat
  most : Nat
  begins : List Nat
  fs : List (Nat × Nat × List Nat)
def fD (x : Nat × Nat × List Nat) : D := .tup [dN x.2.1, .lst (x.2.2.map dN)]
def kN (k : Nat) : Key := .inl (k : Int)
def fsD (fs : List (Nat × Nat × List Nat)) : D := .dic (fs.map fun x => kN x.1) (fs.map fD)
def wks : List Key := ([Str.ofString "n", Str.ofString "most", Str.ofString "begins", Str.ofString "falls"] : List Str).map Sum.inr
def wD (W : Wd) : D := .dic wks [dN W.n, dN W.most, .lst (W.begins.map dN), fsD W.fs]
def Wd.fall (W : Wd) (j : Nat) : Option (Nat × Nat × List Nat) := W.fs.find? fun x => x.1 == j
def Wd.up (W : Wd) (i m : Nat) : Bool := match W.fall i with
  | none => true
  | some x => decide (m < x.2.1)
def Wd.came (W : Wd) (m j i : Nat) : Bool := decide (¬ m < 1) && (decide (¬ i = j) && (W.up i m && match W.fall j with
  | none => true
  | some x => decide (m < x.2.1) || (decide (x.2.1 = m) && decide (i ∈ x.2.2))))
theorem kN_inj {a b : Nat} : kN a = kN b ↔ a = b := by
  unfold kN
  constructor
  · intro h
    have := Sum.inl.inj h
    omega
  · rintro rfl; rfl
theorem getK_map {α : Type} (k : α → Nat) (g : α → D) (j : Nat) : ∀ fs : List α, getK (fs.map fun x => kN (k x)) (fs.map g) (kN j) = (fs.find? fun x => k x == j).map g
  | [] => rfl
  | x :: r => by
    rw [List.map_cons, List.map_cons, List.find?_cons]
    unfold getK
    by_cases h : k x = j
    · rw [if_pos (kN_inj.mpr h), h, beq_self_eq_true]; rfl
    · rw [if_neg fun e => h (kN_inj.mp e), show (k x == j) = false from beq_eq_false_iff_ne.mpr h]
      exact getK_map k g j r
theorem getK_fs (W : Wd) (j : Nat) : getK (W.fs.map fun x => kN x.1) (W.fs.map fD) (kN j) = (W.fall j).map fD := getK_map (fun x => x.1) fD j W.fs
theorem gW_n {a b c d : D} : getK wks [a, b, c, d] (.inr (Str.ofString "n")) = some a := by rfl
theorem gW_most {a b c d : D} : getK wks [a, b, c, d] (.inr (Str.ofString "most")) = some b := by rfl
theorem gW_begins {a b c d : D} : getK wks [a, b, c, d] (.inr (Str.ofString "begins")) = some c := by rfl
theorem gW_falls {a b c d : D} : getK wks [a, b, c, d] (.inr (Str.ofString "falls")) = some d := by rfl
theorem inD_nat (i : Nat) (l : List Nat) : inD (dN i) (l.map dN) = decide (i ∈ l) := by
  unfold inD
  rw [List.any_map]
  induction l with
  | nil => rfl
  | cons x r ih =>
    rw [List.any_cons, ih]
    have : ((fun y => eqD y (dN i)) ∘ dN) x = decide (i = x) := by
      show ((x : Int) == (i : Int)) = _
      by_cases h : i = x
      · rw [h, decide_eq_true rfl, beq_self_eq_true]
      · rw [decide_eq_false h, beq_eq_false_iff_ne.mpr (by omega)]
    rw [this, Bool.eq_iff_iff]
    simp
theorem flat_nat (l : List Nat) : (l.map dN).all flatD = true := by
  rw [List.all_map, List.all_eq_true]
  intro x _
  rfl
def sp_law_up : SpD := fun ds M Q => ∃ W i m, ds = [wD W, dN i, dN m] ∧ Q (.bl (W.up i m)) M
theorem len_law_up : ∀ ds M Q, sp_law_up ds M Q → ds.length = 3 := by
  rintro _ _ _ ⟨_, _, _, rfl, _⟩; rfl
def sp_law_came : SpD := fun ds M Q => ∃ W m j i, ds = [wD W, dN m, dN j, dN i] ∧ Q (.bl (W.came m j i)) M
theorem len_law_came : ∀ ds M Q, sp_law_came ds M Q → ds.length = 4 := by
  rintro _ _ _ ⟨_, _, _, _, rfl, _⟩; rfl
end
end K85

/-! part R5 -/
set_option maxHeartbeats 0
namespace K85
open PySem PySem.Spec PyProof.Rows L2 DL
section
variable {P : Program} {w : World} {K : PySem.W.Frag} {mg : Str → Option Value} {base : Heap}
def nsD (l : List Nat) : D := .lst (l.map dN)
def Wd.zer (W : Wd) (l : List Nat) : Bool := l.any fun j => W.begins.getD j 1 == 0
def sp_law_zero : SpD := fun ds M Q => ∃ W l, ds = [wD W, nsD l] ∧ l.length ≤ 2000 ∧ (∀ j ∈ l, j < W.begins.length) ∧ Q (.bl (W.zer l)) M
theorem len_law_zero : ∀ ds M Q, sp_law_zero ds M Q → ds.length = 2 := by
  rintro _ _ _ ⟨_, _, rfl, _⟩; rfl
theorem any_bl {α : Type} {l : List α} {g : α → Bool} {M : Mp} {Q : DK} (q : Q (.bl (l.any g)) M) : cAny [.lst (l.map fun x => D.bl (g x))] M Q := by
  refine ⟨l.map g, by rw [List.map_map]; rfl, ?_⟩
  rw [List.any_map]
  exact q
theorem dec_nat0 (k : Nat) : decide ((k : Int) = 0) = (k == 0) := by
  by_cases h : k = 0
  · rw [h]; rfl
  · rw [decide_eq_false (by omega), beq_eq_false_iff_ne.mpr h]
def Wd.back (W : Wd) (b : Nat) (near : List Nat) : List Nat := (List.range W.n).filter fun j => decide (j ∈ near) || near.any fun x => W.came b j x
def Wd.down (W : Wd) (i m : Nat) : Nat → List Nat
  | 0 => [i]
  | k + 1 => W.back (m - k) (W.down i m k)
def Wd.row (W : Wd) (i m b : Nat) : List Nat := W.down i m (m - b)
def sp_law_nodes : SpD := fun ds M Q => ∃ W i m, ds = [wD W, dN i, dN m] ∧ m ≤ 1000 ∧ W.n ≤ 1000 ∧ Q (.lst ((List.range (m + 1)).map fun b => nsD (W.row i m b))) M
theorem len_law_nodes : ∀ ds M Q, sp_law_nodes ds M Q → ds.length = 3 := by
  rintro _ _ _ ⟨_, _, _, rfl, _⟩; rfl
theorem back_len (W : Wd) (b : Nat) (l : List Nat) : (W.back b l).length ≤ W.n := Nat.le_trans (List.length_filter_le _ _) (by rw [List.length_range]; exact Nat.le_refl _)
theorem down_len {W : Wd} {i m : Nat} : ∀ k, (W.down i m k).length ≤ W.n + 1
  | 0 => by show 1 ≤ _; omega
  | k + 1 => Nat.le_trans (back_len W _ _) (by omega)
theorem set_map {n j : Nat} {g : Nat → D} {d : D} (h : j < n) : ((List.range n).map g).set j d = (List.range n).map fun k => if k = j then d else g k := by
  refine List.ext_getElem? fun k => ?_
  rw [List.getElem?_set, List.getElem?_map, List.getElem?_map, List.length_map, List.length_range]
  by_cases e : j = k
  · subst e
    rw [if_pos rfl, if_pos h, List.getElem?_range h]
    simp
  · rw [if_neg e]
    by_cases hk : k < n
    · rw [List.getElem?_range hk]
      simp [Ne.symm e]
    · rw [List.getElem?_eq_none (by rw [List.length_range]; omega)]
      rfl
/-- the greatest row with j so far -/
def SeenP (rows : List (List Nat)) (i : Nat) (f : Nat → Int) : Prop := ∀ j, (∀ b, b < i → j ∈ rows.getD b [] → (b : Int) ≤ f j) ∧ (f j = -1 ∨ ∃ b : Nat, b < i ∧ f j = b ∧ j ∈ rows.getD b [])
def sp_law_seen : SpD := fun ds M Q => ∃ W rows, ds = [wD W, .lst (rows.map nsD)] ∧ W.n ≤ 1000 ∧ rows.length ≤ 1000 ∧ (∀ l ∈ rows, ∀ j ∈ l, j < W.n) ∧ ∀ f, SeenP rows rows.length f → Q (.lst ((List.range W.n).map fun j => .int (f j))) M
theorem len_law_seen : ∀ ds M Q, sp_law_seen ds M Q → ds.length = 2 := by
  rintro _ _ _ ⟨_, _, rfl, _⟩; rfl
end
end K85

/-! part S6 -/
set_option maxHeartbeats 0
namespace K85
open PySem PySem.Spec PyProof.Rows L2 DL
section
variable {P : Program} {w : World} {K : PySem.W.Frag} {mg : Str → Option Value} {base : Heap}
def pI (k : Nat) : PyData := .int (k : Int)
def pNs (l : List Nat) : PyData := .list (l.map pI)
theorem py_ints : ∀ l : List Nat, pyDs (l.map dN) = some (l.map pI)
  | [] => rfl
  | x :: r => by
    rw [List.map_cons]
    unfold pyDs
    rw [py_ints r]
    rfl
theorem py_ns (l : List Nat) : pyD (nsD l) = some (pNs l) := by
  unfold nsD pyD
  rw [py_ints]
  rfl
theorem py_nss : ∀ ls : List (List Nat), pyDs (ls.map nsD) = some (ls.map pNs)
  | [] => rfl
  | x :: r => by
    rw [List.map_cons]
    unfold pyDs
    rw [py_nss r, py_ns]
    rfl
theorem lay_ints : ∀ l : List Nat, PyData.canLayAll0 (l.map pI) = true ∧ PyData.depthAll (l.map pI) ≤ 1
  | [] => by simp [PyData.canLayAll0, PyData.depthAll]
  | x :: r => by
    obtain ⟨h1, h2⟩ := lay_ints r
    rw [List.map_cons]
    refine ⟨by simp only [PyData.canLayAll0, pI, PyData.canLay0, Bool.true_and]; exact h1, ?_⟩
    simp only [PyData.depthAll, pI, PyData.depth]
    omega
theorem lay_ns (l : List Nat) : (pNs l).canLay0 = true ∧ (pNs l).depth ≤ 2 := by
  obtain ⟨h1, h2⟩ := lay_ints l
  unfold pNs
  refine ⟨by simp only [PyData.canLay0]; exact h1, ?_⟩
  simp only [PyData.depth]
  omega
theorem lay_nss : ∀ ls : List (List Nat), PyData.canLayAll0 (ls.map pNs) = true ∧ PyData.depthAll (ls.map pNs) ≤ 2
  | [] => by simp [PyData.canLayAll0, PyData.depthAll]
  | x :: r => by
    obtain ⟨h1, h2⟩ := lay_nss r
    obtain ⟨h3, h4⟩ := lay_ns x
    rw [List.map_cons]
    refine ⟨by simp only [PyData.canLayAll0, h3, Bool.true_and]; exact h1, ?_⟩
    simp only [PyData.depthAll]
    omega
theorem in_nss (ls : List (List Nat)) : (ls.map pNs).any (fun z => PyData.eqv z (pNs [])) = ls.any fun l => l.isEmpty := by
  rw [List.any_map]
  congr 1
  funext l
  cases l with
  | nil => simp [pNs, PyData.eqv, PyData.eqvAll]
  | cons x r => simp [pNs, PyData.eqv, PyData.eqvAll]
/-- [] in a list of lists -/
theorem in_empty {ls : List (List Nat)} {M : Mp} {Q : DK} (q : Q (.bl (ls.any fun l => l.isEmpty)) M) : dInDp false (.lst []) (.lst (ls.map nsD)) M Q := by
  refine ⟨pNs [], ls.map pNs, rfl, ?_, by simp [pNs, SeqAt.shaped, PyData.canLay0, PyData.canLayAll0, PyData.depth, PyData.depthAll], ?_, ?_⟩
  · show (pyDs _).map _ = _
    rw [py_nss]
    rfl
  · obtain ⟨h1, h2⟩ := lay_nss ls
    unfold SeqAt.shaped
    simp only [PyData.canLay0, PyData.depth, h1, Bool.true_and]
    exact decide_eq_true (by omega)
  · show Q (.bl ((ls.map pNs).any fun z => PyData.eqv z (pNs []))) M
    rw [in_nss]
    exact q
def Wd.bad (W : Wd) (rows : List (List Nat)) (j b : Nat) : Bool := (rows.getD b []).any fun k => !decide (k = j) && !W.came b j k
def Wd.isKn (W : Wd) (rows : List (List Nat)) (i j b : Nat) : Prop := j < W.n ∧ j ≠ i ∧ 1 ≤ b ∧ b < rows.length ∧ W.bad rows j b = true ∧ ∀ b', 1 ≤ b' → b' < b → W.bad rows j b' = false
theorem srt_nd {ps : List (Nat × Nat)} (h : (ps.map fun x => x.1).Pairwise (· < ·)) : (ps.map fun x => kN x.1).Nodup := by
  unfold List.Nodup
  rw [List.pairwise_map] at h ⊢
  exact h.imp fun hab e => by have := kN_inj.mp e; omega
theorem srt_snoc {ps : List (Nat × Nat)} {j b : Nat} (h : (ps.map fun x => x.1).Pairwise (· < ·)) (hj : ∀ a c, (a, c) ∈ ps → a < j) : ((ps ++ [(j, b)]).map fun x => x.1).Pairwise (· < ·) := by
  rw [List.map_append, List.pairwise_append]
  refine ⟨h, List.pairwise_singleton _ _, fun a ha c hc => ?_⟩
  obtain ⟨⟨x, y⟩, hx, rfl⟩ := List.mem_map.mp ha
  rw [List.mem_singleton.mp hc]
  exact hj x y hx
def KnP (W : Wd) (rows : List (List Nat)) (i : Nat) (ps : List (Nat × Nat)) : Prop := (ps.map fun x => x.1).Pairwise (· < ·) ∧ ∀ j b, (j, b) ∈ ps ↔ W.isKn rows i j b
/-- so far: the houses below J, and J for the rounds below B -/
def KnAt (W : Wd) (rows : List (List Nat)) (i J B : Nat) (ps : List (Nat × Nat)) : Prop := (ps.map fun x => x.1).Pairwise (· < ·) ∧ (∀ j b, (j, b) ∈ ps ↔ (j < J ∨ (j = J ∧ b < B)) ∧ W.isKn rows i j b) ∧ ps.length ≤ J + 1 ∧ ((∀ b, (J, b) ∉ ps) → ps.length ≤ J)
theorem putKD_new {k : Key} {d : D} : ∀ {ks : List Key} {ds : List D}, k ∉ ks → ks.length = ds.length → putKD k d ks ds = (ks ++ [k], ds ++ [d])
  | [], [], _, _ => rfl
  | [], _ :: _, _, h => by cases h
  | _ :: _, [], _, h => by cases h
  | a :: ks, x :: ds, h, hl => by
    unfold putKD
    rw [if_neg (fun e => h (by rw [e]; exact List.mem_cons_self)), putKD_new (fun z => h (List.mem_cons_of_mem _ z)) (by simpa using hl)]
    rfl
def kD (ps : List (Nat × Nat)) : D := .dic (ps.map fun x => kN x.1) (ps.map fun x => dN x.2)
theorem find_key {ps : List (Nat × Nat)} {j : Nat} : (ps.find? fun x => x.1 == j) = none ↔ ∀ b, (j, b) ∉ ps := by
  rw [List.find?_eq_none]
  constructor
  · intro h b hb
    exact h _ hb (beq_self_eq_true _)
  · rintro h ⟨a, b⟩ hx e
    have : a = j := eq_of_beq e
    subst this
    exact h b hx
theorem find_key2 {ps : List (Nat × Nat)} {j : Nat} {x : Nat × Nat} (h : (ps.find? fun x => x.1 == j) = some x) : x ∈ ps ∧ x.1 = j := by
  have h1 := List.find?_some h
  exact ⟨List.mem_of_find?_eq_some h, eq_of_beq h1⟩
theorem key_notin {ps : List (Nat × Nat)} {j : Nat} (h : ∀ b, (j, b) ∉ ps) : kN j ∉ ps.map fun x => kN x.1 := by
  intro hm
  obtain ⟨⟨a, b⟩, hx, e⟩ := List.mem_map.mp hm
  have := kN_inj.mp e
  subst this
  exact h b hx
theorem nodup_snoc {l : List Key} {k : Key} (h : l.Nodup) (hk : k ∉ l) : (l ++ [k]).Nodup := by
  rw [List.nodup_append]
  refine ⟨h, List.nodup_cons.mpr ⟨List.not_mem_nil, List.nodup_nil⟩, fun a ha b hb e => ?_⟩
  rw [List.mem_singleton] at hb
  subst hb
  subst e
  exact hk ha
def sp_law_fallen : SpD := fun ds M Q => ∃ W i rows, ds = [wD W, dN i, .lst (rows.map nsD)] ∧ W.n ≤ 1000 ∧ rows.length ≤ 1000 ∧ (∀ l ∈ rows, l.length ≤ 2000) ∧ ∀ ps, KnP W rows i ps → Q (kD ps) M
theorem len_law_fallen : ∀ ds M Q, sp_law_fallen ds M Q → ds.length = 3 := by
  rintro _ _ _ ⟨_, _, _, rfl, _⟩; rfl
end
end K85

/-! part S7 -/
set_option maxHeartbeats 0
namespace K85
open PySem PySem.Spec PyProof.Rows L2 DL
section
variable {P : Program} {w : World} {K : PySem.W.Frag} {mg : Str → Option Value} {base : Heap}
def Wd.isHid (W : Wd) (rows : List (List Nat)) (i b j : Nat) : Prop := j < W.n ∧ j ≠ i ∧ (∀ b', b ≤ b' → b' < rows.length → j ∉ rows.getD b' []) ∧ (∀ b', 1 ≤ b' → b' ≤ b → b' < rows.length → W.bad rows j b' = false)
def sp_law_hidden : SpD := fun ds M Q => ∃ W i rows, ds = [wD W, dN i, .lst (rows.map nsD)] ∧ W.n ≤ 1000 ∧ rows.length ≤ 1000 ∧ (∀ l ∈ rows, l.length ≤ 2000) ∧ (∀ l ∈ rows, ∀ j ∈ l, j < W.n) ∧
  ∀ h : Nat → List Nat, (∀ b, b < rows.length → ∀ j, j ∈ h b ↔ W.isHid rows i b j) → (∀ b, (h b).Pairwise (· < ·)) → Q (.lst (((List.range rows.length).map h).map nsD)) M
theorem len_law_hidden : ∀ ds M Q, sp_law_hidden ds M Q → ds.length = 3 := by
  rintro _ _ _ ⟨_, _, _, rfl, _⟩; rfl
theorem least_bad {f : Nat → Bool} : ∀ c, 1 ≤ c → f c = true → ∃ b, 1 ≤ b ∧ b ≤ c ∧ f b = true ∧ ∀ b', 1 ≤ b' → b' < b → f b' = false := by
  intro c
  induction c using Nat.strongRecOn with
  | _ c ih =>
    intro c1 c3
    by_cases hc : ∀ b', 1 ≤ b' → b' < c → f b' = false
    · exact ⟨c, c1, Nat.le_refl _, c3, hc⟩
    · have : ∃ b', 1 ≤ b' ∧ b' < c ∧ f b' = true := by
        refine Classical.byContradiction fun hn => hc fun b' q1 q2 => ?_
        cases q3 : f b' with
        | false => rfl
        | true => exact absurd ⟨b', q1, q2, q3⟩ hn
      obtain ⟨b', q1, q2, q3⟩ := this
      obtain ⟨b, r1, r2, r3, r4⟩ := ih b' q2 q1 q3
      exact ⟨b, r1, by omega, r3, r4⟩
def knV (ps : List (Nat × Nat)) (j b : Nat) : Nat := match ps.find? fun x => x.1 == j with
  | some x => x.2
  | none => b + 1
theorem hid_iff {W : Wd} {rows : List (List Nat)} {i : Nat} {ps : List (Nat × Nat)} {f : Nat → Int} (hk : KnP W rows i ps) (hf : SeenP rows rows.length f) {b j : Nat} (hb : b < rows.length) :
    (j < W.n ∧ j ≠ i ∧ f j < (b : Int) ∧ b < knV ps j b) ↔ W.isHid rows i b j := by
  unfold Wd.isHid
  constructor
  · rintro ⟨h1, h2, h3, h4⟩
    refine ⟨h1, h2, fun b' q1 q2 q3 => ?_, fun b' q1 q2 q3 => ?_⟩
    · have := (hf j).1 b' q2 q3
      omega
    · cases e : W.bad rows j b' with
      | false => rfl
      | true =>
        exfalso
        obtain ⟨c, r1, r2, r3, r4⟩ := least_bad (f := fun b => W.bad rows j b) b' q1 e
        have hm := (hk.2 j c).mpr ⟨h1, h2, r1, by omega, r3, r4⟩
        unfold knV at h4
        cases hfi : (ps.find? fun x => x.1 == j) with
        | none => exact find_key.mp hfi c hm
        | some x =>
          rw [hfi] at h4
          obtain ⟨x1, x2⟩ := find_key2 hfi
          have x3 := (hk.2 x.1 x.2).mp x1
          rw [x2] at x3
          have := x3.2.2.2.2.2 c r1 (by dsimp only at h4; omega)
          rw [this] at r3
          cases r3
  · rintro ⟨h1, h2, h3, h4⟩
    refine ⟨h1, h2, ?_, ?_⟩
    · rcases (hf j).2 with e | ⟨c, c1, c2, c3⟩
      · omega
      · refine Classical.byContradiction fun hn => h3 c (by omega) c1 c3
    · unfold knV
      cases hfi : (ps.find? fun x => x.1 == j) with
      | none => show b < b + 1; omega
      | some x =>
        obtain ⟨x1, x2⟩ := find_key2 hfi
        have x3 := (hk.2 x.1 x.2).mp x1
        rw [x2] at x3
        refine Classical.byContradiction fun hn => ?_
        have := h4 x.2 x3.2.2.1 (by dsimp only at hn; omega) x3.2.2.2.1
        have x4 := x3.2.2.2.2.1
        rw [this] at x4
        cases x4
def hL (W : Wd) (i : Nat) (f : Nat → Int) (ps : List (Nat × Nat)) (b : Nat) : List Nat := (List.range W.n).filter fun j => !decide (j = i) && (decide (f j < (b : Int)) && decide (b < knV ps j b))
/-- the rows of the view of (i, m) -/
def Wd.rows (W : Wd) (i m : Nat) : List (List Nat) := (List.range (m + 1)).map (W.row i m)
def Wd.Z (W : Wd) (i m : Nat) : Bool := W.zer (W.row i m 0)
def Wd.H (W : Wd) (i m : Nat) : Prop := ∃ b, b ≤ m ∧ ∀ j, ¬ W.isHid (W.rows i m) i b j
def Wd.Says (W : Wd) (i m v : Nat) : Prop := (∀ m', m' < m → W.Z i m' = false ∧ ¬ W.H i m') ∧ ((v = 0 ∧ W.Z i m = true) ∨ (v = 1 ∧ W.Z i m = false ∧ W.H i m))
end
end K85

/-! part S8a -/
set_option maxHeartbeats 0
namespace K85
open PySem PySem.Spec PyProof.Rows L2 DL
section
variable {P : Program} {w : World} {K : PySem.W.Frag} {mg : Str → Option Value} {base : Heap}
/-- the first rule ends at m with r -/
def Wd.Stop (W : Wd) (i m : Nat) (r : Option (Nat × Nat)) : Prop := (∀ m', m' < m → W.up i m' = true ∧ W.Z i m' = false ∧ ¬ W.H i m') ∧
  ((W.up i m = false ∧ r = none) ∨ (W.up i m = true ∧ W.Z i m = true ∧ r = some (m, 0)) ∨ (W.up i m = true ∧ W.Z i m = false ∧ W.H i m ∧ r = some (m, 1)))
def rD : Option (Nat × Nat) → D
  | none => .non
  | some (m, v) => .tup [dN m, dN v]
theorem down_lt {W : Wd} {i m : Nat} (hi : i < W.n) : ∀ k, ∀ j ∈ W.down i m k, j < W.n
  | 0, j, h => by rw [List.mem_singleton.mp h]; exact hi
  | k + 1, j, h => List.mem_range.mp (List.mem_filter.mp h).1
theorem rows_len (W : Wd) (i m : Nat) : (W.rows i m).length = m + 1 := by unfold Wd.rows; rw [List.length_map, List.length_range]
theorem rows_get {W : Wd} {i m b : Nat} (h : b ≤ m) : (W.rows i m).getD b [] = W.row i m b := by
  unfold Wd.rows
  rw [List.getD_eq_getElem?_getD, List.getElem?_map, List.getElem?_range (by omega)]
  rfl
theorem rows_mem {W : Wd} {i m : Nat} {l : List Nat} (h : l ∈ W.rows i m) : ∃ b, b ≤ m ∧ l = W.row i m b := by
  obtain ⟨b, hb, rfl⟩ := List.mem_map.mp h
  exact ⟨b, by have := List.mem_range.mp hb; omega, rfl⟩
def sp_law_whole : SpD := fun ds M Q => ∃ k m : Nat, ds = [dN k, dN m] ∧ Q (.bl (decide (k < m))) M
theorem len_law_whole : ∀ ds M Q, sp_law_whole ds M Q → ds.length = 2 := by
  rintro _ _ _ ⟨_, _, rfl, _⟩; rfl
end
end K85

/-! part S9 -/
set_option maxHeartbeats 0
namespace K85
open PySem PySem.Spec PyProof.Rows L2 DL
section
variable {P : Program} {w : World} {K : PySem.W.Frag} {mg : Str → Option Value} {base : Heap}
structure Wd.Ok (W : Wd) : Prop where
  n2 : 2 ≤ W.n
  n40 : W.n ≤ 40
  ml : W.most + 1 ≤ W.n
  bl : W.begins.length = W.n
  b01 : ∀ b ∈ W.begins, b = 0 ∨ b = 1
  nd : (W.fs.map fun x => x.1).Nodup
  len : W.fs.length ≤ W.most
  hn : ∀ x ∈ W.fs, x.1 < W.n
  t1 : ∀ x ∈ W.fs, 1 ≤ x.2.1 ∧ x.2.1 ≤ 60
  srt : ∀ x ∈ W.fs, x.2.2.Pairwise (· < ·)
  ln : ∀ x ∈ W.fs, ∀ y ∈ x.2.2, y < W.n ∧ y ≠ x.1
  ll : ∀ x ∈ W.fs, x.2.2.length + 2 ≤ W.n
theorem find_nd {α : Type} {k : α → Nat} : ∀ {l : List α} {x : α}, (l.map k).Nodup → x ∈ l → l.find? (fun y => k y == k x) = some x
  | [], _, _, h => by cases h
  | y :: r, x, nd, h => by
    rw [List.map_cons, List.nodup_cons] at nd
    rw [List.find?_cons]
    rcases List.mem_cons.mp h with rfl | h
    · rw [beq_self_eq_true]
    · have : (k y == k x) = false := beq_eq_false_iff_ne.mpr fun e => nd.1 (by rw [e]; exact List.mem_map.mpr ⟨x, h, rfl⟩)
      rw [this]
      exact find_nd nd.2 h
theorem Wd.fall_of {W : Wd} (nd : (W.fs.map fun x => x.1).Nodup) {x : Nat × Nat × List Nat} (h : x ∈ W.fs) : W.fall x.1 = some x := find_nd (k := fun x : Nat × Nat × List Nat => x.1) nd h
theorem Wd.of_fall {W : Wd} {j : Nat} {x : Nat × Nat × List Nat} (h : W.fall j = some x) : x ∈ W.fs ∧ x.1 = j := by
  have h1 := List.find?_some h
  exact ⟨List.mem_of_find?_eq_some h, eq_of_beq h1⟩
theorem Wd.up_mono {W : Wd} {j m m' : Nat} (h : W.up j m = true) (hm : m' ≤ m) : W.up j m' = true := by
  unfold Wd.up at h ⊢
  cases e : W.fall j with
  | none => rfl
  | some x =>
    rw [e] at h
    exact decide_eq_true (by have := of_decide_eq_true h; omega)
theorem came_iff {W : Wd} {m j i : Nat} : W.came m j i = true ↔ 1 ≤ m ∧ i ≠ j ∧ W.up i m = true ∧ ∀ x, W.fall j = some x → m < x.2.1 ∨ (x.2.1 = m ∧ i ∈ x.2.2) := by
  unfold Wd.came
  rw [Bool.and_eq_true, Bool.and_eq_true, Bool.and_eq_true, decide_eq_true_iff, decide_eq_true_iff]
  cases e : W.fall j with
  | none =>
    constructor
    · rintro ⟨a, b, c, _⟩
      exact ⟨by omega, b, c, fun x h => by cases h⟩
    · rintro ⟨a, b, c, _⟩
      exact ⟨by omega, b, c, rfl⟩
  | some x =>
    dsimp only
    rw [Bool.or_eq_true, Bool.and_eq_true, decide_eq_true_iff, decide_eq_true_iff, decide_eq_true_iff]
    constructor
    · rintro ⟨a, b, c, d⟩
      exact ⟨by omega, b, c, fun y h => by cases h; exact d⟩
    · rintro ⟨a, b, c, d⟩
      exact ⟨by omega, b, c, d x rfl⟩
theorem back_iff {W : Wd} {b : Nat} {near : List Nat} (hb : 1 ≤ b) (hne : near ≠ []) (hup : ∀ x ∈ near, W.up x b = true) {j : Nat} :
    j ∈ W.back b near ↔ j < W.n ∧ (W.up j b = true ∨ ∃ x, W.fall j = some x ∧ x.2.1 = b ∧ ∃ k, k ∈ near ∧ k ∈ x.2.2) := by
  unfold Wd.back
  rw [List.mem_filter, List.mem_range, Bool.or_eq_true, decide_eq_true_iff, List.any_eq_true]
  constructor
  · rintro ⟨hj, h | ⟨x, hx, h⟩⟩
    · exact ⟨hj, .inl (hup j h)⟩
    · refine ⟨hj, ?_⟩
      obtain ⟨_, _, _, h4⟩ := came_iff.mp h
      cases e : W.fall j with
      | none => left; unfold Wd.up; rw [e]
      | some y =>
        rcases h4 y e with h5 | ⟨h5, h6⟩
        · left; unfold Wd.up; rw [e]; exact decide_eq_true h5
        · exact .inr ⟨y, rfl, h5, x, hx, h6⟩
  · rintro ⟨hj, h | ⟨x, e, e2, k, k1, k2⟩⟩
    · refine ⟨hj, ?_⟩
      by_cases hjn : j ∈ near
      · exact .inl hjn
      · obtain ⟨x, hx⟩ := List.exists_mem_of_ne_nil near hne
        refine .inr ⟨x, hx, came_iff.mpr ⟨hb, fun z => hjn (by rw [← z]; exact hx), hup x hx, fun y ey => ?_⟩⟩
        unfold Wd.up at h
        rw [ey] at h
        exact .inl (of_decide_eq_true h)
    · refine ⟨hj, ?_⟩
      by_cases hkj : k = j
      · exact .inl (by rw [← hkj]; exact k1)
      · refine .inr ⟨k, k1, came_iff.mpr ⟨hb, hkj, hup k k1, fun y ey => ?_⟩⟩
        rw [e] at ey
        cases ey
        exact .inr ⟨e2, k2⟩
theorem down_self {W : Wd} {i m : Nat} (hi : i < W.n) : ∀ k, i ∈ W.down i m k
  | 0 => List.mem_singleton.mpr rfl
  | k + 1 => List.mem_filter.mpr ⟨List.mem_range.mpr hi, by rw [decide_eq_true (down_self hi k)]; rfl⟩
theorem down_up {W : Wd} {i m : Nat} (hi : i < W.n) (hup : W.up i m = true) : ∀ k, k ≤ m → ∀ x ∈ W.down i m k, W.up x (m - k) = true
  | 0, _, x, h => by rw [List.mem_singleton.mp h]; exact hup
  | k + 1, hk, x, h => by
    have ih := down_up hi hup k (by omega)
    rcases ((back_iff (by omega) (List.ne_nil_of_mem (down_self hi k)) ih).mp h).2 with h | ⟨y, e, e2, _⟩
    · exact Wd.up_mono h (by omega)
    · unfold Wd.up
      rw [e]
      exact decide_eq_true (by omega)
theorem row_self {W : Wd} {i m b : Nat} (hi : i < W.n) : i ∈ W.row i m b := down_self hi _
theorem row_lt {W : Wd} {i m b j : Nat} (hi : i < W.n) (h : j ∈ W.row i m b) : j < W.n := down_lt hi _ j h
theorem row_up {W : Wd} {i m b j : Nat} (hi : i < W.n) (hup : W.up i m = true) (hb : b ≤ m) (h : j ∈ W.row i m b) : W.up j b = true := by
  have := down_up hi hup (m - b) (by omega) j h
  rw [show m - (m - b) = b by omega] at this
  exact this
theorem row_top {W : Wd} {i m : Nat} : W.row i m m = [i] := by unfold Wd.row; rw [Nat.sub_self]; rfl
theorem row_succ {W : Wd} {i m b : Nat} (h : b < m) : W.row i m b = W.back (b + 1) (W.row i m (b + 1)) := by
  unfold Wd.row
  rw [show m - b = (m - (b + 1)) + 1 by omega]
  show W.back (m - (m - (b + 1))) _ = _
  rw [show m - (m - (b + 1)) = b + 1 by omega]
theorem row_iff {W : Wd} {i m b : Nat} (hi : i < W.n) (hup : W.up i m = true) (h : b < m) {j : Nat} :
    j ∈ W.row i m b ↔ j < W.n ∧ (W.up j (b + 1) = true ∨ ∃ x, W.fall j = some x ∧ x.2.1 = b + 1 ∧ ∃ k, k ∈ W.row i m (b + 1) ∧ k ∈ x.2.2) := by
  rw [row_succ h]
  exact back_iff (by omega) (List.ne_nil_of_mem (row_self hi)) fun x hx => row_up hi hup h hx
def runF : List Str := ["text", "houses", "most", "begins", "_falls", "_heard", "_zeros", "_rounds", "_ups"]
def fT (x : Nat × Nat × List Nat) : D := .tup [dN x.2.1, .tup (x.2.2.map dN)]
/-- a FallRun of this world -/
structure Run (W : Wd) where
  tx : Str
  fs : List (Nat × Nat × List Nat)
  hm : Nat → Nat
  z : Nat
  rk : List Key
  rd : List D
  um : Nat → Nat
  ids : (fs.map fun x => x.1).Nodup
  srt : (fs.map fun x => x.1).Pairwise (· < ·)
  mem : ∀ x, x ∈ fs ↔ x ∈ W.fs
  hbit : ∀ x ∈ fs, ∀ j, (hm x.1).testBit j = decide (j ∈ x.2.2)
  zbit : ∀ j, z.testBit j = (decide (j < W.n) && W.begins.getD j 1 == 0)
  rnd : ∀ a : Nat, ∃ l : List Nat, (getK rk rd (kN a)).getD (.lst []) = nsD l ∧ l.length ≤ 100 ∧ ∀ j, j ∈ l ↔ ∃ x ∈ fs, x.1 = j ∧ x.2.1 = a
  ubit : ∀ b, b ≤ 60 → ∀ j, (um b).testBit j = (decide (j < W.n) && W.up j b)
def Run.ds {W : Wd} (R : Run W) : List D := [.str R.tx, dN W.n, dN W.most, .tup (W.begins.map dN), .dic (R.fs.map fun x => kN x.1) (R.fs.map fT), .dic (R.fs.map fun x => kN x.1) (R.fs.map fun x => dN (R.hm x.1)), dN R.z, .dic R.rk R.rd, .lst ((List.range 61).map fun b => dN (R.um b))]
def Run.d {W : Wd} (R : Run W) (C : Addr) : D := .ins C runF R.ds
theorem Run.fall {W : Wd} (R : Run W) (nd : (W.fs.map fun x => x.1).Nodup) {x : Nat × Nat × List Nat} : x ∈ R.fs ↔ W.fall x.1 = some x := by
  rw [R.mem]
  exact ⟨Wd.fall_of nd, fun h => (Wd.of_fall h).1⟩
theorem f_text {a b c d e f g h i : D} : fldD runF [a, b, c, d, e, f, g, h, i] "text" = some a := by rfl
theorem f_houses {a b c d e f g h i : D} : fldD runF [a, b, c, d, e, f, g, h, i] "houses" = some b := by rfl
theorem f_falls {a b c d e f g h i : D} : fldD runF [a, b, c, d, e, f, g, h, i] "_falls" = some e := by rfl
theorem f_heard {a b c d e f g h i : D} : fldD runF [a, b, c, d, e, f, g, h, i] "_heard" = some f := by rfl
theorem f_zeros {a b c d e f g h i : D} : fldD runF [a, b, c, d, e, f, g, h, i] "_zeros" = some g := by rfl
theorem f_rounds {a b c d e f g h i : D} : fldD runF [a, b, c, d, e, f, g, h, i] "_rounds" = some h := by rfl
theorem f_ups {a b c d e f g h i : D} : fldD runF [a, b, c, d, e, f, g, h, i] "_ups" = some i := by rfl
def sp_FallRun__views (C : Addr) : SpD := fun ds M Q => ∃ (W : Wd) (R : Run W) (i m : Nat), ds = [R.d C, dN i, dN m] ∧ (W.fs.map fun x => x.1).Nodup ∧ W.n ≤ 1000 ∧ (∀ x ∈ W.fs, x.1 < W.n) ∧ i < W.n ∧ m ≤ 60 ∧ W.up i m = true ∧
  ∀ f : Nat → Nat, (∀ b, b ≤ m → ∀ j, (f b).testBit j = decide (j ∈ W.row i m b)) → Q (.lst ((List.range (m + 1)).map fun b => dN (f b))) M
theorem len_FallRun__views (C : Addr) : ∀ ds M Q, sp_FallRun__views C ds M Q → ds.length = 3 := by
  rintro _ _ _ ⟨_, _, _, _, rfl, _⟩; rfl
/-- a mask for a list -/
theorem mask_ex (l : List Nat) : ∃ m : Nat, ∀ j, m.testBit j = decide (j ∈ l) := by
  induction l with
  | nil => exact ⟨0, fun j => by simp⟩
  | cons x r ih =>
    obtain ⟨m, hm⟩ := ih
    refine ⟨m ||| 2 ^ x, fun j => ?_⟩
    rw [Nat.testBit_or, hm j, Nat.testBit_two_pow]
    by_cases h1 : j ∈ r <;> by_cases h2 : x = j <;> simp [h1, h2] <;> omega
theorem masks_ex (g : Nat → List Nat) : ∃ f : Nat → Nat, ∀ b j, (f b).testBit j = decide (j ∈ g b) :=
  ⟨fun b => Classical.choose (mask_ex (g b)), fun b => Classical.choose_spec (mask_ex (g b))⟩
end
end K85

/-! part T10 -/
set_option maxHeartbeats 0
namespace K85
open PySem PySem.Spec PyProof.Rows L2 DL
section
variable {P : Program} {w : World} {K : PySem.W.Frag} {mg : Str → Option Value} {base : Heap}
theorem items_map {α : Type} (k : α → Nat) (g : α → D) : ∀ l : List α, itemsD (l.map fun x => kN (k x)) (l.map g) = l.map fun x => .tup [dN (k x), g x]
  | [] => rfl
  | x :: r => by
    rw [List.map_cons, List.map_cons, List.map_cons, ← items_map k g r]
    rfl
theorem bad_iff {W : Wd} {i m j b : Nat} (hi : i < W.n) (hup : W.up i m = true) (hb1 : 1 ≤ b) (hb : b ≤ m) :
    W.bad (W.rows i m) j b = true ↔ ∃ k, k ∈ W.row i m b ∧ k ≠ j ∧ ∃ x, W.fall j = some x ∧ ¬ b < x.2.1 ∧ ¬ (x.2.1 = b ∧ k ∈ x.2.2) := by
  unfold Wd.bad
  rw [rows_get hb, List.any_eq_true]
  constructor
  · rintro ⟨k, hk, h⟩
    rw [Bool.and_eq_true, Bool.not_eq_true', Bool.not_eq_true', decide_eq_false_iff_not] at h
    refine ⟨k, hk, h.1, ?_⟩
    refine Classical.byContradiction fun hn => ?_
    have : W.came b j k = true := came_iff.mpr ⟨hb1, h.1, row_up hi hup hb hk, fun x hx => ?_⟩
    · rw [h.2] at this; cases this
    · refine Classical.byContradiction fun h2 => hn ⟨x, hx, fun z => h2 (.inl z), fun z => h2 (.inr z)⟩
  · rintro ⟨k, hk, hkj, x, hx, h1, h2⟩
    refine ⟨k, hk, ?_⟩
    rw [Bool.and_eq_true, Bool.not_eq_true', Bool.not_eq_true', decide_eq_false_iff_not]
    refine ⟨hkj, ?_⟩
    cases e : W.came b j k with
    | false => rfl
    | true =>
      rcases (came_iff.mp e).2.2.2 x hx with h | h
      · exact absurd h h1
      · exact absurd h h2
theorem kn_iff {W : Wd} {i m j b : Nat} (hi : i < W.n) (hup : W.up i m = true) {x : Nat × Nat × List Nat} (hx : W.fall j = some x) (hj : j < W.n) (hji : j ≠ i) (ht : 1 ≤ x.2.1) :
    W.isKn (W.rows i m) i j b ↔ x.2.1 ≤ m ∧ ((b = x.2.1 ∧ ∃ k, k ∈ W.row i m x.2.1 ∧ k ∉ x.2.2) ∨ (b = x.2.1 + 1 ∧ b ≤ m ∧ ∀ k, k ∈ W.row i m x.2.1 → k ∈ x.2.2)) := by
  have uj : W.up j x.2.1 = false := by
    unfold Wd.up; rw [hx]; exact decide_eq_false (Nat.lt_irrefl _)
  have hlow : ∀ b', 1 ≤ b' → b' ≤ m → b' < x.2.1 → W.bad (W.rows i m) j b' = false := fun b' h1 h2 h3 => by
    cases e : W.bad (W.rows i m) j b' with
    | false => rfl
    | true =>
      obtain ⟨k, _, _, y, hy, h4, _⟩ := (bad_iff hi hup h1 h2).mp e
      rw [hx] at hy; cases hy
      exact absurd h3 h4
  have hat : x.2.1 ≤ m → (W.bad (W.rows i m) j x.2.1 = true ↔ ∃ k, k ∈ W.row i m x.2.1 ∧ k ∉ x.2.2) := fun h => by
    rw [bad_iff hi hup ht h]
    constructor
    · rintro ⟨k, hk, _, y, hy, _, h5⟩
      rw [hx] at hy; cases hy
      exact ⟨k, hk, fun z => h5 ⟨rfl, z⟩⟩
    · rintro ⟨k, hk, hkl⟩
      refine ⟨k, hk, fun e => ?_, x, hx, Nat.lt_irrefl _, fun z => hkl z.2⟩
      have := row_up hi hup h hk
      rw [e, uj] at this
      cases this
  have hhi : ∀ b', b' ≤ m → x.2.1 < b' → W.bad (W.rows i m) j b' = true := fun b' h1 h2 =>
    (bad_iff hi hup (by omega) h1).mpr ⟨i, row_self hi, hji.symm, x, hx, by omega, by omega⟩
  unfold Wd.isKn
  rw [rows_len]
  constructor
  · rintro ⟨_, _, h1, h2, h3, h4⟩
    have h5 : ¬ b < x.2.1 := fun z => by rw [hlow b h1 (by omega) z] at h3; cases h3
    refine ⟨by omega, ?_⟩
    by_cases hb : b = x.2.1
    · subst hb
      exact .inl ⟨rfl, (hat (by omega)).mp h3⟩
    · have h6 := h4 x.2.1 ht (by omega)
      have hb2 : b = x.2.1 + 1 := by
        refine Classical.byContradiction fun z => ?_
        have := h4 (x.2.1 + 1) (by omega) (by omega)
        rw [hhi (x.2.1 + 1) (by omega) (by omega)] at this
        cases this
      refine .inr ⟨hb2, by omega, fun k hk => Classical.byContradiction fun z => ?_⟩
      have := (hat (by omega)).mpr ⟨k, hk, z⟩
      rw [h6] at this
      cases this
  · rintro ⟨h1, ⟨rfl, h2⟩ | ⟨rfl, h3, h4⟩⟩
    · exact ⟨hj, hji, ht, by omega, (hat h1).mpr h2, fun b' q1 q2 => hlow b' q1 (by omega) q2⟩
    · refine ⟨hj, hji, by omega, by omega, hhi _ h3 (by omega), fun b' q1 q2 => ?_⟩
      by_cases hb : b' = x.2.1
      · subst hb
        cases e : W.bad (W.rows i m) j x.2.1 with
        | false => rfl
        | true =>
          obtain ⟨k, hk, hkl⟩ := (hat h1).mp e
          exact absurd (h4 k hk) hkl
      · exact hlow b' q1 (by omega) (by omega)
theorem kn_none {W : Wd} {i m j b : Nat} (hi : i < W.n) (hup : W.up i m = true) (hx : W.fall j = none) : ¬ W.isKn (W.rows i m) i j b := by
  rintro ⟨_, _, h1, h2, h3, _⟩
  rw [rows_len] at h2
  obtain ⟨k, _, _, y, hy, _⟩ := (bad_iff hi hup h1 (by omega)).mp h3
  rw [hx] at hy
  cases hy
/-- what the views of (i, m) need -/
structure VOk (W : Wd) (i m : Nat) (f : Nat → Nat) : Prop where
  nd : (W.fs.map fun x => x.1).Nodup
  hn : W.n ≤ 900
  hfn : ∀ x ∈ W.fs, x.1 < W.n
  ht : ∀ x ∈ W.fs, 1 ≤ x.2.1
  hl : W.fs.length ≤ 1000
  hi : i < W.n
  hm : m ≤ 60
  up : W.up i m = true
  bit : ∀ b, b ≤ m → ∀ j, (f b).testBit j = decide (j ∈ W.row i m b)
def vD (m : Nat) (f : Nat → Nat) : D := .lst ((List.range (m + 1)).map fun b => dN (f b))
def sp_FallRun__known (C : Addr) : SpD := fun ds M Q => ∃ (W : Wd) (R : Run W) (i m : Nat) (f : Nat → Nat), ds = [R.d C, dN i, vD m f] ∧ R.fs.length ≤ 1000 ∧ VOk W i m f ∧ ∀ ps, KnP W (W.rows i m) i ps → ∀ p, M p = none → Q (.cell p) (updM M p (kD ps))
theorem len_FallRun__known (C : Addr) : ∀ ds M Q, sp_FallRun__known C ds M Q → ds.length = 3 := by
  rintro _ _ _ ⟨_, _, _, _, _, rfl, _⟩; rfl
end
end K85

/-! part R11 -/
set_option maxHeartbeats 0
namespace K85
open PySem PySem.Spec PyProof.Rows L2 DL
section
variable {P : Program} {w : World} {K : PySem.W.Frag} {mg : Str → Option Value} {base : Heap}
theorem row_mono {W : Wd} {i m : Nat} (hi : i < W.n) {j : Nat} : ∀ {d b : Nat}, b + d ≤ m → j ∈ W.row i m (b + d) → j ∈ W.row i m b
  | 0, b, _, h => h
  | d + 1, b, hb, h => by
    have h' : j ∈ W.row i m (b + 1) := row_mono hi (d := d) (b := b + 1) (by omega) (by rw [show b + 1 + d = b + (d + 1) by omega]; exact h)
    rw [row_succ (by omega)]
    exact List.mem_filter.mpr ⟨List.mem_range.mpr (row_lt hi h'), by rw [decide_eq_true h']; rfl⟩
theorem hid_iff2 {W : Wd} {i m b j : Nat} (hi : i < W.n) (hb : b ≤ m) {ps : List (Nat × Nat)} (hk : KnP W (W.rows i m) i ps) :
    W.isHid (W.rows i m) i b j ↔ j < W.n ∧ j ∉ W.row i m b ∧ ∀ b', b' ≤ b → (j, b') ∉ ps := by
  unfold Wd.isHid
  rw [rows_len]
  constructor
  · rintro ⟨h1, h2, h3, h4⟩
    refine ⟨h1, ?_, fun b' q1 q2 => ?_⟩
    · have := h3 b (Nat.le_refl _) (by omega)
      rw [rows_get hb] at this
      exact this
    · have q3 := (hk.2 j b').mp q2
      have := h4 b' q3.2.2.1 q1 (by omega)
      rw [q3.2.2.2.2.1] at this
      cases this
  · rintro ⟨h1, h2, h3⟩
    have hji : j ≠ i := fun e => h2 (by rw [e]; exact row_self hi)
    refine ⟨h1, hji, fun b' q1 q2 q3 => ?_, fun b' q1 q2 q3 => ?_⟩
    · rw [rows_get (by omega)] at q3
      exact h2 (row_mono hi (d := b' - b) (b := b) (by omega) (by rw [show b + (b' - b) = b' by omega]; exact q3))
    · cases e : W.bad (W.rows i m) j b' with
      | false => rfl
      | true =>
        obtain ⟨c, r1, r2, r3, r4⟩ := least_bad (f := fun b => W.bad (W.rows i m) j b) b' q1 e
        exact absurd ((hk.2 j c).mpr ⟨h1, hji, r1, by rw [rows_len]; omega, r3, r4⟩) (h3 c (by omega))
def sp_FallRun__hidden (C : Addr) : SpD := fun ds M Q => ∃ (W : Wd) (R : Run W) (i m : Nat) (f : Nat → Nat), ds = [R.d C, dN i, vD m f] ∧ R.fs.length ≤ 1000 ∧ VOk W i m f ∧
  ∀ g : Nat → Nat, (∀ b, b ≤ m → ∀ j, (g b).testBit j = true ↔ W.isHid (W.rows i m) i b j) → Q (.lst ((List.range (m + 1)).map fun b => dN (g b))) M
theorem len_FallRun__hidden (C : Addr) : ∀ ds M Q, sp_FallRun__hidden C ds M Q → ds.length = 3 := by
  rintro _ _ _ ⟨_, _, _, _, _, rfl, _⟩; rfl
end
end K85

/-! part F13 -/
set_option maxHeartbeats 0
namespace K85
open PySem PySem.Spec PyProof.Rows L2 DL
section
variable {P : Program} {w : World} {K : PySem.W.Frag} {mg : Str → Option Value} {base : Heap}
abbrev num (k : Nat) : Str := Str.ofString (toString ((k : Nat) : Int))
theorem num_tl (k : Nat) : TL.tl (num k) = TL.numL k := TL.tl_num k
theorem num_len {k : Nat} (h : k < 1000) : 1 ≤ (num k).length ∧ (num k).length ≤ 3 := by
  rw [TL.len_tl, num_tl]
  have h1 := TL.numL_len (n := k) (k := 3) (by decide) (by omega)
  have h2 := TL.numL_ne k
  have : (TL.numL k).length ≠ 0 := fun e => h2 (List.length_eq_zero_iff.mp e)
  omega
theorem numL_head : ∀ (k : Nat), 1 ≤ k → ∃ c r, TL.numL k = c :: r ∧ c ≠ 48 := by
  intro k
  induction k using Nat.strongRecOn with
  | _ k ih =>
    intro h
    by_cases hk : k < 10
    · exact ⟨48 + k, [], TL.numL_lt hk, by omega⟩
    · obtain ⟨c, r, e, hc⟩ := ih (k / 10) (by omega) (by omega)
      exact ⟨c, r ++ [48 + k % 10], by rw [TL.numL_step (by omega), e]; rfl, hc⟩
theorem rg_empty {k : Nat} (h1 : 1 ≤ k) (h3 : k ≤ 3) : RgC (k : Int) (k : Int) 64 0 := by
  have : k = 1 ∨ k = 2 ∨ k = 3 := by omega
  rcases this with rfl | rfl | rfl <;> exact ⟨by decide, by decide, by decide, by decide⟩
theorem cut_all (z : Str) {k : Nat} (h : z.length ≤ k) : cutS z none (some (k : Int)) = z := by
  unfold cutS
  rw [HT.sIx_none, HT.sIx_nat, Nat.min_eq_right h, Nat.sub_zero, List.drop_zero, List.take_of_length_le (by rw [TL.len_tl]; exact Nat.le_refl _)]
theorem big : 16000000 < sizeLine := by rw [sizeLine_eq]; decide
theorem digs : TL.tl (Str.ofString "0123456789") = [48, 49, 50, 51, 52, 53, 54, 55, 56, 57] := by rw [TL.tl_ofString]; decide
theorem str_ne {a b : Str} (h : TL.tl a ≠ TL.tl b) : decide (a = b) = false := decide_eq_false fun e => h (by rw [e])
theorem tl_empty : TL.tl (Str.ofString "") = [] := by rw [TL.tl_ofString]; rfl
/-- a line from its words -/
abbrev spc : Str := Str.ofString " "
theorem tl_spc : TL.tl spc = [32] := by rw [TL.tl_ofString]; rfl
def line (ws : List Str) : Str := Txt.join spc ws
theorem small256 {x : Str} {c : Nat} (h : TL.tl x = [c]) (hc : c < 256) : x.cps.all (· < 256) = true := by
  rw [← Array.all_toList]
  show (TL.tl x).all _ = true
  rw [h]
  simp [hc]
theorem line_split {ws : List Str} (hne : ws ≠ []) (h : ∀ w ∈ ws, 32 ∉ TL.tl w) : Txt.split (line ws) spc = ws := TL.split_join (s := 32) (S := []) tl_spc (small256 tl_spc (by decide)) hne h
theorem joinL_len (S : List Nat) : ∀ ps : List (List Nat), (TL.joinL S ps).length ≤ (ps.map List.length).sum + ps.length * S.length
  | [] => by simp [TL.joinL]
  | [p] => by simp [TL.joinL]
  | p :: q :: r => by
    have := joinL_len S (q :: r)
    show (p ++ (S ++ TL.joinL S (q :: r))).length ≤ _
    rw [List.length_append, List.length_append, List.map_cons, List.sum_cons, List.length_cons, Nat.succ_mul]
    omega
theorem join_len (y : Str) (ys : List Str) : (Txt.join y ys).length ≤ (ys.map (·.length)).sum + ys.length * y.length := by
  rw [TL.len_tl, TL.join_eq, TL.tl_join]
  have := joinL_len (TL.tl y) (ys.map TL.tl)
  rw [List.length_map, List.map_map] at this
  rw [TL.len_tl y]
  have e : ys.map (List.length ∘ TL.tl) = ys.map (·.length) := List.map_congr_left fun x _ => (TL.len_tl x).symm
  rw [e] at this
  exact this
theorem sum_le {α : Type} (f : α → Nat) (c : Nat) : ∀ l : List α, (∀ x ∈ l, f x ≤ c) → (l.map f).sum ≤ l.length * c
  | [], _ => by simp
  | x :: r, h => by
    have := sum_le f c r fun y hy => h y (List.mem_cons_of_mem _ hy)
    have := h x List.mem_cons_self
    rw [List.map_cons, List.sum_cons, List.length_cons, Nat.succ_mul]
    omega
theorem strs_get (ls : List Str) {a : Nat} {x : Str} (h : ls[a]? = some x) : atI (ls.map D.str) (a : Int) = some (.str x) := by
  obtain ⟨h1, h2⟩ := List.getElem?_eq_some_iff.mp h
  rw [atI_nat (by rw [List.length_map]; exact h1), List.getElem_map, h2]
end
end K85

/-! part F14 -/
set_option maxHeartbeats 0
namespace K85
open PySem PySem.Spec PyProof.Rows L2 DL
section
variable {P : Program} {w : World} {K : PySem.W.Frag} {mg : Str → Option Value} {base : Heap}
def lotT (l : List Nat) : Str := if l = [] then Str.ofString "-" else Txt.join (Str.ofString "+") (l.map num)
theorem mem_joinL {S : List Nat} {c : Nat} : ∀ {ps : List (List Nat)}, c ∈ TL.joinL S ps → c ∈ S ∨ ∃ p, p ∈ ps ∧ c ∈ p
  | [], h => by cases h
  | [p], h => .inr ⟨p, List.mem_singleton.mpr rfl, h⟩
  | p :: q :: r, h => by
    have h' : c ∈ p ++ (S ++ TL.joinL S (q :: r)) := h
    rcases List.mem_append.mp h' with h | h
    · exact .inr ⟨p, List.mem_cons_self, h⟩
    · rcases List.mem_append.mp h with h | h
      · exact .inl h
      · rcases mem_joinL h with h | ⟨p', h1, h2⟩
        · exact .inl h
        · exact .inr ⟨p', List.mem_cons_of_mem _ h1, h2⟩
theorem tl_join2 (y : Str) (ps : List Str) : TL.tl (Txt.join y ps) = TL.joinL (TL.tl y) (ps.map TL.tl) := by rw [TL.join_eq, TL.tl_join]
abbrev pls : Str := Str.ofString "+"
theorem tl_pls : TL.tl pls = [43] := by rw [TL.tl_ofString]; rfl
theorem tl_dash : TL.tl (Str.ofString "-") = [45] := by rw [TL.tl_ofString]; rfl
theorem lot_mem {l : List Nat} {c : Nat} (h : c ∈ TL.tl (lotT l)) : c = 45 ∨ c = 43 ∨ (48 ≤ c ∧ c ≤ 57) := by
  unfold lotT at h
  by_cases e : l = []
  · rw [if_pos e, tl_dash] at h
    exact .inl (List.mem_singleton.mp h)
  · rw [if_neg e, tl_join2, tl_pls] at h
    rcases mem_joinL h with h | ⟨p, h1, h2⟩
    · exact .inr (.inl (List.mem_singleton.mp h))
    · rw [List.map_map] at h1
      obtain ⟨k, _, rfl⟩ := List.mem_map.mp h1
      exact .inr (.inr (TL.numL_digits k c (by rw [← num_tl]; exact h2)))
theorem lot_len {l : List Nat} (hl : l.length ≤ 40) (h : ∀ y ∈ l, y < 1000) : (lotT l).length ≤ 200 := by
  unfold lotT
  by_cases e : l = []
  · rw [if_pos e, TL.len_tl, tl_dash]; decide
  · rw [if_neg e]
    refine Nat.le_trans (join_len _ _) ?_
    rw [List.map_map, List.length_map]
    have h1 := sum_le (fun x => (num x).length) 3 l fun x hx => (num_len (h x hx)).2
    have h2 : (Str.ofString "+").length = 1 := by rw [TL.len_tl, tl_pls]; rfl
    rw [h2]
    have : (l.map ((fun x => x.length) ∘ num)).sum ≤ l.length * 3 := h1
    omega
theorem lot_split {l : List Nat} (h : l ≠ []) : Txt.split (lotT l) pls = l.map num := by
  unfold lotT
  rw [if_neg h]
  refine TL.split_join (s := 43) (S := []) tl_pls (small256 tl_pls (by decide)) (fun e => h (List.map_eq_nil_iff.mp e)) fun p hp hm => ?_
  obtain ⟨k, _, rfl⟩ := List.mem_map.mp hp
  rw [num_tl] at hm
  exact TL.numL_free (n := k) (s := 43) (by omega) hm
theorem joinL_head {S : List Nat} {p : List Nat} {r : List (List Nat)} : ∃ t, TL.joinL S (p :: r) = p ++ t := by
  cases r with
  | nil => exact ⟨[], by rw [List.append_nil]; rfl⟩
  | cons q r => exact ⟨S ++ TL.joinL S (q :: r), rfl⟩
theorem lot_dash {l : List Nat} (h : l ≠ []) : decide (lotT l = Str.ofString "-") = false := by
  refine str_ne ?_
  unfold lotT
  rw [if_neg h, tl_dash, tl_join2, List.map_map]
  cases l with
  | nil => exact absurd rfl h
  | cons k r =>
    rw [List.map_cons]
    obtain ⟨t, e⟩ := joinL_head (S := TL.tl (Str.ofString "+")) (p := (TL.tl ∘ num) k) (r := r.map (TL.tl ∘ num))
    rw [e]
    intro z
    have h1 : (TL.tl ∘ num) k = TL.numL k := num_tl k
    rw [h1] at z
    have hne := TL.numL_ne k
    cases e2 : TL.numL k with
    | nil => exact hne e2
    | cons c cs =>
      rw [e2] at z
      have h3 := (List.cons.inj z).1
      have h4 := TL.numL_digits k c (by rw [e2]; exact List.mem_cons_self)
      omega
theorem num01 {b : Nat} (h : b = 0 ∨ b = 1) : num b = Str.ofString "0" ∨ num b = Str.ofString "1" := by
  rcases h with rfl | rfl
  · exact .inl (TL.ext_tl (by rw [num_tl, TL.numL_lt (by decide), TL.tl_ofString]; rfl))
  · exact .inr (TL.ext_tl (by rw [num_tl, TL.numL_lt (by decide), TL.tl_ofString]; rfl))
theorem cut_tail (d : D) (ds : List D) : DL.cutD (d :: ds) (some 1) none = ds := by
  unfold DL.cutD
  have h1 : HT.sIx (d :: ds).length 0 (some 1) = 1 := by
    rw [show (1 : Int) = ((1 : Nat) : Int) from rfl, HT.sIx_nat, List.length_cons]
    omega
  rw [h1, HT.sIx_none, List.drop_one, List.tail_cons]
  refine List.take_of_length_le ?_
  rw [List.length_cons]
  omega
theorem sorted_cast {l : List Nat} {ns : List Int} (hs : l.Pairwise (· < ·)) (hp : ns.Perm (l.map fun (k : Nat) => (k : Int))) (hn : ns.Pairwise (· ≤ ·)) : ns = l.map fun (k : Nat) => (k : Int) := by
  refine List.Perm.eq_of_pairwise (le := (· ≤ ·)) (fun a b _ _ h1 h2 => Int.le_antisymm h1 h2) hn ?_ hp
  rw [List.pairwise_map]
  exact hs.imp fun h => by omega
theorem nodup_lt {l : List Nat} (hs : l.Pairwise (· < ·)) : (l.map fun (k : Nat) => (k : Int)).Nodup := by
  unfold List.Nodup
  rw [List.pairwise_map]
  exact hs.imp fun h => by omega
theorem dN_ints (l : List Nat) : l.map dN = (l.map fun (k : Nat) => (k : Int)).map D.int := by rw [List.map_map]; rfl
theorem inD_non (l : List Nat) : inD .non (l.map dN) = false := by
  unfold inD
  rw [List.any_map, List.any_eq_false]
  intro x _ h
  cases h
end
end K85

/-! part F15 -/
set_option maxHeartbeats 0
namespace K85
open PySem PySem.Spec PyProof.Rows L2 DL
section
variable {P : Program} {w : World} {K : PySem.W.Frag} {mg : Str → Option Value} {base : Heap}
abbrev nl : Str := Str.ofString "\n"
theorem tl_nl : TL.tl nl = [10] := by rw [TL.tl_ofString]; rfl
def toks0 (W : Wd) : List (List Str) := [[Str.ofString "falls"], [Str.ofString "houses", num W.n], [Str.ofString "most", num W.most], Str.ofString "begins" :: W.begins.map num]
def ftok (x : Nat × Nat × List Nat) : List Str := [Str.ofString "fall", num x.1, num x.2.1, lotT x.2.2]
def toks (W : Wd) : List (List Str) := toks0 W ++ (W.fs.map ftok ++ [[Str.ofString "done"]])
def wtext (W : Wd) : Str := Txt.join nl ((toks W).map line) ++ nl
theorem joinL_snoc (S : List Nat) : ∀ {ps : List (List Nat)}, ps ≠ [] → TL.joinL S (ps ++ [[]]) = TL.joinL S ps ++ S
  | [], h => absurd rfl h
  | [p], _ => by show p ++ (S ++ []) = p ++ S; rw [List.append_nil]
  | p :: q :: r, _ => by
    have := joinL_snoc S (ps := q :: r) (by simp)
    show p ++ (S ++ TL.joinL S (q :: r ++ [[]])) = (p ++ (S ++ TL.joinL S (q :: r))) ++ S
    rw [this, List.append_assoc, List.append_assoc]
theorem wtext_join (W : Wd) : wtext W = Txt.join nl ((toks W).map line ++ [Str.ofString ""]) := by
  refine TL.ext_tl ?_
  unfold wtext
  rw [TL.tl_append, tl_join2, tl_join2, List.map_append, show [Str.ofString ""].map TL.tl = [[]] from by rw [List.map_cons, tl_empty]; rfl, joinL_snoc]
  unfold toks toks0
  simp
theorem strOk_of {w : Str} (h : ∀ c ∈ TL.tl w, c < 1114112) : PyData.strOk w = true := by
  unfold PyData.strOk
  rw [← Array.all_toList, List.all_eq_true]
  exact fun c hc => decide_eq_true (h c hc)
structure GoodTok (ws : List Str) : Prop where
  ne : ws ≠ []
  ln : ws.length ≤ 41
  w : ∀ w ∈ ws, w.length ≤ 200 ∧ 32 ∉ TL.tl w ∧ 10 ∉ TL.tl w ∧ PyData.strOk w = true
theorem GoodTok.len {ws : List Str} (g : GoodTok ws) : (line ws).length ≤ 9000 := by
  have h1 := join_len spc ws
  have h2 := sum_le (fun x : Str => x.length) 200 ws fun x hx => (g.w x hx).1
  have h3 : spc.length = 1 := by rw [TL.len_tl, tl_spc]; rfl
  rw [h3] at h1
  have := g.ln
  unfold line
  have h4 : ws.length * 200 ≤ 41 * 200 := Nat.mul_le_mul_right _ this
  omega
theorem GoodTok.nonl {ws : List Str} (g : GoodTok ws) : 10 ∉ TL.tl (line ws) := by
  unfold line
  rw [tl_join2, tl_spc]
  intro h
  rcases mem_joinL h with h | ⟨p, h1, h2⟩
  · have := List.mem_singleton.mp h
    cases this
  · obtain ⟨w, hw, rfl⟩ := List.mem_map.mp h1
    exact (g.w w hw).2.2.1 h2
theorem tok_num {k : Nat} (h : k < 1000) : (num k).length ≤ 200 ∧ 32 ∉ TL.tl (num k) ∧ 10 ∉ TL.tl (num k) ∧ PyData.strOk (num k) = true := by
  have ho : PyData.strOk (num k) = true := strOk_of fun c hc => by
    rw [num_tl] at hc
    have := TL.numL_digits k c hc
    omega
  rw [num_tl]
  exact ⟨by have := (num_len h).2; omega, TL.numL_free (.inl (by decide)), TL.numL_free (.inl (by decide)), ho⟩
theorem tok_word {s : String} (h1 : s.toList.length ≤ 200) (h2 : 32 ∉ s.toList.map Char.toNat) (h3 : 10 ∉ s.toList.map Char.toNat) (h4 : ∀ c ∈ s.toList.map Char.toNat, c < 1114112) : (Str.ofString s).length ≤ 200 ∧ 32 ∉ TL.tl (Str.ofString s) ∧ 10 ∉ TL.tl (Str.ofString s) ∧ PyData.strOk (Str.ofString s) = true := by
  have ho : PyData.strOk (Str.ofString s) = true := strOk_of fun c hc => by
    rw [TL.tl_ofString] at hc
    exact h4 c hc
  rw [TL.len_tl, TL.tl_ofString]
  exact ⟨by rw [List.length_map]; exact h1, h2, h3, ho⟩
theorem toks_good {W : Wd} (ok : W.Ok) : ∀ ws ∈ toks W, GoodTok ws := by
  have n40 := ok.n40
  intro ws h
  unfold toks toks0 at h
  rcases List.mem_append.mp h with h | h
  · simp only [List.mem_cons, List.not_mem_nil, or_false] at h
    rcases h with rfl | rfl | rfl | rfl
    · exact ⟨by simp, by show 1 ≤ _; omega, fun w hw => by rw [List.mem_singleton.mp hw]; exact tok_word (by decide) (by decide) (by decide) (by decide)⟩
    · refine ⟨by simp, by show 2 ≤ _; omega, fun w hw => ?_⟩
      simp only [List.mem_cons, List.not_mem_nil, or_false] at hw
      rcases hw with rfl | rfl
      · exact tok_word (by decide) (by decide) (by decide) (by decide)
      · exact tok_num (by omega)
    · refine ⟨by simp, by show 2 ≤ _; omega, fun w hw => ?_⟩
      simp only [List.mem_cons, List.not_mem_nil, or_false] at hw
      rcases hw with rfl | rfl
      · exact tok_word (by decide) (by decide) (by decide) (by decide)
      · have := ok.ml
        exact tok_num (by omega)
    · refine ⟨by simp, ?_, fun w hw => ?_⟩
      · rw [List.length_cons, List.length_map, ok.bl]
        omega
      · rcases List.mem_cons.mp hw with rfl | hw
        · exact tok_word (by decide) (by decide) (by decide) (by decide)
        · obtain ⟨b, hb, rfl⟩ := List.mem_map.mp hw
          refine tok_num ?_
          rcases ok.b01 b hb with rfl | rfl <;> decide
  · rcases List.mem_append.mp h with h | h
    · obtain ⟨x, hx, rfl⟩ := List.mem_map.mp h
      refine ⟨by unfold ftok; simp, by show 4 ≤ _; omega, fun w hw => ?_⟩
      unfold ftok at hw
      simp only [List.mem_cons, List.not_mem_nil, or_false] at hw
      have h1 := ok.hn x hx
      have h2 := ok.t1 x hx
      have h3 := ok.ll x hx
      rcases hw with rfl | rfl | rfl | rfl
      · exact tok_word (by decide) (by decide) (by decide) (by decide)
      · exact tok_num (by omega)
      · exact tok_num (by omega)
      · refine ⟨lot_len (by omega) fun y hy => by have := (ok.ln x hx y hy).1; omega, fun hm => ?_, fun hm => ?_, strOk_of fun c hm => ?_⟩
        · have := lot_mem hm; omega
        · have := lot_mem hm; omega
        · have := lot_mem hm; omega
    · rw [List.mem_singleton.mp h]
      exact ⟨by simp, by show 1 ≤ _; omega, fun w hw => by rw [List.mem_singleton.mp hw]; exact tok_word (by decide) (by decide) (by decide) (by decide)⟩
theorem toks_length (W : Wd) : (toks W).length = W.fs.length + 5 := by
  unfold toks toks0
  rw [List.length_append, List.length_append, List.length_map]
  show 4 + (_ + 1) = _
  omega
theorem text_split {W : Wd} (ok : W.Ok) : Txt.split (wtext W) nl = (toks W).map line ++ [Str.ofString ""] := by
  rw [wtext_join]
  refine TL.split_join (s := 10) (S := []) tl_nl (small256 tl_nl (by decide)) (by simp) fun p hp => ?_
  rcases List.mem_append.mp hp with h | h
  · obtain ⟨ws, hw, rfl⟩ := List.mem_map.mp h
    exact (toks_good ok ws hw).nonl
  · rw [List.mem_singleton.mp h, tl_empty]
    exact List.not_mem_nil
theorem nl_len : nl.length = 1 := by rw [TL.len_tl, tl_nl]; rfl
theorem lines_sum {W : Wd} (ok : W.Ok) : (((toks W).map line).map (·.length)).sum + ((toks W).map line).length * nl.length ≤ 500000 := by
  rw [List.map_map, List.length_map, nl_len, toks_length]
  have h1 := sum_le (fun ws => (line ws).length) 9000 (toks W) fun x hx => (toks_good ok x hx).len
  rw [toks_length] at h1
  have h2 := ok.len
  have h3 := ok.ml
  have h4 := ok.n40
  have h5 : (W.fs.length + 5) * 9000 ≤ 45 * 9000 := Nat.mul_le_mul_right _ (by omega)
  have h6 : ((toks W).map ((fun x : Str => x.length) ∘ line)).sum = ((toks W).map fun ws => (line ws).length).sum := rfl
  rw [h6]
  omega
theorem text_len {W : Wd} (ok : W.Ok) : (wtext W).length ≤ 500001 := by
  unfold wtext
  rw [TL.len_tl, TL.tl_append, List.length_append, ← TL.len_tl, ← TL.len_tl, nl_len]
  have h1 := join_len nl ((toks W).map line)
  have h2 := lines_sum ok
  omega
theorem tok_get (W : Wd) (t : Nat) {x : Nat × Nat × List Nat} (h : W.fs[t]? = some x) : (toks W)[4 + t]? = some (ftok x) := by
  unfold toks
  have ht := (List.getElem?_eq_some_iff.mp h).1
  rw [List.getElem?_append_right (by show 4 ≤ _; omega), show 4 + t - (toks0 W).length = t by show 4 + t - 4 = t; omega, List.getElem?_append_left (by rw [List.length_map]; exact ht), List.getElem?_map, h]
  rfl
theorem tok_done (W : Wd) : (toks W)[4 + W.fs.length]? = some [Str.ofString "done"] := by
  unfold toks
  rw [List.getElem?_append_right (by show 4 ≤ _; omega), show 4 + W.fs.length - (toks0 W).length = W.fs.length by show 4 + _ - 4 = _; omega, List.getElem?_append_right (by rw [List.length_map]; exact Nat.le_refl _), List.length_map, Nat.sub_self]
  rfl
def pSs (l : List Str) : PyData := .list (l.map .str)
theorem py_strs : ∀ l : List Str, pyDs (l.map .str) = some (l.map .str)
  | [] => rfl
  | x :: r => by
    rw [List.map_cons]
    unfold pyDs
    rw [py_strs r]
    rfl
theorem py_ss (l : List Str) : pyD (.lst (l.map .str)) = some (pSs l) := by
  unfold pyD
  rw [py_strs]
  rfl
theorem lay_strs : ∀ l : List Str, (∀ x ∈ l, PyData.strOk x = true) → PyData.canLayAll0 (l.map .str) = true ∧ PyData.depthAll (l.map .str) ≤ 1
  | [], _ => by simp [PyData.canLayAll0, PyData.depthAll]
  | x :: r, h => by
    obtain ⟨h1, h2⟩ := lay_strs r fun y hy => h y (List.mem_cons_of_mem _ hy)
    rw [List.map_cons]
    refine ⟨by simp only [PyData.canLayAll0, PyData.canLay0, h x List.mem_cons_self, Bool.true_and]; exact h1, ?_⟩
    simp only [PyData.depthAll, PyData.depth]
    omega
theorem shaped_ss {l : List Str} (h : ∀ x ∈ l, PyData.strOk x = true) : SeqAt.shaped (pSs l) = true := by
  obtain ⟨h1, h2⟩ := lay_strs l h
  unfold SeqAt.shaped pSs
  simp only [PyData.canLay0, PyData.depth, h1, Bool.true_and]
  exact decide_eq_true (by omega)
theorem eqv_strs : ∀ l m : List Str, PyData.eqvAll (l.map .str) (m.map .str) = decide (l = m)
  | [], [] => by simp [PyData.eqvAll]
  | [], y :: r => by simp [PyData.eqvAll]
  | x :: r, [] => by simp [PyData.eqvAll]
  | x :: r, y :: s => by
    rw [List.map_cons, List.map_cons]
    unfold PyData.eqvAll
    rw [eqv_strs r s]
    simp only [PyData.eqv]
    by_cases h1 : x = y
    · subst h1
      by_cases h2 : r = s <;> simp [h2]
    · rw [beq_eq_false_iff_ne.mpr h1, Bool.false_and, decide_eq_false fun e => h1 (List.cons.inj e).1]
/-- two lists of texts, compared -/
theorem ne_strs {l m : List Str} {M : Mp} {Q : DK} (hl : ∀ x ∈ l, PyData.strOk x = true) (hm : ∀ x ∈ m, PyData.strOk x = true) (q : Q (.bl (!decide (l = m))) M) : dEqD true (.lst (l.map .str)) (.lst (m.map .str)) M Q := by
  refine ⟨pSs l, pSs m, py_ss l, py_ss m, shaped_ss hl, shaped_ss hm, ?_⟩
  show Q (.bl (!PyData.eqv (pSs l) (pSs m))) M
  rw [show PyData.eqv (pSs l) (pSs m) = decide (l = m) from by unfold pSs; simp only [PyData.eqv]; exact eqv_strs l m]
  exact q
theorem nodup_kN {α : Type} {k : α → Nat} {l : List α} (h : (l.map k).Nodup) : (l.map fun x => kN (k x)).Nodup := by
  unfold List.Nodup at h ⊢
  rw [List.pairwise_map] at h ⊢
  exact h.imp fun hne e => hne (kN_inj.mp e)
end
end K85

/-! part F80 -/
set_option maxHeartbeats 0
namespace K85
open PySem PySem.Spec PyProof.Rows L2 DL
section
variable {P : Program} {w : World} {K : PySem.W.Frag} {mg : Str → Option Value} {base : Heap}
/-! the plain reader: numbers -/
def isDg (c : Nat) : Bool := decide (48 ≤ c) && decide (c ≤ 57)
def digL (l : List Nat) : Bool := !l.isEmpty && (decide (l.length ≤ 9) && (l.all isDg && !(decide (1 < l.length) && (l.head? == some 48))))
def dig (x : Str) : Option Nat := if digL (TL.tl x) = true then some (NumText.digitsVal (TL.tl x)) else none
theorem map_chars : ∀ {l : List Nat}, (∀ c ∈ l, 48 ≤ c ∧ c ≤ 57) → (l.map Char.ofNat).map Char.toNat = l
  | [], _ => rfl
  | c :: r, h => by
    rw [List.map_cons, List.map_cons, map_chars fun x hx => h x (List.mem_cons_of_mem _ hx)]
    have hc := h c List.mem_cons_self
    have : c = 48 ∨ c = 49 ∨ c = 50 ∨ c = 51 ∨ c = 52 ∨ c = 53 ∨ c = 54 ∨ c = 55 ∨ c = 56 ∨ c = 57 := by omega
    congr 1
    rcases this with rfl | rfl | rfl | rfl | rfl | rfl | rfl | rfl | rfl | rfl <;> decide
theorem digL_iff {l : List Nat} : digL l = true ↔ l ≠ [] ∧ l.length ≤ 9 ∧ (∀ c ∈ l, 48 ≤ c ∧ c ≤ 57) ∧ ¬ (1 < l.length ∧ l.head? = some 48) := by
  unfold digL isDg
  simp only [Bool.and_eq_true, Bool.not_eq_true', decide_eq_true_eq, List.all_eq_true, List.isEmpty_eq_false_iff, Bool.and_eq_false_iff, decide_eq_false_iff_not, beq_eq_false_iff_ne, ne_eq, Classical.not_and_iff_not_or_not]
theorem numL_of {l : List Nat} (h : digL l = true) : TL.numL (NumText.digitsVal l) = l := by
  obtain ⟨h1, h2, h3, h4⟩ := digL_iff.mp h
  unfold TL.numL
  cases l with
  | nil => exact absurd rfl h1
  | cons c r =>
    rw [NumText.toDigits_digitsVal r.length (c :: r) rfl h3 ?_, map_chars h3]
    by_cases hr : r.length = 0
    · exact .inl hr
    · refine .inr ⟨c, r, rfl, ?_⟩
      have hc := h3 c List.mem_cons_self
      have : c ≠ 48 := fun e => h4 ⟨by rw [List.length_cons]; omega, by rw [e]; rfl⟩
      omega
theorem dig_some {x : Str} {k : Nat} (h : dig x = some k) : x = num k ∧ (num k).length ≤ 9 := by
  unfold dig at h
  split at h
  · rename_i e
    cases h
    have e1 : x = num (NumText.digitsVal (TL.tl x)) := TL.ext_tl (by rw [num_tl, numL_of e])
    exact ⟨e1, by rw [← e1, TL.len_tl]; exact (digL_iff.mp e).2.1⟩
  · cases h
theorem dig_num {k : Nat} (h : (num k).length ≤ 9) : dig (num k) = some k := by
  have e : digL (TL.tl (num k)) = true := by
    rw [TL.len_tl] at h
    refine digL_iff.mpr ⟨by rw [num_tl]; exact TL.numL_ne k, h, fun c hc => by rw [num_tl] at hc; have := TL.numL_digits k c hc; omega, fun ⟨z1, z2⟩ => ?_⟩
    have hk : 1 ≤ k := by
      refine Classical.byContradiction fun z => ?_
      have hk0 : k = 0 := by omega
      subst hk0
      rw [num_tl, TL.numL_lt (by decide)] at z1
      exact absurd z1 (by decide)
    obtain ⟨c, r, e2, hc⟩ := numL_head k hk
    rw [num_tl, e2] at z2
    exact hc (Option.some.inj z2)
  unfold dig
  rw [if_pos e, num_tl, TL.numL_val]
theorem dig_small {k : Nat} (h : k < 1000) : dig (num k) = some k := dig_num (by have := (num_len h).2; omega)
theorem dig_none {x : Str} (h : dig x = none) : ¬ digL (TL.tl x) = true := by
  intro e
  unfold dig at h
  rw [if_pos e] at h
  cases h
def digD : Option Nat → D
  | none => .non
  | some k => dN k
/-! pieces -/
theorem spl_mem (S : List Nat) : ∀ (l : List Nat) (k : Nat) (acc : List Nat), ∀ p ∈ TL.spl S k acc l, p.length ≤ acc.length + l.length ∧ ∀ c ∈ p, c ∈ acc ∨ c ∈ l
  | [], k, acc, p, h => by
    rw [TL.spl_nil, List.mem_singleton] at h
    subst h
    exact ⟨by simp, fun c hc => .inl hc⟩
  | a :: r, 0, acc, p, h => by
    unfold TL.spl at h
    split at h
    · rcases List.mem_cons.mp h with rfl | h
      · exact ⟨by omega, fun c hc => .inl hc⟩
      · obtain ⟨h1, h2⟩ := spl_mem S r _ _ p h
        rw [List.length_nil] at h1
        rw [List.length_cons]
        exact ⟨by omega, fun c hc => .inr (List.mem_cons_of_mem _ ((h2 c hc).resolve_left List.not_mem_nil))⟩
    · obtain ⟨h1, h2⟩ := spl_mem S r _ _ p h
      rw [List.length_append] at h1
      rw [List.length_cons]
      refine ⟨by simp at h1; omega, fun c hc => ?_⟩
      rcases h2 c hc with h | h
      · rcases List.mem_append.mp h with h | h
        · exact .inl h
        · rw [List.mem_singleton.mp h]; exact .inr List.mem_cons_self
      · exact .inr (List.mem_cons_of_mem _ h)
  | a :: r, k + 1, acc, p, h => by
    have h' : p ∈ TL.spl S k acc r := h
    obtain ⟨h1, h2⟩ := spl_mem S r _ _ p h'
    rw [List.length_cons]
    exact ⟨by omega, fun c hc => (h2 c hc).imp id (List.mem_cons_of_mem _)⟩
theorem spl_len (S : List Nat) : ∀ (l : List Nat) (k : Nat) (acc : List Nat), 1 ≤ (TL.spl S k acc l).length ∧ (TL.spl S k acc l).length ≤ l.length + 1
  | [], k, acc => by rw [TL.spl_nil]; exact ⟨Nat.le_refl _, Nat.le_refl _⟩
  | a :: r, 0, acc => by
    unfold TL.spl
    split
    · have := spl_len S r (S.length - 1) []
      rw [List.length_cons, List.length_cons]
      omega
    · have := spl_len S r 0 (acc ++ [a])
      rw [List.length_cons]
      omega
  | a :: r, k + 1, acc => by
    have := spl_len S r k acc
    rw [List.length_cons]
    exact ⟨this.1, by have := this.2; exact Nat.le_succ_of_le this⟩
theorem spl_free (s : Nat) : ∀ (l acc : List Nat), s ∉ acc → ∀ p ∈ TL.spl [s] 0 acc l, s ∉ p
  | [], acc, ha, p, h => by
    rw [TL.spl_nil, List.mem_singleton] at h
    subst h
    exact ha
  | a :: r, acc, ha, p, h => by
    unfold TL.spl at h
    split at h
    · rcases List.mem_cons.mp h with rfl | h
      · exact ha
      · exact spl_free s r [] List.not_mem_nil p h
    · rename_i e
      refine spl_free s r _ (fun z => ?_) p h
      rcases List.mem_append.mp z with z | z
      · exact ha z
      · refine e ?_
        rw [List.mem_singleton] at z
        subst z
        unfold TL.pre
        simp
theorem joinL_spl (s : Nat) : ∀ (l acc : List Nat), TL.joinL [s] (TL.spl [s] 0 acc l) = acc ++ l
  | [], acc => by rw [TL.spl_nil, List.append_nil]; rfl
  | a :: r, acc => by
    unfold TL.spl
    split
    · rename_i e
      have ea : a = s := by
        unfold TL.pre at e
        simpa using e
      subst ea
      have ih := joinL_spl a r []
      have h1 := (spl_len [a] r 0 []).1
      show TL.joinL [a] (acc :: TL.spl [a] 0 [] r) = _
      cases e2 : TL.spl [a] 0 [] r with
      | nil => rw [e2] at h1; exact absurd h1 (by decide)
      | cons q t =>
        rw [e2] at ih
        show acc ++ ([a] ++ TL.joinL [a] (q :: t)) = _
        rw [ih]
        simp
    · rw [joinL_spl s r (acc ++ [a])]
      simp
theorem split_tl {x y : Str} {s : Nat} (ey : TL.tl y = [s]) (hs : s < 256) : (Txt.split x y).map TL.tl = TL.spl [s] 0 [] (TL.tl x) := by
  rw [TL.split_spl x y (by rw [ey]; simp) (TL.kind_ok (small256 ey hs)), ey]
structure Pcs (s : Nat) (x : Str) (ps : List Str) : Prop where
  ne : 1 ≤ ps.length
  len : ps.length ≤ x.length + 1
  pl : ∀ p ∈ ps, p.length ≤ x.length
  ch : ∀ p ∈ ps, ∀ c ∈ TL.tl p, c ∈ TL.tl x
  fr : ∀ p ∈ ps, s ∉ TL.tl p
theorem pcs {x y : Str} {s : Nat} (ey : TL.tl y = [s]) (hs : s < 256) : Pcs s x (Txt.split x y) := by
  have e := split_tl (x := x) ey hs
  have hl : (Txt.split x y).length = (TL.spl [s] 0 [] (TL.tl x)).length := by rw [← e, List.length_map]
  have h1 := spl_len [s] (TL.tl x) 0 []
  have hm : ∀ p ∈ Txt.split x y, TL.tl p ∈ TL.spl [s] 0 [] (TL.tl x) := fun p hp => by rw [← e]; exact List.mem_map_of_mem hp
  refine ⟨by omega, by rw [TL.len_tl]; omega, fun p hp => ?_, fun p hp c hc => ?_, fun p hp => spl_free s _ [] List.not_mem_nil _ (hm p hp)⟩
  · have := (spl_mem _ _ _ _ _ (hm p hp)).1
    rw [TL.len_tl, TL.len_tl]
    simpa using this
  · exact ((spl_mem _ _ _ _ _ (hm p hp)).2 c hc).resolve_left List.not_mem_nil
theorem split_one {x y w : Str} {s : Nat} (ey : TL.tl y = [s]) (hs : s < 256) (h : Txt.split x y = [w]) : x = w := by
  have e := split_tl (x := x) ey hs
  have j := joinL_spl s (TL.tl x) []
  rw [← e, h] at j
  exact TL.ext_tl j.symm
theorem split_free {x y : Str} {s : Nat} (ey : TL.tl y = [s]) (hs : s < 256) (h : s ∉ TL.tl x) : Txt.split x y = [x] := by
  refine TL.map_tl_inj ?_
  rw [split_tl ey hs, TL.spl_last1 h]
  rfl
theorem strOk_iff {w : Str} : PyData.strOk w = true ↔ ∀ c ∈ TL.tl w, c < 1114112 := by
  unfold PyData.strOk
  rw [← Array.all_toList, List.all_eq_true]
  exact ⟨fun h c hc => of_decide_eq_true (h c hc), fun h c hc => decide_eq_true (h c hc)⟩
theorem Pcs.ok {s : Nat} {x : Str} {ps : List Str} (h : Pcs s x ps) (hx : PyData.strOk x = true) : ∀ p ∈ ps, PyData.strOk p = true := fun p hp =>
  strOk_iff.mpr fun c hc => strOk_iff.mp hx c (h.ch p hp c hc)
/-! the plain reader: lines -/
abbrev sF (s : String) : Str := Str.ofString s
abbrev words (l : Str) : List Str := Txt.split l spc
theorem words_pcs (l : Str) : Pcs 32 l (words l) := pcs tl_spc (by decide)
theorem word_one {s : String} (h : 32 ∉ s.toList.map Char.toNat) (l : Str) : words l = [sF s] ↔ l = sF s := by
  constructor
  · exact split_one tl_spc (by decide)
  · rintro rfl
    exact split_free tl_spc (by decide) (by rw [TL.tl_ofString]; exact h)
inductive Er where
  | w (s : Str)
  | m (s : Str) (k : Nat)
inductive RR where
  | ok (W : Wd)
  | bad (ln : Nat) (why : Str)
  | many (ln : Nat) (what : Str) (k : Nat)
def RR.of (ln : Nat) : Er → RR
  | .w s => .bad ln s
  | .m s k => .many ln s k
def two (w : Str) : List Str → Option Nat
  | [a, b] => if a = w then dig b else none
  | _ => none
def rH (ts : List Str) : Except Er Nat := match two (sF "houses") ts with
  | none => .error (.w (sF "form"))
  | some k => if k < 2 then .error (.w (sF "form")) else if 40 < k then .error (.m (sF "houses") k) else .ok k
def rM (ts : List Str) (n : Nat) : Except Er Nat := match two (sF "most") ts with
  | none => .error (.w (sF "form"))
  | some k => if n ≤ k then .error (.w (sF "range")) else .ok k
def bit (t : Str) : Nat := if t = sF "0" then 0 else 1
def isBit (t : Str) : Bool := decide (t = sF "0") || decide (t = sF "1")
def rB (ts : List Str) (n : Nat) : Except Er (List Nat) := if ts.head? = some (sF "begins") ∧ ts.length = n + 1 ∧ ts.tail.all isBit = true then .ok (ts.tail.map bit) else .error (.w (sF "form"))
def lotP (x : Str) : List (Option Nat) := if x = sF "-" then [] else (Txt.split x pls).map dig
def srt (l : List Nat) : List Nat := l.mergeSort
/-- a lot's numbers, checked -/
def rG (n : Nat) (fs : List (Nat × Nat × List Nat)) (h : Nat) (l : List Nat) : Except Er (List Nat) :=
  if n ≤ h ∨ ∃ y ∈ l, n ≤ y then .error (.w (sF "range"))
  else if h ∈ fs.map (fun x => x.1) ∨ ¬ l.Nodup then .error (.w (sF "double"))
  else if h ∈ l ∨ l.length + 1 = n then .error (.w (sF "lot"))
  else .ok (srt l)
def rF1 (n : Nat) (fs : List (Nat × Nat × List Nat)) (h t : Option Nat) (lp : List (Option Nat)) : Except Er (Nat × Nat × List Nat) := match h, t with
  | some h, some t => if t = 0 ∨ none ∈ lp then .error (.w (sF "form")) else (rG n fs h (lp.filterMap id)).map fun l => (h, t, l)
  | _, _ => .error (.w (sF "form"))
def rF0 (n : Nat) (fs : List (Nat × Nat × List Nat)) : List Str → Except Er (Nat × Nat × List Nat)
  | [a, b, c, d] => if a = sF "fall" then rF1 n fs (dig b) (dig c) (lotP d) else .error (.w (sF "form"))
  | _ => .error (.w (sF "form"))
def rF (n most : Nat) (fs : List (Nat × Nat × List Nat)) (ts : List Str) : Except Er (Nat × Nat × List Nat) := match rF0 n fs ts with
  | .error e => .error e
  | .ok x => if most ≤ fs.length then .error (.w (sF "most")) else if 60 < x.2.1 then .error (.m (sF "beats") x.2.1) else .ok x
structure RS where
  stage : Nat
  W : Wd
def RS.step (s : RS) (l : Str) : Except Er RS :=
  if s.stage = 4 ∧ l ≠ sF "done" then (rF s.W.n s.W.most s.W.fs (words l)).map fun x => ⟨4, { s.W with fs := s.W.fs ++ [x] }⟩
  else if s.stage = 5 ∨ (s.stage = 0 ∧ l ≠ sF "falls") then .error (.w (sF "form"))
  else if s.stage = 1 then (rH (words l)).map fun k => ⟨2, { s.W with n := k }⟩
  else if s.stage = 2 then (rM (words l) s.W.n).map fun k => ⟨3, { s.W with most := k }⟩
  else if s.stage = 3 then (rB (words l) s.W.n).map fun bs => ⟨4, { s.W with begins := bs }⟩
  else .ok ⟨s.stage + 1, s.W⟩
def RS.run : RS → Nat → List Str → RR
  | _, ln, [] => .bad ln (sF "missing")
  | s, ln, [l] => if l = sF "" then (if s.stage = 5 then .ok s.W else .bad ln (sF "missing")) else .bad ln (sF "form")
  | s, ln, l :: q :: r => match s.step l with
    | .error e => RR.of ln e
    | .ok s' => RS.run s' (ln + 1) (q :: r)
def rs0 : RS := ⟨0, ⟨0, 0, [], []⟩⟩
def rdT (x : Str) : RR := RS.run rs0 1 (Txt.split x nl)
theorem run_one {s : RS} {ln : Nat} {l : Str} : RS.run s ln [l] = if l = sF "" then (if s.stage = 5 then .ok s.W else .bad ln (sF "missing")) else .bad ln (sF "form") := by
  unfold RS.run; rfl
theorem run_two {s : RS} {ln : Nat} {l q : Str} {r : List Str} : RS.run s ln (l :: q :: r) = match s.step l with
    | .error e => RR.of ln e
    | .ok s' => RS.run s' (ln + 1) (q :: r) := by
  rw [RS.run]
end
end K85

/-! part G13 -/
set_option maxHeartbeats 0
namespace K85
open PySem PySem.Spec PyProof.Rows L2 DL
section
variable {P : Program} {w : World} {K : PySem.W.Frag} {mg : Str → Option Value} {base : Heap}
theorem rg_empty9 {k : Nat} (h1 : 1 ≤ k) (h3 : k ≤ 9) : RgC (k : Int) (k : Int) 64 0 := by
  have : k = 1 ∨ k = 2 ∨ k = 3 ∨ k = 4 ∨ k = 5 ∨ k = 6 ∨ k = 7 ∨ k = 8 ∨ k = 9 := by omega
  rcases this with rfl | rfl | rfl | rfl | rfl | rfl | rfl | rfl | rfl <;> exact ⟨by decide, by decide, by decide, by decide⟩
theorem num_pos (k : Nat) : 1 ≤ (num k).length := by
  rw [TL.len_tl, num_tl]
  exact List.length_pos_iff.mpr (TL.numL_ne k)
theorem dig_no {x : Str} (h : ¬ digL (TL.tl x) = true) : dig x = none := by
  unfold dig
  rw [if_neg h]
theorem isDg_in (c : Nat) : decide (c ∈ (Str.ofString "0123456789").cps.toList) = isDg c := by
  show decide (c ∈ TL.tl (Str.ofString "0123456789")) = _
  rw [digs]
  unfold isDg
  rw [Bool.eq_iff_iff, decide_eq_true_eq, Bool.and_eq_true, decide_eq_true_eq, decide_eq_true_eq]
  simp only [List.mem_cons, List.not_mem_nil, or_false]
  omega
def sp_value_of : SpD := fun ds M Q => ∃ k : Nat, ds = [.str (num k)] ∧ (num k).length ≤ 9 ∧ Q (dN k) M
theorem len_value_of : ∀ ds M Q, sp_value_of ds M Q → ds.length = 1 := by
  rintro _ _ _ ⟨_, rfl, _⟩; rfl
theorem ok_value_of (T : Txt K mg) : FnD P w K mg base 1 T.value_of.f T.value_of.fd ["digits"] sp_value_of := okDk T.value_of.F sc_value_of len_value_of (fun cdv A outer s H E hr =>
        (dss_cons (ds_set (i := 1) sc_value_of.nd (de_op o_mod (de_callB c_lenS (by rfl) T.b_len boot_len (da_cons (dv 0) da_nil)) de_int))
      (dss_cons (ds_set (i := 2) sc_value_of.nd (de_if (dt_cmp o_gt (dv 1) de_int) (de_callTy c_intS (by rfl) T.b_int boot_int (da_cons (de_slS (dv 0) do_none (do_some (dv 1))) da_nil)) de_int))
      (dss_cons (ds_for PassesOwn.never rfl (di_rng3 (by rfl) T.b_range (dv 1) (de_callB c_lenS (by rfl) T.b_len boot_len (da_cons (dv 0) da_nil)) de_int) (dg_name (i := 3) sc_value_of.nd) (dss_one (ds_set (i := 2) sc_value_of.nd (de_op o_add (de_op o_mul (dv 2) (de_op o_pow de_int de_int)) (de_callTy c_intS (by rfl) T.b_int boot_int (da_cons (de_slS (dv 0) (do_some (dv 3)) (do_some (de_op o_add (dv 3) de_int))) da_nil))))))
      (dss_one (ds_ret (dv 2)))))))
      (by
    rintro _ M Q ⟨k, rfl, h3, q⟩
    have hb := big
    have h1 := num_pos k
    refine seq_cut (fun ρ' M' => M = M' ∧ ρ' = [some (.str (num k)), some (dN (num k).length), none, none]) (fun N hN => ?_) ?_
    · conv => whnf
      refine ⟨by omega, ?_⟩
      refine And.intro (show (0 : Int) < 64 by decide) ?_
      refine hN _ _ ⟨rfl, ?_⟩
      show [some _, some (D.int (((num k).length : Int) % 64)), none, none] = _
      rw [show (((num k).length : Nat) : Int) % 64 = (((num k).length : Nat) : Int) by omega]
      rfl
    rintro _ _ ⟨rfl, rfl⟩
    refine seq_cut (fun ρ' M' => M = M' ∧ ρ' = [some (.str (num k)), some (dN (num k).length), some (dN k), none]) (fun N hN => ?_) ?_
    · refine d2 (fun _ => ?_) (fun e => absurd (show (((num k).length : Nat) : Int) > 0 by omega) e)
      conv => whnf
      refine ⟨by omega, ?_⟩
      conv => whnf
      rw [cut_all _ (Nat.le_refl _)]
      refine ⟨k, TL.int_num (by rw [← num_tl, ← TL.len_tl]; omega), by omega, ?_⟩
      exact hN _ _ ⟨rfl, rfl⟩
    rintro _ _ ⟨rfl, rfl⟩
    refine seq_cut (fun ρ' M' => M = M' ∧ ρ' = [some (.str (num k)), some (dN (num k).length), some (dN k), none]) (fun N hN => ?_) ?_
    · conv => whnf
      refine ⟨by omega, ?_⟩
      conv => whnf
      refine ⟨0, rg_empty9 h1 h3, ?_⟩
      refine loop_l ([] : List Nat) dN rfl (fun t ρ' M' => M = M' ∧ ρ' = [some (.str (num k)), some (dN (num k).length), some (dN k), none]) ⟨rfl, rfl⟩ ?_ ?_
      · rintro i x _ _ _ hx
        cases hx
      · rintro _ _ ⟨rfl, rfl⟩
        exact hN _ _ ⟨rfl, rfl⟩
    rintro _ _ ⟨rfl, rfl⟩
    exact ret_ok q
)
def sp_read_number : SpD := fun ds M Q => ∃ x : Str, ds = [.str x, .int 9] ∧ x.length ≤ 4000000 ∧ Q (digD (dig x)) M
theorem len_read_number : ∀ ds M Q, sp_read_number ds M Q → ds.length = 2 := by
  rintro _ _ _ ⟨_, rfl, _⟩; rfl
theorem ok_read_number (T : Txt K mg) : FnD P w K mg base 2 T.read_number.f T.read_number.fd ["text", "most"] sp_read_number := okDk T.read_number.F sc_read_number len_read_number (fun cdv A outer s H E hr =>
        (dss_cons (ds_if (dt_not (dt_val (de_callB c_isi (by rfl) T.b_isinstance boot_isinstance (da_cons (dv 0) (da_cons (de_ty (by rfl) T.b_str boot_str) da_nil))))) (dss_one (ds_ret de_non)) dss_nil)
      (dss_cons (ds_if (PWD.pt (dw_or (dt_cmp o_eq (dv 0) de_str) (dw_or1 (dt_cmp o_gt (de_callB c_lenS (by rfl) T.b_len boot_len (da_cons (dv 0) da_nil)) (dv 1))))) (dss_one (ds_ret de_non)) dss_nil)
      (dss_cons (ds_if (dt_not (dt_val (de_callB (c_all rfl) (by rfl) T.b_all boot_all (da_cons (de_lc (own := [("sign", 2)]) rfl sc_read_number.nd (di_str (dv 0)) (blkOk_by (by kernel_rfl)) (fun _ _ _ _ _ => pg_name (i := 2) sc_read_number.nd rfl (by first | exact Or.inl rfl | exact Or.inr rfl)) (gw_name (by decide)) (fun _ _ _ _ _ => dts_nil) (fun _ _ _ _ _ => (de_cmp o_inS (dv 2) (de_globS (by rfl) T.g_DIGITS)))) da_nil)))) (dss_one (ds_ret de_non)) dss_nil)
      (dss_cons (ds_if (PWD.pt (dw_and (dt_cmp o_gt (de_callB c_lenS (by rfl) T.b_len boot_len (da_cons (dv 0) da_nil)) de_int) (dw_and1 (dt_cmp o_eq (de_ixS (dv 0) de_int) de_str)))) (dss_one (ds_ret de_non)) dss_nil)
      (dss_one (ds_ret (de_call (ok_value_of T) (hr.mono (by decide)) (by rfl) T.value_of.g T.value_of.F.kp T.value_of.b (da_cons (dv 0) da_nil)))))))))
      (by
    rintro _ M Q ⟨x, rfl, hx, q⟩
    have hb := big
    refine seq_cut (fun ρ' M' => M = M' ∧ ρ' = [some (.str x), some (.int 9), none]) (fun N hN => ?_) ?_
    · conv => whnf
      refine ⟨by decide, "str", rfl, ?_⟩
      refine dF rfl ?_
      exact hN _ _ ⟨rfl, rfl⟩
    rintro _ _ ⟨rfl, rfl⟩
    refine seq_cut (fun ρ' M' => M = M' ∧ TL.tl x ≠ [] ∧ (TL.tl x).length ≤ 9 ∧ ρ' = [some (.str x), some (.int 9), none]) (fun N hN => ?_) ?_
    · refine d2 (fun e => ?_) (fun e => ?_)
      · refine dT rfl ?_
        refine ret_ok ?_
        rw [dig_no (x := x) (by rw [show x = Str.ofString "" from e, tl_empty]; decide)] at q
        exact q
      conv => whnf
      refine ⟨by omega, ?_⟩
      refine d2 (fun e2 => ?_) (fun e2 => ?_)
      · refine ret_ok ?_
        have e2' : 9 < x.length := by omega
        rw [dig_no (x := x) fun z => by have := (digL_iff.mp z).2.1; rw [TL.len_tl] at e2'; omega] at q
        exact q
      · exact hN _ _ ⟨rfl, fun z => e (TL.ext_tl (by rw [z, tl_empty])), by rw [← TL.len_tl]; omega, rfl⟩
    rintro _ _ ⟨rfl, hne, h9, rfl⟩
    refine seq_cut (fun ρ' M' => M = M' ∧ (∀ c ∈ TL.tl x, 48 ≤ c ∧ c ≤ 57) ∧ ∃ z, ρ' = [some (.str x), some (.int 9), z]) (fun N hN => ?_) ?_
    · refine lc_m (TL.tl x) (fun c => D.str ⟨#[c]⟩) (fun c => [some (.str x), some (.int 9), some (.str ⟨#[c]⟩)]) (fun c => .bl (isDg c)) rfl (by omega) (fun _ _ => rfl) (fun c hc K hK => ?_) ?_
      · conv => whnf
        refine ⟨c, rfl, ?_⟩
        rw [isDg_in]
        exact hK
      · conv => whnf
        refine ⟨(TL.tl x).map isDg, by rw [List.map_map]; rfl, ?_⟩
        rw [show ((TL.tl x).map isDg).all id = (TL.tl x).all isDg from by rw [List.all_map]; rfl]
        cases ea : (TL.tl x).all isDg with
        | false =>
          refine dT rfl ?_
          refine ret_ok ?_
          rw [dig_no (x := x) fun z => by
            unfold digL at z
            rw [ea] at z
            simp at z] at q
          exact q
        | true =>
          refine dF rfl ?_
          refine hN _ _ ⟨rfl, fun c hc => ?_, _, rfl⟩
          have := List.all_eq_true.mp ea c hc
          unfold isDg at this
          rw [Bool.and_eq_true, decide_eq_true_eq, decide_eq_true_eq] at this
          exact this
    rintro _ _ ⟨rfl, hdg, z, rfl⟩
    refine seq_cut (fun ρ' M' => M = M' ∧ digL (TL.tl x) = true ∧ ∃ z, ρ' = [some (.str x), some (.int 9), z]) (fun N hN => ?_) ?_
    · conv => whnf
      refine ⟨by omega, ?_⟩
      refine d2 (fun e => ?_) (fun e => ?_)
      · conv => whnf
        cases ex : TL.tl x with
        | nil => exact absurd ex hne
        | cons c r =>
        refine ⟨by omega, c, ?_, ?_⟩
        · have : x.cps.toList = c :: r := ex
          rw [this, show (0 : Int) = ((0 : Nat) : Int) from rfl, atI_nat (by simp)]
          rfl
        refine d2 (fun e2 => ?_) (fun e2 => ?_)
        · refine ret_ok ?_
          have e3 : [c] = [48] := by
            have := congrArg TL.tl e2
            rw [TL.tl_ofString] at this
            exact this
          have e' : 1 < x.length := by omega
          rw [dig_no (x := x) fun z => (digL_iff.mp z).2.2.2 ⟨by rw [← TL.len_tl]; exact e', by rw [ex]; exact congrArg some (List.cons.inj e3).1⟩] at q
          exact q
        · refine hN _ _ ⟨rfl, digL_iff.mpr ⟨hne, h9, hdg, fun z => e2 ?_⟩, _, rfl⟩
          have e4 := z.2
          rw [ex] at e4
          have : c = 48 := Option.some.inj e4
          subst this
          exact TL.ext_tl (by rw [TL.tl_ofString]; rfl)
      · refine dF rfl (hN _ _ ⟨rfl, digL_iff.mpr ⟨hne, h9, hdg, fun z => e ?_⟩, _, rfl⟩)
        have := z.1
        rw [← TL.len_tl] at this
        omega
    rintro _ _ ⟨rfl, hd, z, rfl⟩
    obtain ⟨k, ek⟩ : ∃ k, dig x = some k := by unfold dig; rw [if_pos hd]; exact ⟨_, rfl⟩
    obtain ⟨e1, e2⟩ := dig_some ek
    rw [ek] at q
    refine ⟨k, by rw [← e1], e2, ret_ok q⟩
)
def sp_law_digits : SpD := fun ds M Q => ∃ x : Str, ds = [.str x] ∧ x.length ≤ 4000000 ∧ Q (digD (dig x)) M
theorem len_law_digits : ∀ ds M Q, sp_law_digits ds M Q → ds.length = 1 := by
  rintro _ _ _ ⟨_, rfl, _⟩; rfl
theorem ok_law_digits (T : Txt K mg) : FnD P w K mg base 1 T.law_digits.f T.law_digits.fd ["token"] sp_law_digits := okDk T.law_digits.F sc_law_digits len_law_digits (fun cdv A outer s H E hr =>
        (dss_cons (ds_if (PWD.pt (dw_or (dt_cmp o_eq (dv 0) de_str) (dw_or (dt_cmp o_gt (de_callB c_lenS (by rfl) T.b_len boot_len (da_cons (dv 0) da_nil)) de_int) (dw_or (dt_not (dt_val (de_callB (c_all rfl) (by rfl) T.b_all boot_all (da_cons (de_lc (own := [("c", 1)]) rfl sc_law_digits.nd (di_str (dv 0)) (blkOk_by (by kernel_rfl)) (fun _ _ _ _ _ => pg_name (i := 1) sc_law_digits.nd rfl (by first | exact Or.inl rfl | exact Or.inr rfl)) (gw_name (by decide)) (fun _ _ _ _ _ => dts_nil) (fun _ _ _ _ _ => (de_cmp o_inS (dv 1) de_str))) da_nil)))) (dw_or1 (PWD.pt (dw_and (dt_cmp o_eq (de_ixS (dv 0) de_int) de_str) (dw_and1 (dt_cmp o_gt (de_callB c_lenS (by rfl) T.b_len boot_len (da_cons (dv 0) da_nil)) de_int))))))))) (dss_one (ds_ret de_non)) dss_nil)
      (dss_one (ds_ret (de_callTy c_intS (by rfl) T.b_int boot_int (da_cons (dv 0) da_nil))))))
      (by
    rintro _ M Q ⟨x, rfl, hx, q⟩
    have hb := big
    refine seq_cut (fun ρ' M' => M = M' ∧ digL (TL.tl x) = true ∧ ∃ z, ρ' = [some (.str x), z]) (fun N hN => ?_) ?_
    · refine d2 (fun e => ?_) (fun e => ?_)
      · refine dT rfl ?_
        refine ret_ok ?_
        rw [dig_no (x := x) (by rw [show x = Str.ofString "" from e, tl_empty]; decide)] at q
        exact q
      have hne : TL.tl x ≠ [] := fun z => e (TL.ext_tl (by rw [z, tl_empty]))
      conv => whnf
      refine ⟨by omega, ?_⟩
      refine d2 (fun e2 => ?_) (fun e2 => ?_)
      · refine dT rfl ?_
        refine ret_ok ?_
        have e2' : 9 < x.length := by omega
        rw [dig_no (x := x) fun z => by have := (digL_iff.mp z).2.1; rw [TL.len_tl] at e2'; omega] at q
        exact q
      have h9 : (TL.tl x).length ≤ 9 := by rw [← TL.len_tl]; omega
      refine lc_m (TL.tl x) (fun c => D.str ⟨#[c]⟩) (fun c => [some (.str x), some (.str ⟨#[c]⟩)]) (fun c => .bl (isDg c)) rfl (by omega) (fun _ _ => rfl) (fun c hc K hK => ?_) ?_
      · conv => whnf
        refine ⟨c, rfl, ?_⟩
        rw [isDg_in]
        exact hK
      · conv => whnf
        refine ⟨(TL.tl x).map isDg, by rw [List.map_map]; rfl, ?_⟩
        rw [show ((TL.tl x).map isDg).all id = (TL.tl x).all isDg from by rw [List.all_map]; rfl]
        cases ea : (TL.tl x).all isDg with
        | false =>
          refine dT rfl ?_
          refine dT rfl ?_
          refine ret_ok ?_
          rw [dig_no (x := x) fun z => by
            unfold digL at z
            rw [ea] at z
            simp at z] at q
          exact q
        | true =>
          have hdg : ∀ c ∈ TL.tl x, 48 ≤ c ∧ c ≤ 57 := fun c hc => by
            have := List.all_eq_true.mp ea c hc
            unfold isDg at this
            rw [Bool.and_eq_true, decide_eq_true_eq, decide_eq_true_eq] at this
            exact this
          refine dF rfl ?_
          conv => whnf
          cases ex : TL.tl x with
          | nil => exact absurd ex hne
          | cons c r =>
          refine ⟨by omega, c, ?_, ?_⟩
          · have : x.cps.toList = c :: r := ex
            rw [this, show (0 : Int) = ((0 : Nat) : Int) from rfl, atI_nat (by simp)]
            rfl
          refine d2 (fun e2 => ?_) (fun e2 => ?_)
          · have e3 : [c] = [48] := by
              have := congrArg TL.tl e2
              rw [TL.tl_ofString] at this
              exact this
            conv => whnf
            refine ⟨by omega, ?_⟩
            refine d2 (fun e4 => ?_) (fun e4 => ?_)
            · refine ret_ok ?_
              have e' : 1 < x.length := by omega
              rw [dig_no (x := x) fun z => (digL_iff.mp z).2.2.2 ⟨by rw [← TL.len_tl]; exact e', by rw [ex]; exact congrArg some (List.cons.inj e3).1⟩] at q
              exact q
            · refine hN _ _ ⟨rfl, digL_iff.mpr ⟨hne, h9, hdg, fun z => e4 ?_⟩, _, rfl⟩
              have := z.1
              rw [← TL.len_tl] at this
              omega
          · refine dF rfl (hN _ _ ⟨rfl, digL_iff.mpr ⟨hne, h9, hdg, fun z => e2 ?_⟩, _, rfl⟩)
            have e4 := z.2
            rw [ex] at e4
            have : c = 48 := Option.some.inj e4
            subst this
            exact TL.ext_tl (by rw [TL.tl_ofString]; rfl)
    rintro _ _ ⟨rfl, hd, z, rfl⟩
    obtain ⟨k, ek⟩ : ∃ k, dig x = some k := by unfold dig; rw [if_pos hd]; exact ⟨_, rfl⟩
    obtain ⟨e1, e2⟩ := dig_some ek
    rw [ek] at q
    have hk1 := num_pos k
    conv => whnf
    refine ⟨k, ?_, ?_, ret_ok q⟩
    · rw [e1]
      exact TL.int_num (by rw [← num_tl, ← TL.len_tl]; omega)
    · rw [e1]; omega
)
end
end K85

/-! part G14 -/
set_option maxHeartbeats 0
namespace K85
open PySem PySem.Spec PyProof.Rows L2 DL
section
variable {P : Program} {w : World} {K : PySem.W.Frag} {mg : Str → Option Value} {base : Heap}
def bfX (T : Txt K mg) (XE : XD) (ln : Nat) (why : Str) (M : Mp) : Prop := XE T.BadFalls.C ["code", "why", "line"] [.str "BadFalls", .str why, dN ln] M
def tmX (T : Txt K mg) (XE : XD) (w : Str) (k : Nat) (M : Mp) : Prop := XE T.TooMany.C ["code", "many", "what"] [.str "TooMany", dN k, .str w] M
def erX (T : Txt K mg) (XE : XD) (ln : Nat) : Er → Mp → Prop
  | .w s => bfX T XE ln s
  | .m s k => tmX T XE s k
def exR (T : Txt K mg) {α : Type} (XE : XD) (M : Mp) (ln : Nat) (r : Except Er α) (K : α → Prop) : Prop := match r with
  | .ok a => K a
  | .error e => erX T XE ln e M
def smalls (ts : List Str) : Prop := ts.length ≤ 4000 ∧ ∀ t ∈ ts, t.length ≤ 3000
theorem strs_len (ts : List Str) : (ts.map D.str).length = ts.length := List.length_map ..
def sp_tokens_of (T : Txt K mg) : SpX := fun ds M Q XE => ∃ (ls : List Str) (a : Nat) (l : Str) (r : List Str), ds = [.lst (ls.map .str), dN a] ∧ ls.drop a = l :: r ∧ l.length ≤ 3000 ∧ (r = [] → bfX T XE (a + 1) (if l = sF "" then sF "missing" else sF "form") M) ∧ (r ≠ [] → Q (.lst ((words l).map .str)) M)
theorem len_tokens_of (T : Txt K mg) : ∀ ds M Q XE, sp_tokens_of T ds M Q XE → ds.length = 2 := by
  rintro _ _ _ _ ⟨_, _, _, _, rfl, _⟩; rfl
theorem ok_tokens_of (T : Txt K mg) : FnX P w K mg base 3 T.tokens_of.f T.tokens_of.fd ["lines", "at"] (sp_tokens_of T) := okX T.tokens_of.F sc_tokens_of (len_tokens_of T) (fun cdv A outer s H E hr =>
        (ssx_cons (sx_if (tx_ofn (dt_cmp o_eq (dv 1) (de_op o_sub (de_callB c_len (by rfl) T.b_len boot_len (da_cons (dv 0) da_nil)) de_int))) (ssx_cons (sx_raise (kk := 0) rfl (mkx_BadFalls T) (hr.mono (by decide)) (by rfl) T.BadFalls.g (ax_cons (ex_ofn (de_op o_add (dv 1) de_int)) (ax_cons (ex_ofn (de_if (dt_cmp o_eq (de_ix (dv 0) (dv 1)) de_str) de_str de_str)) ax_nil)))
      ssx_nil) ssx_nil)
      (ssx_ofn (dss_one (ds_ret (de_split (de_ix (dv 0) (dv 1)) de_str))))))
      (by
    rintro _ M Q XE ⟨ls, a, l, r, rfl, hd, hl, q1, q2⟩
    have hb := big
    have hla : ls[a]? = some l := by
      have := congrArg List.head? hd
      rw [List.head?_drop] at this
      exact this
    have hll : ls.length = a + (r.length + 1) := by
      have := congrArg List.length hd
      rw [List.length_drop, List.length_cons] at this
      have := (List.getElem?_eq_some_iff.mp hla).1
      omega
    have hfst : ∀ P : Prop, r = [] → ¬ r = [] → P := fun P a b => absurd a b
    conv => whnf
    rw [strs_len]
    refine d2 (fun e => ?_) (fun e => ?_)
    · have hr : r = [] := by
        cases r with
        | nil => rfl
        | cons x y =>
          rw [List.length_cons] at hll
          have e' : (a : Int) = (ls.length : Int) - 1 := e
          omega
      conv => whnf
      refine ⟨_, strs_get ls hla, ?_⟩
      by_cases he : l = sF ""
      · refine dT (decide_eq_true he) ?_
        refine ⟨rfl, ?_⟩
        have := q1 hr
        rw [if_pos he] at this
        exact exc_ok this
      · refine dF (decide_eq_false he) ?_
        refine ⟨rfl, ?_⟩
        have := q1 hr
        rw [if_neg he] at this
        exact exc_ok this
    · have hr : r ≠ [] := by
        rintro rfl
        have e' : ¬ (a : Int) = (ls.length : Int) - 1 := e
        rw [List.length_nil] at hll
        omega
      conv => whnf
      refine ⟨_, strs_get ls hla, ?_⟩
      conv => whnf
      refine ⟨?_, by omega, ?_⟩
      · have : (Str.ofString " ").length = 1 := by rw [TL.len_tl, tl_spc]; rfl
        rw [this]
        rfl
      exact ret_ok (q2 hr)
)
theorem two_no {w : Str} {ts : List Str} (h : ts.length ≠ 2) : two w ts = none := by
  match ts with
  | [] => rfl
  | [_] => rfl
  | [_, _] => exact absurd rfl h
  | _ :: _ :: _ :: _ => rfl
def sp_read_houses (T : Txt K mg) : SpX := fun ds M Q XE => ∃ ts : List Str, ds = [.lst (ts.map .str)] ∧ smalls ts ∧ exR T XE M 2 (rH ts) fun k => Q (dN k) M
theorem len_read_houses (T : Txt K mg) : ∀ ds M Q XE, sp_read_houses T ds M Q XE → ds.length = 1 := by
  rintro _ _ _ _ ⟨_, rfl, _⟩; rfl
theorem ok_read_houses (T : Txt K mg) : FnX P w K mg base 3 T.read_houses.f T.read_houses.fd ["tokens"] (sp_read_houses T) := okX T.read_houses.F sc_read_houses (len_read_houses T) (fun cdv A outer s H E hr =>
        (ssx_cons (sx_ofn (ds_set (i := 1) sc_read_houses.nd (de_if (PWD.pt (dw_and (dt_cmp o_eq (de_callB c_len (by rfl) T.b_len boot_len (da_cons (dv 0) da_nil)) de_int) (dw_and1 (dt_cmp o_eq (de_ix (dv 0) de_int) de_str)))) (de_callDf (ok_read_number T) (hr.mono (by decide)) (by rfl) T.read_number.g T.read_number.F.kp T.read_number.b T.read_number.vd T.read_number.hz (da_cons (de_ix (dv 0) de_int) da_nil)) de_non)))
      (ssx_cons (sx_if (tx_ofn (PWD.pt (dw_or (dt_cmp o_is (dv 1) de_non) (dw_or1 (dt_cmp o_lt (dv 1) de_int))))) (ssx_cons (sx_raise (kk := 0) rfl (mkx_BadFalls T) (hr.mono (by decide)) (by rfl) T.BadFalls.g (ax_cons (ex_ofn de_int) (ax_cons (ex_ofn de_str) ax_nil)))
      ssx_nil) ssx_nil)
      (ssx_cons (sx_if (tx_ofn (dt_cmp o_gt (dv 1) (de_globI (by rfl) T.g_MOST_HOUSES))) (ssx_cons (sx_raise (kk := 0) rfl (mkx_TooMany T) (hr.mono (by decide)) (by rfl) T.TooMany.g (ax_cons (ex_ofn de_str) (ax_cons (ex_ofn (dv 1)) ax_nil)))
      ssx_nil) ssx_nil)
      (ssx_ofn (dss_one (ds_ret (dv 1))))))))
      (by
    rintro _ M Q XE ⟨ts, rfl, ⟨hs1, hs2⟩, q⟩
    have hb := big
    refine xseq_cut (fun ρ' M' => M = M' ∧ ρ' = [some (.lst (ts.map .str)), some (digD (two (sF "houses") ts))]) (fun N hN => ?_) ?_
    · conv => whnf
      rw [strs_len]
      refine d2 (fun e => ?_) (fun e => ?_)
      · match ts, e with
        | [x, y], _ =>
          conv => whnf
          refine ⟨.str x, rfl, ?_⟩
          by_cases hx : x = sF "houses"
          · refine dT (decide_eq_true hx) ?_
            conv => whnf
            refine ⟨.str y, rfl, ?_⟩
            refine ⟨y, rfl, by have := hs2 y (by simp); omega, hN _ _ ⟨rfl, ?_⟩⟩
            show _ = [_, some (digD (if x = sF "houses" then dig y else none))]
            rw [if_pos hx]
            rfl
          · refine dF (decide_eq_false hx) ?_
            refine hN _ _ ⟨rfl, ?_⟩
            show _ = [_, some (digD (if x = sF "houses" then dig y else none))]
            rw [if_neg hx]
            rfl
        | [], e => exact absurd e (by decide)
        | [_], e => exact absurd (show ((1 : Nat) : Int) = 2 from e) (by decide)
        | _ :: _ :: _ :: r, e => exact absurd (show ((r.length + 1 + 1 + 1 : Nat) : Int) = 2 from e) (by omega)
      · refine dF rfl ?_
        refine hN _ _ ⟨rfl, ?_⟩
        rw [two_no fun z => e (by rw [z]; rfl)]
        rfl
    rintro _ _ ⟨rfl, rfl⟩
    unfold rH at q
    cases e2 : two (sF "houses") ts with
    | none =>
      rw [e2] at q
      refine dT rfl ?_
      refine dT rfl ?_
      exact ⟨rfl, exc_ok q⟩
    | some k =>
      rw [e2] at q
      refine xseq_cut (fun ρ' M' => M = M' ∧ ¬ k < 2 ∧ ρ' = [some (.lst (ts.map .str)), some (dN k)]) (fun N hN => ?_) ?_
      · refine dF rfl ?_
        refine d2 (fun e => ?_) (fun e => ?_)
        · have e' : k < 2 := by have : (k : Int) < 2 := e; omega
          dsimp only at q
          rw [if_pos e'] at q
          exact ⟨rfl, exc_ok q⟩
        · exact hN _ _ ⟨rfl, by have : ¬ (k : Int) < 2 := e; omega, rfl⟩
      rintro _ _ ⟨rfl, hk, rfl⟩
      dsimp only at q
      rw [if_neg hk] at q
      refine xseq_cut (fun ρ' M' => M = M' ∧ ¬ 40 < k ∧ ρ' = [some (.lst (ts.map .str)), some (dN k)]) (fun N hN => ?_) ?_
      · refine d2 (fun e => ?_) (fun e => ?_)
        · have e' : 40 < k := by have : (40 : Int) < k := e; omega
          rw [if_pos e'] at q
          exact ⟨rfl, exc_ok q⟩
        · exact hN _ _ ⟨rfl, by have : ¬ (40 : Int) < k := e; omega, rfl⟩
      rintro _ _ ⟨rfl, hk2, rfl⟩
      rw [if_neg hk2] at q
      exact ret_ok q
)
def sp_read_most (T : Txt K mg) : SpX := fun ds M Q XE => ∃ (ts : List Str) (n : Nat), ds = [.lst (ts.map .str), dN n] ∧ smalls ts ∧ 1 ≤ n ∧ exR T XE M 3 (rM ts n) fun k => Q (dN k) M
theorem len_read_most (T : Txt K mg) : ∀ ds M Q XE, sp_read_most T ds M Q XE → ds.length = 2 := by
  rintro _ _ _ _ ⟨_, _, rfl, _⟩; rfl
theorem ok_read_most (T : Txt K mg) : FnX P w K mg base 3 T.read_most.f T.read_most.fd ["tokens", "houses"] (sp_read_most T) := okX T.read_most.F sc_read_most (len_read_most T) (fun cdv A outer s H E hr =>
        (ssx_cons (sx_ofn (ds_set (i := 2) sc_read_most.nd (de_if (PWD.pt (dw_and (dt_cmp o_eq (de_callB c_len (by rfl) T.b_len boot_len (da_cons (dv 0) da_nil)) de_int) (dw_and1 (dt_cmp o_eq (de_ix (dv 0) de_int) de_str)))) (de_callDf (ok_read_number T) (hr.mono (by decide)) (by rfl) T.read_number.g T.read_number.F.kp T.read_number.b T.read_number.vd T.read_number.hz (da_cons (de_ix (dv 0) de_int) da_nil)) de_non)))
      (ssx_cons (sx_if (tx_ofn (dt_cmp o_is (dv 2) de_non)) (ssx_cons (sx_raise (kk := 0) rfl (mkx_BadFalls T) (hr.mono (by decide)) (by rfl) T.BadFalls.g (ax_cons (ex_ofn de_int) (ax_cons (ex_ofn de_str) ax_nil)))
      ssx_nil) ssx_nil)
      (ssx_cons (sx_if (tx_ofn (dt_cmp o_gt (dv 2) (de_op o_sub (dv 1) de_int))) (ssx_cons (sx_raise (kk := 0) rfl (mkx_BadFalls T) (hr.mono (by decide)) (by rfl) T.BadFalls.g (ax_cons (ex_ofn de_int) (ax_cons (ex_ofn de_str) ax_nil)))
      ssx_nil) ssx_nil)
      (ssx_ofn (dss_one (ds_ret (dv 2))))))))
      (by
    rintro _ M Q XE ⟨ts, n, rfl, ⟨hs1, hs2⟩, hn, q⟩
    have hb := big
    refine xseq_cut (fun ρ' M' => M = M' ∧ ρ' = [some (.lst (ts.map .str)), some (dN n), some (digD (two (sF "most") ts))]) (fun N hN => ?_) ?_
    · conv => whnf
      rw [strs_len]
      refine d2 (fun e => ?_) (fun e => ?_)
      · match ts, e with
        | [x, y], _ =>
          conv => whnf
          refine ⟨.str x, rfl, ?_⟩
          by_cases hx : x = sF "most"
          · refine dT (decide_eq_true hx) ?_
            conv => whnf
            refine ⟨.str y, rfl, ?_⟩
            refine ⟨y, rfl, by have := hs2 y (by simp); omega, hN _ _ ⟨rfl, ?_⟩⟩
            show _ = [_, _, some (digD (if x = sF "most" then dig y else none))]
            rw [if_pos hx]
            rfl
          · refine dF (decide_eq_false hx) ?_
            refine hN _ _ ⟨rfl, ?_⟩
            show _ = [_, _, some (digD (if x = sF "most" then dig y else none))]
            rw [if_neg hx]
            rfl
        | [], e => exact absurd e (by decide)
        | [_], e => exact absurd (show ((1 : Nat) : Int) = 2 from e) (by decide)
        | _ :: _ :: _ :: r, e => exact absurd (show ((r.length + 1 + 1 + 1 : Nat) : Int) = 2 from e) (by omega)
      · refine dF rfl ?_
        refine hN _ _ ⟨rfl, ?_⟩
        rw [two_no fun z => e (by rw [z]; rfl)]
        rfl
    rintro _ _ ⟨rfl, rfl⟩
    unfold rM at q
    cases e2 : two (sF "most") ts with
    | none =>
      rw [e2] at q
      refine dT rfl ?_
      exact ⟨rfl, exc_ok q⟩
    | some k =>
      rw [e2] at q
      refine dF rfl ?_
      dsimp only at q
      refine d2 (fun e => ?_) (fun e => ?_)
      · have e' : n ≤ k := by have : (n : Int) - 1 < k := e; omega
        rw [if_pos e'] at q
        exact ⟨rfl, exc_ok q⟩
      · have e' : ¬ n ≤ k := by have : ¬ (n : Int) - 1 < k := e; omega
        rw [if_neg e'] at q
        exact ret_ok q
)
theorem isBit_num {t : Str} (h : isBit t = true) : t = num (bit t) ∧ (bit t = 0 ∨ bit t = 1) := by
  unfold isBit at h
  rw [Bool.or_eq_true, decide_eq_true_eq, decide_eq_true_eq] at h
  have n0 : num 0 = Str.ofString "0" := TL.ext_tl (by rw [num_tl, TL.numL_lt (by decide), TL.tl_ofString]; rfl)
  have n1 : num 1 = Str.ofString "1" := TL.ext_tl (by rw [num_tl, TL.numL_lt (by decide), TL.tl_ofString]; rfl)
  unfold bit
  rcases h with rfl | rfl
  · rw [if_pos rfl]
    exact ⟨n0.symm, .inl rfl⟩
  · rw [if_neg (by decide)]
    exact ⟨n1.symm, .inr rfl⟩
def sp_read_begins (T : Txt K mg) : SpX := fun ds M Q XE => ∃ (ts : List Str) (n : Nat), ds = [.lst (ts.map .str), dN n] ∧ ts ≠ [] ∧ smalls ts ∧ exR T XE M 4 (rB ts n) fun bs => Q (.tup (bs.map dN)) M
theorem len_read_begins (T : Txt K mg) : ∀ ds M Q XE, sp_read_begins T ds M Q XE → ds.length = 2 := by
  rintro _ _ _ _ ⟨_, _, rfl, _⟩; rfl
theorem inD_bit (t : Str) : inD (.str t) [.str (Str.ofString "0"), .str (Str.ofString "1")] = isBit t := by
  show ((Str.ofString "0" == t) || ((Str.ofString "1" == t) || false)) = _
  unfold isBit sF
  rw [Bool.or_false, Bool.eq_iff_iff, Bool.or_eq_true, Bool.or_eq_true, beq_iff_eq, beq_iff_eq, decide_eq_true_eq, decide_eq_true_eq]
  exact ⟨fun h => h.imp Eq.symm Eq.symm, fun h => h.imp Eq.symm Eq.symm⟩
theorem ok_read_begins (T : Txt K mg) : FnX P w K mg base 3 T.read_begins.f T.read_begins.fd ["tokens", "houses"] (sp_read_begins T) := okX T.read_begins.F sc_read_begins (len_read_begins T) (fun cdv A outer s H E hr =>
        (ssx_cons (sx_ofn (ds_set (i := 2) sc_read_begins.nd (de_sl (dv 0) (do_some de_int) do_none)))
      (ssx_cons (sx_if (tx_ofn (PWD.pt (dw_or (dt_cmp o_ne (de_ix (dv 0) de_int) de_str) (dw_or (dt_cmp o_ne (de_callB c_len (by rfl) T.b_len boot_len (da_cons (dv 2) da_nil)) (dv 1)) (dw_or1 (dt_truth (de_lc (own := [("bit", 3)]) rfl sc_read_begins.nd (di_list (dv 2)) (blkOk_by (by kernel_rfl)) (fun _ _ _ _ _ => pg_name (i := 3) sc_read_begins.nd rfl (by first | exact Or.inl rfl | exact Or.inr rfl)) (gw_name (by decide)) (fun _ _ _ _ _ => (dts_one (dt_cmp o_notin (dv 3) (de_tup (da_cons de_str (da_cons de_str da_nil)))))) (fun _ _ _ _ _ => (dv 3))))))))) (ssx_cons (sx_raise (kk := 0) rfl (mkx_BadFalls T) (hr.mono (by decide)) (by rfl) T.BadFalls.g (ax_cons (ex_ofn de_int) (ax_cons (ex_ofn de_str) ax_nil)))
      ssx_nil) ssx_nil)
      (ssx_ofn (dss_one (ds_ret (de_callTy c_tuple (by rfl) T.b_tuple boot_tuple (da_cons (de_lc (own := [("bit", 3)]) rfl sc_read_begins.nd (di_list (dv 2)) (blkOk_by (by kernel_rfl)) (fun _ _ _ _ _ => pg_name (i := 3) sc_read_begins.nd rfl (by first | exact Or.inl rfl | exact Or.inr rfl)) (gw_name (by decide)) (fun _ _ _ _ _ => dts_nil) (fun _ _ _ _ _ => (de_callTy c_intS (by rfl) T.b_int boot_int (da_cons (dv 3) da_nil)))) da_nil))))))))
      (by
    rintro _ M Q XE ⟨ts, n, rfl, hne, ⟨hs1, hs2⟩, q⟩
    have hb := big
    cases ts with
    | nil => exact absurd rfl hne
    | cons t0 r =>
    have hr4 : r.length ≤ 4000 := by rw [List.length_cons] at hs1; omega
    refine xseq_cut (fun ρ' M' => M = M' ∧ ρ' = [some (.lst ((t0 :: r).map .str)), some (dN n), some (.lst (r.map .str)), none]) (fun N hN => ?_) ?_
    · refine hN _ _ ⟨rfl, ?_⟩
      show [some _, some _, some (D.lst (DL.cutD (D.str t0 :: r.map .str) (some 1) none)), none] = _
      rw [cut_tail]
    rintro _ _ ⟨rfl, rfl⟩
    unfold rB at q
    refine xseq_cut (fun ρ' M' => M = M' ∧ r.all isBit = true ∧ (rB (t0 :: r) n) = .ok (r.map bit) ∧ ∃ z, ρ' = [some (.lst ((t0 :: r).map .str)), some (dN n), some (.lst (r.map .str)), z]) (fun N hN => ?_) ?_
    · conv => whnf
      refine ⟨.str t0, strs_get (t0 :: r) (a := 0) rfl, ?_⟩
      refine dN2 (fun e => ?_) (fun e => ?_)
      · refine dT rfl ?_
        rw [if_neg fun z => e (Option.some.inj z.1)] at q
        exact ⟨rfl, exc_ok q⟩
      conv => whnf
      rw [strs_len]
      refine dN2 (fun e2 => ?_) (fun e2 => ?_)
      · refine dT rfl ?_
        have e2' : ¬ (r.length : Int) = n := e2
        rw [if_neg fun z => e2' (by have := z.2.1; rw [List.length_cons] at this; omega)] at q
        exact ⟨rfl, exc_ok q⟩
      have e2' : (r.length : Int) = n := e2
      refine lc_fm r D.str (fun b => [some (.lst ((t0 :: r).map .str)), some (dN n), some (.lst (r.map .str)), some (.str b)]) (fun t => !isBit t) D.str rfl (by omega) (fun _ _ => rfl) (fun t ht K hK => ?_) (fun _ _ _ K hK => hK) ?_
      · conv => whnf
        refine ⟨lines _ (by show 2 ≤ _; omega), ?_⟩
        conv => whnf
        refine ⟨rfl, rfl, ?_⟩
        rw [inD_bit]
        exact hK
      · cases ef : r.filter (fun t => !isBit t) with
        | nil =>
          refine ⟨false, rfl, ?_⟩
          refine dF rfl ?_
          have hall : r.all isBit = true := List.all_eq_true.mpr fun t ht => by
            have := List.filter_eq_nil_iff.mp ef t ht
            simpa using this
          have hc : (t0 :: r).head? = some (sF "begins") ∧ (t0 :: r).length = n + 1 ∧ (t0 :: r).tail.all isBit = true := ⟨congrArg some e, by rw [List.length_cons]; omega, hall⟩
          refine hN _ _ ⟨rfl, hall, ?_, _, rfl⟩
          unfold rB
          rw [if_pos hc]
          rfl
        | cons x y =>
          refine ⟨true, rfl, ?_⟩
          refine dT rfl ?_
          have hnc : ¬ ((t0 :: r).head? = some (sF "begins") ∧ (t0 :: r).length = n + 1 ∧ (t0 :: r).tail.all isBit = true) := fun z => by
            have hx : x ∈ r.filter (fun t => !isBit t) := by rw [ef]; exact List.mem_cons_self
            obtain ⟨hx1, hx2⟩ := List.mem_filter.mp hx
            have := List.all_eq_true.mp z.2.2 x hx1
            rw [this] at hx2
            cases hx2
          rw [if_neg hnc] at q
          exact ⟨rfl, exc_ok q⟩
    rintro _ _ ⟨rfl, hall, er, z, rfl⟩
    have q' : exR T XE M 4 (rB (t0 :: r) n) fun bs => Q (.tup (bs.map dN)) M := q
    rw [er] at q'
    refine lc_m r D.str (fun b => [some (.lst ((t0 :: r).map .str)), some (dN n), some (.lst (r.map .str)), some (.str b)]) (fun t => dN (bit t)) rfl (by omega) (fun _ _ => rfl) (fun t ht K hK => ?_) ?_
    · obtain ⟨e1, e2⟩ := isBit_num (List.all_eq_true.mp hall t ht)
      have hb1 : bit t < 1000 := by rcases e2 with e | e <;> rw [e] <;> decide
      have hl := num_len hb1
      refine ⟨bit t, ?_, ?_, hK⟩
      · have : (intText? (num (bit t))) = some ((bit t : Nat) : Int) := TL.int_num (by rw [← num_tl, ← TL.len_tl]; omega)
        rw [← e1] at this
        exact this
      · rw [e1]; omega
    · refine ret_ok ?_
      have : r.map (fun t => dN (bit t)) = (r.map bit).map dN := by rw [List.map_map]; rfl
      rw [this]
      exact q'
)
end
end K85

/-! part G15 -/
set_option maxHeartbeats 0
namespace K85
open PySem PySem.Spec PyProof.Rows L2 DL
section
variable {P : Program} {w : World} {K : PySem.W.Frag} {mg : Str → Option Value} {base : Heap}
theorem nodup_len : ∀ (n : Nat) (l : List Nat), l.Nodup → (∀ x ∈ l, x < n) → l.length ≤ n
  | 0, l, _, h => by
    cases l with
    | nil => exact Nat.le_refl _
    | cons a r => exact absurd (h a List.mem_cons_self) (Nat.not_lt_zero _)
  | n + 1, l, nd, h => by
    by_cases hn : n ∈ l
    · have h1 := nodup_len n (l.erase n) (nd.erase n) fun x hx => by
        obtain ⟨a, b⟩ := (nd.mem_erase_iff).mp hx
        have := h x b
        omega
      rw [List.length_erase_of_mem hn] at h1
      omega
    · have h1 := nodup_len n l nd fun x hx => by
        have := h x hx
        have : x ≠ n := fun e => hn (by rw [← e]; exact hx)
        omega
      omega
theorem srt_perm (l : List Nat) : (srt l).Perm l := List.mergeSort_perm l _
theorem srt_lt {l : List Nat} (h : l.Nodup) : (srt l).Pairwise (· < ·) := by
  have h1 : (srt l).Pairwise (fun a b => decide (a ≤ b) = true) := List.pairwise_mergeSort (le := fun a b => decide (a ≤ b)) (fun a b c h1 h2 => by simp only [decide_eq_true_eq] at h1 h2 ⊢; omega) (fun a b => by simp only [Bool.or_eq_true, decide_eq_true_eq]; omega) l
  have h2 : (srt l).Nodup := (srt_perm l).nodup_iff.mpr h
  exact (List.pairwise_and_iff.mpr ⟨h1, h2⟩).imp fun ⟨a, b⟩ => by
    have := of_decide_eq_true a
    omega
theorem inD_none (lp : List (Option Nat)) : inD .non (lp.map digD) = decide (none ∈ lp) := by
  unfold inD
  rw [List.any_map]
  induction lp with
  | nil => rfl
  | cons o r ih =>
    rw [List.any_cons, ih]
    cases o with
    | none =>
      rw [show (((fun y => eqD y .non) ∘ digD) (none : Option Nat)) = true from rfl, Bool.true_or]
      exact (decide_eq_true List.mem_cons_self).symm
    | some k =>
      rw [show (((fun y => eqD y .non) ∘ digD) (some k)) = false from rfl, Bool.false_or]
      exact decide_eq_decide.mpr ⟨fun h => List.mem_cons_of_mem _ h, fun h => (List.mem_cons.mp h).resolve_left fun z => by cases z⟩
theorem flat_dig (lp : List (Option Nat)) : (lp.map digD).all flatD = true := by
  rw [List.all_map, List.all_eq_true]
  intro x _
  cases x <;> rfl
theorem somes {lp : List (Option Nat)} (h : none ∉ lp) : lp.map digD = (lp.filterMap id).map dN := by
  induction lp with
  | nil => rfl
  | cons o r ih =>
    cases o with
    | none => exact absurd List.mem_cons_self h
    | some k =>
      rw [List.map_cons, ih fun z => h (List.mem_cons_of_mem _ z)]
      rfl
theorem lotP_len (x : Str) : (lotP x).length ≤ x.length + 1 := by
  unfold lotP
  split
  · exact Nat.zero_le _
  · rw [List.length_map]
    exact (pcs tl_pls (by decide)).len
theorem getK_in (fs : List (Nat × Nat × List Nat)) (g : Nat × Nat × List Nat → D) (h : Nat) : (getK (fs.map fun x => kN x.1) (fs.map g) (Sum.inl (h : Int))).isSome = decide (h ∈ fs.map fun x => x.1) := by
  have := getK_map (fun x : Nat × Nat × List Nat => x.1) g h fs
  rw [show getK (fs.map fun x => kN x.1) (fs.map g) (Sum.inl (h : Int)) = _ from this, Option.isSome_map, Bool.eq_iff_iff, decide_eq_true_eq, List.find?_isSome]
  constructor
  · rintro ⟨x, h1, h2⟩
    exact List.mem_map.mpr ⟨x, h1, eq_of_beq h2⟩
  · intro h'
    obtain ⟨x, h1, rfl⟩ := List.mem_map.mp h'
    exact ⟨x, h1, beq_self_eq_true _⟩
def sp_read_fall (T : Txt K mg) : SpX := fun ds M Q XE => ∃ (ts : List Str) (ln n : Nat) (p : Addr) (fs : List (Nat × Nat × List Nat)), ds = [.lst (ts.map .str), dN ln, dN n, .cell p] ∧ smalls ts ∧ 1 ≤ n ∧ n ≤ 40 ∧ M p = some (.dic (fs.map fun x => kN x.1) (fs.map fT)) ∧
  exR T XE M ln (rF0 n fs ts) fun x => Q (.tup [dN x.1, dN x.2.1, .tup (x.2.2.map dN)]) M
theorem len_read_fall (T : Txt K mg) : ∀ ds M Q XE, sp_read_fall T ds M Q XE → ds.length = 4 := by
  rintro _ _ _ _ ⟨_, _, _, _, _, rfl, _⟩; rfl
theorem rF0_no {n : Nat} {fs : List (Nat × Nat × List Nat)} {ts : List Str} (h : ts.length ≠ 4) : rF0 n fs ts = .error (.w (sF "form")) := by
  match ts with
  | [] => rfl
  | [_] => rfl
  | [_, _] => rfl
  | [_, _, _] => rfl
  | [_, _, _, _] => exact absurd rfl h
  | _ :: _ :: _ :: _ :: _ :: _ => rfl
theorem len_four {ts : List Str} (h : ts.length = 4) : ∃ a b c d, ts = [a, b, c, d] := by
  match ts, h with
  | [a, b, c, d], _ => exact ⟨a, b, c, d, rfl⟩
theorem ok_read_fall (T : Txt K mg) : FnX P w K mg base 3 T.read_fall.f T.read_fall.fd ["tokens", "line", "houses", "earlier"] (sp_read_fall T) := okX T.read_fall.F sc_read_fall (len_read_fall T) (fun cdv A outer s H E hr =>
        (ssx_cons (sx_if (tx_ofn (PWD.pt (dw_or (dt_cmp o_ne (de_callB c_len (by rfl) T.b_len boot_len (da_cons (dv 0) da_nil)) de_int) (dw_or1 (dt_cmp o_ne (de_ix (dv 0) de_int) de_str))))) (ssx_cons (sx_raise (kk := 0) rfl (mkx_BadFalls T) (hr.mono (by decide)) (by rfl) T.BadFalls.g (ax_cons (ex_ofn (dv 1)) (ax_cons (ex_ofn de_str) ax_nil)))
      ssx_nil) ssx_nil)
      (ssx_cons (sx_ofn (ds_set (i := 4) sc_read_fall.nd (de_callDf (ok_read_number T) (hr.mono (by decide)) (by rfl) T.read_number.g T.read_number.F.kp T.read_number.b T.read_number.vd T.read_number.hz (da_cons (de_ix (dv 0) de_int) da_nil))))
      (ssx_cons (sx_ofn (ds_set (i := 5) sc_read_fall.nd (de_callDf (ok_read_number T) (hr.mono (by decide)) (by rfl) T.read_number.g T.read_number.F.kp T.read_number.b T.read_number.vd T.read_number.hz (da_cons (de_ix (dv 0) de_int) da_nil))))
      (ssx_cons (sx_ofn (ds_set (i := 6) sc_read_fall.nd (de_if (dt_cmp o_eq (de_ix (dv 0) de_int) de_str) (de_lst da_nil) (de_split (de_ix (dv 0) de_int) de_str))))
      (ssx_cons (sx_ofn (ds_setLc (i := 7) (own := [("piece", 8)]) rfl sc_read_fall.nd (di_list (dv 6)) (blkOk_by (by kernel_rfl)) (fun _ _ _ _ _ => pg_name (i := 8) sc_read_fall.nd rfl (by first | exact Or.inl rfl | exact Or.inr rfl)) (gw_name (by decide)) (fun _ _ _ _ _ => dts_nil) (fun _ _ _ _ _ => (de_callDf (ok_read_number T) (hr.mono (by decide)) (by rfl) T.read_number.g T.read_number.F.kp T.read_number.b T.read_number.vd T.read_number.hz (da_cons (dv 8) da_nil)))))
      (ssx_cons (sx_if (tx_ofn (PWD.pt (dw_or (dt_cmp o_is (dv 4) de_non) (dw_or (dt_cmp o_is (dv 5) de_non) (dw_or (dt_cmp o_eq (dv 5) de_int) (dw_or1 (dt_cmp o_in de_non (dv 7)))))))) (ssx_cons (sx_raise (kk := 0) rfl (mkx_BadFalls T) (hr.mono (by decide)) (by rfl) T.BadFalls.g (ax_cons (ex_ofn (dv 1)) (ax_cons (ex_ofn de_str) ax_nil)))
      ssx_nil) ssx_nil)
      (ssx_cons (sx_if (tx_ofn (PWD.pt (dw_or (dt_cmp o_ge (dv 4) (dv 2)) (dw_or1 (dt_truth (de_lc (own := [("one", 9)]) rfl sc_read_fall.nd (di_list (dv 7)) (blkOk_by (by kernel_rfl)) (fun _ _ _ _ _ => pg_name (i := 9) sc_read_fall.nd rfl (by first | exact Or.inl rfl | exact Or.inr rfl)) (gw_name (by decide)) (fun _ _ _ _ _ => (dts_one (dt_cmp o_ge (dv 9) (dv 2)))) (fun _ _ _ _ _ => (dv 9)))))))) (ssx_cons (sx_raise (kk := 0) rfl (mkx_BadFalls T) (hr.mono (by decide)) (by rfl) T.BadFalls.g (ax_cons (ex_ofn (dv 1)) (ax_cons (ex_ofn de_str) ax_nil)))
      ssx_nil) ssx_nil)
      (ssx_cons (sx_if (tx_ofn (PWD.pt (dw_or (dt_din (hu_of (k := 0) (hr.mono (by decide))) (dv 4) (dv 3)) (dw_or1 (dt_cmp o_ne (de_lenSetG rfl (by rfl) T.b_len (by rfl) T.b_set (dv 7)) (de_callB c_len (by rfl) T.b_len boot_len (da_cons (dv 7) da_nil))))))) (ssx_cons (sx_raise (kk := 0) rfl (mkx_BadFalls T) (hr.mono (by decide)) (by rfl) T.BadFalls.g (ax_cons (ex_ofn (dv 1)) (ax_cons (ex_ofn de_str) ax_nil)))
      ssx_nil) ssx_nil)
      (ssx_cons (sx_if (tx_ofn (PWD.pt (dw_or (dt_cmp o_in (dv 4) (dv 7)) (dw_or1 (dt_cmp o_eq (de_callB c_len (by rfl) T.b_len boot_len (da_cons (dv 7) da_nil)) (de_op o_sub (dv 2) de_int)))))) (ssx_cons (sx_raise (kk := 0) rfl (mkx_BadFalls T) (hr.mono (by decide)) (by rfl) T.BadFalls.g (ax_cons (ex_ofn (dv 1)) (ax_cons (ex_ofn de_str) ax_nil)))
      ssx_nil) ssx_nil)
      (ssx_ofn (dss_one (ds_ret (de_tup (da_cons (dv 4) (da_cons (dv 5) (da_cons (de_callTy c_tuple (by rfl) T.b_tuple boot_tuple (da_cons (de_callB c_sorted (by rfl) T.b_sorted boot_sorted (da_cons (dv 7) da_nil)) da_nil)) da_nil)))))))))))))))))
      (by
    rintro _ M Q XE ⟨ts, ln, n, p, fs, rfl, ⟨hs1, hs2⟩, hn, hn40, hp, q⟩
    have hb := big
    refine xseq_cut (fun ρ' M' => M = M' ∧ ts.length = 4 ∧ ts.head? = some (sF "fall") ∧ ρ' = [some (.lst (ts.map .str)), some (dN ln), some (dN n), some (.cell p), none, none, none, none, none, none]) (fun N hN => ?_) ?_
    · conv => whnf
      rw [strs_len]
      refine dN2 (fun e => ?_) (fun e => ?_)
      · refine dT rfl ?_
        rw [rF0_no fun z => e (by rw [z]; rfl)] at q
        exact ⟨rfl, exc_ok q⟩
      have e' : ts.length = 4 := by have : (ts.length : Int) = 4 := e; omega
      obtain ⟨a, b, c, d, rfl⟩ := len_four e'
      conv => whnf
      refine ⟨.str a, rfl, ?_⟩
      refine dN2 (fun e2 => ?_) (fun e2 => ?_)
      · have : rF0 n fs [a, b, c, d] = .error (.w (sF "form")) := if_neg e2
        rw [this] at q
        exact ⟨rfl, exc_ok q⟩
      · exact hN _ _ ⟨rfl, rfl, congrArg some e2, rfl⟩
    rintro _ _ ⟨rfl, e4, eh, rfl⟩
    obtain ⟨a, b, c, d, rfl⟩ := len_four e4
    have ea : a = sF "fall" := Option.some.inj eh
    subst ea
    have q' : exR T XE M ln (rF1 n fs (dig b) (dig c) (lotP d)) fun x => Q (.tup [dN x.1, dN x.2.1, .tup (x.2.2.map dN)]) M := by
      have : rF0 n fs [sF "fall", b, c, d] = rF1 n fs (dig b) (dig c) (lotP d) := by
        show (if sF "fall" = sF "fall" then rF1 n fs (dig b) (dig c) (lotP d) else .error (.w (sF "form"))) = _
        exact if_pos rfl
      rw [this] at q
      exact q
    clear q eh e4
    have hb3 := hs2 b (by simp)
    have hc3 := hs2 c (by simp)
    have hd3 := hs2 d (by simp)
    generalize hT : D.lst ([sF "fall", b, c, d].map .str) = Tk
    refine xseq_cut (fun ρ' M' => M = M' ∧ ρ' = [some Tk, some (dN ln), some (dN n), some (.cell p), some (digD (dig b)), none, none, none, none, none]) (fun N hN => ?_) ?_
    · subst hT
      conv => whnf
      refine ⟨.str b, rfl, ?_⟩
      exact ⟨b, rfl, by omega, hN _ _ ⟨rfl, rfl⟩⟩
    rintro _ _ ⟨rfl, rfl⟩
    refine xseq_cut (fun ρ' M' => M = M' ∧ ρ' = [some Tk, some (dN ln), some (dN n), some (.cell p), some (digD (dig b)), some (digD (dig c)), none, none, none, none]) (fun N hN => ?_) ?_
    · subst hT
      conv => whnf
      refine ⟨.str c, rfl, ?_⟩
      exact ⟨c, rfl, by omega, hN _ _ ⟨rfl, rfl⟩⟩
    rintro _ _ ⟨rfl, rfl⟩
    refine xseq_cut (fun ρ' M' => M = M' ∧ ∃ ps : List Str, (∀ x ∈ ps, x.length ≤ 3000) ∧ ps.length ≤ 3001 ∧ ps.map dig = lotP d ∧ ρ' = [some Tk, some (dN ln), some (dN n), some (.cell p), some (digD (dig b)), some (digD (dig c)), some (.lst (ps.map .str)), none, none, none]) (fun N hN => ?_) ?_
    · subst hT
      conv => whnf
      refine ⟨.str d, rfl, ?_⟩
      by_cases e : d = sF "-"
      · refine dT (decide_eq_true e) ?_
        refine ⟨lines _ (by show 0 ≤ _; omega), ?_⟩
        exact hN _ _ ⟨rfl, [], fun _ h => (by cases h), Nat.zero_le _, by unfold lotP; rw [if_pos e]; rfl, rfl⟩
      · refine dF (decide_eq_false e) ?_
        conv => whnf
        refine ⟨.str d, rfl, ?_⟩
        refine ⟨?_, by omega, ?_⟩
        · have : (Str.ofString "+").length = 1 := by rw [TL.len_tl, tl_pls]; rfl
          rw [this]
          rfl
        have pc : Pcs 43 d (Txt.split d pls) := pcs tl_pls (by decide)
        exact hN _ _ ⟨rfl, Txt.split d pls, fun x hx => by have := pc.pl x hx; omega, by have := pc.len; omega, by unfold lotP; rw [if_neg e], rfl⟩
    rintro _ _ ⟨rfl, ps, hp1, hp2, hp3, rfl⟩
    refine xseq_cut (fun ρ' M' => M = M' ∧ ∃ z, ρ' = [some Tk, some (dN ln), some (dN n), some (.cell p), some (digD (dig b)), some (digD (dig c)), some (.lst (ps.map .str)), some (.lst ((lotP d).map digD)), z, none]) (fun N hN => ?_) ?_
    · refine lc_m ps D.str (fun y => [some Tk, some (dN ln), some (dN n), some (.cell p), some (digD (dig b)), some (digD (dig c)), some (.lst (ps.map .str)), none, some (.str y), none]) (fun y => digD (dig y)) rfl (by omega) (fun _ _ => rfl) (fun y hy K hK => ?_) ?_
      · exact ⟨y, rfl, by have := hp1 y hy; omega, hK⟩
      · refine hN _ _ ⟨rfl, none, ?_⟩
        rw [← hp3, List.map_map]
        rfl
    rintro _ _ ⟨rfl, z, rfl⟩
    have hlp : (lotP d).length ≤ 3001 := by rw [← hp3, List.length_map]; exact hp2
    generalize lotP d = lp at q' hlp
    generalize dig b = ob at q'
    generalize dig c = oc at q'
    generalize some (D.lst (ps.map .str)) = Ps
    have q2 := q'
    refine xseq_cut (fun ρ' M' => M = M' ∧ ∃ h t, ob = some h ∧ oc = some t ∧ t ≠ 0 ∧ none ∉ lp ∧ ∃ z, ρ' = [some Tk, some (dN ln), some (dN n), some (.cell p), some (digD ob), some (digD oc), Ps, some (.lst (lp.map digD)), z, none]) (fun N hN => ?_) ?_
    · cases ob with
      | none =>
        refine dT rfl ?_
        refine dT rfl ?_
        exact ⟨rfl, exc_ok q'⟩
      | some h =>
        refine dF rfl ?_
        cases oc with
        | none =>
          refine dT rfl ?_
          refine dT rfl ?_
          exact ⟨rfl, exc_ok q'⟩
        | some t =>
          refine dF rfl ?_
          have q3 : exR T XE M ln (if t = 0 ∨ none ∈ lp then .error (.w (sF "form")) else (rG n fs h (lp.filterMap id)).map fun l => (h, t, l)) fun x => Q (.tup [dN x.1, dN x.2.1, .tup (x.2.2.map dN)]) M := q'
          refine d2 (fun e => ?_) (fun e => ?_)
          · have e' : t = 0 := by have : (t : Int) = 0 := e; omega
            rw [if_pos (.inl e')] at q3
            refine dT rfl ?_
            exact ⟨rfl, exc_ok q3⟩
          · have e' : t ≠ 0 := by have : ¬ (t : Int) = 0 := e; omega
            refine ⟨rfl, flat_dig _, ?_⟩
            show dIte (inD .non (lp.map digD)) _ _
            rw [inD_none]
            refine d2 (fun e2 => ?_) (fun e2 => ?_)
            · rw [if_pos (.inr e2)] at q3
              exact ⟨rfl, exc_ok q3⟩
            · exact hN _ _ ⟨rfl, h, t, rfl, rfl, e', e2, z, rfl⟩
    rintro _ _ ⟨rfl, h, t, rfl, rfl, ht0, hnn, z, rfl⟩
    have q3 : exR T XE M ln ((rG n fs h (lp.filterMap id)).map fun l => (h, t, l)) fun x => Q (.tup [dN x.1, dN x.2.1, .tup (x.2.2.map dN)]) M := by
      have e0 : rF1 n fs (some h) (some t) lp = (rG n fs h (lp.filterMap id)).map fun l => (h, t, l) := if_neg fun z => z.elim ht0 hnn
      rw [e0] at q2
      exact q2
    rw [somes hnn]
    have hll : (lp.filterMap id).length ≤ 3001 := Nat.le_trans (List.length_filterMap_le _ _) hlp
    generalize lp.filterMap id = l at q3 hll
    clear q' q2
    have er : ∀ w, rG n fs h l = .error (.w w) → bfX T XE ln w M := fun w e => by
      rw [e] at q3
      exact q3
    refine xseq_cut (fun ρ' M' => M = M' ∧ ¬ (n ≤ h ∨ ∃ y ∈ l, n ≤ y) ∧ ∃ z y, ρ' = [some Tk, some (dN ln), some (dN n), some (.cell p), some (dN h), some (dN t), Ps, some (.lst (l.map dN)), z, y]) (fun N hN => ?_) ?_
    · refine d2 (fun e => ?_) (fun e => ?_)
      · have e' : n ≤ h := by have : (n : Int) ≤ h := e; omega
        refine dT rfl ?_
        exact ⟨rfl, exc_ok (er _ (if_pos (.inl e')))⟩
      have e' : ¬ n ≤ h := by have : ¬ (n : Int) ≤ h := e; omega
      refine lc_fm l dN (fun y => [some Tk, some (dN ln), some (dN n), some (.cell p), some (dN h), some (dN t), Ps, some (.lst (l.map dN)), z, some (dN y)]) (fun y => decide (n ≤ y)) dN rfl (by omega) (fun _ _ => rfl) (fun y hy K hK => ?_) (fun _ _ _ K hK => hK) ?_
      · show K (decide ((n : Int) ≤ y)) M
        rw [show decide ((n : Int) ≤ y) = decide (n ≤ y) from decide_eq_decide.mpr Int.ofNat_le]
        exact hK
      · cases ef : l.filter (fun y => decide (n ≤ y)) with
        | nil =>
          refine ⟨false, rfl, ?_⟩
          refine dF rfl ?_
          refine hN _ _ ⟨rfl, fun z => z.elim e' fun ⟨y, hy, hny⟩ => ?_, _, _, rfl⟩
          have := List.filter_eq_nil_iff.mp ef y hy
          exact this (decide_eq_true hny)
        | cons x r =>
          refine ⟨true, rfl, ?_⟩
          refine dT rfl ?_
          have hx : x ∈ l.filter (fun y => decide (n ≤ y)) := by rw [ef]; exact List.mem_cons_self
          obtain ⟨hx1, hx2⟩ := List.mem_filter.mp hx
          exact ⟨rfl, exc_ok (er _ (if_pos (.inr ⟨x, hx1, of_decide_eq_true hx2⟩)))⟩
    rintro _ _ ⟨rfl, hr1, z, y, rfl⟩
    refine xseq_cut (fun ρ' M' => M = M' ∧ ¬ (h ∈ fs.map (fun x => x.1) ∨ ¬ l.Nodup) ∧ ρ' = [some Tk, some (dN ln), some (dN n), some (.cell p), some (dN h), some (dN t), Ps, some (.lst (l.map dN)), z, y]) (fun N hN => ?_) ?_
    · have l1 : look M (.cell p) = some (.dic (fs.map fun x => kN x.1) (fs.map fT)) := hp
      conv => whnf
      rw [l1]
      conv => whnf
      rw [getK_in]
      refine d2 (fun e => ?_) (fun e => ?_)
      · refine dT rfl ?_
        exact ⟨rfl, exc_ok (er _ ((if_neg hr1).trans (if_pos (.inl e))))⟩
      conv => whnf
      refine ⟨l.map fun (k : Nat) => (k : Int), by rw [← dN_ints]; rfl, by rw [List.length_map]; omega, fun k hk hkn => ?_⟩
      have hnd : (l.map fun (k : Nat) => (k : Int)).Nodup ↔ l.Nodup := by
        constructor
        · intro h
          unfold List.Nodup at h
          rw [List.pairwise_map] at h
          exact h.imp fun z e => z (by rw [e])
        · intro h
          unfold List.Nodup
          rw [List.pairwise_map]
          exact h.imp fun z e => z (by omega)
      rw [hnd, List.length_map] at hkn
      conv => whnf
      rw [List.length_map]
      refine dN2 (fun e2 => ?_) (fun e2 => ?_)
      · have : ¬ l.Nodup := fun z => e2 (by rw [hkn.mpr z])
        exact ⟨rfl, exc_ok (er _ ((if_neg hr1).trans (if_pos (.inr this))))⟩
      · have e2' : k = l.length := by have : (k : Int) = (l.length : Nat) := e2; omega
        exact hN _ _ ⟨rfl, fun z => z.elim e fun z => z (hkn.mp e2'), rfl⟩
    rintro _ _ ⟨rfl, hr2, rfl⟩
    refine xseq_cut (fun ρ' M' => M = M' ∧ ¬ (h ∈ l ∨ l.length + 1 = n) ∧ ρ' = [some Tk, some (dN ln), some (dN n), some (.cell p), some (dN h), some (dN t), Ps, some (.lst (l.map dN)), z, y]) (fun N hN => ?_) ?_
    · refine ⟨rfl, flat_nat _, ?_⟩
      show dIte (inD (dN h) (l.map dN)) _ _
      rw [inD_nat]
      refine d2 (fun e => ?_) (fun e => ?_)
      · refine dT rfl ?_
        exact ⟨rfl, exc_ok (er _ ((if_neg hr1).trans ((if_neg hr2).trans (if_pos (.inl e)))))⟩
      conv => whnf
      rw [List.length_map]
      refine d2 (fun e2 => ?_) (fun e2 => ?_)
      · have e2' : l.length + 1 = n := by have : (l.length : Int) = (n : Int) - 1 := e2; omega
        exact ⟨rfl, exc_ok (er _ ((if_neg hr1).trans ((if_neg hr2).trans (if_pos (.inr e2')))))⟩
      · have e2' : ¬ l.length + 1 = n := by have : ¬ (l.length : Int) = (n : Int) - 1 := e2; omega
        exact hN _ _ ⟨rfl, fun z => z.elim e e2', rfl⟩
    rintro _ _ ⟨rfl, hr3, rfl⟩
    have hnd : l.Nodup := Classical.byContradiction fun z => hr2 (.inr z)
    have eo : rG n fs h l = .ok (srt l) := (if_neg hr1).trans ((if_neg hr2).trans (if_neg hr3))
    rw [eo] at q3
    have hl40 : l.length ≤ n := nodup_len n l hnd fun y hy => Nat.lt_of_not_le fun z => hr1 (.inr ⟨y, hy, z⟩)
    refine ⟨l.map fun (k : Nat) => (k : Int), by rw [← dN_ints]; rfl, by rw [List.length_map]; omega, fun ns' hp' hs' => ?_⟩
    have hp4 : ns'.Perm ((srt l).map fun (k : Nat) => (k : Int)) := hp'.trans ((srt_perm l).symm.map _)
    rw [sorted_cast (srt_lt hnd) hp4 hs', ← dN_ints]
    refine And.intro (lines _ (by show 3 ≤ _; omega)) ?_
    exact ret_ok q3
)
end
end K85

/-! part F81 -/
set_option maxHeartbeats 0
namespace K85
open PySem PySem.Spec PyProof.Rows L2 DL
section
variable {P : Program} {w : World} {K : PySem.W.Frag} {mg : Str → Option Value} {base : Heap}
theorem rG_ok {n : Nat} {fs : List (Nat × Nat × List Nat)} {h : Nat} {l l' : List Nat} (e : rG n fs h l = .ok l') : h < n ∧ (∀ y ∈ l, y < n) ∧ h ∉ fs.map (fun x => x.1) ∧ l.Nodup ∧ h ∉ l ∧ l.length + 1 ≠ n ∧ l' = srt l := by
  unfold rG at e
  split at e
  · cases e
  · rename_i h1
    split at e
    · cases e
    · rename_i h2
      split at e
      · cases e
      · rename_i h3
        cases e
        exact ⟨Nat.lt_of_not_le fun z => h1 (.inl z), fun y hy => Nat.lt_of_not_le fun z => h1 (.inr ⟨y, hy, z⟩), fun z => h2 (.inl z), Classical.byContradiction fun z => h2 (.inr z), fun z => h3 (.inl z), fun z => h3 (.inr z), rfl⟩
theorem rF0_ok {n : Nat} {fs : List (Nat × Nat × List Nat)} {ts : List Str} {x : Nat × Nat × List Nat} (e : rF0 n fs ts = .ok x) : x.1 < n ∧ x.1 ∉ fs.map (fun x => x.1) ∧ 1 ≤ x.2.1 ∧ x.2.2.Pairwise (· < ·) ∧ (∀ y ∈ x.2.2, y < n ∧ y ≠ x.1) ∧ x.2.2.length + 2 ≤ n := by
  by_cases h4 : ts.length = 4
  · obtain ⟨a, b, c, d, rfl⟩ := len_four h4
    have e' : (if a = sF "fall" then rF1 n fs (dig b) (dig c) (lotP d) else .error (.w (sF "form"))) = .ok x := e
    split at e'
    · generalize dig b = ob at e'
      generalize dig c = oc at e'
      generalize lotP d = lp at e'
      cases ob with
      | none => cases e'
      | some h =>
        cases oc with
        | none => cases e'
        | some t =>
          have e2 : (if t = 0 ∨ none ∈ lp then .error (.w (sF "form")) else (rG n fs h (lp.filterMap id)).map fun l => (h, t, l)) = .ok x := e'
          split at e2
          · cases e2
          · rename_i ht
            cases eg : rG n fs h (lp.filterMap id) with
            | error z => rw [eg] at e2; cases e2
            | ok l =>
              rw [eg] at e2
              cases e2
              obtain ⟨g1, g2, g3, g4, g5, g6, rfl⟩ := rG_ok eg
              refine ⟨g1, g3, ?_, srt_lt g4, fun y hy => ?_, ?_⟩
              · show 1 ≤ t
                have : t ≠ 0 := fun z => ht (.inl z)
                omega
              · have hy' := (srt_perm _).mem_iff.mp hy
                exact ⟨g2 y hy', fun z => g5 (by have z' : y = h := z; rw [← z']; exact hy')⟩
              · show (srt _).length + 2 ≤ n
                rw [(srt_perm _).length_eq]
                have := nodup_len n (h :: lp.filterMap id) (List.nodup_cons.mpr ⟨g5, g4⟩) fun y hy => by
                  rcases List.mem_cons.mp hy with rfl | hy
                  · exact g1
                  · exact g2 y hy
                rw [List.length_cons] at this
                omega
    · cases e'
  · rw [rF0_no h4] at e
    cases e
theorem rF_ok {n most : Nat} {fs : List (Nat × Nat × List Nat)} {ts : List Str} {x : Nat × Nat × List Nat} (e : rF n most fs ts = .ok x) : rF0 n fs ts = .ok x ∧ fs.length < most ∧ x.2.1 ≤ 60 := by
  unfold rF at e
  cases e0 : rF0 n fs ts with
  | error z => rw [e0] at e; cases e
  | ok y =>
    rw [e0] at e
    dsimp only at e
    split at e
    · cases e
    · rename_i h1
      split at e
      · cases e
      · rename_i h2
        cases e
        exact ⟨rfl, by omega, by omega⟩
theorem Wd.Ok.add {W : Wd} (ok : W.Ok) {ts : List Str} {x : Nat × Nat × List Nat} (e : rF W.n W.most W.fs ts = .ok x) : ({ W with fs := W.fs ++ [x] } : Wd).Ok := by
  obtain ⟨e0, h1, h2⟩ := rF_ok e
  obtain ⟨g1, g2, g3, g4, g5, g6⟩ := rF0_ok e0
  have hm : ∀ {p : Nat × Nat × List Nat → Prop}, (∀ y ∈ W.fs, p y) → p x → ∀ y ∈ W.fs ++ [x], p y := fun {p} a b y hy => by
    rcases List.mem_append.mp hy with hy | hy
    · exact a y hy
    · rw [List.mem_singleton.mp hy]; exact b
  refine ⟨ok.n2, ok.n40, ok.ml, ok.bl, ok.b01, ?_, ?_, hm ok.hn g1, hm ok.t1 ⟨g3, h2⟩, hm ok.srt g4, hm ok.ln g5, hm ok.ll g6⟩
  · show ((W.fs ++ [x]).map fun x => x.1).Nodup
    rw [List.map_append, List.nodup_append]
    refine ⟨ok.nd, List.nodup_cons.mpr ⟨List.not_mem_nil, List.nodup_nil⟩, fun a ha b hb e => ?_⟩
    have hb' : b = x.1 := List.mem_singleton.mp hb
    rw [e, hb'] at ha
    exact g2 ha
  · show (W.fs ++ [x]).length ≤ W.most
    rw [List.length_append]
    show W.fs.length + 1 ≤ _
    omega
theorem rH_ok {ts : List Str} {k : Nat} (e : rH ts = .ok k) : 2 ≤ k ∧ k ≤ 40 := by
  unfold rH at e
  split at e
  · cases e
  · split at e
    · cases e
    · split at e
      · cases e
      · cases e
        omega
theorem rM_ok {ts : List Str} {n k : Nat} (e : rM ts n = .ok k) : k + 1 ≤ n := by
  unfold rM at e
  split at e
  · cases e
  · split at e
    · cases e
    · cases e
      omega
theorem rB_ok {ts : List Str} {n : Nat} {bs : List Nat} (e : rB ts n = .ok bs) : bs.length = n ∧ ∀ b ∈ bs, b = 0 ∨ b = 1 := by
  unfold rB at e
  split at e
  · rename_i h
    cases e
    refine ⟨by rw [List.length_map, List.length_tail]; have := h.2.1; omega, fun b hb => ?_⟩
    obtain ⟨t, ht, rfl⟩ := List.mem_map.mp hb
    exact (isBit_num (List.all_eq_true.mp h.2.2 t ht)).2
  · cases e
theorem step0 {W : Wd} {l : Str} : RS.step ⟨0, W⟩ l = if l = sF "falls" then .ok ⟨1, W⟩ else .error (.w (sF "form")) := by
  unfold RS.step
  by_cases h : l = sF "falls"
  · simp [h]
  · simp [h]
theorem step1 {W : Wd} {l : Str} : RS.step ⟨1, W⟩ l = (rH (words l)).map fun k => ⟨2, { W with n := k }⟩ := by
  unfold RS.step
  simp
theorem step2 {W : Wd} {l : Str} : RS.step ⟨2, W⟩ l = (rM (words l) W.n).map fun k => ⟨3, { W with most := k }⟩ := by
  unfold RS.step
  simp
theorem step3 {W : Wd} {l : Str} : RS.step ⟨3, W⟩ l = (rB (words l) W.n).map fun bs => ⟨4, { W with begins := bs }⟩ := by
  unfold RS.step
  simp
theorem step4 {W : Wd} {l : Str} (h : l ≠ sF "done") : RS.step ⟨4, W⟩ l = (rF W.n W.most W.fs (words l)).map fun x => ⟨4, { W with fs := W.fs ++ [x] }⟩ := by
  unfold RS.step
  rw [if_pos ⟨rfl, h⟩]
theorem step4d {W : Wd} : RS.step ⟨4, W⟩ (sF "done") = .ok ⟨5, W⟩ := by
  unfold RS.step
  simp
theorem step5 {W : Wd} {l : Str} : RS.step ⟨5, W⟩ l = .error (.w (sF "form")) := by
  unfold RS.step
  simp
/-- what the stages hold -/
structure StOk (s : RS) : Prop where
  s5 : s.stage ≤ 5
  h2 : 2 ≤ s.stage → 2 ≤ s.W.n ∧ s.W.n ≤ 40
  h3 : 3 ≤ s.stage → s.W.most + 1 ≤ s.W.n
  h4 : 4 ≤ s.stage → s.W.Ok
  hf : s.stage < 4 → s.W.fs = []
theorem st0 : StOk rs0 := ⟨by decide, fun h => absurd h (by decide), fun h => absurd h (by decide), fun h => absurd h (by decide), fun _ => rfl⟩
theorem ok_new {n most : Nat} {bs : List Nat} (h1 : 2 ≤ n ∧ n ≤ 40) (h2 : most + 1 ≤ n) (h3 : bs.length = n ∧ ∀ b ∈ bs, b = 0 ∨ b = 1) : (⟨n, most, bs, []⟩ : Wd).Ok :=
  ⟨h1.1, h1.2, h2, h3.1, h3.2, List.nodup_nil, Nat.zero_le _, fun _ h => (by cases h), fun _ h => (by cases h), fun _ h => (by cases h), fun _ h => (by cases h), fun _ h => (by cases h)⟩
theorem step_ok {s s' : RS} {l : Str} (h : StOk s) (e : s.step l = .ok s') : StOk s' := by
  obtain ⟨st, ⟨n, most, bs, fs⟩⟩ := s
  obtain ⟨h5, h2, h3, h4, hf⟩ := h
  dsimp only at h5 h2 h3 h4 hf
  have : st = 0 ∨ st = 1 ∨ st = 2 ∨ st = 3 ∨ st = 4 ∨ st = 5 := by omega
  rcases this with rfl | rfl | rfl | rfl | rfl | rfl
  · rw [step0] at e
    split at e
    · cases e
      exact ⟨by show 1 ≤ 5; decide, fun h => absurd h (by show ¬ 2 ≤ 1; decide), fun h => absurd h (by show ¬ 3 ≤ 1; decide), fun h => absurd h (by show ¬ 4 ≤ 1; decide), fun _ => hf (by decide)⟩
    · cases e
  · rw [step1] at e
    cases er : rH (words l) with
    | error z => rw [er] at e; cases e
    | ok k =>
      rw [er] at e
      cases e
      exact ⟨by show 2 ≤ 5; decide, fun _ => rH_ok er, fun h => absurd h (by show ¬ 3 ≤ 2; decide), fun h => absurd h (by show ¬ 4 ≤ 2; decide), fun _ => hf (by decide)⟩
  · rw [step2] at e
    cases er : rM (words l) n with
    | error z => rw [er] at e; cases e
    | ok k =>
      rw [er] at e
      cases e
      exact ⟨by show 3 ≤ 5; decide, fun _ => h2 (by decide), fun _ => rM_ok er, fun h => absurd h (by show ¬ 4 ≤ 3; decide), fun _ => hf (by decide)⟩
  · rw [step3] at e
    cases er : rB (words l) n with
    | error z => rw [er] at e; cases e
    | ok k =>
      rw [er] at e
      cases e
      have hf' : fs = [] := hf (by decide)
      subst hf'
      exact ⟨by show 4 ≤ 5; decide, fun _ => h2 (by decide), fun _ => h3 (by decide), fun _ => ok_new (h2 (by decide)) (h3 (by decide)) (rB_ok er), fun h => absurd h (by show ¬ 4 < 4; decide)⟩
  · by_cases hd : l = sF "done"
    · rw [hd, step4d] at e
      cases e
      exact ⟨by show 5 ≤ 5; decide, fun _ => h2 (by decide), fun _ => h3 (by decide), fun _ => h4 (by decide), fun h => absurd h (by show ¬ 5 < 4; decide)⟩
    · rw [step4 hd] at e
      cases er : rF n most fs (words l) with
      | error z => rw [er] at e; cases e
      | ok k =>
        rw [er] at e
        cases e
        exact ⟨by show 4 ≤ 5; decide, fun _ => h2 (by decide), fun _ => h3 (by decide), fun _ => (h4 (by decide)).add er, fun h => absurd h (by show ¬ 4 < 4; decide)⟩
  · rw [step5] at e
    cases e
theorem RR.of_ok {ln : Nat} {e : Er} {W : Wd} (h : RR.of ln e = .ok W) : False := by
  cases e <;> cases h
theorem run_ok : ∀ {ls : List Str} {s : RS} {ln : Nat} {W : Wd}, StOk s → RS.run s ln ls = .ok W → W.Ok
  | [], s, ln, W, _, e => by unfold RS.run at e; cases e
  | [l], s, ln, W, h, e => by
    rw [run_one] at e
    split at e
    · split at e
      · rename_i h5
        cases e
        exact h.h4 (by omega)
      · cases e
    · cases e
  | l :: q :: r, s, ln, W, h, e => by
    rw [run_two] at e
    cases es : s.step l with
    | error z => rw [es] at e; exact (RR.of_ok e).elim
    | ok s' =>
      rw [es] at e
      exact run_ok (step_ok h es) e
theorem rdT_ok {x : Str} {W : Wd} (e : rdT x = .ok W) : W.Ok := run_ok st0 e
end
end K85

/-! part G16 -/
set_option maxHeartbeats 0
namespace K85
open PySem PySem.Spec PyProof.Rows L2 DL
section
variable {P : Program} {w : World} {K : PySem.W.Frag} {mg : Str → Option Value} {base : Heap}
def rdX (T : Txt K mg) (XE : XD) (M : Mp) (r : RR) (Kk : Wd → Prop) : Prop := match r with
  | .ok W => Kk W
  | .bad ln w => bfX T XE ln w M
  | .many _ w k => tmX T XE w k M
theorem rdX_of {T : Txt K mg} {XE : XD} {M : Mp} {ln : Nat} {e : Er} {Kk : Wd → Prop} (h : rdX T XE M (RR.of ln e) Kk) : erX T XE ln e M := by
  cases e <;> exact h
theorem erX_sub {T : Txt K mg} {XE : XD} {M M' : Mp} {ln : Nat} {e : Er} (h : SubM M M') (z : erX T XE ln e M) : erX T (fun C fs ds M2 => ∃ M0, SubM M0 M2 ∧ XE C fs ds M0) ln e M' := by
  cases e <;> exact ⟨M, h, z⟩
theorem exR_i {T : Txt K mg} {α : Type} {XE : XD} {M : Mp} {ln : Nat} {r : Except Er α} {Kk : α → Prop} (h1 : ∀ e, r = .error e → erX T XE ln e M) (h2 : ∀ a, r = .ok a → Kk a) : exR T XE M ln r Kk := by
  cases r with
  | error e => exact h1 e rfl
  | ok a => exact h2 a rfl
theorem run_last {s : RS} {ln : Nat} {l : Str} (h : s.stage ≠ 5) : RS.run s ln [l] = .bad ln (if l = sF "" then sF "missing" else sF "form") := by
  rw [run_one, if_neg h]
  split <;> rfl
theorem tok_bad {T : Txt K mg} {l : Str} {r : List Str} {s : RS} {ln : Nat} {M : Mp} {XE : XD} {Kk : Wd → Prop} (hs : s.stage ≠ 5) (q : rdX T XE M (RS.run s ln (l :: r)) Kk) (hr : r = []) : bfX T XE ln (if l = sF "" then sF "missing" else sF "form") M := by
  subst hr
  rw [run_last hs] at q
  exact q
theorem tok_good {T : Txt K mg} {l : Str} {r : List Str} {s : RS} {ln : Nat} {M : Mp} {XE : XD} {Kk : Wd → Prop} (q : rdX T XE M (RS.run s ln (l :: r)) Kk) (hr : r ≠ []) :
    ∃ l2 r2, r = l2 :: r2 ∧ rdX T XE M (match s.step l with | .error e => RR.of ln e | .ok s' => RS.run s' (ln + 1) (l2 :: r2)) Kk := by
  cases r with
  | nil => exact absurd rfl hr
  | cons l2 r2 =>
    rw [run_two] at q
    exact ⟨l2, r2, rfl, q⟩
structure TxOk (x : Str) : Prop where
  ok : PyData.strOk x = true
  len : x.length ≤ 4000000
  ll : ∀ l ∈ Txt.split x nl, l.length ≤ 3000
theorem small_words {l : Str} (h : l.length ≤ 3000) : smalls (words l) := by
  have p := words_pcs l
  exact ⟨by have := p.len; omega, fun t ht => by have := p.pl t ht; omega⟩
theorem ok_falls : ∀ x ∈ [Str.ofString "falls"], PyData.strOk x = true := fun x hx => by rw [List.mem_singleton.mp hx]; exact (tok_word (by decide) (by decide) (by decide) (by decide)).2.2.2
theorem ok_done : ∀ x ∈ [Str.ofString "done"], PyData.strOk x = true := fun x hx => by rw [List.mem_singleton.mp hx]; exact (tok_word (by decide) (by decide) (by decide) (by decide)).2.2.2
/-- no text -/
def noTx (C : Addr) (M : Mp) (y : D) : Prop := (∃ k, kindD M y = some k ∧ kitD k "str" = false) ∨ ∃ fs ds, look M y = some (.ins C fs ds)
/-- the falls in the order of their houses -/
theorem sort_falls2 {W : Wd} (ok : W.Ok) {ns : List Int} (hp : ns.Perm ((W.fs.map fun x => x.1).map fun (k : Nat) => (k : Int))) (hs : ns.Pairwise (· ≤ ·)) :
    ∃ sf : List (Nat × Nat × List Nat), sf.Perm W.fs ∧ (sf.map fun x => x.1).Pairwise (· < ·) ∧ ns = (sf.map fun x => x.1).map fun (k : Nat) => (k : Int) := by
  let g : Int → Nat × Nat × List Nat := fun i => (W.fall i.toNat).getD (0, 0, [])
  have hg : ∀ x ∈ W.fs, g ((x.1 : Nat) : Int) = x := fun x hx => by
    show (W.fall ((x.1 : Nat) : Int).toNat).getD _ = x
    rw [Int.toNat_natCast, Wd.fall_of ok.nd hx]
    rfl
  have h1 : (ns.map g).Perm W.fs := by
    have := hp.map g
    rw [List.map_map, List.map_map] at this
    rw [show W.fs.map ((g ∘ fun (k : Nat) => (k : Int)) ∘ fun x => x.1) = W.fs from by
      conv => rhs; rw [← List.map_id W.fs]
      exact List.map_congr_left fun x hx => hg x hx] at this
    exact this
  have h2 : ns = ((ns.map g).map fun x => x.1).map fun (k : Nat) => (k : Int) := by
    rw [List.map_map, List.map_map]
    conv => lhs; rw [← List.map_id ns]
    refine List.map_congr_left fun i hi => ?_
    obtain ⟨k, hk, rfl⟩ := List.mem_map.mp (hp.mem_iff.mp hi)
    obtain ⟨x, hx, rfl⟩ := List.mem_map.mp hk
    show ((x.1 : Nat) : Int) = (((g ((x.1 : Nat) : Int)).1 : Nat) : Int)
    rw [hg x hx]
  refine ⟨ns.map g, h1, ?_, h2⟩
  have hnd : ((ns.map g).map fun x => x.1).Nodup := (h1.map _).nodup_iff.mpr ok.nd
  rw [h2, List.pairwise_map] at hs
  exact (List.pairwise_and_iff.mpr ⟨hs, hnd⟩).imp fun h => by omega
def sp_read_falls (T : Txt K mg) : SpX := fun ds M Q XE => (∃ x : Str, ds = [.str x] ∧ TxOk x ∧ rdX T XE M (rdT x) fun W => ∀ sf : List (Nat × Nat × List Nat), sf.Perm W.fs → (sf.map fun x => x.1).Pairwise (· < ·) → Q (.tup [dN W.n, dN W.most, .tup (W.begins.map dN), .dic (sf.map fun x => kN x.1) (sf.map fT)]) M) ∨
  ∃ y, ds = [y] ∧ noTx T.FallRun.C M y ∧ bfX T XE 0 (sF "form") M
theorem len_read_falls (T : Txt K mg) : ∀ ds M Q XE, sp_read_falls T ds M Q XE → ds.length = 1 := by
  rintro _ _ _ _ (⟨_, rfl, _⟩ | ⟨_, rfl, _⟩) <;> rfl
theorem ok_read_falls (T : Txt K mg) : FnX P w K mg base 4 T.read_falls.f T.read_falls.fd ["text"] (sp_read_falls T) := okX T.read_falls.F sc_read_falls (len_read_falls T) (fun cdv A outer s H E hr =>
        (ssx_cons (sx_if (tx_ofn (dt_not (dt_val (de_callB (c_isiI T.FallRun.eqc T.FallRun.cl) (by rfl) T.b_isinstance boot_isinstance (da_cons (dv 0) (da_cons (de_ty (by rfl) T.b_str boot_str) da_nil)))))) (ssx_cons (sx_raise (kk := 0) rfl (mkx_BadFalls T) (hr.mono (by decide)) (by rfl) T.BadFalls.g (ax_cons (ex_ofn de_int) (ax_cons (ex_ofn de_str) ax_nil)))
      ssx_nil) ssx_nil)
      (ssx_cons (sx_ofn (ds_set (i := 1) sc_read_falls.nd (de_split (dv 0) de_str)))
      (ssx_cons (sx_if (tx_cmp (o_neD (hu64 (k := 0) (hr.mono (by decide)))) (ex_call (ok_tokens_of T) (hr.mono (by decide)) (by rfl) T.tokens_of.g T.tokens_of.F.kp T.tokens_of.b (ax_cons (ex_ofn (dv 1)) (ax_cons (ex_ofn de_int) ax_nil))) (ex_ofn (de_lst (da_cons de_str da_nil)))) (ssx_cons (sx_raise (kk := 0) rfl (mkx_BadFalls T) (hr.mono (by decide)) (by rfl) T.BadFalls.g (ax_cons (ex_ofn de_int) (ax_cons (ex_ofn de_str) ax_nil)))
      ssx_nil) ssx_nil)
      (ssx_cons (sx_set (i := 2) sc_read_falls.nd (ex_call (ok_read_houses T) (hr.mono (by decide)) (by rfl) T.read_houses.g T.read_houses.F.kp T.read_houses.b (ax_cons (ex_call (ok_tokens_of T) (hr.mono (by decide)) (by rfl) T.tokens_of.g T.tokens_of.F.kp T.tokens_of.b (ax_cons (ex_ofn (dv 1)) (ax_cons (ex_ofn de_int) ax_nil))) ax_nil)))
      (ssx_cons (sx_set (i := 3) sc_read_falls.nd (ex_call (ok_read_most T) (hr.mono (by decide)) (by rfl) T.read_most.g T.read_most.F.kp T.read_most.b (ax_cons (ex_call (ok_tokens_of T) (hr.mono (by decide)) (by rfl) T.tokens_of.g T.tokens_of.F.kp T.tokens_of.b (ax_cons (ex_ofn (dv 1)) (ax_cons (ex_ofn de_int) ax_nil))) (ax_cons (ex_ofn (dv 2)) ax_nil))))
      (ssx_cons (sx_set (i := 4) sc_read_falls.nd (ex_call (ok_read_begins T) (hr.mono (by decide)) (by rfl) T.read_begins.g T.read_begins.F.kp T.read_begins.b (ax_cons (ex_call (ok_tokens_of T) (hr.mono (by decide)) (by rfl) T.tokens_of.g T.tokens_of.F.kp T.tokens_of.b (ax_cons (ex_ofn (dv 1)) (ax_cons (ex_ofn de_int) ax_nil))) (ax_cons (ex_ofn (dv 2)) ax_nil))))
      (ssx_cons (sx_ofn (ds_set (i := 5) sc_read_falls.nd de_dnewC))
      (ssx_cons (sx_ofn (ds_set (i := 6) sc_read_falls.nd de_int))
      (ssx_cons (sx_set (i := 7) sc_read_falls.nd (ex_call (ok_tokens_of T) (hr.mono (by decide)) (by rfl) T.tokens_of.g T.tokens_of.F.kp T.tokens_of.b (ax_cons (ex_ofn (dv 1)) (ax_cons (ex_ofn (dv 6)) ax_nil))))
      (ssx_cons (sx_while (passes_of rfl) (tx_ofn (dt_cmp (o_neD (hu64 (k := 0) (hr.mono (by decide)))) (dv 7) (de_lst (da_cons de_str da_nil)))) (ssx_cons (sx_asg (ex_call (ok_read_fall T) (hr.mono (by decide)) (by rfl) T.read_fall.g T.read_fall.F.kp T.read_fall.b (ax_cons (ex_ofn (dv 7)) (ax_cons (ex_ofn (de_op o_add (dv 6) de_int)) (ax_cons (ex_ofn (dv 2)) (ax_cons (ex_ofn (dv 5)) ax_nil))))) (dg_tup (n := 3) rfl (dgs_cons (dg_name (i := 8) sc_read_falls.nd) (dgs_cons (dg_name (i := 9) sc_read_falls.nd) (dgs_cons (dg_name (i := 10) sc_read_falls.nd) dgs_nil)))))
      (ssx_cons (sx_if (tx_ofn (dt_cmp o_eq (de_callB c_lenD (by rfl) T.b_len boot_len (da_cons (dv 5) da_nil)) (dv 3))) (ssx_cons (sx_raise (kk := 0) rfl (mkx_BadFalls T) (hr.mono (by decide)) (by rfl) T.BadFalls.g (ax_cons (ex_ofn (de_op o_add (dv 6) de_int)) (ax_cons (ex_ofn de_str) ax_nil)))
      ssx_nil) ssx_nil)
      (ssx_cons (sx_if (tx_ofn (dt_cmp o_gt (dv 9) (de_globI (by rfl) T.g_LAST_BEAT))) (ssx_cons (sx_raise (kk := 0) rfl (mkx_TooMany T) (hr.mono (by decide)) (by rfl) T.TooMany.g (ax_cons (ex_ofn de_str) (ax_cons (ex_ofn (dv 9)) ax_nil)))
      ssx_nil) ssx_nil)
      (ssx_cons (sx_ofn (ds_dput (hu_of (k := 0) (hr.mono (by decide))) (dv 5) (dv 8) (de_tup (da_cons (dv 9) (da_cons (dv 10) da_nil)))))
      (ssx_cons (sx_ofn (ds_aug (j := 6) sc_read_falls.nd ip_add de_int))
      (ssx_cons (sx_set (i := 7) sc_read_falls.nd (ex_call (ok_tokens_of T) (hr.mono (by decide)) (by rfl) T.tokens_of.g T.tokens_of.F.kp T.tokens_of.b (ax_cons (ex_ofn (dv 1)) (ax_cons (ex_ofn (dv 6)) ax_nil))))
      ssx_nil)))))))
      (ssx_cons (sx_if (tx_ofn (PWD.pt (dw_or (dt_cmp o_ne (de_callB c_len (by rfl) T.b_len boot_len (da_cons (dv 1) da_nil)) (de_op o_add (dv 6) de_int)) (dw_or1 (dt_cmp o_ne (de_ix (dv 1) (de_op o_add (dv 6) de_int)) de_str))))) (ssx_cons (sx_raise (kk := 0) rfl (mkx_BadFalls T) (hr.mono (by decide)) (by rfl) T.BadFalls.g (ax_cons (ex_ofn (de_op o_add (dv 6) de_int)) (ax_cons (ex_ofn de_str) ax_nil)))
      ssx_nil) ssx_nil)
      (ssx_ofn (dss_one (ds_ret (de_tup (da_cons (dv 2) (da_cons (dv 3) (da_cons (dv 4) (da_cons (de_dc (own := [("house", 8)]) rfl sc_read_falls.nd (di_list (de_callB c_sorted (by rfl) T.b_sorted boot_sorted (da_cons (de_callTy (c_listD rfl) (by rfl) T.b_list boot_list (da_cons (dv 5) da_nil)) da_nil))) (blkOk_by (by kernel_rfl)) (fun _ _ _ _ _ => pg_name (i := 8) sc_read_falls.nd rfl (by first | exact Or.inl rfl | exact Or.inr rfl)) (gw_name (by decide)) (fun _ _ _ _ _ => dts_nil) (fun _ _ _ _ _ => (dv 8)) (fun _ _ _ _ _ => (de_get (hu_of (k := 0) (hr.mono (by decide))) (dv 5) (dv 8)))) da_nil))))))))))))))))))))
      (by
    rintro _ M Q XE (⟨x, rfl, ⟨hok, hlen, hll⟩, q⟩ | ⟨y, rfl, hy, q⟩)
    rotate_left
    · refine xseq_cut (fun ρ' M' => False) (fun N hN => ?_) (fun _ _ h => h.elim)
      conv => whnf
      rcases hy with ⟨k, e1, e2⟩ | ⟨fs, ds, e1⟩
      · refine .inl ⟨by decide, k, e1, ?_⟩
        rw [e2]
        refine dT rfl ?_
        exact ⟨rfl, exc_ok q⟩
      · refine .inr ⟨rfl, ⟨fs, ds, e1⟩, ?_⟩
        refine dT rfl ?_
        exact ⟨rfl, exc_ok q⟩
    have hb := big
    have hpc : Pcs 10 x (Txt.split x nl) := pcs tl_nl (by decide)
    have hlok := hpc.ok hok
    have hne := hpc.ne
    have q0 : rdX T XE M (RS.run rs0 1 (Txt.split x nl)) fun W => ∀ sf : List (Nat × Nat × List Nat), sf.Perm W.fs → (sf.map fun x => x.1).Pairwise (· < ·) → Q (.tup [dN W.n, dN W.most, .tup (W.begins.map dN), .dic (sf.map fun x => kN x.1) (sf.map fT)]) M := q
    generalize hKk : (fun W : Wd => ∀ sf : List (Nat × Nat × List Nat), sf.Perm W.fs → (sf.map fun x => x.1).Pairwise (· < ·) → Q (.tup [dN W.n, dN W.most, .tup (W.begins.map dN), .dic (sf.map fun x => kN x.1) (sf.map fT)]) M) = Kk at q0
    clear q
    refine xseq_cut (fun ρ' M' => M = M' ∧ ρ' = [some (.str x), none, none, none, none, none, none, none, none, none, none]) (fun N hN => ?_) ?_
    · conv => whnf
      refine .inl ⟨by decide, "str", rfl, ?_⟩
      exact dF rfl (hN _ _ ⟨rfl, rfl⟩)
    rintro _ _ ⟨rfl, rfl⟩
    refine xseq_cut (fun ρ' M' => M = M' ∧ ρ' = [some (.str x), some (.lst ((Txt.split x nl).map .str)), none, none, none, none, none, none, none, none, none]) (fun N hN => ?_) ?_
    · conv => whnf
      refine ⟨?_, by omega, ?_⟩
      · show ((nl).length == 0) = false
        have : (nl).length = 1 := nl_len
        rw [this]
        rfl
      exact hN _ _ ⟨rfl, rfl⟩
    rintro _ _ ⟨rfl, rfl⟩
    generalize Txt.split x nl = ls at q0 hll hlok hne
    have sx : SubM M M := SubM.refl M
    have up0 : ∀ {ln : Nat} {w : Str}, bfX T XE ln w M → bfX T (fun C fs ds M2 => ∃ M0, SubM M0 M2 ∧ XE C fs ds M0) ln w M := fun z => ⟨M, sx, z⟩
    cases ls with
    | nil => exact absurd hne (by show ¬ 1 ≤ 0; decide)
    | cons l0 r0 =>
    generalize hls : l0 :: r0 = ls at hll hlok q0
    have hdr0 : ls.drop 0 = l0 :: r0 := by rw [← hls]; rfl
    have hl0 : l0 ∈ ls := by rw [← hls]; exact List.mem_cons_self
    refine xseq_cut (fun ρ' M' => M = M' ∧ (∃ l1 r1, r0 = l1 :: r1 ∧ rdX T XE M (RS.run ⟨1, rs0.W⟩ 2 (l1 :: r1)) Kk) ∧ ρ' = [some (.str x), some (.lst (ls.map .str)), none, none, none, none, none, none, none, none, none]) (fun N hN => ?_) ?_
    · conv => whnf
      have q0' : rdX T XE M (RS.run rs0 1 (l0 :: r0)) Kk := by rw [← hls] at q0; exact q0
      refine ⟨ls, 0, l0, r0, rfl, hdr0, hll _ hl0, fun hr => up0 (tok_bad (by decide) q0' hr), fun hr => ?_⟩
      obtain ⟨l1, r1, hr, q1⟩ := tok_good q0' hr
      conv => whnf
      refine ⟨lines _ (by show 1 ≤ _; omega), ?_⟩
      refine ne_strs (l := words l0) (m := [Str.ofString "falls"]) ((words_pcs l0).ok (hlok _ hl0)) ok_falls ?_
      rw [decide_eq_decide.mpr (word_one (s := "falls") (by decide) l0)]
      have q1' : rdX T XE M (match RS.step ⟨0, rs0.W⟩ l0 with | .error e => RR.of (0 + 1) e | .ok s' => RS.run s' (0 + 1 + 1) (l1 :: r1)) Kk := q1
      rw [step0] at q1'
      refine dN2 (fun e => ?_) (fun e => ?_)
      · rw [if_neg e] at q1'
        exact ⟨rfl, exc_ok q1'⟩
      · rw [if_pos e] at q1'
        exact hN _ _ ⟨rfl, ⟨l1, r1, hr, q1'⟩, rfl⟩
    rintro _ _ ⟨rfl, ⟨l1, r1, rfl, q1⟩, rfl⟩
    have hdr1 : ls.drop 1 = l1 :: r1 := by rw [← hls]; rfl
    have hl1 : l1 ∈ ls := by rw [← hls]; simp
    refine xseq_cut (fun ρ' M' => M = M' ∧ ∃ l2 r2 n, r1 = l2 :: r2 ∧ 2 ≤ n ∧ n ≤ 40 ∧ rdX T XE M (RS.run ⟨2, ⟨n, 0, [], []⟩⟩ 3 (l2 :: r2)) Kk ∧ ρ' = [some (.str x), some (.lst (ls.map .str)), some (dN n), none, none, none, none, none, none, none, none]) (fun N hN => ?_) ?_
    · conv => whnf
      refine ⟨ls, 1, l1, r1, rfl, hdr1, hll _ hl1, fun hr => up0 (tok_bad (by decide) q1 hr), fun hr => ?_⟩
      obtain ⟨l2, r2, hr, q2⟩ := tok_good q1 hr
      rw [step1] at q2
      refine ⟨words l1, rfl, small_words (hll _ hl1), exR_i (fun e er => ?_) (fun n er => ?_)⟩
      · rw [er] at q2
        exact erX_sub sx (rdX_of q2)
      · rw [er] at q2
        obtain ⟨a1, a2⟩ := rH_ok er
        exact hN _ _ ⟨rfl, l2, r2, n, hr, a1, a2, q2, rfl⟩
    rintro _ _ ⟨rfl, l2, r2, n, rfl, hn2, hn40, q2, rfl⟩
    have hdr2 : ls.drop 2 = l2 :: r2 := by rw [← hls]; rfl
    have hl2 : l2 ∈ ls := by rw [← hls]; simp
    refine xseq_cut (fun ρ' M' => M = M' ∧ ∃ l3 r3 m, r2 = l3 :: r3 ∧ m + 1 ≤ n ∧ rdX T XE M (RS.run ⟨3, ⟨n, m, [], []⟩⟩ 4 (l3 :: r3)) Kk ∧ ρ' = [some (.str x), some (.lst (ls.map .str)), some (dN n), some (dN m), none, none, none, none, none, none, none]) (fun N hN => ?_) ?_
    · conv => whnf
      refine ⟨ls, 2, l2, r2, rfl, hdr2, hll _ hl2, fun hr => up0 (tok_bad (by show (2 : Nat) ≠ 5; decide) q2 hr), fun hr => ?_⟩
      obtain ⟨l3, r3, hr, q3⟩ := tok_good q2 hr
      rw [step2] at q3
      refine ⟨words l2, n, rfl, small_words (hll _ hl2), by omega, exR_i (fun e er => ?_) (fun m er => ?_)⟩
      · rw [er] at q3
        exact erX_sub sx (rdX_of q3)
      · rw [er] at q3
        exact hN _ _ ⟨rfl, l3, r3, m, hr, rM_ok er, q3, rfl⟩
    rintro _ _ ⟨rfl, l3, r3, m, rfl, hm, q3, rfl⟩
    have hdr3 : ls.drop 3 = l3 :: r3 := by rw [← hls]; rfl
    have hl3 : l3 ∈ ls := by rw [← hls]; simp
    refine xseq_cut (fun ρ' M' => M = M' ∧ ∃ l4 r4 bs, r3 = l4 :: r4 ∧ (bs.length = n ∧ ∀ b ∈ bs, b = 0 ∨ b = 1) ∧ rdX T XE M (RS.run ⟨4, ⟨n, m, bs, []⟩⟩ 5 (l4 :: r4)) Kk ∧ ρ' = [some (.str x), some (.lst (ls.map .str)), some (dN n), some (dN m), some (.tup (bs.map dN)), none, none, none, none, none, none]) (fun N hN => ?_) ?_
    · conv => whnf
      refine ⟨ls, 3, l3, r3, rfl, hdr3, hll _ hl3, fun hr => up0 (tok_bad (by show (3 : Nat) ≠ 5; decide) q3 hr), fun hr => ?_⟩
      obtain ⟨l4, r4, hr, q4⟩ := tok_good q3 hr
      rw [step3] at q4
      refine ⟨words l3, n, rfl, fun z => ?_, small_words (hll _ hl3), exR_i (fun e er => ?_) (fun bs er => ?_)⟩
      · have := (words_pcs l3).ne
        rw [z] at this
        exact absurd this (by decide)
      · rw [er] at q4
        exact erX_sub sx (rdX_of q4)
      · rw [er] at q4
        exact hN _ _ ⟨rfl, l4, r4, bs, hr, rB_ok er, q4, rfl⟩
    rintro _ _ ⟨rfl, l4, r4, bs, rfl, hbs, q4, rfl⟩
    have hdr4 : ls.drop 4 = l4 :: r4 := by rw [← hls]; rfl
    refine xseq_cut (fun ρ' M' => ∃ p, M p = none ∧ M' = updM M p (.dic [] []) ∧ ρ' = [some (.str x), some (.lst (ls.map .str)), some (dN n), some (dN m), some (.tup (bs.map dN)), some (.cell p), none, none, none, none, none]) (fun N hN => ?_) ?_
    · intro p hp
      exact hN _ _ ⟨p, hp, rfl, rfl⟩
    rintro _ _ ⟨p, hp, rfl, rfl⟩
    refine xseq_cut (fun ρ' M' => M' = updM M p (.dic [] []) ∧ ρ' = [some (.str x), some (.lst (ls.map .str)), some (dN n), some (dN m), some (.tup (bs.map dN)), some (.cell p), some (dN 4), none, none, none, none]) (fun N hN => ?_) ?_
    · exact hN _ _ ⟨rfl, rfl⟩
    rintro _ _ ⟨rfl, rfl⟩
    have sub : ∀ d, SubM M (updM M p d) := fun d => (SubM.refl M).upd hp
    have upp : ∀ {ln : Nat} {w : Str} (d : D), bfX T XE ln w M → bfX T (fun C fs ds M2 => ∃ M0, SubM M0 M2 ∧ XE C fs ds M0) ln w (updM M p d) := fun d z => ⟨M, sub d, z⟩
    have hmem : ∀ {a : Nat} {l : Str} {r : List Str}, ls.drop a = l :: r → l ∈ ls := fun {a l r} e => List.mem_of_mem_drop (i := a) (by rw [e]; exact List.mem_cons_self)
    have hnext : ∀ {a : Nat} {l : Str} {r : List Str}, ls.drop a = l :: r → ls.drop (a + 1) = r := fun {a l r} e => by rw [← List.drop_drop, e]; rfl
    -- ahead of a turn
    let St : Nat → List (Nat × Nat × List Nat) → Nat → DL.Env → Mp → Prop := fun k fs a ρ' M' => ∃ l l' r', ls.drop a = l :: l' :: r' ∧ k = r'.length ∧ (⟨n, m, bs, fs⟩ : Wd).Ok ∧ rdX T XE M (match RS.step ⟨4, ⟨n, m, bs, fs⟩⟩ l with | .error e => RR.of (a + 1) e | .ok s' => RS.run s' (a + 1 + 1) (l' :: r')) Kk ∧
      M' = updM M p (.dic (fs.map fun x => kN x.1) (fs.map fT)) ∧ ∃ z1 z2 z3, ρ' = [some (.str x), some (.lst (ls.map .str)), some (dN n), some (dN m), some (.tup (bs.map dN)), some (.cell p), some (dN a), some (.lst ((words l).map .str)), z1, z2, z3]
    refine xseq_cut (fun ρ' M' => ∃ k fs a, St k fs a ρ' M') (fun N hN => ?_) ?_
    · conv => whnf
      refine ⟨ls, 4, l4, r4, rfl, hdr4, hll _ (hmem hdr4), fun hr => upp _ (tok_bad (by show (4 : Nat) ≠ 5; decide) q4 hr), fun hr => ?_⟩
      obtain ⟨l5, r5, hr, q5⟩ := tok_good q4 hr
      subst hr
      exact hN _ _ ⟨r5.length, [], 4, l4, l5, r5, hdr4, rfl, ok_new ⟨hn2, hn40⟩ hm hbs, q5, rfl, _, _, _, rfl⟩
    rintro ρ0 M0 ⟨k0, fs0, a0, hst0⟩
    refine xseq_cut (fun ρ' M' => ∃ (fs : List (Nat × Nat × List Nat)) (a : Nat) (l' : Str) (r' : List Str), ls.drop a = sF "done" :: l' :: r' ∧ (⟨n, m, bs, fs⟩ : Wd).Ok ∧ rdX T XE M (RS.run ⟨5, ⟨n, m, bs, fs⟩⟩ (a + 2) (l' :: r')) Kk ∧ M' = updM M p (.dic (fs.map fun x => kN x.1) (fs.map fT)) ∧ ∃ z0 z1 z2 z3, ρ' = [some (.str x), some (.lst (ls.map .str)), some (dN n), some (dN m), some (.tup (bs.map dN)), some (.cell p), some (dN a), z0, z1, z2, z3]) (fun N hN => ?_) ?_
    · refine ⟨fun k ρ' M' => ∃ fs a, St k fs a ρ' M', ⟨k0, fs0, a0, hst0⟩, ?_⟩
      rintro k _ _ ⟨fs, a, l, l', r', hd, hk, ok, qq, rfl, z1, z2, z3, rfl⟩
      have hlm := hmem hd
      conv => whnf
      refine ⟨lines _ (by show 1 ≤ _; omega), ?_⟩
      refine ne_strs (l := words l) (m := [Str.ofString "done"]) ((words_pcs l).ok (hlok _ hlm)) ok_done ?_
      rw [decide_eq_decide.mpr (word_one (s := "done") (by decide) l)]
      refine dN2 (fun e => ?_) (fun e => ?_)
      · have e' : l ≠ sF "done" := e
        rw [step4 e'] at qq
        have qq' : rdX T XE M (match (rF n m fs (words l)).map fun x => (⟨4, ⟨n, m, bs, fs ++ [x]⟩⟩ : RS) with | .error e => RR.of (a + 1) e | .ok s' => RS.run s' (a + 1 + 1) (l' :: r')) Kk := qq
        clear qq
        generalize hM1 : updM M p _ = M1
        have g1 : M1 p = some (.dic (fs.map fun x => kN x.1) (fs.map fT)) := by rw [← hM1]; exact updM_same
        have l1 : look M1 (.cell p) = some (.dic (fs.map fun x => kN x.1) (fs.map fT)) := g1
        have sub1 : SubM M M1 := by rw [← hM1]; exact sub _
        have hfl : fs.length ≤ 39 := by have := ok.len; have := ok.ml; have := ok.n40; dsimp only at *; omega
        refine xseq_cut (fun ρ' M' => M1 = M' ∧ ∃ x0 : Nat × Nat × List Nat, rF0 n fs (words l) = .ok x0 ∧ ρ' = [some (.str x), some (.lst (ls.map .str)), some (dN n), some (dN m), some (.tup (bs.map dN)), some (.cell p), some (dN a), some (.lst ((words l).map .str)), some (dN x0.1), some (dN x0.2.1), some (.tup (x0.2.2.map dN))]) (fun N2 hN2 => ?_) ?_
        · conv => whnf
          refine ⟨words l, a + 1, n, p, fs, rfl, small_words (hll _ hlm), by omega, hn40, g1, exR_i (fun e er => ?_) (fun x0 er => ?_)⟩
          · have erf : rF n m fs (words l) = .error e := by unfold rF; rw [er]
            rw [erf] at qq'
            exact erX_sub sub1 (rdX_of qq')
          · conv => whnf
            refine ⟨rfl, ?_⟩
            exact hN2 _ _ ⟨rfl, x0, er, rfl⟩
        rintro _ _ ⟨rfl, x0, e0, rfl⟩
        have erf : rF n m fs (words l) = if m ≤ fs.length then .error (.w (sF "most")) else if 60 < x0.2.1 then .error (.m (sF "beats") x0.2.1) else .ok x0 := by
          unfold rF
          rw [e0]
        obtain ⟨f1, f2, f3, f4, f5, f6⟩ := rF0_ok e0
        refine xseq_cut (fun ρ' M' => M1 = M' ∧ ¬ m ≤ fs.length ∧ ρ' = [some (.str x), some (.lst (ls.map .str)), some (dN n), some (dN m), some (.tup (bs.map dN)), some (.cell p), some (dN a), some (.lst ((words l).map .str)), some (dN x0.1), some (dN x0.2.1), some (.tup (x0.2.2.map dN))]) (fun N2 hN2 => ?_) ?_
        · conv => whnf
          rw [l1]
          conv => whnf
          rw [List.length_map]
          refine d2 (fun e2 => ?_) (fun e2 => ?_)
          · have e2' : m ≤ fs.length := by have : (fs.length : Int) = (m : Int) := e2; omega
            rw [if_pos e2'] at erf
            rw [erf] at qq'
            exact ⟨rfl, ⟨M, sub1, qq'⟩⟩
          · have e2' : ¬ m ≤ fs.length := by have : ¬ (fs.length : Int) = (m : Int) := e2; have := ok.len; dsimp only at this; omega
            exact hN2 _ _ ⟨rfl, e2', rfl⟩
        rintro _ _ ⟨rfl, hm2, rfl⟩
        rw [if_neg hm2] at erf
        refine xseq_cut (fun ρ' M' => M1 = M' ∧ ¬ 60 < x0.2.1 ∧ ρ' = [some (.str x), some (.lst (ls.map .str)), some (dN n), some (dN m), some (.tup (bs.map dN)), some (.cell p), some (dN a), some (.lst ((words l).map .str)), some (dN x0.1), some (dN x0.2.1), some (.tup (x0.2.2.map dN))]) (fun N2 hN2 => ?_) ?_
        · refine d2 (fun e2 => ?_) (fun e2 => ?_)
          · have e2' : 60 < x0.2.1 := by have : (60 : Int) < x0.2.1 := e2; omega
            rw [if_pos e2'] at erf
            rw [erf] at qq'
            exact ⟨rfl, ⟨M, sub1, qq'⟩⟩
          · have e2' : ¬ 60 < x0.2.1 := by have : ¬ (60 : Int) < x0.2.1 := e2; omega
            exact hN2 _ _ ⟨rfl, e2', rfl⟩
        rintro _ _ ⟨rfl, h60, rfl⟩
        rw [if_neg h60] at erf
        have ok2 := Wd.Ok.add (W := ⟨n, m, bs, fs⟩) ok erf
        rw [erf] at qq'
        have qq2 : rdX T XE M (RS.run ⟨4, ⟨n, m, bs, fs ++ [x0]⟩⟩ (a + 1 + 1) (l' :: r')) Kk := qq'
        clear qq'
        have hnot : kN x0.1 ∉ fs.map fun x => kN x.1 := fun hm => by
          obtain ⟨y, hy, e⟩ := List.mem_map.mp hm
          exact f2 (List.mem_map.mpr ⟨y, hy, kN_inj.mp e⟩)
        refine xseq_cut (fun ρ' M' => M' = updM M p (.dic ((fs ++ [x0]).map fun x => kN x.1) ((fs ++ [x0]).map fT)) ∧ ρ' = [some (.str x), some (.lst (ls.map .str)), some (dN n), some (dN m), some (.tup (bs.map dN)), some (.cell p), some (dN a), some (.lst ((words l).map .str)), some (dN x0.1), some (dN x0.2.1), some (.tup (x0.2.2.map dN))]) (fun N2 hN2 => ?_) ?_
        · conv => whnf
          refine ⟨lines _ (by show 2 ≤ _; omega), ?_⟩
          conv => whnf
          refine ⟨_, _, g1, nodup_kN (k := fun x : Nat × Nat × List Nat => x.1) ok.nd, by rw [List.length_map]; omega, ?_⟩
          refine hN2 _ _ ⟨?_, rfl⟩
          rw [← hM1, updM_updM]
          congr 1
          show D.dic (putKD (kN x0.1) (fT x0) _ _).1 (putKD (kN x0.1) (fT x0) _ _).2 = _
          rw [putKD_new hnot (by rw [List.length_map, List.length_map]), List.map_append, List.map_append]
          rfl
        clear g1 l1
        rintro _ _ ⟨rfl, rfl⟩
        refine xseq_cut (fun ρ' M' => M' = updM M p (.dic ((fs ++ [x0]).map fun x => kN x.1) ((fs ++ [x0]).map fT)) ∧ ρ' = [some (.str x), some (.lst (ls.map .str)), some (dN n), some (dN m), some (.tup (bs.map dN)), some (.cell p), some (dN (a + 1)), some (.lst ((words l).map .str)), some (dN x0.1), some (dN x0.2.1), some (.tup (x0.2.2.map dN))]) (fun N2 hN2 => ?_) ?_
        · exact hN2 _ _ ⟨rfl, rfl⟩
        rintro _ _ ⟨rfl, rfl⟩
        have hd2 := hnext hd
        conv => whnf
        refine ⟨ls, a + 1, l', r', rfl, hd2, hll _ (hmem hd2), fun hr => upp _ (tok_bad (by show (4 : Nat) ≠ 5; decide) qq2 hr), fun hr => ?_⟩
        obtain ⟨l2, r2, hr, q5⟩ := tok_good qq2 hr
        subst hr
        refine ⟨r2.length, by rw [hk, List.length_cons]; omega, fs ++ [x0], a + 1, l', l2, r2, hd2, rfl, ok2, q5, rfl, _, _, _, rfl⟩
      · have e' : l = sF "done" := e
        subst e'
        rw [step4d] at qq
        exact hN _ _ ⟨fs, a, l', r', hd, ok, qq, rfl, _, _, _, _, rfl⟩
    rintro _ _ ⟨fs, a, l', r', hd, ok, qq, rfl, z0, z1, z2, z3, rfl⟩
    have hlen2 : ls.length = a + (r'.length + 2) := by
      have := congrArg List.length hd
      rw [List.length_drop, List.length_cons, List.length_cons] at this
      omega
    have hd2 := hnext hd
    have hla : ls[a + 1]? = some l' := by
      have := congrArg List.head? hd2
      rw [List.head?_drop] at this
      exact this
    have hfl : fs.length ≤ 39 := by have := ok.len; have := ok.ml; have := ok.n40; dsimp only at *; omega
    generalize hM1 : updM M p _ = M1
    have g1 : M1 p = some (.dic (fs.map fun x => kN x.1) (fs.map fT)) := by rw [← hM1]; exact updM_same
    have l1' : look M1 (.cell p) = some (.dic (fs.map fun x => kN x.1) (fs.map fT)) := g1
    have sub1 : SubM M M1 := by rw [← hM1]; exact sub _
    refine xseq_cut (fun ρ' M' => M1 = M' ∧ r' = [] ∧ l' = sF "" ∧ ρ' = [some (.str x), some (.lst (ls.map .str)), some (dN n), some (dN m), some (.tup (bs.map dN)), some (.cell p), some (dN a), z0, z1, z2, z3]) (fun N hN => ?_) ?_
    · conv => whnf
      rw [strs_len]
      refine dN2 (fun e => ?_) (fun e => ?_)
      · refine dT rfl ?_
        cases r' with
        | nil => exact absurd (show (ls.length : Int) = (a : Int) + 2 by rw [hlen2]; show ((a + (0 + 2) : Nat) : Int) = _; omega) e
        | cons c r'' =>
          rw [run_two, step5] at qq
          exact ⟨rfl, ⟨M, sub1, qq⟩⟩
      · have er : r' = [] := by
          have : (ls.length : Int) = (a : Int) + 2 := e
          rw [hlen2] at this
          exact List.length_eq_zero_iff.mp (by omega)
        subst er
        rw [run_one] at qq
        conv => whnf
        refine ⟨.str l', ?_, ?_⟩
        · show atI (ls.map D.str) ((a : Int) + 1) = _
          exact strs_get ls hla
        refine dN2 (fun e2 => ?_) (fun e2 => ?_)
        · have e2' : ¬ l' = sF "" := e2
          rw [if_neg e2'] at qq
          exact ⟨rfl, ⟨M, sub1, qq⟩⟩
        · exact hN _ _ ⟨rfl, rfl, e2, rfl⟩
    rintro _ _ ⟨rfl, rfl, rfl, rfl⟩
    rw [run_one, if_pos rfl, if_pos rfl] at qq
    have qf : ∀ sf : List (Nat × Nat × List Nat), sf.Perm fs → (sf.map fun x => x.1).Pairwise (· < ·) → Q (.tup [dN n, dN m, .tup (bs.map dN), .dic (sf.map fun x => kN x.1) (sf.map fT)]) M := by
      rw [← hKk] at qq
      exact qq
    conv => whnf
    rw [l1']
    conv => whnf
    have hkeys : (fs.map fun x => kN x.1).map DL.keyOf = ((fs.map fun x => x.1).map fun (k : Nat) => (k : Int)).map D.int := by rw [List.map_map, List.map_map, List.map_map]; rfl
    refine ⟨(fs.map fun x => x.1).map fun (k : Nat) => (k : Int), by rw [hkeys]; rfl, by rw [List.length_map, List.length_map]; omega, fun ns' hp' hs' => ?_⟩
    obtain ⟨sf, s1, s2, rfl⟩ := sort_falls2 (W := ⟨n, m, bs, fs⟩) ok hp' hs'
    have hsn : (sf.map fun x => x.1).Nodup := (s1.map _).nodup_iff.mpr ok.nd
    rw [← dN_ints]
    refine dc_fm sf (fun x => dN x.1) (fun y => [some (.str x), some (.lst (ls.map .str)), some (dN n), some (dN m), some (.tup (bs.map dN)), some (.cell p), some (dN a), z0, some (dN y.1), z2, z3]) (fun x => kN x.1) fT (by rw [List.map_map]; rfl) (by rw [s1.length_eq]; show fs.length ≤ _; omega) (nodup_kN (k := fun x : Nat × Nat × List Nat => x.1) hsn) (fun _ _ => rfl) (fun _ _ K h => h) (fun x hx K hK => hK) (fun x hx K hK => ?_) ?_
    · conv => whnf
      rw [l1']
      conv => whnf
      refine ⟨fT x, ?_, hK⟩
      have := getK_map (fun x : Nat × Nat × List Nat => x.1) fT x.1 fs
      rw [find_nd ok.nd (s1.mem_iff.mp hx)] at this
      exact this
    · conv => whnf
      refine ⟨lines _ (by show 4 ≤ _; omega), M, sub1, qf sf s1 s2⟩
)
end
end K85

/-! part R16 -/
set_option maxHeartbeats 0
namespace K85
open PySem PySem.Spec PyProof.Rows L2 DL
section
variable {P : Program} {w : World} {K : PySem.W.Frag} {mg : Str → Option Value} {base : Heap}
theorem log_small {k : Nat} (h : k < 1000) : ((k : Nat) : Int).natAbs.log2 < 1920 := by
  show k.log2 < 1920
  have : k.log2 ≤ k := Nat.log2_le_self k
  omega
theorem plus_cond {l : List Nat} (hl : l.length ≤ 40) (h : ∀ y ∈ l, y < 1000) : ((l.map num).map (·.length)).sum + (l.map num).length * (Str.ofString "+").length ≤ 16777216 := by
  rw [List.map_map, List.length_map]
  have h1 := sum_le (fun x => (num x).length) 3 l fun x hx => (num_len (h x hx)).2
  have h2 : (Str.ofString "+").length = 1 := by rw [TL.len_tl, tl_pls]; rfl
  rw [h2]
  have : (l.map ((fun x => x.length) ∘ num)).sum ≤ l.length * 3 := h1
  omega
def sp_lot_text : SpD := fun ds M Q => ∃ l : List Nat, ds = [.tup (l.map dN)] ∧ l.length ≤ 40 ∧ (∀ y ∈ l, y < 1000) ∧ Q (.str (lotT l)) M
theorem len_lot_text : ∀ ds M Q, sp_lot_text ds M Q → ds.length = 1 := by
  rintro _ _ _ ⟨_, rfl, _⟩; rfl
theorem ok_lot_text (T : Txt K mg) : FnD P w K mg base 1 T.lot_text.f T.lot_text.fd ["lot"] sp_lot_text := okDk T.lot_text.F sc_lot_text len_lot_text (fun cdv A outer s H E hr =>
        (dss_one (ds_ret (de_if (dt_truth (dv 0)) (de_join de_str (de_lc (own := [("one", 1)]) rfl sc_lot_text.nd (di_tup (dv 0)) (blkOk_by (by kernel_rfl)) (fun _ _ _ _ _ => pg_name (i := 1) sc_lot_text.nd rfl (by first | exact Or.inl rfl | exact Or.inr rfl)) (gw_name (by decide)) (fun _ _ _ _ _ => dts_nil) (fun _ _ _ _ _ => (de_callTy c_str (by rfl) T.b_str boot_str (da_cons (dv 1) da_nil))))) de_str))))
      (by
    rintro _ M Q ⟨l, rfl, hl, hy, q⟩
    cases l with
    | nil =>
      refine ⟨false, rfl, ?_⟩
      refine dF rfl ?_
      exact ret_ok q
    | cons a r =>
      refine ⟨true, rfl, ?_⟩
      refine dT rfl ?_
      conv => whnf
      refine lc_m (a :: r) dN (fun y => [some (.tup ((a :: r).map dN)), some (dN y)]) (fun y => .str (num y)) rfl (by omega) (fun _ _ => rfl) (fun y hyy K hK => ?_) ?_
      · conv => whnf
        exact ⟨log_small (hy y hyy), hK⟩
      · refine ⟨(a :: r).map num, .inl (by rw [List.map_map]; rfl), plus_cond hl hy, ?_⟩
        refine ret_ok ?_
        unfold lotT at q
        rw [if_neg (by simp)] at q
        exact q
)
def sp_law_lot_text : SpD := fun ds M Q => ∃ l : List Nat, ds = [nsD l] ∧ l.length ≤ 40 ∧ (∀ y ∈ l, y < 1000) ∧ Q (.str (lotT l)) M
theorem len_law_lot_text : ∀ ds M Q, sp_law_lot_text ds M Q → ds.length = 1 := by
  rintro _ _ _ ⟨_, rfl, _⟩; rfl
theorem ok_law_lot_text (T : Txt K mg) : FnD P w K mg base 1 T.law_lot_text.f T.law_lot_text.fd ["lot"] sp_law_lot_text := okDk T.law_lot_text.F sc_law_lot_text len_law_lot_text (fun cdv A outer s H E hr =>
        (dss_one (ds_ret (de_if (dt_truth (dv 0)) (de_join de_str (de_lc (own := [("j", 1)]) rfl sc_law_lot_text.nd (di_list (dv 0)) (blkOk_by (by kernel_rfl)) (fun _ _ _ _ _ => pg_name (i := 1) sc_law_lot_text.nd rfl (by first | exact Or.inl rfl | exact Or.inr rfl)) (gw_name (by decide)) (fun _ _ _ _ _ => dts_nil) (fun _ _ _ _ _ => (de_callTy c_str (by rfl) T.b_str boot_str (da_cons (dv 1) da_nil))))) de_str))))
      (by
    rintro _ M Q ⟨l, rfl, hl, hy, q⟩
    cases l with
    | nil =>
      refine ⟨false, rfl, ?_⟩
      refine dF rfl ?_
      exact ret_ok q
    | cons a r =>
      refine ⟨true, rfl, ?_⟩
      refine dT rfl ?_
      conv => whnf
      refine lc_m (a :: r) dN (fun y => [some (nsD (a :: r)), some (dN y)]) (fun y => .str (num y)) rfl (by omega) (fun _ _ => rfl) (fun y hyy K hK => ?_) ?_
      · conv => whnf
        exact ⟨log_small (hy y hyy), hK⟩
      · refine ⟨(a :: r).map num, .inl (by rw [List.map_map]; rfl), plus_cond hl hy, ?_⟩
        refine ret_ok ?_
        unfold lotT at q
        rw [if_neg (by simp)] at q
        exact q
)
theorem l_falls : line [Str.ofString "falls"] = Str.ofString "falls" := by refine TL.ext_tl ?_; unfold line; rw [tl_join2]; rfl
theorem l_done : line [Str.ofString "done"] = Str.ofString "done" := by refine TL.ext_tl ?_; unfold line; rw [tl_join2]; rfl
theorem l_two (a b : String) (hb : b.toList = a.toList ++ [' ']) (k : Str) : line [Str.ofString a, k] = Str.ofString b ++ k := by
  refine TL.ext_tl ?_
  unfold line
  rw [tl_join2, tl_spc, TL.tl_append]
  show TL.tl (Str.ofString a) ++ ([32] ++ TL.tl k) = _
  rw [TL.tl_ofString, TL.tl_ofString, hb, List.map_append, List.append_assoc]
  rfl
theorem l_many (a b : String) (hb : b.toList = a.toList ++ [' ']) {ks : List Str} (h : ks ≠ []) : line (Str.ofString a :: ks) = Str.ofString b ++ Txt.join spc ks := by
  refine TL.ext_tl ?_
  unfold line
  rw [tl_join2, tl_spc, TL.tl_append, tl_join2, tl_spc]
  cases ks with
  | nil => exact absurd rfl h
  | cons x r =>
    show TL.tl (Str.ofString a) ++ ([32] ++ TL.joinL [32] (TL.tl x :: r.map TL.tl)) = _
    rw [TL.tl_ofString, TL.tl_ofString, hb, List.map_append, List.append_assoc]
    rfl
theorem tl_fall : TL.tl (Str.ofString "fall ") = TL.tl (Str.ofString "fall") ++ [32] := by rw [TL.tl_ofString, TL.tl_ofString]; rfl
theorem tl_sp : TL.tl (Str.ofString " ") = [32] := tl_spc
theorem l_fall (x : Nat × Nat × List Nat) : line (ftok x) = ((((Str.ofString "fall " ++ num x.1) ++ Str.ofString " ") ++ num x.2.1) ++ Str.ofString " ") ++ lotT x.2.2 := by
  refine TL.ext_tl ?_
  unfold line ftok
  rw [tl_join2, tl_spc]
  simp only [TL.tl_append, tl_fall, tl_sp]
  show TL.tl (Str.ofString "fall") ++ ([32] ++ (TL.tl (num x.1) ++ ([32] ++ (TL.tl (num x.2.1) ++ ([32] ++ TL.tl (lotT x.2.2)))))) = _
  simp only [List.append_assoc]
theorem e_app (x : Str) : Str.empty ++ x = x := by
  refine TL.ext_tl ?_
  rw [TL.tl_append]
  rfl
theorem join_app1 {W : Wd} : wtext W = Txt.join nl ((toks W).map line) ++ nl := rfl
theorem beg_cond {W : Wd} (ok : W.Ok) : ((W.begins.map num).map (·.length)).sum + (W.begins.map num).length * (Str.ofString " ").length ≤ 16777216 := by
  rw [List.map_map, List.length_map]
  have h1 := sum_le (fun x => (num x).length) 3 W.begins fun x hx => (num_len (by rcases ok.b01 x hx with rfl | rfl <;> decide)).2
  have h2 : (Str.ofString " ").length = 1 := by rw [TL.len_tl, tl_spc]; rfl
  rw [h2]
  have h3 : (W.begins.map ((fun x => x.length) ∘ num)).sum ≤ W.begins.length * 3 := h1
  have := ok.bl
  have := ok.n40
  omega
theorem num_len2 {k : Nat} (h : k < 1000) : (num k).length ≤ 3 := (num_len h).2
theorem wlen (s : String) (h : s.toList.length ≤ 20) : (Str.ofString s).length ≤ 20 := by rw [TL.len_tl, TL.tl_ofString, List.length_map]; exact h
theorem app_len (a b : Str) : (a ++ b).length = a.length + b.length := by rw [TL.len_tl, TL.tl_append, List.length_append, ← TL.len_tl, ← TL.len_tl]
def sp_write_falls : SpD := fun ds M Q => ∃ W : Wd, ds = [dN W.n, dN W.most, .tup (W.begins.map dN), .dic (W.fs.map fun x => kN x.1) (W.fs.map fT)] ∧ W.Ok ∧ Q (.str (wtext W)) M
theorem len_write_falls : ∀ ds M Q, sp_write_falls ds M Q → ds.length = 4 := by
  rintro _ _ _ ⟨_, rfl, _⟩; rfl
theorem bpos {W : Wd} (ok : W.Ok) : W.begins.map num ≠ [] := fun e => by
  have h1 : W.begins = [] := List.map_eq_nil_iff.mp e
  have := ok.bl
  have := ok.n2
  rw [h1] at *
  simp at *
  omega
theorem ok_write_falls (T : Txt K mg) : FnD P w K mg base 2 T.write_falls.f T.write_falls.fd ["houses", "most", "begins", "falls"] sp_write_falls := okDk T.write_falls.F sc_write_falls len_write_falls (fun cdv A outer s H E hr =>
        (dss_cons (ds_set (i := 4) sc_write_falls.nd (de_lstC (da_cons de_str (da_cons (de_joined (.cons de_str (.cons (de_fmt (dv 0)) PJD.nil))) (da_cons (de_joined (.cons de_str (.cons (de_fmt (dv 1)) PJD.nil))) da_nil)))))
      (dss_cons (ds_expr (de_app (dv 4) (de_op o_cats de_str (de_join de_str (de_lc (own := [("bit", 5)]) rfl sc_write_falls.nd (di_tup (dv 2)) (blkOk_by (by kernel_rfl)) (fun _ _ _ _ _ => pg_name (i := 5) sc_write_falls.nd rfl (by first | exact Or.inl rfl | exact Or.inr rfl)) (gw_name (by decide)) (fun _ _ _ _ _ => dts_nil) (fun _ _ _ _ _ => (de_callTy c_str (by rfl) T.b_str boot_str (da_cons (dv 5) da_nil))))))))
      (dss_cons (ds_forItems PassesOwn.never rfl (dp_var 3) (dg_tup (n := 2) rfl (dgs_cons (dg_name (i := 6) sc_write_falls.nd) (dgs_cons (dg_tup (n := 2) rfl (dgs_cons (dg_name (i := 7) sc_write_falls.nd) (dgs_cons (dg_name (i := 8) sc_write_falls.nd) dgs_nil))) dgs_nil))) (dss_one (ds_expr (de_app (dv 4) (de_joined (.cons de_str (.cons (de_fmt (dv 6)) (.cons de_str (.cons (de_fmt (dv 7)) (.cons de_str (.cons (de_fmt (de_call (ok_lot_text T) (hr.mono (by decide)) (by rfl) T.lot_text.g T.lot_text.F.kp T.lot_text.b (da_cons (dv 8) da_nil))) PJD.nil)))))))))))
      (dss_cons (ds_expr (de_app (dv 4) de_str))
      (dss_one (ds_ret (de_op o_cats (de_join de_str (dv 4)) de_str))))))))
      (by
    rintro _ M Q ⟨W, rfl, ok, q⟩
    have hb := big
    have n40 := ok.n40
    have hml := ok.ml
    have hfl : W.fs.length ≤ 39 := by have := ok.len; omega
    generalize hB : D.tup (W.begins.map dN) = B
    refine seq_cut (fun ρ' M' => ∃ p, M p = none ∧ M' = updM M p (.lst ([line [Str.ofString "falls"], line [Str.ofString "houses", num W.n], line [Str.ofString "most", num W.most]].map .str)) ∧ ρ' = [some (dN W.n), some (dN W.most), some B, some (.dic (W.fs.map fun x => kN x.1) (W.fs.map fT)), some (.cell p), none, none, none, none]) (fun N hN => ?_) ?_
    · have n1 := num_len2 (k := W.n) (by omega)
      have n2 := num_len2 (k := W.most) (by omega)
      have w1 := wlen "houses " (by decide)
      have w2 := wlen "most " (by decide)
      rw [l_falls, l_two "houses" "houses " (by decide), l_two "most" "most " (by decide)] at hN
      refine And.intro (by rw [e_app]; omega) ?_
      refine And.intro (log_small (by omega)) ?_
      refine And.intro (by rw [e_app, app_len]; show _ + (num W.n).length ≤ _; omega) ?_
      refine And.intro (by rw [e_app]; omega) ?_
      refine And.intro (log_small (by omega)) ?_
      refine And.intro (by rw [e_app, app_len]; show _ + (num W.most).length ≤ _; omega) ?_
      refine And.intro (lines _ (by show 3 ≤ _; omega)) ?_
      intro p hp
      refine hN _ _ ⟨p, hp, ?_, rfl⟩
      rw [e_app, e_app]
      rfl
    rintro _ _ ⟨p, hp, rfl, rfl⟩
    refine seq_cut (fun ρ' M' => M' = updM M p (.lst (((toks0 W).map line).map .str)) ∧ ∃ z, ρ' = [some (dN W.n), some (dN W.most), some B, some (.dic (W.fs.map fun x => kN x.1) (W.fs.map fT)), some (.cell p), z, none, none, none]) (fun N hN => ?_) ?_
    · subst hB
      conv => whnf
      refine ⟨⟨_, updM_same⟩, ?_⟩
      conv => whnf
      refine lc_m W.begins dN (fun b => [some (dN W.n), some (dN W.most), some (.tup (W.begins.map dN)), some (.dic (W.fs.map fun x => kN x.1) (W.fs.map fT)), some (.cell p), some (dN b), none, none, none]) (fun b => .str (num b)) rfl (by have := ok.bl; omega) (fun _ _ => rfl) (fun b hbm K hK => ?_) ?_
      · conv => whnf
        exact ⟨log_small (by rcases ok.b01 b hbm with rfl | rfl <;> decide), hK⟩
      have bc := beg_cond ok
      refine ⟨W.begins.map num, .inl (by rw [List.map_map]; rfl), bc, ?_⟩
      have jl := join_len (Str.ofString " ") (W.begins.map num)
      have w1 := wlen "begins " (by decide)
      have bc2 : ((W.begins.map num).map (·.length)).sum + (W.begins.map num).length * (Str.ofString " ").length ≤ 1000 := by
        rw [List.map_map, List.length_map]
        have h1 := sum_le (fun x => (num x).length) 3 W.begins fun x hx => (num_len (by rcases ok.b01 x hx with rfl | rfl <;> decide)).2
        have h2 : (Str.ofString " ").length = 1 := by rw [TL.len_tl, tl_spc]; rfl
        rw [h2]
        have h3 : (W.begins.map ((fun x => x.length) ∘ num)).sum ≤ W.begins.length * 3 := h1
        have := ok.bl
        omega
      refine And.intro (by omega) ?_
      refine ⟨_, updM_same, by show 3 < _; decide, ?_⟩
      refine hN _ _ ⟨?_, _, rfl⟩
      rw [updM_updM]
      congr 2
      show _ = [D.str (line [Str.ofString "falls"]), D.str (line [Str.ofString "houses", num W.n]), D.str (line [Str.ofString "most", num W.most]), D.str (line (Str.ofString "begins" :: W.begins.map num))]
      rw [l_many "begins" "begins " (by decide) (bpos ok)]
      rfl
    rintro _ _ ⟨rfl, z, rfl⟩
    refine seq_cut (fun ρ' M' => M' = updM M p (.lst (((toks0 W ++ W.fs.map ftok).map line).map .str)) ∧ ∃ z z1 z2 z3, ρ' = [some (dN W.n), some (dN W.most), some B, some (.dic (W.fs.map fun x => kN x.1) (W.fs.map fT)), some (.cell p), z, z1, z2, z3]) (fun N hN => ?_) ?_
    · refine ⟨_, _, rfl, ?_⟩
      refine loop_l W.fs (fun x => .tup [dN x.1, fT x]) (items_map (fun x : Nat × Nat × List Nat => x.1) fT W.fs) (fun t ρ' M' => M' = updM M p (.lst (((toks0 W ++ (W.fs.take t).map ftok).map line).map .str)) ∧ ∃ z z1 z2 z3, ρ' = [some (dN W.n), some (dN W.most), some B, some (.dic (W.fs.map fun x => kN x.1) (W.fs.map fT)), some (.cell p), z, z1, z2, z3]) ?_ ?_ ?_
      · exact ⟨by rw [List.take_zero, List.map_nil, List.append_nil], _, _, _, _, rfl⟩
      · rintro t x _ _ ex hx ⟨rfl, z, z1, z2, z3, rfl⟩
        have ht : t < W.fs.length := (List.getElem?_eq_some_iff.mp ex).1
        have hln : ∀ y ∈ x.2.2, y < 1000 := fun y hy => by have := (ok.ln x hx y hy).1; omega
        have h40 : x.2.2.length ≤ 40 := by have := ok.ll x hx; omega
        have hl := lot_len h40 hln
        have h1 := ok.hn x hx
        have h2 := ok.t1 x hx
        have n1 := num_len2 (k := x.1) (by omega)
        have n2 := num_len2 (k := x.2.1) (by omega)
        have w1 := wlen "fall " (by decide)
        have w2 := wlen " " (by decide)
        conv => whnf
        refine ⟨rfl, ?_⟩
        conv => whnf
        refine ⟨rfl, ?_⟩
        conv => whnf
        refine ⟨⟨_, updM_same⟩, ?_⟩
        refine And.intro (by rw [e_app]; omega) ?_
        refine And.intro (log_small (by omega)) ?_
        refine And.intro (by rw [e_app, app_len]; show _ + (num x.1).length ≤ _; omega) ?_
        refine And.intro (by rw [e_app, app_len, app_len]; show _ + (num x.1).length + _ ≤ _; omega) ?_
        refine And.intro (log_small (by omega)) ?_
        refine And.intro (by rw [e_app, app_len, app_len, app_len]; show _ + (num x.1).length + _ + (num x.2.1).length ≤ _; omega) ?_
        refine And.intro (by rw [e_app, app_len, app_len, app_len, app_len]; show _ + (num x.1).length + _ + (num x.2.1).length + _ ≤ _; omega) ?_
        refine ⟨x.2.2, rfl, h40, hln, ?_⟩
        conv => whnf
        refine ⟨by omega, ?_⟩
        refine And.intro (by rw [e_app, app_len, app_len, app_len, app_len, app_len]; show _ + (num x.1).length + _ + (num x.2.1).length + _ + _ ≤ _; omega) ?_
        refine ⟨_, updM_same, by rw [List.length_map, List.length_map, List.length_append, List.length_map, List.length_take]; show 4 + _ < _; omega, ?_⟩
        refine ⟨?_, _, _, _, _, rfl⟩
        rw [updM_updM]
        congr 2
        rw [List.take_succ, ex, e_app]
        simp only [List.map_append, Option.toList_some, List.map_cons, List.map_nil]
        rw [l_fall, List.append_assoc]
      · rintro _ _ ⟨rfl, z, z1, z2, z3, rfl⟩
        rw [List.take_length] 
        exact hN _ _ ⟨rfl, _, _, _, _, rfl⟩
    rintro _ _ ⟨rfl, z, z1, z2, z3, rfl⟩
    refine seq_cut (fun ρ' M' => M' = updM M p (.lst (((toks W).map line).map .str)) ∧ ∃ z z1 z2 z3, ρ' = [some (dN W.n), some (dN W.most), some B, some (.dic (W.fs.map fun x => kN x.1) (W.fs.map fT)), some (.cell p), z, z1, z2, z3]) (fun N hN => ?_) ?_
    · conv => whnf
      refine ⟨⟨_, updM_same⟩, ?_⟩
      refine ⟨_, updM_same, by rw [List.length_map, List.length_map, List.length_append, List.length_map]; show 4 + _ < _; omega, ?_⟩
      refine hN _ _ ⟨?_, _, _, _, _, rfl⟩
      rw [updM_updM]
      congr 2
      unfold toks
      rw [← List.append_assoc]
      simp only [List.map_append, List.map_cons, List.map_nil]
      rw [l_done]
    rintro _ _ ⟨rfl, z, z1, z2, z3, rfl⟩
    conv => whnf
    have ls := lines_sum ok
    refine ⟨(toks W).map line, .inl updM_same, by show _ + _ * nl.length ≤ _; omega, ?_⟩
    have tl := text_len ok
    refine And.intro ?_ ?_
    · have : (Txt.join nl ((toks W).map line) ++ nl).length ≤ 500001 := tl
      rw [app_len] at this
      show (Txt.join nl ((toks W).map line)).length + nl.length ≤ _
      omega
    refine ⟨M, ?_, q⟩
    intro y d e
    rw [updM_ne (ne_cell e hp)]
    exact e
)
end
end K85

/-! part G17 -/
set_option maxHeartbeats 0
namespace K85
open PySem PySem.Spec PyProof.Rows L2 DL
section
variable {P : Program} {w : World} {K : PySem.W.Frag} {mg : Str → Option Value} {base : Heap}
def Wd.re (W : Wd) (sf : List (Nat × Nat × List Nat)) : Wd := { W with fs := sf }
theorem Wd.Ok.re {W : Wd} (ok : W.Ok) {sf : List (Nat × Nat × List Nat)} (hp : sf.Perm W.fs) : (W.re sf).Ok where
  n2 := ok.n2
  n40 := ok.n40
  ml := ok.ml
  bl := ok.bl
  b01 := ok.b01
  nd := (hp.map _).nodup_iff.mpr ok.nd
  len := by show sf.length ≤ _; rw [hp.length_eq]; exact ok.len
  hn := fun x hx => ok.hn x (hp.mem_iff.mp hx)
  t1 := fun x hx => ok.t1 x (hp.mem_iff.mp hx)
  srt := fun x hx => ok.srt x (hp.mem_iff.mp hx)
  ln := fun x hx => ok.ln x (hp.mem_iff.mp hx)
  ll := fun x hx => ok.ll x (hp.mem_iff.mp hx)
structure WDic (ks : List Key) (es : List D) (W : Wd) : Prop where
  n : getK ks es (.inr (Str.ofString "n")) = some (dN W.n)
  most : getK ks es (.inr (Str.ofString "most")) = some (dN W.most)
  beg : getK ks es (.inr (Str.ofString "begins")) = some (.lst (W.begins.map dN))
  fl : getK ks es (.inr (Str.ofString "falls")) = some (fsD W.fs)
theorem wD_dic (W : Wd) : WDic wks [dN W.n, dN W.most, .lst (W.begins.map dN), fsD W.fs] W := ⟨gW_n, gW_most, gW_begins, gW_falls⟩
def sp_law_fall_text : SpD := fun ds M Q => ∃ (W : Wd) (ks : List Key) (es : List D), ds = [.dic ks es] ∧ WDic ks es W ∧ W.Ok ∧ ∀ sf : List (Nat × Nat × List Nat), sf.Perm W.fs → (sf.map fun x => x.1).Pairwise (· < ·) → Q (.str (wtext (W.re sf))) M
theorem len_law_fall_text : ∀ ds M Q, sp_law_fall_text ds M Q → ds.length = 1 := by
  rintro _ _ _ ⟨_, _, _, rfl, _⟩; rfl
/-- the falls in the order of their houses -/
theorem sort_falls {W : Wd} (ok : W.Ok) {ns : List Int} (hp : ns.Perm ((W.fs.map fun x => x.1).map fun (k : Nat) => (k : Int))) (hs : ns.Pairwise (· ≤ ·)) :
    ∃ sf : List (Nat × Nat × List Nat), sf.Perm W.fs ∧ (sf.map fun x => x.1).Pairwise (· < ·) ∧ ns = (sf.map fun x => x.1).map fun (k : Nat) => (k : Int) := by
  let g : Int → Nat × Nat × List Nat := fun i => (W.fall i.toNat).getD (0, 0, [])
  have hg : ∀ x ∈ W.fs, g ((x.1 : Nat) : Int) = x := fun x hx => by
    show (W.fall ((x.1 : Nat) : Int).toNat).getD _ = x
    rw [Int.toNat_natCast, Wd.fall_of ok.nd hx]
    rfl
  have h1 : (ns.map g).Perm W.fs := by
    have := hp.map g
    rw [List.map_map, List.map_map] at this
    rw [show W.fs.map ((g ∘ fun (k : Nat) => (k : Int)) ∘ fun x => x.1) = W.fs from by
      conv => rhs; rw [← List.map_id W.fs]
      exact List.map_congr_left fun x hx => hg x hx] at this
    exact this
  have h2 : ns = ((ns.map g).map fun x => x.1).map fun (k : Nat) => (k : Int) := by
    rw [List.map_map, List.map_map]
    conv => lhs; rw [← List.map_id ns]
    refine List.map_congr_left fun i hi => ?_
    obtain ⟨k, hk, rfl⟩ := List.mem_map.mp (hp.mem_iff.mp hi)
    obtain ⟨x, hx, rfl⟩ := List.mem_map.mp hk
    show ((x.1 : Nat) : Int) = (((g ((x.1 : Nat) : Int)).1 : Nat) : Int)
    rw [hg x hx]
  refine ⟨ns.map g, h1, ?_, h2⟩
  have hnd : ((ns.map g).map fun x => x.1).Nodup := (h1.map _).nodup_iff.mpr ok.nd
  rw [h2, List.pairwise_map] at hs
  exact (List.pairwise_and_iff.mpr ⟨hs, hnd⟩).imp fun h => by omega
theorem ok_law_fall_text (T : Txt K mg) : FnD P w K mg base 2 T.law_fall_text.f T.law_fall_text.fd ["world"] sp_law_fall_text := okDk T.law_fall_text.F sc_law_fall_text len_law_fall_text (fun cdv A outer s H E hr =>
        (dss_cons (ds_set (i := 1) sc_law_fall_text.nd (de_lstC (da_cons de_str (da_cons (de_op o_cats de_str (de_callTy c_str (by rfl) T.b_str boot_str (da_cons (de_get (hu_of (k := 0) (hr.mono (by decide))) (dv 0) de_str) da_nil))) (da_cons (de_op o_cats de_str (de_callTy c_str (by rfl) T.b_str boot_str (da_cons (de_get (hu_of (k := 0) (hr.mono (by decide))) (dv 0) de_str) da_nil))) (da_cons (de_op o_cats de_str (de_join de_str (de_lc (own := [("b", 2)]) rfl sc_law_fall_text.nd (di_list (de_get (hu_of (k := 0) (hr.mono (by decide))) (dv 0) de_str)) (blkOk_by (by kernel_rfl)) (fun _ _ _ _ _ => pg_name (i := 2) sc_law_fall_text.nd rfl (by first | exact Or.inl rfl | exact Or.inr rfl)) (gw_name (by decide)) (fun _ _ _ _ _ => dts_nil) (fun _ _ _ _ _ => (de_callTy c_str (by rfl) T.b_str boot_str (da_cons (dv 2) da_nil)))))) da_nil))))))
      (dss_cons (ds_for PassesOwn.never rfl (di_list (de_callB (c_sortedD rfl) (by rfl) T.b_sorted boot_sorted (da_cons (de_get (hu_of (k := 0) (hr.mono (by decide))) (dv 0) de_str) da_nil))) (dg_name (i := 3) sc_law_fall_text.nd) (dss_one (ds_expr (de_app (dv 1) (de_op o_cats (de_op o_cats (de_op o_cats (de_op o_cats (de_op o_cats de_str (de_callTy c_str (by rfl) T.b_str boot_str (da_cons (dv 3) da_nil))) de_str) (de_callTy c_str (by rfl) T.b_str boot_str (da_cons (de_ix (de_get (hu_of (k := 0) (hr.mono (by decide))) (de_get (hu_of (k := 0) (hr.mono (by decide))) (dv 0) de_str) (dv 3)) de_int) da_nil))) de_str) (de_call (ok_law_lot_text T) (hr.mono (by decide)) (by rfl) T.law_lot_text.g T.law_lot_text.F.kp T.law_lot_text.b (da_cons (de_ix (de_get (hu_of (k := 0) (hr.mono (by decide))) (de_get (hu_of (k := 0) (hr.mono (by decide))) (dv 0) de_str) (dv 3)) de_int) da_nil)))))))
      (dss_one (ds_ret (de_op o_cats (de_join de_str (de_op o_catl (dv 1) (de_lst (da_cons de_str da_nil)))) de_str))))))
      (by
    rintro _ M Q ⟨W, ks, es, rfl, wd, ok, q⟩
    have hb := big
    have n40 := ok.n40
    have hml := ok.ml
    have hfl : W.fs.length ≤ 39 := by have := ok.len; omega
    refine seq_cut (fun ρ' M' => ∃ p, M p = none ∧ M' = updM M p (.lst (((toks0 W).map line).map .str)) ∧ ∃ z, ρ' = [some (.dic ks es), some (.cell p), z, none]) (fun N hN => ?_) ?_
    · have n1 := num_len2 (k := W.n) (by omega)
      have n2 := num_len2 (k := W.most) (by omega)
      have w1 := wlen "houses " (by decide)
      have w2 := wlen "most " (by decide)
      have w3 := wlen "begins " (by decide)
      unfold toks0 at hN
      simp only [List.map_cons, List.map_nil] at hN
      rw [l_falls, l_two "houses" "houses " (by decide), l_two "most" "most " (by decide), l_many "begins" "begins " (by decide) (bpos ok)] at hN
      conv => whnf
      refine ⟨_, wd.n, ?_⟩
      conv => whnf
      refine ⟨log_small (by omega), ?_⟩
      refine And.intro (show _ + (num W.n).length ≤ _ by omega) ?_
      conv => whnf
      refine ⟨_, wd.most, ?_⟩
      conv => whnf
      refine ⟨log_small (by omega), ?_⟩
      refine And.intro (show _ + (num W.most).length ≤ _ by omega) ?_
      conv => whnf
      refine ⟨_, wd.beg, ?_⟩
      conv => whnf
      refine lc_m W.begins dN (fun b => [some (.dic ks es), none, some (dN b), none]) (fun b => .str (num b)) rfl (by have := ok.bl; omega) (fun _ _ => rfl) (fun b hbm K hK => ?_) ?_
      · conv => whnf
        exact ⟨log_small (by rcases ok.b01 b hbm with rfl | rfl <;> decide), hK⟩
      have bc := beg_cond ok
      refine ⟨W.begins.map num, .inl (by rw [List.map_map]; rfl), bc, ?_⟩
      have jl := join_len (Str.ofString " ") (W.begins.map num)
      have bc2 : ((W.begins.map num).map (·.length)).sum + (W.begins.map num).length * (Str.ofString " ").length ≤ 1000 := by
        rw [List.map_map, List.length_map]
        have h1 := sum_le (fun x => (num x).length) 3 W.begins fun x hx => (num_len (by rcases ok.b01 x hx with rfl | rfl <;> decide)).2
        have h2 : (Str.ofString " ").length = 1 := by rw [TL.len_tl, tl_spc]; rfl
        rw [h2]
        have h3 : (W.begins.map ((fun x => x.length) ∘ num)).sum ≤ W.begins.length * 3 := h1
        have := ok.bl
        omega
      refine And.intro (by omega) ?_
      refine And.intro (lines _ (by show 4 ≤ _; omega)) ?_
      intro p hp
      exact hN _ _ ⟨p, hp, rfl, _, rfl⟩
    rintro _ _ ⟨p, hp, rfl, z, rfl⟩
    refine seq_cut (fun ρ' M' => ∃ sf : List (Nat × Nat × List Nat), sf.Perm W.fs ∧ (sf.map fun x => x.1).Pairwise (· < ·) ∧ M' = updM M p (.lst (((toks0 W ++ sf.map ftok).map line).map .str)) ∧ ∃ z z1, ρ' = [some (.dic ks es), some (.cell p), z, z1]) (fun N hN => ?_) ?_
    · conv => whnf
      refine ⟨_, wd.fl, ?_⟩
      conv => whnf
      refine ⟨(W.fs.map fun x => x.1).map fun (k : Nat) => (k : Int), W.fs.map fD, by rw [show ((W.fs.map fun x => x.1).map fun (k : Nat) => (k : Int)).map Sum.inl = W.fs.map fun x => kN x.1 from by rw [List.map_map, List.map_map]; rfl]; rfl, by rw [List.length_map, List.length_map]; omega, fun ns' hp' hs' => ?_⟩
      obtain ⟨sf, s1, s2, rfl⟩ := sort_falls ok hp' hs'
      rw [← dN_ints]
      refine loop_l sf (fun x => dN x.1) (by rw [List.map_map]; rfl) (fun t ρ' M' => M' = updM M p (.lst (((toks0 W ++ (sf.take t).map ftok).map line).map .str)) ∧ ∃ z z1, ρ' = [some (.dic ks es), some (.cell p), z, z1]) ?_ ?_ ?_
      · exact ⟨by rw [List.take_zero, List.map_nil, List.append_nil], _, _, rfl⟩
      · rintro t x _ _ ex hx ⟨rfl, z, z1, rfl⟩
        have hx' := s1.mem_iff.mp hx
        have hsl : sf.length ≤ 39 := by rw [s1.length_eq]; exact hfl
        have hln : ∀ y ∈ x.2.2, y < 1000 := fun y hy => by have := (ok.ln x hx' y hy).1; omega
        have h40 : x.2.2.length ≤ 40 := by have := ok.ll x hx'; omega
        have hl := lot_len h40 hln
        have h1 := ok.hn x hx'
        have h2 := ok.t1 x hx'
        have n1 := num_len2 (k := x.1) (by omega)
        have n2 := num_len2 (k := x.2.1) (by omega)
        have w1 := wlen "fall " (by decide)
        have w2 := wlen " " (by decide)
        have gk : getK (W.fs.map fun x => kN x.1) (W.fs.map fD) (kN x.1) = some (fD x) := by rw [getK_fs, Wd.fall_of ok.nd hx']; rfl
        conv => whnf
        refine ⟨⟨_, updM_same⟩, ?_⟩
        conv => whnf
        refine ⟨log_small (by omega), ?_⟩
        refine And.intro (show _ + (num x.1).length ≤ _ by omega) ?_
        refine And.intro (show (_ ++ num x.1).length + _ ≤ _ by rw [app_len]; omega) ?_
        conv => whnf
        refine ⟨_, wd.fl, ?_⟩
        conv => whnf
        refine ⟨fD x, gk, ?_⟩
        conv => whnf
        refine ⟨dN x.2.1, rfl, ?_⟩
        conv => whnf
        refine ⟨log_small (by omega), ?_⟩
        refine And.intro (show ((_ ++ num x.1) ++ _).length + (num x.2.1).length ≤ _ by rw [app_len, app_len]; omega) ?_
        refine And.intro (show (((_ ++ num x.1) ++ _) ++ num x.2.1).length + _ ≤ _ by rw [app_len, app_len, app_len]; omega) ?_
        conv => whnf
        refine ⟨_, wd.fl, ?_⟩
        conv => whnf
        refine ⟨fD x, gk, ?_⟩
        conv => whnf
        refine ⟨nsD x.2.2, rfl, ?_⟩
        refine ⟨x.2.2, rfl, h40, hln, ?_⟩
        refine And.intro (show ((((_ ++ num x.1) ++ _) ++ num x.2.1) ++ _).length + (lotT x.2.2).length ≤ _ by rw [app_len, app_len, app_len, app_len]; omega) ?_
        refine ⟨_, updM_same, by rw [List.length_map, List.length_map, List.length_append, List.length_map, List.length_take]; show 4 + _ < _; omega, ?_⟩
        refine ⟨?_, _, _, rfl⟩
        rw [updM_updM]
        congr 2
        rw [List.take_succ, ex]
        simp only [List.map_append, Option.toList_some, List.map_cons, List.map_nil]
        rw [l_fall, List.append_assoc]
      · rintro _ _ ⟨rfl, z, z1, rfl⟩
        rw [List.take_length]
        exact hN _ _ ⟨sf, s1, s2, rfl, _, _, rfl⟩
    rintro _ _ ⟨sf, s1, s2, rfl, z, z1, rfl⟩
    have l1 : look (updM M p (.lst (((toks0 W ++ sf.map ftok).map line).map .str))) (.cell p) = some (.lst (((toks0 W ++ sf.map ftok).map line).map .str)) := updM_same
    have okr := ok.re s1
    have hT : ((toks0 W ++ sf.map ftok).map line).map D.str ++ [D.str (Str.ofString "done")] = ((toks (W.re sf)).map line).map .str := by
      unfold toks
      rw [← List.append_assoc]
      simp only [List.map_append, List.map_cons, List.map_nil]
      rw [l_done]
      rfl
    conv => whnf
    refine ⟨lines _ (by show 1 ≤ _; omega), ?_⟩
    conv => whnf
    rw [l1]
    conv => whnf
    have hsl : sf.length ≤ 39 := by rw [s1.length_eq]; exact hfl
    refine ⟨by rw [List.length_map, List.length_map, List.length_append, List.length_map]; show 4 + _ + 1 ≤ _; omega, ?_⟩
    rw [hT]
    conv => whnf
    have ls := lines_sum okr
    refine ⟨(toks (W.re sf)).map line, .inl rfl, by show _ + _ * nl.length ≤ _; omega, ?_⟩
    have tl := text_len okr
    refine And.intro ?_ ?_
    · have : (Txt.join nl ((toks (W.re sf)).map line) ++ nl).length ≤ 500001 := tl
      rw [app_len] at this
      show (Txt.join nl ((toks (W.re sf)).map line)).length + nl.length ≤ _
      omega
    refine ⟨M, ?_, q sf s1 s2⟩
    intro y d e
    rw [updM_ne (ne_cell e hp)]
    exact e
)
end
end K85

/-! part G18 -/
set_option maxHeartbeats 0
namespace K85
open PySem PySem.Spec PyProof.Rows L2 DL
section
variable {P : Program} {w : World} {K : PySem.W.Frag} {mg : Str → Option Value} {base : Heap}
theorem putFD_snoc {m : Str} {d : D} : ∀ {fs : List Str} {ds : List D}, m ∉ fs → fs.length = ds.length → putFD m d fs ds = (fs ++ [m], ds ++ [d])
  | [], [], _, _ => rfl
  | [], _ :: _, _, h => by cases h
  | _ :: _, [], _, h => by cases h
  | a :: fs, x :: ds, h, hl => by
    unfold putFD
    rw [if_neg (fun e => h (by rw [e]; exact List.mem_cons_self)), putFD_snoc (fun z => h (List.mem_cons_of_mem _ z)) (by simpa using hl)]
    rfl
theorem putKD_snoc2 {k : Key} {d : D} {ks : List Key} {ds : List D} (h : k ∉ ks) (hl : ks.length = ds.length) : putKD k d ks ds = (ks ++ [k], ds ++ [d]) := putKD_new h hl
/-- no cell of M points out of M -/
def ClosedM (M : Mp) : Prop := ∀ q d, M q = some d → ∀ (F : Addr → Bool) (M' : Mp), (∀ p, F p = true → M p = none) → subC F M' d = d
def sp_FallRun_init (T : Txt K mg) : SpX := fun ds M Q XE => (∃ (s : Addr) (x : Str) (M0 : Mp), ds = [.cell s, .str x] ∧ M0 s = none ∧ M = updM M0 s (.ins T.FallRun.C [] []) ∧ ClosedM M0 ∧ TxOk x ∧
    rdX T XE M0 (rdT x) fun W => ∀ sf : List (Nat × Nat × List Nat), sf.Perm W.fs → (sf.map fun x => x.1).Pairwise (· < ·) → ∀ R : Run (W.re sf), R.tx = wtext (W.re sf) → Q .non (updM M0 s (R.d T.FallRun.C))) ∨
  ∃ (s : Addr) (y : D) (M0 : Mp), ds = [.cell s, y] ∧ M0 s = none ∧ M = updM M0 s (.ins T.FallRun.C [] []) ∧ noTx T.FallRun.C M y ∧ bfX T XE 0 (sF "form") M0
theorem len_FallRun_init (T : Txt K mg) : ∀ ds M Q XE, sp_FallRun_init T ds M Q XE → ds.length = 2 := by
  rintro _ _ _ _ (⟨_, _, _, rfl, _⟩ | ⟨_, _, _, rfl, _⟩) <;> rfl
def lotOf (W : Wd) (h : Nat) : List Nat := match W.fall h with
  | some x => x.2.2
  | none => []
theorem lotOf_mem {W : Wd} (ok : W.Ok) {x : Nat × Nat × List Nat} (hx : x ∈ W.fs) : lotOf W x.1 = x.2.2 := by unfold lotOf; rw [Wd.fall_of ok.nd hx]
theorem ok_FallRun_init (T : Txt K mg) : FnX P w K mg base 5 T.FallRun.init.f T.FallRun.init.fd ["self", "text"] (sp_FallRun_init T) := okX T.FallRun.init.F sc_FallRun_init (len_FallRun_init T) (fun cdv A outer s H E hr =>
        (ssx_cons (sx_asg (ex_call (ok_read_falls T) (hr.mono (by decide)) (by rfl) T.read_falls.g T.read_falls.F.kp T.read_falls.b (ax_cons (ex_ofn (dv 1)) ax_nil)) (dg_tup (n := 4) rfl (dgs_cons (dg_name (i := 2) sc_FallRun_init.nd) (dgs_cons (dg_name (i := 3) sc_FallRun_init.nd) (dgs_cons (dg_name (i := 4) sc_FallRun_init.nd) (dgs_cons (dg_name (i := 5) sc_FallRun_init.nd) dgs_nil))))))
      (ssx_ofn (dss_cons (ds_fld T.FallRun.cl T.FallRun.n_text (dv 0) (de_call (ok_write_falls T) (hr.mono (by decide)) (by rfl) T.write_falls.g T.write_falls.F.kp T.write_falls.b (da_cons (dv 2) (da_cons (dv 3) (da_cons (dv 4) (da_cons (dv 5) da_nil))))))
      (dss_cons (ds_fld T.FallRun.cl T.FallRun.n_houses (dv 0) (dv 2))
      (dss_cons (ds_fld T.FallRun.cl T.FallRun.n_most (dv 0) (dv 3))
      (dss_cons (ds_fld T.FallRun.cl T.FallRun.n_begins (dv 0) (dv 4))
      (dss_cons (ds_fld T.FallRun.cl T.FallRun.n_falls_ (dv 0) (dv 5))
      (dss_cons (ds_fld T.FallRun.cl T.FallRun.n_heard_ (dv 0) (de_dcItems (own := [("house", 6), ("fall", 7)]) rfl sc_FallRun_init.nd (dp_var 5) (blkOk_by (by kernel_rfl)) (fun _ _ _ _ _ => pg_tup rfl (pgs_cons (pg_name (i := 6) sc_FallRun_init.nd rfl (by first | exact Or.inl rfl | exact Or.inr rfl)) (pgs_cons (pg_name (i := 7) sc_FallRun_init.nd rfl (by first | exact Or.inl rfl | exact Or.inr rfl)) pgs_nil))) (gw_pair (by decide) (by decide)) (fun _ _ _ _ _ => dts_nil) (fun _ _ _ _ _ => (dv 6)) (fun _ _ _ _ _ => (de_call (ok_mask_of T) (hr.mono (by decide)) (by rfl) T.mask_of.g T.mask_of.F.kp T.mask_of.b (da_cons (de_ix (dv 7) de_int) da_nil)))))
      (dss_cons (ds_fld T.FallRun.cl T.FallRun.n_zeros_ (dv 0) (de_call (ok_mask_of T) (hr.mono (by decide)) (by rfl) T.mask_of.g T.mask_of.F.kp T.mask_of.b (da_cons (de_lc (own := [("house", 6)]) rfl sc_FallRun_init.nd (di_rng1 (by rfl) T.b_range (dv 2)) (blkOk_by (by kernel_rfl)) (fun _ _ _ _ _ => pg_name (i := 6) sc_FallRun_init.nd rfl (by first | exact Or.inl rfl | exact Or.inr rfl)) (gw_name (by decide)) (fun _ _ _ _ _ => (dts_one (dt_cmp o_eq (de_ix (dv 4) (dv 6)) de_int))) (fun _ _ _ _ _ => (dv 6))) da_nil)))
      (dss_cons (ds_set (i := 8) sc_FallRun_init.nd de_dnewC)
      (dss_cons (ds_forItems PassesOwn.never rfl (dp_var 5) (dg_tup (n := 2) rfl (dgs_cons (dg_name (i := 6) sc_FallRun_init.nd) (dgs_cons (dg_name (i := 7) sc_FallRun_init.nd) dgs_nil))) (dss_one (ds_expr (de_app (de_setd (dv 8) (de_ix (dv 7) de_int) (de_lstC da_nil)) (dv 6)))))
      (dss_freeze (dss_freeze (dss_cons (ds_fld T.FallRun.cl T.FallRun.n_rounds_ (dv 0) (dv 8))
      (dss_cons (ds_set (i := 9) sc_FallRun_init.nd (de_op o_sub (de_op o_shl de_int (dv 2)) de_int))
      (dss_cons (ds_set (i := 10) sc_FallRun_init.nd (de_lstC da_nil))
      (dss_cons (ds_for PassesOwn.never rfl (di_rng1 (by rfl) T.b_range (de_op o_add (de_globI (by rfl) T.g_LAST_BEAT) de_int)) (dg_name (i := 11) sc_FallRun_init.nd) (dss_cons (ds_aug (j := 9) sc_FallRun_init.nd ip_sub (de_call (ok_mask_of T) (hr.mono (by decide)) (by rfl) T.mask_of.g T.mask_of.F.kp T.mask_of.b (da_cons (de_get2 (hu_of (k := 0) (hr.mono (by decide))) (dv 8) (dv 11) (de_lst da_nil)) da_nil)))
      (dss_one (ds_expr (de_app (dv 10) (dv 9))))))
      (dss_freeze (dss_one (ds_fld T.FallRun.cl T.FallRun.n_ups_ (dv 0) (dv 10))))))))))))))))))))))
      (by
    rintro _ _ Q XE (⟨s, tx, M, rfl, hs, rfl, hcl, htx, q0⟩ | ⟨s, y, M, rfl, hs, rfl, hy, q0⟩)
    rotate_left
    · refine xseq_cut (fun ρ' M' => False) (fun N hN => ?_) (fun _ _ h => h.elim)
      conv => whnf
      exact .inr ⟨y, rfl, hy, ⟨M, (SubM.refl M).upd hs, q0⟩⟩
    have sub : ∀ d, SubM M (updM M s d) := fun d => (SubM.refl M).upd hs
    cases eW : rdT tx with
    | bad ln w =>
      rw [eW] at q0
      refine xseq_cut (fun ρ' M' => False) (fun N hN => ?_) (fun _ _ h => h.elim)
      conv => whnf
      refine .inl ⟨tx, rfl, htx, ?_⟩
      rw [eW]
      exact ⟨M, sub _, q0⟩
    | many ln w k =>
      rw [eW] at q0
      refine xseq_cut (fun ρ' M' => False) (fun N hN => ?_) (fun _ _ h => h.elim)
      conv => whnf
      refine .inl ⟨tx, rfl, htx, ?_⟩
      rw [eW]
      exact ⟨M, sub _, q0⟩
    | ok W0 =>
    rw [eW] at q0
    refine xseq_cut (fun ρ' M' => ∃ sf : List (Nat × Nat × List Nat), sf.Perm W0.fs ∧ ((W0.re sf).fs.map fun x => x.1).Pairwise (· < ·) ∧ M' = updM M s (.ins T.FallRun.C [] []) ∧ ρ' = [some (.cell s), some (.str tx), some (dN (W0.re sf).n), some (dN (W0.re sf).most), some (.tup ((W0.re sf).begins.map dN)), some (.dic ((W0.re sf).fs.map fun x => kN x.1) ((W0.re sf).fs.map fT)), none, none, none, none, none, none]) (fun N hN => ?_) ?_
    · conv => whnf
      refine .inl ⟨tx, rfl, htx, ?_⟩
      rw [eW]
      intro sf h1 h2
      conv => whnf
      refine ⟨rfl, ?_⟩
      exact hN _ _ ⟨sf, h1, h2, rfl, rfl⟩
    rintro _ _ ⟨sf, hsf, hso, rfl, rfl⟩
    have ok := (rdT_ok eW).re hsf
    have q := q0 sf hsf hso
    clear q0 eW hsf htx
    generalize W0.re sf = W at ok q hso ⊢
    clear sf W0
    have hb := big
    have n2 := ok.n2
    have n40 := ok.n40
    have hfl : W.fs.length ≤ 39 := by have := ok.len; have := ok.ml; omega
    obtain ⟨hm, hhm⟩ := masks_ex (lotOf W)
    generalize hC : T.FallRun.C = C at q ⊢
    generalize hB : D.tup (W.begins.map dN) = B
    generalize hF : D.dic (W.fs.map fun x => kN x.1) (W.fs.map fT) = Fd
    generalize hHd : D.dic (W.fs.map fun x => kN x.1) (W.fs.map fun x => dN (hm x.1)) = Hd
    refine seq_cut (fun ρ' M' => M' = updM M s (.ins C ["text"] [.str (wtext W)]) ∧ ρ' = [some (.cell s), some (.str tx), some (dN W.n), some (dN W.most), some B, some Fd, none, none, none, none, none, none]) (fun N hN => ?_) ?_
    · conv => whnf
      refine ⟨W, by rw [hB, hF], ok, ?_⟩
      conv => whnf
      refine ⟨_, _, updM_same, by show 0 < 900; decide, ?_⟩
      exact hN _ _ ⟨by rw [updM_updM]; rfl, rfl⟩
    rintro _ _ ⟨rfl, rfl⟩
    refine seq_cut (fun ρ' M' => M' = updM M s (.ins C ["text", "houses"] [.str (wtext W), dN W.n]) ∧ ρ' = [some (.cell s), some (.str tx), some (dN W.n), some (dN W.most), some B, some Fd, none, none, none, none, none, none]) (fun N hN => ?_) ?_
    · conv => whnf
      refine ⟨_, _, updM_same, by show 1 < 900; decide, ?_⟩
      exact hN _ _ ⟨by rw [updM_updM, putFD_snoc (by decide) rfl]; rfl, rfl⟩
    rintro _ _ ⟨rfl, rfl⟩
    refine seq_cut (fun ρ' M' => M' = updM M s (.ins C ["text", "houses", "most"] [.str (wtext W), dN W.n, dN W.most]) ∧ ρ' = [some (.cell s), some (.str tx), some (dN W.n), some (dN W.most), some B, some Fd, none, none, none, none, none, none]) (fun N hN => ?_) ?_
    · conv => whnf
      refine ⟨_, _, updM_same, by show 2 < 900; decide, ?_⟩
      exact hN _ _ ⟨by rw [updM_updM, putFD_snoc (by decide) rfl]; rfl, rfl⟩
    rintro _ _ ⟨rfl, rfl⟩
    refine seq_cut (fun ρ' M' => M' = updM M s (.ins C ["text", "houses", "most", "begins"] [.str (wtext W), dN W.n, dN W.most, B]) ∧ ρ' = [some (.cell s), some (.str tx), some (dN W.n), some (dN W.most), some B, some Fd, none, none, none, none, none, none]) (fun N hN => ?_) ?_
    · conv => whnf
      refine ⟨_, _, updM_same, by show 3 < 900; decide, ?_⟩
      exact hN _ _ ⟨by rw [updM_updM, putFD_snoc (by decide) rfl]; rfl, rfl⟩
    rintro _ _ ⟨rfl, rfl⟩
    refine seq_cut (fun ρ' M' => M' = updM M s (.ins C ["text", "houses", "most", "begins", "_falls"] [.str (wtext W), dN W.n, dN W.most, B, Fd]) ∧ ρ' = [some (.cell s), some (.str tx), some (dN W.n), some (dN W.most), some B, some Fd, none, none, none, none, none, none]) (fun N hN => ?_) ?_
    · conv => whnf
      refine ⟨_, _, updM_same, by show 4 < 900; decide, ?_⟩
      exact hN _ _ ⟨by rw [updM_updM, putFD_snoc (by decide) rfl]; rfl, rfl⟩
    rintro _ _ ⟨rfl, rfl⟩
    refine seq_cut (fun ρ' M' => M' = updM M s (.ins C ["text", "houses", "most", "begins", "_falls", "_heard"] [.str (wtext W), dN W.n, dN W.most, B, Fd, Hd]) ∧ ∃ z6 z7, ρ' = [some (.cell s), some (.str tx), some (dN W.n), some (dN W.most), some B, some Fd, z6, z7, none, none, none, none]) (fun N hN => ?_) ?_
    · refine ⟨W.fs.map fun x => kN x.1, W.fs.map fT, by rw [hF]; rfl, ?_⟩
      refine dc_fm W.fs (fun x => .tup [dN x.1, fT x]) (fun x => [some (.cell s), some (.str tx), some (dN W.n), some (dN W.most), some B, some Fd, some (dN x.1), some (fT x), none, none, none, none]) (fun x => kN x.1) (fun x => dN (hm x.1)) (items_map (fun x : Nat × Nat × List Nat => x.1) fT W.fs) (by omega) (nodup_kN (k := fun x : Nat × Nat × List Nat => x.1) ok.nd) (fun _ _ => rfl) (fun _ _ K h => h) (fun x hx K hK => hK) (fun x hx K hK => ?_) ?_
      · conv => whnf
        refine ⟨.tup (x.2.2.map dN), rfl, ?_⟩
        refine ⟨x.2.2, _, rfl, .inr rfl, by have := ok.ll x hx; omega, fun y hy => by have := (ok.ln x hx y hy).1; omega, fun m hmm => ?_⟩
        have : m = hm x.1 := Nat.eq_of_testBit_eq fun j => by rw [hmm, hhm, lotOf_mem ok hx]
        rw [this]
        exact hK
      · rw [hHd]
        conv => whnf
        refine ⟨_, _, updM_same, by show 5 < 900; decide, ?_⟩
        exact hN _ _ ⟨by rw [updM_updM, putFD_snoc (by decide) rfl]; rfl, _, _, rfl⟩
    rintro _ _ ⟨rfl, z6, z7, rfl⟩
    refine seq_cut (fun ρ' M' => ∃ z : Nat, (∀ j, z.testBit j = (decide (j < W.n) && W.begins.getD j 1 == 0)) ∧ M' = updM M s (.ins C ["text", "houses", "most", "begins", "_falls", "_heard", "_zeros"] [.str (wtext W), dN W.n, dN W.most, B, Fd, Hd, dN z]) ∧ ∃ z6 z7, ρ' = [some (.cell s), some (.str tx), some (dN W.n), some (dN W.most), some B, some Fd, z6, z7, none, none, none, none]) (fun N hN => ?_) ?_
    · conv => whnf
      refine ⟨⟨by omega, by omega⟩, ?_⟩
      refine lc_fm (List.range W.n) dN (fun j => [some (.cell s), some (.str tx), some (dN W.n), some (dN W.most), some B, some Fd, some (dN j), z7, none, none, none, none]) (fun j => W.begins.getD j 1 == 0) dN
          (by rw [show ((W.n : Nat) : Int).toNat = W.n from Int.toNat_natCast _]; exact rngD_map _) (by rw [List.length_range]; omega) (fun j _ => rfl) (fun j hj K hK => ?_) (fun j _ _ K hK => hK) ?_
      · have hj' : j < W.begins.length := by rw [ok.bl]; exact List.mem_range.mp hj
        subst hB
        conv => whnf
        refine ⟨dN W.begins[j], by rw [atI_nat (by rw [List.length_map]; exact hj')]; simp, ?_⟩
        show K (decide ((W.begins[j] : Int) = 0)) _
        rw [dec_nat0]
        rw [List.getD_eq_getElem?_getD, List.getElem?_eq_getElem hj'] at hK
        exact hK
      · refine ⟨_, _, rfl, .inl rfl, Nat.le_trans (List.length_filter_le _ _) (by rw [List.length_range]; omega), fun y hy => by have := List.mem_range.mp (List.mem_filter.mp hy).1; omega, fun m hmm => ?_⟩
        conv => whnf
        refine ⟨_, _, updM_same, by show 6 < 900; decide, ?_⟩
        refine hN _ _ ⟨m, fun j => ?_, by rw [updM_updM, putFD_snoc (by decide) rfl]; rfl, _, _, rfl⟩
        rw [hmm j, Bool.eq_iff_iff, decide_eq_true_iff, List.mem_filter, List.mem_range, Bool.and_eq_true, decide_eq_true_iff]
    rintro _ _ ⟨z, hz, rfl, z6, z7, rfl⟩
    generalize hI : D.ins C ["text", "houses", "most", "begins", "_falls", "_heard", "_zeros"] [.str (wtext W), dN W.n, dN W.most, B, Fd, Hd, dN z] = I7
    have hI7 : ∀ (F : Addr → Bool) (M' : Mp), subC F M' I7 = I7 := fun F M' => by
      subst hI hB hF hHd
      rfl
    have hM1 : ∀ y d, updM M s I7 y = some d → (y = s ∧ d = I7) ∨ (y ≠ s ∧ M y = some d) := fun y d e => by
      by_cases h : y = s
      · subst h; rw [updM_same] at e; exact .inl ⟨rfl, (Option.some.inj e).symm⟩
      · rw [updM_ne h] at e; exact .inr ⟨h, e⟩
    generalize hM1d : updM M s I7 = M1 at hM1
    have gs : M1 s = some I7 := by rw [← hM1d]; exact updM_same
    refine seq_cut (fun ρ' M' => ∃ r, M1 r = none ∧ M' = updM M1 r (.dic [] []) ∧ ρ' = [some (.cell s), some (.str tx), some (dN W.n), some (dN W.most), some B, some Fd, z6, z7, some (.cell r), none, none, none]) (fun N hN => ?_) ?_
    · intro r hr
      exact hN _ _ ⟨r, hr, rfl, rfl⟩
    rintro _ _ ⟨r, hr, rfl, rfl⟩
    let St : Nat → DL.Env → Mp → Prop := fun t ρ' M' => ∃ L : List (Nat × Addr × List Nat), M' r = some (.dic (L.map fun x => kN x.1) (L.map fun x => .cell x.2.1)) ∧ (∀ x ∈ L, M' x.2.1 = some (nsD x.2.2)) ∧ (L.map fun x => x.1).Nodup ∧ (L.map fun x => x.2.1).Nodup ∧ (∀ x ∈ L, M1 x.2.1 = none ∧ x.2.1 ≠ r) ∧
      (∀ y d, M1 y = some d → M' y = some d) ∧ (∀ x ∈ L, x.2.2.length ≤ t) ∧ L.length ≤ t ∧ (∀ a j, (∃ x, x ∈ L ∧ x.1 = a ∧ j ∈ x.2.2) ↔ ∃ y, y ∈ W.fs.take t ∧ y.1 = j ∧ y.2.1 = a) ∧ ∃ z6 z7, ρ' = [some (.cell s), some (.str tx), some (dN W.n), some (dN W.most), some B, some Fd, z6, z7, some (.cell r), none, none, none]
    refine seq_cut (St W.fs.length) (fun N hN => ?_) ?_
    · refine ⟨W.fs.map fun x => kN x.1, W.fs.map fT, by rw [hF]; rfl, ?_⟩
      refine loop_l W.fs (fun x => .tup [dN x.1, fT x]) (items_map (fun x : Nat × Nat × List Nat => x.1) fT W.fs) St ?_ ?_ ?_
      · refine ⟨[], updM_same, fun x hx => (by cases hx), List.nodup_nil, List.nodup_nil, fun x hx => (by cases hx), fun y d e => ?_, fun x hx => (by cases hx), Nat.le_refl _, fun a j => ?_, _, _, rfl⟩
        · rw [updM_ne (ne_cell e hr)]; exact e
        · constructor
          · rintro ⟨x, hx, _⟩; cases hx
          · rintro ⟨y, hy, _⟩; rw [List.take_zero] at hy; cases hy
      · rintro t x _ M2 ex hx ⟨L, a1, a2, a3, a4, a5, a6, a7, a8, a9, y6, y7, rfl⟩
        have ht : t < W.fs.length := (List.getElem?_eq_some_iff.mp ex).1
        have htake : W.fs.take (t + 1) = W.fs.take t ++ [x] := by rw [List.take_succ, ex]; rfl
        conv => whnf
        refine ⟨rfl, ?_⟩
        conv => whnf
        refine ⟨⟨_, _, a1⟩, ?_⟩
        conv => whnf
        refine ⟨dN x.2.1, rfl, ?_⟩
        conv => whnf
        refine ⟨lines _ (by show 0 ≤ _; omega), fun p hp => ?_⟩
        have hpr : p ≠ r := fun e => by rw [e, a1] at hp; cases hp
        have hp1 : M1 p = none := by
          cases e : M1 p with
          | none => rfl
          | some d => rw [a6 p d e] at hp; cases hp
        have hpL : ∀ y ∈ L, y.2.1 ≠ p := fun y hy e => by rw [← e, a2 y hy] at hp; cases hp
        conv => whnf
        refine ⟨_, _, by rw [updM_ne hpr.symm]; exact a1, nodup_kN (k := fun x : Nat × Addr × List Nat => x.1) a3, by rw [List.length_map]; omega, ?_, ?_⟩
        · intro d hd
          have hd' := (getK_map (fun x : Nat × Addr × List Nat => x.1) (fun x => D.cell x.2.1) x.2.1 L).symm.trans hd
          cases hf : (L.find? fun y => y.1 == x.2.1) with
          | none => rw [hf] at hd'; cases hd'
          | some y =>
            rw [hf] at hd'
            cases hd'
            have hy := List.mem_of_find?_eq_some hf
            have hy0 : (y.1 == x.2.1) = true := List.find?_some (p := fun y : Nat × Addr × List Nat => y.1 == x.2.1) hf
            have hy1 : y.1 = x.2.1 := eq_of_beq hy0
            have gy : updM M2 p (.lst []) y.2.1 = some (nsD y.2.2) := by rw [updM_ne (hpL y hy)]; exact a2 y hy
            conv => whnf
            refine ⟨⟨_, gy⟩, ?_⟩
            refine ⟨_, gy, by rw [List.length_map]; have := a7 y hy; omega, ?_⟩
            refine ⟨L.map fun w => if w.2.1 = y.2.1 then (w.1, w.2.1, w.2.2 ++ [x.1]) else w, ?_, fun w hw => ?_, ?_, ?_, fun w hw => ?_, fun y' d' e => ?_, fun w hw => ?_, by rw [List.length_map]; omega, fun a j => ?_, _, _, rfl⟩
            · rw [updM_ne (a5 y hy).2.symm, updM_ne hpr.symm, a1, List.map_map, List.map_map]
              congr 2 <;> refine List.map_congr_left fun w hw => ?_ <;> dsimp only [Function.comp] <;> split <;> rfl
            · obtain ⟨v, hv, rfl⟩ := List.mem_map.mp hw
              by_cases hvy : v.2.1 = y.2.1
              · have : v = y := by
                  obtain ⟨i1, e1⟩ := List.getElem?_of_mem hv
                  obtain ⟨i2, e2⟩ := List.getElem?_of_mem hy
                  have e3 : (L.map fun x => x.2.1)[i1]? = some v.2.1 := by rw [List.getElem?_map, e1]; rfl
                  have e4 : (L.map fun x => x.2.1)[i2]? = some v.2.1 := by rw [List.getElem?_map, e2, hvy]; rfl
                  have hl1 := (List.getElem?_eq_some_iff.mp e3).1
                  have := (List.getElem?_inj hl1 a4).mp (e3.trans e4.symm)
                  rw [this] at e1
                  rw [e1] at e2
                  cases e2
                  rfl
                subst this
                rw [if_pos rfl]
                dsimp only
                rw [updM_same]
                unfold nsD
                rw [List.map_append]
                rfl
              · rw [if_neg hvy, updM_ne hvy, updM_ne (hpL v hv)]
                exact a2 v hv
            · rw [List.map_map]
              rw [show (L.map ((fun x => x.1) ∘ fun w => if w.2.1 = y.2.1 then (w.1, w.2.1, w.2.2 ++ [x.1]) else w)) = L.map fun x => x.1 from List.map_congr_left fun w hw => by dsimp only [Function.comp]; split <;> rfl]
              exact a3
            · rw [List.map_map]
              rw [show (L.map ((fun x => x.2.1) ∘ fun w => if w.2.1 = y.2.1 then (w.1, w.2.1, w.2.2 ++ [x.1]) else w)) = L.map fun x => x.2.1 from List.map_congr_left fun w hw => by dsimp only [Function.comp]; split <;> rfl]
              exact a4
            · obtain ⟨v, hv, rfl⟩ := List.mem_map.mp hw
              have := a5 v hv
              split <;> exact this
            · rw [updM_ne (ne_cell e (a5 y hy).1), updM_ne (ne_cell e hp1)]
              exact a6 y' d' e
            · obtain ⟨v, hv, rfl⟩ := List.mem_map.mp hw
              have := a7 v hv
              split
              · rw [List.length_append]; show v.2.2.length + 1 ≤ _; omega
              · omega
            · rw [htake]
              constructor
              · rintro ⟨w, hw, rfl, hj⟩
                obtain ⟨v, hv, rfl⟩ := List.mem_map.mp hw
                by_cases hvy : v.2.1 = y.2.1
                · rw [if_pos hvy] at hj ⊢
                  rcases List.mem_append.mp hj with hj | hj
                  · obtain ⟨u, u1, u2⟩ := (a9 v.1 j).mp ⟨v, hv, rfl, hj⟩
                    exact ⟨u, List.mem_append_left _ u1, u2⟩
                  · have hvv : v = y := by
                      obtain ⟨i1, e1⟩ := List.getElem?_of_mem hv
                      obtain ⟨i2, e2⟩ := List.getElem?_of_mem hy
                      have e3 : (L.map fun x => x.2.1)[i1]? = some v.2.1 := by rw [List.getElem?_map, e1]; rfl
                      have e4 : (L.map fun x => x.2.1)[i2]? = some v.2.1 := by rw [List.getElem?_map, e2, hvy]; rfl
                      have hl1 := (List.getElem?_eq_some_iff.mp e3).1
                      have := (List.getElem?_inj hl1 a4).mp (e3.trans e4.symm)
                      rw [this] at e1
                      rw [e1] at e2
                      cases e2
                      rfl
                    subst hvv
                    exact ⟨x, List.mem_append_right _ (List.mem_singleton.mpr rfl), (List.mem_singleton.mp hj).symm, hy1.symm⟩
                · rw [if_neg hvy] at hj ⊢
                  obtain ⟨u, u1, u2⟩ := (a9 v.1 j).mp ⟨v, hv, rfl, hj⟩
                  exact ⟨u, List.mem_append_left _ u1, u2⟩
              · rintro ⟨u, hu, rfl, rfl⟩
                rcases List.mem_append.mp hu with hu | hu
                · obtain ⟨v, hv, v1, v2⟩ := (a9 u.2.1 u.1).mpr ⟨u, hu, rfl, rfl⟩
                  refine ⟨_, List.mem_map.mpr ⟨v, hv, rfl⟩, ?_, ?_⟩
                  · split <;> exact v1
                  · split
                    · exact List.mem_append_left _ v2
                    · exact v2
                · rw [List.mem_singleton.mp hu]
                  refine ⟨_, List.mem_map.mpr ⟨y, hy, rfl⟩, ?_, ?_⟩
                  · rw [if_pos rfl]; exact hy1
                  · rw [if_pos rfl]; exact List.mem_append_right _ (List.mem_singleton.mpr rfl)
        · intro hd
          have hd' := (getK_map (fun x : Nat × Addr × List Nat => x.1) (fun x => D.cell x.2.1) x.2.1 L).symm.trans hd
          have hf : (L.find? fun y => y.1 == x.2.1) = none := Option.map_eq_none_iff.mp hd'
          have hno : ∀ y ∈ L, y.1 ≠ x.2.1 := fun y hy e => by
            have := List.find?_eq_none.mp hf y hy
            rw [e, beq_self_eq_true] at this
            exact this rfl
          have hnk : kN x.2.1 ∉ L.map fun x => kN x.1 := fun h => by
            obtain ⟨y, hy, e⟩ := List.mem_map.mp h
            exact hno y hy (kN_inj.mp e)
          have gp : (updM (updM M2 p (.lst [])) r (.dic (putKD (kN x.2.1) (.cell p) (L.map fun x => kN x.1) (L.map fun x => D.cell x.2.1)).1 (putKD (kN x.2.1) (.cell p) (L.map fun x => kN x.1) (L.map fun x => D.cell x.2.1)).2)) p = some (.lst []) := by rw [updM_ne hpr, updM_same]
          conv => whnf
          refine ⟨⟨_, gp⟩, ?_⟩
          refine ⟨_, gp, by show 0 < _; decide, ?_⟩
          refine ⟨L ++ [(x.2.1, p, [x.1])], ?_, fun w hw => ?_, ?_, ?_, fun w hw => ?_, fun y' d' e => ?_, fun w hw => ?_, by rw [List.length_append]; show L.length + 1 ≤ _; omega, fun a j => ?_, _, _, rfl⟩
          · rw [updM_ne hpr.symm, updM_same]
            rw [show putKD (Sum.inl ((x.2.1 : Nat) : Int)) (D.cell p) (L.map fun x => kN x.1) (L.map fun x => D.cell x.2.1) = _ from putKD_snoc2 hnk (by rw [List.length_map, List.length_map])]
            rw [List.map_append, List.map_append]
            rfl
          · rcases List.mem_append.mp hw with hw | hw
            · rw [updM_ne (hpL w hw), updM_ne (a5 w hw).2, updM_ne (hpL w hw)]
              exact a2 w hw
            · rw [List.mem_singleton.mp hw, updM_same]
              rfl
          · rw [List.map_append, List.nodup_append]
            refine ⟨a3, List.nodup_cons.mpr ⟨List.not_mem_nil, List.nodup_nil⟩, fun a ha b hb2 e => ?_⟩
            obtain ⟨y, hy, rfl⟩ := List.mem_map.mp ha
            rw [List.mem_singleton.mp hb2] at e
            exact hno y hy e
          · rw [List.map_append, List.nodup_append]
            refine ⟨a4, List.nodup_cons.mpr ⟨List.not_mem_nil, List.nodup_nil⟩, fun a ha b hb2 e => ?_⟩
            obtain ⟨y, hy, rfl⟩ := List.mem_map.mp ha
            rw [List.mem_singleton.mp hb2] at e
            exact hpL y hy e
          · rcases List.mem_append.mp hw with hw | hw
            · exact a5 w hw
            · rw [List.mem_singleton.mp hw]
              exact ⟨hp1, hpr⟩
          · rw [updM_ne (ne_cell e hp1), updM_ne (ne_cell e hr), updM_ne (ne_cell e hp1)]
            exact a6 y' d' e
          · rcases List.mem_append.mp hw with hw | hw
            · have := a7 w hw; omega
            · rw [List.mem_singleton.mp hw]; show 1 ≤ _; omega
          · rw [htake]
            constructor
            · rintro ⟨w, hw, rfl, hj⟩
              rcases List.mem_append.mp hw with hw | hw
              · obtain ⟨u, u1, u2⟩ := (a9 w.1 j).mp ⟨w, hw, rfl, hj⟩
                exact ⟨u, List.mem_append_left _ u1, u2⟩
              · rw [List.mem_singleton.mp hw] at hj ⊢
                exact ⟨x, List.mem_append_right _ (List.mem_singleton.mpr rfl), (List.mem_singleton.mp hj).symm, rfl⟩
            · rintro ⟨u, hu, rfl, rfl⟩
              rcases List.mem_append.mp hu with hu | hu
              · obtain ⟨v, hv, v1, v2⟩ := (a9 u.2.1 u.1).mpr ⟨u, hu, rfl, rfl⟩
                exact ⟨v, List.mem_append_left _ hv, v1, v2⟩
              · rw [List.mem_singleton.mp hu]
                exact ⟨_, List.mem_append_right _ (List.mem_singleton.mpr rfl), rfl, List.mem_singleton.mpr rfl⟩
      · rintro _ M2 h
        exact hN _ _ h
    rintro _ M2 ⟨L, a1, a2, a3, a4, a5, a6, a7, a8, a9, y6, y7, rfl⟩
    rw [List.take_length] at a9
    have hsr : s ≠ r := ne_cell gs hr
    have hML : ∀ x ∈ L, x.2.1 ≠ s := fun x hx e => by have := (a5 x hx).1; rw [e, gs] at this; cases this
    let F1 : Addr → Bool := fun q => decide (∃ x ∈ L, x.2.1 = q)
    let F2 : Addr → Bool := fun q => decide (q = r)
    have F1n : ∀ p, F1 p = true → M1 p = none := fun p h => by
      obtain ⟨x, hx, rfl⟩ := of_decide_eq_true h
      exact (a5 x hx).1
    have F1r : F1 r = false := decide_eq_false fun ⟨x, hx, e⟩ => (a5 x hx).2 e
    have F1s : F1 s = false := decide_eq_false fun ⟨x, hx, e⟩ => hML x hx e
    have F2s : F2 s = false := decide_eq_false hsr
    have F2r : F2 r = true := decide_eq_true rfl
    have hMn : ∀ p, M1 p = none → M p = none := fun p h => by
      cases e : M p with
      | none => rfl
      | some d =>
        have hps : p ≠ s := fun e2 => by rw [e2, gs] at h; cases h
        rw [← hM1d, updM_ne hps, e] at h
        cases h
    have hsub : ∀ (F : Addr → Bool) (M' : Mp), (∀ p, F p = true → M1 p = none) → ∀ y d, M1 y = some d → subC F M' d = d := fun F M' hF1 y d e => by
      rcases hM1 y d e with ⟨_, rfl⟩ | ⟨_, e2⟩
      · exact hI7 F M'
      · exact hcl y d e2 F M' fun p hp => hMn p (hF1 p hp)
    refine ⟨F1, F2, ?_⟩
    have d1 : ∀ y d, M1 y = some d → delF F1 M2 y = some d := fun y d e => by
      unfold delF
      rw [if_neg (fun h => by rw [F1n y h] at e; cases e), a6 y d e, Option.map_some, hsub F1 M2 F1n y d e]
    have d1r : delF F1 M2 r = some (.dic (L.map fun x => kN x.1) (L.map fun x => nsD x.2.2)) := by
      unfold delF
      rw [F1r, if_neg Bool.false_ne_true, a1, Option.map_some]
      show some (D.dic _ ((L.map fun x => D.cell x.2.1).map (subD F1 M2))) = _
      rw [List.map_map]
      congr 2
      refine List.map_congr_left fun x hx => ?_
      show (if F1 x.2.1 = true then (M2 x.2.1).getD _ else _) = _
      rw [if_pos (decide_eq_true ⟨x, hx, rfl⟩), a2 x hx]
      rfl
    have d2' : ∀ y d, M1 y = some d → delF F2 (delF F1 M2) y = some d := fun y d e => by
      unfold delF
      rw [if_neg (fun h => by rw [of_decide_eq_true h] at e; rw [hr] at e; cases e)]
      rw [show (if F1 y = true then none else Option.map (subC F1 M2) (M2 y)) = some d from d1 y d e, Option.map_some]
      rw [hsub F2 _ (fun p hp => by rw [of_decide_eq_true hp]; exact hr) y d e]
    generalize hRD : D.dic (L.map fun x => kN x.1) (L.map fun x => nsD x.2.2) = RD at d1r
    have henv : ∃ w6 w7, List.map (Option.map (subD F2 (delF F1 M2))) (List.map (Option.map (subD F1 M2)) [some (.cell s), some (.str tx), some (dN W.n), some (dN W.most), some B, some Fd, y6, y7, some (.cell r), none, none, none]) = [some (.cell s), some (.str tx), some (dN W.n), some (dN W.most), some B, some Fd, w6, w7, some RD, none, none, none] := by
      refine ⟨Option.map (subD F2 (delF F1 M2)) (Option.map (subD F1 M2) y6), Option.map (subD F2 (delF F1 M2)) (Option.map (subD F1 M2) y7), ?_⟩
      simp only [List.map_cons, List.map_nil, Option.map_some, Option.map_none]
      have c1 : subD F2 (delF F1 M2) (subD F1 M2 (.cell s)) = .cell s := by
        show subD F2 (delF F1 M2) (if F1 s = true then _ else .cell s) = _
        rw [F1s, if_neg Bool.false_ne_true]
        show (if F2 s = true then _ else D.cell s) = _
        rw [F2s, if_neg Bool.false_ne_true]
      have c2 : subD F2 (delF F1 M2) (subD F1 M2 (.cell r)) = RD := by
        show subD F2 (delF F1 M2) (if F1 r = true then _ else .cell r) = _
        rw [F1r, if_neg Bool.false_ne_true]
        show (if F2 r = true then ((delF F1 M2) r).getD (.cell r) else D.cell r) = _
        rw [F2r, if_pos rfl, d1r]
        rfl
      rw [c1, c2]
      subst hB hF
      rfl
    obtain ⟨w6, w7, henv⟩ := henv
    show dSeq _ _ _ (List.map (Option.map (subD F2 (delF F1 M2))) (List.map (Option.map (subD F1 M2)) [some (.cell s), some (.str tx), some (dN W.n), some (dN W.most), some B, some Fd, y6, y7, some (.cell r), none, none, none])) (delF F2 (delF F1 M2))
    rw [henv]
    generalize delF F2 (delF F1 M2) = M3 at d2'
    have hrounds : ∀ a : Nat, ∃ l : List Nat, (getK (L.map fun x => kN x.1) (L.map fun x => nsD x.2.2) (kN a)).getD (.lst []) = nsD l ∧ l.length ≤ 100 ∧ ∀ j, j ∈ l ↔ ∃ x ∈ W.fs, x.1 = j ∧ x.2.1 = a := fun a => by
      rw [getK_map (fun x : Nat × Addr × List Nat => x.1) (fun x => nsD x.2.2)]
      cases hf : (L.find? fun y => y.1 == a) with
      | none =>
        refine ⟨[], rfl, Nat.zero_le _, fun j => ⟨fun h => (by cases h), fun ⟨x, hx, e1, e2⟩ => ?_⟩⟩
        obtain ⟨v, hv, v1, v2⟩ := (a9 a j).mpr ⟨x, hx, e1, e2⟩
        have := List.find?_eq_none.mp hf v hv
        rw [v1, beq_self_eq_true] at this
        exact absurd rfl this
      | some y =>
        have hy := List.mem_of_find?_eq_some hf
        have hy0 : (y.1 == a) = true := List.find?_some (p := fun y : Nat × Addr × List Nat => y.1 == a) hf
        have hy1 : y.1 = a := eq_of_beq hy0
        refine ⟨y.2.2, rfl, by have := a7 y hy; omega, fun j => ?_⟩
        constructor
        · intro hj
          obtain ⟨x, hx, e⟩ := (a9 a j).mp ⟨y, hy, hy1, hj⟩
          exact ⟨x, hx, e⟩
        · rintro ⟨x, hx, e1, e2⟩
          obtain ⟨v, hv, v1, v2⟩ := (a9 a j).mpr ⟨x, hx, e1, e2⟩
          have : v = y := by
            obtain ⟨i1, e3⟩ := List.getElem?_of_mem hv
            obtain ⟨i2, e4⟩ := List.getElem?_of_mem hy
            have e5 : (L.map fun x => x.1)[i1]? = some a := by rw [List.getElem?_map, e3, ← v1]; rfl
            have e6 : (L.map fun x => x.1)[i2]? = some a := by rw [List.getElem?_map, e4, ← hy1]; rfl
            have hl1 := (List.getElem?_eq_some_iff.mp e5).1
            have := (List.getElem?_inj hl1 a3).mp (e5.trans e6.symm)
            rw [this, e4] at e3
            cases e3
            rfl
          rw [← this]
          exact v2
    have g3 : M3 s = some I7 := d2' s I7 gs
    have hI7d := hI
    refine seq_cut (fun ρ' M' => M' = updM M3 s (.ins C ["text", "houses", "most", "begins", "_falls", "_heard", "_zeros", "_rounds"] [.str (wtext W), dN W.n, dN W.most, B, Fd, Hd, dN z, RD]) ∧ ρ' = [some (.cell s), some (.str tx), some (dN W.n), some (dN W.most), some B, some Fd, w6, w7, some RD, none, none, none]) (fun N hN => ?_) ?_
    · conv => whnf
      refine ⟨_, _, by rw [g3, ← hI], by show 7 < 900; decide, ?_⟩
      exact hN _ _ ⟨by rw [putFD_snoc (by decide) rfl]; rfl, rfl⟩
    rintro _ _ ⟨rfl, rfl⟩
    generalize hI8 : D.ins C ["text", "houses", "most", "begins", "_falls", "_heard", "_zeros", "_rounds"] [.str (wtext W), dN W.n, dN W.most, B, Fd, Hd, dN z, RD] = I8
    generalize hM4 : updM M3 s I8 = M4
    have g4 : M4 s = some I8 := by rw [← hM4]; exact updM_same
    have d4 : ∀ y d, M y = some d → M4 y = some d := fun y d e => by
      have hys : y ≠ s := fun e2 => by rw [e2, hs] at e; cases e
      rw [← hM4, updM_ne hys]
      refine d2' y d ?_
      rw [← hM1d, updM_ne hys]
      exact e
    refine seq_cut (fun ρ' M' => M4 = M' ∧ ρ' = [some (.cell s), some (.str tx), some (dN W.n), some (dN W.most), some B, some Fd, w6, w7, some RD, some (dN (2 ^ W.n - 1)), none, none]) (fun N hN => ?_) ?_
    · refine And.intro (pow_cond W.n (by omega)) ?_
      refine hN _ _ ⟨rfl, ?_⟩
      show [some _, some _, some _, some _, some _, some _, w6, w7, some _, some (D.int (1 * 2 ^ ((W.n : Int)).toNat - 1)), none, none] = _
      rw [shl_nat, show ((2 ^ W.n : Nat) : Int) - 1 = ((2 ^ W.n - 1 : Nat) : Int) from (Int.ofNat_sub (Nat.two_pow_pos W.n)).symm]
      rfl
    rintro _ _ ⟨rfl, rfl⟩
    refine seq_cut (fun ρ' M' => ∃ u, M4 u = none ∧ M' = updM M4 u (.lst []) ∧ ρ' = [some (.cell s), some (.str tx), some (dN W.n), some (dN W.most), some B, some Fd, w6, w7, some RD, some (dN (2 ^ W.n - 1)), some (.cell u), none]) (fun N hN => ?_) ?_
    · refine ⟨lines _ (by show 0 ≤ _; omega), fun u hu => ?_⟩
      exact hN _ _ ⟨u, hu, rfl, rfl⟩
    rintro _ _ ⟨u, hu, rfl, rfl⟩
    have hus : u ≠ s := fun e => by rw [e, g4] at hu; cases hu
    obtain ⟨um, hum⟩ := masks_ex (fun b => (List.range W.n).filter fun j => W.up j b)
    have hum' : ∀ b j, (um b).testBit j = (decide (j < W.n) && W.up j b) := fun b j => by
      rw [hum, Bool.eq_iff_iff, decide_eq_true_iff, List.mem_filter, List.mem_range, Bool.and_eq_true, decide_eq_true_iff]
    refine seq_cut (fun ρ' M' => M' = updM M4 u (.lst ((List.range 61).map fun b => dN (um b))) ∧ ∃ z9 z11, ρ' = [some (.cell s), some (.str tx), some (dN W.n), some (dN W.most), some B, some Fd, w6, w7, some RD, z9, some (.cell u), z11]) (fun N hN => ?_) ?_
    · conv => whnf
      refine ⟨⟨by decide, by decide⟩, ?_⟩
      refine loop_l (List.range 61) dN (by exact rngD_map _) (fun t ρ' M' => M' = updM M4 u (.lst ((List.range t).map fun b => dN (um b))) ∧ ∃ (mk : Nat) (z11 : Option D), (∀ j, mk.testBit j = true ↔ j < W.n ∧ ∀ x, W.fall j = some x → t ≤ x.2.1) ∧ ρ' = [some (.cell s), some (.str tx), some (dN W.n), some (dN W.most), some B, some Fd, w6, w7, some RD, some (dN mk), some (.cell u), z11]) ?_ ?_ ?_
      · refine ⟨rfl, 2 ^ W.n - 1, none, fun j => ?_, rfl⟩
        rw [Nat.testBit_two_pow_sub_one, decide_eq_true_iff]
        exact ⟨fun h => ⟨h, fun x _ => Nat.zero_le _⟩, fun h => h.1⟩
      · rintro t x _ _ ex hx ⟨rfl, mk, z11, hmk, rfl⟩
        have ht : t < 61 := by
          have := (List.getElem?_eq_some_iff.mp ex).1
          simpa using this
        rw [List.getElem?_range ht] at ex
        cases ex
        obtain ⟨l, hl1, hl2, hl3⟩ := hrounds t
        subst hRD
        conv => whnf
        refine ⟨⟨_, _, rfl⟩, ?_⟩
        conv => whnf
        refine ⟨lines _ (by show 0 ≤ _; omega), ?_⟩
        conv => whnf
        rw [show (getK (L.map fun x => kN x.1) (L.map fun x => nsD x.2.2) (Sum.inl (t : Int))).getD (.lst []) = nsD l from hl1]
        refine ⟨l, _, rfl, .inl rfl, by omega, fun y hy => ?_, fun m hmm => ?_⟩
        · obtain ⟨x, hx, rfl, _⟩ := (hl3 y).mp hy
          have := ok.hn x hx
          omega
        have hsb := sub_bits mk m fun j hj => by
          rw [hmm j, decide_eq_true_iff] at hj
          obtain ⟨x, hx, rfl, hxt⟩ := (hl3 j).mp hj
          refine (hmk x.1).mpr ⟨ok.hn x hx, fun y hy => ?_⟩
          rw [Wd.fall_of ok.nd hx] at hy
          cases hy
          omega
        have hnew : ∀ j, (mk - m).testBit j = true ↔ j < W.n ∧ ∀ x, W.fall j = some x → t + 1 ≤ x.2.1 := fun j => by
          rw [hsb.2 j, Bool.and_eq_true, hmk j, Bool.not_eq_true', hmm j, decide_eq_false_iff_not, hl3 j]
          constructor
          · rintro ⟨⟨h1, h2⟩, h3⟩
            refine ⟨h1, fun x hx => ?_⟩
            have h4 := h2 x hx
            obtain ⟨h5, h6⟩ := Wd.of_fall hx
            have : x.2.1 ≠ t := fun e => h3 ⟨x, h5, h6, e⟩
            omega
          · rintro ⟨h1, h2⟩
            refine ⟨⟨h1, fun x hx => by have := h2 x hx; omega⟩, ?_⟩
            rintro ⟨x, hx, rfl, e⟩
            have := h2 x (Wd.fall_of ok.nd hx)
            omega
        have humt : mk - m = um t := Nat.eq_of_testBit_eq fun j => by
          rw [Bool.eq_iff_iff, hnew j, hum', Bool.and_eq_true, decide_eq_true_iff]
          unfold Wd.up
          cases e : W.fall j with
          | none => exact ⟨fun h => ⟨h.1, rfl⟩, fun h => ⟨h.1, fun x hx => by cases hx⟩⟩
          | some x =>
            dsimp only
            rw [decide_eq_true_iff]
            exact ⟨fun h => ⟨h.1, h.2 x rfl⟩, fun h => ⟨h.1, fun y hy => by cases hy; exact h.2⟩⟩
        conv => whnf
        refine ⟨⟨_, updM_same⟩, ?_⟩
        refine ⟨_, updM_same, by rw [List.length_map, List.length_range]; omega, ?_⟩
        refine ⟨?_, um t, some (dN t), fun j => by rw [← humt]; exact hnew j, ?_⟩
        · rw [updM_updM]
          congr 2
          rw [List.range_succ, List.map_append]
          congr 1
          show [D.int ((mk : Int) - (m : Int))] = [dN (um t)]
          rw [← humt, ← Int.ofNat_sub hsb.1]
          rfl
        · show [some _, some _, some _, some _, some _, some _, w6, w7, some _, some (D.int ((mk : Int) - (m : Int))), some _, some _] = _
          rw [← humt, ← Int.ofNat_sub hsb.1]
          rfl
      · rintro _ _ ⟨rfl, mk, z11, hmk, rfl⟩
        exact hN _ _ ⟨rfl, _, _, rfl⟩
    rintro _ _ ⟨rfl, z9, z11, rfl⟩
    let F3 : Addr → Bool := fun q => decide (q = u)
    have F3s : F3 s = false := decide_eq_false hus.symm
    have F3u : F3 u = true := decide_eq_true rfl
    refine ⟨F3, ?_⟩
    generalize hUD : D.lst ((List.range 61).map fun b => dN (um b)) = UD
    have hI8c : subC F3 (updM M4 u UD) I8 = I8 := by
      subst hI8 hB hF hHd hRD
      rfl
    have g5 : delF F3 (updM M4 u UD) s = some I8 := by
      unfold delF
      rw [F3s, if_neg Bool.false_ne_true, updM_ne hus.symm, g4, Option.map_some, hI8c]
    have hMu : M u = none := by
      cases e : M u with
      | none => rfl
      | some d => rw [d4 u d e] at hu; cases hu
    have d5 : ∀ y d, M y = some d → delF F3 (updM M4 u UD) y = some d := fun y d e => by
      have hyu : y ≠ u := fun e2 => by rw [e2, hMu] at e; cases e
      unfold delF
      rw [if_neg (fun h => hyu (of_decide_eq_true h)), updM_ne hyu, d4 y d e, Option.map_some]
      rw [hcl y d e F3 _ (fun p hp => by rw [of_decide_eq_true hp]; exact hMu)]
    have henv2 : ∃ v, List.map (Option.map (subD F3 (updM M4 u UD))) [some (.cell s), some (.str tx), some (dN W.n), some (dN W.most), some B, some Fd, w6, w7, some RD, z9, some (.cell u), z11] = v ∧ v[0]? = some (some (.cell s)) ∧ v[10]? = some (some UD) := by
      refine ⟨_, rfl, ?_, ?_⟩
      · show some (some (subD F3 (updM M4 u UD) (.cell s))) = _
        show some (some (if F3 s = true then _ else D.cell s)) = _
        rw [F3s, if_neg Bool.false_ne_true]
      · show some (some (if F3 u = true then ((updM M4 u UD) u).getD (.cell u) else D.cell u)) = _
        rw [F3u, if_pos rfl, updM_same]
        rfl
    obtain ⟨v, hv1, hv2, hv3⟩ := henv2
    show dFldS _ _ (dVar 0) (dVar 10) (endsD Q) (List.map (Option.map (subD F3 (updM M4 u UD))) [some (.cell s), some (.str tx), some (dN W.n), some (dN W.most), some B, some Fd, w6, w7, some RD, z9, some (.cell u), z11]) (delF F3 (updM M4 u UD))
    rw [hv1]
    unfold dFldS dVar
    simp only [hv2, hv3]
    refine ⟨_, _, by rw [g5, ← hI8], by show 8 < 900; decide, ?_⟩
    rw [putFD_snoc (by decide) rfl]
    refine ⟨updM M s (D.ins C runF [.str (wtext W), dN W.n, dN W.most, B, Fd, Hd, dN z, RD, UD]), ?_, ?_⟩
    · intro y d e
      by_cases hys : y = s
      · rw [hys, updM_same] at e ⊢
        exact e
      · rw [updM_ne hys] at e ⊢
        exact d5 y d e
    · subst hB hF hHd hRD hUD
      refine q ⟨wtext W, W.fs, hm, z, _, _, um, ok.nd, hso, fun x => Iff.rfl, fun x hx j => ?_, hz, hrounds, fun b _ j => hum' b j⟩ rfl
      rw [hhm, lotOf_mem ok hx]
)
end
end K85

/-! part G19 -/
set_option maxHeartbeats 0
namespace K85
open PySem PySem.Spec PyProof.Rows L2 DL
section
variable {P : Program} {w : World} {K : PySem.W.Frag} {mg : Str → Option Value} {base : Heap}
def sp_law_of : SpD := fun ds M Q => ∃ b c xs, ds = [.cell b, .lst xs] ∧ BoxAt M b c ∧ 0 < xs.length ∧ xs.length < 1000000000 ∧ ∀ x M', x ∈ xs → BxR b c M M' → Q x M'
theorem len_law_of : ∀ ds M Q, sp_law_of ds M Q → ds.length = 2 := by
  rintro _ _ _ ⟨_, _, _, rfl, _⟩; rfl
theorem ok_law_of (T : Txt K mg) : FnD P w K mg base 2 T.law_of.f T.law_of.fd ["box", "things"] sp_law_of := okDk T.law_of.F sc_law_of len_law_of (fun cdv A outer s H E hr =>
        (dss_one (ds_ret (de_ix (dv 1) (de_call (ok_law_take T) (hr.mono (by decide)) (by rfl) T.law_take.g T.law_take.F.kp T.law_take.b (da_cons (dv 0) (da_cons (de_callB c_len (by rfl) T.b_len boot_len (da_cons (dv 1) da_nil)) da_nil)))))))
      (by
    rintro _ M Q ⟨b, c, xs, rfl, hb, h0, hl, q⟩
    conv => whnf
    refine ⟨b, c, xs.length, rfl, hb, h0, hl, fun r M' hr hM' => ?_⟩
    conv => whnf
    refine ⟨xs[r], atI_nat hr, ?_⟩
    exact ret_ok (q _ _ (List.getElem_mem _) hM')
)
abbrev nsT (x : D) : D := .tup [.str "NoSuch", .str "NoSuch", x, .bl true, .bl false]
abbrev downT : D := .tup [.str "Ended", .str "Ended", .str "down", .bl true, .bl false]
def sp_FallRun___eq__ (C : Addr) : SpD := fun ds M Q => ∃ (W : Wd) (R : Run W), (∃ (W2 : Wd) (R2 : Run W2), ds = [R.d C, R2.d C] ∧ Q (.bl (decide (R.tx = R2.tx))) M) ∨ ∃ z : Str, ds = [R.d C, .str z] ∧ Q (.bl false) M
theorem len_FallRun___eq__ (C : Addr) : ∀ ds M Q, sp_FallRun___eq__ C ds M Q → ds.length = 2 := by
  rintro _ _ _ ⟨_, _, ⟨_, _, rfl, _⟩ | ⟨_, rfl, _⟩⟩ <;> rfl
theorem ok_FallRun___eq__ (T : Txt K mg) : FnD P w K mg base 1 T.FallRun.eq_.f T.FallRun.eq_.fd ["self", "other"] (sp_FallRun___eq__ T.FallRun.C) := okDk T.FallRun.eq_.F sc_FallRun___eq__ (len_FallRun___eq__ T.FallRun.C) (fun cdv A outer s H E hr =>
        (dss_one (ds_ret (de_and (de_callB (c_isOwn T.FallRun.eqc T.FallRun.cl) (by rfl) T.b_isinstance boot_isinstance (da_cons (dv 1) (da_cons (de_globC (by rfl) T.FallRun.g) da_nil))) (de_one (de_cmp o_eq (de_fld T.FallRun.cl T.FallRun.n_text (dv 0)) (de_fld T.FallRun.cl T.FallRun.n_text (dv 1))))))))
      (by
    rintro _ M Q ⟨W, R, ⟨W2, R2, rfl, q⟩ | ⟨z, rfl, q⟩⟩
    · conv => whnf
      refine ⟨rfl, .inl ⟨⟨_, _, rfl⟩, ?_⟩⟩
      refine dT rfl ?_
      conv => whnf
      refine ⟨rfl, _, f_text, ?_⟩
      conv => whnf
      refine ⟨rfl, _, f_text, ?_⟩
      exact ret_ok q
    · conv => whnf
      refine ⟨rfl, .inr ⟨⟨_, rfl⟩, ?_⟩⟩
      refine dF rfl ?_
      exact ret_ok q
)
def sp_FallRun_fallen (C : Addr) : SpD := fun ds M Q => ∃ (W : Wd) (R : Run W), ds = [R.d C] ∧ R.fs.length ≤ 1000 ∧ ((∀ p, M p = none → Q (.cell p) (updM M p (.dic (R.fs.map fun x => kN x.1) (R.fs.map fT)))) ∨ Q (.dic (R.fs.map fun x => kN x.1) (R.fs.map fT)) M)
theorem len_FallRun_fallen (C : Addr) : ∀ ds M Q, sp_FallRun_fallen C ds M Q → ds.length = 1 := by
  rintro _ _ _ ⟨_, _, rfl, _⟩; rfl
theorem ok_FallRun_fallen (T : Txt K mg) : FnD P w K mg base 1 T.FallRun.fallen.f T.FallRun.fallen.fd ["self"] (sp_FallRun_fallen T.FallRun.C) := okDk T.FallRun.fallen.F sc_FallRun_fallen (len_FallRun_fallen T.FallRun.C) (fun cdv A outer s H E hr =>
        (dss_one (ds_either (ds_ret (de_dcItemsC (own := [("house", 1), ("fall", 2)]) rfl sc_FallRun_fallen.nd (dp_fld T.FallRun.cl T.FallRun.n_falls_ (dp_var 0)) (blkOk_by (by kernel_rfl)) (fun _ _ _ _ _ => pg_tup rfl (pgs_cons (pg_name (i := 1) sc_FallRun_fallen.nd rfl (by first | exact Or.inl rfl | exact Or.inr rfl)) (pgs_cons (pg_name (i := 2) sc_FallRun_fallen.nd rfl (by first | exact Or.inl rfl | exact Or.inr rfl)) pgs_nil))) (gw_pair (by decide) (by decide)) (fun _ _ _ _ _ => dts_nil) (fun _ _ _ _ _ => (dv 1)) (fun _ _ _ _ _ => (dv 2)))) (ds_ret (de_dcItems (own := [("house", 1), ("fall", 2)]) rfl sc_FallRun_fallen.nd (dp_fld T.FallRun.cl T.FallRun.n_falls_ (dp_var 0)) (blkOk_by (by kernel_rfl)) (fun _ _ _ _ _ => pg_tup rfl (pgs_cons (pg_name (i := 1) sc_FallRun_fallen.nd rfl (by first | exact Or.inl rfl | exact Or.inr rfl)) (pgs_cons (pg_name (i := 2) sc_FallRun_fallen.nd rfl (by first | exact Or.inl rfl | exact Or.inr rfl)) pgs_nil))) (gw_pair (by decide) (by decide)) (fun _ _ _ _ _ => dts_nil) (fun _ _ _ _ _ => (dv 1)) (fun _ _ _ _ _ => (dv 2)))))))
      (by
    rintro _ M Q ⟨W, R, rfl, hl, q | q⟩
    · refine .inl ?_
      refine ⟨R.fs.map fun x => kN x.1, R.fs.map fT, by show (if T.FallRun.C = T.FallRun.C then _ else none) = _; rw [if_pos rfl]; rfl, ?_⟩
      refine dc_fm R.fs (fun x => .tup [dN x.1, fT x]) (fun x => [some (R.d T.FallRun.C), some (dN x.1), some (fT x)]) (fun x => kN x.1) fT (items_map (fun x : Nat × Nat × List Nat => x.1) fT R.fs) (by omega) (nodup_kN (k := fun x : Nat × Nat × List Nat => x.1) R.ids) (fun _ _ => rfl) (fun _ _ K h => h) (fun x hx K hK => hK) (fun x hx K hK => hK) ?_
      intro p hp
      exact ret_ok (q p hp)
    · refine .inr ?_
      refine ⟨R.fs.map fun x => kN x.1, R.fs.map fT, by show (if T.FallRun.C = T.FallRun.C then _ else none) = _; rw [if_pos rfl]; rfl, ?_⟩
      refine dc_fm R.fs (fun x => .tup [dN x.1, fT x]) (fun x => [some (R.d T.FallRun.C), some (dN x.1), some (fT x)]) (fun x => kN x.1) fT (items_map (fun x : Nat × Nat × List Nat => x.1) fT R.fs) (by omega) (nodup_kN (k := fun x : Nat × Nat × List Nat => x.1) R.ids) (fun _ _ => rfl) (fun _ _ K h => h) (fun x hx K hK => hK) (fun x hx K hK => hK) ?_
      exact ret_ok q
)
def lotR (lp : List (Option Nat)) : D := if none ∈ lp then .non else .lst ((lp.filterMap id).map dN)
def sp_law_lot_of : SpD := fun ds M Q => ∃ x : Str, ds = [.str x] ∧ x.length ≤ 3000 ∧ Q (lotR (lotP x)) M
theorem len_law_lot_of : ∀ ds M Q, sp_law_lot_of ds M Q → ds.length = 1 := by
  rintro _ _ _ ⟨_, rfl, _⟩; rfl
theorem ok_law_lot_of (T : Txt K mg) : FnD P w K mg base 2 T.law_lot_of.f T.law_lot_of.fd ["token"] sp_law_lot_of := okDk T.law_lot_of.F sc_law_lot_of len_law_lot_of (fun cdv A outer s H E hr =>
        (dss_cons (ds_set (i := 1) sc_law_lot_of.nd (de_if (dt_cmp o_ne (dv 0) de_str) (de_lc (own := [("piece", 2)]) rfl sc_law_lot_of.nd (di_list (de_split (dv 0) de_str)) (blkOk_by (by kernel_rfl)) (fun _ _ _ _ _ => pg_name (i := 2) sc_law_lot_of.nd rfl (by first | exact Or.inl rfl | exact Or.inr rfl)) (gw_name (by decide)) (fun _ _ _ _ _ => dts_nil) (fun _ _ _ _ _ => (de_call (ok_law_digits T) (hr.mono (by decide)) (by rfl) T.law_digits.g T.law_digits.F.kp T.law_digits.b (da_cons (dv 2) da_nil)))) (de_lst da_nil)))
      (dss_one (ds_ret (de_if (dt_cmp o_in de_non (dv 1)) de_non (dv 1))))))
      (by
    rintro _ M Q ⟨x, rfl, hx, q⟩
    have hb := big
    have hlp : (lotP x).length ≤ 3001 := by have := lotP_len x; omega
    refine seq_cut (fun ρ' M' => M = M' ∧ ∃ z, ρ' = [some (.str x), some (.lst ((lotP x).map digD)), z]) (fun N hN => ?_) ?_
    · conv => whnf
      refine dN2 (fun e => ?_) (fun e => ?_)
      · conv => whnf
        refine ⟨?_, by omega, ?_⟩
        · have : (Str.ofString "+").length = 1 := by rw [TL.len_tl, tl_pls]; rfl
          rw [this]
          rfl
        have pc : Pcs 43 x (Txt.split x pls) := pcs tl_pls (by decide)
        have e' : ¬ x = sF "-" := e
        refine lc_m (Txt.split x pls) D.str (fun y => [some (.str x), none, some (.str y)]) (fun y => digD (dig y)) rfl (by have := pc.len; omega) (fun _ _ => rfl) (fun y hy K hK => ?_) ?_
        · exact ⟨y, rfl, by have := pc.pl y hy; omega, hK⟩
        · refine hN _ _ ⟨rfl, none, ?_⟩
          unfold lotP
          rw [if_neg e', List.map_map]
          rfl
      · refine ⟨lines _ (by show 0 ≤ _; omega), ?_⟩
        have e' : x = sF "-" := e
        refine hN _ _ ⟨rfl, none, ?_⟩
        unfold lotP
        rw [if_pos e']
        rfl
    rintro _ _ ⟨rfl, z, rfl⟩
    generalize lotP x = lp at hlp q ⊢
    refine ⟨rfl, flat_dig _, ?_⟩
    show dIte (inD .non (lp.map digD)) _ _
    rw [inD_none]
    unfold lotR at q
    refine d2 (fun e => ?_) (fun e => ?_)
    · rw [if_pos e] at q
      exact ret_ok q
    · rw [if_neg e] at q
      refine ret_ok ?_
      rw [somes e]
      exact q
)
def stks : List Key := ([Str.ofString "stage", Str.ofString "n", Str.ofString "most", Str.ofString "begins", Str.ofString "falls"] : List Str).map Sum.inr
def stD (s : RS) (fp : Addr) : D := .dic stks [dN s.stage, dN s.W.n, dN s.W.most, .lst (s.W.begins.map dN), .cell fp]
structure StC (sp fp : Addr) (M : Mp) (s : RS) : Prop where
  hs : M sp = some (stD s fp)
  hf : M fp = some (fsD s.W.fs)
  ne : sp ≠ fp
def StR (sp fp : Addr) (M M' : Mp) (s' : RS) : Prop := StC sp fp M' s' ∧ ∀ q, q ≠ sp → q ≠ fp → M' q = M q
theorem gS_stage {a b c d e : D} : getK stks [a, b, c, d, e] (.inr (Str.ofString "stage")) = some a := by rfl
theorem gS_n {a b c d e : D} : getK stks [a, b, c, d, e] (.inr (Str.ofString "n")) = some b := by rfl
theorem gS_most {a b c d e : D} : getK stks [a, b, c, d, e] (.inr (Str.ofString "most")) = some c := by rfl
theorem gS_begins {a b c d e : D} : getK stks [a, b, c, d, e] (.inr (Str.ofString "begins")) = some d := by rfl
theorem gS_falls {a b c d e : D} : getK stks [a, b, c, d, e] (.inr (Str.ofString "falls")) = some e := by rfl
def erD : Er → D
  | .w s => .str s
  | .m s k => .tup [.str s, dN k]
theorem rF_err {n most : Nat} {fs : List (Nat × Nat × List Nat)} {ts : List Str} {z : Er} (e : rF0 n fs ts = .error z) : rF n most fs ts = .error z := by
  unfold rF
  rw [e]
theorem cnt_nodup (l : List Nat) : (l.any fun j => decide (1 < l.count j)) = decide (¬ l.Nodup) := by
  rw [Bool.eq_iff_iff, List.any_eq_true, decide_eq_true_eq, List.nodup_iff_count]
  constructor
  · rintro ⟨j, hj, h⟩ z
    have := z j
    have := of_decide_eq_true h
    omega
  · intro h
    refine Classical.byContradiction fun z => h fun j => ?_
    refine Classical.byContradiction fun z2 => z ⟨j, ?_, decide_eq_true (by omega)⟩
    exact List.count_pos_iff.mp (by omega)
theorem cnt_cast (l : List Nat) (j : Nat) : (l.map fun (k : Nat) => (k : Int)).count (j : Int) = l.count j := by
  induction l with
  | nil => rfl
  | cons a r ih =>
    rw [List.map_cons, List.count_cons, List.count_cons, ih]
    have e : ((a : Int) == (j : Int)) = (a == j) := by
      rw [Bool.eq_iff_iff, beq_iff_eq, beq_iff_eq]
      omega
    rw [e]
def sp_law_fall_why : SpD := fun ds M Q => ∃ (ts : List Str) (sp fp : Addr) (s : RS), ds = [.cell sp, .lst (ts.map .str)] ∧ smalls ts ∧ StC sp fp M s ∧ s.W.Ok ∧
  match rF s.W.n s.W.most s.W.fs ts with
  | .error e => Q (erD e) M
  | .ok x => ∀ M', StR sp fp M M' ⟨s.stage, { s.W with fs := s.W.fs ++ [x] }⟩ → Q .non M'
theorem len_law_fall_why : ∀ ds M Q, sp_law_fall_why ds M Q → ds.length = 2 := by
  rintro _ _ _ ⟨_, _, _, _, rfl, _⟩; rfl
theorem ok_law_fall_why (T : Txt K mg) : FnD P w K mg base 3 T.law_fall_why.f T.law_fall_why.fd ["state", "pieces"] sp_law_fall_why := okDk T.law_fall_why.F sc_law_fall_why len_law_fall_why (fun cdv A outer s H E hr =>
        (dss_cons (ds_if (PWD.pt (dw_or (dt_cmp o_ne (de_callB c_len (by rfl) T.b_len boot_len (da_cons (dv 1) da_nil)) de_int) (dw_or1 (dt_cmp o_ne (de_ix (dv 1) de_int) de_str)))) (dss_one (ds_ret de_str)) dss_nil)
      (dss_cons (ds_asg (de_tup (da_cons (de_call (ok_law_digits T) (hr.mono (by decide)) (by rfl) T.law_digits.g T.law_digits.F.kp T.law_digits.b (da_cons (de_ix (dv 1) de_int) da_nil)) (da_cons (de_call (ok_law_digits T) (hr.mono (by decide)) (by rfl) T.law_digits.g T.law_digits.F.kp T.law_digits.b (da_cons (de_ix (dv 1) de_int) da_nil)) (da_cons (de_call (ok_law_lot_of T) (hr.mono (by decide)) (by rfl) T.law_lot_of.g T.law_lot_of.F.kp T.law_lot_of.b (da_cons (de_ix (dv 1) de_int) da_nil)) da_nil)))) (dg_tup (n := 3) rfl (dgs_cons (dg_name (i := 2) sc_law_fall_why.nd) (dgs_cons (dg_name (i := 3) sc_law_fall_why.nd) (dgs_cons (dg_name (i := 4) sc_law_fall_why.nd) dgs_nil)))))
      (dss_cons (ds_if (PWD.pt (dw_or (dt_cmp o_is (dv 2) de_non) (dw_or (dt_cmp o_is (dv 3) de_non) (dw_or (dt_cmp o_is (dv 4) de_non) (dw_or1 (dt_cmp o_eq (dv 3) de_int)))))) (dss_one (ds_ret de_str)) dss_nil)
      (dss_cons (ds_if (dt_cmp o_ge (de_callB (c_maxL rfl) (by rfl) T.b_max boot_max (da_cons (de_op o_catl (de_lst (da_cons (dv 2) da_nil)) (dv 4)) da_nil)) (de_get (hu_of (k := 0) (hr.mono (by decide))) (dv 0) de_str)) (dss_one (ds_ret de_str)) dss_nil)
      (dss_cons (ds_if (PWD.pt (dw_or (dt_din (hu_of (k := 0) (hr.mono (by decide))) (dv 2) (de_get (hu_of (k := 0) (hr.mono (by decide))) (dv 0) de_str)) (dw_or1 (dt_val (de_callB (c_any rfl) (by rfl) T.b_any boot_any (da_cons (de_lc (own := [("j", 5)]) rfl sc_law_fall_why.nd (di_list (dv 4)) (blkOk_by (by kernel_rfl)) (fun _ _ _ _ _ => pg_name (i := 5) sc_law_fall_why.nd rfl (by first | exact Or.inl rfl | exact Or.inr rfl)) (gw_name (by decide)) (fun _ _ _ _ _ => dts_nil) (fun _ _ _ _ _ => (de_cmp o_gt (de_count (dv 4) (dv 5)) de_int))) da_nil)))))) (dss_one (ds_ret de_str)) dss_nil)
      (dss_cons (ds_if (PWD.pt (dw_or (dt_cmp o_in (dv 2) (dv 4)) (dw_or1 (dt_cmp o_eq (de_callB c_len (by rfl) T.b_len boot_len (da_cons (dv 4) da_nil)) (de_op o_sub (de_get (hu_of (k := 0) (hr.mono (by decide))) (dv 0) de_str) de_int))))) (dss_one (ds_ret de_str)) dss_nil)
      (dss_cons (ds_if (dt_cmp o_ge (de_callB c_lenD (by rfl) T.b_len boot_len (da_cons (de_get (hu_of (k := 0) (hr.mono (by decide))) (dv 0) de_str) da_nil)) (de_get (hu_of (k := 0) (hr.mono (by decide))) (dv 0) de_str)) (dss_one (ds_ret de_str)) dss_nil)
      (dss_cons (ds_if (dt_cmp o_gt (dv 3) de_int) (dss_one (ds_ret (de_tup (da_cons de_str (da_cons (dv 3) da_nil))))) dss_nil)
      (dss_cons (ds_set (i := 6) sc_law_fall_why.nd (de_get (hu_of (k := 0) (hr.mono (by decide))) (dv 0) de_str))
      (dss_cons (ds_dput (hu_of (k := 0) (hr.mono (by decide))) (dv 6) (dv 2) (de_tup (da_cons (dv 3) (da_cons (de_callB c_sorted (by rfl) T.b_sorted boot_sorted (da_cons (dv 4) da_nil)) da_nil))))
      (dss_one (ds_ret de_non)))))))))))))
      (by
    rintro _ M Q ⟨ts, sp, fp, ⟨st, W⟩, rfl, ⟨hs1, hs2⟩, ⟨hcs, hcf, hne⟩, ok, q⟩
    have hb := big
    have ok : W.Ok := ok
    have n40 := ok.n40
    have hfl : W.fs.length ≤ 39 := by have := ok.len; have := ok.ml; omega
    dsimp only at q hcs hcf
    have ls : look M (.cell sp) = some (stD ⟨st, W⟩ fp) := hcs
    have lf : look M (.cell fp) = some (fsD W.fs) := hcf
    have qe : ∀ z, rF0 W.n W.fs ts = .error (.w z) → Q (.str z) M := fun z e => by
      rw [rF_err e] at q
      exact q
    refine seq_cut (fun ρ' M' => M = M' ∧ ts.length = 4 ∧ ts.head? = some (sF "fall") ∧ ρ' = [some (.cell sp), some (.lst (ts.map .str)), none, none, none, none, none]) (fun N hN => ?_) ?_
    · conv => whnf
      rw [strs_len]
      refine dN2 (fun e => ?_) (fun e => ?_)
      · refine dT rfl ?_
        exact ret_ok (qe _ (rF0_no fun z => e (by rw [z]; rfl)))
      have e' : ts.length = 4 := by have : (ts.length : Int) = 4 := e; omega
      obtain ⟨a, b, c, d, rfl⟩ := len_four e'
      conv => whnf
      refine ⟨.str a, rfl, ?_⟩
      refine dN2 (fun e2 => ?_) (fun e2 => ?_)
      · exact ret_ok (qe _ (if_neg e2))
      · exact hN _ _ ⟨rfl, rfl, congrArg some e2, rfl⟩
    rintro _ _ ⟨rfl, e4, eh, rfl⟩
    obtain ⟨a, b, c, d, rfl⟩ := len_four e4
    have ea : a = sF "fall" := Option.some.inj eh
    subst ea
    have e1 : rF0 W.n W.fs [sF "fall", b, c, d] = rF1 W.n W.fs (dig b) (dig c) (lotP d) := by
      show (if sF "fall" = sF "fall" then rF1 W.n W.fs (dig b) (dig c) (lotP d) else .error (.w (sF "form"))) = _
      exact if_pos rfl
    rw [e1] at qe
    have hb3 := hs2 b (by simp)
    have hc3 := hs2 c (by simp)
    have hd3 := hs2 d (by simp)
    have hlp : (lotP d).length ≤ 3001 := by have := lotP_len d; omega
    generalize hT : D.lst ([sF "fall", b, c, d].map .str) = Tk
    refine seq_cut (fun ρ' M' => M = M' ∧ ρ' = [some (.cell sp), some Tk, some (digD (dig b)), some (digD (dig c)), some (lotR (lotP d)), none, none]) (fun N hN => ?_) ?_
    · subst hT
      conv => whnf
      refine ⟨.str b, rfl, ?_⟩
      refine ⟨b, rfl, by omega, ?_⟩
      conv => whnf
      refine ⟨.str c, rfl, ?_⟩
      refine ⟨c, rfl, by omega, ?_⟩
      conv => whnf
      refine ⟨.str d, rfl, ?_⟩
      refine ⟨d, rfl, by omega, ?_⟩
      refine ⟨lines _ (by show 3 ≤ _; omega), ?_⟩
      conv => whnf
      refine ⟨rfl, ?_⟩
      exact hN _ _ ⟨rfl, rfl⟩
    rintro _ _ ⟨rfl, rfl⟩
    have e0 : rF W.n W.most W.fs [sF "fall", b, c, d] = match rF1 W.n W.fs (dig b) (dig c) (lotP d) with
      | .error e => .error e
      | .ok x => if W.most ≤ W.fs.length then .error (.w (sF "most")) else if 60 < x.2.1 then .error (.m (sF "beats") x.2.1) else .ok x := by
      unfold rF
      rw [e1]
      all_goals (cases rF1 W.n W.fs (dig b) (dig c) (lotP d) <;> rfl)
    rw [e0] at q
    clear e0 e1 e4 eh
    generalize lotP d = lp at q qe hlp
    generalize dig b = ob at q qe
    generalize dig c = oc at q qe
    refine seq_cut (fun ρ' M' => M = M' ∧ ∃ h t, ob = some h ∧ oc = some t ∧ t ≠ 0 ∧ none ∉ lp ∧ ρ' = [some (.cell sp), some Tk, some (dN h), some (dN t), some (nsD (lp.filterMap id)), none, none]) (fun N hN => ?_) ?_
    · cases ob with
      | none =>
        refine dT rfl ?_
        refine dT rfl ?_
        exact ret_ok (qe _ rfl)
      | some h =>
        refine dF rfl ?_
        cases oc with
        | none =>
          refine dT rfl ?_
          refine dT rfl ?_
          exact ret_ok (qe _ rfl)
        | some t =>
          refine dF rfl ?_
          by_cases hn : none ∈ lp
          · have el : lotR lp = .non := if_pos hn
            rw [el]
            refine dT rfl ?_
            refine dT rfl ?_
            exact ret_ok (qe _ (if_pos (.inr hn)))
          · have el : lotR lp = nsD (lp.filterMap id) := if_neg hn
            rw [el]
            refine dF rfl ?_
            refine d2 (fun e => ?_) (fun e => ?_)
            · have e' : t = 0 := by have : (t : Int) = 0 := e; omega
              exact ret_ok (qe _ (if_pos (.inl e')))
            · have e' : t ≠ 0 := by have : ¬ (t : Int) = 0 := e; omega
              exact hN _ _ ⟨rfl, h, t, rfl, rfl, e', hn, rfl⟩
    rintro _ _ ⟨rfl, h, t, rfl, rfl, ht0, hnn, rfl⟩
    have e2 : rF1 W.n W.fs (some h) (some t) lp = (rG W.n W.fs h (lp.filterMap id)).map fun l => (h, t, l) := if_neg fun z => z.elim ht0 hnn
    rw [e2] at q qe
    have hll : (lp.filterMap id).length ≤ 3001 := Nat.le_trans (List.length_filterMap_le _ _) hlp
    generalize lp.filterMap id = l at q qe hll
    have er : ∀ w, rG W.n W.fs h l = .error (.w w) → Q (.str w) M := fun w e => qe w (by rw [e]; rfl)
    clear e2 qe
    refine seq_cut (fun ρ' M' => M = M' ∧ ¬ (W.n ≤ h ∨ ∃ y ∈ l, W.n ≤ y) ∧ ρ' = [some (.cell sp), some Tk, some (dN h), some (dN t), some (nsD l), none, none]) (fun N hN => ?_) ?_
    · conv => whnf
      refine ⟨lines _ (by show 1 ≤ _; omega), ?_⟩
      conv => whnf
      refine ⟨by rw [List.length_map]; show 1 + _ ≤ _; omega, ?_⟩
      conv => whnf
      refine ⟨(h :: l).map fun (k : Nat) => (k : Int), ?_, by rw [List.length_map, List.length_cons]; omega, fun m hm hmax => ?_⟩
      · show some (D.lst ([dN h] ++ l.map dN)) = _
        rw [← dN_ints]
        rfl
      conv => whnf
      rw [ls]
      conv => whnf
      refine ⟨dN W.n, gS_n, ?_⟩
      have key : ((W.n : Int) ≤ m) ↔ (W.n ≤ h ∨ ∃ y ∈ l, W.n ≤ y) := by
        constructor
        · intro hle
          obtain ⟨y, hy, rfl⟩ := List.mem_map.mp hm
          rcases List.mem_cons.mp hy with rfl | hy
          · exact .inl (by omega)
          · exact .inr ⟨y, hy, by omega⟩
        · rintro (hle | ⟨y, hy, hle⟩)
          · have := hmax (h : Int) (List.mem_map.mpr ⟨h, List.mem_cons_self, rfl⟩)
            omega
          · have := hmax (y : Int) (List.mem_map.mpr ⟨y, List.mem_cons_of_mem _ hy, rfl⟩)
            omega
      refine d2 (fun e => ?_) (fun e => ?_)
      · exact ret_ok (er _ (if_pos (key.mp e)))
      · exact hN _ _ ⟨rfl, fun z => e (key.mpr z), rfl⟩
    rintro _ _ ⟨rfl, hr1, rfl⟩
    refine seq_cut (fun ρ' M' => M = M' ∧ ¬ (h ∈ W.fs.map (fun x => x.1) ∨ ¬ l.Nodup) ∧ ∃ z, ρ' = [some (.cell sp), some Tk, some (dN h), some (dN t), some (nsD l), z, none]) (fun N hN => ?_) ?_
    · conv => whnf
      rw [ls]
      conv => whnf
      refine ⟨.cell fp, gS_falls, ?_⟩
      conv => whnf
      rw [lf]
      conv => whnf
      rw [getK_in]
      refine d2 (fun e => ?_) (fun e => ?_)
      · refine dT rfl ?_
        exact ret_ok (er _ ((if_neg hr1).trans (if_pos (.inl e))))
      refine lc_m l dN (fun y => [some (.cell sp), some Tk, some (dN h), some (dN t), some (nsD l), some (dN y), none]) (fun j => .bl (decide (1 < l.count j))) rfl (by omega) (fun _ _ => rfl) (fun j hj K hK => ?_) ?_
      · conv => whnf
        refine ⟨⟨l.map fun (k : Nat) => (k : Int), by rw [← dN_ints]; rfl⟩, ?_⟩
        conv => whnf
        refine ⟨l.map fun (k : Nat) => (k : Int), (j : Int), by rw [← dN_ints]; rfl, rfl, ?_⟩
        rw [cnt_cast]
        show K (.bl (decide ((1 : Int) < (l.count j : Nat)))) M
        rw [show decide ((1 : Int) < ((l.count j : Nat) : Int)) = decide (1 < l.count j) from decide_eq_decide.mpr (by omega)]
        exact hK
      · conv => whnf
        refine ⟨l.map fun j => decide (1 < l.count j), by rw [List.map_map]; rfl, ?_⟩
        rw [show (l.map fun j => decide (1 < l.count j)).any id = l.any fun j => decide (1 < l.count j) from by rw [List.any_map]; rfl, cnt_nodup]
        refine d2 (fun e3 => ?_) (fun e3 => ?_)
        · exact ret_ok (er _ ((if_neg hr1).trans (if_pos (.inr e3))))
        · exact hN _ _ ⟨rfl, fun z => z.elim e e3, _, rfl⟩
    rintro _ _ ⟨rfl, hr2, z, rfl⟩
    refine seq_cut (fun ρ' M' => M = M' ∧ ¬ (h ∈ l ∨ l.length + 1 = W.n) ∧ ρ' = [some (.cell sp), some Tk, some (dN h), some (dN t), some (nsD l), z, none]) (fun N hN => ?_) ?_
    · refine ⟨rfl, flat_nat _, ?_⟩
      show dIte (inD (dN h) (l.map dN)) _ _
      rw [inD_nat]
      refine d2 (fun e => ?_) (fun e => ?_)
      · refine dT rfl ?_
        exact ret_ok (er _ ((if_neg hr1).trans ((if_neg hr2).trans (if_pos (.inl e)))))
      conv => whnf
      rw [List.length_map]
      conv => whnf
      rw [ls]
      conv => whnf
      refine ⟨dN W.n, gS_n, ?_⟩
      refine d2 (fun e2 => ?_) (fun e2 => ?_)
      · have e2' : l.length + 1 = W.n := by have : (l.length : Int) = (W.n : Int) - 1 := e2; omega
        exact ret_ok (er _ ((if_neg hr1).trans ((if_neg hr2).trans (if_pos (.inr e2')))))
      · have e2' : ¬ l.length + 1 = W.n := by have : ¬ (l.length : Int) = (W.n : Int) - 1 := e2; omega
        exact hN _ _ ⟨rfl, fun z => z.elim e e2', rfl⟩
    rintro _ _ ⟨rfl, hr3, rfl⟩
    have hnd : l.Nodup := Classical.byContradiction fun z => hr2 (.inr z)
    have eo : rG W.n W.fs h l = .ok (srt l) := (if_neg hr1).trans ((if_neg hr2).trans (if_neg hr3))
    have hl40 : l.length ≤ W.n := nodup_len W.n l hnd fun y hy => Nat.lt_of_not_le fun z => hr1 (.inr ⟨y, hy, z⟩)
    rw [eo] at q
    clear er
    have q2 : match (if W.most ≤ W.fs.length then .error (.w (sF "most")) else if 60 < t then .error (.m (sF "beats") t) else .ok (h, t, srt l) : Except Er (Nat × Nat × List Nat)) with
      | .error e => Q (erD e) M
      | .ok x => ∀ M', StR sp fp M M' ⟨st, { W with fs := W.fs ++ [x] }⟩ → Q .non M' := q
    clear q
    refine seq_cut (fun ρ' M' => M = M' ∧ ¬ W.most ≤ W.fs.length ∧ ρ' = [some (.cell sp), some Tk, some (dN h), some (dN t), some (nsD l), z, none]) (fun N hN => ?_) ?_
    · conv => whnf
      rw [ls]
      conv => whnf
      refine ⟨.cell fp, gS_falls, ?_⟩
      conv => whnf
      rw [lf]
      conv => whnf
      rw [List.length_map]
      conv => whnf
      rw [ls]
      conv => whnf
      refine ⟨dN W.most, gS_most, ?_⟩
      refine d2 (fun e => ?_) (fun e => ?_)
      · have e' : W.most ≤ W.fs.length := by have : (W.most : Int) ≤ (W.fs.length : Nat) := e; omega
        rw [if_pos e'] at q2
        exact ret_ok q2
      · have e' : ¬ W.most ≤ W.fs.length := by have : ¬ (W.most : Int) ≤ (W.fs.length : Nat) := e; omega
        exact hN _ _ ⟨rfl, e', rfl⟩
    rintro _ _ ⟨rfl, hm2, rfl⟩
    rw [if_neg hm2] at q2
    refine seq_cut (fun ρ' M' => M = M' ∧ ¬ 60 < t ∧ ρ' = [some (.cell sp), some Tk, some (dN h), some (dN t), some (nsD l), z, none]) (fun N hN => ?_) ?_
    · refine d2 (fun e => ?_) (fun e => ?_)
      · have e' : 60 < t := by have : (60 : Int) < t := e; omega
        rw [if_pos e'] at q2
        conv => whnf
        refine ⟨lines _ (by show 2 ≤ _; omega), ?_⟩
        exact ret_ok q2
      · have e' : ¬ 60 < t := by have : ¬ (60 : Int) < t := e; omega
        exact hN _ _ ⟨rfl, e', rfl⟩
    rintro _ _ ⟨rfl, h60, rfl⟩
    rw [if_neg h60] at q2
    dsimp only at q2
    have hnot : kN h ∉ W.fs.map fun x => kN x.1 := fun hm => by
      obtain ⟨y, hy, e⟩ := List.mem_map.mp hm
      exact hr2 (.inl (List.mem_map.mpr ⟨y, hy, kN_inj.mp e⟩))
    refine seq_cut (fun ρ' M' => M = M' ∧ ρ' = [some (.cell sp), some Tk, some (dN h), some (dN t), some (nsD l), z, some (.cell fp)]) (fun N hN => ?_) ?_
    · conv => whnf
      rw [ls]
      conv => whnf
      refine ⟨.cell fp, gS_falls, ?_⟩
      exact hN _ _ ⟨rfl, rfl⟩
    rintro _ _ ⟨rfl, rfl⟩
    refine seq_cut (fun ρ' M' => M' = updM M fp (fsD (W.fs ++ [(h, t, srt l)])) ∧ ρ' = [some (.cell sp), some Tk, some (dN h), some (dN t), some (nsD l), z, some (.cell fp)]) (fun N hN => ?_) ?_
    · conv => whnf
      refine ⟨l.map fun (k : Nat) => (k : Int), by rw [← dN_ints]; rfl, by rw [List.length_map]; omega, fun ns' hp' hs' => ?_⟩
      have hp4 : ns'.Perm ((srt l).map fun (k : Nat) => (k : Int)) := hp'.trans ((srt_perm l).symm.map _)
      rw [sorted_cast (srt_lt hnd) hp4 hs', ← dN_ints]
      refine And.intro (lines _ (by show 2 ≤ _; omega)) ?_
      conv => whnf
      refine ⟨_, _, hcf, nodup_kN (k := fun x : Nat × Nat × List Nat => x.1) ok.nd, by rw [List.length_map]; omega, ?_⟩
      refine hN _ _ ⟨?_, rfl⟩
      congr 1
      show D.dic (putKD (kN h) (fD (h, t, srt l)) _ _).1 (putKD (kN h) (fD (h, t, srt l)) _ _).2 = _
      rw [putKD_new hnot (by rw [List.length_map, List.length_map])]
      unfold fsD
      rw [List.map_append, List.map_append]
      rfl
    rintro _ _ ⟨rfl, rfl⟩
    refine ret_ok (q2 _ ⟨⟨?_, updM_same, hne⟩, fun q a1 a2 => updM_ne a2⟩)
    rw [updM_ne hne]
    exact hcs
)
end
end K85

/-! part V19 -/
set_option maxHeartbeats 0
namespace K85
open PySem PySem.Spec PyProof.Rows L2 DL
section
variable {P : Program} {w : World} {K : PySem.W.Frag} {mg : Str → Option Value} {base : Heap}
def okSame : Nat → D → Prop
  | 0, _ => False
  | _ + 1, .int _ => True
  | _ + 1, .non => True
  | _ + 1, .bl _ => True
  | _ + 1, .str _ => True
  | d + 1, .dic ks ds => ds.length ≤ 1000 ∧ ks.length = ds.length ∧ ks.Nodup ∧ (2 ≤ d ∨ (ks = [] ∧ 1 ≤ d)) ∧ (∀ x ∈ ds, okSame d x)
  | d + 1, .lst ds => ds.length ≤ 1000 ∧ ∀ x ∈ ds, okSame d x
  | d + 1, .tup ds => ds.length ≤ 1000 ∧ ∀ x ∈ ds, okSame d x
  | _, _ => False
def sp_law_same : Nat → SpD
  | 0 => fun _ _ _ => False
  | d + 1 => fun ds M Q => ∃ x, ds = [x, x] ∧ okSame (d + 1) x ∧ Q (.bl true) M
theorem same_up {d : Nat} {x : D} {M : Mp} {Q : DK} (h : okSame d x) (q : Q (.bl true) M) : sp_law_same d [x, x] M Q := by
  cases d with
  | zero => cases x <;> exact h.elim
  | succ d => exact ⟨x, rfl, h, q⟩
theorem len_law_same : ∀ d, ∀ ds M Q, sp_law_same (d + 1) ds M Q → ds.length = 2 := by
  rintro _ _ _ _ ⟨_, rfl, _⟩; rfl
theorem ne_bls (bs : List Bool) (hl : bs.length ≤ 3) {M : Mp} {Q : DK} (q : Q (.bl false) M) : dEqD true (.lst (bs.map .bl)) (.lst (bs.map .bl)) M Q := by
  have h1 : ∀ l : List Bool, pyDs (l.map .bl) = some (l.map .bool) := by
    intro l
    induction l with
    | nil => rfl
    | cons x r ih => rw [List.map_cons]; unfold pyDs; rw [ih]; rfl
  have h2 : ∀ l : List Bool, PyData.canLayAll0 (l.map .bool) = true ∧ PyData.depthAll (l.map .bool) ≤ 1 := by
    intro l
    induction l with
    | nil => simp [PyData.canLayAll0, PyData.depthAll]
    | cons x r ih =>
      rw [List.map_cons]
      refine ⟨by simp only [PyData.canLayAll0, PyData.canLay0, Bool.true_and]; exact ih.1, ?_⟩
      simp only [PyData.depthAll, PyData.depth]
      have := ih.2
      omega
  have hp : pyD (.lst (bs.map .bl)) = some (.list (bs.map .bool)) := by unfold pyD; rw [h1]; rfl
  have hs : SeqAt.shaped (.list (bs.map .bool)) = true := by
    obtain ⟨a, b⟩ := h2 bs
    unfold SeqAt.shaped
    simp only [PyData.canLay0, PyData.depth, a, Bool.true_and]
    exact decide_eq_true (by omega)
  refine ⟨_, _, hp, hp, hs, hs, ?_⟩
  have he : PyData.eqv (.list (bs.map .bool)) (.list (bs.map .bool)) = true := SeqAt.eqv_refl _ (by simp only [PyData.canLay0]; exact (h2 bs).1)
  rw [he]
  exact q
theorem all_tt {α : Type} {l : List α} {M : Mp} {Q : DK} (q : Q (.bl true) M) : cAll [.lst (l.map fun _ => D.bl true)] M Q := by
  refine ⟨l.map fun _ => true, by rw [List.map_map]; rfl, ?_⟩
  rw [show (l.map fun _ => true).all id = true from by rw [List.all_map, List.all_eq_true]; intro _ _; rfl]
  exact q
theorem getK_ex {k : Key} : ∀ {ks : List Key} {ds : List D}, k ∈ ks → ks.length = ds.length → ∃ x, getK ks ds k = some x ∧ x ∈ ds
  | [], _, h, _ => by cases h
  | _ :: _, [], _, h => by cases h
  | m :: ks, d :: ds, h, hl => by
    unfold getK
    by_cases e : m = k
    · rw [if_pos e]
      exact ⟨d, rfl, List.mem_cons_self⟩
    · rw [if_neg e]
      obtain ⟨x, h1, h2⟩ := getK_ex ((List.mem_cons.mp h).resolve_left fun z => e z.symm) (by simpa using hl)
      exact ⟨x, h1, List.mem_cons_of_mem _ h2⟩
theorem ok_law_same_at (T : Txt K mg) : ∀ d, FnD P w K mg base d T.law_same.f T.law_same.fd ["found", "due"] (sp_law_same d)
  | 0 => ⟨fun _ _ _ _ h => by obtain ⟨_, _, _, _, _, _, h, _⟩ := h; exact h.elim, fun _ _ _ _ _ _ _ _ _ _ _ _ _ h => by obtain ⟨_, _, _, _, _, _, h, _⟩ := h; exact h.elim⟩
  | d + 1 => have ih := ok_law_same_at T d
    okDk T.law_same.F sc_law_same (len_law_same d) (fun cdv A outer s H E hr =>
        (dss_cons (ds_if (PWD.pt (dw_or (dt_cmp o_is (dv 0) de_non) (dw_or1 (dt_cmp o_is (dv 1) de_non)))) (dss_one (ds_ret (de_and (de_cmp o_is (dv 0) de_non) (de_one (de_cmp o_is (dv 1) de_non))))) dss_nil)
      (dss_cons (ds_if (dt_val (de_callB c_isi (by rfl) T.b_isinstance boot_isinstance (da_cons (dv 1) (da_cons (de_ty (by rfl) T.b_dict boot_dict) da_nil)))) (dss_one (ds_ret (de_and (de_callB c_isi (by rfl) T.b_isinstance boot_isinstance (da_cons (dv 0) (da_cons (de_ty (by rfl) T.b_dict boot_dict) da_nil))) (de_and (de_call ih hr (by rfl) T.law_same.g T.law_same.F.kp T.law_same.b (da_cons (de_callTy (c_listD rfl) (by rfl) T.b_list boot_list (da_cons (dv 0) da_nil)) (da_cons (de_callTy (c_listD rfl) (by rfl) T.b_list boot_list (da_cons (dv 1) da_nil)) da_nil))) (de_one (de_callB (c_all rfl) (by rfl) T.b_all boot_all (da_cons (de_lcKeys (own := [("k", 2)]) rfl sc_law_same.nd (dp_var 1) (blkOk_by (by kernel_rfl)) (fun _ _ _ _ _ => pg_name (i := 2) sc_law_same.nd rfl (by first | exact Or.inl rfl | exact Or.inr rfl)) (gw_name (by decide)) (fun _ _ _ _ _ => dts_nil) (fun _ _ _ _ _ => (de_call ih hr (by rfl) T.law_same.g T.law_same.F.kp T.law_same.b (da_cons (de_get (hu_of (k := 0) (hr.mono (Nat.zero_le _))) (dv 0) (dv 2)) (da_cons (de_get (hu_of (k := 0) (hr.mono (Nat.zero_le _))) (dv 1) (dv 2)) da_nil))))) da_nil))))))) dss_nil)
      (dss_cons (ds_if (dt_val (de_callB c_isiT (by rfl) T.b_isinstance boot_isinstance (da_cons (dv 1) (da_cons (de_tup (da_cons (de_ty (by rfl) T.b_list boot_list) (da_cons (de_ty (by rfl) T.b_tuple boot_tuple) da_nil))) da_nil)))) (dss_cons (ds_if (dt_cmp (o_neD (hu64 (k := 0) (hr.mono (Nat.zero_le _)))) (de_lst (da_cons (de_callB c_isi (by rfl) T.b_isinstance boot_isinstance (da_cons (dv 0) (da_cons (de_ty (by rfl) T.b_list boot_list) da_nil))) (da_cons (de_callB c_isi (by rfl) T.b_isinstance boot_isinstance (da_cons (dv 0) (da_cons (de_ty (by rfl) T.b_tuple boot_tuple) da_nil))) da_nil))) (de_lst (da_cons (de_callB c_isi (by rfl) T.b_isinstance boot_isinstance (da_cons (dv 1) (da_cons (de_ty (by rfl) T.b_list boot_list) da_nil))) (da_cons (de_callB c_isi (by rfl) T.b_isinstance boot_isinstance (da_cons (dv 1) (da_cons (de_ty (by rfl) T.b_tuple boot_tuple) da_nil))) da_nil)))) (dss_one (ds_ret de_bl)) dss_nil)
      (dss_one (ds_ret (de_and (de_cmp o_eq (de_callB c_len (by rfl) T.b_len boot_len (da_cons (dv 0) da_nil)) (de_callB c_len (by rfl) T.b_len boot_len (da_cons (dv 1) da_nil))) (de_one (de_callB (c_all rfl) (by rfl) T.b_all boot_all (da_cons (de_lc (own := [("a", 3), ("b", 4)]) rfl sc_law_same.nd (di_zip (by rfl) T.b_zip (dv 0) (dv 1)) (blkOk_by (by kernel_rfl)) (fun _ _ _ _ _ => pg_tup rfl (pgs_cons (pg_name (i := 3) sc_law_same.nd rfl (by first | exact Or.inl rfl | exact Or.inr rfl)) (pgs_cons (pg_name (i := 4) sc_law_same.nd rfl (by first | exact Or.inl rfl | exact Or.inr rfl)) pgs_nil))) (gw_pair (by decide) (by decide)) (fun _ _ _ _ _ => dts_nil) (fun _ _ _ _ _ => (de_call ih hr (by rfl) T.law_same.g T.law_same.F.kp T.law_same.b (da_cons (dv 3) (da_cons (dv 4) da_nil))))) da_nil))))))) dss_nil)
      (dss_cons (ds_if (dt_cmp (o_neD (hu64 (k := 0) (hr.mono (Nat.zero_le _)))) (de_lst (da_cons (de_callB c_isi (by rfl) T.b_isinstance boot_isinstance (da_cons (dv 0) (da_cons (de_ty (by rfl) T.b_bool boot_bool) da_nil))) (da_cons (de_callB c_isi (by rfl) T.b_isinstance boot_isinstance (da_cons (dv 0) (da_cons (de_ty (by rfl) T.b_int boot_int) da_nil))) (da_cons (de_callB c_isi (by rfl) T.b_isinstance boot_isinstance (da_cons (dv 0) (da_cons (de_ty (by rfl) T.b_str boot_str) da_nil))) da_nil)))) (de_lst (da_cons (de_callB c_isi (by rfl) T.b_isinstance boot_isinstance (da_cons (dv 1) (da_cons (de_ty (by rfl) T.b_bool boot_bool) da_nil))) (da_cons (de_callB c_isi (by rfl) T.b_isinstance boot_isinstance (da_cons (dv 1) (da_cons (de_ty (by rfl) T.b_int boot_int) da_nil))) (da_cons (de_callB c_isi (by rfl) T.b_isinstance boot_isinstance (da_cons (dv 1) (da_cons (de_ty (by rfl) T.b_str boot_str) da_nil))) da_nil))))) (dss_one (ds_ret de_bl)) dss_nil)
      (dss_one (ds_ret (de_cmp o_eq (dv 0) (dv 1)))))))))
      (by
    rintro _ M Q ⟨x, rfl, hx, q⟩
    have hlist : ∀ (ds : List D) (y : D), (y = .lst ds ∨ y = .tup ds) → ds.length ≤ 1000 → (∀ x ∈ ds, okSame d x) → dAndV (dOp dEq (dCB cLen (dCons (dVar 0) dNil)) (dCB cLen (dCons (dVar 1) dNil))) (dCB cAll (dCons (dLc (diZip (dVar 0) (dVar 1)) (cgPair 3 4) dYes (dCall (sp_law_same d) (dCons (dVar 3) (dCons (dVar 4) dNil))) [3, 4]) dNil)) [some y, some y, none, none, none] M (endsD Q).rt := by
      intro ds y hy hl hall
      have zipe : List.zipWith (fun d e => D.tup [d, e]) ds ds = ds.map fun x => .tup [x, x] := by
        clear hl hall hy
        induction ds with
        | nil => rfl
        | cons a r ih => rw [List.zipWith_cons_cons, ih]; rfl
      have fin : dGather (List.zipWith (fun d e => D.tup [d, e]) ds ds) (cgPair 3 4) dYes (dCall (sp_law_same d) (dCons (dVar 3) (dCons (dVar 4) dNil))) [3, 4] [some y, some y, none, none, none] M fun acc M2 => cAll [.lst acc] M2 (endsD Q).rt := by
        refine lc_m ds (fun x => .tup [x, x]) (fun x => [some y, some y, none, some x, some x]) (fun _ => .bl true) zipe (by omega) (fun _ _ => rfl) (fun x hx K hK => ?_) ?_
        · exact same_up (hall x hx) hK
        · exact all_tt (ret_ok q)
      rcases hy with rfl | rfl
      · refine dT (decide_eq_true rfl) ?_
        exact fin
      · refine dT (decide_eq_true rfl) ?_
        exact fin
    cases x with
    | int i =>
      refine dF rfl ?_
      refine dF rfl ?_
      conv => whnf
      refine ⟨by decide, "int", rfl, ?_⟩
      refine dF rfl ?_
      conv => whnf
      refine ⟨lines _ (by show 2 ≤ _; omega), ?_⟩
      refine ⟨by decide, by decide, "int", rfl, ?_⟩
      refine dF rfl ?_
      conv => whnf
      refine ⟨by decide, "int", rfl, ?_⟩
      refine ⟨by decide, "int", rfl, ?_⟩
      refine ⟨by decide, "int", rfl, ?_⟩
      refine ⟨lines _ (by show 3 ≤ _; omega), ?_⟩
      conv => whnf
      refine ⟨by decide, "int", rfl, ?_⟩
      refine ⟨by decide, "int", rfl, ?_⟩
      refine ⟨by decide, "int", rfl, ?_⟩
      refine ⟨lines _ (by show 3 ≤ _; omega), ?_⟩
      refine ne_bls [kitD "int" "bool", kitD "int" "int", kitD "int" "str"] (by decide) ?_
      refine dF rfl ?_
      refine ret_ok ?_
      show Q (.bl (decide (i = i))) M
      rw [decide_eq_true rfl]
      exact q
    | lst ds =>
      refine dF rfl ?_
      refine dF rfl ?_
      conv => whnf
      refine ⟨by decide, "list", rfl, ?_⟩
      refine dF rfl ?_
      conv => whnf
      refine ⟨lines _ (by show 2 ≤ _; omega), ?_⟩
      refine ⟨by decide, by decide, "list", rfl, ?_⟩
      refine dT rfl ?_
      conv => whnf
      refine ⟨by decide, "list", rfl, ?_⟩
      refine ⟨by decide, "list", rfl, ?_⟩
      refine ⟨lines _ (by show 2 ≤ _; omega), ?_⟩
      conv => whnf
      refine ⟨by decide, "list", rfl, ?_⟩
      refine ⟨by decide, "list", rfl, ?_⟩
      refine ⟨lines _ (by show 2 ≤ _; omega), ?_⟩
      refine ne_bls [kitD "list" "list", kitD "list" "tuple"] (by decide) ?_
      refine dF rfl ?_
      exact hlist ds _ (.inl rfl) hx.1 hx.2
    | tup ds =>
      refine dF rfl ?_
      refine dF rfl ?_
      conv => whnf
      refine ⟨by decide, "tuple", rfl, ?_⟩
      refine dF rfl ?_
      conv => whnf
      refine ⟨lines _ (by show 2 ≤ _; omega), ?_⟩
      refine ⟨by decide, by decide, "tuple", rfl, ?_⟩
      refine dT rfl ?_
      conv => whnf
      refine ⟨by decide, "tuple", rfl, ?_⟩
      refine ⟨by decide, "tuple", rfl, ?_⟩
      refine ⟨lines _ (by show 2 ≤ _; omega), ?_⟩
      conv => whnf
      refine ⟨by decide, "tuple", rfl, ?_⟩
      refine ⟨by decide, "tuple", rfl, ?_⟩
      refine ⟨lines _ (by show 2 ≤ _; omega), ?_⟩
      refine ne_bls [kitD "tuple" "list", kitD "tuple" "tuple"] (by decide) ?_
      refine dF rfl ?_
      exact hlist ds _ (.inr rfl) hx.1 hx.2
    | non =>
      refine dT rfl ?_
      refine dT rfl ?_
      refine dT rfl ?_
      exact ret_ok q
    | bl i =>
      refine dF rfl ?_
      refine dF rfl ?_
      conv => whnf
      refine ⟨by decide, "bool", rfl, ?_⟩
      refine dF rfl ?_
      conv => whnf
      refine ⟨lines _ (by show 2 ≤ _; omega), ?_⟩
      refine ⟨by decide, by decide, "bool", rfl, ?_⟩
      refine dF rfl ?_
      conv => whnf
      refine ⟨by decide, "bool", rfl, ?_⟩
      refine ⟨by decide, "bool", rfl, ?_⟩
      refine ⟨by decide, "bool", rfl, ?_⟩
      refine ⟨lines _ (by show 3 ≤ _; omega), ?_⟩
      conv => whnf
      refine ⟨by decide, "bool", rfl, ?_⟩
      refine ⟨by decide, "bool", rfl, ?_⟩
      refine ⟨by decide, "bool", rfl, ?_⟩
      refine ⟨lines _ (by show 3 ≤ _; omega), ?_⟩
      refine ne_bls [kitD "bool" "bool", kitD "bool" "int", kitD "bool" "str"] (by decide) ?_
      refine dF rfl ?_
      refine ret_ok ?_
      show Q (.bl (decide (i = i))) M
      rw [decide_eq_true rfl]
      exact q
    | str i =>
      refine dF rfl ?_
      refine dF rfl ?_
      conv => whnf
      refine ⟨by decide, "str", rfl, ?_⟩
      refine dF rfl ?_
      conv => whnf
      refine ⟨lines _ (by show 2 ≤ _; omega), ?_⟩
      refine ⟨by decide, by decide, "str", rfl, ?_⟩
      refine dF rfl ?_
      conv => whnf
      refine ⟨by decide, "str", rfl, ?_⟩
      refine ⟨by decide, "str", rfl, ?_⟩
      refine ⟨by decide, "str", rfl, ?_⟩
      refine ⟨lines _ (by show 3 ≤ _; omega), ?_⟩
      conv => whnf
      refine ⟨by decide, "str", rfl, ?_⟩
      refine ⟨by decide, "str", rfl, ?_⟩
      refine ⟨by decide, "str", rfl, ?_⟩
      refine ⟨lines _ (by show 3 ≤ _; omega), ?_⟩
      refine ne_bls [kitD "str" "bool", kitD "str" "int", kitD "str" "str"] (by decide) ?_
      refine dF rfl ?_
      refine ret_ok ?_
      show Q (.bl (decide (i = i))) M
      rw [decide_eq_true rfl]
      exact q
    | ty b => exact hx.elim
    | cell b => exact hx.elim
    | dic ks ds =>
      obtain ⟨hl, hk, hnd, hd1, hall⟩ := hx
      refine dF rfl ?_
      refine dF rfl ?_
      conv => whnf
      refine ⟨by decide, "dict", rfl, ?_⟩
      refine dT rfl ?_
      conv => whnf
      refine ⟨by decide, "dict", rfl, ?_⟩
      refine dT rfl ?_
      refine same_up (x := .lst (ks.map keyOf)) ?_ ?_
      · rcases hd1 with hd1 | ⟨rfl, hd1⟩
        rotate_left
        · match d, hd1 with
          | d + 1, _ => exact ⟨Nat.zero_le _, fun y hy => (by cases hy)⟩
        match d, hd1 with
        | d + 2, _ =>
          refine ⟨by rw [List.length_map, hk]; exact hl, fun y hy => ?_⟩
          obtain ⟨k, _, rfl⟩ := List.mem_map.mp hy
          cases k <;> trivial
      refine dT rfl ?_
      refine ⟨ks, ds, rfl, ?_⟩
      refine lc_m ks keyOf (fun k => [some (.dic ks ds), some (.dic ks ds), some (keyOf k), none, none]) (fun _ => .bl true) rfl (by omega) (fun _ _ => rfl) (fun k hkm K hK => ?_) ?_
      · obtain ⟨x, hx1, hx2⟩ := getK_ex hkm hk
        cases k with
        | inl i =>
          conv => whnf
          refine ⟨x, hx1, ?_⟩
          conv => whnf
          refine ⟨x, hx1, ?_⟩
          exact same_up (hall x hx2) hK
        | inr i =>
          conv => whnf
          refine ⟨x, hx1, ?_⟩
          conv => whnf
          refine ⟨x, hx1, ?_⟩
          exact same_up (hall x hx2) hK
      · exact all_tt (ret_ok q)
    | ins b c e => exact hx.elim
    | exc b c e f h => exact hx.elim
)
theorem ok_law_same (T : Txt K mg) : FnD P w K mg base 5 T.law_same.f T.law_same.fd ["found", "due"] (sp_law_same 5) := ok_law_same_at T 5
end
end K85

/-! part F20 -/
set_option maxHeartbeats 0
namespace K85
open PySem PySem.Spec PyProof.Rows L2 DL
section
variable {P : Program} {w : World} {K : PySem.W.Frag} {mg : Str → Option Value} {base : Heap}
theorem perm_inv {α β : Type} {f : α → β} {ys zs : List β} (h : ys.Perm zs) : ∀ l : List α, zs = l.map f → ∃ tn : List α, ys = tn.map f ∧ tn.Perm l := by
  induction h with
  | nil => intro l e; exact ⟨[], rfl, by rw [List.map_eq_nil_iff.mp e.symm]⟩
  | cons x _ ih =>
    intro l e
    cases l with
    | nil => cases e
    | cons a r =>
      rw [List.map_cons] at e
      obtain ⟨e1, e2⟩ := List.cons.inj e
      obtain ⟨tn, h1, h2⟩ := ih r e2
      exact ⟨a :: tn, by rw [List.map_cons, h1, e1], h2.cons a⟩
  | swap x y l0 =>
    intro l e
    match l, e with
    | a :: a' :: r, e =>
      rw [List.map_cons, List.map_cons] at e
      obtain ⟨e1, e2⟩ := List.cons.inj e
      obtain ⟨e3, e4⟩ := List.cons.inj e2
      exact ⟨a' :: a :: r, by rw [List.map_cons, List.map_cons, e1, e3, e4], List.Perm.swap _ _ _⟩
    | [], e => cases e
    | [a], e => cases e
  | trans _ _ ih1 ih2 =>
    intro l e
    obtain ⟨t1, h1, h2⟩ := ih2 l e
    obtain ⟨t2, h3, h4⟩ := ih1 t1 h1
    exact ⟨t2, h3, h4.trans h2⟩
theorem sortL {l : List Nat} {ns : List Int} (hn : l.Nodup) (hp : ns.Perm (l.map fun (k : Nat) => (k : Int))) (hs : ns.Pairwise (· ≤ ·)) : ∃ l' : List Nat, ns = l'.map (fun (k : Nat) => (k : Int)) ∧ l'.Perm l ∧ l'.Pairwise (· < ·) := by
  obtain ⟨l', rfl, h2⟩ := perm_inv hp l rfl
  refine ⟨l', rfl, h2, ?_⟩
  rw [List.pairwise_map] at hs
  exact (List.pairwise_and_iff.mpr ⟨hs, h2.nodup_iff.mpr hn⟩).imp fun h => by omega
theorem cut_take (ds : List D) (k : Nat) : DL.cutD ds none (some (k : Int)) = ds.take k := by
  unfold DL.cutD
  rw [HT.sIx_none, HT.sIx_nat, List.drop_zero, Nat.sub_zero, List.take_eq_take_iff]
  omega
structure FsOk (n : Nat) (fs : List (Nat × Nat × List Nat)) : Prop where
  nd : (fs.map fun x => x.1).Nodup
  hn : ∀ x ∈ fs, x.1 < n
  t1 : ∀ x ∈ fs, 1 ≤ x.2.1 ∧ x.2.1 ≤ 60
  srt : ∀ x ∈ fs, x.2.2.Pairwise (· < ·)
  ln : ∀ x ∈ fs, ∀ y ∈ x.2.2, y < n ∧ y ≠ x.1
  ll : ∀ x ∈ fs, x.2.2.length + 2 ≤ n
theorem FsOk.snoc {n : Nat} {fs : List (Nat × Nat × List Nat)} (h : FsOk n fs) {x : Nat × Nat × List Nat} (h0 : ∀ y ∈ fs, y.1 ≠ x.1) (h1 : x.1 < n) (h2 : 1 ≤ x.2.1 ∧ x.2.1 ≤ 60) (h3 : x.2.2.Pairwise (· < ·)) (h4 : ∀ y ∈ x.2.2, y < n ∧ y ≠ x.1) (h5 : x.2.2.length + 2 ≤ n) : FsOk n (fs ++ [x]) where
  nd := by
    rw [List.map_append, List.nodup_append]
    refine ⟨h.nd, List.nodup_cons.mpr ⟨List.not_mem_nil, List.nodup_nil⟩, fun a ha b hb e => ?_⟩
    obtain ⟨y, hy, rfl⟩ := List.mem_map.mp ha
    rw [List.mem_singleton.mp hb] at e
    exact h0 y hy e
  hn := fun y hy => (List.mem_append.mp hy).elim (h.hn y) fun e => by rw [List.mem_singleton.mp e]; exact h1
  t1 := fun y hy => (List.mem_append.mp hy).elim (h.t1 y) fun e => by rw [List.mem_singleton.mp e]; exact h2
  srt := fun y hy => (List.mem_append.mp hy).elim (h.srt y) fun e => by rw [List.mem_singleton.mp e]; exact h3
  ln := fun y hy => (List.mem_append.mp hy).elim (h.ln y) fun e => by rw [List.mem_singleton.mp e]; exact h4
  ll := fun y hy => (List.mem_append.mp hy).elim (h.ll y) fun e => by rw [List.mem_singleton.mp e]; exact h5
/-- the state: the box may change, the cell p holds d -/
def Fw (b c p : Addr) (M M' : Mp) (d : D) : Prop := BoxAt M' b c ∧ M' p = some d ∧ ∀ q, q ≠ b → q ≠ c → q ≠ p → M' q = M q
theorem Fw.take {b c p : Addr} {M M1 M2 : Mp} {d : D} (h : Fw b c p M M1 d) (hb : p ≠ b) (hc : p ≠ c) (h2 : BxR b c M1 M2) : Fw b c p M M2 d :=
  ⟨h2.1, by rw [h2.2 p hb hc]; exact h.2.1, fun q a1 a2 a3 => by rw [h2.2 q a1 a2]; exact h.2.2 q a1 a2 a3⟩
theorem Fw.put {b c p : Addr} {M M1 : Mp} {d d' : D} (h : Fw b c p M M1 d) (hb : p ≠ b) (hc : p ≠ c) : Fw b c p M (updM M1 p d') d' :=
  ⟨h.1.other hb hc, updM_same, fun q a1 a2 a3 => by rw [updM_ne a3]; exact h.2.2 q a1 a2 a3⟩
theorem fsD_put {fs : List (Nat × Nat × List Nat)} {x : Nat × Nat × List Nat} (h0 : ∀ y ∈ fs, y.1 ≠ x.1) : D.dic (putKD (kN x.1) (fD x) (fs.map fun x => kN x.1) (fs.map fD)).1 (putKD (kN x.1) (fD x) (fs.map fun x => kN x.1) (fs.map fD)).2 = fsD (fs ++ [x]) := by
  rw [putKD_new (fun h => by obtain ⟨y, hy, e⟩ := List.mem_map.mp h; exact h0 y hy (kN_inj.mp e)) (by rw [List.length_map, List.length_map])]
  unfold fsD
  rw [List.map_append, List.map_append]
  rfl
theorem nat_get (l : List Nat) {k : Nat} (h : k < l.length) : atI (l.map dN) (k : Int) = some (dN (l[k]'h)) := by
  rw [atI_nat (by rw [List.length_map]; exact h), List.getElem_map]
/-- a world whose dict, beginnings and falls are cells -/
structure WCells (b c w bg fl : Addr) (M M' : Mp) (W : Wd) : Prop where
  box : BoxAt M' b c
  hw : M' w = some (.dic wks [dN W.n, dN W.most, .cell bg, .cell fl])
  hbg : M' bg = some (.lst (W.begins.map dN))
  hfl : M' fl = some (fsD W.fs)
  oth : ∀ q, q ≠ b → q ≠ c → q ≠ w → q ≠ bg → q ≠ fl → M' q = M q
  nw : M w = none
  nbg : M bg = none
  nfl : M fl = none
  bf : bg ≠ fl
  wb : w ≠ bg
  wf : w ≠ fl
def sp_law_fall_world : SpD := fun ds M Q => ∃ b c n, ds = [.cell b, dN n] ∧ BoxAt M b c ∧ 2 ≤ n ∧ n ≤ 40 ∧ ∀ W M' w bg fl, W.Ok → W.n = n → WCells b c w bg fl M M' W → Q (.cell w) M'
theorem len_law_fall_world : ∀ ds M Q, sp_law_fall_world ds M Q → ds.length = 2 := by
  rintro _ _ _ ⟨_, _, _, rfl, _⟩; rfl
theorem ok_law_fall_world (T : Txt K mg) : FnD P w K mg base 3 T.law_fall_world.f T.law_fall_world.fd ["box", "n"] sp_law_fall_world := okDk T.law_fall_world.F sc_law_fall_world len_law_fall_world (fun cdv A outer s H E hr =>
        (dss_cons (ds_asg (de_tup (da_cons (de_call (ok_law_mixed T) (hr.mono (by decide)) (by rfl) T.law_mixed.g T.law_mixed.F.kp T.law_mixed.b (da_cons (dv 0) (da_cons (de_listRg rfl (by rfl) T.b_list (by rfl) T.b_range (dv 1)) da_nil))) (da_cons (de_call (ok_law_take T) (hr.mono (by decide)) (by rfl) T.law_take.g T.law_take.F.kp T.law_take.b (da_cons (dv 0) (da_cons de_int da_nil))) (da_cons de_dnewC da_nil)))) (dg_tup (n := 3) rfl (dgs_cons (dg_name (i := 2) sc_law_fall_world.nd) (dgs_cons (dg_name (i := 3) sc_law_fall_world.nd) (dgs_cons (dg_name (i := 4) sc_law_fall_world.nd) dgs_nil)))))
      (dss_cons (ds_set (i := 5) sc_law_fall_world.nd (de_op o_sub (de_op o_sub (dv 1) de_int) (de_op o_mul (de_call (ok_law_take T) (hr.mono (by decide)) (by rfl) T.law_take.g T.law_take.F.kp T.law_take.b (da_cons (dv 0) (da_cons (dv 1) da_nil))) (de_callTy c_int (by rfl) T.b_int boot_int (da_cons (de_cmp o_eq (de_call (ok_law_take T) (hr.mono (by decide)) (by rfl) T.law_take.g T.law_take.F.kp T.law_take.b (da_cons (dv 0) (da_cons de_int da_nil))) de_int) da_nil)))))
      (dss_cons (ds_if (dt_cmp o_gt (dv 3) de_int) (dss_one (ds_for PassesOwn.never rfl (di_rng1 (by rfl) T.b_range (de_callB (c_min2 rfl) (by rfl) T.b_min boot_min (da_cons (dv 5) (da_cons (de_call (ok_law_take T) (hr.mono (by decide)) (by rfl) T.law_take.g T.law_take.F.kp T.law_take.b (da_cons (dv 0) (da_cons (de_callB (c_min2 rfl) (by rfl) T.b_min boot_min (da_cons (dv 1) (da_cons de_int da_nil))) da_nil))) da_nil)))) (dg_name (i := 6) sc_law_fall_world.nd) (dss_cons (ds_set (i := 7) sc_law_fall_world.nd (de_op o_catl (de_lst (da_cons (de_ix (dv 2) (de_op o_add (dv 6) de_int)) da_nil)) (de_lc (own := [("j", 8)]) rfl sc_law_fall_world.nd (di_list (dv 2)) (blkOk_by (by kernel_rfl)) (fun _ _ _ _ _ => pg_name (i := 8) sc_law_fall_world.nd rfl (by first | exact Or.inl rfl | exact Or.inr rfl)) (gw_name (by decide)) (fun _ _ _ _ _ => (dts_one (PWD.pt (dw_and (dt_cmp o_ne (dv 8) (de_ix (dv 2) (dv 6))) (dw_and (dt_cmp o_ne (dv 8) (de_ix (dv 2) (de_op o_add (dv 6) de_int))) (dw_and1 (dt_cmp o_eq (de_call (ok_law_take T) (hr.mono (by decide)) (by rfl) T.law_take.g T.law_take.F.kp T.law_take.b (da_cons (dv 0) (da_cons de_int da_nil))) de_int))))))) (fun _ _ _ _ _ => (dv 8)))))
      (dss_one (ds_dput (hu_of (k := 0) (hr.mono (by decide))) (dv 4) (de_ix (dv 2) (dv 6)) (de_tup (da_cons (de_op o_add (dv 6) de_int) (da_cons (de_callB c_sorted (by rfl) T.b_sorted boot_sorted (da_cons (de_sl (dv 7) do_none (do_some (de_op o_sub (dv 1) de_int))) da_nil)) da_nil)))))))) dss_nil)
      (dss_cons (ds_if (dt_cmp o_ne (dv 3) de_int) (dss_cons (ds_set (i := 9) sc_law_fall_world.nd (de_ix (de_lst (da_cons de_int (da_cons de_int (da_cons de_int (da_cons de_int da_nil))))) (de_call (ok_law_take T) (hr.mono (by decide)) (by rfl) T.law_take.g T.law_take.F.kp T.law_take.b (da_cons (dv 0) (da_cons de_int da_nil)))))
      (dss_one (ds_for PassesOwn.never rfl (di_list (de_sl (dv 2) do_none (do_some (de_call (ok_law_take T) (hr.mono (by decide)) (by rfl) T.law_take.g T.law_take.F.kp T.law_take.b (da_cons (dv 0) (da_cons (de_op o_add (de_callB (c_min2 rfl) (by rfl) T.b_min boot_min (da_cons (dv 5) (da_cons de_int da_nil))) de_int) da_nil)))))) (dg_name (i := 10) sc_law_fall_world.nd) (dss_one (ds_if (PWD.pt (dw_and (dt_dnotin (hu_of (k := 0) (hr.mono (by decide))) (dv 10) (dv 4)) (dw_and1 (dt_cmp o_lt (de_callB c_lenD (by rfl) T.b_len boot_len (da_cons (dv 4) da_nil)) (dv 5))))) (dss_cons (ds_set (i := 7) sc_law_fall_world.nd (de_call (ok_law_mixed T) (hr.mono (by decide)) (by rfl) T.law_mixed.g T.law_mixed.F.kp T.law_mixed.b (da_cons (dv 0) (da_cons (de_lc (own := [("j", 8)]) rfl sc_law_fall_world.nd (di_rng1 (by rfl) T.b_range (dv 1)) (blkOk_by (by kernel_rfl)) (fun _ _ _ _ _ => pg_name (i := 8) sc_law_fall_world.nd rfl (by first | exact Or.inl rfl | exact Or.inr rfl)) (gw_name (by decide)) (fun _ _ _ _ _ => (dts_one (dt_cmp o_ne (dv 8) (dv 10)))) (fun _ _ _ _ _ => (dv 8))) da_nil))))
      (dss_one (ds_dput (hu_of (k := 0) (hr.mono (by decide))) (dv 4) (dv 10) (de_tup (da_cons (de_op o_add de_int (de_call (ok_law_take T) (hr.mono (by decide)) (by rfl) T.law_take.g T.law_take.F.kp T.law_take.b (da_cons (dv 0) (da_cons (dv 9) da_nil)))) (da_cons (de_callB c_sorted (by rfl) T.b_sorted boot_sorted (da_cons (de_sl (dv 7) do_none (do_some (de_call (ok_law_take T) (hr.mono (by decide)) (by rfl) T.law_take.g T.law_take.F.kp T.law_take.b (da_cons (dv 0) (da_cons (de_op o_sub (dv 1) de_int) da_nil))))) da_nil)) da_nil)))))) dss_nil))))) dss_nil)
      (dss_cons (ds_par2 (i := 11) (j := 12) rfl sc_law_fall_world.nd rfl rfl (by decide) rfl rfl (de_call (ok_law_take T) (hr.mono (by decide)) (by rfl) T.law_take.g T.law_take.F.kp T.law_take.b (da_cons (dv 0) (da_cons de_int da_nil))) (de_lstC da_nil))
      (dss_cons (ds_for PassesOwn.never rfl (di_rng1 (by rfl) T.b_range (dv 1)) (dg_name (i := 10) sc_law_fall_world.nd) (dss_one (ds_expr (de_app (dv 12) (de_ix (de_lst (da_cons de_int (da_cons (de_op o_sub de_int (de_callTy c_int (by rfl) T.b_int boot_int (da_cons (de_cmp o_eq (dv 10) (de_ix (dv 2) de_int)) da_nil))) (da_cons (de_call (ok_law_take T) (hr.mono (by decide)) (by rfl) T.law_take.g T.law_take.F.kp T.law_take.b (da_cons (dv 0) (da_cons de_int da_nil))) (da_cons (de_op o_sub de_int (de_callTy c_int (by rfl) T.b_int boot_int (da_cons (de_cmp o_eq (de_call (ok_law_take T) (hr.mono (by decide)) (by rfl) T.law_take.g T.law_take.F.kp T.law_take.b (da_cons (dv 0) (da_cons (dv 1) da_nil))) de_int) da_nil))) da_nil))))) (dv 11))))))
      (dss_one (ds_ret (de_dispC (dpp_cons (dv 1) (dpp_cons (dv 5) (dpp_cons (dv 12) (dpp_cons (dv 4) dpp_nil))))))))))))))
      (by
    rintro _ M Q ⟨b, c, n, rfl, hb, h2, h40, q⟩
    have hbig := big
    refine seq_cut (fun ρ' M' => ∃ (fl : Addr) (tn : List Nat) (way : Nat), M fl = none ∧ tn.Perm (List.range n) ∧ way < 3 ∧ Fw b c fl M M' (fsD []) ∧ ρ' = [some (.cell b), some (dN n), some (.lst (tn.map dN)), some (dN way), some (.cell fl), none, none, none, none, none, none, none, none]) (fun N hN => ?_) ?_
    · refine ⟨⟨by omega, by omega, by omega⟩, ?_⟩
      rw [show ((n : Nat) : Int).toNat = n from Int.toNat_natCast _, rngD_map]
      refine ⟨b, c, (List.range n).map dN, rfl, hb, by rw [List.length_map, List.length_range]; omega, fun ys M1 hy hM1 => ?_⟩
      obtain ⟨tn, rfl, htn⟩ := perm_inv hy _ rfl
      refine ⟨b, c, 3, rfl, hM1.1, by decide, by decide, fun way M2 hway hM2 => ?_⟩
      intro fl hfl
      have hbox2 := hM2.1
      obtain ⟨hfb, hfc⟩ := hbox2.fresh hfl
      refine And.intro (lines _ (by show 3 ≤ _; omega)) ?_
      conv => whnf
      refine ⟨rfl, ?_⟩
      refine hN _ _ ⟨fl, tn, way, ?_, htn, hway, ⟨hbox2.other hfb hfc, updM_same, fun q a1 a2 a3 => ?_⟩, rfl⟩
      · rw [← (hM1.trans hM2).2 fl hfb hfc]; exact hfl
      · rw [updM_ne a3]; exact (hM1.trans hM2).2 q a1 a2
    rintro _ M1 ⟨fl, tn, way, hfl, htn, hway, hw1, rfl⟩
    obtain ⟨hfb, hfc⟩ := hb.fresh hfl
    have htl : tn.length = n := by rw [htn.length_eq, List.length_range]
    have htnd : tn.Nodup := htn.nodup_iff.mpr List.nodup_range
    have htlt : ∀ j ∈ tn, j < n := fun j hj => List.mem_range.mp (htn.mem_iff.mp hj)
    refine seq_cut (fun ρ' M' => ∃ most : Nat, most + 1 ≤ n ∧ Fw b c fl M M' (fsD []) ∧ ρ' = [some (.cell b), some (dN n), some (.lst (tn.map dN)), some (dN way), some (.cell fl), some (dN most), none, none, none, none, none, none, none]) (fun N hN => ?_) ?_
    · refine ⟨b, c, n, rfl, hw1.1, by omega, by omega, fun r M2 hr hM2 => ?_⟩
      refine ⟨b, c, 2, rfl, hM2.1, by decide, by decide, fun r2 M3 hr2 hM3 => ?_⟩
      refine And.intro (.inr (by split <;> exact ⟨by decide, by decide⟩)) ?_
      refine hN _ _ ⟨if r2 = 0 then n - 1 - r else n - 1, by split <;> omega, (hw1.take hfb hfc hM2).take hfb hfc hM3, ?_⟩
      show [some _, some _, some _, some _, some _, some (D.int ((n : Int) - 1 - (r : Int) * (if decide ((r2 : Int) = 0) = true then 1 else 0))), none, none, none, none, none, none, none] = _
      by_cases h0 : r2 = 0
      · rw [if_pos (decide_eq_true (show (r2 : Int) = 0 by omega)), if_pos h0, show ((n : Int) - 1 - (r : Int) * 1) = ((n - 1 - r : Nat) : Int) by omega]
        rfl
      · rw [if_neg (by rw [decide_eq_false (show ¬ (r2 : Int) = 0 by omega)]; exact Bool.false_ne_true), if_neg h0, show ((n : Int) - 1 - (r : Int) * 0) = ((n - 1 : Nat) : Int) by omega]
        rfl
    rintro _ M2 ⟨most, hmost, hw2, rfl⟩
    refine seq_cut (fun ρ' M' => ∃ fs : List (Nat × Nat × List Nat), FsOk n fs ∧ fs.length ≤ most ∧ Fw b c fl M M' (fsD fs) ∧ ∃ z6 z7 z8, ρ' = [some (.cell b), some (dN n), some (.lst (tn.map dN)), some (dN way), some (.cell fl), some (dN most), z6, z7, z8, none, none, none, none]) (fun N hN => ?_) ?_
    · have fs0 : FsOk n [] := ⟨List.nodup_nil, fun x h => (by cases h), fun x h => (by cases h), fun x h => (by cases h), fun x h => (by cases h), fun x h => (by cases h)⟩
      refine d2 (fun _ => ?_) (fun _ => hN _ _ ⟨[], fs0, Nat.zero_le _, hw2, _, _, _, rfl⟩)
      conv => whnf
      have emin : (if (9 : Int) < (n : Int) then (9 : Int) else (n : Int)) = ((min n 9 : Nat) : Int) := by split <;> omega
      rw [emin]
      refine ⟨b, c, min n 9, rfl, hw2.1, by omega, by omega, fun r M3 hr hM3 => ?_⟩
      have hw3 := hw2.take hfb hfc hM3
      have emin2 : (if ((r : Nat) : Int) < (most : Int) then ((r : Nat) : Int) else (most : Int)) = ((min most r : Nat) : Int) := by split <;> omega
      conv => whnf
      rw [emin2]
      generalize hkk : min most r = kk
      refine ⟨⟨by omega, by omega⟩, ?_⟩
      refine loop_l (List.range kk) dN (by rw [show ((kk : Nat) : Int).toNat = kk from Int.toNat_natCast _]; exact rngD_map _) (fun t ρ' M' => ∃ fs : List (Nat × Nat × List Nat), FsOk n fs ∧ fs.length ≤ t ∧ (∀ y ∈ fs, y.1 ∈ tn.take t) ∧ Fw b c fl M M' (fsD fs) ∧ ∃ z6 z7 z8, ρ' = [some (.cell b), some (dN n), some (.lst (tn.map dN)), some (dN way), some (.cell fl), some (dN most), z6, z7, z8, none, none, none, none]) ?_ ?_ ?_
      · exact ⟨[], fs0, Nat.le_refl _, fun y hy => (by cases hy), hw3, _, _, _, rfl⟩
      · rintro k x _ M4 ex hx ⟨fs, hfs, hfl2, hfk, hw4, z6, z7, z8, rfl⟩
        have hk : k < kk := by
          have := (List.getElem?_eq_some_iff.mp ex).1
          simpa using this
        rw [List.getElem?_range hk] at ex
        cases ex
        have hk1 : k + 1 < tn.length := by omega
        have hk0 : k < tn.length := by omega
        refine seq_cut (fun ρ' M' => ∃ lot : List Nat, lot.Nodup ∧ lot.length ≤ n ∧ (∀ y ∈ lot, y < n ∧ y ≠ tn[k]) ∧ Fw b c fl M M' (fsD fs) ∧ ∃ z8, ρ' = [some (.cell b), some (dN n), some (.lst (tn.map dN)), some (dN way), some (.cell fl), some (dN most), some (dN k), some (nsD lot), z8, none, none, none, none]) (fun N2 hN2 => ?_) ?_
        · conv => whnf
          refine ⟨dN tn[k + 1], nat_get tn hk1, ?_⟩
          refine ⟨lines _ (by show 1 ≤ _; omega), ?_⟩
          conv => whnf
          refine ⟨by rw [List.length_map]; omega, fun i acc M' => ∃ l' : List Nat, acc = l'.map dN ∧ l'.Sublist (tn.take i) ∧ (∀ y ∈ l', y ≠ tn[k] ∧ y ≠ tn[k + 1]) ∧ Fw b c fl M M' (fsD fs), ⟨[], rfl, List.nil_sublist _, fun y hy => (by cases hy), hw4⟩, ?_, ?_⟩
          · rintro i d acc M5 hd hal ⟨l', rfl, hsub, hne, hw5⟩
            rw [List.getElem?_map] at hd
            cases e : tn[i]? with
            | none => rw [e] at hd; cases hd
            | some y =>
              rw [e] at hd
              cases hd
              have htk : tn.take (i + 1) = tn.take i ++ [y] := by rw [List.take_succ, e]; rfl
              have skip : ∃ l'' : List Nat, l'.map dN = l''.map dN ∧ l''.Sublist (tn.take (i + 1)) ∧ (∀ y ∈ l'', y ≠ tn[k] ∧ y ≠ tn[k + 1]) ∧ ∀ M', Fw b c fl M M' (fsD fs) → Fw b c fl M M' (fsD fs) := ⟨l', rfl, by rw [htk]; exact hsub.trans (List.sublist_append_left _ _), hne, fun _ h => h⟩
              obtain ⟨l'', s1, s2, s3, _⟩ := skip
              refine ⟨_, rfl, ?_⟩
              conv => whnf
              refine ⟨dN tn[k], nat_get tn hk0, ?_⟩
              refine dN2 (fun e1 => ?_) (fun e1 => ?_)
              · conv => whnf
                refine ⟨dN tn[k + 1], nat_get tn hk1, ?_⟩
                refine dN2 (fun e2 => ?_) (fun e2 => ?_)
                · conv => whnf
                  refine ⟨b, c, 5, rfl, hw5.1, by decide, by decide, fun r5 M6 hr5 hM6 => ?_⟩
                  refine d2 (fun e3 => ?_) (fun e3 => ?_)
                  · refine ⟨l' ++ [y], by rw [List.map_append]; rfl, by rw [htk]; exact hsub.append (List.Sublist.refl _), fun u hu => ?_, hw5.take hfb hfc hM6⟩
                    rcases List.mem_append.mp hu with hu | hu
                    · exact hne u hu
                    · rw [List.mem_singleton.mp hu]
                      exact ⟨fun z => e1 (by rw [z]), fun z => e2 (by rw [z])⟩
                  · exact ⟨l'', s1, s2, s3, hw5.take hfb hfc hM6⟩
                · exact dF rfl ⟨l'', s1, s2, s3, hw5⟩
              · exact dF rfl ⟨l'', s1, s2, s3, hw5⟩
          · rintro acc M5 hal ⟨l', rfl, hsub, hne, hw5⟩
            rw [List.length_map, List.take_length] at hsub
            have hll : l'.length ≤ tn.length := hsub.length_le
            have hnd : (tn[k + 1] :: l').Nodup := List.nodup_cons.mpr ⟨fun h => (hne _ h).2 rfl, hsub.nodup htnd⟩
            have hkk1 : tn[k + 1] ≠ tn[k] := fun e => by
              have := (List.getElem_inj htnd).mp e
              omega
            have hlen : (tn[k + 1] :: l').length ≤ n := by
              have hsubs : ∀ y ∈ tn[k + 1] :: l', y ∈ List.range n := fun y hy => by
                rcases List.mem_cons.mp hy with rfl | hy
                · exact List.mem_range.mpr (htlt _ (List.getElem_mem _))
                · exact List.mem_range.mpr (htlt _ (hsub.mem hy))
              exact nodup_len n _ hnd fun y hy => List.mem_range.mp (hsubs y hy)
            conv => whnf
            refine ⟨by rw [List.length_map]; show 1 + _ ≤ _; omega, ?_⟩
            refine hN2 _ _ ⟨tn[k + 1] :: l', hnd, hlen, fun y hy => ?_, hw5, _, rfl⟩
            rcases List.mem_cons.mp hy with rfl | hy
            · exact ⟨htlt _ (List.getElem_mem _), hkk1⟩
            · exact ⟨htlt _ (hsub.mem hy), (hne y hy).1⟩
        rintro _ M5 ⟨lot, lnd, lln, lok, hw5, z8', rfl⟩
        conv => whnf
        rw [show ((n : Nat) : Int) - 2 = ((n - 2 : Nat) : Int) by omega, cut_take]
        refine ⟨(lot.take (n - 2)).map fun (k : Nat) => (k : Int), by rw [← dN_ints, List.map_take]; rfl, by rw [List.length_map, List.length_take]; omega, fun ns' hp' hs' => ?_⟩
        obtain ⟨ls, rfl, lp, lsort⟩ := sortL ((List.take_sublist _ _).nodup lnd) hp' hs'
        rw [← dN_ints]
        refine And.intro (lines _ (by show 2 ≤ _; omega)) ?_
        conv => whnf
        refine ⟨dN tn[k], nat_get tn hk0, ?_⟩
        have hnew : ∀ y ∈ fs, y.1 ≠ tn[k] := fun y hy e => by
          have h1 := hfk y hy
          rw [e] at h1
          obtain ⟨i, hi⟩ := List.getElem?_of_mem h1
          obtain ⟨h3, h4⟩ := List.getElem?_eq_some_iff.mp hi
          rw [List.getElem_take] at h4
          have := (List.getElem_inj htnd).mp h4
          rw [List.length_take] at h3
          omega
        conv => whnf
        refine ⟨_, _, hw5.2.1, nodup_kN (k := fun x : Nat × Nat × List Nat => x.1) hfs.nd, by rw [List.length_map]; omega, ?_⟩
        refine ⟨fs ++ [(tn[k], k + 1, ls)], hfs.snoc hnew (htlt _ (List.getElem_mem _)) ⟨by show 1 ≤ k + 1; omega, by show k + 1 ≤ 60; omega⟩ lsort (fun y hy => lok y (List.mem_of_mem_take (lp.mem_iff.mp hy))) (by have := lp.length_eq; rw [List.length_take] at this; show ls.length + 2 ≤ n; omega), by rw [List.length_append]; show fs.length + 1 ≤ _; omega, fun y hy => ?_, ?_, _, _, _, rfl⟩
        · rw [List.take_succ, List.getElem?_eq_getElem hk0]
          rcases List.mem_append.mp hy with hy | hy
          · exact List.mem_append_left _ (hfk y hy)
          · rw [List.mem_singleton.mp hy]
            exact List.mem_append_right _ (List.mem_singleton.mpr rfl)
        · rw [← fsD_put (x := (tn[k], k + 1, ls)) hnew]
          exact hw5.put hfb hfc
      · rintro _ M4 ⟨fs, hfs, hfl2, hfk, hw4, z6, z7, z8, rfl⟩
        rw [List.length_range] at hfl2
        exact hN _ _ ⟨fs, hfs, by omega, hw4, _, _, _, rfl⟩
    rintro _ M3 ⟨fs, hfs, hfln, hw3, z6, z7, z8, rfl⟩
    refine seq_cut (fun ρ' M' => ∃ fs : List (Nat × Nat × List Nat), FsOk n fs ∧ fs.length ≤ most ∧ Fw b c fl M M' (fsD fs) ∧ ∃ z6 z7 z8 z9 z10, ρ' = [some (.cell b), some (dN n), some (.lst (tn.map dN)), some (dN way), some (.cell fl), some (dN most), z6, z7, z8, z9, z10, none, none]) (fun N hN => ?_) ?_
    · refine dN2 (fun _ => ?_) (fun _ => hN _ _ ⟨fs, hfs, hfln, hw3, _, _, _, _, _, rfl⟩)
      refine seq_cut (fun ρ' M' => ∃ sp : Nat, 2 ≤ sp ∧ sp ≤ 60 ∧ Fw b c fl M M' (fsD fs) ∧ ρ' = [some (.cell b), some (dN n), some (.lst (tn.map dN)), some (dN way), some (.cell fl), some (dN most), z6, z7, z8, some (dN sp), none, none, none]) (fun N2 hN2 => ?_) ?_
      · refine And.intro (lines _ (by show 4 ≤ _; omega)) ?_
        refine ⟨b, c, 4, rfl, hw3.1, by decide, by decide, fun r M4 hr hM4 => ?_⟩
        have hsp : ∃ sp : Nat, 2 ≤ sp ∧ sp ≤ 60 ∧ atI [D.int 2, D.int 3, D.int 5, D.int 60] ((r : Nat) : Int) = some (dN sp) := by
          have : r = 0 ∨ r = 1 ∨ r = 2 ∨ r = 3 := by omega
          rcases this with rfl | rfl | rfl | rfl
          · exact ⟨2, by decide, by decide, by rw [atI_nat (by decide)]; rfl⟩
          · exact ⟨3, by decide, by decide, by rw [atI_nat (by decide)]; rfl⟩
          · exact ⟨5, by decide, by decide, by rw [atI_nat (by decide)]; rfl⟩
          · exact ⟨60, by decide, by decide, by rw [atI_nat (by decide)]; rfl⟩
        obtain ⟨sp, s1, s2, s3⟩ := hsp
        refine ⟨dN sp, s3, ?_⟩
        exact hN2 _ _ ⟨sp, s1, s2, hw3.take hfb hfc hM4, rfl⟩
      rintro _ M4 ⟨sp, hsp1, hsp2, hw4, rfl⟩
      conv => whnf
      have emin : (if (9 : Int) < (most : Int) then (9 : Int) else (most : Int)) + 1 = ((min most 9 + 1 : Nat) : Int) := by split <;> omega
      refine ⟨b, c, min most 9 + 1, by show [D.cell b, D.int ((if (9 : Int) < (most : Int) then (9 : Int) else (most : Int)) + 1)] = _; rw [emin]; rfl, hw4.1, by omega, by omega, fun r M5 hr hM5 => ?_⟩
      have hw5 := hw4.take hfb hfc hM5
      conv => whnf
      rw [cut_take]
      refine loop_l (tn.take r) dN (by rw [List.map_take]) (fun t ρ' M' => ∃ fs : List (Nat × Nat × List Nat), FsOk n fs ∧ fs.length ≤ most ∧ Fw b c fl M M' (fsD fs) ∧ ∃ z6 z7 z8 z10, ρ' = [some (.cell b), some (dN n), some (.lst (tn.map dN)), some (dN way), some (.cell fl), some (dN most), z6, z7, z8, some (dN sp), z10, none, none]) ?_ ?_ ?_
      · exact ⟨fs, hfs, hfln, hw5, _, _, _, _, rfl⟩
      · clear hw3 hw4 hw5 hfs hfln
        rintro t i _ M6 ex hx ⟨fs, hfs, hfln, hw6, y6, y7, y8, y10, rfl⟩
        have hin : i < n := htlt i (List.mem_of_mem_take hx)
        have l1 : look M6 (.cell fl) = some (.dic (fs.map fun x => kN x.1) (fs.map fD)) := hw6.2.1
        have skip : ∃ fs : List (Nat × Nat × List Nat), FsOk n fs ∧ fs.length ≤ most ∧ Fw b c fl M M6 (fsD fs) ∧ ∃ z6 z7 z8 z10, [some (D.cell b), some (dN n), some (.lst (tn.map dN)), some (dN way), some (.cell fl), some (dN most), y6, y7, y8, some (dN sp), some (dN i), none, none] = [some (.cell b), some (dN n), some (.lst (tn.map dN)), some (dN way), some (.cell fl), some (dN most), z6, z7, z8, some (dN sp), z10, none, none] := ⟨fs, hfs, hfln, hw6, _, _, _, _, rfl⟩
        conv => whnf
        rw [l1]
        conv => whnf
        have gk := getK_map (fun x : Nat × Nat × List Nat => x.1) fD i fs
        rw [show getK (fs.map fun x => kN x.1) (fs.map fD) (Sum.inl (i : Int)) = _ from gk]
        cases hf : (fs.find? fun x => x.1 == i) with
        | some y => exact dF rfl (dF rfl skip)
        | none =>
          have hnew : ∀ y ∈ fs, y.1 ≠ i := fun y hy e => by
            have := List.find?_eq_none.mp hf y hy
            rw [e, beq_self_eq_true] at this
            exact this rfl
          refine dT rfl ?_
          conv => whnf
          rw [l1]
          conv => whnf
          rw [List.length_map]
          refine d2 (fun e1 => ?_) (fun _ => skip)
          have e1' : fs.length < most := by omega
          refine seq_cut (fun ρ' M' => ∃ lot : List Nat, lot.Nodup ∧ (∀ y ∈ lot, y < n ∧ y ≠ i) ∧ Fw b c fl M M' (fsD fs) ∧ ∃ z6 z8, ρ' = [some (.cell b), some (dN n), some (.lst (tn.map dN)), some (dN way), some (.cell fl), some (dN most), z6, some (nsD lot), z8, some (dN sp), some (dN i), none, none]) (fun N3 hN3 => ?_) ?_
          · conv => whnf
            refine ⟨⟨by omega, by omega⟩, ?_⟩
            refine lc_fm (List.range n) dN (fun j => [some (.cell b), some (dN n), some (.lst (tn.map dN)), some (dN way), some (.cell fl), some (dN most), y6, y7, some (dN j), some (dN sp), some (dN i), none, none]) (fun j => !decide (j = i)) dN (by rw [show ((n : Nat) : Int).toNat = n from Int.toNat_natCast _]; exact rngD_map _) (by rw [List.length_range]; omega) (fun _ _ => rfl) (fun j hj K hK => ?_) (fun j _ _ K hK => hK) ?_
            · show K (!decide ((j : Int) = (i : Int))) _
              rw [show decide ((j : Int) = (i : Int)) = decide (j = i) from decide_eq_decide.mpr ⟨fun h => by omega, fun h => by omega⟩]
              exact hK
            · refine ⟨b, c, _, rfl, hw6.1, by rw [List.length_map]; exact Nat.lt_of_le_of_lt (List.length_filter_le _ _) (by rw [List.length_range]; omega), fun ys M7 hys hM7 => ?_⟩
              obtain ⟨lot, rfl, hlp⟩ := perm_inv hys _ rfl
              refine hN3 _ _ ⟨lot, hlp.nodup_iff.mpr (List.filter_sublist.nodup List.nodup_range), fun y hy => ?_, hw6.take hfb hfc hM7, _, _, rfl⟩
              obtain ⟨h1, h2⟩ := List.mem_filter.mp (hlp.mem_iff.mp hy)
              rw [Bool.not_eq_true', decide_eq_false_iff_not] at h2
              exact ⟨List.mem_range.mp h1, h2⟩
          rintro _ M7 ⟨lot, lnd, lok, hw7, y6', y8', rfl⟩
          refine ⟨b, c, sp, rfl, hw7.1, by omega, by omega, fun r1 M8 hr1 hM8 => ?_⟩
          have hw8 := hw7.take hfb hfc hM8
          refine ⟨b, c, n - 1, by show [D.cell b, D.int ((n : Int) - 1)] = _; rw [show ((n : Nat) : Int) - 1 = ((n - 1 : Nat) : Int) by omega]; rfl, hw8.1, by omega, by omega, fun r2 M9 hr2 hM9 => ?_⟩
          have hw9 := hw8.take hfb hfc hM9
          conv => whnf
          rw [cut_take]
          have hll := nodup_len n lot lnd fun y hy => (lok y hy).1
          refine ⟨(lot.take r2).map fun (k : Nat) => (k : Int), by rw [← dN_ints, List.map_take]; rfl, by rw [List.length_map, List.length_take]; omega, fun ns' hp' hs' => ?_⟩
          obtain ⟨ls, rfl, lp, lsort⟩ := sortL ((List.take_sublist _ _).nodup lnd) hp' hs'
          rw [← dN_ints]
          refine And.intro (lines _ (by show 2 ≤ _; omega)) ?_
          conv => whnf
          refine ⟨_, _, hw9.2.1, nodup_kN (k := fun x : Nat × Nat × List Nat => x.1) hfs.nd, by rw [List.length_map]; omega, ?_⟩
          refine ⟨fs ++ [(i, 1 + r1, ls)], hfs.snoc hnew hin ⟨by show 1 ≤ 1 + r1; omega, by show 1 + r1 ≤ 60; omega⟩ lsort (fun y hy => lok y (List.mem_of_mem_take (lp.mem_iff.mp hy))) (by have := lp.length_eq; rw [List.length_take] at this; show ls.length + 2 ≤ n; omega), by rw [List.length_append]; show fs.length + 1 ≤ _; omega, ?_, _, _, _, _, rfl⟩
          rw [← fsD_put (x := (i, 1 + r1, ls)) hnew]
          exact hw9.put hfb hfc
      · rintro _ M6 ⟨fs, hfs, hfln, hw6, y6, y7, y8, y10, rfl⟩
        exact hN _ _ ⟨fs, hfs, hfln, hw6, _, _, _, _, _, rfl⟩
    clear hw3 hfs hfln
    rintro _ M4 ⟨fs, hfs, hfln, hw4, y6, y7, y8, y9, y10, rfl⟩
    refine seq_cut (fun ρ' M' => ∃ (kind : Nat) (bg : Addr), kind < 4 ∧ M bg = none ∧ bg ≠ fl ∧ M' bg = some (.lst []) ∧ M' fl = some (fsD fs) ∧ BoxAt M' b c ∧ (∀ q, q ≠ b → q ≠ c → q ≠ fl → q ≠ bg → M' q = M q) ∧ ρ' = [some (.cell b), some (dN n), some (.lst (tn.map dN)), some (dN way), some (.cell fl), some (dN most), y6, y7, y8, y9, y10, some (dN kind), some (.cell bg)]) (fun N hN => ?_) ?_
    · refine ⟨b, c, 4, rfl, hw4.1, by decide, by decide, fun kind M5 hr hM5 => ?_⟩
      have hw5 := hw4.take hfb hfc hM5
      refine And.intro (lines _ (by show 0 ≤ _; omega)) ?_
      intro bg hbg
      obtain ⟨hgb, hgc⟩ := hw5.1.fresh hbg
      have hgf : bg ≠ fl := fun e => by rw [e, hw5.2.1] at hbg; cases hbg
      refine hN _ _ ⟨kind, bg, hr, ?_, hgf, updM_same, by rw [updM_ne hgf.symm]; exact hw5.2.1, hw5.1.other hgb hgc, fun q a1 a2 a3 a4 => by rw [updM_ne a4]; exact hw5.2.2 q a1 a2 a3, rfl⟩
      rw [← hw5.2.2 bg hgb hgc hgf]
      exact hbg
    rintro _ M5 ⟨kind, bg, hkind, hbg, hgf, g1, g2, g3, g4, rfl⟩
    obtain ⟨hgb, hgc⟩ := hb.fresh hbg
    refine seq_cut (fun ρ' M' => ∃ bs : List Nat, bs.length = n ∧ (∀ v ∈ bs, v = 0 ∨ v = 1) ∧ M' bg = some (.lst (bs.map dN)) ∧ M' fl = some (fsD fs) ∧ BoxAt M' b c ∧ (∀ q, q ≠ b → q ≠ c → q ≠ fl → q ≠ bg → M' q = M q) ∧ ∃ z10, ρ' = [some (.cell b), some (dN n), some (.lst (tn.map dN)), some (dN way), some (.cell fl), some (dN most), y6, y7, y8, y9, z10, some (dN kind), some (.cell bg)]) (fun N hN => ?_) ?_
    · conv => whnf
      refine ⟨⟨by omega, by omega⟩, ?_⟩
      refine loop_l (List.range n) dN (by rw [show ((n : Nat) : Int).toNat = n from Int.toNat_natCast _]; exact rngD_map _) (fun t ρ' M' => ∃ bs : List Nat, bs.length = t ∧ (∀ v ∈ bs, v = 0 ∨ v = 1) ∧ M' bg = some (.lst (bs.map dN)) ∧ M' fl = some (fsD fs) ∧ BoxAt M' b c ∧ (∀ q, q ≠ b → q ≠ c → q ≠ fl → q ≠ bg → M' q = M q) ∧ ∃ z10, ρ' = [some (.cell b), some (dN n), some (.lst (tn.map dN)), some (dN way), some (.cell fl), some (dN most), y6, y7, y8, y9, z10, some (dN kind), some (.cell bg)]) ?_ ?_ ?_
      · exact ⟨[], rfl, fun v h => (by cases h), g1, g2, g3, g4, _, rfl⟩
      · clear g1 g2 g3 g4
        rintro t x _ M6 ex hx ⟨bs, hbl, hb01, g1, g2, g3, g4, z10, rfl⟩
        have ht : t < n := by
          have := (List.getElem?_eq_some_iff.mp ex).1
          simpa using this
        rw [List.getElem?_range ht] at ex
        cases ex
        conv => whnf
        refine ⟨⟨_, g1⟩, ?_⟩
        conv => whnf
        refine ⟨dN tn[0], nat_get tn (k := 0) (by omega), ?_⟩
        refine ⟨b, c, 2, rfl, g3, by decide, by decide, fun r2 M7 hr2 hM7 => ?_⟩
        refine ⟨b, c, n, rfl, hM7.1, by omega, by omega, fun rn M8 hrn hM8 => ?_⟩
        have hB := hM7.trans hM8
        refine And.intro (lines _ (by show 4 ≤ _; omega)) ?_
        have h01 : ∀ k : Bool, ∃ v : Nat, (v = 0 ∨ v = 1) ∧ D.int (1 - (if k = true then 1 else 0)) = dN v := fun k => by
          cases k
          · exact ⟨1, .inr rfl, rfl⟩
          · exact ⟨0, .inl rfl, rfl⟩
        obtain ⟨v1, hv1, ev1⟩ := h01 (decide ((t : Int) = (tn[0] : Int)))
        obtain ⟨v3, hv3, ev3⟩ := h01 (decide ((rn : Int) = 0))
        have hat : ∃ v : Nat, (v = 0 ∨ v = 1) ∧ atI [D.int 1, D.int (1 - (if decide ((t : Int) = (tn[0] : Int)) = true then 1 else 0)), dN r2, D.int (1 - (if decide ((rn : Int) = 0) = true then 1 else 0))] ((kind : Nat) : Int) = some (dN v) := by
          rw [ev1, ev3]
          have : kind = 0 ∨ kind = 1 ∨ kind = 2 ∨ kind = 3 := by omega
          rcases this with rfl | rfl | rfl | rfl
          · exact ⟨1, .inr rfl, by rw [atI_nat (by show 0 < 4; decide)]; rfl⟩
          · exact ⟨v1, hv1, by rw [atI_nat (by show 1 < 4; decide)]; rfl⟩
          · exact ⟨r2, by omega, by rw [atI_nat (by show 2 < 4; decide)]; rfl⟩
          · exact ⟨v3, hv3, by rw [atI_nat (by show 3 < 4; decide)]; rfl⟩
        obtain ⟨v, hv, ev⟩ := hat
        refine ⟨dN v, ev, ?_⟩
        refine ⟨bs.map dN, by rw [hB.2 bg hgb hgc]; exact g1, by rw [List.length_map]; omega, ?_⟩
        refine ⟨bs ++ [v], by rw [List.length_append, hbl]; rfl, fun u hu => ?_, by rw [updM_same, List.map_append]; rfl, by rw [updM_ne hgf.symm, hB.2 fl hfb hfc]; exact g2, hB.1.other hgb hgc, fun q a1 a2 a3 a4 => by rw [updM_ne a4, hB.2 q a1 a2]; exact g4 q a1 a2 a3 a4, _, rfl⟩
        rcases List.mem_append.mp hu with hu | hu
        · exact hb01 u hu
        · rw [List.mem_singleton.mp hu]; exact hv
      · rintro _ M6 ⟨bs, hbl, hb01, g1, g2, g3, g4, z10, rfl⟩
        rw [List.length_range] at hbl
        exact hN _ _ ⟨bs, hbl, hb01, g1, g2, g3, g4, _, rfl⟩
    clear g1 g2 g3 g4
    rintro _ M6 ⟨bs, hbl, hb01, g1, g2, g3, g4, z10, rfl⟩
    conv => whnf
    intro w hw
    have hwf : w ≠ fl := fun e => by rw [e, g2] at hw; cases hw
    have hwb : w ≠ bg := fun e => by rw [e, g1] at hw; cases hw
    obtain ⟨hwB, hwC⟩ := g3.fresh hw
    refine ret_ok (q ⟨n, most, bs, fs⟩ _ w bg fl ⟨h2, h40, hmost, hbl, hb01, hfs.nd, hfln, hfs.hn, hfs.t1, hfs.srt, hfs.ln, hfs.ll⟩ rfl ⟨g3.other hwB hwC, updM_same, ?_, ?_, fun q a1 a2 a3 a4 a5 => ?_, ?_, hbg, hfl, hgf, hwb, hwf⟩)
    · rw [updM_ne hwb.symm]; exact g1
    · rw [updM_ne hwf.symm]; exact g2
    · rw [updM_ne a3]; exact g4 q a1 a2 a5 a4
    · rw [← g4 w hwB hwC hwf hwb]; exact hw
)
end
end K85

/-! part Q21 -/
set_option maxHeartbeats 0
namespace K85
open PySem PySem.Spec PyProof.Rows L2 DL
section
variable {P : Program} {w : World} {K : PySem.W.Frag} {mg : Str → Option Value} {base : Heap}
theorem nodup_sub_len : ∀ (l l2 : List Nat), l.Nodup → (∀ x ∈ l, x ∈ l2) → l.length ≤ l2.length
  | [], _, _, _ => Nat.zero_le _
  | x :: r, l2, nd, h => by
    rw [List.nodup_cons] at nd
    have hx := h x List.mem_cons_self
    have := nodup_sub_len r (l2.erase x) nd.2 fun y hy => (List.mem_erase_of_ne fun e => nd.1 (by rw [← e]; exact hy)).mpr (h y (List.mem_cons_of_mem _ hy))
    rw [List.length_erase_of_mem hx] at this
    have hpos := List.length_pos_of_mem hx
    rw [List.length_cons]
    omega
theorem true_up {W : Wd} {i : Nat} (h : W.fall i = none) (m : Nat) : W.up i m = true := by unfold Wd.up; rw [h]
theorem chain {W : Wd} {i m i' m' : Nat} (hi : i < W.n) (hup : W.up i m = true) (hi' : i' < W.n) (hup' : W.up i' m' = true) : ∀ c, c ≤ m → c ≤ m' → (∀ j, j ∈ W.row i m c → j ∈ W.row i' m' c) → ∀ j, j ∈ W.row i m 0 → j ∈ W.row i' m' 0
  | 0, _, _, h => h
  | c + 1, h1, h2, h => chain hi hup hi' hup' c (by omega) (by omega) fun j hj => by
    rw [row_iff hi hup (by omega)] at hj
    rw [row_iff hi' hup' (by omega)]
    refine ⟨hj.1, ?_⟩
    rcases hj.2 with hj | ⟨x, e1, e2, k, k1, k2⟩
    · exact .inl hj
    · exact .inr ⟨x, e1, e2, k, h k k1, k2⟩
/-- who knows that nobody is hidden at b sees all that is up at b -/
theorem hid_none {W : Wd} {i m b : Nat} (hi : i < W.n) (hup : W.up i m = true) (hb : b ≤ m) (h : ∀ j, ¬ W.isHid (W.rows i m) i b j) {j : Nat} (hj : j < W.n) (hju : W.up j b = true) : j ∈ W.row i m b := by
  refine Classical.byContradiction fun hn => h j ?_
  refine ⟨hj, fun e => hn (by rw [e]; exact row_self hi), fun b' q1 q2 q3 => ?_, fun b' q1 q2 q3 => ?_⟩
  · rw [rows_len] at q2
    rw [rows_get (by omega)] at q3
    exact hn (row_mono hi (d := b' - b) (b := b) (by omega) (by rw [show b + (b' - b) = b' by omega]; exact q3))
  · rw [rows_len] at q3
    cases e : W.bad (W.rows i m) j b' with
    | false => rfl
    | true =>
      obtain ⟨k, _, _, x, hx, h1, _⟩ := (bad_iff hi hup q1 (by omega)).mp e
      unfold Wd.up at hju
      rw [hx] at hju
      have := of_decide_eq_true hju
      omega
theorem zero_moves {W : Wd} {i m i' m' : Nat} (hi : i < W.n) (ht : W.fall i = none) (hi' : i' < W.n) (ht' : W.fall i' = none) (hz : W.Z i m = true) (hH : W.H i' m') : W.Z i' m' = true := by
  obtain ⟨b, hb, hno⟩ := hH
  have hall : ∀ j, j < W.n → W.up j b = true → j ∈ W.row i' m' b := fun j h1 h2 => hid_none hi' (true_up ht' m') hb hno h1 h2
  have hsub : ∀ j, j ∈ W.row i m 0 → j ∈ W.row i' m' 0 := by
    by_cases hmb : m ≤ b
    · refine chain hi (true_up ht m) hi' (true_up ht' m') m (Nat.le_refl _) (by omega) fun j hj => ?_
      rw [row_top, List.mem_singleton] at hj
      rw [hj]
      exact row_mono hi' (d := b - m) (b := m) (by omega) (by rw [show m + (b - m) = b by omega]; exact hall i hi (true_up ht b))
    · exact chain hi (true_up ht m) hi' (true_up ht' m') b (by omega) hb fun j hj => hall j (row_lt hi hj) (row_up hi (true_up ht m) (by omega) hj)
  unfold Wd.Z Wd.zer at hz ⊢
  rw [List.any_eq_true] at hz ⊢
  obtain ⟨j, h1, h2⟩ := hz
  exact ⟨j, hsub j h1, h2⟩
theorem hid_turn {W : Wd} (ok : W.Ok) {i m b j : Nat} (hi : i < W.n) (hup : W.up i m = true) (hb : b < m) (h : W.isHid (W.rows i m) i b j) : ∃ x, x ∈ W.fs ∧ x.1 = j ∧ ((x.2.1 = b ∧ ∀ k, k ∈ W.row i m b → k ∈ x.2.2) ∨ (x.2.1 = b + 1 ∧ ¬ ∃ k, k ∈ W.row i m (b + 1) ∧ k ∈ x.2.2)) := by
  obtain ⟨h1, h2, h3, h4⟩ := h
  have h3b : j ∉ W.row i m b := by
    have := h3 b (Nat.le_refl _) (by rw [rows_len]; omega)
    rw [rows_get (by omega)] at this
    exact this
  rw [row_iff hi hup hb] at h3b
  have h5 : ¬ W.up j (b + 1) = true := fun z => h3b ⟨h1, .inl z⟩
  cases e : W.fall j with
  | none => exact absurd (true_up e _) h5
  | some x =>
    obtain ⟨e1, e2⟩ := Wd.of_fall e
    have ht1 := (ok.t1 x e1).1
    have h6 : x.2.1 ≤ b + 1 := by
      refine Classical.byContradiction fun z => h5 ?_
      unfold Wd.up
      rw [e]
      exact decide_eq_true (by omega)
    have h7 : ¬ x.2.1 < b := fun z => by
      have := h4 (x.2.1 + 1) (by omega) (by omega) (by rw [rows_len]; omega)
      rw [(bad_iff hi hup (by omega) (by omega)).mpr ⟨i, row_self hi, fun z2 => h2 z2.symm, x, e, by omega, by omega⟩] at this
      cases this
    refine ⟨x, e1, e2, ?_⟩
    by_cases h8 : x.2.1 = b
    · refine .inl ⟨h8, fun k hk => Classical.byContradiction fun z => ?_⟩
      have := h4 b (by omega) (Nat.le_refl _) (by rw [rows_len]; omega)
      rw [(bad_iff hi hup (by omega) (by omega)).mpr ⟨k, hk, fun ek => ?_, x, e, by omega, fun z2 => z z2.2⟩] at this
      · cases this
      · have hu := row_up hi hup (by omega) hk
        unfold Wd.up at hu
        rw [ek, e] at hu
        have := of_decide_eq_true hu
        omega
    · refine .inr ⟨by omega, fun ⟨k, k1, k2⟩ => h3b ⟨h1, .inr ⟨x, e, by omega, k, k1, k2⟩⟩⟩
theorem H_end {W : Wd} (ok : W.Ok) {i : Nat} (hi : i < W.n) (hup : W.up i (W.fs.length + 1) = true) : W.H i (W.fs.length + 1) := by
  refine Classical.byContradiction fun hn => ?_
  have hall : ∀ b, b ≤ W.fs.length + 1 → ∃ j, W.isHid (W.rows i (W.fs.length + 1)) i b j := fun b hb => Classical.byContradiction fun z => hn ⟨b, hb, fun j hj => z ⟨j, hj⟩⟩
  have hch : ∃ f : Nat → Nat, ∀ b, b ≤ W.fs.length + 1 → W.isHid (W.rows i (W.fs.length + 1)) i b (f b) := by
    refine ⟨fun b => if h : b ≤ W.fs.length + 1 then Classical.choose (hall b h) else 0, fun b hb => ?_⟩
    dsimp only
    rw [dif_pos hb]
    exact Classical.choose_spec (hall b hb)
  obtain ⟨f, hf⟩ := hch
  have hinj : ∀ b1 b2, b1 < b2 → b2 < W.fs.length + 1 → f b1 ≠ f b2 := fun b1 b2 h1 h2 e => by
    obtain ⟨x, x1, x2, x3⟩ := hid_turn ok hi hup (by omega) (hf b1 (by omega))
    obtain ⟨y, y1, y2, y3⟩ := hid_turn ok hi hup (by omega) (hf b2 (by omega))
    have hxy : x = y := by
      have a := Wd.fall_of ok.nd x1
      have b := Wd.fall_of ok.nd y1
      rw [x2, e, ← y2, b] at a
      exact (Option.some.inj a).symm
    subst hxy
    rcases x3 with ⟨a1, a2⟩ | ⟨a1, a2⟩ <;> rcases y3 with ⟨b3, b4⟩ | ⟨b3, b4⟩
    · omega
    · omega
    · exact a2 ⟨i, row_self hi, b4 i (row_self hi)⟩
    · omega
  have hnd : ((List.range (W.fs.length + 1)).map f).Nodup := by
    unfold List.Nodup
    rw [List.pairwise_map]
    refine List.Pairwise.imp_of_mem ?_ List.pairwise_lt_range
    intro a b ha hb hab
    exact hinj a b hab (List.mem_range.mp hb)
  have := nodup_sub_len _ (W.fs.map fun x => x.1) hnd fun j hj => by
    obtain ⟨b, hb, rfl⟩ := List.mem_map.mp hj
    have hb' := List.mem_range.mp hb
    obtain ⟨x, x1, x2, _⟩ := hid_turn ok hi hup (by omega) (hf b (by omega))
    exact List.mem_map.mpr ⟨x, x1, x2⟩
  rw [List.length_map, List.length_map, List.length_range] at this
  omega
theorem least_nat {p : Nat → Prop} : ∀ c, p c → ∃ m, m ≤ c ∧ p m ∧ ∀ m', m' < m → ¬ p m' := by
  intro c
  induction c using Nat.strongRecOn with
  | _ c ih =>
    intro hc
    by_cases h : ∃ m', m' < c ∧ p m'
    · obtain ⟨m', h1, h2⟩ := h
      obtain ⟨m, a, b, d⟩ := ih m' h1 h2
      exact ⟨m, by omega, b, d⟩
    · exact ⟨c, Nat.le_refl _, hc, fun m' hm z => h ⟨m', hm, z⟩⟩
theorem Bnot {b : Bool} (h : ¬ b = true) : b = false := by cases b <;> simp_all
theorem stops {W : Wd} (ok : W.Ok) {i : Nat} (hi : i < W.n) : ∃ m r, m ≤ W.fs.length + 1 ∧ W.Stop i m r := by
  obtain ⟨m, h1, h2, h3⟩ := least_nat (p := fun c => W.up i c = false ∨ W.Z i c = true ∨ W.H i c) (W.fs.length + 1) (by
    cases e : W.up i (W.fs.length + 1) with
    | false => exact .inl rfl
    | true => exact .inr (.inr (H_end ok hi e)))
  have h4 : ∀ m', m' < m → W.up i m' = true ∧ W.Z i m' = false ∧ ¬ W.H i m' := fun m' hm => by
    have := h3 m' hm
    refine ⟨?_, ?_, fun z => this (.inr (.inr z))⟩
    · cases e : W.up i m' with
      | true => rfl
      | false => exact absurd (.inl e) this
    · cases e : W.Z i m' with
      | false => rfl
      | true => exact absurd (.inr (.inl e)) this
  cases e : W.up i m with
  | false => exact ⟨m, none, h1, h4, .inl ⟨e, rfl⟩⟩
  | true =>
    cases z : W.Z i m with
    | true => exact ⟨m, some (m, 0), h1, h4, .inr (.inl ⟨e, z, rfl⟩)⟩
    | false =>
      have : W.H i m := by
        rcases h2 with h | h | h
        · rw [e] at h; cases h
        · rw [z] at h; cases h
        · exact h
      exact ⟨m, some (m, 1), h1, h4, .inr (.inr ⟨e, z, this, rfl⟩)⟩
theorem stop_true {W : Wd} {i m : Nat} {r : Option (Nat × Nat)} (ht : W.fall i = none) (h : W.Stop i m r) : ∃ v, v < 2 ∧ r = some (m, v) := by
  rcases h.2 with ⟨h, _⟩ | ⟨_, _, h⟩ | ⟨_, _, _, h⟩
  · rw [true_up ht] at h; cases h
  · exact ⟨0, by decide, h⟩
  · exact ⟨1, by decide, h⟩
theorem H_zero {W : Wd} (ok : W.Ok) {i : Nat} : ¬ W.H i 0 := by
  rintro ⟨b, hb, hno⟩
  have hb0 : b = 0 := by omega
  subst hb0
  have hj : ∃ j, j < W.n ∧ j ≠ i := by
    have := ok.n2
    by_cases h0 : i = 0
    · exact ⟨1, by omega, by omega⟩
    · exact ⟨0, by omega, fun e => h0 e.symm⟩
  obtain ⟨j, j1, j2⟩ := hj
  refine hno j ⟨j1, j2, fun b' _ q2 q3 => ?_, fun b' q1 q2 => by omega⟩
  rw [rows_len] at q2
  have : b' = 0 := by omega
  subst this
  rw [rows_get (Nat.le_refl _), row_top, List.mem_singleton] at q3
  exact j2 q3
theorem Z_zero {W : Wd} {i : Nat} : W.Z i 0 = (W.begins.getD i 1 == 0) := by
  unfold Wd.Z Wd.zer
  rw [row_top, List.any_cons, List.any_nil, Bool.or_false]
/-- somebody falls never -/
theorem true_ex {W : Wd} (ok : W.Ok) : ∃ i, i < W.n ∧ W.fall i = none := by
  refine Classical.byContradiction fun hn => ?_
  have h := nodup_sub_len (List.range W.n) (W.fs.map fun x => x.1) List.nodup_range fun j hj => by
    cases e : W.fall j with
    | none => exact absurd ⟨j, List.mem_range.mp hj, e⟩ hn
    | some x =>
      obtain ⟨e1, e2⟩ := Wd.of_fall e
      exact List.mem_map.mpr ⟨x, e1, e2⟩
  rw [List.length_range, List.length_map] at h
  have := ok.len
  have := ok.ml
  omega
end
end K85

/-! part U1 -/
set_option maxHeartbeats 0
namespace K85
open PySem PySem.Spec PyProof.Rows L2 DL
section
variable {P : Program} {w : World} {K : PySem.W.Frag} {mg : Str → Option Value} {base : Heap}
theorem srt_one : ∀ {l l' : List Nat}, l.Pairwise (· < ·) → l'.Pairwise (· < ·) → (∀ x, x ∈ l ↔ x ∈ l') → l = l'
  | [], [], _, _, _ => rfl
  | [], b :: _, _, _, h => by have := (h b).mpr List.mem_cons_self; cases this
  | a :: _, [], _, _, h => by have := (h a).mp List.mem_cons_self; cases this
  | a :: l, b :: l', h1, h2, h => by
    rw [List.pairwise_cons] at h1 h2
    have hab : a = b := by
      rcases List.mem_cons.mp ((h a).mp List.mem_cons_self) with e | e
      · exact e
      · rcases List.mem_cons.mp ((h b).mpr List.mem_cons_self) with e' | e'
        · exact e'.symm
        · have := h1.1 b e'
          have := h2.1 a e
          omega
    subst hab
    congr 1
    refine srt_one h1.2 h2.2 fun x => ?_
    constructor
    · intro hx
      rcases List.mem_cons.mp ((h x).mp (List.mem_cons_of_mem _ hx)) with e | e
      · have := h1.1 x hx; omega
      · exact e
    · intro hx
      rcases List.mem_cons.mp ((h x).mpr (List.mem_cons_of_mem _ hx)) with e | e
      · have := h2.1 x hx; omega
      · exact e
theorem kn_one {W : Wd} {rows : List (List Nat)} {i : Nat} {ps qs : List (Nat × Nat)} (hp : KnP W rows i ps) (hq : KnP W rows i qs) : ps = qs := by
  have hk : ∀ j b c, W.isKn rows i j b → W.isKn rows i j c → b = c := fun j b c h1 h2 => by
    rcases Nat.lt_trichotomy b c with z | z | z
    · have := h2.2.2.2.2.2 b h1.2.2.1 z
      rw [h1.2.2.2.2.1] at this; cases this
    · exact z
    · have := h1.2.2.2.2.2 c h2.2.2.1 z
      rw [h2.2.2.2.2.1] at this; cases this
  have hm : ps.map (fun x => x.1) = qs.map fun x => x.1 := by
    refine srt_one hp.1 hq.1 fun j => ?_
    rw [List.mem_map, List.mem_map]
    constructor
    · rintro ⟨⟨a, b⟩, h, rfl⟩
      exact ⟨(a, b), (hq.2 a b).mpr ((hp.2 a b).mp h), rfl⟩
    · rintro ⟨⟨a, b⟩, h, rfl⟩
      exact ⟨(a, b), (hp.2 a b).mpr ((hq.2 a b).mp h), rfl⟩
  have hl : ps.length = qs.length := by have := congrArg List.length hm; rwa [List.length_map, List.length_map] at this
  refine List.ext_getElem hl fun t h1 h2 => ?_
  have e1 : (ps[t]).1 = (qs[t]).1 := by
    have := congrArg (fun l => l[t]?) hm
    simp only [List.getElem?_map, List.getElem?_eq_getElem h1, List.getElem?_eq_getElem h2, Option.map_some, Option.some.injEq] at this
    exact this
  have h3 := (hp.2 _ _).mp (show ((ps[t]).1, (ps[t]).2) ∈ ps from List.getElem_mem h1)
  have h4 := (hq.2 _ _).mp (show ((qs[t]).1, (qs[t]).2) ∈ qs from List.getElem_mem h2)
  rw [e1] at h3
  exact Prod.ext e1 (hk _ _ _ h3 h4)
end
end K85

/-! part R22 -/
set_option maxHeartbeats 0
namespace K85
open PySem PySem.Spec PyProof.Rows L2 DL
section
variable {P : Program} {w : World} {K : PySem.W.Frag} {mg : Str → Option Value} {base : Heap}
def spBox (K : PySem.W.Frag) : Sp := fun vs H Q _ => ∃ (a : Addr) (ns : List Int), vs = [.ref a] ∧ SqL K H a (ns.map V.int) ∧ ns.length ≤ 63 ∧
  ∀ (H' : Hp) (b c : Addr) (xs : List Int) (mixed : Int), b ≠ c → H b = none → H c = none → H' b = some (.lst [.ref c, .int 0, .int mixed, .int 0]) → H' c = some (.lst (xs.map V.int)) → (∀ q, q ≠ b → q ≠ c → H q ≠ none → H' q = H q) → Q (.ref b) H'
theorem ok_law_box (T : Txt K mg) : FnOk P w K mg base CX0 1 T.law_box.f T.law_box.fd ["script"] (spBox K) := by
  refine T.law_box.F.ok sc_law_box (fun vs H Q E h => ?_) (fun cdv A outer s H vs Q E hr h => ⟨_, PSs.nox (pss_cons (ps_set (i := 1) sc_law_box.nd rfl (Or.inl rfl) pe_int)
    (pss_cons (ps_for PassesOwn.never rfl (pi_list (pe_slice sl_list (pv 0) po_none (po_some pe_int))) (pg_name (i := 2) sc_law_box.nd rfl (Or.inl rfl)) (pss_one (ps_set (i := 1) sc_law_box.nd rfl (Or.inl rfl) (pe_op op_mod (pe_callTy call_int1 rfl T.b_int boot_int (pa_cons (pe_op op_add (pe_op op_add (pe_op op_mul (pv 1) pe_int) (pe_op op_mul (pe_op op_mod (pe_callTy call_int1 rfl T.b_int boot_int (pa_cons (pv 2) pa_nil)) pe_int) pe_int)) pe_int) pa_nil)) pe_int))))
    (pss_one (ps_ret (pe_lst (pa_cons (pe_lc (own := [("cell", 2)]) rfl sc_law_box.nd (pi_list (pe_slice sl_list (pv 0) po_none (po_some pe_int))) (blkOk_by (by kernel_rfl)) (fun _ _ _ _ _ => pg_name (i := 2) sc_law_box.nd rfl (by first | exact Or.inl rfl | exact Or.inr rfl)) (fun _ _ _ _ _ => pts_nil) (fun _ _ _ _ _ => pe_callTy call_int1 rfl T.b_int boot_int (pa_cons (pv 2) pa_nil))) (pa_cons pe_int (pa_cons (pv 1) (pa_cons pe_int pa_nil))))))))), ?_⟩)
  · obtain ⟨a, ns, rfl, _⟩ := h
    rfl
  · obtain ⟨a, ns, rfl, hS, hl, k⟩ := h
    have hbig := big
    obtain ⟨zs, hzs⟩ : ∃ zs : List Int, cutV (ns.map V.int) none (some 63) = zs.map V.int := by
      unfold cutV
      exact ⟨(ns.drop _).take _, by rw [List.map_take, List.map_drop]⟩
    have hzl : zs.length ≤ ns.length := by
      have h1 : (zs.map V.int).length ≤ (ns.map V.int).length := by
        rw [← hzs]
        unfold cutV
        rw [List.length_take, List.length_drop]
        omega
      rw [List.length_map, List.length_map] at h1
      exact h1
    conv => whnf
    refine ⟨.ref a, rfl, ?_⟩
    conv => whnf
    refine ⟨63, rfl, ?_⟩
    conv => whnf
    refine ⟨a, ns.map V.int, rfl, hS, fun p1 hp1 => ?_⟩
    rw [hzs]
    conv => whnf
    refine ⟨p1, rfl, ⟨_, SqL.of upd_same⟩, ?_⟩
    have s1 : Same H (upd H p1 (.lst (zs.map V.int))) := fun b o e => by rw [upd_ne (ne_of_none e hp1)]; exact e
    refine for_list (K := K) (a := p1) (xs := zs.map V.int) (fun i σ H2 => H2 = upd H p1 (.lst (zs.map V.int)) ∧ ∃ (mx : Int) (z : Option V), σ = [some (.ref a), some (.int mx), z]) ⟨rfl, 16194, none, rfl⟩ (fun i σ H2 _ ⟨e, _⟩ => by rw [e]; exact SqL.of upd_same) ?_ ?_
    · rintro i x σ H2 hi ⟨rfl, mx, z, rfl⟩
      rw [List.getElem?_map] at hi
      cases e : zs[i]? with
      | none => rw [e] at hi; cases hi
      | some y =>
        rw [e] at hi
        cases hi
        refine ⟨_, rfl, _, _, rfl, rfl, ?_⟩
        refine And.intro (.inr ⟨by decide, by decide⟩) ?_
        conv => whnf
        refine ⟨_, rfl, .inl ⟨_, rfl, ?_⟩⟩
        conv => whnf
        refine ⟨_, _, rfl, rfl, show (0 : Int) < 1000003 by decide, ?_⟩
        conv => whnf
        refine ⟨_, _, rfl, rfl, .inr ⟨by decide, by decide⟩, ?_⟩
        conv => whnf
        refine ⟨_, _, rfl, rfl, ?_⟩
        conv => whnf
        refine ⟨_, _, rfl, rfl, ?_⟩
        refine .inl ⟨_, rfl, ?_⟩
        conv => whnf
        refine ⟨_, _, rfl, rfl, show (0 : Int) < 2147483629 by decide, ?_⟩
        exact ⟨rfl, _, _, rfl⟩
    · rintro σ H2 ⟨rfl, mx, z, rfl⟩
      conv => whnf
      refine ⟨.ref a, rfl, ?_⟩
      conv => whnf
      refine ⟨63, rfl, ?_⟩
      conv => whnf
      refine ⟨a, ns.map V.int, rfl, s1.seq hS, fun p2 hp2 => ?_⟩
      rw [hzs]
      generalize hH2 : upd (upd H p1 (.lst (zs.map V.int))) p2 (.lst (zs.map V.int)) = H2
      have s2 : Same H H2 := fun b o e => by
        have e1 := s1 b o e
        rw [← hH2, upd_ne (ne_of_none e1 hp2)]
        exact e1
      have g2 : H2 p2 = some (.lst (zs.map V.int)) := by rw [← hH2]; exact upd_same
      conv => whnf
      refine ⟨p2, rfl, ⟨_, SqL.of g2⟩, ?_⟩
      intro D hD
      have hDp : p2 ≠ D := fun e => by rw [← e, g2] at hD; cases hD
      have hHD : H D = none := by
        cases e : H D with
        | none => rfl
        | some o => rw [s2 D o e] at hD; cases hD
      have gp : ∀ o, (upd H2 D o) p2 = some (.lst (zs.map V.int)) := fun o => by rw [upd_ne hDp]; exact g2
      refine ⟨fun i m H3 => m = zs.length - i ∧ i ≤ zs.length ∧ H3 = upd H2 D (.lst ((zs.take i).map V.int)), ⟨zs.length, rfl, Nat.zero_le _, rfl⟩, ?_⟩
      rintro i m H3 ⟨rfl, hi, rfl⟩
      by_cases hlt : i < zs.length
      · refine .inr ⟨⟨zs.map V.int, .int zs[i], SqL.of (gp _), by rw [List.getElem?_map, List.getElem?_eq_getElem hlt]; rfl⟩, fun H4 => H4 = upd H2 D (.lst ((zs.take (i + 1)).map V.int)), fun H' e => ⟨zs.length - (i + 1), by omega, rfl, hlt, e⟩, ?_⟩
        rintro x H' ⟨rfl, hy⟩
        have hx := hy _ (SqL.of (gp _))
        rw [List.getElem?_map, List.getElem?_eq_getElem hlt] at hx
        cases hx
        refine ⟨rfl, ?_⟩
        conv => whnf
        refine ⟨_, rfl, .inl ⟨_, rfl, ?_⟩⟩
        refine ⟨_, upd_same, by rw [List.length_map, List.length_take]; omega, ?_⟩
        show upd (upd H2 D _) D _ = upd H2 D _
        rw [List.take_succ, List.getElem?_eq_getElem hlt, List.map_append]
        funext z
        unfold upd
        split <;> rfl
      · have hie : i = zs.length := by omega
        subst hie
        refine .inl ⟨⟨zs.map V.int, SqL.of (gp _), by rw [List.length_map]; exact Nat.le_refl _⟩, ?_⟩
        conv => whnf
        refine ⟨_, rfl, lines _ (by show 4 ≤ _; omega), fun p hp => ?_⟩
        have hpD : p ≠ D := fun e => by rw [e, upd_same] at hp; cases hp
        have hHp : H p = none := by
          cases e : H p with
          | none => rfl
          | some o =>
            rw [upd_ne hpD, s2 p o e] at hp
            cases hp
        refine k _ p D (zs.take zs.length) mx hpD hHp hHD upd_same ?_ fun q a1 a2 a3 => ?_
        · rw [upd_ne hpD.symm, upd_same]
        · rw [upd_ne a1, upd_ne a2]
          cases e : H q with
          | none => exact absurd e a3
          | some o => exact s2 q o e
end
end K85

/-! part V23 -/
set_option maxHeartbeats 0
namespace K85
open PySem PySem.Spec PyProof.Rows L2 DL
section
variable {P : Program} {w : World} {K : PySem.W.Frag} {mg : Str → Option Value} {base : Heap}
def isCell : D → Bool
  | .cell _ => true
  | _ => false
/-- one cell is frozen -/
theorem freeze1 {td : DS} {P : DEnds} {ρ : DL.Env} {b c p : Addr} {M : Mp} {d : D} (hb : BoxAt M b c) (hM : ∀ q, q ≠ b → q ≠ c → q ≠ p → M q = none) (hp : M p = some d) (pb : p ≠ b) (pc : p ≠ c)
    (k : ∀ f : D → D, f (.cell b) = .cell b → f (.cell p) = d → (∀ x, isCell x = false → f x = x) → ∀ M2, BoxAt M2 b c → (∀ q, q ≠ b → q ≠ c → M2 q = none) → td P (ρ.map (Option.map f)) M2) : dFreeze td P ρ M := by
  obtain ⟨xs, hh, m, t, k1, k2, k3⟩ := hb
  refine ⟨fun q => decide (q = p), ?_⟩
  generalize hG : (fun q => decide (q = p)) = G
  have Gp : G p = true := by rw [← hG]; exact decide_eq_true rfl
  have Go : ∀ q, q ≠ p → G q = false := fun q a1 => by rw [← hG]; exact decide_eq_false a1
  refine k (subD G M) ?_ ?_ ?_ _ ⟨xs, hh, m, t, ?_, ?_, k3⟩ fun q a1 a2 => ?_
  rotate_left 3
  · unfold delF
    rw [Go b pb.symm, if_neg Bool.false_ne_true, k1, Option.map_some]
    show some (D.lst [if G c = true then _ else .cell c, _, _, _]) = _
    rw [Go c pc.symm, if_neg Bool.false_ne_true]
    rfl
  · unfold delF
    rw [Go c pc.symm, if_neg Bool.false_ne_true, k2, Option.map_some]
    show some (D.lst ((xs.map D.int).map (subD G M))) = _
    rw [List.map_map]
    rfl
  · unfold delF
    by_cases e : q = p
    · rw [e, Gp]; rfl
    · rw [Go q e, if_neg Bool.false_ne_true, hM q a1 a2 e]; rfl
  · show (if G b = true then _ else D.cell b) = _
    rw [Go b pb.symm, if_neg Bool.false_ne_true]
  · show (if G p = true then (M p).getD (.cell p) else D.cell p) = _
    rw [Gp, if_pos rfl, hp]
    rfl
  · intro x hx
    cases x <;> first | rfl | cases hx
theorem re_fall {W : Wd} (ok : W.Ok) {sf : List (Nat × Nat × List Nat)} (hp : sf.Perm W.fs) (j : Nat) : (W.re sf).fall j = W.fall j := by
  cases e : W.fall j with
  | none =>
    cases e' : (W.re sf).fall j with
    | none => rfl
    | some x =>
      obtain ⟨h1, h2⟩ := Wd.of_fall e'
      have := Wd.fall_of ok.nd (hp.mem_iff.mp h1)
      rw [h2, e] at this
      cases this
  | some x =>
    obtain ⟨h1, h2⟩ := Wd.of_fall e
    have := Wd.fall_of (ok.re hp).nd (x := x) (hp.mem_iff.mpr h1)
    rw [h2] at this
    exact this
theorem re_up {W : Wd} (ok : W.Ok) {sf : List (Nat × Nat × List Nat)} (hp : sf.Perm W.fs) (j b : Nat) : (W.re sf).up j b = W.up j b := by
  unfold Wd.up
  rw [re_fall ok hp]
def Run.back {W : Wd} (ok : W.Ok) {sf : List (Nat × Nat × List Nat)} (hp : sf.Perm W.fs) (R : Run (W.re sf)) : Run W :=
  ⟨R.tx, R.fs, R.hm, R.z, R.rk, R.rd, R.um, R.ids, R.srt, fun x => (R.mem x).trans hp.mem_iff, R.hbit, R.zbit, R.rnd, fun b hb j => by rw [R.ubit b hb j, re_up ok hp]; rfl⟩
theorem Run.len {W : Wd} (ok : W.Ok) (R : Run W) : R.fs.length ≤ 40 := by
  have := nodup_sub_len (R.fs.map fun x => x.1) (W.fs.map fun x => x.1) R.ids fun j hj => by
    obtain ⟨x, hx, rfl⟩ := List.mem_map.mp hj
    exact List.mem_map.mpr ⟨x, (R.mem x).mp hx, rfl⟩
  rw [List.length_map, List.length_map] at this
  have := ok.len
  have := ok.ml
  have := ok.n40
  omega
def spLaw (K : PySem.W.Frag) : Sp := fun vs H Q _ => ∃ (a : Addr) (ns : List Int), vs = [.ref a] ∧ SqL K H a (ns.map V.int) ∧ ns.length ≤ 63 ∧ ∀ H', Q (.bl true) H'
def endT : DEnds := ⟨fun _ _ => False, fun d _ => d = .bl true, fun _ _ => False, fun _ _ => False⟩
theorem closed0 {M : Mp} {b c : Addr} (hb : BoxAt M b c) (hM : ∀ q, q ≠ b → q ≠ c → M q = none) : ClosedM M := fun y d e F M' hF => by
  obtain ⟨xs, k, m, t, k1, k2, k3⟩ := hb
  by_cases hyb : y = b
  · subst hyb
    rw [k1] at e
    cases e
    show D.lst [if F c = true then _ else .cell c, _, _, _] = _
    rw [if_neg fun h => by have := hF c h; rw [k2] at this; cases this]
    rfl
  · by_cases hyc : y = c
    · subst hyc
      rw [k2] at e
      cases e
      show D.lst ((xs.map D.int).map (subD F M')) = _
      rw [List.map_map]
      rfl
    · rw [hM y hyb hyc] at e
      cases e
theorem ClosedM.box {M M' : Mp} {b c : Addr} (h : ClosedM M) (hB : BxR b c M M') : ClosedM M' := fun y d e F M2 hF => by
  obtain ⟨⟨xs, k, m, t, k1, k2, k3⟩, h2⟩ := hB
  by_cases hyb : y = b
  · subst hyb
    rw [k1] at e
    cases e
    show D.lst [if F c = true then _ else .cell c, _, _, _] = _
    rw [if_neg fun h => by have := hF c h; rw [k2] at this; cases this]
    rfl
  · by_cases hyc : y = c
    · subst hyc
      rw [k2] at e
      cases e
      show D.lst ((xs.map D.int).map (subD F M2)) = _
      rw [List.map_map]
      rfl
    · rw [h2 y hyb hyc] at e
      refine h y d e F M2 fun p hp => ?_
      have h3 := hF p hp
      by_cases hpb : p = b
      · rw [hpb, k1] at h3; cases h3
      · by_cases hpc : p = c
        · rw [hpc, k2] at h3; cases h3
        · rw [← h2 p hpb hpc]; exact h3
theorem cut_drop (ds : List D) (k : Nat) : DL.cutD ds (some (k : Int)) none = ds.drop k := by
  unfold DL.cutD
  rw [HT.sIx_none, HT.sIx_nat]
  rcases Nat.le_total k ds.length with h | h
  · rw [Nat.min_eq_left h, List.take_of_length_le (by rw [List.length_drop]; exact Nat.le_refl _)]
  · rw [Nat.min_eq_right h, Nat.sub_self, List.take_zero, List.drop_eq_nil_of_le h]
theorem rD_ok (r : Option (Nat × Nat)) : okSame 4 (rD r) := by
  cases r with
  | none => trivial
  | some p => exact ⟨by show 2 ≤ 1000; decide, fun y hy => by
      simp only [List.mem_cons, List.not_mem_nil, or_false] at hy
      rcases hy with rfl | rfl <;> trivial⟩
theorem WCells.take {b c w bg fl : Addr} {M M1 M2 : Mp} {W : Wd} (hb : BoxAt M b c) (h : WCells b c w bg fl M M1 W) (h2 : BxR b c M1 M2) : WCells b c w bg fl M M2 W := by
  obtain ⟨w1, w2⟩ := hb.fresh h.nw
  obtain ⟨b1, b2⟩ := hb.fresh h.nbg
  obtain ⟨f1, f2⟩ := hb.fresh h.nfl
  exact ⟨h2.1, by rw [h2.2 w w1 w2]; exact h.hw, by rw [h2.2 bg b1 b2]; exact h.hbg, by rw [h2.2 fl f1 f2]; exact h.hfl, fun q a1 a2 a3 a4 a5 => by rw [h2.2 q a1 a2]; exact h.oth q a1 a2 a3 a4 a5, h.nw, h.nbg, h.nfl, h.bf, h.wb, h.wf⟩
/-- the world's cells are frozen, from within -/
theorem wfreeze {td : DS} {P : DEnds} {ρ ρ2 : DL.Env} {b c w bg fl : Addr} {M M1 : Mp} {W : Wd} (hb : BoxAt M b c) (hM : ∀ q, q ≠ b → q ≠ c → M q = none) (h : WCells b c w bg fl M M1 W)
    (he : ∀ f : D → D, f (.cell b) = .cell b → f (.cell w) = wD W → (∀ x, isCell x = false → f x = x) → ρ.map (Option.map f) = ρ2) (k : ∀ M2, BoxAt M2 b c → (∀ q, q ≠ b → q ≠ c → M2 q = none) → td P ρ2 M2) : dFreeze (dFreeze td) P ρ M1 := by
  obtain ⟨w1, w2⟩ := hb.fresh h.nw
  obtain ⟨b1, b2⟩ := hb.fresh h.nbg
  obtain ⟨f1, f2⟩ := hb.fresh h.nfl
  obtain ⟨xs, hh, m, t, k1, k2, k3⟩ := h.box
  refine ⟨fun q => decide (q = bg) || decide (q = fl), fun q => decide (q = w), ?_⟩
  generalize hF : (fun q => decide (q = bg) || decide (q = fl)) = F
  generalize hG : (fun q => decide (q = w)) = G
  have Fb : F bg = true := by rw [← hF]; show (decide (bg = bg) || _) = true; rw [decide_eq_true rfl]; rfl
  have Ff : F fl = true := by rw [← hF]; show (_ || decide (fl = fl)) = true; rw [decide_eq_true rfl, Bool.or_true]
  have Fo : ∀ q, q ≠ bg → q ≠ fl → F q = false := fun q a1 a2 => by rw [← hF]; show (decide (q = bg) || decide (q = fl)) = false; rw [decide_eq_false a1, decide_eq_false a2]; rfl
  have Gw : G w = true := by rw [← hG]; exact decide_eq_true rfl
  have Go : ∀ q, q ≠ w → G q = false := fun q a1 => by rw [← hG]; exact decide_eq_false a1
  have hw2 : delF F M1 w = some (wD W) := by
    unfold delF
    rw [Fo w h.wb h.wf, if_neg Bool.false_ne_true, h.hw, Option.map_some]
    show some (D.dic wks [dN W.n, dN W.most, if F bg = true then (M1 bg).getD (.cell bg) else .cell bg, if F fl = true then (M1 fl).getD (.cell fl) else .cell fl]) = _
    rw [Fb, if_pos rfl, h.hbg, Ff, if_pos rfl, h.hfl]
    rfl
  have hbx : ∀ q d, q ≠ bg → q ≠ fl → q ≠ w → M1 q = some d → (∀ F M', (∀ p, p = c → F p = false) → subC F M' d = d) → delF G (delF F M1) q = some d := fun q d a1 a2 a3 e hs => by
    unfold delF
    rw [Go q a3, if_neg Bool.false_ne_true, Fo q a1 a2, if_neg Bool.false_ne_true, e, Option.map_some, Option.map_some, hs F M1 (fun p hp => by rw [hp]; exact Fo c b2.symm f2.symm), hs G _ (fun p hp => by rw [hp]; exact Go c w2.symm)]
  rw [List.map_map]
  have hcomp : (Option.map (subD G (delF F M1)) ∘ Option.map (subD F M1)) = Option.map (subD G (delF F M1) ∘ subD F M1) := by
    funext o
    cases o <;> rfl
  rw [hcomp, he _ ?_ ?_ ?_]
  · refine k _ ⟨xs, hh, m, t, ?_, ?_, k3⟩ fun q a1 a2 => ?_
    · refine hbx b _ b1.symm f1.symm w1.symm k1 fun F' M' hF' => ?_
      show D.lst [if F' c = true then _ else .cell c, _, _, _] = _
      rw [hF' c rfl, if_neg Bool.false_ne_true]
      rfl
    · refine hbx c _ b2.symm f2.symm w2.symm k2 fun F' M' hF' => ?_
      show D.lst ((xs.map D.int).map (subD F' M')) = _
      rw [List.map_map]
      rfl
    · by_cases e1 : q = w
      · unfold delF
        rw [e1, Gw]
        rfl
      · by_cases e2 : q = bg ∨ q = fl
        · have hFq : F q = true := by rcases e2 with rfl | rfl; exact Fb; exact Ff
          unfold delF
          rw [Go q e1, if_neg Bool.false_ne_true, hFq, if_pos rfl]
          rfl
        · unfold delF
          rw [Go q e1, if_neg Bool.false_ne_true, Fo q (fun z => e2 (.inl z)) (fun z => e2 (.inr z)), if_neg Bool.false_ne_true, h.oth q a1 a2 e1 (fun z => e2 (.inl z)) (fun z => e2 (.inr z)), hM q a1 a2]
          rfl
  · show subD G _ (if F b = true then _ else D.cell b) = _
    rw [Fo b b1.symm f1.symm, if_neg Bool.false_ne_true]
    show (if G b = true then _ else D.cell b) = _
    rw [Go b w1.symm, if_neg Bool.false_ne_true]
  · show subD G _ (if F w = true then _ else D.cell w) = _
    rw [Fo w h.wb h.wf, if_neg Bool.false_ne_true]
    show (if G w = true then (delF F M1 w).getD (.cell w) else D.cell w) = _
    rw [Gw, if_pos rfl, hw2]
    rfl
  · intro x hx
    cases x <;> first | rfl | cases hx
theorem kn_len {W : Wd} {rows : List (List Nat)} {i : Nat} {ps : List (Nat × Nat)} (h : KnP W rows i ps) : ps.length ≤ W.n := by
  have h1 : (ps.map fun x => x.1).Nodup := h.1.imp fun hab => by omega
  have := nodup_len W.n _ h1 fun x hx => by
    obtain ⟨⟨a, b⟩, hab, rfl⟩ := List.mem_map.mp hx
    exact ((h.2 a b).mp hab).1
  rwa [List.length_map] at this
theorem run_lenEq {W : Wd} (ok : W.Ok) (R : Run W) : R.fs.length = W.fs.length := by
  have h1 := nodup_sub_len (R.fs.map fun x => x.1) (W.fs.map fun x => x.1) R.ids fun j hj => by
    obtain ⟨x, hx, rfl⟩ := List.mem_map.mp hj
    exact List.mem_map.mpr ⟨x, (R.mem x).mp hx, rfl⟩
  have h2 := nodup_sub_len (W.fs.map fun x => x.1) (R.fs.map fun x => x.1) ok.nd fun j hj => by
    obtain ⟨x, hx, rfl⟩ := List.mem_map.mp hj
    exact List.mem_map.mpr ⟨x, (R.mem x).mpr hx, rfl⟩
  rw [List.length_map, List.length_map] at h1 h2
  omega
end
end K85

/-! part G20 -/
set_option maxHeartbeats 0
namespace K85
open PySem PySem.Spec PyProof.Rows L2 DL
section
variable {P : Program} {w : World} {K : PySem.W.Frag} {mg : Str → Option Value} {base : Heap}
theorem atI_last {ds : List D} {d : D} (h : ds.getLast? = some d) : atI ds (-1) = some d := by
  have hne : ds ≠ [] := by rintro rfl; cases h
  have hl : 1 ≤ ds.length := by
    cases ds with
    | nil => exact absurd rfl hne
    | cons a r => rw [List.length_cons]; omega
  unfold atI
  have e : ixN ds.length (-1) = some (ds.length - 1) := by
    unfold ixN
    rw [if_neg (by omega), if_pos (by omega)]
    congr 1
    omega
  rw [e]
  show ds[ds.length - 1]? = _
  rw [← List.getLast?_eq_getElem?]
  exact h
theorem last_strs {ts : List Str} (h : ts ≠ []) : ∃ x, x ∈ ts ∧ ts.getLast? = some x := by
  cases e : ts.getLast? with
  | none => exact absurd (List.getLast?_eq_none_iff.mp e) h
  | some x => exact ⟨x, List.mem_of_getLast? e, rfl⟩
theorem last_map {ts : List Str} {x : Str} (h : ts.getLast? = some x) : (ts.map D.str).getLast? = some (.str x) := by
  rw [List.getLast?_map, h]
  rfl
theorem stks_nd : stks.Nodup := by decide +kernel
theorem pS_stage {a b c d e z : D} : putKD (.inr (Str.ofString "stage")) z stks [a, b, c, d, e] = (stks, [z, b, c, d, e]) := by rfl
theorem pS_n {a b c d e z : D} : putKD (.inr (Str.ofString "n")) z stks [a, b, c, d, e] = (stks, [a, z, c, d, e]) := by rfl
theorem pS_most {a b c d e z : D} : putKD (.inr (Str.ofString "most")) z stks [a, b, c, d, e] = (stks, [a, b, z, d, e]) := by rfl
theorem pS_begins {a b c d e z : D} : putKD (.inr (Str.ofString "begins")) z stks [a, b, c, d, e] = (stks, [a, b, c, z, e]) := by rfl
theorem StC.put {sp fp : Addr} {M : Mp} {s s' : RS} (h : StC sp fp M s) (hf : s'.W.fs = s.W.fs) : StR sp fp M (updM M sp (stD s' fp)) s' :=
  ⟨⟨updM_same, by rw [updM_ne h.ne.symm, hf]; exact h.hf, h.ne⟩, fun q a1 _ => updM_ne a1⟩
theorem StR.put {sp fp : Addr} {M M1 : Mp} {s s' : RS} (h : StR sp fp M M1 s) (hf : s'.W.fs = s.W.fs) : StR sp fp M (updM M1 sp (stD s' fp)) s' :=
  ⟨(h.1.put hf).1, fun q a1 a2 => by rw [updM_ne a1]; exact h.2 q a1 a2⟩
def sp_law_line_why : SpD := fun ds M Q => ∃ (l : Str) (sp fp : Addr) (s : RS), ds = [.cell sp, .str l] ∧ l.length ≤ 3000 ∧ StC sp fp M s ∧ StOk s ∧
  match s.step l with
  | .error e => Q (erD e) M
  | .ok s' => ∀ M', StR sp fp M M' s' → Q .non M'
theorem len_law_line_why : ∀ ds M Q, sp_law_line_why ds M Q → ds.length = 2 := by
  rintro _ _ _ ⟨_, _, _, _, rfl, _⟩; rfl
theorem ok_law_line_why (T : Txt K mg) : FnD P w K mg base 4 T.law_line_why.f T.law_line_why.fd ["state", "line"] sp_law_line_why := okDk T.law_line_why.F sc_law_line_why len_law_line_why (fun cdv A outer s H E hr =>
        (dss_cons (ds_par2 (i := 2) (j := 3) rfl sc_law_line_why.nd rfl rfl (by decide) rfl rfl (de_get (hu_of (k := 0) (hr.mono (by decide))) (dv 0) de_str) (de_split (dv 1) de_str))
      (dss_cons (ds_if (PWD.pt (dw_and (dt_cmp o_eq (dv 2) de_int) (dw_and1 (dt_cmp o_ne (dv 1) de_str)))) (dss_one (ds_ret (de_call (ok_law_fall_why T) (hr.mono (by decide)) (by rfl) T.law_fall_why.g T.law_fall_why.F.kp T.law_fall_why.b (da_cons (dv 0) (da_cons (dv 3) da_nil))))) dss_nil)
      (dss_cons (ds_if (PWD.pt (dw_or (dt_cmp o_eq (dv 2) de_int) (dw_or1 (PWD.pt (dw_and (dt_cmp o_eq (dv 2) de_int) (dw_and1 (dt_cmp o_ne (dv 1) de_str))))))) (dss_one (ds_ret de_str)) dss_nil)
      (dss_cons (ds_if (dt_cmp o_in (dv 2) (de_lst (da_cons de_int (da_cons de_int da_nil)))) (dss_cons (ds_set (i := 4) sc_law_line_why.nd (de_call (ok_law_digits T) (hr.mono (by decide)) (by rfl) T.law_digits.g T.law_digits.F.kp T.law_digits.b (da_cons (de_ix (dv 3) (de_neg de_int)) da_nil)))
      (dss_cons (ds_if (PWD.pt (dw_or (dt_cmp o_ne (de_callB c_len (by rfl) T.b_len boot_len (da_cons (dv 3) da_nil)) de_int) (dw_or (dt_cmp o_ne (de_ix (dv 3) de_int) (de_ix (de_lst (da_cons de_str (da_cons de_str da_nil))) (de_op o_sub (dv 2) de_int))) (dw_or (dt_cmp o_is (dv 4) de_non) (dw_or1 (PWD.pt (dw_and (dt_cmp o_eq (dv 2) de_int) (dw_and1 (dt_cmp o_lt (dv 4) de_int))))))))) (dss_one (ds_ret de_str)) dss_nil)
      (dss_cons (ds_if (PWD.pt (dw_and (dt_cmp o_eq (dv 2) de_int) (dw_and1 (dt_cmp o_ge (dv 4) (de_get (hu_of (k := 0) (hr.mono (by decide))) (dv 0) de_str))))) (dss_one (ds_ret de_str)) dss_nil)
      (dss_cons (ds_if (PWD.pt (dw_and (dt_cmp o_eq (dv 2) de_int) (dw_and1 (dt_cmp o_gt (dv 4) de_int)))) (dss_one (ds_ret (de_tup (da_cons de_str (da_cons (dv 4) da_nil))))) dss_nil)
      (dss_one (ds_dput (hu_of (k := 0) (hr.mono (by decide))) (dv 0) (de_ix (de_lst (da_cons de_str (da_cons de_str da_nil))) (de_op o_sub (dv 2) de_int)) (dv 4))))))) dss_nil)
      (dss_cons (ds_if (dt_cmp o_eq (dv 2) de_int) (dss_cons (ds_if (PWD.pt (dw_or (dt_cmp o_ne (de_ix (dv 3) de_int) de_str) (dw_or (dt_cmp o_ne (de_callB c_len (by rfl) T.b_len boot_len (da_cons (dv 3) da_nil)) (de_op o_add (de_get (hu_of (k := 0) (hr.mono (by decide))) (dv 0) de_str) de_int)) (dw_or1 (dt_not (dt_val (de_callB (c_all rfl) (by rfl) T.b_all boot_all (da_cons (de_lc (own := [("piece", 5)]) rfl sc_law_line_why.nd (di_list (de_sl (dv 3) (do_some de_int) do_none)) (blkOk_by (by kernel_rfl)) (fun _ _ _ _ _ => pg_name (i := 5) sc_law_line_why.nd rfl (by first | exact Or.inl rfl | exact Or.inr rfl)) (gw_name (by decide)) (fun _ _ _ _ _ => dts_nil) (fun _ _ _ _ _ => (de_cmp o_in (dv 5) (de_lst (da_cons de_str (da_cons de_str da_nil)))))) da_nil)))))))) (dss_one (ds_ret de_str)) dss_nil)
      (dss_one (ds_dput (hu_of (k := 0) (hr.mono (by decide))) (dv 0) de_str (de_lc (own := [("piece", 5)]) rfl sc_law_line_why.nd (di_list (de_sl (dv 3) (do_some de_int) do_none)) (blkOk_by (by kernel_rfl)) (fun _ _ _ _ _ => pg_name (i := 5) sc_law_line_why.nd rfl (by first | exact Or.inl rfl | exact Or.inr rfl)) (gw_name (by decide)) (fun _ _ _ _ _ => dts_nil) (fun _ _ _ _ _ => (de_callTy c_intS (by rfl) T.b_int boot_int (da_cons (dv 5) da_nil))))))) dss_nil)
      (dss_cons (ds_dput (hu_of (k := 0) (hr.mono (by decide))) (dv 0) de_str (de_op o_add (dv 2) de_int))
      (dss_one (ds_ret de_non)))))))))
      (by
    rintro _ M Q ⟨l, sp, fp, ⟨st, W⟩, rfl, hl, hc, hok, q⟩
    have hb := big
    have ls : look M (.cell sp) = some (stD ⟨st, W⟩ fp) := hc.hs
    have hsw := small_words hl
    have hne : words l ≠ [] := fun z => by
      have := (words_pcs l).ne
      rw [z] at this
      exact absurd this (by decide)
    refine seq_cut (fun ρ' M' => M = M' ∧ ρ' = [some (.cell sp), some (.str l), some (dN st), some (.lst ((words l).map .str)), none, none]) (fun N hN => ?_) ?_
    · conv => whnf
      rw [ls]
      conv => whnf
      refine ⟨dN st, gS_stage, ?_⟩
      conv => whnf
      refine ⟨?_, by omega, ?_⟩
      · have : (Str.ofString " ").length = 1 := by rw [TL.len_tl, tl_spc]; rfl
        rw [this]
        rfl
      exact hN _ _ ⟨rfl, rfl⟩
    rintro _ _ ⟨rfl, rfl⟩
    obtain ⟨h5, h2, h3, h4, hf⟩ := hok
    dsimp only at h5 h2 h3 h4 hf
    have hst : st = 0 ∨ st = 1 ∨ st = 2 ∨ st = 3 ∨ st = 4 ∨ st = 5 := by omega
    rcases hst with rfl | rfl | rfl | rfl | rfl | rfl
    · -- falls
      rw [step0] at q
      refine seq_cut (fun ρ' M' => M = M' ∧ ρ' = [some (.cell sp), some (.str l), some (dN 0), some (.lst ((words l).map .str)), none, none]) (fun N hN => dF rfl (dF rfl (hN _ _ ⟨rfl, rfl⟩))) ?_
      rintro _ _ ⟨rfl, rfl⟩
      refine seq_cut (fun ρ' M' => M = M' ∧ l = sF "falls" ∧ ρ' = [some (.cell sp), some (.str l), some (dN 0), some (.lst ((words l).map .str)), none, none]) (fun N hN => ?_) ?_
      · refine dF rfl ?_
        refine dT rfl ?_
        refine dN2 (fun e => ?_) (fun e => ?_)
        · rw [if_neg e] at q
          exact ret_ok q
        · exact hN _ _ ⟨rfl, e, rfl⟩
      rintro _ _ ⟨rfl, e, rfl⟩
      rw [if_pos e] at q
      refine seq_cut (fun ρ' M' => M = M' ∧ ρ' = [some (.cell sp), some (.str l), some (dN 0), some (.lst ((words l).map .str)), none, none]) (fun N hN => ?_) ?_
      · conv => whnf
        refine ⟨lines _ (by show 2 ≤ _; omega), ?_⟩
        conv => whnf
        refine ⟨rfl, rfl, ?_⟩
        exact dF rfl (hN _ _ ⟨rfl, rfl⟩)
      rintro _ _ ⟨rfl, rfl⟩
      refine seq_cut (fun ρ' M' => M = M' ∧ ρ' = [some (.cell sp), some (.str l), some (dN 0), some (.lst ((words l).map .str)), none, none]) (fun N hN => dF rfl (hN _ _ ⟨rfl, rfl⟩)) ?_
      rintro _ _ ⟨rfl, rfl⟩
      refine seq_cut (fun ρ' M' => StR sp fp M M' ⟨1, W⟩) (fun N hN => ?_) (fun _ _ h => ret_ok (q _ h))
      conv => whnf
      refine ⟨stks, _, hc.hs, stks_nd, by show 5 < _; omega, ?_⟩
      exact hN _ _ (hc.put (s' := ⟨1, W⟩) rfl)
    · -- houses
      rw [step1] at q
      refine seq_cut (fun ρ' M' => M = M' ∧ ρ' = [some (.cell sp), some (.str l), some (dN 1), some (.lst ((words l).map .str)), none, none]) (fun N hN => dF rfl (dF rfl (hN _ _ ⟨rfl, rfl⟩))) ?_
      rintro _ _ ⟨rfl, rfl⟩
      refine seq_cut (fun ρ' M' => M = M' ∧ ρ' = [some (.cell sp), some (.str l), some (dN 1), some (.lst ((words l).map .str)), none, none]) (fun N hN => dF rfl (dF rfl (dF rfl (hN _ _ ⟨rfl, rfl⟩)))) ?_
      rintro _ _ ⟨rfl, rfl⟩
      refine seq_cut (fun ρ' M' => ∃ k, rH (words l) = .ok k ∧ StR sp fp M M' ⟨1, { W with n := k }⟩ ∧ ∃ z, ρ' = [some (.cell sp), some (.str l), some (dN 1), some (.lst ((words l).map .str)), z, none]) (fun N hN => ?_) ?_
      · conv => whnf
        refine ⟨lines _ (by show 2 ≤ _; omega), ?_⟩
        conv => whnf
        refine ⟨rfl, rfl, ?_⟩
        refine dT rfl ?_
        obtain ⟨x, hx1, hx2⟩ := last_strs hne
        refine seq_cut (fun ρ' M' => M = M' ∧ ρ' = [some (.cell sp), some (.str l), some (dN 1), some (.lst ((words l).map .str)), some (digD (dig x)), none]) (fun N2 hN2 => ?_) ?_
        · conv => whnf
          refine ⟨.str x, atI_last (last_map hx2), ?_⟩
          exact ⟨x, rfl, by have := hsw.2 x hx1; omega, hN2 _ _ ⟨rfl, rfl⟩⟩
        rintro _ _ ⟨rfl, rfl⟩
        have form : two (sF "houses") (words l) = none → Q (.str (sF "form")) M := fun e => by
          have : rH (words l) = .error (.w (sF "form")) := by unfold rH; rw [e]
          rw [this] at q
          exact q
        refine seq_cut (fun ρ' M' => M = M' ∧ ∃ k, two (sF "houses") (words l) = some k ∧ ¬ k < 2 ∧ ρ' = [some (.cell sp), some (.str l), some (dN 1), some (.lst ((words l).map .str)), some (dN k), none]) (fun N2 hN2 => ?_) ?_
        · generalize words l = ws at *
          conv => whnf
          rw [strs_len]
          refine dN2 (fun e => ?_) (fun e => ?_)
          · refine dT rfl ?_
            exact ret_ok (form (two_no fun z => e (by rw [z]; rfl)))
          have e' : ws.length = 2 := by have : (ws.length : Int) = 2 := e; omega
          match ws, e' with
          | [a, b], _ =>
          have hxb : b = x := Option.some.inj hx2
          subst hxb
          conv => whnf
          refine ⟨.str a, rfl, ?_⟩
          conv => whnf
          refine ⟨lines _ (by show 2 ≤ _; omega), ?_⟩
          conv => whnf
          refine ⟨.str (sF "houses"), rfl, ?_⟩
          refine dN2 (fun e2 => ?_) (fun e2 => ?_)
          · refine dT rfl ?_
            exact ret_ok (form (if_neg e2))
          have et : two (sF "houses") [a, b] = dig b := if_pos e2
          rw [et] at form
          have q2 := q
          unfold rH at q2
          rw [et] at q2
          cases ed : dig b with
          | none =>
            refine dT rfl ?_
            refine dT rfl ?_
            exact ret_ok (form ed)
          | some k =>
            rw [ed] at q2
            refine dF rfl ?_
            refine dT rfl ?_
            refine d2 (fun e3 => ?_) (fun e3 => ?_)
            · have e3' : k < 2 := by have : (k : Int) < 2 := e3; omega
              dsimp only at q2
              rw [if_pos e3'] at q2
              exact ret_ok q2
            · have e3' : ¬ k < 2 := by have : ¬ (k : Int) < 2 := e3; omega
              exact hN2 _ _ ⟨rfl, k, et.trans ed, e3', rfl⟩
        rintro _ _ ⟨rfl, k, et, hk2, rfl⟩
        have erH : rH (words l) = if 40 < k then .error (.m (sF "houses") k) else .ok k := by
          unfold rH
          rw [et]
          dsimp only
          rw [if_neg hk2]
        rw [erH] at q
        refine seq_cut (fun ρ' M' => M = M' ∧ ρ' = [some (.cell sp), some (.str l), some (dN 1), some (.lst ((words l).map .str)), some (dN k), none]) (fun N2 hN2 => dF rfl (dF rfl (hN2 _ _ ⟨rfl, rfl⟩))) ?_
        rintro _ _ ⟨rfl, rfl⟩
        refine seq_cut (fun ρ' M' => M = M' ∧ ¬ 40 < k ∧ ρ' = [some (.cell sp), some (.str l), some (dN 1), some (.lst ((words l).map .str)), some (dN k), none]) (fun N2 hN2 => ?_) ?_
        · refine dT rfl ?_
          refine d2 (fun e => ?_) (fun e => ?_)
          · have e' : 40 < k := by have : (40 : Int) < k := e; omega
            rw [if_pos e'] at q
            conv => whnf
            refine ⟨lines _ (by show 2 ≤ _; omega), ?_⟩
            exact ret_ok q
          · have e' : ¬ 40 < k := by have : ¬ (40 : Int) < k := e; omega
            exact hN2 _ _ ⟨rfl, e', rfl⟩
        rintro _ _ ⟨rfl, hk40, rfl⟩
        rw [if_neg hk40] at erH
        conv => whnf
        refine ⟨lines _ (by show 2 ≤ _; omega), ?_⟩
        conv => whnf
        refine ⟨.str (sF "n"), rfl, ?_⟩
        conv => whnf
        refine ⟨stks, _, hc.hs, stks_nd, by show 5 < _; omega, ?_⟩
        exact hN _ _ ⟨k, erH, hc.put (s' := ⟨1, { W with n := k }⟩) rfl, _, rfl⟩
      rintro _ M1 ⟨k, er, hM1, z, rfl⟩
      rw [er] at q
      refine seq_cut (fun ρ' M' => M1 = M' ∧ ρ' = [some (.cell sp), some (.str l), some (dN 1), some (.lst ((words l).map .str)), z, none]) (fun N hN => dF rfl (hN _ _ ⟨rfl, rfl⟩)) ?_
      rintro _ _ ⟨rfl, rfl⟩
      refine seq_cut (fun ρ' M' => StR sp fp M M' ⟨2, { W with n := k }⟩) (fun N hN => ?_) (fun _ _ h => ret_ok (q _ h))
      conv => whnf
      refine ⟨stks, _, hM1.1.hs, stks_nd, by show 5 < _; omega, ?_⟩
      exact hN _ _ (hM1.put (s' := ⟨2, { W with n := k }⟩) rfl)
    · -- most
      rw [step2] at q
      refine seq_cut (fun ρ' M' => M = M' ∧ ρ' = [some (.cell sp), some (.str l), some (dN 2), some (.lst ((words l).map .str)), none, none]) (fun N hN => dF rfl (dF rfl (hN _ _ ⟨rfl, rfl⟩))) ?_
      rintro _ _ ⟨rfl, rfl⟩
      refine seq_cut (fun ρ' M' => M = M' ∧ ρ' = [some (.cell sp), some (.str l), some (dN 2), some (.lst ((words l).map .str)), none, none]) (fun N hN => dF rfl (dF rfl (dF rfl (hN _ _ ⟨rfl, rfl⟩)))) ?_
      rintro _ _ ⟨rfl, rfl⟩
      refine seq_cut (fun ρ' M' => ∃ k, rM (words l) W.n = .ok k ∧ StR sp fp M M' ⟨2, { W with most := k }⟩ ∧ ∃ z, ρ' = [some (.cell sp), some (.str l), some (dN 2), some (.lst ((words l).map .str)), z, none]) (fun N hN => ?_) ?_
      · conv => whnf
        refine ⟨lines _ (by show 2 ≤ _; omega), ?_⟩
        conv => whnf
        refine ⟨rfl, rfl, ?_⟩
        refine dT rfl ?_
        obtain ⟨x, hx1, hx2⟩ := last_strs hne
        refine seq_cut (fun ρ' M' => M = M' ∧ ρ' = [some (.cell sp), some (.str l), some (dN 2), some (.lst ((words l).map .str)), some (digD (dig x)), none]) (fun N2 hN2 => ?_) ?_
        · conv => whnf
          refine ⟨.str x, atI_last (last_map hx2), ?_⟩
          exact ⟨x, rfl, by have := hsw.2 x hx1; omega, hN2 _ _ ⟨rfl, rfl⟩⟩
        rintro _ _ ⟨rfl, rfl⟩
        have form : two (sF "most") (words l) = none → Q (.str (sF "form")) M := fun e => by
          have : rM (words l) W.n = .error (.w (sF "form")) := by unfold rM; rw [e]
          rw [this] at q
          exact q
        refine seq_cut (fun ρ' M' => M = M' ∧ ∃ k, two (sF "most") (words l) = some k ∧ ρ' = [some (.cell sp), some (.str l), some (dN 2), some (.lst ((words l).map .str)), some (dN k), none]) (fun N2 hN2 => ?_) ?_
        · generalize words l = ws at *
          conv => whnf
          rw [strs_len]
          refine dN2 (fun e => ?_) (fun e => ?_)
          · refine dT rfl ?_
            exact ret_ok (form (two_no fun z => e (by rw [z]; rfl)))
          have e' : ws.length = 2 := by have : (ws.length : Int) = 2 := e; omega
          match ws, e' with
          | [a, b], _ =>
          have hxb : b = x := Option.some.inj hx2
          subst hxb
          conv => whnf
          refine ⟨.str a, rfl, ?_⟩
          conv => whnf
          refine ⟨lines _ (by show 2 ≤ _; omega), ?_⟩
          conv => whnf
          refine ⟨.str (sF "most"), rfl, ?_⟩
          refine dN2 (fun e2 => ?_) (fun e2 => ?_)
          · refine dT rfl ?_
            exact ret_ok (form (if_neg e2))
          have et : two (sF "most") [a, b] = dig b := if_pos e2
          rw [et] at form
          cases ed : dig b with
          | none =>
            refine dT rfl ?_
            refine dT rfl ?_
            exact ret_ok (form ed)
          | some k =>
            refine dF rfl ?_
            refine dF rfl ?_
            refine dF rfl ?_
            exact hN2 _ _ ⟨rfl, k, et.trans ed, rfl⟩
        rintro _ _ ⟨rfl, k, et, rfl⟩
        have erM : rM (words l) W.n = if W.n ≤ k then .error (.w (sF "range")) else .ok k := by
          unfold rM
          rw [et]
        rw [erM] at q
        refine seq_cut (fun ρ' M' => M = M' ∧ ¬ W.n ≤ k ∧ ρ' = [some (.cell sp), some (.str l), some (dN 2), some (.lst ((words l).map .str)), some (dN k), none]) (fun N2 hN2 => ?_) ?_
        · refine dT rfl ?_
          conv => whnf
          rw [ls]
          conv => whnf
          refine ⟨dN W.n, gS_n, ?_⟩
          refine d2 (fun e => ?_) (fun e => ?_)
          · have e' : W.n ≤ k := by have : (W.n : Int) ≤ k := e; omega
            rw [if_pos e'] at q
            exact ret_ok q
          · have e' : ¬ W.n ≤ k := by have : ¬ (W.n : Int) ≤ k := e; omega
            exact hN2 _ _ ⟨rfl, e', rfl⟩
        rintro _ _ ⟨rfl, hkn, rfl⟩
        rw [if_neg hkn] at erM
        refine seq_cut (fun ρ' M' => M = M' ∧ ρ' = [some (.cell sp), some (.str l), some (dN 2), some (.lst ((words l).map .str)), some (dN k), none]) (fun N2 hN2 => dF rfl (dF rfl (hN2 _ _ ⟨rfl, rfl⟩))) ?_
        rintro _ _ ⟨rfl, rfl⟩
        conv => whnf
        refine ⟨lines _ (by show 2 ≤ _; omega), ?_⟩
        conv => whnf
        refine ⟨.str (sF "most"), rfl, ?_⟩
        conv => whnf
        refine ⟨stks, _, hc.hs, stks_nd, by show 5 < _; omega, ?_⟩
        exact hN _ _ ⟨k, erM, hc.put (s' := ⟨2, { W with most := k }⟩) rfl, _, rfl⟩
      rintro _ M1 ⟨k, er, hM1, z, rfl⟩
      rw [er] at q
      refine seq_cut (fun ρ' M' => M1 = M' ∧ ρ' = [some (.cell sp), some (.str l), some (dN 2), some (.lst ((words l).map .str)), z, none]) (fun N hN => dF rfl (hN _ _ ⟨rfl, rfl⟩)) ?_
      rintro _ _ ⟨rfl, rfl⟩
      refine seq_cut (fun ρ' M' => StR sp fp M M' ⟨3, { W with most := k }⟩) (fun N hN => ?_) (fun _ _ h => ret_ok (q _ h))
      conv => whnf
      refine ⟨stks, _, hM1.1.hs, stks_nd, by show 5 < _; omega, ?_⟩
      exact hN _ _ (hM1.put (s' := ⟨3, { W with most := k }⟩) rfl)
    · -- begins
      rw [step3] at q
      refine seq_cut (fun ρ' M' => M = M' ∧ ρ' = [some (.cell sp), some (.str l), some (dN 3), some (.lst ((words l).map .str)), none, none]) (fun N hN => dF rfl (dF rfl (hN _ _ ⟨rfl, rfl⟩))) ?_
      rintro _ _ ⟨rfl, rfl⟩
      refine seq_cut (fun ρ' M' => M = M' ∧ ρ' = [some (.cell sp), some (.str l), some (dN 3), some (.lst ((words l).map .str)), none, none]) (fun N hN => dF rfl (dF rfl (dF rfl (hN _ _ ⟨rfl, rfl⟩)))) ?_
      rintro _ _ ⟨rfl, rfl⟩
      refine seq_cut (fun ρ' M' => M = M' ∧ ρ' = [some (.cell sp), some (.str l), some (dN 3), some (.lst ((words l).map .str)), none, none]) (fun N hN => ?_) ?_
      · conv => whnf
        refine ⟨lines _ (by show 2 ≤ _; omega), ?_⟩
        conv => whnf
        refine ⟨rfl, rfl, ?_⟩
        exact dF rfl (hN _ _ ⟨rfl, rfl⟩)
      rintro _ _ ⟨rfl, rfl⟩
      refine seq_cut (fun ρ' M' => ∃ bs, rB (words l) W.n = .ok bs ∧ StR sp fp M M' ⟨3, { W with begins := bs }⟩ ∧ ∃ z, ρ' = [some (.cell sp), some (.str l), some (dN 3), some (.lst ((words l).map .str)), none, z]) (fun N hN => ?_) ?_
      · refine dT rfl ?_
        generalize words l = ws at *
        cases ws with
        | nil => exact absurd rfl hne
        | cons t0 r =>
        have hr4 : r.length ≤ 4000 := by have := hsw.1; rw [List.length_cons] at this; omega
        unfold rB at q
        refine seq_cut (fun ρ' M' => M = M' ∧ r.all isBit = true ∧ (rB (t0 :: r) W.n) = .ok (r.map bit) ∧ ∃ z, ρ' = [some (.cell sp), some (.str l), some (dN 3), some (.lst ((t0 :: r).map .str)), none, z]) (fun N2 hN2 => ?_) ?_
        · conv => whnf
          refine ⟨.str t0, strs_get (t0 :: r) (a := 0) rfl, ?_⟩
          refine dN2 (fun e => ?_) (fun e => ?_)
          · refine dT rfl ?_
            rw [if_neg fun z => e (Option.some.inj z.1)] at q
            exact ret_ok q
          conv => whnf
          rw [strs_len]
          conv => whnf
          rw [ls]
          conv => whnf
          refine ⟨dN W.n, gS_n, ?_⟩
          refine dN2 (fun e2 => ?_) (fun e2 => ?_)
          · refine dT rfl ?_
            have e2' : ¬ ((t0 :: r).length : Int) = (W.n : Int) + 1 := e2
            rw [if_neg fun z => e2' (by have := z.2.1; omega)] at q
            exact ret_ok q
          have e2' : ((t0 :: r).length : Int) = (W.n : Int) + 1 := e2
          show dGather (DL.cutD ((t0 :: r).map D.str) (some 1) none) _ _ _ _ _ _ _
          rw [List.map_cons, cut_tail]
          refine lc_m r D.str (fun b => [some (.cell sp), some (.str l), some (dN 3), some (.lst ((t0 :: r).map .str)), none, some (.str b)]) (fun t => .bl (isBit t)) rfl (by omega) (fun _ _ => rfl) (fun t ht K hK => ?_) ?_
          · conv => whnf
            refine ⟨lines _ (by show 2 ≤ _; omega), ?_⟩
            conv => whnf
            refine ⟨rfl, rfl, ?_⟩
            rw [inD_bit]
            exact hK
          · conv => whnf
            refine ⟨r.map isBit, by rw [List.map_map]; rfl, ?_⟩
            rw [show (r.map isBit).all id = r.all isBit from by rw [List.all_map]; rfl]
            cases ea : r.all isBit with
            | true =>
              refine dF rfl ?_
              have hc2 : (t0 :: r).head? = some (sF "begins") ∧ (t0 :: r).length = W.n + 1 ∧ (t0 :: r).tail.all isBit = true := ⟨congrArg some e, by omega, ea⟩
              refine hN2 _ _ ⟨rfl, ea, ?_, _, rfl⟩
              unfold rB
              rw [if_pos hc2]
              rfl
            | false =>
              refine dT rfl ?_
              have hnc : ¬ ((t0 :: r).head? = some (sF "begins") ∧ (t0 :: r).length = W.n + 1 ∧ (t0 :: r).tail.all isBit = true) := fun z => by
                have := z.2.2
                have h' : r.all isBit = true := this
                rw [ea] at h'
                cases h'
              rw [if_neg hnc] at q
              exact ret_ok q
        rintro _ _ ⟨rfl, hall, er, z, rfl⟩
        show dGather (DL.cutD ((t0 :: r).map D.str) (some 1) none) _ _ _ _ _ _ _
        rw [List.map_cons, cut_tail]
        refine lc_m r D.str (fun b => [some (.cell sp), some (.str l), some (dN 3), some (.lst (D.str t0 :: r.map .str)), none, some (.str b)]) (fun t => dN (bit t)) rfl (by omega) (fun _ _ => rfl) (fun t ht K hK => ?_) ?_
        · obtain ⟨e1, e2⟩ := isBit_num (List.all_eq_true.mp hall t ht)
          have hb1 : bit t < 1000 := by rcases e2 with e | e <;> rw [e] <;> decide
          have hln := num_len hb1
          conv => whnf
          refine ⟨bit t, ?_, ?_, hK⟩
          · have : (intText? (num (bit t))) = some ((bit t : Nat) : Int) := TL.int_num (by rw [← num_tl, ← TL.len_tl]; omega)
            rw [← e1] at this
            exact this
          · rw [e1]; omega
        · conv => whnf
          refine ⟨stks, _, hc.hs, stks_nd, by show 5 < _; omega, ?_⟩
          refine hN _ _ ⟨r.map bit, er, ?_, _, rfl⟩
          have := hc.put (s' := ⟨3, { W with begins := r.map bit }⟩) rfl
          have eb : (r.map bit).map dN = r.map (fun t => dN (bit t)) := by rw [List.map_map]; rfl
          unfold stD at this
          dsimp only at this
          rw [eb] at this
          exact this
      rintro _ M1 ⟨bs, er, hM1, z, rfl⟩
      rw [er] at q
      refine seq_cut (fun ρ' M' => StR sp fp M M' ⟨4, { W with begins := bs }⟩) (fun N hN => ?_) (fun _ _ h => ret_ok (q _ h))
      conv => whnf
      refine ⟨stks, _, hM1.1.hs, stks_nd, by show 5 < _; omega, ?_⟩
      exact hN _ _ (hM1.put (s' := ⟨4, { W with begins := bs }⟩) rfl)
    · -- fall or done
      by_cases hd : l = sF "done"
      · subst hd
        rw [step4d] at q
        refine seq_cut (fun ρ' M' => M = M' ∧ ρ' = [some (.cell sp), some (.str (sF "done")), some (dN 4), some (.lst ((words (sF "done")).map .str)), none, none]) (fun N hN => dT rfl (dN2 (fun e => absurd rfl e) (fun _ => hN _ _ ⟨rfl, rfl⟩))) ?_
        rintro _ _ ⟨rfl, rfl⟩
        refine seq_cut (fun ρ' M' => M = M' ∧ ρ' = [some (.cell sp), some (.str (sF "done")), some (dN 4), some (.lst ((words (sF "done")).map .str)), none, none]) (fun N hN => dF rfl (dF rfl (dF rfl (hN _ _ ⟨rfl, rfl⟩)))) ?_
        rintro _ _ ⟨rfl, rfl⟩
        refine seq_cut (fun ρ' M' => M = M' ∧ ρ' = [some (.cell sp), some (.str (sF "done")), some (dN 4), some (.lst ((words (sF "done")).map .str)), none, none]) (fun N hN => ?_) ?_
        · conv => whnf
          refine ⟨lines _ (by show 2 ≤ _; omega), ?_⟩
          conv => whnf
          refine ⟨rfl, rfl, ?_⟩
          exact dF rfl (hN _ _ ⟨rfl, rfl⟩)
        rintro _ _ ⟨rfl, rfl⟩
        refine seq_cut (fun ρ' M' => M = M' ∧ ρ' = [some (.cell sp), some (.str (sF "done")), some (dN 4), some (.lst ((words (sF "done")).map .str)), none, none]) (fun N hN => dF rfl (hN _ _ ⟨rfl, rfl⟩)) ?_
        rintro _ _ ⟨rfl, rfl⟩
        refine seq_cut (fun ρ' M' => StR sp fp M M' ⟨5, W⟩) (fun N hN => ?_) (fun _ _ h => ret_ok (q _ h))
        conv => whnf
        refine ⟨stks, _, hc.hs, stks_nd, by show 5 < _; omega, ?_⟩
        exact hN _ _ (hc.put (s' := ⟨5, W⟩) rfl)
      · rw [step4 hd] at q
        refine seq_cut (fun ρ' M' => False) (fun N hN => ?_) (fun _ _ h => h.elim)
        refine dT rfl ?_
        refine dN2 (fun _ => ?_) (fun e => absurd e hd)
        conv => whnf
        refine ⟨words l, sp, fp, ⟨4, W⟩, rfl, hsw, hc, h4 (by decide), ?_⟩
        dsimp only
        cases er : rF W.n W.most W.fs (words l) with
        | error e =>
          rw [er] at q
          exact ret_ok q
        | ok x =>
          rw [er] at q
          intro M' h
          exact ret_ok (q M' h)
    · -- behind the end
      rw [step5] at q
      refine seq_cut (fun ρ' M' => M = M' ∧ ρ' = [some (.cell sp), some (.str l), some (dN 5), some (.lst ((words l).map .str)), none, none]) (fun N hN => dF rfl (dF rfl (hN _ _ ⟨rfl, rfl⟩))) ?_
      rintro _ _ ⟨rfl, rfl⟩
      refine seq_cut (fun ρ' M' => False) (fun N hN => ?_) (fun _ _ h => h.elim)
      refine dT rfl ?_
      refine dT rfl ?_
      exact ret_ok q
)
end
end K85

/-! part G21 -/
set_option maxHeartbeats 0
namespace K85
open PySem PySem.Spec PyProof.Rows L2 DL
section
variable {P : Program} {w : World} {K : PySem.W.Frag} {mg : Str → Option Value} {base : Heap}
def rdD : RR → D
  | .ok W => .dic stks [dN 5, dN W.n, dN W.most, .lst (W.begins.map dN), fsD W.fs]
  | .bad ln w => .tup [dN ln, .str w]
  | .many ln w k => .tup [dN ln, .tup [.str w, dN k]]
theorem rdD_of {ln : Nat} {e : Er} : rdD (RR.of ln e) = .tup [dN ln, erD e] := by
  cases e <;> rfl
theorem run_ok5 {s : RS} {ln : Nat} : RS.run s ln [sF ""] = if s.stage = 5 then .ok s.W else .bad ln (sF "missing") := by
  rw [run_one, if_pos rfl]
def sp_law_reads : SpD := fun ds M Q => ∃ x : Str, ds = [.str x] ∧ TxOk x ∧ ClosedM M ∧ Q (rdD (rdT x)) M
theorem len_law_reads : ∀ ds M Q, sp_law_reads ds M Q → ds.length = 1 := by
  rintro _ _ _ ⟨_, rfl, _⟩; rfl
theorem sub_keep {sp fp : Addr} {M M' : Mp} (h : ∀ q, q ≠ sp → q ≠ fp → M' q = M q) (h1 : M sp = none) (h2 : M fp = none) : SubM M M' := fun y d e => by
  rw [h y (ne_cell e h1) (ne_cell e h2)]
  exact e
theorem getD_drop {ls : List Str} {t : Nat} {l : Str} {r : List Str} (h : ls.drop t = l :: r) : ls.getD t (sF "") = l := by
  have := congrArg List.head? h
  rw [List.head?_drop] at this
  rw [List.getD_eq_getElem?_getD, this]
  rfl
theorem ok_law_reads (T : Txt K mg) : FnD P w K mg base 5 T.law_reads.f T.law_reads.fd ["script_text"] sp_law_reads := okDk T.law_reads.F sc_law_reads len_law_reads (fun cdv A outer s H E hr =>
        (dss_cons (ds_par2 (i := 1) (j := 2) rfl sc_law_reads.nd rfl rfl (by decide) rfl rfl (de_split (dv 0) de_str) (de_dispC (dpp_cons de_int (dpp_cons de_int (dpp_cons de_int (dpp_cons (de_lst da_nil) (dpp_cons de_dnewC dpp_nil)))))))
      (dss_cons (ds_for PassesOwn.never rfl (di_enum (by rfl) T.b_enumerate (dv 1)) (dg_tup (n := 2) rfl (dgs_cons (dg_name (i := 3) sc_law_reads.nd) (dgs_cons (dg_name (i := 4) sc_law_reads.nd) dgs_nil))) (dss_cons (ds_set (i := 5) sc_law_reads.nd (de_cmp o_eq (de_op o_add (dv 3) de_int) (de_callB c_len (by rfl) T.b_len boot_len (da_cons (dv 1) da_nil))))
      (dss_cons (ds_if (PWD.pt (dw_and (dt_val (dv 5)) (dw_and1 (dt_cmp o_eq (dv 4) de_str)))) (dss_one ds_break) dss_nil)
      (dss_cons (ds_set (i := 6) sc_law_reads.nd (de_if (dt_val (dv 5)) de_str (de_call (ok_law_line_why T) (hr.mono (by decide)) (by rfl) T.law_line_why.g T.law_line_why.F.kp T.law_line_why.b (da_cons (dv 2) (da_cons (dv 4) da_nil)))))
      (dss_one (ds_if (dt_cmp o_isnot (dv 6) de_non) (dss_one (ds_ret (de_tup (da_cons (de_op o_add (dv 3) de_int) (da_cons (dv 6) da_nil))))) dss_nil))))))
      (dss_freeze (dss_freeze (dss_one (ds_ret (de_if (dt_cmp o_eq (de_get (hu_of (k := 0) (hr.mono (by decide))) (dv 2) de_str) de_int) (dv 2) (de_tup (da_cons (de_callB c_len (by rfl) T.b_len boot_len (da_cons (dv 1) da_nil)) (da_cons de_str da_nil)))))))))))
      (by
    rintro _ M Q ⟨x, rfl, ⟨hok, hlen, hll⟩, hcl, q⟩
    have hb := big
    have hpc : Pcs 10 x (Txt.split x nl) := pcs tl_nl (by decide)
    have hne := hpc.ne
    have hlen2 := hpc.len
    have e0 : rdT x = RS.run rs0 1 (Txt.split x nl) := rfl
    refine seq_cut (fun ρ' M' => ∃ sp fp, M sp = none ∧ M fp = none ∧ StR sp fp M M' rs0 ∧ ρ' = [some (.str x), some (.lst ((Txt.split x nl).map .str)), some (.cell sp), none, none, none, none]) (fun N hN => ?_) ?_
    · conv => whnf
      refine ⟨?_, by omega, ?_⟩
      · show ((nl).length == 0) = false
        have : (nl).length = 1 := nl_len
        rw [this]
        rfl
      conv => whnf
      refine ⟨lines _ (by show 0 ≤ _; omega), ?_⟩
      intro fp hfp
      intro sp hsp
      have hne2 : sp ≠ fp := fun e => by rw [e, updM_same] at hsp; cases hsp
      rw [updM_ne hne2] at hsp
      exact hN _ _ ⟨sp, fp, hsp, hfp, ⟨⟨updM_same, by rw [updM_ne hne2.symm]; exact updM_same, hne2⟩, fun q a1 a2 => by rw [updM_ne a1, updM_ne a2]⟩, rfl⟩
    rintro _ M1 ⟨sp, fp, hsp, hfp, h1, rfl⟩
    generalize Txt.split x nl = ls at hll hne hlen2 e0
    generalize rdT x = res at e0 q
    refine seq_cut (fun ρ' M' => ∃ s, StR sp fp M M' s ∧ res = (if s.stage = 5 then .ok s.W else .bad ls.length (sF "missing")) ∧ ∃ z1 z2 z3 z4, ρ' = [some (.str x), some (.lst (ls.map .str)), some (.cell sp), z1, z2, z3, z4]) (fun N hN => ?_) ?_
    · refine loop_l (List.range ls.length) (fun t => .tup [dN t, .str (ls.getD t (sF ""))]) ?_ (fun t ρ' M' => ∃ s, StR sp fp M M' s ∧ StOk s ∧ ls.drop t ≠ [] ∧ res = RS.run s (t + 1) (ls.drop t) ∧ ∃ z1 z2 z3 z4, ρ' = [some (.str x), some (.lst (ls.map .str)), some (.cell sp), z1, z2, z3, z4]) ?_ ?_ ?_
      · refine List.ext_getElem? fun k => ?_
        rw [List.getElem?_mapIdx, List.getElem?_map, List.getElem?_map]
        by_cases hk : k < ls.length
        · rw [List.getElem?_range hk, List.getElem?_eq_getElem hk, Option.map_some, Option.map_some, Option.map_some, List.getD_eq_getElem?_getD, List.getElem?_eq_getElem hk]
          rfl
        · rw [List.getElem?_eq_none (by omega), List.getElem?_eq_none (by rw [List.length_range]; omega)]
          rfl
      · refine ⟨rs0, h1, st0, fun z => ?_, e0, _, _, _, _, rfl⟩
        rw [List.drop_zero] at z
        rw [z] at hne
        exact absurd hne (by show ¬ 1 ≤ 0; decide)
      · rintro t y _ M' ex hy ⟨s, hM', hso, hdr, er, z1, z2, z3, z4, rfl⟩
        have ht : t < ls.length := by
          have := (List.getElem?_eq_some_iff.mp ex).1
          simpa using this
        rw [List.getElem?_range ht] at ex
        cases ex
        cases hd : ls.drop t with
        | nil => exact absurd hd hdr
        | cons l r =>
        rw [hd] at er
        have hgl : ls.getD t (sF "") = l := getD_drop hd
        rw [hgl]
        have hlm : l ∈ ls := List.mem_of_mem_drop (i := t) (by rw [hd]; exact List.mem_cons_self)
        have hlr : ls.length = t + (r.length + 1) := by
          have := congrArg List.length hd
          rw [List.length_drop, List.length_cons] at this
          omega
        have hsub := sub_keep hM'.2 hsp hfp
        conv => whnf
        refine ⟨rfl, ?_⟩
        dsimp only [dgCons, dgNil, dName, List.set]
        refine seq_cut (fun ρ' M2 => M' = M2 ∧ ρ' = [some (.str x), some (.lst (ls.map .str)), some (.cell sp), some (dN t), some (.str l), some (.bl (decide (r = []))), z4]) (fun N2 hN2 => ?_) ?_
        · conv => whnf
          rw [strs_len]
          refine hN2 _ _ ⟨rfl, ?_⟩
          show [some _, some _, some _, some _, some _, some (D.bl (decide ((t : Int) + 1 = (ls.length : Nat)))), z4] = _
          rw [show decide ((t : Int) + 1 = ((ls.length : Nat) : Int)) = decide (r = []) from decide_eq_decide.mpr (by rw [hlr]; rw [← List.length_eq_zero_iff]; omega)]
        rintro _ _ ⟨rfl, rfl⟩
        cases r with
        | nil =>
          rw [run_one] at er
          refine seq_cut (fun ρ' M2 => M' = M2 ∧ l ≠ sF "" ∧ ρ' = [some (.str x), some (.lst (ls.map .str)), some (.cell sp), some (dN t), some (.str l), some (.bl true), z4]) (fun N2 hN2 => ?_) ?_
          · refine dT rfl ?_
            refine d2 (fun e => ?_) (fun e => ?_)
            · rw [if_pos e] at er
              refine hN _ _ ⟨s, hM', ?_, _, _, _, _, rfl⟩
              rw [er, hlr]
              rfl
            · exact hN2 _ _ ⟨rfl, e, rfl⟩
          rintro _ _ ⟨rfl, hle, rfl⟩
          rw [if_neg hle] at er
          refine seq_cut (fun ρ' M2 => M' = M2 ∧ ρ' = [some (.str x), some (.lst (ls.map .str)), some (.cell sp), some (dN t), some (.str l), some (.bl true), some (.str (sF "form"))]) (fun N2 hN2 => ?_) ?_
          · refine dT rfl ?_
            exact hN2 _ _ ⟨rfl, rfl⟩
          rintro _ _ ⟨rfl, rfl⟩
          refine dT rfl ?_
          conv => whnf
          refine ⟨lines _ (by show 2 ≤ _; omega), ?_⟩
          rw [er] at q
          exact ⟨M, hsub, q⟩
        | cons l2 r2 =>
          rw [run_two] at er
          refine seq_cut (fun ρ' M2 => M' = M2 ∧ ρ' = [some (.str x), some (.lst (ls.map .str)), some (.cell sp), some (dN t), some (.str l), some (.bl false), z4]) (fun N2 hN2 => ?_) ?_
          · refine dF rfl ?_
            refine dF rfl ?_
            exact hN2 _ _ ⟨rfl, rfl⟩
          rintro _ _ ⟨rfl, rfl⟩
          refine seq_cut (fun ρ' M2 => (∃ e, s.step l = .error e ∧ M' = M2 ∧ ρ' = [some (.str x), some (.lst (ls.map .str)), some (.cell sp), some (dN t), some (.str l), some (.bl false), some (erD e)]) ∨ ∃ s', s.step l = .ok s' ∧ StR sp fp M M2 s' ∧ ρ' = [some (.str x), some (.lst (ls.map .str)), some (.cell sp), some (dN t), some (.str l), some (.bl false), some .non]) (fun N2 hN2 => ?_) ?_
          · refine dF rfl ?_
            conv => whnf
            refine ⟨l, sp, fp, s, rfl, hll l hlm, hM'.1, hso, ?_⟩
            cases es : s.step l with
            | error e => exact hN2 _ _ (.inl ⟨e, es, rfl, rfl⟩)
            | ok s' => exact fun M2 h2 => hN2 _ _ (.inr ⟨s', es, ⟨h2.1, fun q a1 a2 => (h2.2 q a1 a2).trans (hM'.2 q a1 a2)⟩, rfl⟩)
          rintro _ M2 (⟨e, es, rfl, rfl⟩ | ⟨s', es, hM2, rfl⟩)
          · rw [es] at er
            dsimp only at er
            rw [er, rdD_of] at q
            have hnn : isN (erD e) = false := by cases e <;> rfl
            conv => whnf
            rw [hnn]
            refine dT rfl ?_
            conv => whnf
            refine ⟨lines _ (by show 2 ≤ _; omega), ?_⟩
            exact ⟨M, hsub, q⟩
          · rw [es] at er
            refine dF rfl ?_
            have hd2 : ls.drop (t + 1) = l2 :: r2 := by rw [← List.drop_drop, hd]; rfl
            exact ⟨s', hM2, step_ok hso es, by rw [hd2]; simp, by rw [hd2]; exact er, _, _, _, _, rfl⟩
      · rintro _ M' ⟨s, hM', hso, hdr, er, z1, z2, z3, z4, rfl⟩
        rw [List.length_range, List.drop_length] at hdr
        exact absurd rfl hdr
    rintro _ M2 ⟨s, hM2, er, z1, z2, z3, z4, rfl⟩
    obtain ⟨⟨hs, hf, hne2⟩, hfr⟩ := hM2
    refine ⟨fun q => decide (q = fp), fun q => decide (q = sp), ?_⟩
    generalize hF : (fun q => decide (q = fp)) = F
    generalize hG : (fun q => decide (q = sp)) = G
    have Ff : F fp = true := by rw [← hF]; exact decide_eq_true rfl
    have Fo : ∀ q, q ≠ fp → F q = false := fun q a => by rw [← hF]; exact decide_eq_false a
    have Gs : G sp = true := by rw [← hG]; exact decide_eq_true rfl
    have Go : ∀ q, q ≠ sp → G q = false := fun q a => by rw [← hG]; exact decide_eq_false a
    have hs2 : delF F M2 sp = some (.dic stks [dN s.stage, dN s.W.n, dN s.W.most, .lst (s.W.begins.map dN), fsD s.W.fs]) := by
      unfold delF
      rw [Fo sp hne2, if_neg Bool.false_ne_true, hs, Option.map_some]
      show some (D.dic stks [dN s.stage, dN s.W.n, dN s.W.most, .lst (s.W.begins.map dN), if F fp = true then (M2 fp).getD (.cell fp) else .cell fp]) = _
      rw [Ff, if_pos rfl, hf]
      rfl
    have hsub : SubM M (delF G (delF F M2)) := fun y d e => by
      have y1 : y ≠ sp := ne_cell e hsp
      have y2 : y ≠ fp := ne_cell e hfp
      have a1 : delF F M2 y = some d := by
        unfold delF
        rw [Fo y y2, if_neg Bool.false_ne_true, hfr y y1 y2, e, Option.map_some, hcl y d e F M2 fun p hp => ?_]
        have : p = fp := by
          refine Classical.byContradiction fun z => ?_
          rw [Fo p z] at hp
          cases hp
        rw [this]; exact hfp
      unfold delF at a1 ⊢
      rw [Go y y1, if_neg Bool.false_ne_true, a1, Option.map_some, hcl y d e G _ fun p hp => ?_]
      have : p = sp := by
        refine Classical.byContradiction fun z => ?_
        rw [Go p z] at hp
        cases hp
      rw [this]; exact hsp
    have henv : ∃ w1 w2 w3 w4, List.map (Option.map (subD G (delF F M2))) (List.map (Option.map (subD F M2)) [some (.str x), some (.lst (ls.map .str)), some (.cell sp), z1, z2, z3, z4]) = [some (.str x), some (.lst (ls.map .str)), some (.dic stks [dN s.stage, dN s.W.n, dN s.W.most, .lst (s.W.begins.map dN), fsD s.W.fs]), w1, w2, w3, w4] := by
      refine ⟨Option.map (subD G (delF F M2)) (Option.map (subD F M2) z1), Option.map (subD G (delF F M2)) (Option.map (subD F M2) z2), Option.map (subD G (delF F M2)) (Option.map (subD F M2) z3), Option.map (subD G (delF F M2)) (Option.map (subD F M2) z4), ?_⟩
      simp only [List.map_cons, List.map_nil, Option.map_some]
      have c2 : subD G (delF F M2) (subD F M2 (.cell sp)) = .dic stks [dN s.stage, dN s.W.n, dN s.W.most, .lst (s.W.begins.map dN), fsD s.W.fs] := by
        show subD G (delF F M2) (if F sp = true then _ else .cell sp) = _
        rw [Fo sp hne2, if_neg Bool.false_ne_true]
        show (if G sp = true then (delF F M2 sp).getD (.cell sp) else D.cell sp) = _
        rw [Gs, if_pos rfl, hs2]
        rfl
      rw [c2]
      rfl
    obtain ⟨w1, w2, w3, w4, henv⟩ := henv
    rw [henv]
    conv => whnf
    refine ⟨dN s.stage, gS_stage, ?_⟩
    refine d2 (fun e => ?_) (fun e => ?_)
    · have e' : s.stage = 5 := by have : (s.stage : Int) = 5 := e; omega
      rw [if_pos e'] at er
      rw [er] at q
      refine ⟨M, hsub, ?_⟩
      rw [e']
      exact q
    · have e' : ¬ s.stage = 5 := by have : ¬ (s.stage : Int) = 5 := e; omega
      rw [if_neg e'] at er
      rw [er] at q
      conv => whnf
      rw [strs_len]
      refine ⟨lines _ (by show 2 ≤ _; omega), M, hsub, q⟩
)
def dueD : RR → D
  | .ok _ => .non
  | .bad ln w => .tup [.str (sF "BadFalls"), dN ln, .str w, .bl true, .bl false]
  | .many _ w k => .tup [.str (sF "TooMany"), .str w, dN k, .bl true, .bl false]
theorem dueD_ok (r : RR) : okSame 5 (dueD r) := by
  cases r with
  | ok W => trivial
  | bad ln w => exact ⟨by show 5 ≤ 1000; decide, fun y hy => by
      simp only [List.mem_cons, List.not_mem_nil, or_false] at hy
      rcases hy with rfl | rfl | rfl | rfl | rfl <;> trivial⟩
  | many ln w k => exact ⟨by show 5 ≤ 1000; decide, fun y hy => by
      simp only [List.mem_cons, List.not_mem_nil, or_false] at hy
      rcases hy with rfl | rfl | rfl | rfl | rfl <;> trivial⟩
def sp_law_due : SpD := fun ds M Q => ∃ r : RR, ds = [rdD r] ∧ Q (dueD r) M
theorem len_law_due : ∀ ds M Q, sp_law_due ds M Q → ds.length = 1 := by
  rintro _ _ _ ⟨_, rfl, _⟩; rfl
theorem ok_law_due (T : Txt K mg) : FnD P w K mg base 1 T.law_due.f T.law_due.fd ["found"] sp_law_due := okDk T.law_due.F sc_law_due len_law_due (fun cdv A outer s H E hr =>
        (dss_cons (ds_if (dt_val (de_callB c_isi (by rfl) T.b_isinstance boot_isinstance (da_cons (dv 0) (da_cons (de_ty (by rfl) T.b_dict boot_dict) da_nil)))) (dss_one (ds_ret de_non)) dss_nil)
      (dss_cons (ds_if (dt_val (de_callB c_isi (by rfl) T.b_isinstance boot_isinstance (da_cons (de_ix (dv 0) de_int) (da_cons (de_ty (by rfl) T.b_tuple boot_tuple) da_nil)))) (dss_one (ds_ret (de_tup (da_cons de_str (da_cons (de_ix (de_ix (dv 0) de_int) de_int) (da_cons (de_ix (de_ix (dv 0) de_int) de_int) (da_cons de_bl (da_cons de_bl da_nil)))))))) dss_nil)
      (dss_one (ds_ret (de_tup (da_cons de_str (da_cons (de_ix (dv 0) de_int) (da_cons (de_ix (dv 0) de_int) (da_cons de_bl (da_cons de_bl da_nil)))))))))))
      (by
    rintro _ M Q ⟨r, rfl, q⟩
    cases r with
    | ok W =>
      conv => whnf
      refine ⟨by decide, "dict", rfl, ?_⟩
      refine dT rfl ?_
      exact ret_ok q
    | bad ln w =>
      conv => whnf
      refine ⟨by decide, "tuple", rfl, ?_⟩
      refine dF rfl ?_
      conv => whnf
      refine ⟨.str w, rfl, ?_⟩
      conv => whnf
      refine ⟨by decide, "str", rfl, ?_⟩
      refine dF rfl ?_
      conv => whnf
      refine ⟨dN ln, rfl, ?_⟩
      conv => whnf
      refine ⟨.str w, rfl, ?_⟩
      conv => whnf
      refine ⟨lines _ (by show 5 ≤ _; omega), ?_⟩
      exact ret_ok q
    | many ln w k =>
      conv => whnf
      refine ⟨by decide, "tuple", rfl, ?_⟩
      refine dF rfl ?_
      conv => whnf
      refine ⟨.tup [.str w, dN k], rfl, ?_⟩
      conv => whnf
      refine ⟨by decide, "tuple", rfl, ?_⟩
      refine dT rfl ?_
      conv => whnf
      refine ⟨.tup [.str w, dN k], rfl, ?_⟩
      conv => whnf
      refine ⟨.str w, rfl, ?_⟩
      conv => whnf
      refine ⟨.tup [.str w, dN k], rfl, ?_⟩
      conv => whnf
      refine ⟨dN k, rfl, ?_⟩
      conv => whnf
      refine ⟨lines _ (by show 5 ≤ _; omega), ?_⟩
      exact ret_ok q
)
def sp_law_refused (T : Txt K mg) : SpD := fun ds M Q => (∃ x : Str, ds = [.str x] ∧ TxOk x ∧ ClosedM M ∧ Q (dueD (rdT x)) M) ∨ ∃ y, ds = [y] ∧ (∀ M', noTx T.FallRun.C M' y) ∧ Q (dueD (.bad 0 (sF "form"))) M
theorem len_law_refused (T : Txt K mg) : ∀ ds M Q, sp_law_refused T ds M Q → ds.length = 1 := by
  rintro _ _ _ (⟨_, rfl, _⟩ | ⟨_, rfl, _⟩) <;> rfl
theorem ok_law_refused (T : Txt K mg) : FnD P w K mg base 7 T.law_refused.f T.law_refused.fd ["value"] (sp_law_refused T) := okDk T.law_refused.F sc_law_refused (len_law_refused T) (fun cdv A outer s H E hr =>
        (dss_cons (sd_try rfl rfl sc_law_refused.nd (fun pn xe po => (ssx_cons (sx_expr (ex_makeK T.FallRun.mk (ok_FallRun_init T) (hr.mono (by decide)) (by rfl) T.FallRun.g T.FallRun.kb_init (kx_cons (ex_ofn (dv 0)) kx_nil)))
      ssx_nil)) (.cons (i := 1) rfl rfl ⟨by rfl, by decide, .inl T.BadFalls.g⟩ (tst_BadFalls_ok T) (fun a oe cls d pn hz hf => (dss_one (ds_ret (de_tup (da_cons (de_xf (xf_code_ok T) hz hf (dv 1)) (da_cons (de_xf (xf_line_ok T) hz hf (dv 1)) (da_cons (de_xf (xf_why_ok T) hz hf (dv 1)) (da_cons (de_callB (c_isX (isx_ok T) hz hf) (by rfl) T.b_isinstance boot_isinstance (da_cons (dv 1) (da_cons (de_globC (by rfl) T.gc_AgreeError) da_nil))) (da_cons (de_callB (c_isXT (isx_ok T) hz hf) (by rfl) T.b_isinstance boot_isinstance (da_cons (dv 1) (da_cons (de_tup (da_cons (de_globC (by rfl) T.gc_BadBook) (da_cons (de_globC (by rfl) T.TooMany.g) da_nil))) da_nil))) da_nil))))))))) (.cons (i := 1) rfl rfl ⟨by rfl, by decide, .inl T.TooMany.g⟩ (tst_TooMany_ok T) (fun a oe cls d pn hz hf => (dss_one (ds_ret (de_tup (da_cons (de_xf (xf_code_ok T) hz hf (dv 1)) (da_cons (de_xf (xf_what_ok T) hz hf (dv 1)) (da_cons (de_xf (xf_many_ok T) hz hf (dv 1)) (da_cons (de_callB (c_isX (isx_ok T) hz hf) (by rfl) T.b_isinstance boot_isinstance (da_cons (dv 1) (da_cons (de_globC (by rfl) T.gc_AgreeError) da_nil))) (da_cons (de_callB (c_isX (isx_ok T) hz hf) (by rfl) T.b_isinstance boot_isinstance (da_cons (dv 1) (da_cons (de_globC (by rfl) T.gc_BadBook) da_nil))) da_nil))))))))) .nil)))
      (dss_one (ds_ret de_non))))
      (by
    rintro _ M Q (⟨x, rfl, htx, hcl, q⟩ | ⟨y, rfl, hy, q⟩)
    rotate_left
    · refine seq_cut (fun ρ' M' => False) (fun N hN => ?_) (fun _ _ h => h.elim)
      conv => whnf
      refine ⟨rfl, fun p hp => ?_⟩
      refine .inr ⟨p, y, M, rfl, hp, rfl, hy _, ?_⟩
      refine ⟨true, Or.inl ⟨rfl, rfl⟩, fun _ a dd => ?_, fun h => (by cases h)⟩
      conv => whnf
      refine ⟨rfl, rfl, rfl, Or.inl rfl, .str (sF "BadFalls"), rfl, ?_⟩
      conv => whnf
      refine ⟨rfl, rfl, rfl, rfl, dN 0, rfl, ?_⟩
      conv => whnf
      refine ⟨rfl, rfl, rfl, rfl, .str (sF "form"), rfl, ?_⟩
      conv => whnf
      refine ⟨rfl, rfl, rfl, true, Or.inl ⟨rfl, rfl, rfl⟩, ?_⟩
      conv => whnf
      refine ⟨lines _ (by show 2 ≤ _; omega), ?_⟩
      conv => whnf
      refine ⟨rfl, rfl, rfl, false, false, Or.inr (Or.inl ⟨rfl, rfl, rfl⟩), Or.inr (Or.inr (Or.inl ⟨rfl, rfl, rfl⟩)), ?_⟩
      conv => whnf
      refine ⟨lines _ (by show 5 ≤ _; omega), ?_⟩
      exact ret_ok q
    refine seq_cut (fun ρ' M' => M = M' ∧ ∃ W, rdT x = .ok W) (fun N hN => ?_) ?_
    · conv => whnf
      refine ⟨rfl, fun p hp => ?_⟩
      refine .inl ⟨p, x, M, rfl, hp, rfl, hcl, htx, ?_⟩
      cases hr : rdT x with
      | ok W =>
        intro sf h1 h2 R hR
        refine ⟨rfl, _, updM_same, ?_⟩
        rw [delM_updM hp]
        exact hN _ _ ⟨rfl, W, hr⟩
      | bad ln w =>
        rw [hr] at q
        refine ⟨true, Or.inl ⟨rfl, rfl⟩, fun _ a dd => ?_, fun h => (by cases h)⟩
        conv => whnf
        refine ⟨rfl, rfl, rfl, Or.inl rfl, .str (sF "BadFalls"), rfl, ?_⟩
        conv => whnf
        refine ⟨rfl, rfl, rfl, rfl, dN ln, rfl, ?_⟩
        conv => whnf
        refine ⟨rfl, rfl, rfl, rfl, .str w, rfl, ?_⟩
        conv => whnf
        refine ⟨rfl, rfl, rfl, true, Or.inl ⟨rfl, rfl, rfl⟩, ?_⟩
        conv => whnf
        refine ⟨lines _ (by show 2 ≤ _; omega), ?_⟩
        conv => whnf
        refine ⟨rfl, rfl, rfl, false, false, Or.inr (Or.inl ⟨rfl, rfl, rfl⟩), Or.inr (Or.inr (Or.inl ⟨rfl, rfl, rfl⟩)), ?_⟩
        conv => whnf
        refine ⟨lines _ (by show 5 ≤ _; omega), ?_⟩
        exact ret_ok q
      | many ln w k =>
        rw [hr] at q
        refine ⟨false, Or.inr ⟨rfl, rfl⟩, fun h => (by cases h), fun _ => ⟨true, Or.inr ⟨rfl, rfl⟩, fun _ a dd => ?_, fun h => (by cases h)⟩⟩
        conv => whnf
        refine ⟨rfl, rfl, rfl, Or.inr rfl, .str (sF "TooMany"), rfl, ?_⟩
        conv => whnf
        refine ⟨rfl, rfl, rfl, rfl, .str w, rfl, ?_⟩
        conv => whnf
        refine ⟨rfl, rfl, rfl, rfl, dN k, rfl, ?_⟩
        conv => whnf
        refine ⟨rfl, rfl, rfl, true, Or.inr (Or.inr (Or.inr (Or.inl ⟨rfl, rfl, rfl⟩))), ?_⟩
        conv => whnf
        refine ⟨rfl, rfl, rfl, false, Or.inr (Or.inr (Or.inr (Or.inr (Or.inl ⟨rfl, rfl, rfl⟩)))), ?_⟩
        conv => whnf
        refine ⟨lines _ (by show 5 ≤ _; omega), ?_⟩
        exact ret_ok q
    rintro _ _ ⟨rfl, W, hr⟩
    rw [hr] at q
    exact ret_ok q
)
end
end K85

/-! part P22 -/
set_option maxHeartbeats 0
namespace K85
open PySem PySem.Spec PyProof.Rows L2 DL
section
variable {P : Program} {w : World} {K : PySem.W.Frag} {mg : Str → Option Value} {base : Heap}
/-! texts from lines -/
def Lns (B : Nat) (ls : List Str) : Prop := ∀ l ∈ ls, l.length ≤ B ∧ PyData.strOk l = true ∧ 10 ∉ TL.tl l
theorem Lns.mono {B B' : Nat} {ls : List Str} (h : Lns B ls) (hb : B ≤ B') : Lns B' ls := fun l hl => ⟨by have := (h l hl).1; omega, (h l hl).2⟩
theorem Lns.app {B : Nat} {ls ms : List Str} (h : Lns B ls) (h2 : Lns B ms) : Lns B (ls ++ ms) := fun l hl => (List.mem_append.mp hl).elim (h l) (h2 l)
theorem Lns.sub {B : Nat} {ls ms : List Str} (h : Lns B ls) (h2 : ∀ l ∈ ms, l ∈ ls) : Lns B ms := fun l hl => h l (h2 l hl)
theorem Lns.empty {B : Nat} : Lns B [sF ""] := fun l hl => by
  rw [List.mem_singleton.mp hl]
  exact ⟨by rw [TL.len_tl, tl_empty]; exact Nat.zero_le _, strOk_iff.mpr fun c hc => by (rw [tl_empty] at hc; cases hc), by rw [tl_empty]; exact List.not_mem_nil⟩
theorem strOk_join {y : Str} {ls : List Str} (hy : PyData.strOk y = true) (h : ∀ l ∈ ls, PyData.strOk l = true) : PyData.strOk (Txt.join y ls) = true := by
  refine strOk_iff.mpr fun c hc => ?_
  rw [tl_join2] at hc
  rcases mem_joinL hc with h1 | ⟨p, h1, h2⟩
  · exact strOk_iff.mp hy c h1
  · obtain ⟨l, hl, rfl⟩ := List.mem_map.mp h1
    exact strOk_iff.mp (h l hl) c h2
theorem ok_nl : PyData.strOk nl = true := strOk_iff.mpr fun c hc => by
  rw [tl_nl] at hc
  rw [List.mem_singleton.mp hc]
  decide
theorem ok_spc : PyData.strOk spc = true := strOk_iff.mpr fun c hc => by
  rw [tl_spc] at hc
  rw [List.mem_singleton.mp hc]
  decide
theorem split_lines {B : Nat} {ls : List Str} (h : Lns B ls) (hne : ls ≠ []) : Txt.split (Txt.join nl ls) nl = ls :=
  TL.split_join (s := 10) (S := []) tl_nl (small256 tl_nl (by decide)) hne fun p hp => (h p hp).2.2
theorem len_lines {B : Nat} {ls : List Str} (h : Lns B ls) : (Txt.join nl ls).length ≤ ls.length * (B + 1) := by
  have h1 := join_len nl ls
  have h2 := sum_le (fun x : Str => x.length) B ls fun x hx => (h x hx).1
  rw [nl_len] at h1
  rw [Nat.mul_succ]
  omega
theorem txOk {ls : List Str} (h : Lns 3000 ls) (hne : ls ≠ []) (hl : ls.length ≤ 100) : TxOk (Txt.join nl ls) := by
  refine ⟨strOk_join ok_nl fun l hl => (h l hl).2.1, ?_, fun l hl => ?_⟩
  · have := len_lines h
    have : ls.length * 3001 ≤ 100 * 3001 := Nat.mul_le_mul_right _ hl
    omega
  · rw [split_lines h hne] at hl
    exact (h l hl).1
theorem rdT_lines {B : Nat} {ls : List Str} (h : Lns B ls) (hne : ls ≠ []) : rdT (Txt.join nl ls) = RS.run rs0 1 ls := by
  unfold rdT
  rw [split_lines h hne]
/-! a world's lines -/
theorem words_line {ws : List Str} (hne : ws ≠ []) (h : ∀ w ∈ ws, 32 ∉ TL.tl w) : words (line ws) = ws := line_split hne h
theorem num_free (k : Nat) : 32 ∉ TL.tl (num k) := by rw [num_tl]; exact TL.numL_free (.inl (by decide))
theorem sp_free {s : String} (h : 32 ∉ s.toList.map Char.toNat) : 32 ∉ TL.tl (sF s) := by rw [TL.tl_ofString]; exact h
def headL (n m : Nat) (bs : List Nat) : List Str := [line [sF "falls"], line [sF "houses", num n], line [sF "most", num m], line (sF "begins" :: bs.map num)]
theorem words2 {s : String} (h : 32 ∉ s.toList.map Char.toNat) (k : Nat) : words (line [sF s, num k]) = [sF s, num k] :=
  words_line (by simp) fun w hw => by
    simp only [List.mem_cons, List.not_mem_nil, or_false] at hw
    rcases hw with rfl | rfl
    · exact sp_free h
    · exact num_free k
theorem run_falls {ln : Nat} {q : Str} {r : List Str} {W : Wd} : RS.run ⟨0, W⟩ ln (line [sF "falls"] :: q :: r) = RS.run ⟨1, W⟩ (ln + 1) (q :: r) := by
  have e : line [sF "falls"] = sF "falls" := l_falls
  rw [run_two, step0, if_pos e]
theorem run_houses {ln n : Nat} {q : Str} {r : List Str} {W : Wd} (h : (num n).length ≤ 9) (h2 : 2 ≤ n) : RS.run ⟨1, W⟩ ln (line [sF "houses", num n] :: q :: r) = if 40 < n then .many ln (sF "houses") n else RS.run ⟨2, { W with n := n }⟩ (ln + 1) (q :: r) := by
  rw [run_two, step1, words2 (by decide)]
  have e1 : two (sF "houses") [sF "houses", num n] = some n := by
    show (if sF "houses" = sF "houses" then dig (num n) else none) = _
    rw [if_pos rfl, dig_num h]
  unfold rH
  rw [e1]
  dsimp only
  rw [if_neg (by omega)]
  by_cases h40 : 40 < n
  · rw [if_pos h40, if_pos h40]
    rfl
  · rw [if_neg h40, if_neg h40]
    rfl
theorem run_most {ln m : Nat} {q : Str} {r : List Str} {W : Wd} (h : m + 1 ≤ W.n) (h1 : m < 1000) : RS.run ⟨2, W⟩ ln (line [sF "most", num m] :: q :: r) = RS.run ⟨3, { W with most := m }⟩ (ln + 1) (q :: r) := by
  rw [run_two, step2, words2 (by decide)]
  have e1 : two (sF "most") [sF "most", num m] = some m := by
    show (if sF "most" = sF "most" then dig (num m) else none) = _
    rw [if_pos rfl, dig_small h1]
  unfold rM
  rw [e1]
  dsimp only
  rw [if_neg (by omega)]
  rfl
theorem bit_num {b : Nat} (h : b = 0 ∨ b = 1) : isBit (num b) = true ∧ bit (num b) = b := by
  have n0 : num 0 = Str.ofString "0" := TL.ext_tl (by rw [num_tl, TL.numL_lt (by decide), TL.tl_ofString]; rfl)
  have n1 : num 1 = Str.ofString "1" := TL.ext_tl (by rw [num_tl, TL.numL_lt (by decide), TL.tl_ofString]; rfl)
  unfold isBit bit
  rcases h with rfl | rfl
  · rw [n0]; decide
  · rw [n1]; decide
theorem run_begins {ln : Nat} {bs : List Nat} {q : Str} {r : List Str} {W : Wd} (h : bs.length = W.n) (h1 : ∀ b ∈ bs, b = 0 ∨ b = 1) : RS.run ⟨3, W⟩ ln (line (sF "begins" :: bs.map num) :: q :: r) = RS.run ⟨4, { W with begins := bs }⟩ (ln + 1) (q :: r) := by
  have ew : words (line (sF "begins" :: bs.map num)) = sF "begins" :: bs.map num := words_line (by simp) fun w hw => by
    rcases List.mem_cons.mp hw with rfl | hw
    · exact sp_free (by decide)
    · obtain ⟨b, _, rfl⟩ := List.mem_map.mp hw
      exact num_free b
  rw [run_two, step3, ew]
  have e1 : rB (sF "begins" :: bs.map num) W.n = .ok bs := by
    unfold rB
    rw [if_pos ⟨rfl, by rw [List.length_cons, List.length_map, h], List.all_eq_true.mpr fun t ht => by
      obtain ⟨b, hb, rfl⟩ := List.mem_map.mp ht
      exact (bit_num (h1 b hb)).1⟩]
    congr 1
    show (bs.map num).map bit = bs
    rw [List.map_map]
    conv => rhs; rw [← List.map_id bs]
    exact List.map_congr_left fun b hb => (bit_num (h1 b hb)).2
  rw [e1]
  rfl
theorem run_head {n m : Nat} {bs : List Nat} {q : Str} {r : List Str} (h1 : 2 ≤ n ∧ n ≤ 40) (h2 : m + 1 ≤ n) (h3 : bs.length = n) (h4 : ∀ b ∈ bs, b = 0 ∨ b = 1) :
    RS.run rs0 1 (headL n m bs ++ (q :: r)) = RS.run ⟨4, ⟨n, m, bs, []⟩⟩ 5 (q :: r) := by
  unfold headL
  show RS.run ⟨0, ⟨0, 0, [], []⟩⟩ 1 (line [sF "falls"] :: line [sF "houses", num n] :: line [sF "most", num m] :: line (sF "begins" :: bs.map num) :: (q :: r)) = _
  rw [run_falls, run_houses (by have := (num_len (k := n) (by omega)).2; omega) h1.1, if_neg (by omega), run_most h2 (by omega), run_begins h3 h4]
/-- a lot in some order -/
theorem lotP_lotT (l : List Nat) (h : ∀ y ∈ l, y < 1000) : lotP (lotT l) = l.map some := by
  unfold lotP
  by_cases e : l = []
  · subst e
    rw [if_pos (by unfold lotT; rw [if_pos rfl])]
    rfl
  · rw [if_neg (fun z => by have := lot_dash e; rw [z] at this; exact absurd this (by decide)), lot_split e, List.map_map]
    exact List.map_congr_left fun y hy => dig_small (h y hy)
theorem somes_map (l : List Nat) : none ∉ l.map some ∧ (l.map some).filterMap id = l := by
  constructor
  · intro h
    obtain ⟨y, _, e⟩ := List.mem_map.mp h
    cases e
  · induction l with
    | nil => rfl
    | cons a r ih => rw [List.map_cons, List.filterMap_cons]; simp [ih]
theorem srt_eq {l l' : List Nat} (hp : l'.Perm l) (hs : l.Pairwise (· < ·)) : srt l' = l := by
  have hnd : l'.Nodup := hp.nodup_iff.mpr (hs.imp fun h => by omega)
  refine List.Perm.eq_of_pairwise (le := (· < ·)) (fun a b _ _ h1 h2 => by omega) (srt_lt hnd) hs ((srt_perm l').trans hp)
theorem lot_free (l : List Nat) : 32 ∉ TL.tl (lotT l) ∧ 10 ∉ TL.tl (lotT l) ∧ PyData.strOk (lotT l) = true := by
  refine ⟨fun h => ?_, fun h => ?_, strOk_of fun c h => ?_⟩
  · have := lot_mem h; omega
  · have := lot_mem h; omega
  · have := lot_mem h; omega
theorem words_fall (h t : Nat) (l : List Nat) : words (line (ftok (h, t, l))) = ftok (h, t, l) := words_line (by unfold ftok; simp) fun w hw => by
  unfold ftok at hw
  simp only [List.mem_cons, List.not_mem_nil, or_false] at hw
  rcases hw with rfl | rfl | rfl | rfl
  · exact sp_free (by decide)
  · exact num_free _
  · exact num_free _
  · exact (lot_free l).1
theorem fall_ndone (x : Nat × Nat × List Nat) : line (ftok x) ≠ sF "done" := fun e => by
  have h := words_fall x.1 x.2.1 x.2.2
  rw [show line (ftok (x.1, x.2.1, x.2.2)) = sF "done" from e] at h
  have h2 : words (sF "done") = [sF "done"] := (word_one (s := "done") (by decide) _).mpr rfl
  rw [h2] at h
  unfold ftok at h
  cases h
theorem rF_fall {W : Wd} {h t : Nat} {l l' : List Nat} (hn : W.n ≤ 40) (ok : ({ W with fs := W.fs ++ [(h, t, l)] } : Wd).Ok) (hp : l'.Perm l) : rF W.n W.most W.fs (ftok (h, t, l')) = .ok (h, t, l) := by
  have hm : (h, t, l) ∈ W.fs ++ [(h, t, l)] := List.mem_append_right _ (List.mem_singleton.mpr rfl)
  have h1 := ok.hn _ hm
  have h2 := ok.t1 _ hm
  have h3 := ok.srt _ hm
  have h4 := ok.ln _ hm
  have h5 := ok.ll _ hm
  have h6 := ok.nd
  have h7 := ok.len
  dsimp only at h1 h2 h3 h4 h5 h6 h7
  rw [List.map_append, List.nodup_append] at h6
  rw [List.length_append] at h7
  have h7' : W.fs.length + 1 ≤ W.most := h7
  have hl' : ∀ y ∈ l', y < W.n ∧ y ≠ h := fun y hy => h4 y (hp.mem_iff.mp hy)
  have hnd : l'.Nodup := hp.nodup_iff.mpr (h3.imp fun h => by omega)
  have eG : rG W.n W.fs h l' = .ok l := by
    unfold rG
    rw [if_neg (fun z => z.elim (by omega) fun ⟨y, hy, z⟩ => by have := (hl' y hy).1; omega), if_neg (fun z => z.elim (fun z => h6.2.2 _ z h (List.mem_singleton.mpr rfl) rfl) fun z => z hnd), if_neg (fun z => z.elim (fun z => (hl' h z).2 rfl) fun z => by rw [hp.length_eq] at z; omega), srt_eq hp h3]
  have e0 : rF0 W.n W.fs (ftok (h, t, l')) = .ok (h, t, l) := by
    show (if sF "fall" = sF "fall" then rF1 W.n W.fs (dig (num h)) (dig (num t)) (lotP (lotT l')) else .error (.w (sF "form"))) = _
    rw [if_pos rfl, dig_small (by omega), dig_small (by omega), lotP_lotT l' fun y hy => by have := (hl' y hy).1; omega]
    obtain ⟨s1, s2⟩ := somes_map l'
    show (if t = 0 ∨ none ∈ l'.map some then .error (.w (sF "form")) else (rG W.n W.fs h ((l'.map some).filterMap id)).map fun l => (h, t, l)) = _
    rw [if_neg (fun z => z.elim (by omega) s1), s2, eG]
    rfl
  unfold rF
  rw [e0]
  dsimp only
  rw [if_neg (by omega), if_neg (by omega)]
/-- a fall's line, its lot in some order -/
def flL (y : (Nat × Nat × List Nat) × List Nat) : Str := line (ftok (y.1.1, y.1.2.1, y.2))
theorem run_falls2 : ∀ (gl : List ((Nat × Nat × List Nat) × List Nat)) (W : Wd) (ln : Nat), W.n ≤ 40 → ({ W with fs := W.fs ++ gl.map (fun y => y.1) } : Wd).Ok → (∀ y ∈ gl, y.2.Perm y.1.2.2) →
    RS.run ⟨4, W⟩ ln (gl.map flL ++ [line [sF "done"], sF ""]) = .ok { W with fs := W.fs ++ gl.map fun y => y.1 }
  | [], W, ln, _, _, _ => by
    have ed : line [sF "done"] = sF "done" := l_done
    show RS.run ⟨4, W⟩ ln (line [sF "done"] :: sF "" :: []) = _
    rw [ed, run_two, step4d]
    dsimp only
    rw [run_one, if_pos rfl, if_pos rfl, List.map_nil, List.append_nil]
  | ⟨⟨h, t, l⟩, l'⟩ :: gl, W, ln, hn, ok, hp => by
    have hok1 : ({ W with fs := W.fs ++ [(h, t, l)] } : Wd).Ok := by
      have e : W.fs ++ ((⟨⟨h, t, l⟩, l'⟩ :: gl : List ((Nat × Nat × List Nat) × List Nat)).map fun y => y.1) = (W.fs ++ [(h, t, l)]) ++ gl.map fun y => y.1 := by simp
      rw [e] at ok
      have hs : ∀ x ∈ W.fs ++ [(h, t, l)], x ∈ (W.fs ++ [(h, t, l)]) ++ gl.map fun y => y.1 := fun x hx => List.mem_append_left _ hx
      refine ⟨ok.n2, ok.n40, ok.ml, ok.bl, ok.b01, ?_, ?_, fun x hx => ok.hn x (hs x hx), fun x hx => ok.t1 x (hs x hx), fun x hx => ok.srt x (hs x hx), fun x hx => ok.ln x (hs x hx), fun x hx => ok.ll x (hs x hx)⟩
      · have := ok.nd
        dsimp only at this
        rw [List.map_append] at this
        exact (List.nodup_append.mp this).1
      · have := ok.len
        dsimp only at this ⊢
        rw [List.length_append] at this
        omega
    have er := rF_fall hn hok1 (hp _ List.mem_cons_self)
    have ih := run_falls2 gl { W with fs := W.fs ++ [(h, t, l)] } (ln + 1) hn (by simpa using ok) fun y hy => hp y (List.mem_cons_of_mem _ hy)
    have e4 : RS.step ⟨4, W⟩ (flL ((h, t, l), l')) = .ok ⟨4, { W with fs := W.fs ++ [(h, t, l)] }⟩ := by
      unfold flL
      rw [step4 (fall_ndone _), words_fall]
      rw [er]
      rfl
    have e5 : ∃ q r, gl.map flL ++ [line [sF "done"], sF ""] = q :: r := by
      cases gl with
      | nil => exact ⟨_, _, rfl⟩
      | cons a b => exact ⟨_, _, rfl⟩
    obtain ⟨q, r, e5⟩ := e5
    rw [List.map_cons, List.cons_append, e5, run_two, e4]
    dsimp only
    rw [← e5, ih]
    simp
/-- the told lines of a world, its falls and lots in some order -/
structure Told (W : Wd) (gl : List ((Nat × Nat × List Nat) × List Nat)) : Prop where
  fs : (gl.map fun y => y.1).Perm W.fs
  lots : ∀ y ∈ gl, y.2.Perm y.1.2.2
def toldL (W : Wd) (gl : List ((Nat × Nat × List Nat) × List Nat)) : List Str := headL W.n W.most W.begins ++ (gl.map flL ++ [line [sF "done"], sF ""])
theorem num_ok {k : Nat} : 10 ∉ TL.tl (num k) ∧ PyData.strOk (num k) = true := by
  refine ⟨by rw [num_tl]; exact TL.numL_free (.inl (by decide)), strOk_of fun c hc => ?_⟩
  rw [num_tl] at hc
  have := TL.numL_digits k c hc
  omega
theorem word_ok {s : String} (h3 : 10 ∉ s.toList.map Char.toNat) (h4 : ∀ c ∈ s.toList.map Char.toNat, c < 1114112) : 10 ∉ TL.tl (sF s) ∧ PyData.strOk (sF s) = true :=
  ⟨by rw [TL.tl_ofString]; exact h3, strOk_of fun c hc => by rw [TL.tl_ofString] at hc; exact h4 c hc⟩
theorem line_ok {B : Nat} {ws : List Str} (h : ∀ w ∈ ws, 10 ∉ TL.tl w ∧ PyData.strOk w = true) (hb : (ws.map (·.length)).sum + ws.length ≤ B) : (line ws).length ≤ B ∧ PyData.strOk (line ws) = true ∧ 10 ∉ TL.tl (line ws) := by
  refine ⟨?_, strOk_join ok_spc fun l hl => (h l hl).2, fun hm => ?_⟩
  · have h1 := join_len spc ws
    have h3 : spc.length = 1 := by rw [TL.len_tl, tl_spc]; rfl
    rw [h3] at h1
    unfold line
    omega
  · unfold line at hm
    rw [tl_join2, tl_spc] at hm
    rcases mem_joinL hm with hm | ⟨p, h1, h2⟩
    · cases List.mem_singleton.mp hm
    · obtain ⟨w, hw, rfl⟩ := List.mem_map.mp h1
      exact (h w hw).1 h2
theorem wl (s : String) : (sF s).length = s.toList.length := by rw [TL.len_tl, TL.tl_ofString, List.length_map]
theorem Lns.cons {B : Nat} {l : Str} {ls : List Str} (h1 : l.length ≤ B ∧ PyData.strOk l = true ∧ 10 ∉ TL.tl l) (h : Lns B ls) : Lns B (l :: ls) := fun x hx => by
  rcases List.mem_cons.mp hx with rfl | hx
  · exact h1
  · exact h x hx
theorem Lns.nil {B : Nat} : Lns B [] := fun x hx => by cases hx
theorem lns_head {n m : Nat} {bs : List Nat} (hn : (num n).length ≤ 9) (hm : m < 1000) (hb : bs.length ≤ 40) (h01 : ∀ b ∈ bs, b = 0 ∨ b = 1) : Lns 300 (headL n m bs) := by
  have w2 : ∀ {s : String} {k : Nat}, (10 ∉ s.toList.map Char.toNat ∧ ∀ c ∈ s.toList.map Char.toNat, c < 1114112) → ∀ w ∈ [sF s, num k], 10 ∉ TL.tl w ∧ PyData.strOk w = true := fun {s k} h w hw => by
    simp only [List.mem_cons, List.not_mem_nil, or_false] at hw
    rcases hw with rfl | rfl
    · exact word_ok h.1 h.2
    · exact num_ok
  have nm := (num_len hm).2
  unfold headL
  refine .cons (line_ok (fun w hw => ?_) ?_) (.cons (line_ok (w2 (by decide)) ?_) (.cons (line_ok (w2 (by decide)) ?_) (.cons (line_ok (fun w hw => ?_) ?_) .nil)))
  · rw [List.mem_singleton.mp hw]; exact word_ok (by decide) (by decide)
  · show (sF "falls").length + 0 + 1 ≤ 300
    rw [wl]; decide
  · show (sF "houses").length + ((num n).length + 0) + 2 ≤ 300
    rw [wl]
    show 6 + _ + 2 ≤ _
    omega
  · show (sF "most").length + ((num m).length + 0) + 2 ≤ 300
    rw [wl]
    show 4 + _ + 2 ≤ _
    omega
  · rcases List.mem_cons.mp hw with rfl | hw
    · exact word_ok (by decide) (by decide)
    · obtain ⟨b, _, rfl⟩ := List.mem_map.mp hw
      exact num_ok
  · rw [List.map_cons, List.sum_cons, List.length_cons, List.map_map, List.length_map, wl]
    have h1 := sum_le (fun x => (num x).length) 3 bs fun x hx => (num_len (by rcases h01 x hx with rfl | rfl <;> decide)).2
    have h3 : (bs.map ((fun x => x.length) ∘ num)).sum ≤ bs.length * 3 := h1
    show 6 + _ + (bs.length + 1) ≤ 300
    omega
theorem lns_fall {h t : Nat} {l : List Nat} (h1 : h < 1000) (h2 : t < 1000000000) (hl : l.length ≤ 40) (h3 : ∀ y ∈ l, y < 1000) : (line (ftok (h, t, l))).length ≤ 300 ∧ PyData.strOk (line (ftok (h, t, l))) = true ∧ 10 ∉ TL.tl (line (ftok (h, t, l))) := by
  have n1 := (num_len h1).2
  have n2 : (num t).length ≤ 9 := by rw [TL.len_tl, num_tl]; exact TL.numL_len (by decide) h2
  have n3 := lot_len hl h3
  refine line_ok (fun w hw => ?_) ?_
  · unfold ftok at hw
    simp only [List.mem_cons, List.not_mem_nil, or_false] at hw
    rcases hw with rfl | rfl | rfl | rfl
    · exact word_ok (by decide) (by decide)
    · exact num_ok
    · exact num_ok
    · exact (lot_free l).2
  · show (sF "fall").length + ((num h).length + ((num t).length + ((lotT l).length + 0))) + 4 ≤ 300
    rw [wl]
    show 4 + _ + 4 ≤ _
    omega
theorem lns_done : Lns 300 [line [sF "done"], sF ""] := by
  refine .cons (line_ok (fun w hw => ?_) ?_) Lns.empty
  · rw [List.mem_singleton.mp hw]; exact word_ok (by decide) (by decide)
  · show (sF "done").length + 0 + 1 ≤ 300
    rw [wl]; decide
theorem told_lns {W : Wd} (ok : W.Ok) {gl : List ((Nat × Nat × List Nat) × List Nat)} (h : Told W gl) : Lns 300 (toldL W gl) := by
  have n40 := ok.n40
  have ml := ok.ml
  unfold toldL
  refine (lns_head (by have := (num_len (k := W.n) (by omega)).2; omega) (by omega) (by rw [ok.bl]; exact n40) ok.b01).app (Lns.app (fun l hl => ?_) lns_done)
  obtain ⟨y, hy, rfl⟩ := List.mem_map.mp hl
  have hm : y.1 ∈ W.fs := h.fs.mem_iff.mp (List.mem_map.mpr ⟨y, hy, rfl⟩)
  have hp := h.lots y hy
  refine lns_fall (by have := ok.hn _ hm; omega) (by have := (ok.t1 _ hm).2; omega) (by rw [hp.length_eq]; have := ok.ll _ hm; omega) fun z hz => by have := (ok.ln _ hm z (hp.mem_iff.mp hz)).1; omega
theorem told_len {W : Wd} (ok : W.Ok) {gl : List ((Nat × Nat × List Nat) × List Nat)} (h : Told W gl) : (toldL W gl).length ≤ 45 := by
  have n40 := ok.n40
  have ml := ok.ml
  have len := ok.len
  have := h.fs.length_eq
  unfold toldL headL
  rw [List.length_append, List.length_append, List.length_map]
  rw [List.length_map] at this
  show 4 + (gl.length + 2) ≤ 45
  omega
theorem told_ne {W : Wd} {gl : List ((Nat × Nat × List Nat) × List Nat)} : toldL W gl ≠ [] := by
  unfold toldL headL
  simp
theorem told_rd {W : Wd} (ok : W.Ok) {gl : List ((Nat × Nat × List Nat) × List Nat)} (h : Told W gl) : rdT (Txt.join nl (toldL W gl)) = .ok (W.re (gl.map fun y => y.1)) := by
  rw [rdT_lines (told_lns ok h) told_ne]
  unfold toldL
  have e5 : ∃ q r, gl.map flL ++ [line [sF "done"], sF ""] = q :: r := by
    cases gl with
    | nil => exact ⟨_, _, rfl⟩
    | cons a b => exact ⟨_, _, rfl⟩
  obtain ⟨q, r, e5⟩ := e5
  rw [e5, run_head ⟨ok.n2, ok.n40⟩ ok.ml ok.bl ok.b01, ← e5]
  have okr := ok.re h.fs
  have := run_falls2 gl ⟨W.n, W.most, W.begins, []⟩ 5 ok.n40 (by rw [List.nil_append]; exact okr) h.lots
  rw [this, List.nil_append]
  rfl
theorem told_tx {W : Wd} (ok : W.Ok) {gl : List ((Nat × Nat × List Nat) × List Nat)} (h : Told W gl) : TxOk (Txt.join nl (toldL W gl)) :=
  txOk ((told_lns ok h).mono (by decide)) told_ne (by have := told_len ok h; omega)
/-- its own text -/
def ownG (sf : List (Nat × Nat × List Nat)) : List ((Nat × Nat × List Nat) × List Nat) := sf.map fun x => (x, x.2.2)
theorem own_told {W : Wd} {sf : List (Nat × Nat × List Nat)} (hp : sf.Perm W.fs) : Told W (ownG sf) := by
  refine ⟨?_, fun y hy => ?_⟩
  · unfold ownG
    rw [List.map_map]
    show (sf.map id).Perm _
    rw [List.map_id]
    exact hp
  · obtain ⟨x, _, rfl⟩ := List.mem_map.mp hy
    exact List.Perm.refl _
theorem own_lines (W : Wd) (sf : List (Nat × Nat × List Nat)) : (toks (W.re sf)).map line ++ [Str.ofString ""] = toldL W (ownG sf) := by
  unfold toks toks0 toldL headL ownG
  simp only [List.map_append, List.map_cons, List.map_nil, List.map_map]
  simp only [List.append_assoc]
  rfl
theorem wtext_told (W : Wd) (sf : List (Nat × Nat × List Nat)) : wtext (W.re sf) = Txt.join nl (toldL W (ownG sf)) := by
  rw [wtext_join, own_lines]
theorem own_rd {W : Wd} (ok : W.Ok) {sf : List (Nat × Nat × List Nat)} (hp : sf.Perm W.fs) : rdT (wtext (W.re sf)) = .ok (W.re sf) := by
  rw [wtext_told, told_rd ok (own_told hp)]
  congr 2
  unfold ownG
  rw [List.map_map]
  exact List.map_id _
theorem own_tx {W : Wd} (ok : W.Ok) {sf : List (Nat × Nat × List Nat)} (hp : sf.Perm W.fs) : TxOk (wtext (W.re sf)) := by
  rw [wtext_told]
  exact told_tx ok (own_told hp)
end
end K85

/-! part G22 -/
set_option maxHeartbeats 0
namespace K85
open PySem PySem.Spec PyProof.Rows L2 DL
section
variable {P : Program} {w : World} {K : PySem.W.Frag} {mg : Str → Option Value} {base : Heap}
theorem srt_key : ∀ {l l' : List (Nat × Nat × List Nat)}, (l.map fun x => x.1).Pairwise (· < ·) → (l'.map fun x => x.1).Pairwise (· < ·) → (∀ x, x ∈ l ↔ x ∈ l') → l = l'
  | [], [], _, _, _ => rfl
  | [], b :: _, _, _, h => by have := (h b).mpr List.mem_cons_self; cases this
  | a :: _, [], _, _, h => by have := (h a).mp List.mem_cons_self; cases this
  | a :: l, b :: l', h1, h2, h => by
    rw [List.map_cons, List.pairwise_cons] at h1 h2
    have g1 : ∀ x ∈ l, a.1 < x.1 := fun x hx => h1.1 _ (List.mem_map.mpr ⟨x, hx, rfl⟩)
    have g2 : ∀ x ∈ l', b.1 < x.1 := fun x hx => h2.1 _ (List.mem_map.mpr ⟨x, hx, rfl⟩)
    have hab : a = b := by
      rcases List.mem_cons.mp ((h a).mp List.mem_cons_self) with e | e
      · exact e
      · rcases List.mem_cons.mp ((h b).mpr List.mem_cons_self) with e' | e'
        · exact e'.symm
        · have := g1 b e'
          have := g2 a e
          omega
    subst hab
    congr 1
    refine srt_key h1.2 h2.2 fun x => ?_
    constructor
    · intro hx
      rcases List.mem_cons.mp ((h x).mp (List.mem_cons_of_mem _ hx)) with e | e
      · have := g1 x hx; rw [e] at this; omega
      · exact e
    · intro hx
      rcases List.mem_cons.mp ((h x).mpr (List.mem_cons_of_mem _ hx)) with e | e
      · have := g2 x hx; rw [e] at this; omega
      · exact e
theorem updM_comm2 {M : Mp} {p q : Addr} {a b c : D} (h : q ≠ p) : updM (updM (updM M p a) q b) p c = updM (updM M p c) q b := by
  rw [updM_comm h, updM_updM]
theorem fT_ok (x : Nat × Nat × List Nat) (h : x.2.2.length ≤ 1000) (d : Nat) : okSame (d + 3) (fT x) := by
  refine ⟨by show 2 ≤ 1000; decide, fun y hy => ?_⟩
  rcases List.mem_cons.mp hy with rfl | hy
  · trivial
  rcases List.mem_cons.mp hy with rfl | hy
  · refine ⟨by rw [List.length_map]; exact h, fun z hz => ?_⟩
    obtain ⟨k, _, rfl⟩ := List.mem_map.mp hz
    trivial
  cases hy
def sfD (sf : List (Nat × Nat × List Nat)) : D := .dic (sf.map fun x => kN x.1) (sf.map fT)
theorem sfD_ok {sf : List (Nat × Nat × List Nat)} (hl : sf.length ≤ 1000) (hn : (sf.map fun x => x.1).Nodup) (h : ∀ x ∈ sf, x.2.2.length ≤ 1000) (d : Nat) : okSame (d + 4) (sfD sf) := by
  refine ⟨by rw [List.length_map]; exact hl, by rw [List.length_map, List.length_map], nodup_kN (k := fun x : Nat × Nat × List Nat => x.1) hn, .inl (by omega), fun y hy => ?_⟩
  obtain ⟨x, hx, rfl⟩ := List.mem_map.mp hy
  exact fT_ok x (h x hx) d
theorem tuple_of {α : Type} (l : List α) (f : α → D) : (l.map f).length = l.length := List.length_map ..
def sp_law_shown (T : Txt K mg) : SpD := fun ds M Q => ∃ (W : Wd) (sf : List (Nat × Nat × List Nat)) (R : Run (W.re sf)) (ks : List Key) (es : List D), ds = [R.d T.FallRun.C, .dic ks es] ∧ WDic ks es W ∧ W.Ok ∧ sf.Perm W.fs ∧ (sf.map fun x => x.1).Pairwise (· < ·) ∧ R.tx = wtext (W.re sf) ∧ Q (.bl true) M
theorem len_law_shown (T : Txt K mg) : ∀ ds M Q, sp_law_shown T ds M Q → ds.length = 2 := by
  rintro _ _ _ ⟨_, _, _, _, _, rfl, _⟩; rfl
theorem ok_law_shown (T : Txt K mg) : FnD P w K mg base 6 T.law_shown.f T.law_shown.fd ["run", "world"] (sp_law_shown T) := okDk T.law_shown.F sc_law_shown (len_law_shown T) (fun cdv A outer s H E hr =>
        (dss_cons (ds_for PassesOwn.never rfl (di_rng1 (by rfl) T.b_range de_int) (dg_name (i := 2) sc_law_shown.nd) (dss_cons (ds_set (i := 3) sc_law_shown.nd (de_meth0 (dv 0) T.FallRun.cl T.FallRun.fallen.me (ok_FallRun_fallen T) (hr.mono (by decide)) T.FallRun.fallen.b))
      (dss_cons (ds_set (i := 4) sc_law_shown.nd de_dnewC)
      (dss_cons (ds_for PassesOwn.never rfl (di_list (de_callB (c_sortedD rfl) (by rfl) T.b_sorted boot_sorted (da_cons (de_get (hu_of (k := 0) (hr.mono (by decide))) (dv 1) de_str) da_nil))) (dg_name (i := 5) sc_law_shown.nd) (dss_one (ds_dput (hu_of (k := 0) (hr.mono (by decide))) (dv 4) (dv 5) (de_tup (da_cons (de_ix (de_get (hu_of (k := 0) (hr.mono (by decide))) (de_get (hu_of (k := 0) (hr.mono (by decide))) (dv 1) de_str) (dv 5)) de_int) (da_cons (de_callTy c_tuple (by rfl) T.b_tuple boot_tuple (da_cons (de_ix (de_get (hu_of (k := 0) (hr.mono (by decide))) (de_get (hu_of (k := 0) (hr.mono (by decide))) (dv 1) de_str) (dv 5)) de_int) da_nil)) da_nil))))))
      (dss_cons (ds_if (dt_not (dt_peek (dt_val (de_call (ok_law_same T) (hr.mono (by decide)) (by rfl) T.law_same.g T.law_same.F.kp T.law_same.b (da_cons (dv 3) (da_cons (dv 4) da_nil)))))) (dss_one (ds_ret de_bl)) dss_nil)
      (dss_cons (ds_dput (hu_of (k := 0) (hr.mono (by decide))) (dv 3) de_int (de_tup (da_cons de_int (da_cons (de_tup da_nil) da_nil))))
      (dss_one (ds_dput (hu_of (k := 0) (hr.mono (by decide))) (dv 3) de_int (de_tup (da_cons de_int (da_cons (de_tup (da_cons de_int da_nil)) da_nil)))))))))))
      (dss_cons (ds_set (i := 6) sc_law_shown.nd (de_tup (da_cons (de_fld T.FallRun.cl T.FallRun.n_text (dv 0)) (da_cons (de_fld T.FallRun.cl T.FallRun.n_houses (dv 0)) (da_cons (de_fld T.FallRun.cl T.FallRun.n_most (dv 0)) (da_cons (de_fld T.FallRun.cl T.FallRun.n_begins (dv 0)) da_nil))))))
      (dss_one (ds_ret (de_call (ok_law_same T) (hr.mono (by decide)) (by rfl) T.law_same.g T.law_same.F.kp T.law_same.b (da_cons (dv 6) (da_cons (de_tup (da_cons (de_call (ok_law_fall_text T) (hr.mono (by decide)) (by rfl) T.law_fall_text.g T.law_fall_text.F.kp T.law_fall_text.b (da_cons (dv 1) da_nil)) (da_cons (de_get (hu_of (k := 0) (hr.mono (by decide))) (dv 1) de_str) (da_cons (de_get (hu_of (k := 0) (hr.mono (by decide))) (dv 1) de_str) (da_cons (de_callTy c_tuple (by rfl) T.b_tuple boot_tuple (da_cons (de_get (hu_of (k := 0) (hr.mono (by decide))) (dv 1) de_str) da_nil)) da_nil))))) da_nil))))))))
      (by
    rintro _ M Q ⟨W, sf, R, ks, es, rfl, wd, ok, hsf, hso, hR, q⟩
    have hb := big
    have n40 := ok.n40
    have hfl : W.fs.length ≤ 39 := by have := ok.len; have := ok.ml; omega
    have hsl : sf.length ≤ 39 := by rw [hsf.length_eq]; exact hfl
    have hRf : R.fs = sf := srt_key R.srt hso fun x => R.mem x
    have hsn : (sf.map fun x => x.1).Nodup := (hsf.map _).nodup_iff.mpr ok.nd
    have hll : ∀ x ∈ sf, x.2.2.length ≤ 40 := fun x hx => by have := ok.ll x (hsf.mem_iff.mp hx); omega
    refine seq_cut (fun ρ' M' => SubM M M' ∧ ∃ z1 z2 z3 z4 z5, ρ' = [some (R.d T.FallRun.C), some (.dic ks es), z1, z2, z3, z4, z5]) (fun N hN => ?_) ?_
    · refine ⟨⟨by decide, by decide⟩, ?_⟩
      refine loop_l (List.range 2) dN rfl (fun t ρ' M' => SubM M M' ∧ ∃ z1 z2 z3 z4 z5, ρ' = [some (R.d T.FallRun.C), some (.dic ks es), z1, z2, z3, z4, z5]) ⟨SubM.refl _, _, _, _, _, _, rfl⟩ ?_ ?_
      · rintro t x _ M1 ex hx ⟨hM1, z1, z2, z3, z4, z5, rfl⟩
        dsimp only [dName, List.set]
        refine seq_cut (fun ρ' M' => ∃ tp, M1 tp = none ∧ M' = updM M1 tp (sfD sf) ∧ ρ' = [some (R.d T.FallRun.C), some (.dic ks es), some (dN x), some (.cell tp), z3, z4, z5]) (fun N2 hN2 => ?_) ?_
        · conv => whnf
          refine ⟨rfl, by decide, ?_⟩
          refine ⟨W.re sf, R, rfl, by rw [hRf]; omega, .inl fun tp htp => ?_⟩
          rw [hRf]
          exact hN2 _ _ ⟨tp, htp, rfl, rfl⟩
        rintro _ _ ⟨tp, htp, rfl, rfl⟩
        refine seq_cut (fun ρ' M' => ∃ dp, updM M1 tp (sfD sf) dp = none ∧ M' = updM (updM M1 tp (sfD sf)) dp (sfD []) ∧ ρ' = [some (R.d T.FallRun.C), some (.dic ks es), some (dN x), some (.cell tp), some (.cell dp), z4, z5]) (fun N2 hN2 => ?_) ?_
        · intro dp hdp
          exact hN2 _ _ ⟨dp, hdp, rfl, rfl⟩
        rintro _ _ ⟨dp, hdp, rfl, rfl⟩
        have hdt : dp ≠ tp := fun e => by rw [e, updM_same] at hdp; cases hdp
        have hdM : M1 dp = none := by rw [updM_ne hdt] at hdp; exact hdp
        refine seq_cut (fun ρ' M' => M' = updM (updM M1 tp (sfD sf)) dp (sfD sf) ∧ ∃ z4, ρ' = [some (R.d T.FallRun.C), some (.dic ks es), some (dN x), some (.cell tp), some (.cell dp), z4, z5]) (fun N2 hN2 => ?_) ?_
        · conv => whnf
          refine ⟨fsD W.fs, wd.fl, ?_⟩
          conv => whnf
          refine ⟨(W.fs.map fun x => x.1).map fun (k : Nat) => (k : Int), W.fs.map fD, by rw [show ((W.fs.map fun x => x.1).map fun (k : Nat) => (k : Int)).map Sum.inl = W.fs.map fun x => kN x.1 from by rw [List.map_map, List.map_map]; rfl]; rfl, by rw [List.length_map, List.length_map]; omega, fun ns' hp' hs' => ?_⟩
          obtain ⟨sf2, s1, s2, rfl⟩ := sort_falls2 ok hp' hs'
          have es2 : sf2 = sf := srt_key s2 hso fun x => (s1.mem_iff).trans hsf.mem_iff.symm
          subst es2
          rw [← dN_ints]
          refine loop_l sf2 (fun x => dN x.1) (by rw [List.map_map]; rfl) (fun k ρ' M' => M' = updM (updM M1 tp (sfD sf2)) dp (sfD (sf2.take k)) ∧ ∃ z4, ρ' = [some (R.d T.FallRun.C), some (.dic ks es), some (dN x), some (.cell tp), some (.cell dp), z4, z5]) ⟨by rw [List.take_zero], _, rfl⟩ ?_ ?_
          · rintro k y _ _ ey hy ⟨rfl, z4, rfl⟩
            have hy' := s1.mem_iff.mp hy
            have hk : k < sf2.length := (List.getElem?_eq_some_iff.mp ey).1
            have gk : getK (W.fs.map fun x => kN x.1) (W.fs.map fD) (kN y.1) = some (fD y) := by rw [getK_fs, Wd.fall_of ok.nd hy']; rfl
            have htake : sf2.take (k + 1) = sf2.take k ++ [y] := by rw [List.take_succ, ey]; rfl
            have hnot : kN y.1 ∉ (sf2.take k).map fun x => kN x.1 := by
              intro hm
              obtain ⟨z, hz, e⟩ := List.mem_map.mp hm
              have hl2 : sf2 = sf2.take k ++ (y :: sf2.drop (k + 1)) := by
                obtain ⟨hi2, e4⟩ := List.getElem?_eq_some_iff.mp ey
                rw [← e4, List.getElem_cons_drop, List.take_append_drop]
              have := hsn
              rw [hl2, List.map_append, List.map_cons] at this
              exact (List.nodup_append.mp this).2.2 _ (List.mem_map.mpr ⟨z, hz, kN_inj.mp e⟩) _ List.mem_cons_self rfl
            conv => whnf
            refine ⟨fsD W.fs, wd.fl, ?_⟩
            conv => whnf
            refine ⟨fD y, gk, ?_⟩
            conv => whnf
            refine ⟨dN y.2.1, rfl, ?_⟩
            conv => whnf
            refine ⟨fsD W.fs, wd.fl, ?_⟩
            conv => whnf
            refine ⟨fD y, gk, ?_⟩
            conv => whnf
            refine ⟨nsD y.2.2, rfl, ?_⟩
            conv => whnf
            refine ⟨lines _ (by show 2 ≤ _; omega), ?_⟩
            conv => whnf
            refine ⟨_, _, updM_same, ?_, by rw [List.length_map, List.length_take]; omega, ?_⟩
            · refine nodup_kN (k := fun x : Nat × Nat × List Nat => x.1) ?_
              have := hsn
              rw [← List.take_append_drop k sf2, List.map_append] at this
              exact (List.nodup_append.mp this).1
            refine ⟨?_, _, rfl⟩
            rw [updM_updM]
            congr 1
            show D.dic (putKD (kN y.1) (fT y) _ _).1 (putKD (kN y.1) (fT y) _ _).2 = _
            rw [putKD_new hnot (by rw [List.length_map, List.length_map]), htake]
            unfold sfD
            rw [List.map_append, List.map_append]
            rfl
          · rintro _ _ ⟨rfl, z4, rfl⟩
            rw [List.take_length]
            exact hN2 _ _ ⟨rfl, _, rfl⟩
        rintro _ _ ⟨rfl, z4, rfl⟩
        have g1 : updM (updM M1 tp (sfD sf)) dp (sfD sf) tp = some (sfD sf) := by rw [updM_ne hdt.symm, updM_same]
        have g2 : updM (updM M1 tp (sfD sf)) dp (sfD sf) dp = some (sfD sf) := updM_same
        refine seq_cut (fun ρ' M' => M' = updM (updM M1 tp (sfD sf)) dp (sfD sf) ∧ ρ' = [some (R.d T.FallRun.C), some (.dic ks es), some (dN x), some (.cell tp), some (.cell dp), z4, z5]) (fun N2 hN2 => ?_) ?_
        · conv => whnf
          refine ⟨[none, none, none, some (sfD sf), some (sfD sf), none, none], .no (.no (.no (.one (.cellD g1 (DeepL.refl _ _)) (.one (.cellD g2 (DeepL.refl _ _)) (.no (.no .nil)))))), ?_⟩
          conv => whnf
          refine ⟨sfD sf, rfl, sfD_ok (by omega) hsn (fun x hx => by have := hll x hx; omega) 1, ?_⟩
          refine dF rfl ?_
          exact hN2 _ _ ⟨rfl, rfl⟩
        rintro _ _ ⟨rfl, rfl⟩
        have hsubM : ∀ d1 d2, SubM M (updM (updM M1 tp d1) dp d2) := fun d1 d2 y d e => by
          have e1 := hM1 y d e
          rw [updM_ne (ne_cell e1 hdM), updM_ne (ne_cell e1 htp)]
          exact e1
        have h99 : kN 99 ∉ sf.map fun x => kN x.1 := fun hm => by
          obtain ⟨z, hz, e⟩ := List.mem_map.mp hm
          have e2 := kN_inj.mp e
          have := ok.hn z (hsf.mem_iff.mp hz)
          omega
        refine seq_cut (fun ρ' M' => ∃ d1, M' = updM (updM M1 tp d1) dp (sfD sf) ∧ (∃ ks1 ds1, d1 = .dic ks1 ds1 ∧ ks1.Nodup ∧ ks1.length ≤ 40) ∧ ρ' = [some (R.d T.FallRun.C), some (.dic ks es), some (dN x), some (.cell tp), some (.cell dp), z4, z5]) (fun N2 hN2 => ?_) ?_
        · conv => whnf
          refine ⟨lines _ (by show 0 ≤ _; omega), ?_⟩
          conv => whnf
          refine ⟨lines _ (by show 2 ≤ _; omega), ?_⟩
          conv => whnf
          refine ⟨_, _, g1, nodup_kN (k := fun x : Nat × Nat × List Nat => x.1) hsn, by rw [List.length_map]; omega, ?_⟩
          refine hN2 _ _ ⟨.dic (putKD (kN 99) (.tup [.int 1, .tup []]) (sf.map fun x => kN x.1) (sf.map fT)).1 (putKD (kN 99) (.tup [.int 1, .tup []]) (sf.map fun x => kN x.1) (sf.map fT)).2, ?_, ⟨_, _, rfl, ?_, ?_⟩, rfl⟩
          · exact updM_comm2 hdt
          · show (putKD (kN 99) _ _ _).1.Nodup
            rw [putKD_new h99 (by rw [List.length_map, List.length_map]), List.nodup_append]
            refine ⟨nodup_kN (k := fun x : Nat × Nat × List Nat => x.1) hsn, List.nodup_cons.mpr ⟨List.not_mem_nil, List.nodup_nil⟩, fun a ha b hb2 e => ?_⟩
            rw [e, List.mem_singleton.mp hb2] at ha
            exact h99 ha
          · show (putKD (kN 99) _ _ _).1.length ≤ 40
            rw [putKD_new h99 (by rw [List.length_map, List.length_map]), List.length_append, List.length_map]
            show sf.length + 1 ≤ 40
            omega
        rintro _ _ ⟨_, rfl, ⟨ks1, ds1, rfl, hk1, hk2⟩, rfl⟩
        conv => whnf
        refine ⟨lines _ (by show 1 ≤ _; omega), ?_⟩
        conv => whnf
        refine ⟨lines _ (by show 2 ≤ _; omega), ?_⟩
        conv => whnf
        refine ⟨_, _, by rw [updM_ne hdt.symm, updM_same], hk1, by omega, ?_⟩
        refine ⟨?_, _, _, _, _, _, rfl⟩
        rw [updM_comm2 hdt]
        exact hsubM _ _
      · rintro _ M1 ⟨hM1, z1, z2, z3, z4, z5, rfl⟩
        exact hN _ _ ⟨hM1, _, _, _, _, _, rfl⟩
    rintro _ M1 ⟨hM1, z1, z2, z3, z4, z5, rfl⟩
    refine seq_cut (fun ρ' M' => M1 = M' ∧ ρ' = [some (R.d T.FallRun.C), some (.dic ks es), z1, z2, z3, z4, some (.tup [.str (wtext (W.re sf)), dN W.n, dN W.most, .tup (W.begins.map dN)])]) (fun N hN => ?_) ?_
    · conv => whnf
      refine ⟨rfl, _, f_text, ?_⟩
      conv => whnf
      refine ⟨rfl, _, f_houses, ?_⟩
      conv => whnf
      refine ⟨rfl, _, by rfl, ?_⟩
      conv => whnf
      refine ⟨rfl, _, by rfl, ?_⟩
      conv => whnf
      refine ⟨lines _ (by show 4 ≤ _; omega), ?_⟩
      refine hN _ _ ⟨rfl, ?_⟩
      rw [hR]
      rfl
    rintro _ _ ⟨rfl, rfl⟩
    conv => whnf
    refine ⟨W, ks, es, rfl, wd, ok, fun sf2 s1 s2 => ?_⟩
    have es2 : sf2 = sf := srt_key s2 hso fun x => (s1.mem_iff).trans hsf.mem_iff.symm
    subst es2
    conv => whnf
    refine ⟨_, wd.n, ?_⟩
    conv => whnf
    refine ⟨_, wd.most, ?_⟩
    conv => whnf
    refine ⟨_, wd.beg, ?_⟩
    conv => whnf
    refine ⟨lines _ (by show 4 ≤ _; omega), ?_⟩
    conv => whnf
    refine ⟨.tup [.str (wtext (W.re sf2)), dN W.n, dN W.most, .tup (W.begins.map dN)], rfl, ?_, M, hM1, q⟩
    · refine ⟨by show 4 ≤ 1000; decide, fun y hy => ?_⟩
      simp only [List.mem_cons, List.not_mem_nil, or_false] at hy
      rcases hy with rfl | rfl | rfl | rfl
      · trivial
      · trivial
      · trivial
      · refine ⟨by rw [List.length_map, ok.bl]; omega, fun z hz => ?_⟩
        obtain ⟨k, _, rfl⟩ := List.mem_map.mp hz
        trivial
)
end
end K85

/-! part G23 -/
set_option maxHeartbeats 0
namespace K85
open PySem PySem.Spec PyProof.Rows L2 DL
section
variable {P : Program} {w : World} {K : PySem.W.Frag} {mg : Str → Option Value} {base : Heap}
theorem perm_map_inv {α β : Type} {f : α → β} {xs ys : List β} (h : xs.Perm ys) : ∀ {l : List α}, xs = l.map f → ∃ l' : List α, ys = l'.map f ∧ l'.Perm l := by
  induction h with
  | nil =>
    intro l e
    cases l with
    | nil => exact ⟨[], rfl, .refl _⟩
    | cons a r => cases e
  | cons x _ ih =>
    intro l e
    cases l with
    | nil => cases e
    | cons a r =>
      rw [List.map_cons] at e
      obtain ⟨e1, e2⟩ := List.cons.inj e
      obtain ⟨l', h1, h2⟩ := ih e2
      exact ⟨a :: l', by rw [List.map_cons, ← e1, h1], h2.cons a⟩
  | swap x y r0 =>
    intro l e
    match l, e with
    | a :: b :: r, e =>
      rw [List.map_cons, List.map_cons] at e
      obtain ⟨e1, e2⟩ := List.cons.inj e
      obtain ⟨e3, e4⟩ := List.cons.inj e2
      exact ⟨b :: a :: r, by rw [List.map_cons, List.map_cons, ← e1, ← e3, e4], .swap ..⟩
    | [_], e => cases e
    | [], e => cases e
  | trans _ _ ih1 ih2 =>
    intro l e
    obtain ⟨l1, h1, p1⟩ := ih1 e
    obtain ⟨l2, h2, p2⟩ := ih2 h1
    exact ⟨l2, h2, p2.trans p1⟩
theorem cut_last2 {ds : List D} {a b : D} : DL.cutD (ds ++ [a, b]) (some (-2)) none = [a, b] := by
  unfold DL.cutD
  have h1 : HT.sIx (ds ++ [a, b]).length 0 (some (-2)) = ds.length := by
    unfold HT.sIx
    dsimp only
    rw [if_pos (by decide), List.length_append]
    show ((-2 : Int) + ((ds.length + 2 : Nat) : Int)).toNat = _
    omega
  rw [h1, HT.sIx_none, List.drop_left]
  refine List.take_of_length_le ?_
  rw [List.length_append]
  show 2 ≤ ds.length + 2 - ds.length
  omega
theorem join_cond {B : Nat} {ls : List Str} (h : Lns B ls) (hl : ls.length * (B + 1) ≤ 16000000) : (ls.map (·.length)).sum + ls.length * nl.length ≤ 16000000 := by
  have h2 := sum_le (fun x : Str => x.length) B ls fun x hx => (h x hx).1
  rw [nl_len]
  rw [Nat.mul_succ] at hl
  omega
theorem box_back {b c p : Addr} {M M' : Mp} (hb : BoxAt M' b c) (h1 : p ≠ b) (h2 : p ≠ c) (hp : M p = none) (hf : ∀ q, q ≠ b → q ≠ c → q ≠ p → M' q = M q) : BxR b c M (delM M' p) ∧ SubM (delM M' p) M' := by
  obtain ⟨xs, h, m, t, k1, k2, k3⟩ := hb
  refine ⟨⟨⟨xs, h, m, t, by rw [delM_ne h1.symm]; exact k1, by rw [delM_ne h2.symm]; exact k2, k3⟩, fun q a1 a2 => ?_⟩, fun y d e => ?_⟩
  · by_cases e : q = p
    · rw [e, delM_same, hp]
    · rw [delM_ne e]; exact hf q a1 a2 e
  · by_cases e2 : y = p
    · rw [e2, delM_same] at e; cases e
    · rw [delM_ne e2] at e; exact e
def sp_law_turned : SpD := fun ds M Q => ∃ b c W, ds = [.cell b, wD W] ∧ BoxAt M b c ∧ W.Ok ∧ ∀ gl M', Told W gl → BxR b c M M' → Q (.str (Txt.join nl (toldL W gl))) M'
theorem len_law_turned : ∀ ds M Q, sp_law_turned ds M Q → ds.length = 2 := by
  rintro _ _ _ ⟨_, _, _, rfl, _⟩; rfl
theorem ok_law_turned (T : Txt K mg) : FnD P w K mg base 3 T.law_turned.f T.law_turned.fd ["box", "world"] sp_law_turned := okDk T.law_turned.F sc_law_turned len_law_turned (fun cdv A outer s H E hr =>
        (dss_cons (ds_set (i := 2) sc_law_turned.nd (de_split (de_call (ok_law_fall_text T) (hr.mono (by decide)) (by rfl) T.law_fall_text.g T.law_fall_text.F.kp T.law_fall_text.b (da_cons (dv 1) da_nil)) de_str))
      (dss_cons (ds_set (i := 3) sc_law_turned.nd (de_lstC da_nil))
      (dss_cons (ds_for PassesOwn.never rfl (di_list (de_call (ok_law_mixed T) (hr.mono (by decide)) (by rfl) T.law_mixed.g T.law_mixed.F.kp T.law_mixed.b (da_cons (dv 0) (da_cons (de_callB (c_sortedD rfl) (by rfl) T.b_sorted boot_sorted (da_cons (de_get (hu_of (k := 0) (hr.mono (by decide))) (dv 1) de_str) da_nil)) da_nil)))) (dg_name (i := 4) sc_law_turned.nd) (dss_one (ds_expr (de_app (dv 3) (de_op o_cats (de_op o_cats (de_op o_cats (de_op o_cats (de_op o_cats de_str (de_callTy c_str (by rfl) T.b_str boot_str (da_cons (dv 4) da_nil))) de_str) (de_callTy c_str (by rfl) T.b_str boot_str (da_cons (de_ix (de_get (hu_of (k := 0) (hr.mono (by decide))) (de_get (hu_of (k := 0) (hr.mono (by decide))) (dv 1) de_str) (dv 4)) de_int) da_nil))) de_str) (de_call (ok_law_lot_text T) (hr.mono (by decide)) (by rfl) T.law_lot_text.g T.law_lot_text.F.kp T.law_lot_text.b (da_cons (de_call (ok_law_mixed T) (hr.mono (by decide)) (by rfl) T.law_mixed.g T.law_mixed.F.kp T.law_mixed.b (da_cons (dv 0) (da_cons (de_ix (de_get (hu_of (k := 0) (hr.mono (by decide))) (de_get (hu_of (k := 0) (hr.mono (by decide))) (dv 1) de_str) (dv 4)) de_int) da_nil))) da_nil)))))))
      (dss_one (ds_ret (de_join de_str (de_op o_catl (de_op o_catl (de_sl (dv 2) do_none (do_some de_int)) (dv 3)) (de_sl (dv 2) (do_some (de_neg de_int)) do_none)))))))))
      (by
    rintro _ M Q ⟨b, c, W, rfl, hbx, ok, q⟩
    have hb := big
    have n40 := ok.n40
    have hfl : W.fs.length ≤ 39 := by have := ok.len; have := ok.ml; omega
    refine seq_cut (fun ρ' M' => ∃ sf : List (Nat × Nat × List Nat), sf.Perm W.fs ∧ M = M' ∧ ρ' = [some (.cell b), some (wD W), some (.lst ((toldL W (ownG sf)).map .str)), none, none]) (fun N hN => ?_) ?_
    · conv => whnf
      refine ⟨W, wks, _, rfl, wD_dic W, ok, fun sf hsf hso => ?_⟩
      have okr := ok.re hsf
      have tlen := text_len okr
      conv => whnf
      refine ⟨?_, by omega, ?_⟩
      · show ((nl).length == 0) = false
        rw [nl_len]
        rfl
      refine hN _ _ ⟨sf, hsf, rfl, ?_⟩
      rw [← own_lines, ← text_split okr]
      rfl
    rintro _ _ ⟨sf, hsf, rfl, rfl⟩
    refine seq_cut (fun ρ' M' => ∃ fp, M fp = none ∧ M' = updM M fp (.lst []) ∧ ρ' = [some (.cell b), some (wD W), some (.lst ((toldL W (ownG sf)).map .str)), some (.cell fp), none]) (fun N hN => ?_) ?_
    · conv => whnf
      refine ⟨lines _ (by show 0 ≤ _; omega), fun fp hfp => ?_⟩
      exact hN _ _ ⟨fp, hfp, rfl, rfl⟩
    rintro _ _ ⟨fp, hfp, rfl, rfl⟩
    obtain ⟨fb, fc⟩ := hbx.fresh hfp
    have hfb : BoxAt (updM M fp (.lst [])) b c := hbx.other fb fc
    refine seq_cut (fun ρ' M' => ∃ gl, Told W gl ∧ M' fp = some (.lst ((gl.map flL).map .str)) ∧ BoxAt M' b c ∧ (∀ q, q ≠ b → q ≠ c → q ≠ fp → M' q = M q) ∧ ∃ z, ρ' = [some (.cell b), some (wD W), some (.lst ((toldL W (ownG sf)).map .str)), some (.cell fp), z]) (fun N hN => ?_) ?_
    · conv => whnf
      refine ⟨_, gW_falls, ?_⟩
      conv => whnf
      refine ⟨(W.fs.map fun x => x.1).map fun (k : Nat) => (k : Int), W.fs.map fD, by rw [show ((W.fs.map fun x => x.1).map fun (k : Nat) => (k : Int)).map Sum.inl = W.fs.map fun x => kN x.1 from by rw [List.map_map, List.map_map]; rfl]; rfl, by rw [List.length_map, List.length_map]; omega, fun ns' hp' hs' => ?_⟩
      obtain ⟨sf2, s1, s2, rfl⟩ := sort_falls2 ok hp' hs'
      have hsl : sf2.length ≤ 39 := by rw [s1.length_eq]; exact hfl
      rw [← dN_ints]
      refine ⟨b, c, _, rfl, hfb, by rw [List.length_map, List.length_map]; omega, fun ys M1 hys hM1 => ?_⟩
      obtain ⟨hl, rfl, hlp⟩ := perm_map_inv (f := fun x : Nat × Nat × List Nat => dN x.1) hys.symm (l := sf2) (by rw [List.map_map]; rfl)
      have hlW := hlp.trans s1
      have g0 : M1 fp = some (.lst []) := by rw [hM1.2 fp fb fc]; exact updM_same
      refine loop_l hl (fun x => dN x.1) rfl (fun t ρ' M' => ∃ gl : List ((Nat × Nat × List Nat) × List Nat), (gl.map fun y => y.1) = hl.take t ∧ (∀ y ∈ gl, y.2.Perm y.1.2.2) ∧ M' fp = some (.lst ((gl.map flL).map .str)) ∧ BoxAt M' b c ∧ (∀ q, q ≠ b → q ≠ c → q ≠ fp → M' q = M q) ∧ ∃ z, ρ' = [some (.cell b), some (wD W), some (.lst ((toldL W (ownG sf)).map .str)), some (.cell fp), z]) ?_ ?_ ?_
      · exact ⟨[], rfl, fun y hy => (by cases hy), g0, hM1.1, fun q a1 a2 a3 => by rw [hM1.2 q a1 a2, updM_ne a3], _, rfl⟩
      · rintro t x _ M2 ex hx ⟨gl, e1, e2, g1, hb2, hfr, z, rfl⟩
        have hx' := hlW.mem_iff.mp hx
        have ht : t < hl.length := (List.getElem?_eq_some_iff.mp ex).1
        have hgl : gl.length = t := by
          have := congrArg List.length e1
          rw [List.length_map, List.length_take] at this
          omega
        have hll : hl.length ≤ 39 := by rw [hlW.length_eq]; exact hfl
        have hln : ∀ y ∈ x.2.2, y < 1000 := fun y hy => by have := (ok.ln x hx' y hy).1; omega
        have h40 : x.2.2.length ≤ 40 := by have := ok.ll x hx'; omega
        have h1 := ok.hn x hx'
        have h2 := ok.t1 x hx'
        have n1 := num_len2 (k := x.1) (by omega)
        have n2 := num_len2 (k := x.2.1) (by omega)
        have w1 := wlen "fall " (by decide)
        have w2 := wlen " " (by decide)
        have gk : getK (W.fs.map fun x => kN x.1) (W.fs.map fD) (kN x.1) = some (fD x) := by rw [getK_fs, Wd.fall_of ok.nd hx']; rfl
        conv => whnf
        refine ⟨⟨_, g1⟩, ?_⟩
        conv => whnf
        refine ⟨log_small (by omega), ?_⟩
        refine And.intro (show _ + (num x.1).length ≤ _ by omega) ?_
        refine And.intro (show (_ ++ num x.1).length + _ ≤ _ by rw [app_len]; omega) ?_
        conv => whnf
        refine ⟨_, gW_falls, ?_⟩
        conv => whnf
        refine ⟨fD x, gk, ?_⟩
        conv => whnf
        refine ⟨dN x.2.1, rfl, ?_⟩
        conv => whnf
        refine ⟨log_small (by omega), ?_⟩
        refine And.intro (show ((_ ++ num x.1) ++ _).length + (num x.2.1).length ≤ _ by rw [app_len, app_len]; omega) ?_
        refine And.intro (show (((_ ++ num x.1) ++ _) ++ num x.2.1).length + _ ≤ _ by rw [app_len, app_len, app_len]; omega) ?_
        conv => whnf
        refine ⟨_, gW_falls, ?_⟩
        conv => whnf
        refine ⟨fD x, gk, ?_⟩
        conv => whnf
        refine ⟨nsD x.2.2, rfl, ?_⟩
        conv => whnf
        refine ⟨b, c, _, rfl, hb2, by rw [List.length_map]; omega, fun ys M3 hys hM3 => ?_⟩
        obtain ⟨l', rfl, hl'⟩ := perm_map_inv hys.symm rfl
        have hl40 : l'.length ≤ 40 := by rw [hl'.length_eq]; exact h40
        have hln' : ∀ y ∈ l', y < 1000 := fun y hy => hln y (hl'.mem_iff.mp hy)
        have hlt := lot_len hl40 hln'
        refine ⟨l', rfl, hl40, hln', ?_⟩
        refine And.intro (show ((((_ ++ num x.1) ++ _) ++ num x.2.1) ++ _).length + (lotT l').length ≤ _ by rw [app_len, app_len, app_len, app_len]; omega) ?_
        have g3 : M3 fp = some (.lst ((gl.map flL).map .str)) := by rw [hM3.2 fp fb fc]; exact g1
        refine ⟨_, g3, by rw [List.length_map, List.length_map]; omega, ?_⟩
        refine ⟨gl ++ [(x, l')], ?_, fun y hy => ?_, ?_, hM3.1.other fb fc, fun q a1 a2 a3 => ?_, _, rfl⟩
        · rw [List.map_append, e1, List.take_succ, ex]
          rfl
        · rcases List.mem_append.mp hy with hy | hy
          · exact e2 y hy
          · rw [List.mem_singleton.mp hy]; exact hl'
        · rw [updM_same]
          have ef : flL (x, l') = ((((Str.ofString "fall " ++ num x.1) ++ Str.ofString " ") ++ num x.2.1) ++ Str.ofString " ") ++ lotT l' := l_fall (x.1, x.2.1, l')
          rw [List.map_append, List.map_append, List.map_cons, List.map_nil, List.map_cons, List.map_nil, ef]
        · rw [updM_ne a3, hM3.2 q a1 a2]
          exact hfr q a1 a2 a3
      · rintro _ M2 ⟨gl, e1, e2, g1, hb2, hfr, z, rfl⟩
        rw [List.take_length] at e1
        exact hN _ _ ⟨gl, ⟨by rw [e1]; exact hlW, e2⟩, g1, hb2, hfr, _, rfl⟩
    rintro _ M2 ⟨gl, htd, g1, hb2, hfr, z, rfl⟩
    have hgl : gl.length ≤ 39 := by
      have := htd.fs.length_eq
      rw [List.length_map] at this
      omega
    have l1 : look M2 (.cell fp) = some (.lst ((gl.map flL).map .str)) := g1
    have etake : DL.cutD ((toldL W (ownG sf)).map D.str) none (some 4) = (headL W.n W.most W.begins).map D.str := by
      rw [show (4 : Int) = ((4 : Nat) : Int) from rfl, cut_take]
      rfl
    have elast : DL.cutD ((toldL W (ownG sf)).map D.str) (some (-2)) none = [.str (line [sF "done"]), .str (sF "")] := by
      have : (toldL W (ownG sf)).map D.str = ((headL W.n W.most W.begins ++ (ownG sf).map flL).map D.str) ++ [.str (line [sF "done"]), .str (sF "")] := by
        unfold toldL
        rw [← List.append_assoc, List.map_append (l₂ := [line [sF "done"], sF ""])]
        rfl
      rw [this, cut_last2]
    have elist : (headL W.n W.most W.begins).map D.str ++ (gl.map flL).map .str ++ [.str (line [sF "done"]), .str (sF "")] = (toldL W gl).map D.str := by
      unfold toldL
      rw [List.map_append, List.map_append, List.append_assoc]
      rfl
    obtain ⟨r1, r2⟩ := box_back hb2 fb fc hfp hfr
    have hlns := told_lns ok htd
    have hlen := told_len ok htd
    have hjc := join_cond hlns (by have : (toldL W gl).length * 301 ≤ 45 * 301 := Nat.mul_le_mul_right _ hlen; omega)
    have hjl := len_lines hlns
    conv => whnf
    rw [etake]
    conv => whnf
    rw [l1]
    conv => whnf
    refine ⟨by rw [List.length_map, List.length_map, List.length_map]; show 4 + gl.length ≤ _; omega, ?_⟩
    conv => whnf
    rw [elast]
    refine ⟨by rw [List.length_append, List.length_map, List.length_map, List.length_map]; show 4 + gl.length + 2 ≤ _; omega, ?_⟩
    rw [elist]
    refine ⟨toldL W gl, .inl rfl, by show _ + _ * nl.length ≤ _; omega, ?_⟩
    exact ⟨_, r2, q gl _ htd r1⟩
)
end
end K85

/-! part G24 -/
set_option maxHeartbeats 0
namespace K85
open PySem PySem.Spec PyProof.Rows L2 DL
section
variable {P : Program} {w : World} {K : PySem.W.Frag} {mg : Str → Option Value} {base : Heap}
structure OkS (s : Str) : Prop where
  ok : PyData.strOk s = true
  nn : 10 ∉ TL.tl s
theorem OkS.app {a b : Str} (h : OkS a) (h' : OkS b) : OkS (a ++ b) := by
  refine ⟨strOk_iff.mpr fun c hc => ?_, fun hc => ?_⟩
  · rw [TL.tl_append] at hc
    rcases List.mem_append.mp hc with hc | hc
    · exact strOk_iff.mp h.ok c hc
    · exact strOk_iff.mp h'.ok c hc
  · rw [TL.tl_append] at hc
    rcases List.mem_append.mp hc with hc | hc
    · exact h.nn hc
    · exact h'.nn hc
theorem OkS.num (k : Nat) : OkS (num k) := ⟨num_ok.2, num_ok.1⟩
def litOk (m : Nat) (s : String) : Bool := decide (s.toList.length ≤ m) && (decide (10 ∉ s.toList.map Char.toNat) && (s.toList.map Char.toNat).all (fun c => decide (c < 1114112)))
theorem lit_ok {m : Nat} {s : String} (h : litOk m s = true) : (sF s).length ≤ m ∧ OkS (sF s) := by
  unfold litOk at h
  simp only [Bool.and_eq_true, decide_eq_true_eq, List.all_eq_true] at h
  obtain ⟨h1, h2, h3⟩ := h
  have := word_ok (s := s) h2 h3
  exact ⟨by rw [wl]; exact h1, this.2, this.1⟩
theorem lits_ok {m : Nat} {L : List String} (h : L.all (litOk m) = true) {x : D} (hx : x ∈ L.map fun s => D.str (sF s)) : ∃ s, x = .str s ∧ s.length ≤ m ∧ OkS s := by
  obtain ⟨s, hs, rfl⟩ := List.mem_map.mp hx
  obtain ⟨h1, h2⟩ := lit_ok (List.all_eq_true.mp h s hs)
  exact ⟨_, rfl, h1, h2⟩
def tkS : List String := ["2", "40", "41", "60", "61", "999999999", "1000000000", "0", "1", "01", "", "-", "+1", "1+", "1+1", "0+1", "1+0", "x", "fall", "done", "-1", "00", "Fall", "falls", "1_0"]
theorem tkS_ok : tkS.all (litOk 12) = true := by decide +kernel
def tkD (W : Wd) : List D := [.str (num W.n), .str (num (W.n - 1))] ++ tkS.map fun s => D.str (sF s)
theorem tkD_ok {W : Wd} (ok : W.Ok) {x : D} (hx : x ∈ tkD W) : ∃ s, x = .str s ∧ s.length ≤ 12 ∧ OkS s := by
  have n40 := ok.n40
  unfold tkD at hx
  rcases List.mem_append.mp hx with hx | hx
  · simp only [List.mem_cons, List.not_mem_nil, or_false] at hx
    rcases hx with rfl | rfl
    · exact ⟨_, rfl, by have := num_len2 (k := W.n) (by omega); omega, OkS.num _⟩
    · exact ⟨_, rfl, by have := num_len2 (k := W.n - 1) (by omega); omega, OkS.num _⟩
  · exact lits_ok tkS_ok hx
def sp_law_tokens : SpD := fun ds M Q => ∃ W : Wd, ds = [wD W] ∧ W.Ok ∧ Q (.lst (tkD W)) M
theorem len_law_tokens : ∀ ds M Q, sp_law_tokens ds M Q → ds.length = 1 := by
  rintro _ _ _ ⟨_, rfl, _⟩; rfl
theorem ok_law_tokens (T : Txt K mg) : FnD P w K mg base 1 T.law_tokens.f T.law_tokens.fd ["world"] sp_law_tokens := okDk T.law_tokens.F sc_law_tokens len_law_tokens (fun cdv A outer s H E hr =>
        (dss_cons (ds_set (i := 1) sc_law_tokens.nd (de_lst (da_cons (de_callTy c_str (by rfl) T.b_str boot_str (da_cons (de_get (hu_of (k := 0) (hr.mono (by decide))) (dv 0) de_str) da_nil)) (da_cons (de_callTy c_str (by rfl) T.b_str boot_str (da_cons (de_op o_sub (de_get (hu_of (k := 0) (hr.mono (by decide))) (dv 0) de_str) de_int) da_nil)) (da_cons de_str (da_cons de_str (da_cons de_str (da_cons de_str (da_cons de_str (da_cons de_str (da_cons de_str da_nil)))))))))))
      (dss_one (ds_ret (de_op o_catl (dv 1) (de_lst (da_cons de_str (da_cons de_str (da_cons de_str (da_cons de_str (da_cons de_str (da_cons de_str (da_cons de_str (da_cons de_str (da_cons de_str (da_cons de_str (da_cons de_str (da_cons de_str (da_cons de_str (da_cons de_str (da_cons de_str (da_cons de_str (da_cons de_str (da_cons de_str da_nil))))))))))))))))))))))))
      (by
    rintro _ M Q ⟨W, rfl, ok, q⟩
    have hb := big
    have n40 := ok.n40
    have n2 := ok.n2
    refine seq_cut (fun ρ' M' => M = M' ∧ ρ' = [some (wD W), some (.lst ([.str (num W.n), .str (num (W.n - 1))] ++ (tkS.take 7).map fun s => D.str (sF s)))]) (fun N hN => ?_) ?_
    · conv => whnf
      refine ⟨_, gW_n, ?_⟩
      conv => whnf
      refine ⟨log_small (by omega), ?_⟩
      conv => whnf
      refine ⟨_, gW_n, ?_⟩
      conv => whnf
      have e1 : (W.n : Int) - 1 = ((W.n - 1 : Nat) : Int) := by omega
      rw [e1]
      refine ⟨log_small (by omega), ?_⟩
      conv => whnf
      refine ⟨lines _ (by show 9 ≤ _; omega), ?_⟩
      refine hN _ _ ⟨rfl, ?_⟩
      rfl
    rintro _ _ ⟨rfl, rfl⟩
    conv => whnf
    refine ⟨lines _ (by show 18 ≤ _; omega), ?_⟩
    conv => whnf
    refine ⟨by show 9 + 18 ≤ _; omega, ?_⟩
    exact ret_ok q
)
/-! a line's words, measured -/
def wsum (ps : List Str) : Nat := (ps.map (·.length)).sum + ps.length
theorem wsum_app (a b : List Str) : wsum (a ++ b) = wsum a + wsum b := by
  unfold wsum
  rw [List.map_append, List.sum_append, List.length_append]
  omega
theorem wsum_cut (ps : List Str) (k : Nat) : wsum (ps.take k) + wsum (ps.drop k) = wsum ps := by
  rw [← wsum_app, List.take_append_drop]
theorem wsum_drop (ps : List Str) (k : Nat) : wsum (ps.drop k) ≤ wsum ps := by have := wsum_cut ps k; omega
theorem wsum_take (ps : List Str) (k : Nat) : wsum (ps.take k) ≤ wsum ps := by have := wsum_cut ps k; omega
theorem wsum_drop1 (ps : List Str) (k : Nat) : wsum (ps.drop (k + 1)) ≤ wsum (ps.drop k) := by
  rw [show ps.drop (k + 1) = (ps.drop k).drop 1 from by rw [List.drop_drop]]
  exact wsum_drop _ _
theorem wsum_one (t : Str) : wsum [t] = t.length + 1 := by
  unfold wsum
  simp
theorem joinL_wsum (s : Nat) : ∀ ps : List (List Nat), ps ≠ [] → (TL.joinL [s] ps).length + 1 = (ps.map List.length).sum + ps.length
  | [], h => absurd rfl h
  | [p], _ => by simp [TL.joinL]
  | p :: q :: r, _ => by
    have ih := joinL_wsum s (q :: r) (by simp)
    show (p ++ ([s] ++ TL.joinL [s] (q :: r))).length + 1 = _
    simp only [List.length_append, List.length_cons, List.length_nil, List.map_cons, List.sum_cons] at ih ⊢
    omega
theorem wsum_words (l : Str) : wsum (words l) = l.length + 1 := by
  have e := split_tl (x := l) tl_spc (by decide)
  have j := joinL_spl 32 (TL.tl l) []
  rw [← e] at j
  have hne : (words l).map TL.tl ≠ [] := fun z => by
    have := (words_pcs l).ne
    rw [List.map_eq_nil_iff.mp z] at this
    exact absurd this (by decide)
  have w := joinL_wsum 32 _ hne
  rw [j, List.nil_append, List.map_map, List.length_map] at w
  have e3 : (words l).map (List.length ∘ TL.tl) = (words l).map (·.length) := List.map_congr_left fun x _ => (TL.len_tl x).symm
  rw [e3] at w
  unfold wsum
  rw [TL.len_tl]
  exact w.symm
theorem wsum_len (ps : List Str) : ps.length ≤ wsum ps := by unfold wsum; omega
theorem line_lns {B : Nat} {ps : List Str} (h : ∀ p ∈ ps, OkS p) (hb : wsum ps ≤ B) : (line ps).length ≤ B ∧ PyData.strOk (line ps) = true ∧ 10 ∉ TL.tl (line ps) := line_ok (fun w hw => ⟨(h w hw).nn, (h w hw).ok⟩) hb
theorem words_okS {l : Str} (h : PyData.strOk l = true ∧ 10 ∉ TL.tl l) : ∀ p ∈ words l, OkS p := fun p hp => ⟨(words_pcs l).ok h.1 p hp, fun z => h.2 ((words_pcs l).ch p hp 10 z)⟩
theorem cutS_take (ps : List Str) (k : Nat) : DL.cutD (ps.map D.str) none (some (k : Int)) = (ps.take k).map D.str := by rw [cut_take, List.map_take]
theorem cutS_drop (ps : List Str) (k : Nat) : DL.cutD (ps.map D.str) (some (k : Int)) none = (ps.drop k).map D.str := by
  unfold DL.cutD
  rw [HT.sIx_none, HT.sIx_nat]
  rcases Nat.le_total k (ps.map D.str).length with h | h
  · rw [Nat.min_eq_left h, List.take_of_length_le (by rw [List.length_drop]; exact Nat.le_refl _), List.map_drop]
  · rw [Nat.min_eq_right h, Nat.sub_self, List.take_zero]
    rw [List.length_map] at h
    rw [List.drop_eq_nil_of_le h]
    rfl
theorem lns_ins {B C : Nat} {ls : List Str} {x : Str} (h : Lns B ls) (hB : B ≤ C) (hx : x.length ≤ C ∧ PyData.strOk x = true ∧ 10 ∉ TL.tl x) (a c : Nat) : Lns C (ls.take a ++ [x] ++ ls.drop c) :=
  Lns.app (Lns.app ((h.mono hB).sub fun l hl => List.mem_of_mem_take hl) (.cons hx .nil)) ((h.mono hB).sub fun l hl => List.mem_of_mem_drop hl)
def sp_law_bent : SpD := fun ds M Q => ∃ (b c : Addr) (W : Wd) (ls : List Str) (B : Nat), ds = [.cell b, wD W, .lst (ls.map .str)] ∧ BoxAt M b c ∧ W.Ok ∧ Lns B ls ∧ B ≤ 1300 ∧ ls ≠ [] ∧ ls.length ≤ 100 ∧
  ∀ ls' M', BxR b c M M' → Lns (2 * B + 20) ls' → ls' ≠ [] → ls'.length ≤ ls.length + 1 → Q (.lst (ls'.map .str)) M'
theorem len_law_bent : ∀ ds M Q, sp_law_bent ds M Q → ds.length = 3 := by
  rintro _ _ _ ⟨_, _, _, _, _, rfl, _⟩; rfl
theorem ok_law_bent (T : Txt K mg) : FnD P w K mg base 3 T.law_bent.f T.law_bent.fd ["box", "world", "lines"] sp_law_bent := okDk T.law_bent.F sc_law_bent len_law_bent (fun cdv A outer s H E hr =>
        (dss_cons (ds_par2 (i := 3) (j := 4) rfl sc_law_bent.nd rfl rfl (by decide) rfl rfl (de_call (ok_law_take T) (hr.mono (by decide)) (by rfl) T.law_take.g T.law_take.F.kp T.law_take.b (da_cons (dv 0) (da_cons de_int da_nil))) (de_call (ok_law_take T) (hr.mono (by decide)) (by rfl) T.law_take.g T.law_take.F.kp T.law_take.b (da_cons (dv 0) (da_cons (de_callB c_len (by rfl) T.b_len boot_len (da_cons (dv 2) da_nil)) da_nil))))
      (dss_cons (ds_set (i := 5) sc_law_bent.nd (de_split (de_ix (dv 2) (dv 4)) de_str))
      (dss_cons (ds_set (i := 6) sc_law_bent.nd (de_call (ok_law_take T) (hr.mono (by decide)) (by rfl) T.law_take.g T.law_take.F.kp T.law_take.b (da_cons (dv 0) (da_cons (de_callB c_len (by rfl) T.b_len boot_len (da_cons (dv 5) da_nil)) da_nil))))
      (dss_cons (ds_set (i := 7) sc_law_bent.nd (de_call (ok_law_of T) (hr.mono (by decide)) (by rfl) T.law_of.g T.law_of.F.kp T.law_of.b (da_cons (dv 0) (da_cons (de_call (ok_law_tokens T) (hr.mono (by decide)) (by rfl) T.law_tokens.g T.law_tokens.F.kp T.law_tokens.b (da_cons (dv 1) da_nil)) da_nil))))
      (dss_cons (ds_if (dt_cmp o_lt (dv 3) de_int) (dss_cons (ds_set (i := 8) sc_law_bent.nd (de_ix (de_lst (da_cons (de_op o_catl (de_op o_catl (de_sl (dv 5) do_none (do_some (dv 6))) (de_lst (da_cons (dv 7) da_nil))) (de_sl (dv 5) (do_some (de_op o_add (dv 6) de_int)) do_none)) (da_cons (de_op o_catl (de_sl (dv 5) do_none (do_some (dv 6))) (de_sl (dv 5) (do_some (de_op o_add (dv 6) de_int)) do_none)) (da_cons (de_op o_catl (de_op o_catl (de_sl (dv 5) do_none (do_some (dv 6))) (de_lst (da_cons (dv 7) da_nil))) (de_sl (dv 5) (do_some (dv 6)) do_none)) (da_cons (de_op o_catl (de_sl (dv 5) do_none (do_some (de_op o_add (dv 6) de_int))) (de_sl (dv 5) (do_some (dv 6)) do_none)) da_nil))))) (dv 3)))
      (dss_one (ds_ret (de_op o_catl (de_op o_catl (de_sl (dv 2) do_none (do_some (dv 4))) (de_lst (da_cons (de_join de_str (dv 8)) da_nil))) (de_sl (dv 2) (do_some (de_op o_add (dv 4) de_int)) do_none))))) dss_nil)
      (dss_cons (ds_if (dt_cmp o_eq (dv 3) de_int) (dss_one (ds_ret (de_if (dt_cmp o_gt (de_callB c_len (by rfl) T.b_len boot_len (da_cons (dv 2) da_nil)) de_int) (de_op o_catl (de_sl (dv 2) do_none (do_some (dv 4))) (de_sl (dv 2) (do_some (de_op o_add (dv 4) de_int)) do_none)) (dv 2)))) dss_nil)
      (dss_cons (ds_if (dt_cmp o_eq (dv 3) de_int) (dss_one (ds_ret (de_op o_catl (de_op o_catl (de_sl (dv 2) do_none (do_some (dv 4))) (de_lst (da_cons (de_ix (dv 2) (dv 4)) da_nil))) (de_sl (dv 2) (do_some (dv 4)) do_none)))) dss_nil)
      (dss_cons (ds_if (dt_cmp o_eq (dv 3) de_int) (dss_cons (ds_set (i := 9) sc_law_bent.nd (de_call (ok_law_take T) (hr.mono (by decide)) (by rfl) T.law_take.g T.law_take.F.kp T.law_take.b (da_cons (dv 0) (da_cons (de_callB c_len (by rfl) T.b_len boot_len (da_cons (dv 2) da_nil)) da_nil))))
      (dss_one (ds_ret (de_op o_catl (de_op o_catl (de_sl (dv 2) do_none (do_some (dv 4))) (de_lst (da_cons (de_ix (dv 2) (dv 9)) da_nil))) (de_sl (dv 2) (do_some (de_op o_add (dv 4) de_int)) do_none))))) dss_nil)
      (dss_cons (ds_if (dt_cmp o_eq (dv 3) de_int) (dss_one (ds_ret (de_op o_catl (de_op o_catl (de_sl (dv 2) do_none (do_some (dv 4))) (de_lst (da_cons (de_op o_cats (de_op o_cats (de_op o_cats (de_op o_cats (de_op o_cats de_str (de_callTy c_str (by rfl) T.b_str boot_str (da_cons (de_call (ok_law_take T) (hr.mono (by decide)) (by rfl) T.law_take.g T.law_take.F.kp T.law_take.b (da_cons (dv 0) (da_cons (de_op o_add (de_get (hu_of (k := 0) (hr.mono (by decide))) (dv 1) de_str) de_int) da_nil))) da_nil))) de_str) (de_call (ok_law_of T) (hr.mono (by decide)) (by rfl) T.law_of.g T.law_of.F.kp T.law_of.b (da_cons (dv 0) (da_cons (de_lst (da_cons de_str (da_cons de_str (da_cons de_str (da_cons de_str (da_cons de_str da_nil)))))) da_nil)))) de_str) (de_call (ok_law_of T) (hr.mono (by decide)) (by rfl) T.law_of.g T.law_of.F.kp T.law_of.b (da_cons (dv 0) (da_cons (de_lst (da_cons de_str (da_cons de_str (da_cons de_str (da_cons de_str (da_cons de_str (da_cons de_str da_nil))))))) da_nil)))) da_nil))) (de_sl (dv 2) (do_some (dv 4)) do_none)))) dss_nil)
      (dss_one (ds_ret (de_sl (dv 2) do_none (do_some (de_op o_add (dv 4) de_int)))))))))))))))
      (by
    rintro _ M Q ⟨b, c, W, ls, B, rfl, hbx, ok, hL, hB, hne, hlen, q⟩
    have hb := big
    have n40 := ok.n40
    have hpos : 0 < ls.length := List.length_pos_iff.mpr hne
    refine seq_cut (fun ρ' M' => ∃ way at_, way < 9 ∧ at_ < ls.length ∧ BxR b c M M' ∧ ρ' = [some (.cell b), some (wD W), some (.lst (ls.map .str)), some (dN way), some (dN at_), none, none, none, none, none]) (fun N hN => ?_) ?_
    · conv => whnf
      refine ⟨b, c, 9, rfl, hbx, by decide, by decide, fun way M1 hw hM1 => ?_⟩
      conv => whnf
      rw [strs_len]
      refine ⟨b, c, ls.length, rfl, hM1.1, hpos, by omega, fun a M2 ha hM2 => ?_⟩
      exact hN _ _ ⟨way, a, hw, ha, hM1.trans hM2, rfl⟩
    rintro _ M1 ⟨way, a, hw, ha, hM1, rfl⟩
    have hla : ls[a]? = some ls[a] := List.getElem?_eq_getElem ha
    have hlm : ls[a] ∈ ls := List.getElem_mem ha
    have hl0 := hL _ hlm
    generalize hlv : ls[a] = l at hla hlm hl0
    have hlB : l.length ≤ B := hl0.1
    have pc := words_pcs l
    have pok := words_okS hl0.2
    have hws := wsum_words l
    have hwl := wsum_len (words l)
    refine seq_cut (fun ρ' M' => M1 = M' ∧ ρ' = [some (.cell b), some (wD W), some (.lst (ls.map .str)), some (dN way), some (dN a), some (.lst ((words l).map .str)), none, none, none, none]) (fun N hN => ?_) ?_
    · conv => whnf
      refine ⟨_, strs_get ls hla, ?_⟩
      conv => whnf
      refine ⟨?_, by omega, ?_⟩
      · have : (Str.ofString " ").length = 1 := by rw [TL.len_tl, tl_spc]; rfl
        rw [this]
        rfl
      exact hN _ _ ⟨rfl, rfl⟩
    rintro _ _ ⟨rfl, rfl⟩
    generalize words l = ps at pc pok hws hwl
    have hpsl : ps.length ≤ 1301 := by omega
    refine seq_cut (fun ρ' M' => ∃ k, k < ps.length ∧ BxR b c M M' ∧ ρ' = [some (.cell b), some (wD W), some (.lst (ls.map .str)), some (dN way), some (dN a), some (.lst (ps.map .str)), some (dN k), none, none, none]) (fun N hN => ?_) ?_
    · conv => whnf
      rw [strs_len]
      refine ⟨b, c, ps.length, rfl, hM1.1, pc.ne, by omega, fun k M2 hk hM2 => ?_⟩
      exact hN _ _ ⟨k, hk, hM1.trans hM2, rfl⟩
    clear hM1
    rintro _ M1 ⟨k, hk, hM1, rfl⟩
    refine seq_cut (fun ρ' M' => ∃ tok, tok.length ≤ 12 ∧ OkS tok ∧ BxR b c M M' ∧ ρ' = [some (.cell b), some (wD W), some (.lst (ls.map .str)), some (dN way), some (dN a), some (.lst (ps.map .str)), some (dN k), some (.str tok), none, none]) (fun N hN => ?_) ?_
    · conv => whnf
      refine ⟨W, rfl, ok, ?_⟩
      refine ⟨b, c, _, rfl, hM1.1, by show 0 < 2 + 25; decide, by show 2 + 25 < _; decide, fun x M2 hx hM2 => ?_⟩
      obtain ⟨tok, rfl, t1, t2⟩ := tkD_ok ok hx
      exact hN _ _ ⟨tok, t1, t2, hM1.trans hM2, rfl⟩
    clear hM1
    rintro _ M1 ⟨tok, t1, t2, hM1, rfl⟩
    have okT : ∀ {xs : List Str}, (∀ p ∈ xs, p ∈ ps ∨ p = tok) → ∀ p ∈ xs, OkS p := fun h p hp => (h p hp).elim (pok p) fun e => by rw [e]; exact t2
    have tk1 : wsum [tok] ≤ 13 := by rw [wsum_one]; omega
    refine seq_cut (fun ρ' M' => M1 = M' ∧ 4 ≤ way ∧ ρ' = [some (.cell b), some (wD W), some (.lst (ls.map .str)), some (dN way), some (dN a), some (.lst (ps.map .str)), some (dN k), some (.str tok), none, none]) (fun N hN => ?_) ?_
    · refine d2 (fun e => ?_) (fun e => ?_)
      · have e' : way < 4 := by have : (way : Int) < 4 := e; omega
        have ek1 : (k : Int) + 1 = ((k + 1 : Nat) : Int) := by omega
        have c1 := wsum_cut ps k
        have c2 := wsum_drop1 ps k
        have c3 := wsum_take ps (k + 1)
        have mt : ∀ {j : Nat} {p : Str}, p ∈ ps.take j → p ∈ ps ∨ p = tok := fun h => .inl (List.mem_of_mem_take h)
        have md : ∀ {j : Nat} {p : Str}, p ∈ ps.drop j → p ∈ ps ∨ p = tok := fun h => .inl (List.mem_of_mem_drop h)
        refine seq_cut (fun ρ' M' => M1 = M' ∧ ∃ bt : List Str, wsum bt ≤ 2 * B + 20 ∧ (∀ p ∈ bt, OkS p) ∧ ρ' = [some (.cell b), some (wD W), some (.lst (ls.map .str)), some (dN way), some (dN a), some (.lst (ps.map .str)), some (dN k), some (.str tok), some (.lst (bt.map .str)), none]) (fun N2 hN2 => ?_) ?_
        · have bt0 : wsum (ps.take k ++ [tok] ++ ps.drop (k + 1)) ≤ 2 * B + 20 ∧ ∀ p ∈ ps.take k ++ [tok] ++ ps.drop (k + 1), OkS p := by
            refine ⟨by rw [wsum_app, wsum_app]; omega, okT fun p hp => ?_⟩
            rcases List.mem_append.mp hp with hp | hp
            · rcases List.mem_append.mp hp with hp | hp
              · exact mt hp
              · exact .inr (List.mem_singleton.mp hp)
            · exact md hp
          have bt1 : wsum (ps.take k ++ ps.drop (k + 1)) ≤ 2 * B + 20 ∧ ∀ p ∈ ps.take k ++ ps.drop (k + 1), OkS p := by
            refine ⟨by rw [wsum_app]; omega, okT fun p hp => ?_⟩
            rcases List.mem_append.mp hp with hp | hp
            · exact mt hp
            · exact md hp
          have bt2 : wsum (ps.take k ++ [tok] ++ ps.drop k) ≤ 2 * B + 20 ∧ ∀ p ∈ ps.take k ++ [tok] ++ ps.drop k, OkS p := by
            refine ⟨by rw [wsum_app, wsum_app]; omega, okT fun p hp => ?_⟩
            rcases List.mem_append.mp hp with hp | hp
            · rcases List.mem_append.mp hp with hp | hp
              · exact mt hp
              · exact .inr (List.mem_singleton.mp hp)
            · exact md hp
          have bt3 : wsum (ps.take (k + 1) ++ ps.drop k) ≤ 2 * B + 20 ∧ ∀ p ∈ ps.take (k + 1) ++ ps.drop k, OkS p := by
            refine ⟨by rw [wsum_app]; omega, okT fun p hp => ?_⟩
            rcases List.mem_append.mp hp with hp | hp
            · exact mt hp
            · exact md hp
          have lt := List.length_take_le k ps
          have lt1 := List.length_take_le (k + 1) ps
          have ld : (ps.drop k).length ≤ ps.length := by rw [List.length_drop]; omega
          have ld1 : (ps.drop (k + 1)).length ≤ ps.length := by rw [List.length_drop]; omega
          conv => whnf
          rw [cutS_take]
          conv => whnf
          refine ⟨lines _ (by show 1 ≤ _; omega), ?_⟩
          conv => whnf
          refine ⟨by rw [List.length_map]; show _ + 1 ≤ _; omega, ?_⟩
          conv => whnf
          rw [ek1, cutS_drop]
          refine ⟨by rw [List.length_append, List.length_map, List.length_map]; show _ + 1 + _ ≤ _; omega, ?_⟩
          conv => whnf
          rw [cutS_take]
          conv => whnf
          rw [ek1, cutS_drop]
          refine ⟨by rw [List.length_map, List.length_map]; omega, ?_⟩
          conv => whnf
          rw [cutS_take]
          conv => whnf
          refine ⟨lines _ (by show 1 ≤ _; omega), ?_⟩
          conv => whnf
          refine ⟨by rw [List.length_map]; show _ + 1 ≤ _; omega, ?_⟩
          conv => whnf
          rw [cutS_drop]
          refine ⟨by rw [List.length_append, List.length_map, List.length_map]; show _ + 1 + _ ≤ _; omega, ?_⟩
          conv => whnf
          rw [ek1, cutS_take]
          conv => whnf
          rw [cutS_drop]
          refine ⟨by rw [List.length_map, List.length_map]; omega, ?_⟩
          conv => whnf
          refine ⟨lines _ (by show 4 ≤ _; omega), ?_⟩
          conv => whnf
          have hw4 : way = 0 ∨ way = 1 ∨ way = 2 ∨ way = 3 := by omega
          rcases hw4 with rfl | rfl | rfl | rfl
          · refine ⟨_, rfl, hN2 _ _ ⟨rfl, _, bt0.1, bt0.2, ?_⟩⟩
            rw [List.map_append, List.map_append]
            rfl
          · refine ⟨_, rfl, hN2 _ _ ⟨rfl, _, bt1.1, bt1.2, ?_⟩⟩
            rw [List.map_append]
            rfl
          · refine ⟨_, rfl, hN2 _ _ ⟨rfl, _, bt2.1, bt2.2, ?_⟩⟩
            rw [List.map_append, List.map_append]
            rfl
          · refine ⟨_, rfl, hN2 _ _ ⟨rfl, _, bt3.1, bt3.2, ?_⟩⟩
            rw [List.map_append]
            rfl
        rintro _ _ ⟨rfl, bt, b1, b2, rfl⟩
        have hll := line_lns b2 b1
        have hbl := wsum_len bt
        have lt := List.length_take_le a ls
        have ld1 : (ls.drop (a + 1)).length = ls.length - (a + 1) := List.length_drop ..
        have e2 : (a : Int) + 1 = ((a + 1 : Nat) : Int) := by omega
        conv => whnf
        rw [cutS_take]
        conv => whnf
        refine ⟨bt, .inl rfl, ?_, ?_⟩
        · have h3 : (Str.ofString " ").length = 1 := by rw [TL.len_tl, tl_spc]; rfl
          rw [h3]
          unfold wsum at b1
          omega
        conv => whnf
        refine ⟨lines _ (by show 1 ≤ _; omega), ?_⟩
        conv => whnf
        refine ⟨by rw [List.length_map]; show _ + 1 ≤ _; omega, ?_⟩
        conv => whnf
        rw [e2, cutS_drop]
        refine ⟨by rw [List.length_append, List.length_map, List.length_map]; show _ + 1 + _ ≤ _; omega, ?_⟩
        have := q (ls.take a ++ [line bt] ++ ls.drop (a + 1)) M1 hM1 (lns_ins hL (by omega) hll a (a + 1)) (by simp) (by rw [List.length_append, List.length_append, ld1, List.length_take]; show min a ls.length + 1 + _ ≤ _; omega)
        rw [List.map_append, List.map_append] at this
        exact ret_ok this
      · exact hN _ _ ⟨rfl, by have : ¬ (way : Int) < 4 := e; omega, rfl⟩
    rintro _ _ ⟨rfl, hw4, rfl⟩
    have lt := List.length_take_le a ls
    have ld1 : (ls.drop (a + 1)).length = ls.length - (a + 1) := List.length_drop ..
    have ld : (ls.drop a).length = ls.length - a := List.length_drop ..
    have ltk : (ls.take a).length = a := by rw [List.length_take]; omega
    have e2 : (a : Int) + 1 = ((a + 1 : Nat) : Int) := by omega
    refine seq_cut (fun ρ' M' => M1 = M' ∧ 5 ≤ way ∧ ρ' = [some (.cell b), some (wD W), some (.lst (ls.map .str)), some (dN way), some (dN a), some (.lst (ps.map .str)), some (dN k), some (.str tok), none, none]) (fun N hN => ?_) ?_
    · refine d2 (fun e => ?_) (fun e => ?_)
      · conv => whnf
        rw [strs_len]
        refine d2 (fun e3 => ?_) (fun e3 => ?_)
        · conv => whnf
          rw [cutS_take]
          conv => whnf
          rw [e2, cutS_drop]
          refine ⟨by rw [List.length_map, List.length_map]; omega, ?_⟩
          have e3' : 1 < ls.length := by have : (1 : Int) < (ls.length : Nat) := e3; omega
          have := q (ls.take a ++ ls.drop (a + 1)) M1 hM1 (Lns.app ((hL.mono (by omega)).sub fun l hl => List.mem_of_mem_take hl) ((hL.mono (by omega)).sub fun l hl => List.mem_of_mem_drop hl))
            (fun z => by
              have := congrArg List.length z
              rw [List.length_append, ltk, ld1] at this
              simp at this
              omega) (by rw [List.length_append, ltk, ld1]; omega)
          rw [List.map_append] at this
          exact ret_ok this
        · exact ret_ok (q ls M1 hM1 (hL.mono (by omega)) hne (by omega))
      · exact hN _ _ ⟨rfl, by have : ¬ (way : Int) = 4 := e; omega, rfl⟩
    rintro _ _ ⟨rfl, hw5, rfl⟩
    refine seq_cut (fun ρ' M' => M1 = M' ∧ 6 ≤ way ∧ ρ' = [some (.cell b), some (wD W), some (.lst (ls.map .str)), some (dN way), some (dN a), some (.lst (ps.map .str)), some (dN k), some (.str tok), none, none]) (fun N hN => ?_) ?_
    · refine d2 (fun e => ?_) (fun e => ?_)
      · conv => whnf
        rw [cutS_take]
        conv => whnf
        refine ⟨_, strs_get ls hla, ?_⟩
        conv => whnf
        refine ⟨lines _ (by show 1 ≤ _; omega), ?_⟩
        conv => whnf
        refine ⟨by rw [List.length_map]; show _ + 1 ≤ _; omega, ?_⟩
        conv => whnf
        rw [cutS_drop]
        refine ⟨by rw [List.length_append, List.length_map, List.length_map]; show _ + 1 + _ ≤ _; omega, ?_⟩
        have := q (ls.take a ++ [l] ++ ls.drop a) M1 hM1 (lns_ins hL (by omega) ⟨by omega, hl0.2⟩ a a) (by simp) (by rw [List.length_append, List.length_append, ld, ltk]; show a + 1 + _ ≤ _; omega)
        rw [List.map_append, List.map_append] at this
        exact ret_ok this
      · exact hN _ _ ⟨rfl, by have : ¬ (way : Int) = 5 := e; omega, rfl⟩
    rintro _ _ ⟨rfl, hw6, rfl⟩
    refine seq_cut (fun ρ' M' => M1 = M' ∧ 7 ≤ way ∧ ρ' = [some (.cell b), some (wD W), some (.lst (ls.map .str)), some (dN way), some (dN a), some (.lst (ps.map .str)), some (dN k), some (.str tok), none, none]) (fun N hN => ?_) ?_
    · refine d2 (fun e => ?_) (fun e => ?_)
      · refine seq_cut (fun ρ' M' => ∃ o, o < ls.length ∧ BxR b c M M' ∧ ρ' = [some (.cell b), some (wD W), some (.lst (ls.map .str)), some (dN way), some (dN a), some (.lst (ps.map .str)), some (dN k), some (.str tok), none, some (dN o)]) (fun N2 hN2 => ?_) ?_
        · conv => whnf
          rw [strs_len]
          refine ⟨b, c, ls.length, rfl, hM1.1, hpos, by omega, fun o M2 ho hM2 => ?_⟩
          exact hN2 _ _ ⟨o, ho, hM1.trans hM2, rfl⟩
        rintro _ M2 ⟨o, ho, hM2, rfl⟩
        have hlo : ls[o]? = some ls[o] := List.getElem?_eq_getElem ho
        have hom := hL _ (List.getElem_mem ho)
        conv => whnf
        rw [cutS_take]
        conv => whnf
        refine ⟨_, strs_get ls hlo, ?_⟩
        conv => whnf
        refine ⟨lines _ (by show 1 ≤ _; omega), ?_⟩
        conv => whnf
        refine ⟨by rw [List.length_map]; show _ + 1 ≤ _; omega, ?_⟩
        conv => whnf
        rw [e2, cutS_drop]
        refine ⟨by rw [List.length_append, List.length_map, List.length_map]; show _ + 1 + _ ≤ _; omega, ?_⟩
        have := q (ls.take a ++ [ls[o]] ++ ls.drop (a + 1)) M2 hM2 (lns_ins hL (by omega) ⟨by have := hom.1; omega, hom.2⟩ a (a + 1)) (by simp) (by rw [List.length_append, List.length_append, ld1, ltk]; show a + 1 + _ ≤ _; omega)
        rw [List.map_append, List.map_append] at this
        exact ret_ok this
      · exact hN _ _ ⟨rfl, by have : ¬ (way : Int) = 6 := e; omega, rfl⟩
    rintro _ _ ⟨rfl, hw7, rfl⟩
    refine seq_cut (fun ρ' M' => M1 = M' ∧ ρ' = [some (.cell b), some (wD W), some (.lst (ls.map .str)), some (dN way), some (dN a), some (.lst (ps.map .str)), some (dN k), some (.str tok), none, none]) (fun N hN => ?_) ?_
    · refine d2 (fun e => ?_) (fun e => ?_)
      · conv => whnf
        rw [cutS_take]
        conv => whnf
        refine ⟨_, gW_n, ?_⟩
        conv => whnf
        refine ⟨b, c, W.n + 1, rfl, hM1.1, by omega, by omega, fun r M2 hr hM2 => ?_⟩
        have nr := num_len2 (k := r) (by omega)
        have w1 := wlen "fall " (by decide)
        have f5 : (Str.ofString "fall ").length = 5 := wl "fall "
        have f1 : (Str.ofString " ").length = 1 := wl " "
        conv => whnf
        refine ⟨log_small (by omega), ?_⟩
        refine And.intro (show _ + (num r).length ≤ _ by omega) ?_
        refine And.intro (show (_ ++ num r).length + _ ≤ _ by rw [app_len]; omega) ?_
        conv => whnf
        refine ⟨lines _ (by show 5 ≤ _; omega), ?_⟩
        conv => whnf
        refine ⟨b, c, _, rfl, hM2.1, by show 0 < 5; decide, by show 5 < _; decide, fun x3 M3 hx3 hM3 => ?_⟩
        obtain ⟨s3, rfl, u1, u2⟩ := lits_ok (m := 3) (L := ["1", "2", "0", "60", "61"]) (by decide +kernel) hx3
        conv => whnf
        refine And.intro (show ((_ ++ num r) ++ _).length + s3.length ≤ _ by rw [app_len, app_len]; omega) ?_
        refine And.intro (show (((_ ++ num r) ++ _) ++ s3).length + _ ≤ _ by rw [app_len, app_len, app_len]; omega) ?_
        conv => whnf
        refine ⟨lines _ (by show 6 ≤ _; omega), ?_⟩
        conv => whnf
        refine ⟨b, c, _, rfl, hM3.1, by show 0 < 6; decide, by show 6 < _; decide, fun x4 M4 hx4 hM4 => ?_⟩
        obtain ⟨s4, rfl, v1, v2⟩ := lits_ok (m := 3) (L := ["-", "0", "1", "0+1", "1+0", "2"]) (by decide +kernel) hx4
        conv => whnf
        refine And.intro (show ((((_ ++ num r) ++ _) ++ s3) ++ _).length + s4.length ≤ _ by rw [app_len, app_len, app_len, app_len]; omega) ?_
        conv => whnf
        refine ⟨lines _ (by show 1 ≤ _; omega), ?_⟩
        conv => whnf
        refine ⟨by rw [List.length_map]; show _ + 1 ≤ _; omega, ?_⟩
        conv => whnf
        rw [cutS_drop]
        refine ⟨by rw [List.length_append, List.length_map, List.length_map]; show _ + 1 + _ ≤ _; omega, ?_⟩
        have kf := (lit_ok (m := 20) (s := "fall ") (by decide +kernel)).2
        have ks := (lit_ok (m := 20) (s := " ") (by decide +kernel)).2
        have kx := ((((kf.app (OkS.num r)).app ks).app u2).app ks).app v2
        have := q (ls.take a ++ [((((sF "fall " ++ num r) ++ sF " ") ++ s3) ++ sF " ") ++ s4] ++ ls.drop a) M4 (((hM1.trans hM2).trans hM3).trans hM4) (lns_ins hL (by omega) ⟨by rw [app_len, app_len, app_len, app_len, app_len]; show (Str.ofString "fall ").length + _ + (Str.ofString " ").length + _ + (Str.ofString " ").length + _ ≤ _; omega, kx.ok, kx.nn⟩ a a) (by simp) (by rw [List.length_append, List.length_append, ld, ltk]; show a + 1 + _ ≤ _; omega)
        rw [List.map_append, List.map_append] at this
        exact ret_ok this
      · exact hN _ _ ⟨rfl, rfl⟩
    rintro _ _ ⟨rfl, rfl⟩
    conv => whnf
    rw [e2, cutS_take]
    exact ret_ok (q (ls.take (a + 1)) M1 hM1 ((hL.mono (by omega)).sub fun l hl => List.mem_of_mem_take hl) (fun z => by
      have := congrArg List.length z
      rw [List.length_take, List.length_nil] at this
      omega) (by rw [List.length_take]; omega))
)
end
end K85

/-! part G25 -/
set_option maxHeartbeats 0
namespace K85
open PySem PySem.Spec PyProof.Rows L2 DL
section
variable {P : Program} {w : World} {K : PySem.W.Frag} {mg : Str → Option Value} {base : Heap}
def edW (bs : List Nat) (f : Nat) : Wd := ⟨40, 1, bs, [(f, 60, [])]⟩
def edG (f : Nat) : List ((Nat × Nat × List Nat) × List Nat) := [((f, 60, []), [])]
theorem edW_ok {bs : List Nat} {f : Nat} (h1 : bs.length = 40) (h2 : ∀ b ∈ bs, b = 0 ∨ b = 1) (h3 : f < 40) : (edW bs f).Ok := by
  have hx : ∀ {p : Nat × Nat × List Nat → Prop}, p (f, 60, []) → ∀ x ∈ (edW bs f).fs, p x := fun {p} h x hx => by
    rw [List.mem_singleton.mp hx]; exact h
  refine ⟨by show 2 ≤ 40; decide, by show 40 ≤ 40; decide, by show 2 ≤ 40; decide, h1, h2, ?_, by show 1 ≤ 1; decide, hx h3, hx (by show 1 ≤ 60 ∧ 60 ≤ 60; decide), hx List.Pairwise.nil, hx fun y hy => (by cases hy), hx (by show 0 + 2 ≤ 40; decide)⟩
  show ([f] : List Nat).Nodup
  exact List.nodup_cons.mpr ⟨List.not_mem_nil, List.nodup_nil⟩
theorem edG_told {bs : List Nat} {f : Nat} : Told (edW bs f) (edG f) := ⟨List.Perm.refl _, fun y hy => by
  rw [List.mem_singleton.mp hy]⟩
theorem num_eq {k : Nat} {s : String} (h : TL.numL k = s.toList.map Char.toNat) : num k = sF s := TL.ext_tl (by rw [num_tl, TL.tl_ofString, h])
theorem numL_40 : TL.numL 40 = [52, 48] := by rw [TL.numL_step (by decide), TL.numL_lt (by decide)]; rfl
theorem numL_60 : TL.numL 60 = [54, 48] := by rw [TL.numL_step (by decide), TL.numL_lt (by decide)]; rfl
theorem lotT_nil : lotT [] = sF "-" := by unfold lotT; rw [if_pos rfl]
theorem ed_h : sF "houses 40" = line [sF "houses", num 40] := by
  rw [l_two "houses" "houses " (by decide)]
  refine TL.ext_tl ?_
  rw [TL.tl_append, num_tl, numL_40, TL.tl_ofString, TL.tl_ofString]
  rfl
theorem ed_m : sF "most 1" = line [sF "most", num 1] := by
  rw [l_two "most" "most " (by decide)]
  refine TL.ext_tl ?_
  rw [TL.tl_append, num_tl, TL.numL_lt (by decide), TL.tl_ofString, TL.tl_ofString]
  rfl
theorem ed_b {bs : List Nat} (h : bs ≠ []) : sF "begins " ++ Txt.join spc (bs.map num) = line (sF "begins" :: bs.map num) := (l_many "begins" "begins " (by decide) (fun z => h (List.map_eq_nil_iff.mp z))).symm
theorem ed_f (f t : Nat) : (((sF "fall " ++ num f) ++ sF " ") ++ num t) ++ sF " -" = line (ftok (f, t, [])) := by
  rw [l_fall (f, t, [])]
  dsimp only
  rw [lotT_nil]
  refine TL.ext_tl ?_
  simp only [TL.tl_append, TL.tl_ofString, List.append_assoc]
  rfl
theorem ed_f60 (f : Nat) : (sF "fall " ++ num f) ++ sF " 60 -" = line (ftok (f, 60, [])) := by
  rw [← ed_f]
  refine TL.ext_tl ?_
  simp only [TL.tl_append, num_tl, numL_60, TL.tl_ofString, List.append_assoc]
  rfl
theorem ed_fl {f : Nat} : (edG f).map flL = [line (ftok (f, 60, []))] := rfl
def edL (bs : List Nat) (f : Nat) : List Str := [sF "falls", sF "houses 40", sF "most 1", sF "begins " ++ Txt.join spc (bs.map num), (sF "fall " ++ num f) ++ sF " 60 -", sF "done", sF ""]
theorem edL_eq {bs : List Nat} (h : bs ≠ []) (f : Nat) : edL bs f = toldL (edW bs f) (edG f) := by
  unfold edL toldL headL
  rw [ed_b h, ed_f60, ed_h, ed_m, ed_fl]
  have e1 : sF "falls" = line [sF "falls"] := l_falls.symm
  have e2 : sF "done" = line [sF "done"] := l_done.symm
  rw [← e1, ← e2]
  rfl
def lateL (bs : List Nat) (f t : Nat) : List Str := headL 40 1 bs ++ [line (ftok (f, t, [])), line [sF "done"], sF ""]
def wideL (bs : List Nat) (f n : Nat) : List Str := headL n 1 bs ++ [line (ftok (f, 60, [])), line [sF "done"], sF ""]
theorem late_rd {bs : List Nat} {f t : Nat} (h1 : bs.length = 40) (h2 : ∀ b ∈ bs, b = 0 ∨ b = 1) (h3 : f < 40) (h4 : 60 < t) (h5 : t < 1000000000) : TxOk (Txt.join nl (lateL bs f t)) ∧ rdT (Txt.join nl (lateL bs f t)) = .many 5 (sF "beats") t := by
  have hl : Lns 300 (lateL bs f t) := (lns_head (by have := (num_len (k := 40) (by decide)).2; omega) (by decide) (by omega) h2).app (.cons (lns_fall (by omega) h5 (by show 0 ≤ 40; decide) fun y hy => (by cases hy)) lns_done)
  have hne : lateL bs f t ≠ [] := by unfold lateL headL; simp
  refine ⟨txOk (hl.mono (by decide)) hne (by unfold lateL headL; show 7 ≤ 100; decide), ?_⟩
  rw [rdT_lines hl hne]
  unfold lateL
  rw [run_head (by decide) (by decide) h1 h2, run_two, step4 (fall_ndone _), words_fall]
  have e0 : rF0 40 [] (ftok (f, t, [])) = .ok (f, t, []) := by
    show (if sF "fall" = sF "fall" then rF1 40 [] (dig (num f)) (dig (num t)) (lotP (lotT [])) else .error (.w (sF "form"))) = _
    rw [if_pos rfl, dig_small (by omega), dig_num (by rw [TL.len_tl, num_tl]; exact TL.numL_len (by decide) h5), lotP_lotT [] fun y hy => (by cases hy)]
    show (if t = 0 ∨ none ∈ ([] : List (Option Nat)) then .error (.w (sF "form")) else (rG 40 [] f []).map fun l => (f, t, l)) = _
    rw [if_neg (fun z => z.elim (by omega) (fun z => by cases z))]
    have eG : rG 40 [] f [] = .ok [] := by
      unfold rG
      rw [if_neg (fun z => z.elim (by omega) fun ⟨y, hy, _⟩ => by cases hy), if_neg (fun z => z.elim (fun z => by cases z) fun z => z List.nodup_nil), if_neg (fun z => z.elim (fun z => by cases z) fun z => by cases z), srt_eq (l := []) (List.Perm.refl _) List.Pairwise.nil]
    rw [eG]
    rfl
  have e1 : rF 40 1 [] (ftok (f, t, [])) = .error (.m (sF "beats") t) := by
    unfold rF
    rw [e0]
    dsimp only
    rw [if_neg (by show ¬ 1 ≤ 0; decide), if_pos h4]
  dsimp only
  rw [e1]
  rfl
theorem wide_rd {bs : List Nat} {f n : Nat} (h1 : bs.length = 40) (h2 : ∀ b ∈ bs, b = 0 ∨ b = 1) (h3 : f < 40) (h4 : 40 < n) (h5 : n < 1000000000) : TxOk (Txt.join nl (wideL bs f n)) ∧ rdT (Txt.join nl (wideL bs f n)) = .many 2 (sF "houses") n := by
  have hn9 : (num n).length ≤ 9 := by rw [TL.len_tl, num_tl]; exact TL.numL_len (by decide) h5
  have hl : Lns 300 (wideL bs f n) := (lns_head hn9 (by decide) (by omega) h2).app (.cons (lns_fall (by omega) (by decide) (by show 0 ≤ 40; decide) fun y hy => (by cases hy)) lns_done)
  have hne : wideL bs f n ≠ [] := by unfold wideL headL; simp
  refine ⟨txOk (hl.mono (by decide)) hne (by unfold wideL headL; show 7 ≤ 100; decide), ?_⟩
  rw [rdT_lines hl hne]
  unfold wideL headL
  show RS.run ⟨0, ⟨0, 0, [], []⟩⟩ 1 (line [sF "falls"] :: line [sF "houses", num n] :: line [sF "most", num 1] :: _) = _
  rw [run_falls, run_houses hn9 (by omega), if_pos h4]
def sp_law_edges (T : Txt K mg) : SpD := fun ds M Q => ∃ b c, ds = [.cell b] ∧ BoxAt M b c ∧ ClosedM M ∧ ∀ M', BxR b c M M' → Q (.bl true) M'
theorem len_law_edges (T : Txt K mg) : ∀ ds M Q, sp_law_edges T ds M Q → ds.length = 1 := by
  rintro _ _ _ ⟨_, _, rfl, _⟩; rfl
theorem due4 (r : RR) : okSame 4 (dueD r) := by
  cases r with
  | ok W => trivial
  | bad ln w => exact ⟨by show 5 ≤ 1000; decide, fun y hy => by
      simp only [List.mem_cons, List.not_mem_nil, or_false] at hy
      rcases hy with rfl | rfl | rfl | rfl | rfl <;> trivial⟩
  | many ln w k => exact ⟨by show 5 ≤ 1000; decide, fun y hy => by
      simp only [List.mem_cons, List.not_mem_nil, or_false] at hy
      rcases hy with rfl | rfl | rfl | rfl | rfl <;> trivial⟩
theorem log_big {k : Nat} (h : k < 100000) : ((k : Nat) : Int).natAbs.log2 < 1920 := by
  show k.log2 < 1920
  have hk : k < 2 ^ 17 := by omega
  by_cases h0 : k = 0
  · subst h0; decide
  · have := (Nat.log2_lt h0).mpr hk
    omega
theorem ok_law_edges (T : Txt K mg) : FnD P w K mg base 8 T.law_edges.f T.law_edges.fd ["box"] (sp_law_edges T) := okDk T.law_edges.F sc_law_edges (len_law_edges T) (fun cdv A outer s H E hr =>
        (dss_cons (ds_par3 (i := 1) (j := 2) (l := 3) rfl sc_law_edges.nd rfl rfl rfl (by decide) (by decide) (by decide) rfl rfl rfl (de_join de_str (de_lc (own := [("i", 4)]) rfl sc_law_edges.nd (di_rng1 (by rfl) T.b_range de_int) (blkOk_by (by kernel_rfl)) (fun _ _ _ _ _ => pg_name (i := 4) sc_law_edges.nd rfl (by first | exact Or.inl rfl | exact Or.inr rfl)) (gw_name (by decide)) (fun _ _ _ _ _ => dts_nil) (fun _ _ _ _ _ => (de_callTy c_str (by rfl) T.b_str boot_str (da_cons (de_call (ok_law_take T) (hr.mono (by decide)) (by rfl) T.law_take.g T.law_take.F.kp T.law_take.b (da_cons (dv 0) (da_cons de_int da_nil))) da_nil))))) (de_call (ok_law_take T) (hr.mono (by decide)) (by rfl) T.law_take.g T.law_take.F.kp T.law_take.b (da_cons (dv 0) (da_cons de_int da_nil))) (de_call (ok_law_take T) (hr.mono (by decide)) (by rfl) T.law_take.g T.law_take.F.kp T.law_take.b (da_cons (dv 0) (da_cons de_int da_nil))))
      (dss_cons (ds_set (i := 5) sc_law_edges.nd (de_lst (da_cons de_str (da_cons de_str (da_cons de_str (da_cons (de_op o_cats de_str (dv 1)) (da_cons (de_op o_cats (de_op o_cats de_str (de_callTy c_str (by rfl) T.b_str boot_str (da_cons (dv 2) da_nil))) de_str) (da_cons de_str (da_cons de_str da_nil)))))))))
      (dss_cons (ds_set (i := 6) sc_law_edges.nd (de_make T.FallRun.mk (ok_FallRun_init T).d (hr.mono (by decide)) (by rfl) T.FallRun.g T.FallRun.init.b (da_cons (de_join de_str (dv 5)) da_nil)))
      (dss_cons (ds_if (dt_not (dt_val (de_call (ok_law_same T) (hr.mono (by decide)) (by rfl) T.law_same.g T.law_same.F.kp T.law_same.b (da_cons (de_tup (da_cons (de_fld T.FallRun.cl T.FallRun.n_text (dv 6)) (da_cons (de_fld T.FallRun.cl T.FallRun.n_houses (dv 6)) (da_cons (de_fld T.FallRun.cl T.FallRun.n_most (dv 6)) (da_cons (de_meth0 (dv 6) T.FallRun.cl T.FallRun.fallen.me (ok_FallRun_fallen T) (hr.mono (by decide)) T.FallRun.fallen.b) da_nil))))) (da_cons (de_tup (da_cons (de_join de_str (dv 5)) (da_cons de_int (da_cons de_int (da_cons (de_dispK (dv 2) (de_tup (da_cons de_int (da_cons (de_tup da_nil) da_nil)))) da_nil))))) da_nil))))) (dss_one (ds_ret de_bl)) dss_nil)
      (dss_cons (ds_set (i := 7) sc_law_edges.nd (de_op o_catl (de_op o_catl (de_sl (dv 5) do_none (do_some de_int)) (de_lst (da_cons (de_op o_cats (de_op o_cats (de_op o_cats (de_op o_cats de_str (de_callTy c_str (by rfl) T.b_str boot_str (da_cons (dv 2) da_nil))) de_str) (de_callTy c_str (by rfl) T.b_str boot_str (da_cons (de_op o_add de_int (dv 3)) da_nil))) de_str) da_nil))) (de_sl (dv 5) (do_some de_int) do_none)))
      (dss_cons (ds_set (i := 8) sc_law_edges.nd (de_op o_catl (de_lst (da_cons de_str (da_cons (de_op o_cats de_str (de_callTy c_str (by rfl) T.b_str boot_str (da_cons (de_op o_add de_int (dv 3)) da_nil))) da_nil))) (de_sl (dv 5) (do_some de_int) do_none)))
      (dss_cons (ds_set (i := 9) sc_law_edges.nd (de_tup (da_cons (de_call (ok_law_refused T) (hr.mono (by decide)) (by rfl) T.law_refused.g T.law_refused.F.kp T.law_refused.b (da_cons (de_join de_str (dv 7)) da_nil)) (da_cons (de_call (ok_law_refused T) (hr.mono (by decide)) (by rfl) T.law_refused.g T.law_refused.F.kp T.law_refused.b (da_cons (de_join de_str (dv 8)) da_nil)) da_nil))))
      (dss_one (ds_ret (de_call (ok_law_same T) (hr.mono (by decide)) (by rfl) T.law_same.g T.law_same.F.kp T.law_same.b (da_cons (dv 9) (da_cons (de_tup (da_cons (de_tup (da_cons de_str (da_cons de_str (da_cons (de_op o_add de_int (dv 3)) (da_cons de_bl (da_cons de_bl da_nil)))))) (da_cons (de_tup (da_cons de_str (da_cons de_str (da_cons (de_op o_add de_int (dv 3)) (da_cons de_bl (da_cons de_bl da_nil)))))) da_nil))) da_nil)))))))))))))
      (by
    rintro _ M Q ⟨b, c, rfl, hbx, hcl, q⟩
    have hb := big
    refine seq_cut (fun ρ' M' => ∃ (bs : List Nat) (f m : Nat), bs.length = 40 ∧ (∀ x ∈ bs, x = 0 ∨ x = 1) ∧ f < 40 ∧ m < 1000 ∧ BxR b c M M' ∧ ρ' = [some (.cell b), some (.str (Txt.join spc (bs.map num))), some (dN f), some (dN m), none, none, none, none, none, none]) (fun N hN => ?_) ?_
    · conv => whnf
      refine ⟨⟨by decide, by decide⟩, ?_⟩
      refine ⟨by show (40 : Nat) ≤ _; decide, fun i acc M' => ∃ bs : List Nat, acc = bs.map (fun x => D.str (num x)) ∧ bs.length = i ∧ (∀ x ∈ bs, x = 0 ∨ x = 1) ∧ BxR b c M M', ⟨[], rfl, rfl, fun x hx => (by cases hx), BxR.refl hbx⟩, ?_, ?_⟩
      · rintro i d acc M1 hd _ ⟨bs, rfl, hl, h01, hM1⟩
        obtain ⟨k, hk, rfl⟩ : ∃ k, k < 40 ∧ d = dN k := by
          have h40 : (rngD 0 40) = (List.range 40).map dN := rngD_map 40
          have hd' : ((List.range 40).map dN)[i]? = some d := by rw [← h40]; exact hd
          rw [List.getElem?_map] at hd'
          cases e : (List.range 40)[i]? with
          | none => rw [e] at hd'; cases hd'
          | some k =>
            rw [e] at hd'
            cases hd'
            exact ⟨k, List.mem_range.mp (List.mem_of_getElem? e), rfl⟩
        refine ⟨[some (.cell b), none, none, none, some (dN k), none, none, none, none, none], rfl, ?_⟩
        refine dT rfl ?_
        conv => whnf
        refine ⟨b, c, 2, rfl, hM1.1, by decide, by decide, fun r M2 hr hM2 => ?_⟩
        conv => whnf
        refine ⟨log_small (by omega), ?_⟩
        refine ⟨bs ++ [r], by rw [List.map_append]; rfl, by rw [List.length_append, hl]; rfl, fun x hx => ?_, hM1.trans hM2⟩
        rcases List.mem_append.mp hx with hx | hx
        · exact h01 x hx
        · rw [List.mem_singleton.mp hx]; omega
      · rintro acc M1 _ ⟨bs, rfl, hl, h01, hM1⟩
        have hl' : bs.length = 40 := hl
        have hnum : ∀ x ∈ bs, (num x).length ≤ 3 := fun x hx => (num_len (by rcases h01 x hx with rfl | rfl <;> decide)).2
        refine ⟨bs.map num, .inl (by rw [List.map_map]; rfl), ?_, ?_⟩
        · rw [List.map_map, List.length_map]
          have h1 := sum_le (fun x => (num x).length) 3 bs hnum
          have h2 : (Str.ofString " ").length = 1 := wl " "
          rw [h2]
          have h3 : (bs.map ((fun x => x.length) ∘ num)).sum ≤ bs.length * 3 := h1
          omega
        conv => whnf
        refine ⟨b, c, 40, rfl, hM1.1, by decide, by decide, fun f M2 hf hM2 => ?_⟩
        conv => whnf
        refine ⟨b, c, 1000, rfl, hM2.1, by decide, by decide, fun m M3 hm hM3 => ?_⟩
        exact hN _ _ ⟨bs, f, m, hl', h01, hf, hm, (hM1.trans hM2).trans hM3, rfl⟩
    rintro _ M1 ⟨bs, f, m, hl, h01, hf, hm, hM1, rfl⟩
    have hcl1 := hcl.box hM1
    have hbne : bs ≠ [] := by rintro rfl; cases hl
    have ok := edW_ok hl h01 hf
    have hrd := told_rd ok (edG_told (bs := bs) (f := f))
    have htx := told_tx ok (edG_told (bs := bs) (f := f))
    have hlns := told_lns ok (edG_told (bs := bs) (f := f))
    have e40 := edL_eq hbne f
    rw [← e40] at hrd htx hlns
    have hnum : ∀ x ∈ bs, (num x).length ≤ 3 := fun x hx => (num_len (by rcases h01 x hx with rfl | rfl <;> decide)).2
    have hbl : (Txt.join spc (bs.map num)).length ≤ 1000 := by
      have h0 := join_len spc (bs.map num)
      rw [List.map_map, List.length_map] at h0
      have h1 := sum_le (fun x => (num x).length) 3 bs hnum
      have h2 : spc.length = 1 := wl " "
      rw [h2] at h0
      have h3 : (bs.map ((fun x => x.length) ∘ num)).sum ≤ bs.length * 3 := h1
      omega
    have nf := num_len2 (k := f) (by omega)
    have w1 := wlen "begins " (by decide)
    have w2 := wlen "fall " (by decide)
    have w3 := wlen " 60 -" (by decide)
    generalize hbt : Txt.join spc (bs.map num) = bt at *
    refine seq_cut (fun ρ' M' => M1 = M' ∧ ρ' = [some (.cell b), some (.str bt), some (dN f), some (dN m), none, some (.lst ((edL bs f).map .str)), none, none, none, none]) (fun N hN => ?_) ?_
    · conv => whnf
      refine And.intro (show _ + bt.length ≤ _ by omega) ?_
      conv => whnf
      refine ⟨log_small (by omega), ?_⟩
      refine And.intro (show _ + (num f).length ≤ _ by omega) ?_
      refine And.intro (show (_ ++ num f).length + _ ≤ _ by rw [app_len]; omega) ?_
      conv => whnf
      refine ⟨lines _ (by show 7 ≤ _; omega), ?_⟩
      refine hN _ _ ⟨rfl, ?_⟩
      unfold edL
      rw [hbt]
      rfl
    rintro _ _ ⟨rfl, rfl⟩
    have hjc := join_cond hlns (by show 7 * 301 ≤ _; decide)
    refine seq_cut (fun ρ' M' => M1 = M' ∧ ∃ R : Run (edW bs f), R.tx = Txt.join nl (edL bs f) ∧ R.fs = [(f, 60, [])] ∧ ρ' = [some (.cell b), some (.str bt), some (dN f), some (dN m), none, some (.lst ((edL bs f).map .str)), some (R.d T.FallRun.C), none, none, none]) (fun N hN => ?_) ?_
    · conv => whnf
      refine ⟨edL bs f, .inl rfl, by show _ + _ * nl.length ≤ _; omega, ?_⟩
      conv => whnf
      intro p hp
      refine .inl ⟨p, _, M1, rfl, hp, rfl, hcl1, htx, ?_⟩
      show rdX T _ M1 (rdT (Txt.join nl (edL bs f))) _
      rw [hrd]
      intro sf hsf hso R hR
      refine ⟨rfl, _, updM_same, ?_⟩
      rw [delM_updM hp]
      have es : sf = [(f, 60, [])] := List.perm_singleton.mp hsf
      subst es
      refine hN _ _ ⟨rfl, R, ?_, srt_key R.srt hso fun x => R.mem x, rfl⟩
      rw [hR, e40]
      exact wtext_told (edW bs f) [(f, 60, [])]
    rintro _ _ ⟨rfl, R, hR, hRf, rfl⟩
    have xo : okSame 5 (.tup [.str (Txt.join nl (edL bs f)), dN 40, dN 1, sfD [(f, 60, [])]]) := by
      refine ⟨by show 4 ≤ 1000; decide, fun y hy => ?_⟩
      simp only [List.mem_cons, List.not_mem_nil, or_false] at hy
      rcases hy with rfl | rfl | rfl | rfl
      · trivial
      · trivial
      · trivial
      · exact sfD_ok (sf := [(f, 60, [])]) (by show 1 ≤ 1000; decide) (show ([f] : List Nat).Nodup from List.nodup_cons.mpr ⟨List.not_mem_nil, List.nodup_nil⟩) (fun x hx => by rw [List.mem_singleton.mp hx]; show 0 ≤ 1000; decide) 0
    refine seq_cut (fun ρ' M' => M1 = M' ∧ ρ' = [some (.cell b), some (.str bt), some (dN f), some (dN m), none, some (.lst ((edL bs f).map .str)), some (R.d T.FallRun.C), none, none, none]) (fun N hN => ?_) ?_
    · conv => whnf
      refine ⟨rfl, _, f_text, ?_⟩
      conv => whnf
      refine ⟨rfl, _, f_houses, ?_⟩
      conv => whnf
      refine ⟨rfl, _, by rfl, ?_⟩
      conv => whnf
      refine ⟨rfl, by decide, ?_⟩
      refine ⟨edW bs f, R, rfl, by rw [hRf]; show 1 ≤ 1000; decide, .inr ?_⟩
      conv => whnf
      refine ⟨lines _ (by show 4 ≤ _; omega), ?_⟩
      conv => whnf
      refine ⟨edL bs f, .inl rfl, by show _ + _ * nl.length ≤ _; omega, ?_⟩
      conv => whnf
      refine ⟨lines _ (by show 0 ≤ _; omega), ?_⟩
      conv => whnf
      refine ⟨lines _ (by show 2 ≤ _; omega), ?_⟩
      conv => whnf
      refine ⟨lines _ (by show 4 ≤ _; omega), ?_⟩
      conv => whnf
      rw [hR, hRf]
      refine ⟨.tup [.str (Txt.join nl (edL bs f)), dN 40, dN 1, sfD [(f, 60, [])]], rfl, xo, ?_⟩
      refine dF rfl ?_
      exact hN _ _ ⟨rfl, rfl⟩
    rintro _ _ ⟨rfl, rfl⟩
    have ed4 : (edL bs f).take 4 = headL 40 1 bs := by rw [e40]; rfl
    have ed5 : (edL bs f).drop 5 = [line [sF "done"], sF ""] := by rw [e40]; rfl
    have ed2 : (edL bs f).drop 2 = [line [sF "most", num 1], line (sF "begins" :: bs.map num), line (ftok (f, 60, [])), line [sF "done"], sF ""] := by rw [e40]; rfl
    have c4 : DL.cutD ((edL bs f).map D.str) none (some 4) = (headL 40 1 bs).map D.str := by
      rw [show (4 : Int) = ((4 : Nat) : Int) from rfl, cutS_take, ed4]
    have c5 : DL.cutD ((edL bs f).map D.str) (some 5) none = [.str (line [sF "done"]), .str (sF "")] := by
      rw [show (5 : Int) = ((5 : Nat) : Int) from rfl, cutS_drop, ed5]
      rfl
    have c2 : DL.cutD ((edL bs f).map D.str) (some 2) none = [line [sF "most", num 1], line (sF "begins" :: bs.map num), line (ftok (f, 60, [])), line [sF "done"], sF ""].map D.str := by
      rw [show (2 : Int) = ((2 : Nat) : Int) from rfl, cutS_drop, ed2]
    have ebig : ∀ k : Nat, k < 1000 → ((k : Int) + m) = ((k + m : Nat) : Int) := fun k _ => by omega
    have n61 : (num (61 + m)).length ≤ 9 := by rw [TL.len_tl, num_tl]; exact TL.numL_len (by decide) (by omega)
    have n41 : (num (41 + m)).length ≤ 9 := by rw [TL.len_tl, num_tl]; exact TL.numL_len (by decide) (by omega)
    have w4 := wlen " " (by decide)
    have w5 := wlen " -" (by decide)
    have w6 := wlen "houses " (by decide)
    refine seq_cut (fun ρ' M' => M1 = M' ∧ ρ' = [some (.cell b), some (.str bt), some (dN f), some (dN m), none, some (.lst ((edL bs f).map .str)), some (R.d T.FallRun.C), some (.lst ((lateL bs f (61 + m)).map .str)), none, none]) (fun N hN => ?_) ?_
    · conv => whnf
      rw [c4]
      conv => whnf
      refine ⟨log_small (by omega), ?_⟩
      refine And.intro (show _ + (num f).length ≤ _ by omega) ?_
      refine And.intro (show (_ ++ num f).length + _ ≤ _ by rw [app_len]; omega) ?_
      conv => whnf
      have e61 : (61 : Int) + m = ((61 + m : Nat) : Int) := by omega
      rw [e61]
      refine ⟨log_big (by omega), ?_⟩
      refine And.intro (show ((_ ++ num f) ++ _).length + (num (61 + m)).length ≤ _ by rw [app_len, app_len]; omega) ?_
      refine And.intro (show (((_ ++ num f) ++ _) ++ num (61 + m)).length + _ ≤ _ by rw [app_len, app_len, app_len]; omega) ?_
      conv => whnf
      refine ⟨lines _ (by show 1 ≤ _; omega), ?_⟩
      conv => whnf
      refine ⟨by rw [List.length_map]; show 4 + 1 ≤ _; omega, ?_⟩
      conv => whnf
      rw [c5]
      refine ⟨by rw [List.length_append, List.length_map]; show 4 + 1 + 2 ≤ _; omega, ?_⟩
      refine hN _ _ ⟨rfl, ?_⟩
      unfold lateL
      rw [← ed_f, List.map_append, List.append_assoc]
      rfl
    rintro _ _ ⟨rfl, rfl⟩
    refine seq_cut (fun ρ' M' => M1 = M' ∧ ρ' = [some (.cell b), some (.str bt), some (dN f), some (dN m), none, some (.lst ((edL bs f).map .str)), some (R.d T.FallRun.C), some (.lst ((lateL bs f (61 + m)).map .str)), some (.lst ((wideL bs f (41 + m)).map .str)), none]) (fun N hN => ?_) ?_
    · conv => whnf
      have e41 : (41 : Int) + m = ((41 + m : Nat) : Int) := by omega
      rw [e41]
      refine ⟨log_big (by omega), ?_⟩
      refine And.intro (show _ + (num (41 + m)).length ≤ _ by omega) ?_
      conv => whnf
      refine ⟨lines _ (by show 2 ≤ _; omega), ?_⟩
      conv => whnf
      rw [c2]
      refine ⟨by show 2 + 5 ≤ _; omega, ?_⟩
      refine hN _ _ ⟨rfl, ?_⟩
      have ew : (wideL bs f (41 + m)).map D.str = [D.str (sF "falls"), D.str (sF "houses " ++ num (41 + m))] ++ [line [sF "most", num 1], line (sF "begins" :: bs.map num), line (ftok (f, 60, [])), line [sF "done"], sF ""].map D.str := by
        unfold wideL headL
        rw [show line [sF "falls"] = sF "falls" from l_falls, show line [sF "houses", num (41 + m)] = sF "houses " ++ num (41 + m) from l_two "houses" "houses " (by decide) _]
        rfl
      rw [ew]
      rfl
    rintro _ _ ⟨rfl, rfl⟩
    obtain ⟨l1, l2⟩ := late_rd hl h01 hf (show 60 < 61 + m by omega) (by omega)
    obtain ⟨v1, v2⟩ := wide_rd hl h01 hf (show 40 < 41 + m by omega) (by omega)
    have hlc : ((lateL bs f (61 + m)).map (·.length)).sum + (lateL bs f (61 + m)).length * nl.length ≤ 16000000 := join_cond (B := 300) ((lns_head (by have := (num_len (k := 40) (by decide)).2; omega) (by decide) (by omega) h01).app (.cons (lns_fall (by omega) (by omega) (by show 0 ≤ 40; decide) fun y hy => (by cases hy)) lns_done)) (by show 7 * 301 ≤ _; decide)
    have hwc : ((wideL bs f (41 + m)).map (·.length)).sum + (wideL bs f (41 + m)).length * nl.length ≤ 16000000 := join_cond (B := 300) ((lns_head n41 (by decide) (by omega) h01).app (.cons (lns_fall (by omega) (by decide) (by show 0 ≤ 40; decide) fun y hy => (by cases hy)) lns_done)) (by show 7 * 301 ≤ _; decide)
    refine seq_cut (fun ρ' M' => M1 = M' ∧ ρ' = [some (.cell b), some (.str bt), some (dN f), some (dN m), none, some (.lst ((edL bs f).map .str)), some (R.d T.FallRun.C), some (.lst ((lateL bs f (61 + m)).map .str)), some (.lst ((wideL bs f (41 + m)).map .str)), some (.tup [dueD (.many 5 (sF "beats") (61 + m)), dueD (.many 2 (sF "houses") (41 + m))])]) (fun N hN => ?_) ?_
    · conv => whnf
      refine ⟨lateL bs f (61 + m), .inl rfl, by show _ + _ * nl.length ≤ _; omega, ?_⟩
      conv => whnf
      refine .inl ⟨_, rfl, l1, hcl1, ?_⟩
      conv => whnf
      refine ⟨wideL bs f (41 + m), .inl rfl, by show _ + _ * nl.length ≤ _; omega, ?_⟩
      conv => whnf
      refine .inl ⟨_, rfl, v1, hcl1, ?_⟩
      conv => whnf
      refine ⟨lines _ (by show 2 ≤ _; omega), ?_⟩
      refine hN _ _ ⟨rfl, ?_⟩
      rw [l2, v2]
      rfl
    rintro _ _ ⟨rfl, rfl⟩
    have e61 : (61 : Int) + m = ((61 + m : Nat) : Int) := by omega
    have e41 : (41 : Int) + m = ((41 + m : Nat) : Int) := by omega
    conv => whnf
    refine ⟨lines _ (by show 5 ≤ _; omega), ?_⟩
    conv => whnf
    refine ⟨lines _ (by show 5 ≤ _; omega), ?_⟩
    conv => whnf
    refine ⟨lines _ (by show 2 ≤ _; omega), ?_⟩
    conv => whnf
    dsimp only
    rw [e61, e41]
    refine ⟨.tup [dueD (.many 5 (sF "beats") (61 + m)), dueD (.many 2 (sF "houses") (41 + m))], rfl, ?_, ret_ok (q M1 hM1)⟩
    refine ⟨by show 2 ≤ 1000; decide, fun y hy => ?_⟩
    simp only [List.mem_cons, List.not_mem_nil, or_false] at hy
    rcases hy with rfl | rfl
    · exact due4 _
    · exact due4 _
)
end
end K85

/-! part G26 -/
set_option maxHeartbeats 0
namespace K85
open PySem PySem.Spec PyProof.Rows L2 DL
section
variable {P : Program} {w : World} {K : PySem.W.Frag} {mg : Str → Option Value} {base : Heap}
def Wd.flip (W : Wd) (k : Nat) : Wd := { W with begins := (List.range W.n).map fun t => if t = k then 1 - W.begins.getD t 0 else W.begins.getD t 0 }
theorem flip_ok {W : Wd} (ok : W.Ok) (k : Nat) : (W.flip k).Ok := by
  refine ⟨ok.n2, ok.n40, ok.ml, by show ((List.range W.n).map _).length = W.n; rw [List.length_map, List.length_range], fun b hb => ?_, ok.nd, ok.len, ok.hn, ok.t1, ok.srt, ok.ln, ok.ll⟩
  obtain ⟨t, ht, rfl⟩ := List.mem_map.mp hb
  have hg : W.begins.getD t 0 = 0 ∨ W.begins.getD t 0 = 1 := by
    have ht' : t < W.begins.length := by rw [ok.bl]; exact List.mem_range.mp ht
    rw [List.getD_eq_getElem?_getD, List.getElem?_eq_getElem ht']
    exact ok.b01 _ (List.getElem_mem ht')
  split <;> omega
theorem flip_ne {W : Wd} (ok : W.Ok) {k : Nat} (hk : k < W.n) : (W.flip k).begins ≠ W.begins := fun e => by
  have h1 : (W.flip k).begins[k]? = W.begins[k]? := by rw [e]
  have hk' : k < W.begins.length := by rw [ok.bl]; exact hk
  have h2 : (W.flip k).begins[k]? = some (1 - W.begins.getD k 0) := by
    show ((List.range W.n).map fun t => if t = k then 1 - W.begins.getD t 0 else W.begins.getD t 0)[k]? = _
    rw [List.getElem?_map, List.getElem?_range hk]
    show some (if k = k then _ else _) = _
    rw [if_pos rfl]
  rw [h2, List.getD_eq_getElem?_getD, List.getElem?_eq_getElem hk'] at h1
  have h3 := Option.some.inj h1
  have := ok.b01 _ (List.getElem_mem hk')
  simp only [Option.getD_some] at h3
  omega
theorem text_ne {W W2 : Wd} (ok : W.Ok) (ok2 : W2.Ok) (h : W2.begins ≠ W.begins) {sf sf2 : List (Nat × Nat × List Nat)} (hp : sf.Perm W.fs) (hp2 : sf2.Perm W2.fs) : wtext (W.re sf) ≠ wtext (W2.re sf2) := fun e => by
  have h1 := own_rd ok hp
  have h2 := own_rd ok2 hp2
  rw [e, h2] at h1
  have h3 : W2.re sf2 = W.re sf := RR.ok.inj h1
  have h4 := congrArg Wd.begins h3
  exact h h4
def bnd : Nat → Nat
  | 0 => 300
  | j + 1 => 2 * bnd j + 20
theorem cut_last1 {ds : List D} {a : D} : DL.cutD (ds ++ [a]) none (some (-1)) = ds := by
  unfold DL.cutD
  have h1 : HT.sIx (ds ++ [a]).length (ds ++ [a]).length (some (-1)) = ds.length := by
    unfold HT.sIx
    dsimp only
    rw [if_pos (by decide), List.length_append]
    show ((-1 : Int) + ((ds.length + 1 : Nat) : Int)).toNat = _
    omega
  rw [h1, HT.sIx_none, List.drop_zero, Nat.sub_zero, List.take_left]
theorem join_nl1 {ls : List Str} (h : ls ≠ []) : Txt.join nl ls ++ sF "\n" = Txt.join nl (ls ++ [sF ""]) := by
  refine TL.ext_tl ?_
  rw [TL.tl_append, tl_join2, tl_join2, List.map_append, show [sF ""].map TL.tl = [[]] from by rw [List.map_cons, tl_empty]; rfl, joinL_snoc _ (fun z => h (List.map_eq_nil_iff.mp z))]
theorem join_nl2 {ls : List Str} (h : ls ≠ []) : Txt.join nl ls ++ sF "\n\n" = Txt.join nl (ls ++ [sF ""] ++ [sF ""]) := by
  rw [← join_nl1 (ls := ls ++ [sF ""]) (by simp), ← join_nl1 h]
  refine TL.ext_tl ?_
  simp only [TL.tl_append, TL.tl_ofString, List.append_assoc]
  rfl
theorem rd_dic (W : Wd) : WDic stks [dN 5, dN W.n, dN W.most, .lst (W.begins.map dN), fsD W.fs] W := ⟨gS_n, gS_most, gS_begins, gS_falls⟩
theorem bl_same {d : Nat} {x : Bool} {M : Mp} {Q : DK} (q : Q (.bl true) M) : sp_law_same (d + 1) [.bl x, .bl x] M Q := ⟨.bl x, rfl, trivial, q⟩
/-- a run is made of a text that is read -/
theorem made (T : Txt K mg) {M : Mp} {p : Addr} {x : Str} {W : Wd} {QD : DK} {XX : XD} (hp : M p = none) (hcl : ClosedM M) (htx : TxOk x) (hr : rdT x = .ok W)
    (k : ∀ sf (R : Run (W.re sf)), sf.Perm W.fs → (sf.map fun x => x.1).Pairwise (· < ·) → R.tx = wtext (W.re sf) → QD .non (updM M p (R.d T.FallRun.C))) :
    sp_FallRun_init T [.cell p, .str x] (updM M p (.ins T.FallRun.C [] [])) QD XX := by
  refine .inl ⟨p, x, M, rfl, hp, rfl, hcl, htx, ?_⟩
  rw [hr]
  intro sf hsf hso R hR
  exact k sf R hsf hso hR
theorem law_walk (T : Txt K mg) {cdv : Value} {A : Around} {outer : List PySem.Env} {s : Shared} {H : Hp} {E : XK} (hr : Room 8 (A.deeper (envOfC "law" (defScope s_law) s.heap.objs.size T.law.f cdv))) :
    ∃ td : DS, PSsD (cxOf CX0 P w K mg base ["script", "box", "world", "turned", "run", "same", "near", "k", "i", "b", "turn", "lines", "change", "bent", "found", "odd"] "law" (defScope s_law) T.law.f cdv A outer s H E).nox ((defBody s_law).drop 1) td ∧
      ∀ (b c : Addr) (M : Mp), BoxAt M b c → (∀ q, q ≠ b → q ≠ c → M q = none) → td endT [none, some (.cell b), none, none, none, none, none, none, none, none, none, none, none, none, none, none] M := by
  refine ⟨_, (dss_cons (ds_set (i := 2) sc_law.nd (de_call (ok_law_fall_world T) (hr.mono (by decide)) (by rfl) T.law_fall_world.g T.law_fall_world.F.kp T.law_fall_world.b (da_cons (dv 1) (da_cons (de_if (dt_cmp o_eq (de_call (ok_law_take T) (hr.mono (by decide)) (by rfl) T.law_take.g T.law_take.F.kp T.law_take.b (da_cons (dv 1) (da_cons de_int da_nil))) de_int) (de_op o_add de_int (de_call (ok_law_take T) (hr.mono (by decide)) (by rfl) T.law_take.g T.law_take.F.kp T.law_take.b (da_cons (dv 1) (da_cons de_int da_nil)))) (de_op o_add de_int (de_call (ok_law_take T) (hr.mono (by decide)) (by rfl) T.law_take.g T.law_take.F.kp T.law_take.b (da_cons (dv 1) (da_cons de_int da_nil))))) da_nil))))
      (dss_freeze (dss_freeze (dss_cons (ds_set (i := 3) sc_law.nd (de_call (ok_law_turned T) (hr.mono (by decide)) (by rfl) T.law_turned.g T.law_turned.F.kp T.law_turned.b (da_cons (dv 1) (da_cons (dv 2) da_nil))))
      (dss_cons (ds_par2 (i := 4) (j := 5) rfl sc_law.nd rfl rfl (by decide) rfl rfl (de_make T.FallRun.mk (ok_FallRun_init T).d (hr.mono (by decide)) (by rfl) T.FallRun.g T.FallRun.init.b (da_cons (dv 3) da_nil)) (de_make T.FallRun.mk (ok_FallRun_init T).d (hr.mono (by decide)) (by rfl) T.FallRun.g T.FallRun.init.b (da_cons (de_call (ok_law_fall_text T) (hr.mono (by decide)) (by rfl) T.law_fall_text.g T.law_fall_text.F.kp T.law_fall_text.b (da_cons (dv 2) da_nil)) da_nil)))
      (dss_cons (ds_if (PWD.pt (dw_or (dt_not (dt_val (de_call (ok_law_shown T) (hr.mono (by decide)) (by rfl) T.law_shown.g T.law_shown.F.kp T.law_shown.b (da_cons (dv 4) (da_cons (dv 2) da_nil))))) (dw_or (dt_not (dt_val (de_call (ok_law_same T) (hr.mono (by decide)) (by rfl) T.law_same.g T.law_same.F.kp T.law_same.b (da_cons (de_cmp (o_eqOwn T.FallRun.eqc (ok_FallRun___eq__ T) (hr.mono (by decide)) T.FallRun.eq_.b) (dv 4) (dv 5)) (da_cons de_bl da_nil))))) (dw_or1 (dt_not (dt_val (de_call (ok_law_same T) (hr.mono (by decide)) (by rfl) T.law_same.g T.law_same.F.kp T.law_same.b (da_cons (de_cmp (o_eqOwn T.FallRun.eqc (ok_FallRun___eq__ T) (hr.mono (by decide)) T.FallRun.eq_.b) (dv 4) (de_fld T.FallRun.cl T.FallRun.n_text (dv 4))) (da_cons de_bl da_nil))))))))) (dss_one (ds_ret de_bl)) dss_nil)
      (dss_cons (ds_asg (de_tup (da_cons (de_callTy c_dictC (by rfl) T.b_dict boot_dict (da_cons (dv 2) da_nil)) (da_cons (de_call (ok_law_take T) (hr.mono (by decide)) (by rfl) T.law_take.g T.law_take.F.kp T.law_take.b (da_cons (dv 1) (da_cons (de_get (hu_of (k := 0) (hr.mono (by decide))) (dv 2) de_str) da_nil))) da_nil))) (dg_tup (n := 2) rfl (dgs_cons (dg_name (i := 6) sc_law.nd) (dgs_cons (dg_name (i := 7) sc_law.nd) dgs_nil))))
      (dss_cons (ds_dput (hu_of (k := 0) (hr.mono (by decide))) (dv 6) de_str (de_lc (own := [("i", 8), ("b", 9)]) rfl sc_law.nd (di_enum (by rfl) T.b_enumerate (de_get (hu_of (k := 0) (hr.mono (by decide))) (dv 2) de_str)) (blkOk_by (by kernel_rfl)) (fun _ _ _ _ _ => pg_tup rfl (pgs_cons (pg_name (i := 8) sc_law.nd rfl (by first | exact Or.inl rfl | exact Or.inr rfl)) (pgs_cons (pg_name (i := 9) sc_law.nd rfl (by first | exact Or.inl rfl | exact Or.inr rfl)) pgs_nil))) (gw_pair (by decide) (by decide)) (fun _ _ _ _ _ => dts_nil) (fun _ _ _ _ _ => (de_if (dt_cmp o_eq (dv 8) (dv 7)) (de_op o_sub de_int (dv 9)) (dv 9)))))
      (dss_freeze (dss_cons (ds_if (PWD.pt (dw_or (dt_not (dt_val (de_call (ok_law_same T) (hr.mono (by decide)) (by rfl) T.law_same.g T.law_same.F.kp T.law_same.b (da_cons (de_cmp (o_eqOwn T.FallRun.eqc (ok_FallRun___eq__ T) (hr.mono (by decide)) T.FallRun.eq_.b) (dv 4) (de_make T.FallRun.mk (ok_FallRun_init T).d (hr.mono (by decide)) (by rfl) T.FallRun.g T.FallRun.init.b (da_cons (de_call (ok_law_fall_text T) (hr.mono (by decide)) (by rfl) T.law_fall_text.g T.law_fall_text.F.kp T.law_fall_text.b (da_cons (dv 6) da_nil)) da_nil))) (da_cons de_bl da_nil))))) (dw_or1 (dt_not (dt_val (de_call (ok_law_shown T) (hr.mono (by decide)) (by rfl) T.law_shown.g T.law_shown.F.kp T.law_shown.b (da_cons (de_make T.FallRun.mk (ok_FallRun_init T).d (hr.mono (by decide)) (by rfl) T.FallRun.g T.FallRun.init.b (da_cons (de_call (ok_law_fall_text T) (hr.mono (by decide)) (by rfl) T.law_fall_text.g T.law_fall_text.F.kp T.law_fall_text.b (da_cons (dv 6) da_nil)) da_nil)) (da_cons (dv 6) da_nil)))))))) (dss_one (ds_ret de_bl)) dss_nil)
      (dss_cons (ds_for PassesOwn.never rfl (di_rng1 (by rfl) T.b_range de_int) (dg_name (i := 10) sc_law.nd) (dss_cons (ds_set (i := 11) sc_law.nd (de_sl (de_split (dv 3) de_str) do_none (do_some (de_neg de_int))))
      (dss_cons (ds_for PassesOwn.never rfl (di_rng1 (by rfl) T.b_range (de_ix (de_lst (da_cons de_int (da_cons de_int (da_cons de_int (da_cons de_int da_nil))))) (dv 10))) (dg_name (i := 12) sc_law.nd) (dss_one (ds_set (i := 11) sc_law.nd (de_call (ok_law_bent T) (hr.mono (by decide)) (by rfl) T.law_bent.g T.law_bent.F.kp T.law_bent.b (da_cons (dv 1) (da_cons (dv 2) (da_cons (dv 11) da_nil)))))))
      (dss_cons (ds_set (i := 13) sc_law.nd (de_op o_cats (de_join de_str (dv 11)) (de_if (dt_cmp o_gt (de_call (ok_law_take T) (hr.mono (by decide)) (by rfl) T.law_take.g T.law_take.F.kp T.law_take.b (da_cons (dv 1) (da_cons de_int da_nil))) de_int) de_str (de_ix (de_lst (da_cons de_str (da_cons de_str da_nil))) (de_call (ok_law_take T) (hr.mono (by decide)) (by rfl) T.law_take.g T.law_take.F.kp T.law_take.b (da_cons (dv 1) (da_cons de_int da_nil)))))))
      (dss_cons (ds_set (i := 14) sc_law.nd (de_call (ok_law_reads T) (hr.mono (by decide)) (by rfl) T.law_reads.g T.law_reads.F.kp T.law_reads.b (da_cons (dv 13) da_nil)))
      (dss_cons (ds_if (dt_not (dt_val (de_call (ok_law_same T) (hr.mono (by decide)) (by rfl) T.law_same.g T.law_same.F.kp T.law_same.b (da_cons (de_call (ok_law_refused T) (hr.mono (by decide)) (by rfl) T.law_refused.g T.law_refused.F.kp T.law_refused.b (da_cons (dv 13) da_nil)) (da_cons (de_call (ok_law_due T) (hr.mono (by decide)) (by rfl) T.law_due.g T.law_due.F.kp T.law_due.b (da_cons (dv 14) da_nil)) da_nil))))) (dss_one (ds_ret de_bl)) dss_nil)
      (dss_one (ds_if (PWD.pt (dw_and (dt_val (de_callB c_isi (by rfl) T.b_isinstance boot_isinstance (da_cons (dv 14) (da_cons (de_ty (by rfl) T.b_dict boot_dict) da_nil)))) (dw_and1 (dt_not (dt_val (de_call (ok_law_shown T) (hr.mono (by decide)) (by rfl) T.law_shown.g T.law_shown.F.kp T.law_shown.b (da_cons (de_make T.FallRun.mk (ok_FallRun_init T).d (hr.mono (by decide)) (by rfl) T.FallRun.g T.FallRun.init.b (da_cons (dv 13) da_nil)) (da_cons (dv 14) da_nil)))))))) (dss_one (ds_ret de_bl)) dss_nil))))))))
      (dss_cons (ds_set (i := 15) sc_law.nd (de_call (ok_law_of T) (hr.mono (by decide)) (by rfl) T.law_of.g T.law_of.F.kp T.law_of.b (da_cons (dv 1) (da_cons (de_lst (da_cons de_non (da_cons de_int (da_cons de_bl (da_cons (de_lst (da_cons (dv 3) da_nil)) (da_cons (de_tup (da_cons de_str da_nil)) (da_cons (de_disp (dpp_cons de_int dpp_nil)) (da_cons (dv 4) da_nil)))))))) da_nil))))
      (dss_cons (ds_if (PWD.pt (dw_or (dt_not (dt_val (de_call (ok_law_same T) (hr.mono (by decide)) (by rfl) T.law_same.g T.law_same.F.kp T.law_same.b (da_cons (de_call (ok_law_refused T) (hr.mono (by decide)) (by rfl) T.law_refused.g T.law_refused.F.kp T.law_refused.b (da_cons (dv 15) da_nil)) (da_cons (de_tup (da_cons de_str (da_cons de_int (da_cons de_str (da_cons de_bl (da_cons de_bl da_nil)))))) da_nil))))) (dw_or1 (dt_cmp o_isnot (de_call (ok_law_refused T) (hr.mono (by decide)) (by rfl) T.law_refused.g T.law_refused.F.kp T.law_refused.b (da_cons (dv 3) da_nil)) de_non)))) (dss_one (ds_ret de_bl)) dss_nil)
      (dss_one (ds_ret (de_and (de_call (ok_law_edges T) (hr.mono (by decide)) (by rfl) T.law_edges.g T.law_edges.F.kp T.law_edges.b (da_cons (dv 1) da_nil)) (de_one (de_call (ok_law_shown T) (hr.mono (by decide)) (by rfl) T.law_shown.g T.law_shown.F.kp T.law_shown.b (da_cons (dv 4) (da_cons (dv 2) da_nil)))))))))))))))))))), ?_⟩
  intro b c M hb hM
  have hbig := big
  have hMx : ∀ {M M' : Mp}, (∀ q, q ≠ b → q ≠ c → M q = none) → BxR b c M M' → ∀ q, q ≠ b → q ≠ c → M' q = none := fun {M M'} h h' q a1 a2 => (h'.2 q a1 a2).trans (h q a1 a2)
  refine seq_cut (fun ρ' M' => ∃ (W : Wd) (w bg fl : Addr) (M0 : Mp), W.Ok ∧ BoxAt M0 b c ∧ (∀ q, q ≠ b → q ≠ c → M0 q = none) ∧ WCells b c w bg fl M0 M' W ∧ ρ' = [none, some (.cell b), some (.cell w), none, none, none, none, none, none, none, none, none, none, none, none, none]) (fun N hN => ?_) ?_
  · conv => whnf
    refine ⟨b, c, 10, rfl, hb, by decide, by decide, fun r M1 hr1 hM1 => ?_⟩
    refine d2 (fun e => ?_) (fun e => ?_)
    · conv => whnf
      refine ⟨b, c, 28, rfl, hM1.1, by decide, by decide, fun r2 M2 hr2 hM2 => ?_⟩
      refine ⟨b, c, 13 + r2, rfl, hM2.1, by omega, by omega, fun W M' w bg fl ok hWn hW => ?_⟩
      exact hN _ _ ⟨W, w, bg, fl, M2, ok, hM2.1, hMx (hMx hM hM1) hM2, hW, rfl⟩
    · conv => whnf
      refine ⟨b, c, 11, rfl, hM1.1, by decide, by decide, fun r2 M2 hr2 hM2 => ?_⟩
      refine ⟨b, c, 2 + r2, rfl, hM2.1, by omega, by omega, fun W M' w bg fl ok hWn hW => ?_⟩
      exact hN _ _ ⟨W, w, bg, fl, M2, ok, hM2.1, hMx (hMx hM hM1) hM2, hW, rfl⟩
  clear hb hM
  rintro _ M1 ⟨W, w, bg, fl, M, ok, hb, hM, hW, rfl⟩
  refine wfreeze hb hM hW (ρ2 := [none, some (.cell b), some (wD W), none, none, none, none, none, none, none, none, none, none, none, none, none]) (fun f h1 h2 h3 => ?_) fun M4 hb4 hM4 => ?_
  · show [none, some (f (.cell b)), some (f (.cell w)), none, none, none, none, none, none, none, none, none, none, none, none, none] = _
    rw [h1, h2]
  clear hW hb hM
  have hn40 := ok.n40
  have hn2 := ok.n2
  refine seq_cut (fun ρ' M' => ∃ gl, Told W gl ∧ BoxAt M' b c ∧ (∀ q, q ≠ b → q ≠ c → M' q = none) ∧ ρ' = [none, some (.cell b), some (wD W), some (.str (Txt.join nl (toldL W gl))), none, none, none, none, none, none, none, none, none, none, none, none]) (fun N hN => ?_) ?_
  · conv => whnf
    refine ⟨b, c, W, rfl, hb4, ok, fun gl M5 htd hM5 => ?_⟩
    exact hN _ _ ⟨gl, htd, hM5.1, hMx hM4 hM5, rfl⟩
  clear hb4 hM4
  rintro _ M4 ⟨gl, htd, hb4, hM4, rfl⟩
  have htx := told_tx ok htd
  have hrd := told_rd ok htd
  have htl := told_lns ok htd
  have htln := told_len ok htd
  have hspl := split_lines htl told_ne
  have htlen := htx.len
  have etl : toldL W gl = (headL W.n W.most W.begins ++ gl.map flL ++ [line [sF "done"]]) ++ [sF ""] := by
    unfold toldL
    simp
  generalize hL0 : headL W.n W.most W.begins ++ gl.map flL ++ [line [sF "done"]] = L0 at etl
  have hL0n : L0 ≠ [] := by rw [← hL0]; simp
  have hL0l : L0.length ≤ 44 := by
    have := congrArg List.length etl
    rw [List.length_append] at this
    have h1 : ([sF ""] : List Str).length = 1 := rfl
    omega
  have hL0b : Lns 300 L0 := htl.sub fun l hl => by rw [etl]; exact List.mem_append_left _ hl
  generalize hTx : Txt.join nl (toldL W gl) = tx at *
  refine seq_cut (fun ρ' M' => M4 = M' ∧ ∃ (sf : List (Nat × Nat × List Nat)) (R : Run (W.re sf)) (R2 : Run (W.re sf)), sf.Perm W.fs ∧ (sf.map fun x => x.1).Pairwise (· < ·) ∧ R.tx = wtext (W.re sf) ∧ R2.tx = wtext (W.re sf) ∧ ρ' = [none, some (.cell b), some (wD W), some (.str tx), some (R.d T.FallRun.C), some (R2.d T.FallRun.C), none, none, none, none, none, none, none, none, none, none]) (fun N hN => ?_) ?_
  · conv => whnf
    intro p hp
    refine made T hp (closed0 hb4 hM4) htx hrd fun sf R hsf hso hR => ⟨rfl, _, updM_same, ?_⟩
    rw [delM_updM hp]
    conv => whnf
    refine ⟨W, wks, _, rfl, wD_dic W, ok, fun sf2 hsf2 hso2 => ?_⟩
    intro p2 hp2
    refine made T hp2 (closed0 hb4 hM4) (own_tx ok hsf2) (own_rd ok hsf2) fun sf3 R2 hsf3 hso3 hR2 => ⟨rfl, _, updM_same, ?_⟩
    rw [delM_updM hp2]
    have hsf' : sf.Perm W.fs := hsf.trans htd.fs
    have hsf3' : sf3.Perm W.fs := hsf3.trans hsf2
    have es : sf3 = sf := srt_key hso3 hso fun x => hsf3'.mem_iff.trans hsf'.mem_iff.symm
    subst es
    exact hN _ _ ⟨rfl, sf3, R, R2, hsf', hso, hR, hR2, rfl⟩
  rintro _ _ ⟨rfl, sf, R, R2, hsf, hso, hR, hR2, rfl⟩
  have shown : ∀ {M : Mp} {Q : DK}, Q (.bl true) M → sp_law_shown T [R.d T.FallRun.C, wD W] M Q := fun {M Q} q => ⟨W, sf, R, wks, _, rfl, wD_dic W, ok, hsf, hso, hR, q⟩
  refine seq_cut (fun ρ' M' => M4 = M' ∧ ρ' = [none, some (.cell b), some (wD W), some (.str tx), some (R.d T.FallRun.C), some (R2.d T.FallRun.C), none, none, none, none, none, none, none, none, none, none]) (fun N hN => ?_) ?_
  · conv => whnf
    refine ⟨W, sf, R, wks, _, rfl, wD_dic W, ok, hsf, hso, hR, ?_⟩
    refine dF rfl ?_
    conv => whnf
    refine ⟨⟨_, _, rfl⟩, .inl ⟨_, _, rfl⟩, ?_⟩
    refine ⟨_, R, .inl ⟨_, R2, rfl, _, rfl, ?_⟩⟩
    conv => whnf
    rw [hR, hR2, decide_eq_true rfl]
    refine ⟨.bl true, rfl, trivial, ?_⟩
    refine dF rfl ?_
    conv => whnf
    refine ⟨rfl, _, f_text, ?_⟩
    conv => whnf
    refine ⟨⟨_, _, rfl⟩, .inr ⟨_, rfl⟩, ?_⟩
    refine ⟨_, R, .inr ⟨_, rfl, _, rfl, ?_⟩⟩
    conv => whnf
    refine ⟨.bl false, rfl, trivial, ?_⟩
    refine dF rfl ?_
    exact hN _ _ ⟨rfl, rfl⟩
  rintro _ _ ⟨rfl, rfl⟩
  refine seq_cut (fun ρ' M' => ∃ np k, M4 np = none ∧ k < W.n ∧ BoxAt M' b c ∧ (∀ q, q ≠ b → q ≠ c → q ≠ np → M' q = none) ∧ np ≠ b ∧ np ≠ c ∧ M' np = some (wD W) ∧ ρ' = [none, some (.cell b), some (wD W), some (.str tx), some (R.d T.FallRun.C), some (R2.d T.FallRun.C), some (.cell np), some (dN k), none, none, none, none, none, none, none, none]) (fun N hN => ?_) ?_
  · conv => whnf
    intro np hnp
    obtain ⟨p1, p2⟩ := hb4.fresh hnp
    conv => whnf
    refine ⟨_, gW_n, ?_⟩
    conv => whnf
    refine ⟨b, c, W.n, rfl, hb4.other p1 p2, by omega, by omega, fun k M5 hk hM5 => ?_⟩
    conv => whnf
    refine ⟨lines _ (by show 2 ≤ _; omega), ?_⟩
    conv => whnf
    refine ⟨rfl, ?_⟩
    exact hN _ _ ⟨np, k, hnp, hk, hM5.1, fun q a1 a2 a3 => by rw [hM5.2 q a1 a2, updM_ne a3]; exact hM4 q a1 a2, p1, p2, by rw [hM5.2 np p1 p2]; exact updM_same, rfl⟩
  clear hb4 hM4
  rintro _ M5 ⟨np, k, hnp, hk, hb5, hM5, p1, p2, g5, rfl⟩
  have ok2 := flip_ok ok k
  have hbl := ok.bl
  refine seq_cut (fun ρ' M' => M' = updM M5 np (wD (W.flip k)) ∧ ρ' = [none, some (.cell b), some (wD W), some (.str tx), some (R.d T.FallRun.C), some (R2.d T.FallRun.C), some (.cell np), some (dN k), none, none, none, none, none, none, none, none]) (fun N hN => ?_) ?_
  · conv => whnf
    refine ⟨_, gW_begins, ?_⟩
    conv => whnf
    refine lc_m (List.range W.n) (fun t => .tup [dN t, dN (W.begins.getD t 0)]) (fun t => [none, some (.cell b), some (wD W), some (.str tx), some (R.d T.FallRun.C), some (R2.d T.FallRun.C), some (.cell np), some (dN k), some (dN t), some (dN (W.begins.getD t 0)), none, none, none, none, none, none]) (fun t => dN (if t = k then 1 - W.begins.getD t 0 else W.begins.getD t 0)) ?_ (by rw [List.length_range]; omega) (fun _ _ => rfl) (fun t ht K hK => ?_) ?_
    · refine List.ext_getElem? fun j => ?_
      rw [List.getElem?_mapIdx, List.getElem?_map, List.getElem?_map]
      by_cases hj : j < W.n
      · have hj' : j < W.begins.length := by rw [hbl]; exact hj
        rw [List.getElem?_range hj, List.getElem?_eq_getElem hj', Option.map_some, Option.map_some, Option.map_some, List.getD_eq_getElem?_getD, List.getElem?_eq_getElem hj']
        rfl
      · rw [List.getElem?_eq_none (by omega), List.getElem?_eq_none (by rw [List.length_range]; omega)]
        rfl
    · have ht' : t < W.begins.length := by rw [hbl]; exact List.mem_range.mp ht
      have hg : W.begins.getD t 0 = 0 ∨ W.begins.getD t 0 = 1 := by
        rw [List.getD_eq_getElem?_getD, List.getElem?_eq_getElem ht']
        exact ok.b01 _ (List.getElem_mem ht')
      refine d2 (fun e => ?_) (fun e => ?_)
      · have e' : t = k := by have : (t : Int) = k := e; omega
        rw [if_pos e'] at hK
        have e2 : (1 : Int) - (W.begins.getD t 0 : Nat) = ((1 - W.begins.getD t 0 : Nat) : Int) := by omega
        show K (.int ((1 : Int) - (W.begins.getD t 0 : Nat))) _
        rw [e2]
        exact hK
      · have e' : ¬ t = k := by have : ¬ (t : Int) = k := e; omega
        rw [if_neg e'] at hK
        exact hK
    · conv => whnf
      refine ⟨_, _, g5, by decide +kernel, by show 4 < _; omega, ?_⟩
      refine hN _ _ ⟨?_, rfl⟩
      congr 1
      show _ = D.dic wks [dN W.n, dN W.most, .lst (((List.range W.n).map fun t => if t = k then 1 - W.begins.getD t 0 else W.begins.getD t 0).map dN), fsD W.fs]
      rw [List.map_map]
      rfl
  rintro _ _ ⟨rfl, rfl⟩
  refine freeze1 (b := b) (c := c) (p := np) (hb5.other p1 p2) (fun q a1 a2 a3 => by rw [updM_ne a3]; exact hM5 q a1 a2 a3) updM_same p1 p2 fun f g1 g2 g3 M6 hb6 hM6 => ?_
  rw [show List.map (Option.map f) [none, some (.cell b), some (wD W), some (.str tx), some (R.d T.FallRun.C), some (R2.d T.FallRun.C), some (.cell np), some (dN k), none, none, none, none, none, none, none, none] = [none, some (.cell b), some (wD W), some (.str tx), some (R.d T.FallRun.C), some (R2.d T.FallRun.C), some (wD (W.flip k)), some (dN k), none, none, none, none, none, none, none, none] from by
    show [none, some (f (.cell b)), some (f (wD W)), some (f (.str tx)), some (f (R.d T.FallRun.C)), some (f (R2.d T.FallRun.C)), some (f (.cell np)), some (f (dN k)), none, none, none, none, none, none, none, none] = _
    rw [g1, g2, g3 (wD W) rfl, g3 (.str tx) rfl, g3 (R.d T.FallRun.C) rfl, g3 (R2.d T.FallRun.C) rfl, g3 (dN k) rfl]]
  clear hb5 hM5 g5 g1 g2 g3
  generalize hW2 : W.flip k = W2 at *
  have hW2b : W2.begins ≠ W.begins := by rw [← hW2]; exact flip_ne ok hk
  refine seq_cut (fun ρ' M' => M6 = M' ∧ ρ' = [none, some (.cell b), some (wD W), some (.str tx), some (R.d T.FallRun.C), some (R2.d T.FallRun.C), some (wD W2), some (dN k), none, none, none, none, none, none, none, none]) (fun N hN => ?_) ?_
  · conv => whnf
    refine ⟨W2, wks, _, rfl, wD_dic W2, ok2, fun sfa hsfa hsoa => ?_⟩
    intro p hp
    refine made T hp (closed0 hb6 hM6) (own_tx ok2 hsfa) (own_rd ok2 hsfa) fun sfb R3 hsfb hsob hR3 => ⟨rfl, _, updM_same, ?_⟩
    rw [delM_updM hp]
    have hsfb' : sfb.Perm W2.fs := hsfb.trans hsfa
    refine ⟨⟨_, _, rfl⟩, .inl ⟨_, _, rfl⟩, ?_⟩
    refine ⟨_, R, .inl ⟨_, R3, rfl, _, rfl, ?_⟩⟩
    conv => whnf
    have hne3 : R.tx ≠ R3.tx := by
      rw [hR, hR3]
      exact text_ne ok ok2 hW2b hsf hsfb'
    rw [decide_eq_false hne3]
    refine ⟨.bl false, rfl, trivial, ?_⟩
    refine dF rfl ?_
    conv => whnf
    refine ⟨W2, wks, _, rfl, wD_dic W2, ok2, fun sfc hsfc hsoc => ?_⟩
    intro p3 hp3
    refine made T hp3 (closed0 hb6 hM6) (own_tx ok2 hsfc) (own_rd ok2 hsfc) fun sfd R4 hsfd hsod hR4 => ⟨rfl, _, updM_same, ?_⟩
    rw [delM_updM hp3]
    conv => whnf
    refine ⟨W2, sfd, R4, wks, _, rfl, wD_dic W2, ok2, hsfd.trans hsfc, hsod, hR4, ?_⟩
    refine dF rfl ?_
    exact hN _ _ ⟨rfl, rfl⟩
  rintro _ _ ⟨rfl, rfl⟩
  refine seq_cut (fun ρ' M' => BoxAt M' b c ∧ (∀ q, q ≠ b → q ≠ c → M' q = none) ∧ ∃ z10 z11 z12 z13 z14, ρ' = [none, some (.cell b), some (wD W), some (.str tx), some (R.d T.FallRun.C), some (R2.d T.FallRun.C), some (wD W2), some (dN k), none, none, z10, z11, z12, z13, z14, none]) (fun N hN => ?_) ?_
  · conv => whnf
    refine ⟨⟨by decide, by decide⟩, ?_⟩
    refine loop_l (List.range 4) dN rfl (fun t ρ' M' => BoxAt M' b c ∧ (∀ q, q ≠ b → q ≠ c → M' q = none) ∧ ∃ z10 z11 z12 z13 z14, ρ' = [none, some (.cell b), some (wD W), some (.str tx), some (R.d T.FallRun.C), some (R2.d T.FallRun.C), some (wD W2), some (dN k), none, none, z10, z11, z12, z13, z14, none]) ⟨hb6, hM6, _, _, _, _, _, rfl⟩ ?_ ?_
    · clear hb6 hM6
      rintro t x _ M6 ex hx ⟨hb6, hM6, z10, z11, z12, z13, z14, rfl⟩
      have hx4 : x < 4 := List.mem_range.mp hx
      dsimp only [dName, List.set]
      refine seq_cut (fun ρ' M' => M6 = M' ∧ ρ' = [none, some (.cell b), some (wD W), some (.str tx), some (R.d T.FallRun.C), some (R2.d T.FallRun.C), some (wD W2), some (dN k), none, none, some (dN x), some (.lst (L0.map .str)), z12, z13, z14, none]) (fun N2 hN2 => ?_) ?_
      · conv => whnf
        refine ⟨?_, by omega, ?_⟩
        · show ((nl).length == 0) = false
          rw [nl_len]
          rfl
        rw [show Txt.split tx (Str.ofString "\n") = L0 ++ [sF ""] from by rw [← etl]; exact hspl]
        conv => whnf
        rw [List.map_append]
        show N2 _ _
        refine hN2 _ _ ⟨rfl, ?_⟩
        have : DL.cutD (L0.map D.str ++ [sF ""].map D.str) none (some (-1)) = L0.map D.str := cut_last1
        show [none, some _, some _, some _, some _, some _, some _, some _, none, none, some _, some (D.lst (DL.cutD (L0.map D.str ++ [sF ""].map D.str) none (some (-1)))), z12, z13, z14, none] = _
        rw [this]
      rintro _ _ ⟨rfl, rfl⟩
      refine seq_cut (fun ρ' M' => BoxAt M' b c ∧ (∀ q, q ≠ b → q ≠ c → M' q = none) ∧ ∃ ls z12, ls ≠ [] ∧ ls.length ≤ 47 ∧ Lns 3000 ls ∧ ρ' = [none, some (.cell b), some (wD W), some (.str tx), some (R.d T.FallRun.C), some (R2.d T.FallRun.C), some (wD W2), some (dN k), none, none, some (dN x), some (.lst (ls.map .str)), z12, z13, z14, none]) (fun N2 hN2 => ?_) ?_
      · conv => whnf
        refine ⟨lines _ (by show 4 ≤ _; omega), ?_⟩
        conv => whnf
        have hcnt : ∃ cnt : Nat, cnt ≤ 3 ∧ atI [D.int 1, .int 1, .int 2, .int 3] (x : Int) = some (dN cnt) := by
          have : x = 0 ∨ x = 1 ∨ x = 2 ∨ x = 3 := by omega
          rcases this with rfl | rfl | rfl | rfl
          · exact ⟨1, by decide, rfl⟩
          · exact ⟨1, by decide, rfl⟩
          · exact ⟨2, by decide, rfl⟩
          · exact ⟨3, by decide, rfl⟩
        obtain ⟨cnt, hc3, hcnt⟩ := hcnt
        refine ⟨dN cnt, hcnt, ?_⟩
        refine ⟨⟨by omega, by omega⟩, ?_⟩
        refine loop_l (List.range cnt) dN (by rw [show ((cnt : Nat) : Int).toNat = cnt from Int.toNat_natCast _]; exact rngD_map _) (fun j ρ' M' => BoxAt M' b c ∧ (∀ q, q ≠ b → q ≠ c → M' q = none) ∧ ∃ ls z12, ls ≠ [] ∧ ls.length ≤ 44 + j ∧ Lns (bnd j) ls ∧ ρ' = [none, some (.cell b), some (wD W), some (.str tx), some (R.d T.FallRun.C), some (R2.d T.FallRun.C), some (wD W2), some (dN k), none, none, some (dN x), some (.lst (ls.map .str)), z12, z13, z14, none]) ⟨hb6, hM6, L0, _, hL0n, hL0l, hL0b, rfl⟩ ?_ ?_
        · rintro j y _ M7 ey hy ⟨hb7, hM7, ls, z12, hne, hln, hlb, rfl⟩
          have hj : j < 3 := by
            have := (List.getElem?_eq_some_iff.mp ey).1
            rw [List.length_range] at this
            omega
          have hbj : bnd j ≤ 1300 := by
            have : j = 0 ∨ j = 1 ∨ j = 2 := by omega
            rcases this with rfl | rfl | rfl <;> decide
          conv => whnf
          refine ⟨b, c, W, ls, bnd j, rfl, hb7, ok, hlb, hbj, hne, by omega, fun ls' M8 hM8 hlb' hne' hln' => ?_⟩
          exact ⟨hM8.1, hMx hM7 hM8, ls', _, hne', by omega, hlb', rfl⟩
        · rintro _ M7 ⟨hb7, hM7, ls, z12, hne, hln, hlb, rfl⟩
          rw [List.length_range] at hln hlb
          have hbc : bnd cnt ≤ 3000 := by
            have : cnt = 0 ∨ cnt = 1 ∨ cnt = 2 ∨ cnt = 3 := by omega
            rcases this with rfl | rfl | rfl | rfl <;> decide
          exact hN2 _ _ ⟨hb7, hM7, ls, _, hne, by omega, hlb.mono hbc, rfl⟩
      clear hb6 hM6
      rintro _ M7 ⟨hb7, hM7, ls, z12, hne, hln, hlb, rfl⟩
      have hjc := join_cond hlb (by have : ls.length * 3001 ≤ 47 * 3001 := Nat.mul_le_mul_right _ hln; omega)
      have hjl : (Txt.join nl ls).length ≤ 47 * 3001 := Nat.le_trans (len_lines hlb) (Nat.mul_le_mul_right _ hln)
      refine seq_cut (fun ρ' M' => BoxAt M' b c ∧ (∀ q, q ≠ b → q ≠ c → M' q = none) ∧ ∃ bt, TxOk bt ∧ ρ' = [none, some (.cell b), some (wD W), some (.str tx), some (R.d T.FallRun.C), some (R2.d T.FallRun.C), some (wD W2), some (dN k), none, none, some (dN x), some (.lst (ls.map .str)), z12, some (.str bt), z14, none]) (fun N2 hN2 => ?_) ?_
      · conv => whnf
        refine ⟨ls, .inl rfl, by show _ + _ * nl.length ≤ _; omega, ?_⟩
        conv => whnf
        refine ⟨b, c, 8, rfl, hb7, by decide, by decide, fun r M8 hr8 hM8 => ?_⟩
        have w1 : (Str.ofString "\n").length ≤ 20 := wlen "\n" (by decide)
        have w2 : (Str.ofString "\n\n").length ≤ 20 := wlen "\n\n" (by decide)
        have w0 : (Str.ofString "").length ≤ 20 := wlen "" (by decide)
        refine d2 (fun e => ?_) (fun e => ?_)
        · refine And.intro (show (Txt.join nl ls).length + _ ≤ _ by omega) ?_
          refine hN2 _ _ ⟨hM8.1, hMx hM7 hM8, Txt.join nl (ls ++ [sF ""]), txOk (hlb.app Lns.empty) (by simp) (by rw [List.length_append]; show _ + 1 ≤ _; omega), ?_⟩
          rw [← join_nl1 hne]
          rfl
        · conv => whnf
          refine ⟨lines _ (by show 2 ≤ _; omega), ?_⟩
          conv => whnf
          refine ⟨b, c, 2, rfl, hM8.1, by decide, by decide, fun r2 M9 hr2 hM9 => ?_⟩
          conv => whnf
          have hr01 : r2 = 0 ∨ r2 = 1 := by omega
          rcases hr01 with rfl | rfl
          · refine ⟨.str (sF ""), rfl, ?_⟩
            conv => whnf
            refine And.intro (show (Txt.join nl ls).length + (Str.ofString "").length ≤ _ by omega) ?_
            refine hN2 _ _ ⟨hM9.1, hMx (hMx hM7 hM8) hM9, Txt.join nl ls, txOk hlb hne (by omega), ?_⟩
            have e0 : Txt.join nl ls ++ sF "" = Txt.join nl ls := TL.ext_tl (by rw [TL.tl_append, tl_empty, List.append_nil])
            rw [← e0]
            rfl
          · refine ⟨.str (sF "\n\n"), rfl, ?_⟩
            conv => whnf
            refine And.intro (show (Txt.join nl ls).length + (Str.ofString "\n\n").length ≤ _ by omega) ?_
            refine hN2 _ _ ⟨hM9.1, hMx (hMx hM7 hM8) hM9, Txt.join nl (ls ++ [sF ""] ++ [sF ""]), txOk ((hlb.app Lns.empty).app Lns.empty) (by simp) (by rw [List.length_append, List.length_append]; show _ + 1 + 1 ≤ _; omega), ?_⟩
            rw [← join_nl2 hne]
            rfl
      clear hb7 hM7
      rintro _ M8 ⟨hb8, hM8, bt, hbt, rfl⟩
      have hcl8 := closed0 hb8 hM8
      refine seq_cut (fun ρ' M' => M8 = M' ∧ ρ' = [none, some (.cell b), some (wD W), some (.str tx), some (R.d T.FallRun.C), some (R2.d T.FallRun.C), some (wD W2), some (dN k), none, none, some (dN x), some (.lst (ls.map .str)), z12, some (.str bt), some (rdD (rdT bt)), none]) (fun N2 hN2 => ?_) ?_
      · conv => whnf
        refine ⟨bt, rfl, hbt, hcl8, ?_⟩
        exact hN2 _ _ ⟨rfl, rfl⟩
      rintro _ _ ⟨rfl, rfl⟩
      refine seq_cut (fun ρ' M' => M8 = M' ∧ ρ' = [none, some (.cell b), some (wD W), some (.str tx), some (R.d T.FallRun.C), some (R2.d T.FallRun.C), some (wD W2), some (dN k), none, none, some (dN x), some (.lst (ls.map .str)), z12, some (.str bt), some (rdD (rdT bt)), none]) (fun N2 hN2 => ?_) ?_
      · conv => whnf
        refine .inl ⟨bt, rfl, hbt, hcl8, ?_⟩
        conv => whnf
        refine ⟨rdT bt, rfl, ?_⟩
        conv => whnf
        refine ⟨dueD (rdT bt), rfl, dueD_ok _, ?_⟩
        refine dF rfl ?_
        exact hN2 _ _ ⟨rfl, rfl⟩
      rintro _ _ ⟨rfl, rfl⟩
      cases hres : rdT bt with
      | ok W3 =>
        have ok3 := rdT_ok hres
        conv => whnf
        refine ⟨by decide, "dict", rfl, ?_⟩
        refine dT rfl ?_
        conv => whnf
        intro p hp
        refine made T hp hcl8 hbt hres fun sfe R5 hsfe hsoe hR5 => ⟨rfl, _, updM_same, ?_⟩
        rw [delM_updM hp]
        conv => whnf
        refine ⟨W3, sfe, R5, stks, _, rfl, rd_dic W3, ok3, hsfe, hsoe, hR5, ?_⟩
        refine dF rfl ?_
        exact ⟨hb8, hM8, _, _, _, _, _, rfl⟩
      | bad ln wy =>
        conv => whnf
        refine ⟨by decide, "tuple", rfl, ?_⟩
        refine dF rfl ?_
        refine dF rfl ?_
        exact ⟨hb8, hM8, _, _, _, _, _, rfl⟩
      | many ln wy kk =>
        conv => whnf
        refine ⟨by decide, "tuple", rfl, ?_⟩
        refine dF rfl ?_
        refine dF rfl ?_
        exact ⟨hb8, hM8, _, _, _, _, _, rfl⟩
    · rintro _ M7 ⟨hb7, hM7, z10, z11, z12, z13, z14, rfl⟩
      exact hN _ _ ⟨hb7, hM7, _, _, _, _, _, rfl⟩
  clear hb6 hM6
  rintro _ M7 ⟨hb7, hM7, z10, z11, z12, z13, z14, rfl⟩
  refine seq_cut (fun ρ' M' => BoxAt M' b c ∧ (∀ q, q ≠ b → q ≠ c → M' q = none) ∧ ∃ y, (∀ M', noTx T.FallRun.C M' y) ∧ ρ' = [none, some (.cell b), some (wD W), some (.str tx), some (R.d T.FallRun.C), some (R2.d T.FallRun.C), some (wD W2), some (dN k), none, none, z10, z11, z12, z13, z14, some (y)]) (fun N hN => ?_) ?_
  · conv => whnf
    refine ⟨lines _ (by show 1 ≤ _; omega), ?_⟩
    conv => whnf
    refine ⟨lines _ (by show 1 ≤ _; omega), ?_⟩
    conv => whnf
    refine ⟨lines _ (by show 7 ≤ _; omega), ?_⟩
    conv => whnf
    refine ⟨b, c, _, rfl, hb7, by show 0 < 7; decide, by show 7 < _; decide, fun y M8 hy hM8 => ?_⟩
    refine hN _ _ ⟨hM8.1, hMx hM7 hM8, y, fun M' => ?_, rfl⟩
    simp only [List.mem_cons, List.not_mem_nil, or_false] at hy
    rcases hy with rfl | rfl | rfl | rfl | rfl | rfl | rfl
    · exact .inl ⟨"NoneType", rfl, by decide⟩
    · exact .inl ⟨"int", rfl, by decide⟩
    · exact .inl ⟨"bool", rfl, by decide⟩
    · exact .inl ⟨"list", rfl, by decide⟩
    · exact .inl ⟨"tuple", rfl, by decide⟩
    · exact .inl ⟨"dict", rfl, by decide⟩
    · exact .inr ⟨_, _, rfl⟩
  clear hb7 hM7
  rintro _ M8 ⟨hb8, hM8, y, hy, rfl⟩
  have hcl8 := closed0 hb8 hM8
  refine seq_cut (fun ρ' M' => M8 = M' ∧ ρ' = [none, some (.cell b), some (wD W), some (.str tx), some (R.d T.FallRun.C), some (R2.d T.FallRun.C), some (wD W2), some (dN k), none, none, z10, z11, z12, z13, z14, some (y)]) (fun N hN => ?_) ?_
  · conv => whnf
    refine .inr ⟨y, rfl, hy, ?_⟩
    conv => whnf
    refine ⟨lines _ (by show 5 ≤ _; omega), ?_⟩
    conv => whnf
    refine ⟨dueD (.bad 0 (sF "form")), rfl, dueD_ok _, ?_⟩
    refine dF rfl ?_
    conv => whnf
    refine .inl ⟨tx, rfl, htx, hcl8, ?_⟩
    rw [hrd]
    conv => whnf
    refine dF rfl ?_
    exact hN _ _ ⟨rfl, rfl⟩
  rintro _ _ ⟨rfl, rfl⟩
  conv => whnf
  refine ⟨b, c, rfl, hb8, hcl8, fun M9 hM9 => ?_⟩
  refine dT rfl ?_
  conv => whnf
  exact ⟨W, sf, R, wks, _, rfl, wD_dic W, ok, hsf, hso, hR, rfl⟩
end
end K85

/-! part G27 -/
set_option maxHeartbeats 0
namespace K85
open PySem PySem.Spec PyProof.Rows L2 DL
section
variable {P : Program} {w : World} {K : PySem.W.Frag} {mg : Str → Option Value} {base : Heap}
theorem ok_law (T : Txt K mg) : FnOk P w K mg base CX0 9 T.law.f T.law.fd ["script"] (spLaw K) := by
  refine T.law.F.ok sc_law (fun vs H Q E h => ?_) (fun cdv A outer s H vs Q E hr h => ?_)
  · obtain ⟨a, ns, rfl, _⟩ := h
    rfl
  · obtain ⟨td, ⟨⟨t2, a2, b2⟩⟩, hrd⟩ := law_walk (P := P) (w := w) (base := base) (H := H) (E := E) T hr
    obtain ⟨a, ns, rfl, hS, hl, k⟩ := h
    refine ⟨_, PSs.nox (pss_cons (ps_set (i := 1) sc_law.nd rfl (by first | exact Or.inl rfl | exact Or.inr rfl) (pe_call (ok_law_box T) (hr.mono (by decide)) rfl T.law_box.g T.law_box.F.kp T.law_box.b .nil pass0 (pa_cons (pv 0) pa_nil))) a2), ?_⟩
    conv => whnf
    refine ⟨.ref a, rfl, ?_⟩
    conv => whnf
    refine ⟨a, ns, rfl, hS, hl, fun H' b c xs mixed hbc hHb hHc hb hc hkeep => ?_⟩
    let M : Mp := fun q => if q = b then some (.lst [.cell c, .int 0, .int mixed, .int 0]) else if q = c then some (.lst (xs.map .int)) else none
    have hMb : M b = some (.lst [.cell c, .int 0, .int mixed, .int 0]) := if_pos rfl
    have hMc : M c = some (.lst (xs.map .int)) := by show (if c = b then _ else if c = c then _ else _) = _; rw [if_neg hbc.symm, if_pos rfl]
    have hMn : ∀ q, q ≠ b → q ≠ c → M q = none := fun q a1 a2 => by show (if q = b then _ else if q = c then _ else _) = _; rw [if_neg a1, if_neg a2]
    have sx : Sx (fun _ => none) H' M := ⟨fun a o e => (by cases e), fun p d e => ⟨rfl, by
      by_cases hp : p = b
      · subst hp
        rw [hMb] at e
        cases e
        exact ⟨_, hb, _, rfl, _, _, rfl, rfl, _, _, rfl, rfl, _, _, rfl, rfl, _, _, rfl, rfl, rfl⟩
      · by_cases hp' : p = c
        · subst hp'
          rw [hMc] at e
          cases e
          exact ⟨_, hc, _, rfl, RepL.of_ints xs⟩
        · rw [hMn p hp hp'] at e
          cases e⟩⟩
    refine b2 endT [none, some (.cell b), none, none, none, none, none, none, none, none, none, none, none, none, none, none] M (hrd b c M ⟨xs, 0, mixed, 0, hMb, hMc, hbc⟩ hMn) (fun _ => none) _ H' _ sx ⟨rfl, fun i d e => ?_⟩ ⟨fun _ _ _ _ _ q => q.elim, fun d M' Hb' H2 v q f s' r' => ?_, fun _ _ _ _ _ q => q.elim, fun _ _ _ _ _ q => q.elim⟩
    · match i, e with
      | 0, e => cases e
      | 1, e => cases e; exact ⟨_, rfl, rfl⟩
      | 2, e => cases e
      | 3, e => cases e
      | 4, e => cases e
      | 5, e => cases e
      | 6, e => cases e
      | 7, e => cases e
      | 8, e => cases e
      | 9, e => cases e
      | 10, e => cases e
      | 11, e => cases e
      | 12, e => cases e
      | 13, e => cases e
      | 14, e => cases e
      | 15, e => cases e
      | n + 16, e => cases e
    · cases (show d = .bl true from q)
      cases (show v = V.bl true from r')
      exact k H2
end
end K85

/-! part Hd2 -/
set_option maxHeartbeats 0
namespace K85
open PySem PySem.Spec PyProof.Rows L2 DL
theorem repL_rev {H : Hp} : ∀ {ds : List D} {vs : List V}, RepL H ds vs → RepL H ds.reverse vs.reverse
  | [], _, h => by cases h; exact rfl
  | d :: r, _, ⟨v, vr, h1, h2, h3⟩ => by
    cases h1
    rw [List.reverse_cons, List.reverse_cons]
    exact (repL_rev h3).append (RepL.one h2)
theorem kb_init {K : PySem.W.Frag} {f : Addr} {fd : FuncData} (F : FunD K "__init__" "FallRun.__init__" (defArgs s_FallRun_init) (defBody s_FallRun_init) (defScope s_FallRun_init) [] [] f fd) : KBD K fd ["self", "text"] 1 ["text"] (fun us ws => us ++ ws) := by
  obtain ⟨oc, od, dV, kV, doc, pm, an, cdv, ct, osl, rfl, lk, hcd, hD, hK⟩ := F.ex
  rcases hD with ⟨_, rfl⟩ | ⟨e, _⟩
  · refine ⟨⟨fun us ws => us ++ ws, fun vs zs => vs ++ zs, ⟨fun s us ws _ h1 h2 => ?_, fun h1 h2 => h1.append h2⟩, fun H ds es vs ws h1 h2 => h1.append h2⟩⟩
    match us, ws, h1, h2 with
    | [u0], [w0], _, _ => exact .of_eq rfl
  · exact absurd rfl e
theorem facts {P : Program} {w : World} {K : PySem.W.Frag} {h : Heap} {mg : Str → Option Value} {f : Addr} (X : K.In h) (G : h.Ns mainGlobals mg) (hfa : mg ("law" : Str) = some (.ref f)) (c : He.SaysD fal fnl K) (cx : ex K = true) :
    ∃ fd : FuncData, (∀ (s : Shared) (v : Value), BindsTo s fd ⟨[v], []⟩ [("script", v)]) ∧ ∀ base : Heap, K.In base → base.Ns mainGlobals mg → FnOk P w K mg base CX0 9 f fd ["script"] (spLaw K) := by
  obtain ⟨fd_value_of, F_value_of⟩ := c.def_ 0 (d := d_value_of) rfl
  have b_value_of : Binds K fd_value_of ["digits"] [] := FunD.bindsN (ps := ["digits"]) F_value_of fun _ _ _ _ _ _ us hl => match us, hl with | [_], _ => rfl
  obtain ⟨fd_read_number, F_read_number⟩ := c.def_ 1 (d := d_read_number) rfl
  obtain ⟨ds_read_number, vd_read_number, b_read_number⟩ := FunD.binds0 (ps := ["text", "most"]) F_read_number 1 (fun z => List.cons_ne_nil _ _ z) rfl fun D doc pm an cdv ct us ks hl hk => match us, ks, hl, hk with | [_], [_], _, _ => ⟨_, _, _, _, _, _, rfl, rfl, rfl⟩
  obtain ⟨fd_tokens_of, F_tokens_of⟩ := c.def_ 2 (d := d_tokens_of) rfl
  have b_tokens_of : Binds K fd_tokens_of ["lines", "at"] [] := FunD.bindsN (ps := ["lines", "at"]) F_tokens_of fun _ _ _ _ _ _ us hl => match us, hl with | [_, _], _ => rfl
  obtain ⟨fd_read_houses, F_read_houses⟩ := c.def_ 3 (d := d_read_houses) rfl
  have b_read_houses : Binds K fd_read_houses ["tokens"] [] := FunD.bindsN (ps := ["tokens"]) F_read_houses fun _ _ _ _ _ _ us hl => match us, hl with | [_], _ => rfl
  obtain ⟨fd_read_most, F_read_most⟩ := c.def_ 4 (d := d_read_most) rfl
  have b_read_most : Binds K fd_read_most ["tokens", "houses"] [] := FunD.bindsN (ps := ["tokens", "houses"]) F_read_most fun _ _ _ _ _ _ us hl => match us, hl with | [_, _], _ => rfl
  obtain ⟨fd_read_begins, F_read_begins⟩ := c.def_ 5 (d := d_read_begins) rfl
  have b_read_begins : Binds K fd_read_begins ["tokens", "houses"] [] := FunD.bindsN (ps := ["tokens", "houses"]) F_read_begins fun _ _ _ _ _ _ us hl => match us, hl with | [_, _], _ => rfl
  obtain ⟨fd_read_fall, F_read_fall⟩ := c.def_ 6 (d := d_read_fall) rfl
  have b_read_fall : Binds K fd_read_fall ["tokens", "line", "houses", "earlier"] [] := FunD.bindsN (ps := ["tokens", "line", "houses", "earlier"]) F_read_fall fun _ _ _ _ _ _ us hl => match us, hl with | [_, _, _, _], _ => rfl
  obtain ⟨fd_read_falls, F_read_falls⟩ := c.def_ 7 (d := d_read_falls) rfl
  have b_read_falls : Binds K fd_read_falls ["text"] [] := FunD.bindsN (ps := ["text"]) F_read_falls fun _ _ _ _ _ _ us hl => match us, hl with | [_], _ => rfl
  obtain ⟨fd_lot_text, F_lot_text⟩ := c.def_ 8 (d := d_lot_text) rfl
  have b_lot_text : Binds K fd_lot_text ["lot"] [] := FunD.bindsN (ps := ["lot"]) F_lot_text fun _ _ _ _ _ _ us hl => match us, hl with | [_], _ => rfl
  obtain ⟨fd_write_falls, F_write_falls⟩ := c.def_ 9 (d := d_write_falls) rfl
  have b_write_falls : Binds K fd_write_falls ["houses", "most", "begins", "falls"] [] := FunD.bindsN (ps := ["houses", "most", "begins", "falls"]) F_write_falls fun _ _ _ _ _ _ us hl => match us, hl with | [_, _, _, _], _ => rfl
  obtain ⟨fd_mask_of, F_mask_of⟩ := c.def_ 10 (d := d_mask_of) rfl
  have b_mask_of : Binds K fd_mask_of ["houses"] [] := FunD.bindsN (ps := ["houses"]) F_mask_of fun _ _ _ _ _ _ us hl => match us, hl with | [_], _ => rfl
  obtain ⟨fd_FallRun_init, F_FallRun_init⟩ := c.def_ 11 (d := d_FallRun_init) rfl
  have b_FallRun_init : Binds K fd_FallRun_init ["self", "text"] [] := FunD.bindsN (ps := ["self", "text"]) F_FallRun_init fun _ _ _ _ _ _ us hl => match us, hl with | [_, _], _ => rfl
  obtain ⟨fd_FallRun___eq__, F_FallRun___eq__⟩ := c.def_ 12 (d := d_FallRun___eq__) rfl
  have b_FallRun___eq__ : Binds K fd_FallRun___eq__ ["self", "other"] [] := FunD.bindsN (ps := ["self", "other"]) F_FallRun___eq__ fun _ _ _ _ _ _ us hl => match us, hl with | [_, _], _ => rfl
  obtain ⟨fd_FallRun_fallen, F_FallRun_fallen⟩ := c.def_ 13 (d := d_FallRun_fallen) rfl
  have b_FallRun_fallen : Binds K fd_FallRun_fallen ["self"] [] := FunD.bindsN (ps := ["self"]) F_FallRun_fallen fun _ _ _ _ _ _ us hl => match us, hl with | [_], _ => rfl
  obtain ⟨fd_law_box, F_law_box⟩ := c.def_ 14 (d := d_law_box) rfl
  have b_law_box : Binds K fd_law_box ["script"] [] := FunD.bindsN (ps := ["script"]) F_law_box fun _ _ _ _ _ _ us hl => match us, hl with | [_], _ => rfl
  obtain ⟨fd_law_take, F_law_take⟩ := c.def_ 15 (d := d_law_take) rfl
  have b_law_take : Binds K fd_law_take ["box", "many"] [] := FunD.bindsN (ps := ["box", "many"]) F_law_take fun _ _ _ _ _ _ us hl => match us, hl with | [_, _], _ => rfl
  obtain ⟨fd_law_of, F_law_of⟩ := c.def_ 16 (d := d_law_of) rfl
  have b_law_of : Binds K fd_law_of ["box", "things"] [] := FunD.bindsN (ps := ["box", "things"]) F_law_of fun _ _ _ _ _ _ us hl => match us, hl with | [_, _], _ => rfl
  obtain ⟨fd_law_mixed, F_law_mixed⟩ := c.def_ 17 (d := d_law_mixed) rfl
  have b_law_mixed : Binds K fd_law_mixed ["box", "things"] [] := FunD.bindsN (ps := ["box", "things"]) F_law_mixed fun _ _ _ _ _ _ us hl => match us, hl with | [_, _], _ => rfl
  obtain ⟨fd_law_same, F_law_same⟩ := c.def_ 18 (d := d_law_same) rfl
  have b_law_same : Binds K fd_law_same ["found", "due"] [] := FunD.bindsN (ps := ["found", "due"]) F_law_same fun _ _ _ _ _ _ us hl => match us, hl with | [_, _], _ => rfl
  obtain ⟨fd_law_fall_world, F_law_fall_world⟩ := c.def_ 19 (d := d_law_fall_world) rfl
  have b_law_fall_world : Binds K fd_law_fall_world ["box", "n"] [] := FunD.bindsN (ps := ["box", "n"]) F_law_fall_world fun _ _ _ _ _ _ us hl => match us, hl with | [_, _], _ => rfl
  obtain ⟨fd_law_lot_text, F_law_lot_text⟩ := c.def_ 20 (d := d_law_lot_text) rfl
  have b_law_lot_text : Binds K fd_law_lot_text ["lot"] [] := FunD.bindsN (ps := ["lot"]) F_law_lot_text fun _ _ _ _ _ _ us hl => match us, hl with | [_], _ => rfl
  obtain ⟨fd_law_fall_text, F_law_fall_text⟩ := c.def_ 21 (d := d_law_fall_text) rfl
  have b_law_fall_text : Binds K fd_law_fall_text ["world"] [] := FunD.bindsN (ps := ["world"]) F_law_fall_text fun _ _ _ _ _ _ us hl => match us, hl with | [_], _ => rfl
  obtain ⟨fd_law_digits, F_law_digits⟩ := c.def_ 22 (d := d_law_digits) rfl
  have b_law_digits : Binds K fd_law_digits ["token"] [] := FunD.bindsN (ps := ["token"]) F_law_digits fun _ _ _ _ _ _ us hl => match us, hl with | [_], _ => rfl
  obtain ⟨fd_law_lot_of, F_law_lot_of⟩ := c.def_ 23 (d := d_law_lot_of) rfl
  have b_law_lot_of : Binds K fd_law_lot_of ["token"] [] := FunD.bindsN (ps := ["token"]) F_law_lot_of fun _ _ _ _ _ _ us hl => match us, hl with | [_], _ => rfl
  obtain ⟨fd_law_fall_why, F_law_fall_why⟩ := c.def_ 24 (d := d_law_fall_why) rfl
  have b_law_fall_why : Binds K fd_law_fall_why ["state", "pieces"] [] := FunD.bindsN (ps := ["state", "pieces"]) F_law_fall_why fun _ _ _ _ _ _ us hl => match us, hl with | [_, _], _ => rfl
  obtain ⟨fd_law_line_why, F_law_line_why⟩ := c.def_ 25 (d := d_law_line_why) rfl
  have b_law_line_why : Binds K fd_law_line_why ["state", "line"] [] := FunD.bindsN (ps := ["state", "line"]) F_law_line_why fun _ _ _ _ _ _ us hl => match us, hl with | [_, _], _ => rfl
  obtain ⟨fd_law_reads, F_law_reads⟩ := c.def_ 26 (d := d_law_reads) rfl
  have b_law_reads : Binds K fd_law_reads ["script_text"] [] := FunD.bindsN (ps := ["script_text"]) F_law_reads fun _ _ _ _ _ _ us hl => match us, hl with | [_], _ => rfl
  obtain ⟨fd_law_refused, F_law_refused⟩ := c.def_ 27 (d := d_law_refused) rfl
  have b_law_refused : Binds K fd_law_refused ["value"] [] := FunD.bindsN (ps := ["value"]) F_law_refused fun _ _ _ _ _ _ us hl => match us, hl with | [_], _ => rfl
  obtain ⟨fd_law_due, F_law_due⟩ := c.def_ 28 (d := d_law_due) rfl
  have b_law_due : Binds K fd_law_due ["found"] [] := FunD.bindsN (ps := ["found"]) F_law_due fun _ _ _ _ _ _ us hl => match us, hl with | [_], _ => rfl
  obtain ⟨fd_law_shown, F_law_shown⟩ := c.def_ 29 (d := d_law_shown) rfl
  have b_law_shown : Binds K fd_law_shown ["run", "world"] [] := FunD.bindsN (ps := ["run", "world"]) F_law_shown fun _ _ _ _ _ _ us hl => match us, hl with | [_, _], _ => rfl
  obtain ⟨fd_law_turned, F_law_turned⟩ := c.def_ 30 (d := d_law_turned) rfl
  have b_law_turned : Binds K fd_law_turned ["box", "world"] [] := FunD.bindsN (ps := ["box", "world"]) F_law_turned fun _ _ _ _ _ _ us hl => match us, hl with | [_, _], _ => rfl
  obtain ⟨fd_law_tokens, F_law_tokens⟩ := c.def_ 31 (d := d_law_tokens) rfl
  have b_law_tokens : Binds K fd_law_tokens ["world"] [] := FunD.bindsN (ps := ["world"]) F_law_tokens fun _ _ _ _ _ _ us hl => match us, hl with | [_], _ => rfl
  obtain ⟨fd_law_bent, F_law_bent⟩ := c.def_ 32 (d := d_law_bent) rfl
  have b_law_bent : Binds K fd_law_bent ["box", "world", "lines"] [] := FunD.bindsN (ps := ["box", "world", "lines"]) F_law_bent fun _ _ _ _ _ _ us hl => match us, hl with | [_, _, _], _ => rfl
  obtain ⟨fd_law_edges, F_law_edges⟩ := c.def_ 33 (d := d_law_edges) rfl
  have b_law_edges : Binds K fd_law_edges ["box"] [] := FunD.bindsN (ps := ["box"]) F_law_edges fun _ _ _ _ _ _ us hl => match us, hl with | [_], _ => rfl
  obtain ⟨fd_law, F_law⟩ := c.def_ 34 (d := d_law) rfl
  have b_law : Binds K fd_law ["script"] [] := FunD.bindsN (ps := ["script"]) F_law fun _ _ _ _ _ _ us hl => match us, hl with | [_], _ => rfl
  obtain ⟨fd_BadFalls_init, F_BadFalls_init⟩ := c.def_ 35 (d := d_BadFalls_init) rfl
  have b_BadFalls_init : Binds K fd_BadFalls_init ["self", "line", "why"] [] := FunD.bindsN (ps := ["self", "line", "why"]) F_BadFalls_init fun _ _ _ _ _ _ us hl => match us, hl with | [_, _, _], _ => rfl
  obtain ⟨fd_TooMany_init, F_TooMany_init⟩ := c.def_ 36 (d := d_TooMany_init) rfl
  have b_TooMany_init : Binds K fd_TooMany_init ["self", "what", "many"] [] := FunD.bindsN (ps := ["self", "what", "many"]) F_TooMany_init fun _ _ _ _ _ _ us hl => match us, hl with | [_, _, _], _ => rfl
  obtain ⟨t_LAST_BEAT, g_LAST_BEAT⟩ := He.int_ok X G (c.fact 68 (f := .int "LAST_BEAT" 60) rfl)
  obtain ⟨t_MOST_HOUSES, g_MOST_HOUSES⟩ := He.int_ok X G (c.fact 69 (f := .int "MOST_HOUSES" 40) rfl)
  obtain ⟨t_DIGITS, g_DIGITS⟩ := He.str_ok X G (c.fact 70 (f := .str "_DIGITS" "0123456789") rfl)
  unfold ex at cx
  simp only [Bool.and_eq_true, decide_eq_true_eq] at cx
  obtain ⟨x0, x1, x2, x3, x4, x5, x6, x7, x8, x9, x10, x11, x12, _⟩ := cx
  have mk_init := He.mkr_ok (c.fact 38 (f := .mkr "FallRun") rfl)
  let FR : FallRunC K mg := { C := _, g := He.glo_ok X G (c.fact 36 (f := .glo "FallRun") rfl), cl := He.cls_ok (c.fact 37 (f := .cls "FallRun") rfl), n_falls_ := He.noat_ok (c.fact 39 (f := .noat "FallRun" "_falls") rfl), n_heard_ := He.noat_ok (c.fact 40 (f := .noat "FallRun" "_heard") rfl), n_rounds_ := He.noat_ok (c.fact 41 (f := .noat "FallRun" "_rounds") rfl), n_ups_ := He.noat_ok (c.fact 42 (f := .noat "FallRun" "_ups") rfl), n_zeros_ := He.noat_ok (c.fact 43 (f := .noat "FallRun" "_zeros") rfl), n_begins := He.noat_ok (c.fact 44 (f := .noat "FallRun" "begins") rfl), n_houses := He.noat_ok (c.fact 45 (f := .noat "FallRun" "houses") rfl), n_most := He.noat_ok (c.fact 46 (f := .noat "FallRun" "most") rfl), n_text := He.noat_ok (c.fact 47 (f := .noat "FallRun" "text") rfl), init := ⟨_, _, F_FallRun_init, b_FallRun_init, He.meth_ok (c.fact 48 (f := .meth "FallRun" "__init__") rfl)⟩, mk := mk_init, eq_ := ⟨_, _, F_FallRun___eq__, b_FallRun___eq__, He.meth_ok (c.fact 49 (f := .meth "FallRun" "__eq__") rfl)⟩, fallen := ⟨_, _, F_FallRun_fallen, b_FallRun_fallen, He.meth_ok (c.fact 50 (f := .meth "FallRun" "fallen") rfl)⟩, kb_init := kb_init F_FallRun_init, eqc := eqcB_ok x12 }
  let T : Txt K mg := { value_of := ⟨_, _, F_value_of, b_value_of, He.glo_ok X G (c.fact 0 (f := .glo "_value_of") rfl)⟩, read_number := ⟨_, _, F_read_number, ds_read_number, vd_read_number, b_read_number, He.glo_ok X G (c.fact 1 (f := .glo "read_number") rfl)⟩, tokens_of := ⟨_, _, F_tokens_of, b_tokens_of, He.glo_ok X G (c.fact 2 (f := .glo "tokens_of") rfl)⟩, read_houses := ⟨_, _, F_read_houses, b_read_houses, He.glo_ok X G (c.fact 3 (f := .glo "read_houses") rfl)⟩, read_most := ⟨_, _, F_read_most, b_read_most, He.glo_ok X G (c.fact 4 (f := .glo "read_most") rfl)⟩, read_begins := ⟨_, _, F_read_begins, b_read_begins, He.glo_ok X G (c.fact 5 (f := .glo "read_begins") rfl)⟩, read_fall := ⟨_, _, F_read_fall, b_read_fall, He.glo_ok X G (c.fact 6 (f := .glo "read_fall") rfl)⟩, read_falls := ⟨_, _, F_read_falls, b_read_falls, He.glo_ok X G (c.fact 7 (f := .glo "read_falls") rfl)⟩, lot_text := ⟨_, _, F_lot_text, b_lot_text, He.glo_ok X G (c.fact 8 (f := .glo "lot_text") rfl)⟩, write_falls := ⟨_, _, F_write_falls, b_write_falls, He.glo_ok X G (c.fact 9 (f := .glo "write_falls") rfl)⟩, mask_of := ⟨_, _, F_mask_of, b_mask_of, He.glo_ok X G (c.fact 10 (f := .glo "mask_of") rfl)⟩, law_box := ⟨_, _, F_law_box, b_law_box, He.glo_ok X G (c.fact 11 (f := .glo "_law_box") rfl)⟩, law_take := ⟨_, _, F_law_take, b_law_take, He.glo_ok X G (c.fact 12 (f := .glo "_law_take") rfl)⟩, law_of := ⟨_, _, F_law_of, b_law_of, He.glo_ok X G (c.fact 13 (f := .glo "_law_of") rfl)⟩, law_mixed := ⟨_, _, F_law_mixed, b_law_mixed, He.glo_ok X G (c.fact 14 (f := .glo "_law_mixed") rfl)⟩, law_same := ⟨_, _, F_law_same, b_law_same, He.glo_ok X G (c.fact 15 (f := .glo "_law_same") rfl)⟩, law_fall_world := ⟨_, _, F_law_fall_world, b_law_fall_world, He.glo_ok X G (c.fact 16 (f := .glo "_law_fall_world") rfl)⟩, law_lot_text := ⟨_, _, F_law_lot_text, b_law_lot_text, He.glo_ok X G (c.fact 17 (f := .glo "_law_lot_text") rfl)⟩, law_fall_text := ⟨_, _, F_law_fall_text, b_law_fall_text, He.glo_ok X G (c.fact 18 (f := .glo "_law_fall_text") rfl)⟩, law_digits := ⟨_, _, F_law_digits, b_law_digits, He.glo_ok X G (c.fact 19 (f := .glo "_law_digits") rfl)⟩, law_lot_of := ⟨_, _, F_law_lot_of, b_law_lot_of, He.glo_ok X G (c.fact 20 (f := .glo "_law_lot_of") rfl)⟩, law_fall_why := ⟨_, _, F_law_fall_why, b_law_fall_why, He.glo_ok X G (c.fact 21 (f := .glo "_law_fall_why") rfl)⟩, law_line_why := ⟨_, _, F_law_line_why, b_law_line_why, He.glo_ok X G (c.fact 22 (f := .glo "_law_line_why") rfl)⟩, law_reads := ⟨_, _, F_law_reads, b_law_reads, He.glo_ok X G (c.fact 23 (f := .glo "_law_reads") rfl)⟩, law_refused := ⟨_, _, F_law_refused, b_law_refused, He.glo_ok X G (c.fact 24 (f := .glo "_law_refused") rfl)⟩, law_due := ⟨_, _, F_law_due, b_law_due, He.glo_ok X G (c.fact 25 (f := .glo "_law_due") rfl)⟩, law_shown := ⟨_, _, F_law_shown, b_law_shown, He.glo_ok X G (c.fact 26 (f := .glo "_law_shown") rfl)⟩, law_turned := ⟨_, _, F_law_turned, b_law_turned, He.glo_ok X G (c.fact 27 (f := .glo "_law_turned") rfl)⟩, law_tokens := ⟨_, _, F_law_tokens, b_law_tokens, He.glo_ok X G (c.fact 28 (f := .glo "_law_tokens") rfl)⟩, law_bent := ⟨_, _, F_law_bent, b_law_bent, He.glo_ok X G (c.fact 29 (f := .glo "_law_bent") rfl)⟩, law_edges := ⟨_, _, F_law_edges, b_law_edges, He.glo_ok X G (c.fact 30 (f := .glo "_law_edges") rfl)⟩, law := ⟨_, _, F_law, b_law, He.glo_ok X G (c.fact 31 (f := .glo "law") rfl)⟩, FallRun := FR, BadFalls := { C := _, g := He.glo_ok X G (c.fact 32 (f := .glo "BadFalls") rfl), fI := _, fd := fd_BadFalls_init, F := F_BadFalls_init, b := b_BadFalls_init, xk := xcB_ok x0 }, TooMany := { C := _, g := He.glo_ok X G (c.fact 33 (f := .glo "TooMany") rfl), fI := _, fd := fd_TooMany_init, F := F_TooMany_init, b := b_TooMany_init, xk := xcB_ok x1 }, c_AgreeError := _, gc_AgreeError := He.glo_ok X G (c.fact 34 (f := .glo "AgreeError") rfl), c_BadBook := _, gc_BadBook := He.glo_ok X G (c.fact 35 (f := .glo "BadBook") rfl), em_BadFalls_BadFalls := x2, em_BadFalls_TooMany := x3, kt_BadFalls_AgreeError := x4, kt_BadFalls_BadBook := x5, kt_BadFalls_TooMany := x6, em_TooMany_BadFalls := x7, em_TooMany_TooMany := x8, kt_TooMany_AgreeError := x9, kt_TooMany_BadBook := x10, kt_TooMany_TooMany := x11, b_all := He.free_ok X G (c.fact 51 (f := .free "all") rfl), b_any := He.free_ok X G (c.fact 52 (f := .free "any") rfl), b_bool := He.free_ok X G (c.fact 53 (f := .free "bool") rfl), b_dict := He.free_ok X G (c.fact 54 (f := .free "dict") rfl), b_enumerate := He.free_ok X G (c.fact 55 (f := .free "enumerate") rfl), b_int := He.free_ok X G (c.fact 56 (f := .free "int") rfl), b_isinstance := He.free_ok X G (c.fact 57 (f := .free "isinstance") rfl), b_len := He.free_ok X G (c.fact 58 (f := .free "len") rfl), b_list := He.free_ok X G (c.fact 59 (f := .free "list") rfl), b_max := He.free_ok X G (c.fact 60 (f := .free "max") rfl), b_min := He.free_ok X G (c.fact 61 (f := .free "min") rfl), b_range := He.free_ok X G (c.fact 62 (f := .free "range") rfl), b_set := He.free_ok X G (c.fact 63 (f := .free "set") rfl), b_sorted := He.free_ok X G (c.fact 64 (f := .free "sorted") rfl), b_str := He.free_ok X G (c.fact 65 (f := .free "str") rfl), b_tuple := He.free_ok X G (c.fact 66 (f := .free "tuple") rfl), b_zip := He.free_ok X G (c.fact 67 (f := .free "zip") rfl), t_LAST_BEAT := t_LAST_BEAT, g_LAST_BEAT := g_LAST_BEAT, t_MOST_HOUSES := t_MOST_HOUSES, g_MOST_HOUSES := g_MOST_HOUSES, t_DIGITS := t_DIGITS, g_DIGITS := g_DIGITS }
  have e := hfa.symm.trans (He.glo_ok X G (c.fact 31 (f := .glo "law") rfl))
  cases e
  have b := FunD.bindsA (ps := ["script"]) F_law fun _ _ _ _ _ _ us hl => match us, hl with | [_], _ => rfl
  exact ⟨_, fun s v => b s [v] rfl, fun base _ _ => ok_law T⟩
end K85

/-! part Hd3 -/
set_option maxHeartbeats 0
open PySem PySem.W PySem.Calls PyProof.Rows
theorem PySem.Challenge.cw_nonesooner_k80_fall_runs_there_and_back_holds : PySem.Challenge.rw_nonesooner_k80_fall_runs_there_and_back.Holds := by
  w_on; o_law
  refine HandSHeadRun.head_imp (r := OpenLaw.row PySem.Challenge.rw_nonesooner_k80_fall_runs_there_and_back) (q := view (OpenLaw.row PySem.Challenge.rw_nonesooner_k80_fall_runs_there_and_back).prog [0, 58]) (H := K85.hk) (ob := K85.ob) (M := 40000) (loose := K85.loose) (d := HandSHeadRun.topDef (OpenLaw.row PySem.Challenge.rw_nonesooner_k80_fall_runs_there_and_back).prog 58) (kwd := []) K85.ob_eq
    K85.run (by kernel_rfl) (by kernel_rfl) (by kernel_rfl) (by rfl) (by first | assumption | decide +kernel) (by decide +kernel) ⟨rfl, rfl, rfl, rfl, rfl, by decide +kernel⟩ ?hw ?hc
  case hw => w_witness2
  case hc =>
    refine L2.walk_ofE (l := PySem.Challenge.rw_nonesooner_k80_fall_runs_there_and_back) (n := 63) (k := 9) (x := "script") (CX := L2.CX0) rfl (by decide) (by kernel_rfl) ⟨rfl, by decide, by decide⟩ ?F (fun _ _ _ _ z => z)
    intro w mg fa h Y G hmg0
    obtain ⟨K, KX, c, cx⟩ := Y
    have hmg : mg ("law" : PySem.Str) = some (.ref fa) := by
      have e : (HandSHeadRun.topDef (OpenLaw.row PySem.Challenge.rw_nonesooner_k80_fall_runs_there_and_back).prog 58).name = ("law" : PySem.Str) := by kernel_rfl
      rw [← e]
      exact hmg0
    obtain ⟨fd, hb, hF⟩ := K85.facts (P := (PySem.Challenge.rw_nonesooner_k80_fall_runs_there_and_back).prog) (w := w) KX G hmg c cx
    exact ⟨K, fd, K85.spLaw K, KX, hb, fun H a ns hl _ hS => ⟨a, ns, rfl, hS, hl, fun _ => rfl⟩, hF⟩
