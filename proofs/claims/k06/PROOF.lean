import PyProof.Rows.All
import HandS.ForMost
import HandS.Exc
import HandS.ExcOwn
import HandS.WordsExc
import HandS.CallSlots
import HandS.Defaults
import HandS.HeadHook2
import HandS.Style
import HandS.TupAny
import HandS.Deep
import HandS.SortInts
import HandS.Conv
import HandS.DictComp
import HandS.SortKw
import HandS.ListItems
import HandS.IsInst
import HandS.SetBool
import HandS.Text
import HandS.Zip
import KE.KDictZip
import KE.KSortKeySt
import HandS.Slots
import HandS.Strs
import KE.KStateDown
import HandS.Ends
import HandS.Head0
import HandS.Head1
import HandS.Head2
import HandS.HeadEnd
import HandS.HeadHook1
import KE.KUnpackStar
import KE.GoesMore
import HandS.ExcIs
import KE.KExcPX
import PySem.Challenge.RW_cutslip_k06_whole_lean
set_option Elab.async false
set_option linter.all false
set_option maxRecDepth 100000
set_option maxHeartbeats 0
/-! Tw1: data as trees (D), how a heap bears them (rd), hiding what is owned (the frame). -/
namespace Tw
open PySem L2

/-! ### data -/
inductive D where
  | non | bl (b : Bool) | int (i : Int) | str (s : Str)
  | tup (xs : List D) | lst (xs : List D) | dct (kvs : List (Key × D)) | ins (C : Str) (fs : List (Str × D)) | scr (ns : List Int)
  | exn (a o : Addr) (fs : List (Str × D))
  deriving Inhabited

/-- an exception: its class's name, its one field -/
structure Xn where
  C : Str
  f : Option (Str × D) := none

/-- what comes of a piece of code: a value, an exception, or nothing that is said of it -/
inductive R (α : Type) where
  | ok (a : α) | ex (x : Xn) | no
def R.bind {α β : Type} (r : R α) (f : α → R β) : R β := match r with
  | .ok a => f a
  | .ex x => .ex x
  | .no => .no
def R.map {α β : Type} (r : R α) (f : α → β) : R β := r.bind fun a => .ok (f a)
/-- the one, or, where nothing is said by it, the other -/
def R.or {α : Type} (a b : R α) : R α := match a with
  | .no => b
  | r => r
/-- no exception -/
def R.nox {α : Type} (a : R α) : R α := match a with
  | .ex _ => .no
  | r => r
def R.of {α : Type} (o : Option α) : R α := match o with
  | some a => .ok a
  | none => .no

section
variable (K : PySem.W.Frag)
mutual
def rd (H : Hp) : D → V → Prop
  | .non, v => v = .non
  | .bl b, v => v = .bl b
  | .int i, v => v = .int i
  | .str s, v => v = .str s
  | .tup xs, v => ∃ a vs, v = .ref a ∧ H a = some (.tup vs) ∧ rds H xs vs
  | .scr ns, v => ∃ a, v = .ref a ∧ SqL K H a (ns.map V.int)
  | .lst xs, v => ∃ a vs, v = .ref a ∧ H a = some (.lst vs) ∧ rds H xs vs
  | .dct kvs, v => ∃ a kws, v = .ref a ∧ H a = some (.dK kws) ∧ rdk H kvs kws
  | .ins C fs, v => ∃ a dx gs, v = .ref a ∧ H a = some (.ins (He.ga K C) dx gs) ∧ rdf H fs gs
  | .exn a o fs, v => v = .ref a ∧ (fs = [] ∨ ∃ gs, H o = some (.xd gs) ∧ rdf H fs gs)
def rds (H : Hp) : List D → List V → Prop
  | [], vs => vs = []
  | d :: ds, vs => ∃ v r, vs = v :: r ∧ rd H d v ∧ rds H ds r
def rdk (H : Hp) : List (Key × D) → List (Key × V) → Prop
  | [], vs => vs = []
  | (k, d) :: ds, vs => ∃ v r, vs = (k, v) :: r ∧ rd H d v ∧ rdk H ds r
def rdf (H : Hp) : List (Str × D) → List (Str × V) → Prop
  | [], vs => vs = []
  | (k, d) :: ds, vs => ∃ v r, vs = (k, v) :: r ∧ rd H d v ∧ rdf H ds r
end
def rdx (H : Hp) (x : Xn) (cls : Value) (oa : Option Addr) : Prop := cls = .ref (He.ga K x.C) ∧ match x.f with
  | none => oa = none
  | some (f, d) => ∃ a v, oa = some a ∧ H a = some (.xd [(f, v)]) ∧ rd K H d v
end
section
variable {K : PySem.W.Frag} {H H' : Hp}
theorem sqT_mono {a : Addr} {xs : List V} (e : Same H H') (h : SqT K H a xs) : SqT K H' a xs := by
  rcases h with (h | ⟨o, h⟩) | h
  · exact .inl (.inl (e _ _ h))
  · exact .inl (.inr ⟨o, e _ _ h⟩)
  · exact .inr h
mutual
theorem rd_mono (e : Same H H') : ∀ (d : D) (v : V), rd K H d v → rd K H' d v
  | .non, v, h => by unfold rd at *; exact h
  | .bl b, v, h => by unfold rd at *; exact h
  | .int i, v, h => by unfold rd at *; exact h
  | .str s, v, h => by unfold rd at *; exact h
  | .tup xs, v, h => by
    unfold rd at *
    obtain ⟨a, vs, rfl, q, r⟩ := h
    exact ⟨a, vs, rfl, e _ _ q, rds_mono e xs vs r⟩
  | .scr ns, v, h => by
    unfold rd at *
    obtain ⟨a, rfl, q⟩ := h
    exact ⟨a, rfl, e.seq q⟩
  | .lst xs, v, h => by
    unfold rd at *
    obtain ⟨a, vs, rfl, q, r⟩ := h
    exact ⟨a, vs, rfl, e _ _ q, rds_mono e xs vs r⟩
  | .dct kvs, v, h => by
    unfold rd at *
    obtain ⟨a, vs, rfl, q, r⟩ := h
    exact ⟨a, vs, rfl, e _ _ q, rdk_mono e kvs vs r⟩
  | .ins C fs, v, h => by
    unfold rd at *
    obtain ⟨a, dx, gs, rfl, q, r⟩ := h
    exact ⟨a, dx, gs, rfl, e _ _ q, rdf_mono e fs gs r⟩
  | .exn a o fs, v, h => by
    unfold rd at *
    refine ⟨h.1, h.2.imp id ?_⟩
    rintro ⟨gs, q, r⟩
    exact ⟨gs, e _ _ q, rdf_mono e fs gs r⟩
theorem rds_mono (e : Same H H') : ∀ (ds : List D) (vs : List V), rds K H ds vs → rds K H' ds vs
  | [], vs, h => by unfold rds at *; exact h
  | d :: ds, vs, h => by
    unfold rds at *
    obtain ⟨v, r, rfl, q, z⟩ := h
    exact ⟨v, r, rfl, rd_mono e d v q, rds_mono e ds r z⟩
theorem rdk_mono (e : Same H H') : ∀ (ds : List (Key × D)) (vs : List (Key × V)), rdk K H ds vs → rdk K H' ds vs
  | [], vs, h => by unfold rdk at *; exact h
  | (k, d) :: ds, vs, h => by
    unfold rdk at *
    obtain ⟨v, r, rfl, q, z⟩ := h
    exact ⟨v, r, rfl, rd_mono e d v q, rdk_mono e ds r z⟩
theorem rdf_mono (e : Same H H') : ∀ (ds : List (Str × D)) (vs : List (Str × V)), rdf K H ds vs → rdf K H' ds vs
  | [], vs, h => by unfold rdf at *; exact h
  | (k, d) :: ds, vs, h => by
    unfold rdf at *
    obtain ⟨v, r, rfl, q, z⟩ := h
    exact ⟨v, r, rfl, rd_mono e d v q, rdf_mono e ds r z⟩
end
theorem rdx_mono (e : Same H H') {x : Xn} {c : Value} {oa : Option Addr} (h : rdx K H x c oa) : rdx K H' x c oa := by
  obtain ⟨C, f⟩ := x
  refine ⟨h.1, ?_⟩
  cases f with
  | none => exact h.2
  | some p =>
    obtain ⟨f, d⟩ := p
    obtain ⟨a, v, h1, h2, h3⟩ := h.2
    exact ⟨a, v, h1, e _ _ h2, rd_mono e d v h3⟩
theorem rds_length : ∀ {ds : List D} {vs : List V}, rds K H ds vs → vs.length = ds.length
  | [], vs, h => by unfold rds at h; subst h; rfl
  | d :: ds, vs, h => by
    unfold rds at h
    obtain ⟨v, r, rfl, _, z⟩ := h
    simp [rds_length z]
theorem rdk_length : ∀ {ds : List (Key × D)} {vs : List (Key × V)}, rdk K H ds vs → vs.length = ds.length
  | [], vs, h => by unfold rdk at h; subst h; rfl
  | (k, d) :: ds, vs, h => by
    unfold rdk at h
    obtain ⟨v, r, rfl, _, z⟩ := h
    simp [rdk_length z]
theorem rds_get : ∀ {ds : List D} {vs : List V} {i : Nat} {d : D}, rds K H ds vs → ds[i]? = some d → ∃ v, vs[i]? = some v ∧ rd K H d v
  | [], _, _, _, _, e => by simp at e
  | a :: ds, vs, 0, d, h, e => by
    unfold rds at h
    obtain ⟨v, r, rfl, q, _⟩ := h
    simp at e; subst e
    exact ⟨v, by simp, q⟩
  | a :: ds, vs, i + 1, d, h, e => by
    unfold rds at h
    obtain ⟨v, r, rfl, _, z⟩ := h
    obtain ⟨w, h1, h2⟩ := rds_get (i := i) (d := d) z (by simpa using e)
    exact ⟨w, by simpa using h1, h2⟩
theorem rds_at : ∀ {ds : List D} {vs : List V} {i : Nat} {v : V}, rds K H ds vs → vs[i]? = some v → ∃ d, ds[i]? = some d ∧ rd K H d v
  | [], vs, _, _, h, e => by unfold rds at h; subst h; simp at e
  | a :: ds, vs, 0, v, h, e => by
    unfold rds at h
    obtain ⟨w, r, rfl, q, _⟩ := h
    simp at e; subst e
    exact ⟨a, by simp, q⟩
  | a :: ds, vs, i + 1, v, h, e => by
    unfold rds at h
    obtain ⟨w, r, rfl, _, z⟩ := h
    obtain ⟨d, h1, h2⟩ := rds_at (i := i) (v := v) z (by simpa using e)
    exact ⟨d, by simpa using h1, h2⟩
theorem rds_append : ∀ {ds es : List D} {vs ws : List V}, rds K H ds vs → rds K H es ws → rds K H (ds ++ es) (vs ++ ws)
  | [], es, vs, ws, h, h' => by unfold rds at h; subst h; exact h'
  | d :: ds, es, vs, ws, h, h' => by
    unfold rds at h
    obtain ⟨v, r, rfl, q, z⟩ := h
    show rds K H (d :: (ds ++ es)) (v :: (r ++ ws))
    unfold rds
    exact ⟨v, _, rfl, q, rds_append z h'⟩
theorem rds_one {d : D} {v : V} (h : rd K H d v) : rds K H [d] [v] := by
  unfold rds
  exact ⟨v, [], rfl, h, by unfold rds; rfl⟩
theorem rds_cons {d : D} {ds : List D} {v : V} {vs : List V} (h : rd K H d v) (h' : rds K H ds vs) : rds K H (d :: ds) (v :: vs) := by
  unfold rds
  exact ⟨v, vs, rfl, h, h'⟩
theorem rds_nil : rds K H [] [] := by unfold rds; rfl
theorem rds_of : ∀ {ds : List D} {vs : List V}, vs.length = ds.length → (∀ (i : Nat) (d : D) (v : V), ds[i]? = some d → vs[i]? = some v → rd K H d v) → rds K H ds vs
  | [], vs, h, _ => by
    have : vs = [] := List.length_eq_zero_iff.mp h
    subst this; exact rds_nil
  | d :: ds, [], h, _ => by simp at h
  | d :: ds, v :: vs, h, k => rds_cons (k 0 d v (by simp) (by simp)) (rds_of (by simpa using h) fun i d' v' h1 h2 => k (i + 1) d' v' (by simpa using h1) (by simpa using h2))
theorem rds_take : ∀ {ds : List D} {vs : List V} (n : Nat), rds K H ds vs → rds K H (ds.take n) (vs.take n)
  | _, _, 0, _ => by simp; exact rds_nil
  | [], vs, n + 1, h => by unfold rds at h; subst h; simp; exact rds_nil
  | d :: ds, vs, n + 1, h => by
    unfold rds at h
    obtain ⟨v, r, rfl, q, z⟩ := h
    simp only [List.take_succ_cons]
    exact rds_cons q (rds_take n z)
theorem rds_drop : ∀ {ds : List D} {vs : List V} (n : Nat), rds K H ds vs → rds K H (ds.drop n) (vs.drop n)
  | _, _, 0, h => by simpa using h
  | [], vs, n + 1, h => by unfold rds at h; subst h; simp; exact rds_nil
  | d :: ds, vs, n + 1, h => by
    unfold rds at h
    obtain ⟨v, r, rfl, q, z⟩ := h
    simp only [List.drop_succ_cons]
    exact rds_drop n z
theorem rds_reverse : ∀ {ds : List D} {vs : List V}, rds K H ds vs → rds K H ds.reverse vs.reverse
  | [], vs, h => by unfold rds at h; subst h; exact rds_nil
  | d :: ds, vs, h => by
    unfold rds at h
    obtain ⟨v, r, rfl, q, z⟩ := h
    simp only [List.reverse_cons]
    exact rds_append (rds_reverse z) (rds_one q)
/-- a flat value: the heap says nothing of it -/
def D.flat : D → Bool
  | .non | .bl _ | .int _ | .str _ => true
  | _ => false
theorem rd_flat {d : D} {v : V} (h : d.flat = true) (r : rd K H d v) : rd K H' d v := by
  cases d <;> first | (cases h; done) | (unfold rd at *; exact r)
end

/-! ### hiding -/
/-- F is H without what stands at L: lists, dicts, instances with their own dicts -/
structure Hid (L : List Addr) (F H : Hp) : Prop where
  out : ∀ a, a ∈ L → F a = none
  keep : ∀ a, a ∉ L → F a = H a
  kind : ∀ a, a ∈ L → (∃ xs, H a = some (.lst xs)) ∨ (∃ k, H a = some (.dK k)) ∨ (∃ C dx fs, H a = some (.ins C dx fs) ∧ dx ∈ L) ∨ ∃ x C fs, H a = some (.own x) ∧ x ∈ L ∧ H x = some (.ins C a fs)
theorem Hid.here {L : List Addr} {F H : Hp} (h : Hid L F H) {a : Addr} (ha : a ∈ L) : ∃ o, H a = some o := by
  rcases h.kind a ha with ⟨_, e⟩ | ⟨_, e⟩ | ⟨_, _, _, e, _⟩ | ⟨_, _, _, e, _⟩ <;> exact ⟨_, e⟩
/-- H' is F' with what stood at L in H -/
def Mix (L : List Addr) (H F' H' : Hp) : Prop := ∀ a, H' a = if a ∈ L then H a else F' a
def mix (L : List Addr) (H F' : Hp) : Hp := fun a => if a ∈ L then H a else F' a

theorem Hid.same {L : List Addr} {F H : Hp} (h : Hid L F H) : Same F H := fun a o e => by
  by_cases ha : a ∈ L
  · rw [h.out a ha] at e; cases e
  · rw [← h.keep a ha]; exact e
section
variable {X : Cx} {pins : List (Addr × Obj)} {σ : St} {F F' H H' : Hp} {s s' : Shared} {L : List Addr}
/-- the objects that stand at L -/
def objs (L : List Addr) (h : Heap) : List (Addr × Obj) := L.filterMap fun a => (h.get? a).map fun o => (a, o)
theorem mem_objs {h : Heap} {a : Addr} {o : Obj} (ha : a ∈ L) (e : h.get? a = some o) : (a, o) ∈ objs L h := List.mem_filterMap.mpr ⟨a, ha, by rw [e]; rfl⟩
theorem of_objs {h : Heap} {p : Addr × Obj} (hp : p ∈ objs L h) : p.1 ∈ L ∧ h.get? p.1 = some p.2 := by
  obtain ⟨a, ha, e⟩ := List.mem_filterMap.mp hp
  cases q : h.get? a with
  | none => rw [q] at e; cases e
  | some o =>
    rw [q] at e
    have e' : (a, o) = p := Option.some.inj e
    subst e'
    exact ⟨ha, q⟩
theorem hid_ob (I : Inv X pins σ H s) (hd : Hid L F H) {a : Addr} (ha : a ∈ L) : ∃ ob, s.heap.get? a = some ob ∧ ∀ v, ob.data ≠ .cell v := by
  rcases hd.kind a ha with ⟨xs, e⟩ | ⟨k, e⟩ | ⟨C, dx, fs, e, _⟩ | ⟨x, C, fs, _, _, e⟩
  · obtain ⟨_, _, _, _, q⟩ := I.hok a _ e
    exact ⟨_, q, fun v z => by cases z⟩
  · obtain ⟨_, _, _, _, ob, es, ep, q, _, d, _⟩ := I.hok a _ e
    exact ⟨_, q, fun v z => by rw [d] at z; cases z⟩
  · obtain ⟨_, _, _, q, _⟩ := I.hok a _ e
    exact ⟨_, q, fun v z => by cases z⟩
  · obtain ⟨_, _, _, _, mA, ⟨od, es, ep, q, d, _⟩, _⟩ := I.hok x _ e
    exact ⟨_, q, fun v z => by rw [d] at z; cases z⟩
/-- hide -/
theorem Inv.hide (I : Inv X pins σ H s) (hd : Hid L F H) : Inv X (pins ++ objs L s.heap) σ F s := by
  have sub : ∀ a, H a = none → F a = none := fun a e => by
    by_cases ha : a ∈ L
    · exact hd.out a ha
    · rw [hd.keep a ha]; exact e
  have kp : ∀ a o, H a = some o → (∀ xs, o = .tup xs ∨ (∃ ob u, o = .frz ob u) ∨ (∃ ps, o = .tbl ps) → F a = some o) := fun a o e => by
    intro xs z
    by_cases ha : a ∈ L
    · exfalso
      rcases hd.kind a ha with ⟨_, q⟩ | ⟨_, q⟩ | ⟨_, _, _, q, _⟩ | ⟨_, _, _, q, _⟩ <;>
      · rw [e] at q; cases q
        rcases z with z | ⟨_, _, z⟩ | ⟨_, z⟩ <;> cases z
    · rw [hd.keep a ha]; exact e
  have B := I.base
  refine ⟨I.ok, I.os, I.bare, ⟨B.keep, B.slot, fun b o e n hx => sub b (B.free b o e n hx), B.there, fun b xs e => kp b _ (B.tups b xs e) xs (.inl rfl), fun b o u e => kp b _ (B.frzs b o u e) [] (.inr (.inl ⟨o, u, rfl⟩)),
    fun b ps e => let ⟨m, z⟩ := B.tbls b ps e; ⟨m, kp b _ z [] (.inr (.inr ⟨_, rfl⟩))⟩⟩, I.loc, I.cell, sub _ I.free, fun x c e => sub _ (I.freeC x c e), fun p hp => ?_, fun a o e => ?_, I.len⟩
  · have hp' : p ∈ X.pn ++ pins ∨ p ∈ objs L s.heap := by
      rcases List.mem_append.mp hp with z | z
      · exact .inl (List.mem_append_left _ z)
      · rcases List.mem_append.mp z with z | z
        · exact .inl (List.mem_append_right _ z)
        · exact .inr z
    rcases hp' with z | z
    · obtain ⟨e, n, r⟩ := I.pin p z
      exact ⟨e, sub _ n, r⟩
    · obtain ⟨hl, e⟩ := of_objs z
      obtain ⟨o, ho⟩ := hd.here hl
      refine ⟨e, hd.out _ hl, fun z => ?_, fun z => ?_, ?_⟩
      · rw [z, I.free] at ho; cases ho
      · have q : p.1 ∈ frs X.stack := by
          rcases I.ok.stk with k | ⟨k, hf⟩
          · rw [k]; exact z
          · rw [k]; unfold frs; rw [List.filterMap_cons, hf]; exact List.mem_cons_of_mem _ z
        rw [I.stkFree _ q] at ho; cases ho
      · obtain ⟨ob, e', c⟩ := hid_ob I hd hl
        rw [e] at e'; cases e'
        exact c
  · have ho := hd.same a o e
    refine (I.hok a o ho).stay (fun _ _ _ q => q) (fun b q => ?_) fun b xs q => kp b _ q xs (.inl rfl)
    by_cases hb : b ∈ L
    · rcases hd.kind b hb with ⟨_, z⟩ | ⟨_, z⟩ | ⟨_, _, _, z, _⟩ | ⟨x, _, _, z, hx, _⟩
      · rw [q] at z; cases z
      · rw [q] at z; cases z
      · rw [q] at z; cases z
      · rw [q] at z; cases z
        rw [hd.out a hx] at e; cases e
    · rw [hd.keep b hb]; exact q
/-- and show again -/
theorem Inv.unhide {σ' : St} (I : Inv X pins σ H s) (hd : Hid L F H) (J : Inv X (pins ++ objs L s.heap) σ' F' s') : Inv X pins σ' (mix L H F') s' := by
  have pin : ∀ a ∈ L, ∀ ob, s.heap.get? a = some ob → s'.heap.get? a = some ob ∧ F' a = none := fun a ha ob e =>
    let z := J.pin (a, ob) (List.mem_append_right _ (List.mem_append_right _ (mem_objs ha e)))
    ⟨z.1, z.2.1⟩
  have ob : ∀ a ∈ L, ∃ o, s.heap.get? a = some o := fun a ha => let ⟨o, e, _⟩ := hid_ob I hd ha; ⟨o, e⟩
  have out : ∀ a ∈ L, F' a = none := fun a ha => let ⟨o, e⟩ := ob a ha; (pin a ha o e).2
  have same : Same F' (mix L H F') := fun a o e => by
    unfold mix
    by_cases ha : a ∈ L
    · rw [out a ha] at e; cases e
    · rw [if_neg ha]; exact e
  have noL : ∀ a, H a = none → a ∉ L := fun a e ha => by
    obtain ⟨o, ho⟩ := hd.here ha
    rw [e] at ho; cases ho
  have un : ∀ a, a ∉ L → F' a = none → mix L H F' a = none := fun a ha e => by
    unfold mix; rw [if_neg ha]; exact e
  have B := J.base
  refine ⟨J.ok, J.os, J.bare, ⟨B.keep, B.slot, fun b o e n hx => un b (noL b (I.base.free b o e n hx)) (B.free b o e n hx), B.there, fun b xs e => same _ _ (B.tups b xs e), fun b o u e => same _ _ (B.frzs b o u e),
    fun b ps e => let ⟨m, z⟩ := B.tbls b ps e; ⟨m, same _ _ z⟩⟩, J.loc, J.cell, un _ (noL _ I.free) J.free, fun x c e => un _ (noL _ (I.freeC x c e)) (J.freeC x c e), fun p hp => ?_, fun a o e => ?_, J.len⟩
  · have hp' : p ∈ X.pn ++ (pins ++ objs L s.heap) := by
      rcases List.mem_append.mp hp with z | z
      · exact List.mem_append_left _ z
      · exact List.mem_append_right _ (List.mem_append_left _ z)
    obtain ⟨e, n, r⟩ := J.pin p hp'
    exact ⟨e, un _ (noL _ (I.pin p hp).2.1) n, r⟩
  · by_cases ha : a ∈ L
    · have e' : H a = some o := by unfold mix at e; rw [if_pos ha] at e; exact e
      have hx := I.hok a o e'
      have kk : ∀ b ∈ L, ∀ u, s.heap.get? b = some u → s'.heap.get? b = some u := fun b hb u q => (pin b hb u q).1
      have mx : ∀ b ∈ L, mix L H F' b = H b := fun b hb => by unfold mix; rw [if_pos hb]
      rcases hd.kind a ha with ⟨xs, z⟩ | ⟨k, z⟩ | ⟨C, dx, fs, z, hdx⟩ | ⟨x, C, fs, z, hx', _⟩
      · rw [e'] at z; cases z
        obtain ⟨z, its, n, r, q⟩ := hx
        exact ⟨z, its, n, r, kk a ha _ q⟩
      · rw [e'] at z; cases z
        obtain ⟨z, y, vs, r, ob, es, ep, q, c⟩ := hx
        exact ⟨z, y, vs, r, ob, es, ep, kk a ha _ q, c⟩
      · rw [e'] at z; cases z
        obtain ⟨d, z, ne, q, mA, ⟨od, es, ep, e2, c⟩, r⟩ := hx
        exact ⟨by rw [mx dx hdx]; exact d, z, ne, kk a ha _ q, mA, ⟨od, es, ep, kk dx hdx _ e2, c⟩, r⟩
      · rw [e'] at z; cases z
        obtain ⟨ob, q⟩ := hx
        exact ⟨ob, kk a ha _ q⟩
    · have e' : F' a = some o := by unfold mix at e; rw [if_neg ha] at e; exact e
      exact (J.hok a o e').stay (fun _ _ _ q => q) (fun b q => same _ _ q) fun b xs q => same _ _ q
end
end Tw

/-! Tw2: expressions over data. -/
namespace Tw
open PySem L2

abbrev Ev := List (Option D)
section
variable {K : PySem.W.Frag} {W : WX} {α β : Type} {H H' : Hp} {σ : St}
structure Rz (K : PySem.W.Frag) (ρ : Ev) (σ : St) (H : Hp) : Prop where
  len : ρ.length = σ.length
  get : ∀ (i : Nat) (d : D), ρ[i]? = some (some d) → ∃ v, σ[i]? = some (some v) ∧ rd K H d v
theorem Rz.mono {ρ : Ev} (e : Same H H') (h : Rz K ρ σ H) : Rz K ρ σ H' := ⟨h.len, fun i d x => let ⟨v, h1, h2⟩ := h.get i d x; ⟨v, h1, rd_mono e d v h2⟩⟩
/-- what is wanted behind, by what comes -/
def pst (K : PySem.W.Frag) (rel : Hp → α → β → Prop) (W : WX) (σ : St) (H : Hp) (r : R α) (Q : β → Hp → Prop) : Prop := match r with
  | .ok a => ∀ v H', Same H H' → rel H' a v → Q v H'
  | .ex x => ∀ c oa H', Same H H' → rdx K H' x c oa → W c oa σ H'
  | .no => False
def tG (K : PySem.W.Frag) (rel : Hp → α → β → Prop) (W : WX) (f : Ev → R α) : St → Hp → (β → Hp → Prop) → Prop := fun σ H Q => ∃ ρ : Ev, Rz K ρ σ H ∧ pst K rel W σ H (f ρ) Q
abbrev SE := Ev → R D
abbrev ST := Ev → R Bool
abbrev SA := Ev → R (List D)
abbrev tD (K : PySem.W.Frag) (W : WX) (f : SE) : TE := tG K (rd K) W f
abbrev relB : Hp → Bool → Bool → Prop := fun _ a b => b = a
abbrev tT (K : PySem.W.Frag) (W : WX) (f : ST) : TT := tG K relB W f
abbrev tA (K : PySem.W.Frag) (W : WX) (f : SA) : TA := tG K (rds K) W f
theorem pst.mono {rel : Hp → α → β → Prop} {r : R α} {Q : β → Hp → Prop} (e : Same H H') (h : pst K rel W σ H r Q) : pst K rel W σ H' r Q := by
  cases r with
  | ok a => exact fun v H2 s q => h v H2 (e.trans s) q
  | ex x => exact fun c oa H2 s q => h c oa H2 (e.trans s) q
  | no => exact h
theorem pst.imp {rel : Hp → α → β → Prop} {r : R α} {Q Q' : β → Hp → Prop} (h : pst K rel W σ H r Q) (k : ∀ a v H', r = .ok a → Same H H' → rel H' a v → Q v H' → Q' v H') : pst K rel W σ H r Q' := by
  cases r with
  | ok a => exact fun v H2 s q => k a v H2 rfl s q (h v H2 s q)
  | ex x => exact h
  | no => exact h
theorem pst.bind {γ δ : Type} {rel : Hp → α → β → Prop} {rel' : Hp → γ → δ → Prop} {r : R α} {g : α → R γ} {Q : δ → Hp → Prop} {N : β → Hp → Prop} (h : pst K rel' W σ H (r.bind g) Q)
    (k : ∀ a v H', r = .ok a → Same H H' → rel H' a v → pst K rel' W σ H' (g a) Q → N v H') : pst K rel W σ H r N := by
  cases r with
  | ok a => exact fun v H2 s q => k a v H2 rfl s q (h.mono s)
  | ex x => exact h
  | no => exact h
end
section
variable {X : Cx} {W : WX} {e a b c : Expr} {es : List Expr} {pos : Pos} {f g : SE} {p q : ST}
theorem _root_.L2.PE.imp {t t' : TE} (h : PE X e t) (k : ∀ σ H Q, t' σ H Q → t σ H Q) : PE X e t' := ⟨fun pins s σ H Q I w => h.run pins s σ H Q I (k σ H Q w)⟩
theorem _root_.L2.PT.imp {t t' : TT} (h : PT X e t) (k : ∀ σ H Q, t' σ H Q → t σ H Q) : PT X e t' := ⟨fun pins s σ H Q I w => h.run pins s σ H Q I (k σ H Q w)⟩
theorem _root_.L2.PA.imp {t t' : TA} (h : PA X es t) (k : ∀ σ H Q, t' σ H Q → t σ H Q) : PA X es t' := ⟨fun pos pins s σ H Q I w => h.run pos pins s σ H Q I (k σ H Q w)⟩
/-- either of two readings -/
theorem _root_.L2.PE.or {t t' : TE} (h : PE X e t) (h' : PE X e t') : PE X e (fun σ H Q => t σ H Q ∨ t' σ H Q) := ⟨fun pins s σ H Q I w => w.elim (h.run pins s σ H Q I) (h'.run pins s σ H Q I)⟩
theorem le_or (h : PE X e (tD X.K W f)) (h' : PE X e (tD X.K W g)) : PE X e (tD X.K W fun ρ => (f ρ).or (g ρ)) := by
  refine (PE.or h h').imp fun σ H Q ⟨ρ, z, w⟩ => ?_
  cases q : f ρ with
  | no => exact .inr ⟨ρ, z, by simpa [R.or, q] using w⟩
  | ok d => exact .inl ⟨ρ, z, by simpa [R.or, q] using w⟩
  | ex x => exact .inl ⟨ρ, z, by simpa [R.or, q] using w⟩
/-! ### names, constants -/
def eVar (i : Nat) : SE := fun ρ => match ρ[i]? with
  | some (some d) => .ok d
  | _ => .no
def eC (d : D) : SE := fun _ => .ok d
theorem le_var {x : Str} (i : Nat) (h : PE X (.Name x pos) (tVar i)) : PE X (.Name x pos) (tD X.K W (eVar i)) := h.imp fun σ H Q ⟨ρ, z, w⟩ => by
  unfold eVar at w
  split at w
  · rename_i d hd
    obtain ⟨v, h1, h2⟩ := z.get i d hd
    exact ⟨v, h1, w v H (Same.refl H) h2⟩
  · exact w.elim
theorem le_c {d : D} {v : V} (h : PE X e (tC v)) (r : ∀ H, rd X.K H d v) : PE X e (tD X.K W (eC d)) := h.imp fun σ H Q ⟨ρ, z, w⟩ => w v H (Same.refl H) (r H)
theorem le_int {i : Int} {j : Nat} : PE X (.Constant (.int i) j pos) (tD X.K W (eC (.int i))) := le_c pe_int fun _ => by unfold rd; rfl
theorem le_bl {b : Bool} {j : Nat} : PE X (.Constant (.bool b) j pos) (tD X.K W (eC (.bl b))) := le_c pe_bl fun _ => by unfold rd; rfl
theorem le_non {j : Nat} : PE X (.Constant .none j pos) (tD X.K W (eC .non)) := le_c pe_non fun _ => by unfold rd; rfl
theorem le_str {x : Str} {j : Nat} : PE X (.Constant (.str x) j pos) (tD X.K W (eC (.str x))) := le_c pe_str fun _ => by unfold rd; rfl
theorem le_gint {x : Str} {i : Int} (hg : Gl X x) (hm : ∃ t, X.mg x = some (.int i t)) (hd : (x == ("__debug__" : Str)) = false := by decide) : PE X (.Name x pos) (tD X.K W (eC (.int i))) := by
  obtain ⟨t, e⟩ := hm
  exact le_c (v := .int i) (pe_glob hg e ⟨t, rfl⟩ hd) fun _ => by unfold rd; rfl
/-! ### operators on values -/
/-- what an operator's rule must give for the data's function g -/
def Lift2 (K : PySem.W.Frag) (r : R2) (g : D → D → R D) : Prop := ∀ d e z x y H Q, g d e = .ok z → rd K H d x → rd K H e y → (∀ v H', Same H H' → rd K H' z v → Q v H') → r x y H Q
def Lift1 (K : PySem.W.Frag) (r : V → Hp → VK → Prop) (g : D → R D) : Prop := ∀ d z x H Q, g d = .ok z → rd K H d x → (∀ v H', Same H H' → rd K H' z v → Q v H') → r x H Q
/-- g tells of no exception -/
def NoX2 (g : D → D → R D) : Prop := ∀ d e x, g d e ≠ .ex x
def e2 (g : D → D → R D) (f f' : SE) : SE := fun ρ => (f ρ).bind fun d => (f' ρ).bind fun e => (g d e).nox
def e1 (g : D → R D) (f : SE) : SE := fun ρ => (f ρ).bind fun d => (g d).nox
theorem pst_nox {α β : Type} {K : PySem.W.Frag} {rel : Hp → α → β → Prop} {σ : St} {H : Hp} {r : R α} {Q : β → Hp → Prop} (h : pst K rel W σ H r.nox Q) : ∃ a, r = .ok a ∧ ∀ v H', Same H H' → rel H' a v → Q v H' := by
  cases r with
  | ok a => exact ⟨a, rfl, h⟩
  | ex x => exact h.elim
  | no => exact h.elim
theorem op2_core {K : PySem.W.Frag} {r : R2} {g : D → D → R D} {f f' : SE} (hg : Lift2 K r g) : ∀ σ H Q, tD K W (e2 g f f') σ H Q → tOp r (tD K W f) (tD K W f') σ H Q := fun σ H Q ⟨ρ, z, w⟩ =>
  ⟨ρ, z, pst.bind (rel := rd K) w fun d x H1 _ s1 r1 w1 => ⟨ρ, z.mono s1, pst.bind (rel := rd K) w1 fun e y H2 _ s2 r2 w2 => by
    obtain ⟨a, e', k⟩ := pst_nox w2
    exact hg d e a x y H2 Q e' (rd_mono s2 d x r1) r2 k⟩⟩
theorem le_op {op : Operator} {r : R2} {g' : D → D → R D} (ho : OpR X (binaryOp op) r) (hg : Lift2 X.K r g') (ha : PE X a (tD X.K W f)) (hb : PE X b (tD X.K W g)) : PE X (.BinOp a op b pos) (tD X.K W (e2 g' f g)) :=
  (pe_op ho ha hb).imp (op2_core hg)
theorem le_ix {r : R2} {g' : D → D → R D} (hr : IxR X r) (hg : Lift2 X.K r g') (ha : PE X a (tD X.K W f)) (hb : PE X b (tD X.K W g)) (hs : PlainIx b) : PE X (.Subscript a b pos) (tD X.K W (e2 g' f g)) :=
  (pe_ix hr ha hb hs).imp (op2_core hg)
theorem le_cmp {op : CmpOp} {r : R2} {g' : D → D → R D} (ho : OpR X (compareOp op) r) (hg : Lift2 X.K r g') (ha : PE X a (tD X.K W f)) (hb : PE X b (tD X.K W g)) (hm : behindInMarks op b = false) : PE X (.Compare a [op] [b] pos) (tD X.K W (e2 g' f g)) :=
  (pe_cmpR ho ha hb hm).imp (op2_core hg)
theorem le_un {op : UnaryOp} {r : V → Hp → VK → Prop} {g' : D → R D} (ho : UnR X (unaryOp op) r) (hg : Lift1 X.K r g') (ha : PE X a (tD X.K W f)) : PE X (.UnaryOp op a pos) (tD X.K W (e1 g' f)) :=
  (pe_un ho ha).imp fun σ H Q ⟨ρ, z, w⟩ => ⟨ρ, z, pst.bind (rel := rd X.K) w fun d x H1 _ s1 r1 w1 => by
    obtain ⟨a, e', k⟩ := pst_nox w1
    exact hg d a x H1 Q e' r1 k⟩
/-! ### tests -/
def asB : D → R Bool
  | .bl b => .ok b
  | _ => .no
def tV (f : SE) : ST := fun ρ => (f ρ).bind asB
theorem asB_rd {K : PySem.W.Frag} {H : Hp} {d : D} {v : V} {σ : St} {Q : Bool → Hp → Prop} (r : rd K H d v) (w : pst K relB W σ H (asB d) Q) : ∃ k, v = .bl k ∧ Q k H := by
  cases d with
  | bl b =>
    unfold rd at r
    exact ⟨b, r, w b H (Same.refl H) rfl⟩
  | _ => exact w.elim
theorem lt_test (h : PT X e (tTest (tD X.K W f))) : PT X e (tT X.K W (tV f)) := h.imp fun σ H Q ⟨ρ, z, w⟩ => ⟨ρ, z, pst.bind (rel := rd X.K) w fun d x H1 _ s1 r1 w1 => asB_rd r1 w1⟩
theorem lt_B (h : PT X e (tB (tD X.K W f))) : PT X e (tT X.K W (tV f)) := h.imp fun σ H Q ⟨ρ, z, w⟩ => ⟨ρ, z, pst.bind (rel := rd X.K) w fun d x H1 _ s1 r1 w1 => asB_rd r1 w1⟩
/-- any expression that gives a truth -/
theorem lt_val (h : PE X e (tD X.K W f)) (he : ∀ whole, isTrue e X.env whole = (do let v ← whole; standAt e.pos; holding [v] (truthy v)) := by intro _; rfl) : PT X e (tT X.K W (tV f)) := lt_B (pt_val h he)
theorem lt_cmp {op : CmpOp} {r : R2} {g' : D → D → R D} (ho : OpR X (compareOp op) r) (hg : Lift2 X.K r g') (ha : PE X a (tD X.K W f)) (hb : PE X b (tD X.K W g)) (hm : behindInMarks op b = false) : PT X (.Compare a [op] [b] pos) (tT X.K W (tV (e2 g' f g))) :=
  lt_test ((pt_cmpR ho ha hb hm).imp fun σ H Q w => let ⟨ρ, z, w'⟩ := w; (op2_core hg) σ H _ ⟨ρ, z, w'⟩)
theorem lt_or' (h : PT X e (tT X.K W p)) (h' : PT X e (tT X.K W q)) : PT X e (tT X.K W fun ρ => (p ρ).or (q ρ)) := by
  refine ⟨fun pins s σ H Q I ⟨ρ, z, w⟩ => ?_⟩
  cases e : p ρ with
  | no => exact h'.run pins s σ H Q I ⟨ρ, z, by simpa [R.or, e] using w⟩
  | ok d => exact h.run pins s σ H Q I ⟨ρ, z, by simpa [R.or, e] using w⟩
  | ex x => exact h.run pins s σ H Q I ⟨ρ, z, by simpa [R.or, e] using w⟩
def tNo (p : ST) : ST := fun ρ => (p ρ).map (!·)
def tAn (p q : ST) : ST := fun ρ => (p ρ).bind fun b => if b = true then q ρ else .ok false
def tOr' (p q : ST) : ST := fun ρ => (p ρ).bind fun b => if b = true then .ok true else q ρ
theorem lt_not (h : PT X a (tT X.K W p)) : PT X (.UnaryOp .Not a pos) (tT X.K W (tNo p)) := (pt_not h).imp fun σ H Q ⟨ρ, z, w⟩ => ⟨ρ, z, pst.bind (rel := relB) w fun d x H1 _ s1 r1 w1 => by
  subst r1
  exact w1 _ H1 (Same.refl H1) rfl⟩
theorem _root_.L2.PW.imp {t t' : TT} (h : PW X e t) (k : ∀ σ H Q, t' σ H Q → t σ H Q) : PW X e t' := ⟨fun wh pins s σ H Q I w => h.run wh pins s σ H Q I (k σ H Q w)⟩
theorem lw_and1 (h : PT X a (tT X.K W p)) : PW X (.BoolOp .And [a] pos) (tT X.K W p) := pw_and1 h
theorem lw_or1 (h : PT X a (tT X.K W p)) : PW X (.BoolOp .Or [a] pos) (tT X.K W p) := pw_or1 h
theorem lw_and (h : PT X a (tT X.K W p)) (h' : PW X (.BoolOp .And (b :: es) pos) (tT X.K W q)) : PW X (.BoolOp .And (a :: b :: es) pos) (tT X.K W (tAn p q)) := (pw_and h h').imp fun σ H Q ⟨ρ, z, w⟩ => ⟨ρ, z, pst.bind (rel := relB) w fun d x H1 _ s1 r1 w1 => by
  subst r1
  cases x with
  | true => exact ⟨ρ, z.mono s1, w1⟩
  | false => exact w1 _ H1 (Same.refl H1) rfl⟩
theorem lw_or (h : PT X a (tT X.K W p)) (h' : PW X (.BoolOp .Or (b :: es) pos) (tT X.K W q)) : PW X (.BoolOp .Or (a :: b :: es) pos) (tT X.K W (tOr' p q)) := (pw_or h h').imp fun σ H Q ⟨ρ, z, w⟩ => ⟨ρ, z, pst.bind (rel := relB) w fun d x H1 _ s1 r1 w1 => by
  subst r1
  cases x with
  | true => exact w1 _ H1 (Same.refl H1) rfl
  | false => exact ⟨ρ, z.mono s1, w1⟩⟩
/-- .. as values -/
def eAn (f g : SE) : SE := fun ρ => (f ρ).bind fun d => (asB d).bind fun b => if b = true then g ρ else .ok (.bl false)
def eOr (f g : SE) : SE := fun ρ => (f ρ).bind fun d => (asB d).bind fun b => if b = true then .ok (.bl true) else g ρ
def eNo (f : SE) : SE := fun ρ => (f ρ).bind fun d => (asB d).map fun b => .bl (!b)
theorem asB_k {K : PySem.W.Frag} {γ δ : Type} {rel : Hp → γ → δ → Prop} {H : Hp} {d : D} {v : V} {σ : St} {k : Bool → R γ} {Q : δ → Hp → Prop} (r : rd K H d v) (w : pst K rel W σ H ((asB d).bind k) Q) : ∃ b, v = .bl b ∧ pst K rel W σ H (k b) Q := by
  cases d with
  | bl b =>
    unfold rd at r
    exact ⟨b, r, w⟩
  | _ => exact w.elim
theorem le_one {op} (h : PE X a (tD X.K W f)) : PE X (.BoolOp op [a] pos) (tD X.K W f) := pe_one h
theorem le_and (h : PE X a (tD X.K W f)) (h' : PE X (.BoolOp .And (b :: es) pos) (tD X.K W g)) : PE X (.BoolOp .And (a :: b :: es) pos) (tD X.K W (eAn f g)) := (pe_and h h').imp fun σ H Q ⟨ρ, z, w⟩ => ⟨ρ, z, pst.bind (rel := rd X.K) w fun d x H1 _ s1 r1 w1 => by
  obtain ⟨b, e, w2⟩ := asB_k r1 w1
  refine ⟨b, e, ?_⟩
  cases b with
  | true => exact ⟨ρ, z.mono s1, w2⟩
  | false => exact w2 _ H1 (Same.refl H1) (by unfold rd; rfl)⟩
theorem le_orV (h : PE X a (tD X.K W f)) (h' : PE X (.BoolOp .Or (b :: es) pos) (tD X.K W g)) : PE X (.BoolOp .Or (a :: b :: es) pos) (tD X.K W (eOr f g)) := (pe_or h h').imp fun σ H Q ⟨ρ, z, w⟩ => ⟨ρ, z, pst.bind (rel := rd X.K) w fun d x H1 _ s1 r1 w1 => by
  obtain ⟨b, e, w2⟩ := asB_k r1 w1
  refine ⟨b, e, ?_⟩
  cases b with
  | true => exact w2 _ H1 (Same.refl H1) (by unfold rd; rfl)
  | false => exact ⟨ρ, z.mono s1, w2⟩⟩
theorem le_not (h : PE X a (tD X.K W f)) : PE X (.UnaryOp .Not a pos) (tD X.K W (eNo f)) := (pe_not h).imp fun σ H Q ⟨ρ, z, w⟩ => ⟨ρ, z, pst.bind (rel := rd X.K) w fun d x H1 _ s1 r1 w1 => by
  obtain ⟨b, e, w2⟩ := asB_k r1 w1
  exact ⟨b, e, w2 _ H1 (Same.refl H1) (by unfold rd; rfl)⟩⟩
def eIf (p : ST) (f g : SE) : SE := fun ρ => (p ρ).bind fun b => if b = true then f ρ else g ρ
theorem le_if (hc : PT X c (tT X.K W p)) (ha : PE X a (tD X.K W f)) (hb : PE X b (tD X.K W g)) : PE X (.IfExp c a b pos) (tD X.K W (eIf p f g)) := (pe_ifExp hc ha hb).imp fun σ H Q ⟨ρ, z, w⟩ => ⟨ρ, z, pst.bind (rel := relB) w fun d x H1 _ s1 r1 w1 => by
  subst r1
  cases x with
  | true => exact ⟨ρ, z.mono s1, w1⟩
  | false => exact ⟨ρ, z.mono s1, w1⟩⟩
/-! ### argument lists, displays -/
def aNil : SA := fun _ => .ok []
def aCons (f : SE) (g : SA) : SA := fun ρ => (f ρ).bind fun d => (g ρ).map fun ds => d :: ds
theorem la_nil : PA X [] (tA X.K W aNil) := pa_nil.imp fun σ H Q ⟨ρ, z, w⟩ => w [] H (Same.refl H) rds_nil
theorem la_cons {g : SA} (ha : PE X e (tD X.K W f)) (hr : PA X es (tA X.K W g)) (hs : starEach (e :: es) X.env = (false, eval e X.env) :: starEach es X.env := by rfl) : PA X (e :: es) (tA X.K W (aCons f g)) :=
  (pa_cons ha hr hs).imp fun σ H Q ⟨ρ, z, w⟩ => ⟨ρ, z, pst.bind (rel := rd X.K) w fun d x H1 _ s1 r1 w1 => ⟨ρ, z.mono s1, pst.bind (rel := rds X.K) w1 fun ds vs H2 _ s2 r2 w2 => w2 _ H2 (Same.refl H2) (rds_cons (rd_mono s2 d x r1) r2)⟩⟩
def sz (n : Nat) : Bool := decide (n ≤ sizeLine)
def eTup (g : SA) : SE := fun ρ => (g ρ).bind fun ds => if sz ds.length = true then .ok (.tup ds) else .no
def eLst (g : SA) : SE := fun ρ => (g ρ).bind fun ds => if sz ds.length = true then .ok (.lst ds) else .no
theorem same_new {H : Hp} {p : Addr} {o : HO} (h : H p = none) : Same H (upd H p o) := fun a u e => by rw [upd_ne (ne_of_none e h)]; exact e
theorem le_tup {g : SA} {x1} (h : PA X es (tA X.K W g)) : PE X (.Tuple es x1 pos) (tD X.K W (eTup g)) := (pe_tup h).imp fun σ H Q ⟨ρ, z, w⟩ => ⟨ρ, z, pst.bind (rel := rds X.K) w fun ds vs H1 _ s1 r1 w1 => by
  by_cases hz : sz ds.length = true
  · rw [if_pos hz] at w1
    refine ⟨by rw [rds_length r1]; exact of_decide_eq_true hz, fun p hp => w1 _ _ (same_new hp) ?_⟩
    unfold rd
    exact ⟨p, vs, rfl, upd_same, rds_mono (same_new hp) ds vs r1⟩
  · rw [if_neg hz] at w1
    exact w1.elim⟩
theorem le_lst {g : SA} (h : PA X es (tA X.K W g)) : PE X (.List es pos) (tD X.K W (eLst g)) := (pe_lst h).imp fun σ H Q ⟨ρ, z, w⟩ => ⟨ρ, z, pst.bind (rel := rds X.K) w fun ds vs H1 _ s1 r1 w1 => by
  by_cases hz : sz ds.length = true
  · rw [if_pos hz] at w1
    refine ⟨by rw [rds_length r1]; exact of_decide_eq_true hz, fun p hp => w1 _ _ (same_new hp) ?_⟩
    unfold rd
    exact ⟨p, vs, rfl, upd_same, rds_mono (same_new hp) ds vs r1⟩
  · rw [if_neg hz] at w1
    exact w1.elim⟩
/-! ### calls of built-ins -/
def LiftA (K : PySem.W.Frag) (r : List V → Hp → VK → Prop) (g : List D → R D) : Prop := ∀ ds z vs H Q, g ds = .ok z → rds K H ds vs → (∀ v H', Same H H' → rd K H' z v → Q v H') → r vs H Q
def eB (g : List D → R D) (f : SA) : SE := fun ρ => (f ρ).bind fun ds => (g ds).nox
theorem cb_core {K : PySem.W.Frag} {r : List V → Hp → VK → Prop} {g : List D → R D} {f : SA} (hg : LiftA K r g) : ∀ σ H Q, tD K W (eB g f) σ H Q → tCB r (tA K W f) σ H Q := fun σ H Q ⟨ρ, z, w⟩ =>
  ⟨ρ, z, pst.bind (rel := rds K) w fun ds vs H1 _ s1 r1 w1 => by
    obtain ⟨a, e', k⟩ := pst_nox w1
    exact hg ds a vs H1 Q e' r1 k⟩
theorem le_callB {x : Str} {id : String} {p : Pos} {r : List V → Hp → VK → Prop} {g : List D → R D} {h : SA} (hc : CallR X (.builtin id) r) (hl : LiftA X.K r g) (hg : Gl X x) (hm : X.mg x = none) (hv : bootBuiltins x = some (.builtin id)) (ha : PA X (e :: es) (tA X.K W h)) (hn : x ≠ "__name__" := by decide) (hdb : (x == ("__debug__" : Str)) = false := by decide)
    (he : starEach (e :: es) X.env = (false, eval e X.env) :: starEach es X.env := by rfl) (hpl : (backTo pos (starEach es X.env)).any (·.1) = false := by rfl) : PE X (.Call (.Name x p) (e :: es) [] pos) (tD X.K W (eB g h)) :=
  (pe_callB hc hg hm hv ha hn hdb he hpl).imp (cb_core hl)
theorem le_callTy {x : Str} {T : String} {p : Pos} {r : List V → Hp → VK → Prop} {g : List D → R D} {h : SA} (hc : CallR X (.type T) r) (hl : LiftA X.K r g) (hg : Gl X x) (hm : X.mg x = none) (hv : bootBuiltins x = some (.type T)) (ha : PA X (e :: es) (tA X.K W h)) (hn : x ≠ "__name__" := by decide) (hdb : (x == ("__debug__" : Str)) = false := by decide)
    (he : starEach (e :: es) X.env = (false, eval e X.env) :: starEach es X.env := by rfl) (hpl : (backTo pos (starEach es X.env)).any (·.1) = false := by rfl) : PE X (.Call (.Name x p) (e :: es) [] pos) (tD X.K W (eB g h)) :=
  (pe_callTy hc hg hm hv ha hn hdb he hpl).imp (cb_core hl)
/-! ### calls of the text's own defs -/
/-- the promise: the data's function m tells what comes -/
def spD (K : PySem.W.Frag) (n : Nat) (m : List D → R D) : Sp := fun vs H Q E => ∃ ds, ds.length = n ∧ rds K H ds vs ∧ match m ds with
  | .ok d => ∀ v H', Same H H' → rd K H' d v → Q v H'
  | .ex x => ∀ c oa H', Same H H' → rdx K H' x c oa → E c oa H'
  | .no => False
def eCall (m : List D → R D) (f : SA) : SE := fun ρ => (f ρ).bind m
theorem le_call {CX : CXT} {k n : Nat} {fa : Addr} {fd : FuncData} {ps : List Str} {x : Str} {p : Pos} {m : List D → R D} {h : SA} (F : FnOk X.prog X.w X.K X.mg X.base CX k fa fd ps (spD X.K n m)) (hr : Room k X.A) (hg : Gl X x) (hm : X.mg x = some (.ref fa)) (hk : PySem.W.keepIn X.K (.ref fa) = true) (hb : Binds X.K fd ps []) (hx : ∀ σ, PassesAt CX X σ (fun c oa H => W c oa σ H))
    (ha : PA X (e :: es) (tA X.K W h)) (hn : ∀ ρ ds, h ρ = .ok ds → ds.length = n) (hdb : (x == ("__debug__" : Str)) = false := by decide) (he : starEach (e :: es) X.env = (false, eval e X.env) :: starEach es X.env := by rfl) (hpl : (backTo pos (starEach es X.env)).any (·.1) = false := by rfl) :
    PE X (.Call (.Name x p) (e :: es) [] pos) (tD X.K W (eCall m h)) := by
  refine (pe_callSD (E := fun σ c oa H => W c oa σ H) F hr hg hm hk hb .nil hx ha hdb he hpl).imp fun σ H Q ⟨ρ, z, w⟩ => ⟨ρ, z, pst.bind (rel := rds X.K) w fun ds vs H1 ed s1 r1 w1 => ?_⟩
  refine ⟨ds, hn ρ ds ed, by rw [List.append_nil]; exact r1, ?_⟩
  cases e : m ds with
  | ok d => rw [e] at w1; exact w1
  | ex x => rw [e] at w1; exact w1
  | no => rw [e] at w1; exact w1
end
end Tw

/-! TwRev: t[::-1] of a tuple. -/
namespace Tw
open PySem L2 PySem.Spec PyProof.Rows HT
section
variable {prog : Program} {w : World} {A : Around} {E : Value → Shared → Prop} {s : Shared}
theorem fm_congr {α β : Type} {f g : α → Option β} : ∀ {l : List α}, (∀ x ∈ l, f x = g x) → l.filterMap f = l.filterMap g
  | [], _ => rfl
  | x :: l, h => by
    rw [List.filterMap_cons, List.filterMap_cons, h x (by simp), fm_congr (l := l) fun y hy => h y (List.mem_cons_of_mem _ hy)]
theorem fm_all {α : Type} : ∀ (xs : List α), (List.range xs.length).filterMap (fun m => xs[m]?) = xs
  | [] => rfl
  | x :: xs => by
    rw [List.length_cons, List.range_succ_eq_map, List.filterMap_cons, List.filterMap_map]
    have e : ((fun m => (x :: xs)[m]?) ∘ Nat.succ) = fun m => xs[m]? := by funext m; simp
    rw [e, fm_all xs]
    rfl
theorem pick_rev (xs : List Value) : ((List.range xs.length).filterMap fun (m : Nat) => xs.toArray[(((xs.length : Int) - 1) + (m : Int) * -1).toNat]?) = xs.reverse := by
  have e : ((List.range xs.length).filterMap fun (m : Nat) => xs.toArray[(((xs.length : Int) - 1) + (m : Int) * -1).toNat]?) = (List.range xs.reverse.length).filterMap fun (m : Nat) => xs.reverse[m]? := by
    rw [List.length_reverse]
    refine fm_congr fun m hm => ?_
    have hm := List.mem_range.mp hm
    rw [List.getElem?_reverse hm, List.getElem?_toArray]
    congr 1
    omega
  rw [e, fm_all]
theorem sliceApplied_rev {sl : Addr} {vs : Value} {n : Nat} {Q : Int × Int × Nat → Shared → Prop} (hs : s.heap.IsSliceOf sl .none .none vs) (ps : IsPart vs (some (-1)))
    (h : Q ((n : Int) - 1, -1, n) s) : wpAny (model prog w) A (Builtin.Slice.sliceApplied (.ref sl) (pure (n : Int))) Q E s := by
  obtain ⟨os, hos, hcs, hds⟩ := id hs
  unfold Builtin.Slice.sliceApplied Builtin.Slice.sliceFields
  refine wpAny_bind (wpAny_bind (wpAny_field hos hds (x := .none) rfl (wpAny_bind (wpAny_field hos hds (x := .none) rfl (wpAny_bind (wpAny_field hos hds (x := vs) rfl (wpAny_pure ?_)))))))
  refine wpAny_bind (slicePart_ ps ?_)
  show wpAny _ _ (if ((-1 : Int) == 0) = true then _ else _) _ _ s
  rw [if_neg (by decide)]
  refine wpAny_bind (slicePart_none (wpAny_bind (slicePart_none (wpAny_bind (wpAny_pure ?_)))))
  have e : Builtin.Slice.sliceAdjust none none (-1) (n : Int) = ((n : Int) - 1, -1) := by
    unfold Builtin.Slice.sliceAdjust
    simp
  have e2 : Builtin.Slice.slicePlaces ((n : Int) - 1) (-1) (-1) = n := by
    unfold Builtin.Slice.slicePlaces
    have h1 : ¬ ((-1 : Int) > 0) := by omega
    simp only [h1, if_false]
    have : -(-1 : Int) = 1 := by omega
    rw [this, Int.ediv_one]
    split <;> omega
  show wpAny _ _ (match Builtin.Slice.sliceAdjust none none (-1) (n : Int) with | (lo, hi) => pure (lo, (-1 : Int), Builtin.Slice.slicePlaces lo hi (-1))) _ _ s
  rw [e]
  show wpAny _ _ (pure ((n : Int) - 1, (-1 : Int), Builtin.Slice.slicePlaces ((n : Int) - 1) (-1) (-1))) _ _ s
  rw [e2]
  exact wpAny_pure h
theorem getItem_tuple_rev {t sl : Addr} {its : List Value} {vs : Value} {Q : Value → Shared → Prop} (ht : IsTup s.heap t its.toArray) (hs : s.heap.IsSliceOf sl .none .none vs) (ps : IsPart vs (some (-1)))
    (h : Q (.ref s.heap.objs.size) { s with heap := s.heap.push { cls := .type "tuple", data := .seq its.reverse.toArray } }) (hsz : its.length ≤ sizeLine) : wpAny (model prog w) A (getItem (.ref t) (.ref sl)) Q E s := by
  have htake : sizeOk (.seq its.reverse.toArray) := by
    show its.reverse.toArray.size ≤ sizeLine
    rw [List.size_toArray, List.length_reverse]; exact hsz
  obtain ⟨os, hos, hcs, hds⟩ := id hs
  have hTs : s.TypeIs (.ref sl) "slice" := ⟨os, hos, hcs⟩
  unfold getItem
  try with_reducible refine wpAny_holding ?_
  first | refine wpAny_bind (wpAny_pure ?_) | skip
  refine wpAny_bind (wpAny_sequenceKey ht.typeIs (by decide) ?_)
  refine wpAny_bind (wpAny_callSpecial?_slot (name := Str.ofString "__getitem__") ht.typeIs PyProof.Rows.slot_tuple_getitem
    (wpAny_call_entry PyProof.Rows.slot_tuple_getitem ht.typeIs entry_tuple_getitem ?_ (args_tuple_getitem _ _)))
  show wpAny _ _ (Builtin.Tuple.tupleItemsOf (.ref t) >>= _) _ _ s
  refine wpAny_bind (tupleItemsOf_ ht ?_)
  refine wpAny_bind (wpAny_typeOf hTs ?_)
  rw [if_pos (by decide)]
  refine wpAny_bind (sliceApplied_rev hs ps ?_)
  have hno : ¬ ((((its.toArray.size : Int) - 1) == 0 && (-1 : Int) == 1 && its.toArray.size == its.toArray.size) = true) := by
    intro q
    rw [Bool.and_eq_true, Bool.and_eq_true] at q
    exact absurd q.1.2 (by decide)
  show wpAny _ _ (if ((((its.toArray.size : Int) - 1) == 0 && (-1 : Int) == 1 && its.toArray.size == its.toArray.size) = true) then _ else _) _ _ s
  rw [if_neg hno]
  have e : ((List.range its.toArray.size).filterMap fun (k : Nat) => its.toArray[(((its.toArray.size : Int) - 1) + (k : Int) * -1).toNat]?).toArray = its.reverse.toArray := by
    rw [List.size_toArray, pick_rev]
  rw [e]
  first
    | exact wpAny_bind (m := Builtin.Tuple.tupleExact _) (wpAny_newObj_type (wpAny_pure ⟨_, rfl, wpAny_pure h⟩) htake)
    | exact wpAny_bind (m := Builtin.Tuple.tupleExact _) (wpAny_newObj_type (wpAny_bind (wpAny_pure (wpAny_pure ⟨_, rfl, wpAny_pure h⟩))) htake)
    | exact wpAny_bind (wpAny_bind (m := Builtin.Tuple.tupleExact _) (wpAny_newObj_type (wpAny_pure (wpAny_pure ⟨_, rfl, wpAny_pure h⟩)) htake))
    | exact wpAny_bind (wpAny_bind (m := Builtin.Tuple.tupleExact _) (wpAny_newObj_type (wpAny_pure ⟨_, rfl, wpAny_pure h⟩) htake))
end
section
variable {X : Cx}
def tRevT (K : PySem.W.Frag) (te : TE) : TE := fun σ H Q => te σ H fun x H1 => ∃ a xs, x = .ref a ∧ SqT K H1 a xs ∧ ∀ p, H1 p = none → Q (.ref p) (upd H1 p (.tup xs.reverse))
theorem pe_revT {e : Expr} {te : TE} {k : Nat} {p1 p2 p3 pos : Pos} (he : PE X e te) : PE X (.Subscript e (.Slice none none (some (.UnaryOp .USub (.Constant (.int 1) k p1) p2)) p3) pos) (tRevT X.K te) := by
  refine ⟨fun pins s σ H Q I h => ?_⟩
  refine Subscript_ (thn (he.run pins s σ H _ I h) fun v s1 ⟨x, H1, I1, r1, q1⟩ => ?_)
  obtain ⟨a, xs, ex, hx, q⟩ := q1
  subst ex
  cases r1
  have hst : PO X (some (.UnaryOp .USub (.Constant (.int 1) k p1) p2)) (tPart (tUn (rU fun i => .int (-i)) (tC (.int 1)))) := po_some (pe_un un_neg pe_int)
  refine wpAny_Slice (thn (po_none.run pins s1 σ H1 (fun o H2 => o = none ∧ H2 = H1) I1 ⟨rfl, rfl⟩) fun vl s2 ⟨l, H2, I2, pl, el, e2⟩ => ?_)
  subst el e2
  refine thn (po_none.run pins s2 σ H2 (fun o H3 => o = none ∧ H3 = H2) I2 ⟨rfl, rfl⟩) fun vu s3 ⟨u, H3, I3, pu, eu, e3⟩ => ?_
  subst eu e3
  refine thn (hst.run pins s3 σ H3 (fun o H4 => o = some (-1) ∧ H4 = H3) I3 ⟨1, rfl, -1, rfl, rfl, rfl⟩) fun vs s4 ⟨o, H4, I4, ps, eo, e4⟩ => ?_
  subst eo e4
  have I5 : Inv X pins σ H4 { s4 with heap := s4.heap.push { cls := .type "slice", data := .fields #[vl, vu, vs] } } := I4.kept (t' := s4.toks) fun b ob q => Heap.get?_push_of_some _ q
  obtain ⟨its, r, ht, hz⟩ := I5.tuple hx
  have hlen := r.length
  cases pl
  cases pu
  show wpAny (model X.prog X.w) X.A (subscriptTail e (.Slice none none (some (.UnaryOp .USub (.Constant (.int 1) k p1) p2)) p3) (.ref a) (.ref s4.heap.objs.size)) (EP X pins σ Q) X.xe { s4 with heap := s4.heap.push { cls := .type "slice", data := .fields #[.none, .none, vs] } }
  refine tail_any (ops := [.ref a, .ref s4.heap.objs.size]) ht.typeIs (PyProof.Rows.slot_tuple_getitem.lookup) ?_ (by with_unfolding_all rfl)
  refine getItem_tuple_rev ht (Heap.IsSliceOf.new _ .none .none vs) ps ?_ (by rw [← hlen]; exact hz)
  refine ⟨.ref _, _, I5.laid (t' := s4.toks) (o := .tup xs.reverse) (fun b ob q => Heap.get?_push_of_some _ q) (Nat.le_refl _) ?_, rfl, q _ (I5.hok.fresh (Nat.le_refl _))⟩
  exact ⟨by rw [List.length_reverse]; exact hz, _, r.reverse, ⟨_, Heap.get?_push_size _ rfl, rfl, _, rfl⟩⟩
end
end Tw

/-! Tw3: operators, comparisons, subscripts, slices over data. -/
namespace Tw
open PySem L2

section
variable {K : PySem.W.Frag}
theorem rds_ints : ∀ {ns : List Int} {H : Hp} {vs : List V}, rds K H (ns.map D.int) vs → vs = ns.map V.int
  | [], H, vs, h => by unfold rds at h; exact h
  | n :: ns, H, vs, h => by
    unfold rds at h
    obtain ⟨v, r, rfl, q, z⟩ := h
    unfold rd at q
    rw [q, rds_ints z]; rfl
theorem ints_rds : ∀ {ns : List Int} {H : Hp}, rds K H (ns.map D.int) (ns.map V.int)
  | [], H => rds_nil
  | n :: ns, H => rds_cons (by unfold rd; rfl) ints_rds
def asInts : List D → Option (List Int)
  | [] => some []
  | .int i :: ds => (asInts ds).map (i :: ·)
  | _ :: _ => none
theorem asInts_map : ∀ {ds : List D} {ns : List Int}, asInts ds = some ns → ds = ns.map D.int
  | [], ns, h => by cases h; rfl
  | .int i :: ds, ns, h => by
    unfold asInts at h
    cases e : asInts ds with
    | none => rw [e] at h; cases h
    | some ms =>
      rw [e] at h; cases h
      rw [asInts_map e]; rfl
  | .non :: _, _, h | .bl _ :: _, _, h | .str _ :: _, _, h | .tup _ :: _, _, h | .lst _ :: _, _, h | .dct _ :: _, _, h | .ins _ _ :: _, _, h | .scr _ :: _, _, h | .exn _ _ _ :: _, _, h => by cases h
theorem asInts_of : ∀ (ns : List Int), asInts (ns.map D.int) = some ns
  | [] => rfl
  | n :: ns => by simp [asInts, asInts_of ns]
def asBls : List D → Option (List Bool)
  | [] => some []
  | .bl i :: ds => (asBls ds).map (i :: ·)
  | _ :: _ => none
theorem asBls_map : ∀ {ds : List D} {ns : List Bool}, asBls ds = some ns → ds = ns.map D.bl
  | [], ns, h => by cases h; rfl
  | .bl i :: ds, ns, h => by
    unfold asBls at h
    cases e : asBls ds with
    | none => rw [e] at h; cases h
    | some ms =>
      rw [e] at h; cases h
      rw [asBls_map e]; rfl
  | .non :: _, _, h | .int _ :: _, _, h | .str _ :: _, _, h | .tup _ :: _, _, h | .lst _ :: _, _, h | .dct _ :: _, _, h | .ins _ _ :: _, _, h | .scr _ :: _, _, h | .exn _ _ _ :: _, _, h => by cases h
theorem asBls_of : ∀ (ns : List Bool), asBls (ns.map D.bl) = some ns
  | [] => rfl
  | n :: ns => by simp [asBls, asBls_of ns]
theorem rds_bls : ∀ {ns : List Bool} {H : Hp} {vs : List V}, rds K H (ns.map D.bl) vs → vs = ns.map V.bl
  | [], H, vs, h => by unfold rds at h; exact h
  | n :: ns, H, vs, h => by
    unfold rds at h
    obtain ⟨v, r, rfl, q, z⟩ := h
    unfold rd at q
    rw [q, rds_bls z]; rfl

/-! ### data that is compared -/
mutual
def D.toP : D → PyData
  | .non => .none
  | .bl b => .bool b
  | .int i => .int i
  | .str s => .str s
  | .tup xs => .tuple (toPs xs)
  | .lst xs => .list (toPs xs)
  | .scr ns => .list (ns.map .int)
  | .dct _ => .dict []
  | .ins _ _ => .dict []
  | .exn _ _ _ => .dict []
def toPs : List D → List PyData
  | [] => []
  | d :: ds => d.toP :: toPs ds
end
theorem ints_dp {H : Hp} : ∀ (ns : List Int), DpAll K H (ns.map V.int) (ns.map PyData.int)
  | [] => .nil
  | n :: ns => .cons (.int n) (ints_dp ns)
mutual
theorem dp_of {H : Hp} : ∀ (d : D) (v : V), rd K H d v → d.toP.canLay0 = true → Dp K H v d.toP
  | .non, v, h, _ => by unfold rd at h; subst h; exact .non
  | .bl b, v, h, _ => by unfold rd at h; subst h; exact .bl b
  | .int i, v, h, _ => by unfold rd at h; subst h; exact .int i
  | .str s, v, h, _ => by unfold rd at h; subst h; exact .str s
  | .tup xs, v, h, c => by
    unfold rd at h
    obtain ⟨a, vs, rfl, q, r⟩ := h
    unfold D.toP at c ⊢
    exact .tup (SqT.of q) (dps_of xs vs r (by simpa [PyData.canLay0] using c))
  | .lst xs, v, h, c => by
    unfold rd at h
    obtain ⟨a, vs, rfl, q, r⟩ := h
    unfold D.toP at c ⊢
    exact .lst (SqL.of q) (dps_of xs vs r (by simpa [PyData.canLay0] using c))
  | .scr ns, v, h, c => by
    unfold rd at h
    obtain ⟨a, rfl, q⟩ := h
    unfold D.toP
    exact .lst q (ints_dp ns)
  | .dct _, v, h, c => by unfold D.toP at c; simp [PyData.canLay0] at c
  | .ins _ _, v, h, c => by unfold D.toP at c; simp [PyData.canLay0] at c
  | .exn _ _ _, v, h, c => by unfold D.toP at c; simp [PyData.canLay0] at c
theorem dps_of {H : Hp} : ∀ (ds : List D) (vs : List V), rds K H ds vs → PyData.canLayAll0 (toPs ds) = true → DpAll K H vs (toPs ds)
  | [], vs, h, _ => by unfold rds at h; subst h; unfold toPs; exact .nil
  | d :: ds, vs, h, c => by
    unfold rds at h
    obtain ⟨v, r, rfl, q, z⟩ := h
    unfold toPs at c ⊢
    have c' : d.toP.canLay0 = true ∧ PyData.canLayAll0 (toPs ds) = true := by simpa [PyData.canLayAll0] using c
    exact .cons (dp_of d v q c'.1) (dps_of ds r z c'.2)
end
def shp (d : D) : Bool := SeqAt.shaped d.toP
theorem dp_shp {H : Hp} {d : D} {v : V} (h : rd K H d v) (c : shp d = true) : Dp K H v d.toP := dp_of d v h (SeqAt.canLay_of_shaped c)
/-- == of data -/
def dEq (d e : D) : R D := if (shp d && shp e) = true then .ok (.bl (PyData.eqv d.toP e.toP)) else .no
def dNe (d e : D) : R D := if (shp d && shp e) = true then .ok (.bl (!PyData.eqv d.toP e.toP)) else .no
theorem lift_eq : Lift2 K (rEqD K) dEq := fun d e z x y H Q hz r1 r2 k => by
  unfold dEq at hz
  split at hz
  · rename_i c
    cases hz
    obtain ⟨c1, c2⟩ := Bool.and_eq_true_iff.mp c
    exact ⟨_, _, dp_shp r1 c1, dp_shp r2 c2, c1, c2, k _ H (Same.refl H) (by unfold rd; rfl)⟩
  · cases hz
theorem lift_ne : Lift2 K (rNeD K) dNe := fun d e z x y H Q hz r1 r2 k => by
  unfold dNe at hz
  split at hz
  · rename_i c
    cases hz
    obtain ⟨c1, c2⟩ := Bool.and_eq_true_iff.mp c
    exact ⟨_, _, dp_shp r1 c1, dp_shp r2 c2, c1, c2, k _ H (Same.refl H) (by unfold rd; rfl)⟩
  · cases hz
/-! ### ints -/
theorem lift_I0 {g : Int → Int → V} {g' : Int → Int → D} {gd : D → D → R D} (hd : ∀ d e z, gd d e = .ok z → ∃ i j, d = .int i ∧ e = .int j ∧ z = g' i j) (hg : ∀ i j H, rd K H (g' i j) (g i j)) : Lift2 K (rI0 g) gd := fun d e z x y H Q hz r1 r2 k => by
  obtain ⟨i, j, rfl, rfl, rfl⟩ := hd d e z hz
  unfold rd at r1 r2
  exact ⟨i, j, r1, r2, k _ H (Same.refl H) (hg i j H)⟩
theorem lift_I {C : Int → Int → Prop} {g : Int → Int → V} {g' : Int → Int → D} {gd : D → D → R D} (hd : ∀ d e z, gd d e = .ok z → ∃ i j, d = .int i ∧ e = .int j ∧ C i j ∧ z = g' i j) (hg : ∀ i j H, rd K H (g' i j) (g i j)) : Lift2 K (rI C g) gd := fun d e z x y H Q hz r1 r2 k => by
  obtain ⟨i, j, rfl, rfl, hc, rfl⟩ := hd d e z hz
  unfold rd at r1 r2
  exact ⟨i, j, r1, r2, hc, k _ H (Same.refl H) (hg i j H)⟩
def ii (g : Int → Int → D) : D → D → R D
  | .int i, .int j => .ok (g i j)
  | _, _ => .no
theorem ii_ok {g : Int → Int → D} : ∀ d e z, ii g d e = .ok z → ∃ i j, d = .int i ∧ e = .int j ∧ z = g i j := fun d e z h => by
  unfold ii at h
  split at h
  · cases h; exact ⟨_, _, rfl, rfl, rfl⟩
  · cases h
def iic (c : Int → Int → Bool) (g : Int → Int → D) : D → D → R D
  | .int i, .int j => if c i j = true then .ok (g i j) else .no
  | _, _ => .no
theorem iic_ok {C : Int → Int → Prop} {c : Int → Int → Bool} {g : Int → Int → D} (hc : ∀ i j, c i j = true → C i j) : ∀ d e z, iic c g d e = .ok z → ∃ i j, d = .int i ∧ e = .int j ∧ C i j ∧ z = g i j := fun d e z h => by
  unfold iic at h
  split at h
  · split at h
    · rename_i q
      cases h; exact ⟨_, _, rfl, rfl, hc _ _ q, rfl⟩
    · cases h
  · cases h
def dSub : D → D → R D := ii fun i j => .int (i - j)
theorem lift_sub : Lift2 K (rI0 fun i j => .int (i - j)) dSub := lift_I0 ii_ok fun i j H => by unfold rd; rfl
def mulOk (i j : Int) : Bool := (decide (-18446744073709551616 < i) && decide (i < 18446744073709551616)) || (decide (-18446744073709551616 < j) && decide (j < 18446744073709551616))
def dFdiv : D → D → R D := iic (fun _ j => decide (j ≠ 0 ∧ j.natAbs < 1073741824)) fun i j => .int (i.fdiv j)
theorem lift_fdiv : Lift2 K (rI CDivN fun i j => .int (i.fdiv j)) dFdiv := lift_I (iic_ok fun i j h => (of_decide_eq_true (p := j ≠ 0 ∧ j.natAbs < 1073741824) h : _)) fun i j H => by unfold rd; rfl
def dMod : D → D → R D := iic (fun _ j => decide (j ≠ 0)) fun i j => .int (i.fmod j)
theorem lift_mod : Lift2 K (rI (fun _ j => j ≠ 0) fun i j => .int (i.fmod j)) dMod := lift_I (iic_ok fun i j h => of_decide_eq_true h) fun i j H => by unfold rd; rfl
def dPow : D → D → R D := iic (fun i j => decide (0 ≤ j ∧ j ≤ 1000000 ∧ i.natAbs < 2 ^ 64)) fun i j => .int (i ^ j.toNat)
theorem lift_pow : Lift2 K (rI CPow fun i j => .int (i ^ j.toNat)) dPow := lift_I (iic_ok fun i j h => (of_decide_eq_true (p := 0 ≤ j ∧ j ≤ 1000000 ∧ i.natAbs < 2 ^ 64) h : _)) fun i j H => by unfold rd; rfl
def dShr : D → D → R D := iic (fun _ j => decide (0 ≤ j)) fun i j => .int (i / 2 ^ j.toNat)
theorem lift_shr : Lift2 K (rI (fun _ j => 0 ≤ j) fun i j => .int (i / 2 ^ j.toNat)) dShr := lift_I (iic_ok fun i j h => of_decide_eq_true h) fun i j H => by unfold rd; rfl
def dAnd : D → D → R D := ii fun i j => .int (Builtin.bitAnd i j)
theorem lift_and : Lift2 K (rI0 fun i j => .int (Builtin.bitAnd i j)) dAnd := lift_I0 ii_ok fun i j H => by unfold rd; rfl
def dLt : D → D → R D := ii fun i j => .bl (decide (i < j))
def dLe : D → D → R D := ii fun i j => .bl (decide (i ≤ j))
def dGt : D → D → R D := ii fun i j => .bl (decide (j < i))
def dGe : D → D → R D := ii fun i j => .bl (decide (j ≤ i))
theorem lift_lt : Lift2 K (rI0 fun i j => .bl (decide (i < j))) dLt := lift_I0 ii_ok fun i j H => by unfold rd; rfl
theorem lift_le : Lift2 K (rI0 fun i j => .bl (decide (i ≤ j))) dLe := lift_I0 ii_ok fun i j H => by unfold rd; rfl
theorem lift_gt : Lift2 K (rI0 fun i j => .bl (decide (j < i))) dGt := lift_I0 ii_ok fun i j H => by unfold rd; rfl
theorem lift_ge : Lift2 K (rI0 fun i j => .bl (decide (j ≤ i))) dGe := lift_I0 ii_ok fun i j H => by unfold rd; rfl
def dNeg : D → R D
  | .int i => .ok (.int (-i))
  | _ => .no
theorem lift_neg : Lift1 K (rU fun i => .int (-i)) dNeg := fun d z x H Q hz r k => by
  unfold dNeg at hz
  split at hz
  · cases hz
    unfold rd at r
    exact ⟨_, r, k _ H (Same.refl H) (by unfold rd; rfl)⟩
  · cases hz
/-! ### + -/
def dAdd : D → D → R D
  | .int i, .int j => .ok (.int (i + j))
  | .str a, .str b => if decide (a.length + b.length ≤ sizeLine) = true then .ok (.str (a ++ b)) else .no
  | .lst xs, .lst ys => if sz (xs.length + ys.length) = true then .ok (.lst (xs ++ ys)) else .no
  | .tup xs, .tup ys => if sz (xs.length + ys.length) = true then .ok (.tup (xs ++ ys)) else .no
  | _, _ => .no
abbrev rAddAll (K : PySem.W.Frag) : R2 := fun x y H Q => (rI0 fun i j => .int (i + j)) x y H Q ∨ (∃ i j, x = .str i ∧ y = .str j ∧ i.length + j.length ≤ sizeLine ∧ Q (.str (i ++ j)) H) ∨ rCat x y H Q ∨ rCatA K x y H Q
theorem op_addAll {X : Cx} : OpR X (binaryOp .Add) (rAddAll X.K) := op_add.or (op_add_str.or (op_cat.or op_catA))
theorem lift_add : Lift2 K (rAddAll K) dAdd := fun d e z x y H Q hz r1 r2 k => by
  unfold dAdd at hz
  split at hz
  · cases hz
    unfold rd at r1 r2
    exact .inl ⟨_, _, r1, r2, k _ H (Same.refl H) (by unfold rd; rfl)⟩
  · split at hz
    · rename_i c
      cases hz
      unfold rd at r1 r2
      exact .inr (.inl ⟨_, _, r1, r2, of_decide_eq_true c, k _ H (Same.refl H) (by unfold rd; rfl)⟩)
    · cases hz
  · split at hz
    · rename_i c
      cases hz
      unfold rd at r1 r2
      obtain ⟨a, vs, rfl, q1, z1⟩ := r1
      obtain ⟨b, ws, rfl, q2, z2⟩ := r2
      refine .inr (.inr (.inl ⟨a, b, vs, ws, rfl, rfl, q1, q2, by rw [rds_length z1, rds_length z2]; exact of_decide_eq_true c, fun p hp => k _ _ (same_new hp) ?_⟩))
      unfold rd
      exact ⟨p, _, rfl, upd_same, rds_mono (same_new hp) _ _ (rds_append z1 z2)⟩
    · cases hz
  · split at hz
    · rename_i c
      cases hz
      unfold rd at r1 r2
      obtain ⟨a, vs, rfl, q1, z1⟩ := r1
      obtain ⟨b, ws, rfl, q2, z2⟩ := r2
      refine .inr (.inr (.inr ⟨a, b, vs, ws, rfl, rfl, SqT.of q1, SqT.of q2, by rw [rds_length z1, rds_length z2]; exact of_decide_eq_true c, fun e => ?_, fun e1 e2 => ?_, fun e1 e2 p hp => k _ _ (same_new hp) ?_⟩))
      · subst e
        refine k _ _ (Same.refl H) ?_
        unfold rd
        exact ⟨b, ws, rfl, q2, by simpa using rds_append z1 z2⟩
      · subst e2
        refine k _ _ (Same.refl H) ?_
        unfold rd
        exact ⟨a, vs, rfl, q1, by simpa using rds_append z1 z2⟩
      · unfold rd
        exact ⟨p, _, rfl, upd_same, rds_mono (same_new hp) _ _ (rds_append z1 z2)⟩
    · cases hz
  · cases hz
/-! ### * -/
def dMul : D → D → R D
  | .int i, .int j => if mulOk i j = true then .ok (.int (i * j)) else .no
  | .lst xs, .int j => if (decide (-(2 ^ 63) ≤ j) && decide (j < 2 ^ 63) && sz (xs.length * j.toNat)) = true then .ok (.lst (List.replicate j.toNat xs).flatten) else .no
  | _, _ => .no
abbrev rMulAll : R2 := fun x y H Q => (rI CMul fun i j => .int (i * j)) x y H Q ∨ rRep x y H Q
theorem op_mulAll {X : Cx} : OpR X (binaryOp .Mult) rMulAll := op_mul.or op_rep
theorem rds_rep {H : Hp} {ds : List D} {vs : List V} (h : rds K H ds vs) : ∀ n : Nat, rds K H (List.replicate n ds).flatten (List.replicate n vs).flatten
  | 0 => rds_nil
  | n + 1 => by
    simp only [List.replicate_succ, List.flatten_cons]
    exact rds_append h (rds_rep h n)
theorem lift_mul : Lift2 K rMulAll dMul := fun d e z x y H Q hz r1 r2 k => by
  unfold dMul at hz
  split at hz
  · split at hz
    · rename_i c
      cases hz
      unfold rd at r1 r2
      refine .inl ⟨_, _, r1, r2, ?_, k _ H (Same.refl H) (by unfold rd; rfl)⟩
      simp only [mulOk, Bool.or_eq_true, Bool.and_eq_true, decide_eq_true_eq] at c
      unfold CMul
      have e : (2 : Int) ^ 64 = 18446744073709551616 := by decide
      rw [e]
      exact c
    · cases hz
  · split at hz
    · rename_i c
      cases hz
      unfold rd at r1 r2
      obtain ⟨a, vs, rfl, q1, z1⟩ := r1
      simp only [Bool.and_eq_true, decide_eq_true_eq] at c
      refine .inr ⟨a, _, vs, rfl, r2, q1, c.1.1, c.1.2, by rw [rds_length z1]; exact of_decide_eq_true c.2, fun p hp => k _ _ (same_new hp) ?_⟩
      unfold rd
      exact ⟨p, _, rfl, upd_same, rds_mono (same_new hp) _ _ (rds_rep z1 _)⟩
    · cases hz
  · cases hz
/-! ### is None, is True -/
def isNon : D → Bool
  | .non => true
  | _ => false
def dIsN (neg : Bool) : D → D → R D
  | d, .non => .ok (.bl (if neg then !isNon d else isNon d))
  | _, _ => .no
theorem isN_eq {H : Hp} {d : D} {x : V} (r : rd K H d x) : decide (x = .non) = isNon d := by
  cases d <;> unfold rd at r <;> first | (subst r; rfl) | (obtain ⟨a, vs, rfl, _⟩ := r; rfl) | (obtain ⟨a, vs, gs, rfl, _⟩ := r; rfl) | (obtain ⟨a, rfl, _⟩ := r; rfl) | (obtain ⟨rfl, _⟩ := r; rfl)
theorem lift_isN : Lift2 K (fun x y H Q => y = .non ∧ Q (.bl (decide (x = .non))) H) (dIsN false) := fun d e z x y H Q hz r1 r2 k => by
  unfold dIsN at hz
  split at hz
  · cases hz
    have e := isN_eq r1
    unfold rd at r2
    refine ⟨r2, ?_⟩
    rw [e]
    exact k _ H (Same.refl H) (by unfold rd; rfl)
  · cases hz
theorem lift_notN : Lift2 K (fun x y H Q => y = .non ∧ Q (.bl (!decide (x = .non))) H) (dIsN true) := fun d e z x y H Q hz r1 r2 k => by
  unfold dIsN at hz
  split at hz
  · cases hz
    have e := isN_eq r1
    unfold rd at r2
    refine ⟨r2, ?_⟩
    rw [e]
    exact k _ H (Same.refl H) (by unfold rd; rfl)
  · cases hz
def dIsB (neg : Bool) : D → D → R D
  | .bl a, .bl b => .ok (.bl (if neg then !decide (a = b) else decide (a = b)))
  | _, _ => .no
theorem lift_isB : Lift2 K rIsB (dIsB false) := fun d e z x y H Q hz r1 r2 k => by
  unfold dIsB at hz
  split at hz
  · cases hz
    unfold rd at r1 r2
    exact ⟨_, _, r1, r2, k _ H (Same.refl H) (by unfold rd; rfl)⟩
  · cases hz
theorem lift_notB : Lift2 K rNotB (dIsB true) := fun d e z x y H Q hz r1 r2 k => by
  unfold dIsB at hz
  split at hz
  · cases hz
    unfold rd at r1 r2
    exact ⟨_, _, r1, r2, k _ H (Same.refl H) (by unfold rd; rfl)⟩
  · cases hz
/-! ### in -/
/-- == of a list's item with a value, in the model's turn -/
def anyP (d : D) (ds : List D) : Bool := (toPs ds).any fun z => PyData.eqv z d.toP
def keyOf : D → Option Key
  | .int i => some (.inl i)
  | .str s => some (.inr s)
  | _ => none
theorem keyOf_v {H : Hp} {d : D} {k : Key} {x : V} (h : keyOf d = some k) (r : rd K H d x) : x = kV k := by
  unfold keyOf at h
  split at h
  · cases h; unfold rd at r; exact r
  · cases h; unfold rd at r; exact r
  · cases h
/-- what a dict holds at k -/
def valD (kvs : List (Key × D)) (k : Key) : Option D := (kvs.find? fun kv => decide (kv.1 = k)).map (·.2)
def putD (kvs : List (Key × D)) (k : Key) (v : D) : List (Key × D) := if (kvs.any fun kv => decide (kv.1 = k)) = true then kvs.map fun kv => if kv.1 = k then (kv.1, v) else kv else kvs ++ [(k, v)]
def dropD (kvs : List (Key × D)) (k : Key) : List (Key × D) := kvs.filter fun kv => decide (kv.1 ≠ k)
def optRd (K : PySem.W.Frag) (H : Hp) : Option D → Option V → Prop
  | some d, some v => rd K H d v
  | none, none => True
  | _, _ => False
theorem rdk_val {H : Hp} {k : Key} : ∀ (kvs : List (Key × D)) (kws : List (Key × V)), rdk K H kvs kws → optRd K H (valD kvs k) (valV kws k)
  | [], kws, h => by unfold rdk at h; subst h; exact trivial
  | (j, d) :: kvs, kws, h => by
    unfold rdk at h
    obtain ⟨v, r, rfl, q, z⟩ := h
    by_cases e : j = k
    · have e1 : valD ((j, d) :: kvs) k = some d := by simp [valD, e]
      rw [e1, valV_pos (p := (j, v)) e]
      exact q
    · have e1 : valD ((j, d) :: kvs) k = valD kvs k := by simp [valD, e]
      rw [e1, valV_neg (p := (j, v)) (r := r) e]
      exact rdk_val kvs r z
theorem rdk_isSome {H : Hp} {k : Key} {kvs : List (Key × D)} {kws : List (Key × V)} (h : rdk K H kvs kws) : (valV kws k).isSome = (valD kvs k).isSome := by
  have z := rdk_val (k := k) kvs kws h
  cases e : valD kvs k with
  | none =>
    cases e' : valV kws k with
    | none => rfl
    | some v => rw [e, e'] at z; exact z.elim
  | some d =>
    cases e' : valV kws k with
    | none => rw [e, e'] at z; exact z.elim
    | some v => rfl
def dIn (neg : Bool) : D → D → R D
  | d, .lst ds => if (shp d && shp (.lst ds)) = true then .ok (.bl (if neg then !anyP d ds else anyP d ds)) else .no
  | d, .dct kvs => match keyOf d with
    | some k => .ok (.bl (if neg then !(valD kvs k).isSome else (valD kvs k).isSome))
    | none => .no
  | .str a, .str b => .ok (.bl (if neg then !(!(Builtin.Str.occurrences b a 0 b.length 1).isEmpty) else !(Builtin.Str.occurrences b a 0 b.length 1).isEmpty))
  | .str a, .tup ds => if (shp (.str a) && shp (.lst ds)) = true then .ok (.bl (if neg then !anyP (.str a) ds else anyP (.str a) ds)) else .no
  | _, _ => .no
end
end Tw

/-! Tw4: in, subscripts, slices, built-in calls over data. -/
namespace Tw
open PySem L2

section
variable {X : Cx}
/-- y in d, by values -/
theorem op_inDict (hu : X.A.units + 1 < cLine) : OpR X (compareOp .In) (fun x y H Q => ∃ a o, y = .ref a ∧ DGet H a x o ∧ Q (.bl o.isSome) H) := by
  intro pins s σ H x y v u Q I rx ry h
  obtain ⟨a, o, rfl, g, q⟩ := h
  obtain rfl : u = Value.ref a := ry
  exact d_in hu I g rx fun s3 I3 => ⟨.bl o.isSome, H, I3, rfl, q⟩
theorem op_notInDict (hu : X.A.units + 1 < cLine) : OpR X (compareOp .NotIn) (fun x y H Q => ∃ a o, y = .ref a ∧ DGet H a x o ∧ Q (.bl (!o.isSome)) H) := by
  intro pins s σ H x y v u Q I rx ry h
  obtain ⟨a, o, rfl, g, q⟩ := h
  obtain rfl : u = Value.ref a := ry
  exact d_notIn hu I g rx fun s3 I3 => ⟨.bl (!o.isSome), H, I3, rfl, q⟩
def rInDT (K : PySem.W.Frag) (neg : Bool) : R2 := fun x y H Q => ∃ d ds, Dp K H x d ∧ Dp K H y (.tuple ds) ∧ SeqAt.shaped d = true ∧ SeqAt.shaped (.tuple ds) = true ∧ Q (.bl (if neg then !(ds.any fun z => PyData.eqv z d) else ds.any fun z => PyData.eqv z d)) H
theorem op_inDT (hu : X.A.units + 65 < cLine) : OpR X (compareOp .In) (rInDT X.K false) := by
  intro pins s σ H x y v u Q I rx ry ⟨d, ds, hd, he, sd, se, q⟩
  obtain ⟨as, r1⟩ := Dp.reads I d x v hd rx
  obtain ⟨bs, r2⟩ := Dp.reads I (.tuple ds) y u he ry
  exact SeqAt.in_tuple_reads r2 r1 (SeqAt.canLay_of_shaped se) (SeqAt.canLay_of_shaped sd) (PyProof.Rows.room_in_shaped sd hu) ⟨.bl _, H, I, rfl, q⟩
theorem op_notInDT (hu : X.A.units + 65 < cLine) : OpR X (compareOp .NotIn) (rInDT X.K true) := by
  intro pins s σ H x y v u Q I rx ry ⟨d, ds, hd, he, sd, se, q⟩
  obtain ⟨as, r1⟩ := Dp.reads I d x v hd rx
  obtain ⟨bs, r2⟩ := Dp.reads I (.tuple ds) y u he ry
  exact SeqAt.notIn_tuple_reads r2 r1 (SeqAt.canLay_of_shaped se) (SeqAt.canLay_of_shaped sd) (PyProof.Rows.room_in_shaped sd hu) ⟨.bl _, H, I, rfl, q⟩
abbrev rInAll (K : PySem.W.Frag) : R2 := fun x y H Q => rInDT K false x y H Q ∨ rInD K x y H Q ∨ (∃ a o, y = .ref a ∧ DGet H a x o ∧ Q (.bl o.isSome) H) ∨ rIn K false x y H Q ∨ ∃ i j, x = .str i ∧ y = .str j ∧ Q (.bl (!(Builtin.Str.occurrences j i 0 j.length 1).isEmpty)) H
abbrev rNotInAll (K : PySem.W.Frag) : R2 := fun x y H Q => rInDT K true x y H Q ∨ rNotInD K x y H Q ∨ (∃ a o, y = .ref a ∧ DGet H a x o ∧ Q (.bl (!o.isSome)) H) ∨ rIn K true x y H Q ∨ ∃ i j, x = .str i ∧ y = .str j ∧ Q (.bl (!(!(Builtin.Str.occurrences j i 0 j.length 1).isEmpty))) H
theorem op_inAll (hu : X.A.units + 65 < cLine) : OpR X (compareOp .In) (rInAll X.K) := (op_inDT hu).or ((op_inD hu).or ((op_inDict (by omega)).or (op_in_seq.or op_in_str)))
theorem op_notInAll (hu : X.A.units + 65 < cLine) : OpR X (compareOp .NotIn) (rNotInAll X.K) := (op_notInDT hu).or ((op_notInD hu).or ((op_notInDict (by omega)).or (op_notIn_seq.or op_notIn_str)))
end
section
variable {K : PySem.W.Frag}
/-- texts -/
def asStrs : List D → Option (List Str)
  | [] => some []
  | .str i :: ds => (asStrs ds).map (i :: ·)
  | _ :: _ => none
theorem asStrs_map : ∀ {ds : List D} {ns : List Str}, asStrs ds = some ns → ds = ns.map D.str
  | [], ns, h => by cases h; rfl
  | .str i :: ds, ns, h => by
    unfold asStrs at h
    cases e : asStrs ds with
    | none => rw [e] at h; cases h
    | some ms =>
      rw [e] at h; cases h
      rw [asStrs_map e]; rfl
  | .non :: _, _, h | .int _ :: _, _, h | .bl _ :: _, _, h | .tup _ :: _, _, h | .lst _ :: _, _, h | .dct _ :: _, _, h | .ins _ _ :: _, _, h | .scr _ :: _, _, h | .exn _ _ _ :: _, _, h => by cases h
theorem asStrs_of : ∀ (ns : List Str), asStrs (ns.map D.str) = some ns
  | [] => rfl
  | n :: ns => by simp [asStrs, asStrs_of ns]
theorem rds_strs : ∀ {ns : List Str} {H : Hp} {vs : List V}, rds K H (ns.map D.str) vs → vs = ns.map V.str
  | [], H, vs, h => by unfold rds at h; exact h
  | n :: ns, H, vs, h => by
    unfold rds at h
    obtain ⟨v, r, rfl, q, z⟩ := h
    unfold rd at q
    rw [q, rds_strs z]; rfl
def dInS (neg : Bool) : D → D → R D
  | d, .lst ds => if (shp d && shp (.lst ds)) = true then .ok (.bl (if neg then !anyP d ds else anyP d ds)) else .no
  | d, .dct kvs => match keyOf d with
    | some k => .ok (.bl (if neg then !(valD kvs k).isSome else (valD kvs k).isSome))
    | none => .no
  | .str a, .tup ds => match asStrs ds with
    | some ss => .ok (.bl (if neg then !ss.any (· == a) else ss.any (· == a)))
    | none => .no
  | .str a, .str b => .ok (.bl (if neg then !(!(Builtin.Str.occurrences b a 0 b.length 1).isEmpty) else !(Builtin.Str.occurrences b a 0 b.length 1).isEmpty))
  | d, .tup ds => if (shp d && shp (.tup ds)) = true then .ok (.bl (if neg then !anyP d ds else anyP d ds)) else .no
  | _, _ => .no
theorem inV_strs (a : Str) : ∀ ss : List Str, inV (.str a) (ss.map V.str) = ss.any (· == a)
  | [] => rfl
  | s :: ss => by
    have := inV_strs a ss
    unfold inV at *
    simp only [List.map_cons, List.any_cons, this]
    rfl
theorem flat_strs : ∀ ss : List Str, (ss.map V.str).all flatV = true
  | [] => rfl
  | s :: ss => by simp only [List.map_cons, List.all_cons, flat_strs ss, flatV, Bool.and_self]
theorem lift_in : Lift2 K (rInAll K) (dInS false) := fun d e z x y H Q hz r1 r2 k => by
  unfold dInS at hz
  split at hz
  · split at hz
    · rename_i c
      cases hz
      obtain ⟨c1, c2⟩ := Bool.and_eq_true_iff.mp c
      have q := dp_shp r2 c2
      unfold shp at c2
      unfold D.toP at q c2
      exact .inr (.inl ⟨_, _, dp_shp r1 c1, q, c1, c2, k _ H (Same.refl H) (by unfold rd; rfl)⟩)
    · cases hz
  · split at hz
    · rename_i kk hk
      cases hz
      have ex := keyOf_v hk r1
      unfold rd at r2
      obtain ⟨a, kws, rfl, q, z⟩ := r2
      refine .inr (.inr (.inl ⟨a, valV kws kk, rfl, ?_, ?_⟩))
      · rw [ex]; exact DGet.k q
      · rw [rdk_isSome z]; exact k _ H (Same.refl H) (by unfold rd; rfl)
    · cases hz
  · split at hz
    · rename_i ss hs
      cases hz
      rw [asStrs_map hs] at r2
      unfold rd at r1 r2
      obtain ⟨a, vs, rfl, q, z⟩ := r2
      have ev := rds_strs z
      subst ev r1
      refine .inr (.inr (.inr (.inl ⟨a, _, rfl, .inr (SqT.of q), rfl, flat_strs ss, ?_⟩)))
      rw [inV_strs]
      exact k _ H (Same.refl H) (by unfold rd; rfl)
    · cases hz
  · cases hz
    unfold rd at r1 r2
    exact .inr (.inr (.inr (.inr ⟨_, _, r1, r2, k _ H (Same.refl H) (by unfold rd; rfl)⟩)))
  · split at hz
    · rename_i c
      cases hz
      obtain ⟨c1, c2⟩ := Bool.and_eq_true_iff.mp c
      have q := dp_shp r2 c2
      unfold shp at c2
      unfold D.toP at q c2
      exact .inl ⟨_, _, dp_shp r1 c1, q, c1, c2, k _ H (Same.refl H) (by unfold rd; rfl)⟩
    · cases hz
  · cases hz
theorem lift_notIn : Lift2 K (rNotInAll K) (dInS true) := fun d e z x y H Q hz r1 r2 k => by
  unfold dInS at hz
  split at hz
  · split at hz
    · rename_i c
      cases hz
      obtain ⟨c1, c2⟩ := Bool.and_eq_true_iff.mp c
      have q := dp_shp r2 c2
      unfold shp at c2
      unfold D.toP at q c2
      exact .inr (.inl ⟨_, _, dp_shp r1 c1, q, c1, c2, k _ H (Same.refl H) (by unfold rd; rfl)⟩)
    · cases hz
  · split at hz
    · rename_i kk hk
      cases hz
      have ex := keyOf_v hk r1
      unfold rd at r2
      obtain ⟨a, kws, rfl, q, z⟩ := r2
      refine .inr (.inr (.inl ⟨a, valV kws kk, rfl, ?_, ?_⟩))
      · rw [ex]; exact DGet.k q
      · rw [rdk_isSome z]; exact k _ H (Same.refl H) (by unfold rd; rfl)
    · cases hz
  · split at hz
    · rename_i ss hs
      cases hz
      rw [asStrs_map hs] at r2
      unfold rd at r1 r2
      obtain ⟨a, vs, rfl, q, z⟩ := r2
      have ev := rds_strs z
      subst ev r1
      refine .inr (.inr (.inr (.inl ⟨a, _, rfl, .inr (SqT.of q), rfl, flat_strs ss, ?_⟩)))
      rw [inV_strs]
      exact k _ H (Same.refl H) (by unfold rd; rfl)
    · cases hz
  · cases hz
    unfold rd at r1 r2
    exact .inr (.inr (.inr (.inr ⟨_, _, r1, r2, k _ H (Same.refl H) (by unfold rd; rfl)⟩)))
  · split at hz
    · rename_i c
      cases hz
      obtain ⟨c1, c2⟩ := Bool.and_eq_true_iff.mp c
      have q := dp_shp r2 c2
      unfold shp at c2
      unfold D.toP at q c2
      exact .inl ⟨_, _, dp_shp r1 c1, q, c1, c2, k _ H (Same.refl H) (by unfold rd; rfl)⟩
    · cases hz
  · cases hz
/-! ### subscripts -/
def dGet : D → D → R D
  | .lst ds, .int i => R.of (atI ds i)
  | .tup ds, .int i => R.of (atI ds i)
  | .scr ns, .int i => R.of ((atI ns i).map D.int)
  | .str z, .int i => if decide (z.length ≤ sizeLine) = true then R.of ((atI z.cps.toList i).map fun c => .str ⟨#[c]⟩) else .no
  | .dct kvs, d => match keyOf d with
    | some k => R.of (valD kvs k)
    | none => .no
  | _, _ => .no
theorem atI_rds {H : Hp} {ds : List D} {vs : List V} {i : Int} {d : D} (r : rds K H ds vs) (h : atI ds i = some d) : ∃ v, atI vs i = some v ∧ rd K H d v := by
  unfold atI at h ⊢
  rw [rds_length r]
  cases e : ixN ds.length i with
  | none => rw [e] at h; cases h
  | some j =>
    rw [e] at h
    obtain ⟨v, h1, h2⟩ := rds_get r h
    exact ⟨v, h1, h2⟩
theorem atI_map {α β : Type} (f : α → β) (xs : List α) (i : Int) : atI (xs.map f) i = (atI xs i).map f := by
  unfold atI
  rw [List.length_map]
  cases ixN xs.length i with
  | none => rfl
  | some j => simp
theorem R.of_ok {α : Type} {o : Option α} {a : α} (h : R.of o = .ok a) : o = some a := by
  cases o with
  | none => cases h
  | some b => cases h; rfl
theorem lift_ix : ∀ d e z x y H Q, dGet d e = .ok z → (∀ kvs, d ≠ .dct kvs) → rd K H d x → rd K H e y → (∀ v H', Same H H' → rd K H' z v → Q v H') → rIx K x y H Q := fun d e z x y H Q hz nd r1 r2 k => by
  unfold dGet at hz
  split at hz
  · unfold rd at r1 r2
    obtain ⟨a, vs, rfl, q, r⟩ := r1
    obtain ⟨v, h1, h2⟩ := atI_rds r (R.of_ok hz)
    exact .inl ⟨a, vs, _, v, rfl, r2, SqL.of q, h1, k v H (Same.refl H) h2⟩
  · unfold rd at r1 r2
    obtain ⟨a, vs, rfl, q, r⟩ := r1
    obtain ⟨v, h1, h2⟩ := atI_rds r (R.of_ok hz)
    exact .inr (.inl ⟨a, vs, _, v, rfl, r2, SqT.of q, h1, k v H (Same.refl H) h2⟩)
  · unfold rd at r1 r2
    obtain ⟨a, rfl, q⟩ := r1
    have e := R.of_ok hz
    rename_i ns i
    cases e' : atI ns i with
    | none => rw [e'] at e; cases e
    | some n =>
      rw [e'] at e
      cases e
      exact .inl ⟨a, _, _, .int n, rfl, r2, q, by rw [atI_map, e']; rfl, k _ H (Same.refl H) (by unfold rd; rfl)⟩
  · split at hz
    · rename_i z' i c
      unfold rd at r1 r2
      have e := R.of_ok hz
      cases e' : atI z'.cps.toList i with
      | none => rw [e'] at e; cases e
      | some n =>
        rw [e'] at e
        cases e
        exact .inr (.inr ⟨_, _, n, r1, r2, of_decide_eq_true c, e', k _ H (Same.refl H) (by unfold rd; rfl)⟩)
    · cases hz
  · exact absurd rfl (nd _)
  · cases hz
theorem le_sub {X : Cx} {W : WX} {a b : Expr} {pos : Pos} {f g : SE} (hu : X.A.units + 1 < cLine) (ha : PE X a (tD X.K W f)) (hb : PE X b (tD X.K W g)) (hs : PlainIx b) : PE X (.Subscript a b pos) (tD X.K W (e2 dGet f g)) := by
  refine (PE.or (pe_ix ix_seq ha hb hs) (pe_dget hu ha hb hs)).imp fun σ H Q ⟨ρ, z, w⟩ => ?_
  have core : ∀ {N : V → V → Hp → Prop}, (∀ d e x y H2 a, f ρ = .ok d → g ρ = .ok e → dGet d e = .ok a → rd X.K H2 d x → rd X.K H2 e y → (∀ v H', Same H2 H' → rd X.K H' a v → Q v H') → N x y H2) → tD X.K W f σ H fun x H1 => tD X.K W g σ H1 fun y H2 => N x y H2 := fun {N} hN =>
    ⟨ρ, z, pst.bind (rel := rd X.K) w fun d x H1 e1 s1 r1 w1 => ⟨ρ, z.mono s1, pst.bind (rel := rd X.K) w1 fun e y H2 e2 s2 r2 w2 => by
      obtain ⟨a, e', k⟩ := pst_nox w2
      exact hN d e x y H2 a e1 e2 e' (rd_mono s2 d x r1) r2 k⟩⟩
  by_cases hd : ∃ kvs, f ρ = .ok (.dct kvs)
  · obtain ⟨kvs, hd⟩ := hd
    refine .inr (core fun d e x y H2 a e1 e2 hz r1 r2 k => ?_)
    rw [hd] at e1
    cases e1
    unfold dGet at hz
    simp only at hz
    split at hz
    · rename_i kk hk
      have ex := keyOf_v hk r2
      unfold rd at r1
      obtain ⟨p, kws, rfl, q, r⟩ := r1
      have o := rdk_val (k := kk) kvs kws r
      rw [R.of_ok hz] at o
      cases e' : valV kws kk with
      | none => rw [e'] at o; exact o.elim
      | some v =>
        rw [e'] at o
        refine ⟨p, v, rfl, ?_, k v H2 (Same.refl H2) o⟩
        rw [ex, ← e']
        exact DGet.k q
    · cases hz
  · refine .inl (core fun d e x y H2 a e1 e2 hz r1 r2 k => ?_)
    exact lift_ix d e a x y H2 Q hz (fun kvs h => hd ⟨kvs, by rw [e1, h]⟩) r1 r2 k
/-! ### slices -/
def cutD {α : Type} (xs : List α) (lo hi : Option Int) : List α := (xs.drop (HT.sIx xs.length 0 lo)).take (HT.sIx xs.length xs.length hi - HT.sIx xs.length 0 lo)
def dSl : D → Option Int → Option Int → R D
  | .lst ds, lo, hi => .ok (.lst (cutD ds lo hi))
  | .scr ns, lo, hi => .ok (.lst ((cutD ns lo hi).map D.int))
  | .tup ds, lo, hi => .ok (.tup (cutD ds lo hi))
  | .str z, lo, hi => if decide (z.length ≤ sizeLine) = true then .ok (.str (cutS z lo hi)) else .no
  | _, _, _ => .no
abbrev rSlAll (K : PySem.W.Frag) : V → Option Int → Option Int → Hp → VK → Prop := fun x lo hi H Q => rSlL K x lo hi H Q ∨ rSlA K x lo hi H Q ∨ rSlS x lo hi H Q
theorem sl_all {X : Cx} : SlR X (rSlAll X.K) := sl_list.or (sl_tupA.or sl_str)
theorem cut_rds {H : Hp} {ds : List D} {vs : List V} (r : rds K H ds vs) (lo hi : Option Int) : rds K H (cutD ds lo hi) (cutV vs lo hi) := by
  unfold cutD cutV
  rw [rds_length r]
  exact rds_take _ (rds_drop _ r)
theorem cut_map {α β : Type} (f : α → β) (xs : List α) (lo hi : Option Int) : cutD (xs.map f) lo hi = (cutD xs lo hi).map f := by
  unfold cutD
  rw [List.length_map, List.map_take, List.map_drop]
theorem cutV_eq (xs : List V) (lo hi : Option Int) : cutV xs lo hi = cutD xs lo hi := rfl
theorem lift_sl {d z : D} {lo hi : Option Int} {x : V} {H : Hp} {Q : VK} (hz : dSl d lo hi = .ok z) (r : rd K H d x) (k : ∀ v H', Same H H' → rd K H' z v → Q v H') : rSlAll K x lo hi H Q := by
  unfold dSl at hz
  split at hz
  · cases hz
    unfold rd at r
    obtain ⟨a, vs, rfl, q, r⟩ := r
    refine .inl ⟨a, vs, rfl, SqL.of q, fun p hp => k _ _ (same_new hp) ?_⟩
    unfold rd
    exact ⟨p, _, rfl, upd_same, rds_mono (same_new hp) _ _ (cut_rds r _ _)⟩
  · cases hz
    unfold rd at r
    obtain ⟨a, rfl, q⟩ := r
    refine .inl ⟨a, _, rfl, q, fun p hp => k _ _ (same_new hp) ?_⟩
    unfold rd
    refine ⟨p, _, rfl, upd_same, ?_⟩
    rw [cutV_eq, cut_map]
    exact ints_rds
  · cases hz
    unfold rd at r
    obtain ⟨a, vs, rfl, q, r⟩ := r
    refine .inr (.inl ⟨a, vs, rfl, SqT.of q, fun hw => ?_, fun hw p hp => k _ _ (same_new hp) ?_⟩)
    · refine k _ _ (Same.refl H) ?_
      unfold rd
      refine ⟨a, vs, rfl, q, ?_⟩
      rw [rds_length r] at hw
      unfold cutD
      rw [hw.1, hw.2]
      simpa using r
    · unfold rd
      exact ⟨p, _, rfl, upd_same, rds_mono (same_new hp) _ _ (cut_rds r _ _)⟩
  · split at hz
    · rename_i c
      cases hz
      unfold rd at r
      exact .inr (.inr ⟨_, r, of_decide_eq_true c, k _ H (Same.refl H) (by unfold rd; rfl)⟩)
    · cases hz
  · cases hz
abbrev SO := Ev → R (Option Int)
abbrev tO (K : PySem.W.Frag) (W : WX) (f : SO) : TO := tG K (fun _ (a b : Option Int) => b = a) W f
def oNone : SO := fun _ => .ok none
def asI : D → R Int
  | .int i => .ok i
  | _ => .no
def oSome (f : SE) : SO := fun ρ => (f ρ).bind fun d => (asI d).map some
theorem _root_.L2.PO.imp {X : Cx} {e : Option Expr} {t t' : TO} (h : PO X e t) (k : ∀ σ H Q, t' σ H Q → t σ H Q) : PO X e t' := ⟨fun pins s σ H Q I w => h.run pins s σ H Q I (k σ H Q w)⟩
theorem lo_none {X : Cx} {W : WX} : PO X none (tO X.K W oNone) := po_none.imp fun σ H Q ⟨ρ, z, w⟩ => w _ H (Same.refl H) rfl
theorem lo_some {X : Cx} {W : WX} {e : Expr} {f : SE} (h : PE X e (tD X.K W f)) : PO X (some e) (tO X.K W (oSome f)) := (po_some h).imp fun σ H Q ⟨ρ, z, w⟩ => ⟨ρ, z, pst.bind (rel := rd X.K) w fun d x H1 _ s1 r1 w1 => by
  cases d with
  | int i =>
    unfold rd at r1
    exact ⟨i, r1, w1 _ H1 (Same.refl H1) rfl⟩
  | _ => exact w1.elim⟩
def eSl (f : SE) (lo hi : SO) : SE := fun ρ => (f ρ).bind fun d => (lo ρ).bind fun l => (hi ρ).bind fun h => (dSl d l h).nox
theorem le_slice {X : Cx} {W : WX} {e : Expr} {lo hi : Option Expr} {f : SE} {l h : SO} {p2 pos : Pos} (he : PE X e (tD X.K W f)) (hl : PO X lo (tO X.K W l)) (hu : PO X hi (tO X.K W h)) : PE X (.Subscript e (.Slice lo hi none p2) pos) (tD X.K W (eSl f l h)) :=
  (pe_slice sl_all he hl hu).imp fun σ H Q ⟨ρ, z, w⟩ => ⟨ρ, z, pst.bind (rel := rd X.K) w fun d x H1 _ s1 r1 w1 => ⟨ρ, z.mono s1, pst.bind (rel := fun _ (a b : Option Int) => b = a) w1 fun l y H2 _ s2 r2 w2 => ⟨ρ, z.mono (s1.trans s2), pst.bind (rel := fun _ (a b : Option Int) => b = a) w2 fun h u H3 _ s3 r3 w3 => by
    subst r2 r3
    obtain ⟨a, e', k⟩ := pst_nox w3
    exact lift_sl e' (rd_mono (s2.trans s3) d x r1) k⟩⟩⟩
def dRev : D → R D
  | .lst ds => .ok (.lst ds.reverse)
  | .tup ds => .ok (.tup ds.reverse)
  | _ => .no
theorem le_rev {X : Cx} {W : WX} {e : Expr} {f : SE} {k : Nat} {p1 p2 p3 pos : Pos} (he : PE X e (tD X.K W f)) : PE X (.Subscript e (.Slice none none (some (.UnaryOp .USub (.Constant (.int 1) k p1) p2)) p3) pos) (tD X.K W (e1 dRev f)) :=
  (PE.or (pe_revL he) (pe_revT he)).imp fun σ H Q ⟨ρ, z, w⟩ => by
    by_cases ht : ∃ ds, f ρ = .ok (.tup ds)
    · obtain ⟨ds, ht⟩ := ht
      refine .inr ⟨ρ, z, pst.bind (rel := rd X.K) w fun d x H1 e s1 r1 w1 => ?_⟩
      rw [ht] at e; cases e
      obtain ⟨a, e', k⟩ := pst_nox w1
      cases e'
      unfold rd at r1
      obtain ⟨p, vs, rfl, q, r⟩ := r1
      refine ⟨p, vs, rfl, SqT.of q, fun p' hp => k _ _ (same_new hp) ?_⟩
      unfold rd
      exact ⟨p', _, rfl, upd_same, rds_mono (same_new hp) _ _ (rds_reverse r)⟩
    · refine .inl ⟨ρ, z, pst.bind (rel := rd X.K) w fun d x H1 e s1 r1 w1 => ?_⟩
      obtain ⟨a, e', k⟩ := pst_nox w1
      unfold dRev at e'
      split at e'
      · cases e'
        unfold rd at r1
        obtain ⟨p, vs, rfl, q, r⟩ := r1
        refine ⟨p, vs, rfl, SqL.of q, fun p' hp => k _ _ (same_new hp) ?_⟩
        unfold rd
        exact ⟨p', _, rfl, upd_same, rds_mono (same_new hp) _ _ (rds_reverse r)⟩
      · exact absurd ⟨_, e⟩ ht
      · cases e'
/-! ### built-in calls -/
theorem rds_1 {H : Hp} {d : D} {vs : List V} (h : rds K H [d] vs) : ∃ v, vs = [v] ∧ rd K H d v := by
  unfold rds at h
  obtain ⟨v, r, rfl, q, z⟩ := h
  unfold rds at z
  subst z
  exact ⟨v, rfl, q⟩
theorem rds_2 {H : Hp} {d e : D} {vs : List V} (h : rds K H [d, e] vs) : ∃ v u, vs = [v, u] ∧ rd K H d v ∧ rd K H e u := by
  unfold rds at h
  obtain ⟨v, r, rfl, q, z⟩ := h
  obtain ⟨u, rfl, q'⟩ := rds_1 z
  exact ⟨v, u, rfl, q, q'⟩
def dLen : List D → R D
  | [.lst ds] => .ok (.int ds.length)
  | [.tup ds] => .ok (.int ds.length)
  | [.scr ns] => .ok (.int ns.length)
  | [.dct kvs] => .ok (.int kvs.length)
  | [.str z] => if decide (z.length ≤ sizeLine) = true then .ok (.int z.length) else .no
  | _ => .no
abbrev rLenAll (K : PySem.W.Frag) : List V → Hp → VK → Prop := fun xs H Q => (∃ p ys, xs = [.ref p] ∧ (SqL K H p ys ∨ SqT K H p ys) ∧ Q (.int ys.length) H) ∨ (∃ a kvs, xs = [V.ref a] ∧ H a = some (.dK kvs) ∧ Q (.int kvs.length) H) ∨ ∃ z, xs = [.str z] ∧ z.length ≤ sizeLine ∧ Q (.int z.length) H
theorem call_lenAll {X : Cx} : CallR X (.builtin "len") (rLenAll X.K) := call_len_seq.or (call_lenD.or call_len_str)
theorem lift_len : LiftA K (rLenAll K) dLen := fun ds z vs H Q hz r k => by
  unfold dLen at hz
  split at hz
  · cases hz
    obtain ⟨v, rfl, q⟩ := rds_1 r
    unfold rd at q
    obtain ⟨a, us, rfl, q, r⟩ := q
    refine .inl ⟨a, us, rfl, .inl (SqL.of q), ?_⟩
    rw [rds_length r]
    exact k _ H (Same.refl H) (by unfold rd; rfl)
  · cases hz
    obtain ⟨v, rfl, q⟩ := rds_1 r
    unfold rd at q
    obtain ⟨a, us, rfl, q, r⟩ := q
    refine .inl ⟨a, us, rfl, .inr (SqT.of q), ?_⟩
    rw [rds_length r]
    exact k _ H (Same.refl H) (by unfold rd; rfl)
  · cases hz
    obtain ⟨v, rfl, q⟩ := rds_1 r
    unfold rd at q
    obtain ⟨a, rfl, q⟩ := q
    refine .inl ⟨a, _, rfl, .inl q, ?_⟩
    rw [List.length_map]
    exact k _ H (Same.refl H) (by unfold rd; rfl)
  · cases hz
    obtain ⟨v, rfl, q⟩ := rds_1 r
    unfold rd at q
    obtain ⟨a, us, rfl, q, r⟩ := q
    refine .inr (.inl ⟨a, us, rfl, q, ?_⟩)
    rw [rdk_length r]
    exact k _ H (Same.refl H) (by unfold rd; rfl)
  · split at hz
    · rename_i c
      cases hz
      obtain ⟨v, rfl, q⟩ := rds_1 r
      unfold rd at q
      subst q
      exact .inr (.inr ⟨_, rfl, of_decide_eq_true c, k _ H (Same.refl H) (by unfold rd; rfl)⟩)
    · cases hz
  · cases hz
def dAbs : List D → R D
  | [.int i] => .ok (.int (if i < 0 then -i else i))
  | _ => .no
theorem lift_abs : LiftA K (fun xs H Q => ∃ i, xs = [.int i] ∧ Q (.int (if i < 0 then -i else i)) H) dAbs := fun ds z vs H Q hz r k => by
  unfold dAbs at hz
  split at hz
  · cases hz
    obtain ⟨v, rfl, q⟩ := rds_1 r
    unfold rd at q
    subst q
    exact ⟨_, rfl, k _ H (Same.refl H) (by unfold rd; rfl)⟩
  · cases hz
def dMin : List D → R D
  | [.int i, .int j] => .ok (.int (if j < i then j else i))
  | _ => .no
theorem lift_min : LiftA K (fun xs H Q => ∃ i j, xs = [.int i, .int j] ∧ Q (.int (if j < i then j else i)) H) dMin := fun ds z vs H Q hz r k => by
  unfold dMin at hz
  split at hz
  · cases hz
    obtain ⟨v, u, rfl, q, q'⟩ := rds_2 r
    unfold rd at q q'
    subst q q'
    exact ⟨_, _, rfl, k _ H (Same.refl H) (by unfold rd; rfl)⟩
  · cases hz
def dMax : List D → R D
  | [.int i, .int j] => .ok (.int (if j > i then j else i))
  | _ => .no
theorem lift_max : LiftA K (fun xs H Q => ∃ i j, xs = [.int i, .int j] ∧ Q (.int (if j > i then j else i)) H) dMax := fun ds z vs H Q hz r k => by
  unfold dMax at hz
  split at hz
  · cases hz
    obtain ⟨v, u, rfl, q, q'⟩ := rds_2 r
    unfold rd at q q'
    subst q q'
    exact ⟨_, _, rfl, k _ H (Same.refl H) (by unfold rd; rfl)⟩
  · cases hz
def dSum : List D → R D
  | [.lst ds] => match asInts ds with
    | some ns => .ok (.int ns.sum)
    | none => .no
  | [.scr ns] => .ok (.int ns.sum)
  | _ => .no
theorem lift_sum : LiftA K (rSum K) dSum := fun ds z vs H Q hz r k => by
  unfold dSum at hz
  split at hz
  · split at hz
    · rename_i ns e
      cases hz
      obtain ⟨v, rfl, q⟩ := rds_1 r
      rw [asInts_map e] at q
      unfold rd at q
      obtain ⟨a, us, rfl, q, r⟩ := q
      have ev := rds_ints r
      subst ev
      exact ⟨a, ns, rfl, SqL.of q, k _ H (Same.refl H) (by unfold rd; rfl)⟩
    · cases hz
  · cases hz
    obtain ⟨v, rfl, q⟩ := rds_1 r
    unfold rd at q
    obtain ⟨a, rfl, q⟩ := q
    exact ⟨a, _, rfl, q, k _ H (Same.refl H) (by unfold rd; rfl)⟩
  · cases hz
def dAll : List D → R D
  | [.lst ds] => match asBls ds with
    | some ns => .ok (.bl (ns.all id))
    | none => .no
  | _ => .no
def dAny : List D → R D
  | [.lst ds] => match asBls ds with
    | some ns => .ok (.bl (ns.any id))
    | none => .no
  | _ => .no
theorem lift_all : LiftA K (rAll K) dAll := fun ds z vs H Q hz r k => by
  unfold dAll at hz
  split at hz
  · split at hz
    · rename_i ns e
      cases hz
      obtain ⟨v, rfl, q⟩ := rds_1 r
      rw [asBls_map e] at q
      unfold rd at q
      obtain ⟨a, us, rfl, q, r⟩ := q
      have ev := rds_bls r
      subst ev
      exact ⟨a, ns, rfl, SqL.of q, k _ H (Same.refl H) (by unfold rd; rfl)⟩
    · cases hz
  · cases hz
theorem lift_any : LiftA K (rAny K) dAny := fun ds z vs H Q hz r k => by
  unfold dAny at hz
  split at hz
  · split at hz
    · rename_i ns e
      cases hz
      obtain ⟨v, rfl, q⟩ := rds_1 r
      rw [asBls_map e] at q
      unfold rd at q
      obtain ⟨a, us, rfl, q, r⟩ := q
      have ev := rds_bls r
      subst ev
      exact ⟨a, ns, rfl, SqL.of q, k _ H (Same.refl H) (by unfold rd; rfl)⟩
    · cases hz
  · cases hz
def keyD : Key → D
  | .inl i => .int i
  | .inr s => .str s
theorem keyD_rd {H : Hp} (k : Key) : rd K H (keyD k) (kV k) := by cases k <;> (unfold keyD rd; rfl)
theorem rdk_keys {H : Hp} : ∀ {kvs : List (Key × D)} {kws : List (Key × V)}, rdk K H kvs kws → rds K H (kvs.map fun kv => keyD kv.1) (kws.map fun kv => kV kv.1)
  | [], kws, h => by unfold rdk at h; subst h; exact rds_nil
  | (j, d) :: kvs, kws, h => by
    unfold rdk at h
    obtain ⟨v, r, rfl, q, z⟩ := h
    exact rds_cons (keyD_rd j) (rdk_keys z)
def dList : List D → R D
  | [.lst ds] => .ok (.lst ds)
  | [.tup ds] => .ok (.lst ds)
  | [.scr ns] => .ok (.lst (ns.map D.int))
  | [.dct kvs] => .ok (.lst (kvs.map fun kv => keyD kv.1))
  | _ => .no
abbrev rListAll (K : PySem.W.Frag) : List V → Hp → VK → Prop := fun xs H Q => (∃ p ys, xs = [.ref p] ∧ (SqL K H p ys ∨ SqT K H p ys) ∧ ∀ l, H l = none → Q (.ref l) (upd H l (.lst ys))) ∨ rListD xs H Q
theorem call_listAll {X : Cx} (hc : X.calm = true) : CallR X (.type "list") (rListAll X.K) := call_list_of.or (call_list_dK hc)
theorem lift_list : LiftA K (rListAll K) dList := fun ds z vs H Q hz r k => by
  have fin : ∀ {es : List D} {us : List V} (l : Addr), rds K H es us → H l = none → D.lst es = z → Q (.ref l) (upd H l (.lst us)) := fun {es us} l r hl e => by
    subst e
    refine k _ _ (same_new hl) ?_
    unfold rd
    exact ⟨l, _, rfl, upd_same, rds_mono (same_new hl) _ _ r⟩
  unfold dList at hz
  split at hz
  · cases hz
    obtain ⟨v, rfl, q⟩ := rds_1 r
    unfold rd at q
    obtain ⟨a, us, rfl, q, r⟩ := q
    exact .inl ⟨a, us, rfl, .inl (SqL.of q), fun l hl => fin l r hl rfl⟩
  · cases hz
    obtain ⟨v, rfl, q⟩ := rds_1 r
    unfold rd at q
    obtain ⟨a, us, rfl, q, r⟩ := q
    exact .inl ⟨a, us, rfl, .inr (SqT.of q), fun l hl => fin l r hl rfl⟩
  · cases hz
    obtain ⟨v, rfl, q⟩ := rds_1 r
    unfold rd at q
    obtain ⟨a, rfl, q⟩ := q
    exact .inl ⟨a, _, rfl, .inl q, fun l hl => fin l ints_rds hl rfl⟩
  · cases hz
    obtain ⟨v, rfl, q⟩ := rds_1 r
    unfold rd at q
    obtain ⟨a, us, rfl, q, r⟩ := q
    exact .inr ⟨a, us, rfl, q, fun l hl => fin l (rdk_keys r) hl rfl⟩
  · cases hz
def dTuple : List D → R D
  | [.lst ds] => .ok (.tup ds)
  | [.tup ds] => .ok (.tup ds)
  | _ => .no
theorem lift_tuple : LiftA K (fun xs H Q => ∃ p ys, xs = [.ref p] ∧ ((SqL K H p ys ∧ ∀ l, H l = none → Q (.ref l) (upd H l (.tup ys))) ∨ (SqT K H p ys ∧ Q (.ref p) H))) dTuple := fun ds z vs H Q hz r k => by
  unfold dTuple at hz
  split at hz
  · cases hz
    obtain ⟨v, rfl, q⟩ := rds_1 r
    unfold rd at q
    obtain ⟨a, us, rfl, q, r⟩ := q
    refine ⟨a, us, rfl, .inl ⟨SqL.of q, fun l hl => k _ _ (same_new hl) ?_⟩⟩
    unfold rd
    exact ⟨l, _, rfl, upd_same, rds_mono (same_new hl) _ _ r⟩
  · cases hz
    obtain ⟨v, rfl, q⟩ := rds_1 r
    unfold rd at q
    obtain ⟨a, us, rfl, q, r⟩ := q
    refine ⟨a, us, rfl, .inr ⟨SqT.of q, k _ _ (Same.refl H) ?_⟩⟩
    unfold rd
    exact ⟨a, us, rfl, q, r⟩
  · cases hz
end
end Tw

/-! Tw5: what is walked, targets, comprehensions. -/
namespace Tw
open PySem L2

/-! ### the frame, for expressions -/
def fr {β : Type} (t : St → Hp → (β → Hp → Prop) → Prop) : St → Hp → (β → Hp → Prop) → Prop := fun σ H Q => ∃ L F, Hid L F H ∧ t σ F (fun v F' => (∀ a ∈ L, F' a = none) → Q v (mix L H F'))
/-- what was hidden is still hidden -/
theorem hid_out {X : Cx} {pins : List (Addr × Obj)} {σ σ' : St} {F F' H : Hp} {s s' : Shared} {L : List Addr} (I : Inv X pins σ H s) (hd : Hid L F H) (J : Inv X (pins ++ objs L s.heap) σ' F' s') : ∀ a ∈ L, F' a = none := fun a ha => by
  obtain ⟨ob, e, _⟩ := hid_ob I hd ha
  exact (J.pin (a, ob) (List.mem_append_right _ (List.mem_append_right _ (mem_objs ha e)))).2.1
theorem _root_.L2.PE.frame {X : Cx} {e : Expr} {t : TE} (h : PE X e t) : PE X e (fr t) := by
  refine ⟨fun pins s σ H Q I ⟨L, F, hd, w⟩ => ?_⟩
  refine thn (h.run _ s σ F _ (Inv.hide I hd) w) fun u s' ⟨v, F', I', r, q⟩ => ?_
  exact ⟨v, mix L H F', Inv.unhide I hd I', r, q (hid_out I hd I')⟩
theorem _root_.L2.PT.frame {X : Cx} {e : Expr} {t : TT} (h : PT X e t) : PT X e (fr t) := by
  refine ⟨fun pins s σ H Q I ⟨L, F, hd, w⟩ => ?_⟩
  refine thn (h.run _ s σ F _ (Inv.hide I hd) w) fun u s' ⟨F', I', q⟩ => ?_
  exact ⟨mix L H F', Inv.unhide I hd I', q (hid_out I hd I')⟩
theorem _root_.L2.PS.frame {X : Cx} {st : Stmt} {t : TS} (h : PS X st t) : PS X st (fun D σ H => ∃ L F, Hid L F H ∧ t ⟨fun σ' F' => (∀ a ∈ L, F' a = none) → D.nx σ' (mix L H F'), fun v F' => (∀ a ∈ L, F' a = none) → D.rt v (mix L H F'), fun σ' F' => (∀ a ∈ L, F' a = none) → D.bk σ' (mix L H F'), fun σ' F' => (∀ a ∈ L, F' a = none) → D.ct σ' (mix L H F')⟩ σ F) := by
  refine ⟨fun pins s σ H D I ⟨L, F, hd, w⟩ => ?_⟩
  refine thn (h.run _ s σ F _ (Inv.hide I hd) w) fun f s' q => ?_
  cases f with
  | next => obtain ⟨σ', F', I', q⟩ := q; exact ⟨σ', mix L H F', Inv.unhide I hd I', q (hid_out I hd I')⟩
  | brk => obtain ⟨σ', F', I', q⟩ := q; exact ⟨σ', mix L H F', Inv.unhide I hd I', q (hid_out I hd I')⟩
  | cont => obtain ⟨σ', F', I', q⟩ := q; exact ⟨σ', mix L H F', Inv.unhide I hd I', q (hid_out I hd I')⟩
  | ret u => obtain ⟨v, σ', F', I', r, q⟩ := q; exact ⟨v, σ', mix L H F', Inv.unhide I hd I', r, q (hid_out I hd I')⟩
theorem pin_ne {X : Cx} {pins more : List (Addr × Obj)} {H : Hp} {b : Addr} (h : FpOk X (pins ++ more) H b) : ∀ p ∈ more, p.1 ≠ b := fun p hp => h.2.2.2.2.2 p (List.mem_append_right _ (List.mem_append_right _ hp))
theorem _root_.L2.PI.frame {X : Cx} {tg iter : Expr} {wi : TI} (h : PI X tg iter wi) : PI X tg iter (fr wi) := by
  refine ⟨fun pins s σ H R I ⟨L, F, hd, w⟩ => ?_⟩
  refine thn (h.run _ s σ F _ (Inv.hide I hd) w) fun v s1 q => thn q fun itv s2 ⟨it, fp, tn, J, F', e, I', T, st, f, r⟩ => ?_
  refine ⟨it, fp, tn, J, mix L H F', e, Inv.unhide I hd I', T, st, fun b hb => ?_, r (hid_out I hd I')⟩
  have z := f b hb
  have nL : b ∉ L := fun hbL => by
    obtain ⟨ob, eo, _⟩ := hid_ob I hd hbL
    exact pin_ne z _ (mem_objs hbL eo) rfl
  refine ⟨?_, z.2.1, z.2.2.1, z.2.2.2.1, z.2.2.2.2.1, fun p hp => z.2.2.2.2.2 p ?_⟩
  · unfold mix; rw [if_neg nL]; exact z.1
  · rcases List.mem_append.mp hp with y | y
    · exact List.mem_append_left _ y
    · exact List.mem_append_right _ (List.mem_append_left _ y)

/-! ### two heaps that grow together -/
def Grow (F H F' H' : Hp) : Prop := ∀ a, (F' a = F a ∧ H' a = H a) ∨ (H a = none ∧ F' a = H' a)
theorem Grow.refl (F H : Hp) : Grow F H F H := fun _ => .inl ⟨rfl, rfl⟩
theorem Grow.same {F H F' H' : Hp} (g : Grow F H F' H') (s : Same F H) : Same F F' ∧ Same H H' ∧ Same F' H' := by
  refine ⟨fun a o e => ?_, fun a o e => ?_, fun a o e => ?_⟩
  · rcases g a with ⟨h, _⟩ | ⟨h, _⟩
    · rw [h]; exact e
    · rw [s a o e] at h; cases h
  · rcases g a with ⟨_, h⟩ | ⟨h, _⟩
    · rw [h]; exact e
    · rw [e] at h; cases h
  · rcases g a with ⟨h, h'⟩ | ⟨_, h⟩
    · rw [h'] ; rw [h] at e; exact s a o e
    · rw [← h]; exact e
theorem Grow.new {F H : Hp} {p : Addr} {o : HO} (h : H p = none) : Grow F H (upd F p o) (upd H p o) := fun a => by
  by_cases e : a = p
  · subst e; exact .inr ⟨h, by rw [upd_same, upd_same]⟩
  · exact .inl ⟨upd_ne e, upd_ne e⟩

section
variable {K : PySem.W.Frag}
/-- the iterator gives these data one after another -/
def WalkD (K : PySem.W.Frag) (ds : List D) (J : It) (F1 : Hp) : Prop := ∀ (i : Nat) (F2 H2 : Hp), Same F1 F2 → Same F2 H2 →
  (i < ds.length → J.go i H2 ∧ ∀ x H3, J.yld i H2 x H3 → ∃ F3 d, Grow F2 H2 F3 H3 ∧ ds[i]? = some d ∧ rd K F3 d x) ∧ (ds.length ≤ i → J.stop i H2)
theorem WalkD.mono {ds : List D} {J : It} {F F' : Hp} (s : Same F F') (w : WalkD K ds J F) : WalkD K ds J F' := fun i F2 H2 s1 s2 => w i F2 H2 (s.trans s1) s2
theorem walkD_list {a : Addr} {xs : List V} {ds : List D} {F : Hp} (q : SqL K F a xs) (r : rds K F ds xs) : WalkD K ds (Itl K a) F := fun i F2 H2 s1 s2 => by
  have q2 : SqL K H2 a xs := (s1.trans s2).seq q
  refine ⟨fun hi => ⟨⟨xs, xs[i]'(by rw [rds_length r]; exact hi), q2, by simp⟩, fun x H3 y => ?_⟩, fun hi => ⟨xs, q2, by rw [rds_length r]; exact hi⟩⟩
  obtain ⟨rfl, y⟩ := y
  obtain ⟨d, h1, h2⟩ := rds_at r (y xs q2)
  exact ⟨F2, d, Grow.refl _ _, h1, rd_mono s1 d x h2⟩
theorem walkD_tup {a : Addr} {xs : List V} {ds : List D} {F : Hp} (q : SqT K F a xs) (r : rds K F ds xs) : WalkD K ds (Itt K a) F := fun i F2 H2 s1 s2 => by
  have q2 : SqT K H2 a xs := sqT_mono (s1.trans s2) q
  refine ⟨fun hi => ⟨⟨xs, xs[i]'(by rw [rds_length r]; exact hi), q2, by simp⟩, fun x H3 y => ?_⟩, fun hi => ⟨xs, q2, by rw [rds_length r]; exact hi⟩⟩
  obtain ⟨rfl, y⟩ := y
  obtain ⟨d, h1, h2⟩ := rds_at r (y xs q2)
  exact ⟨F2, d, Grow.refl _ _, h1, rd_mono s1 d x h2⟩
def rngD (lo : Int) (n : Nat) : List D := (List.range n).map fun (i : Nat) => D.int (lo + i)
theorem walkD_range {lo : Int} {n : Nat} {F : Hp} : WalkD K (rngD lo n) (Itr lo n) F := fun i F2 H2 s1 s2 => by
  have hl : (rngD lo n).length = n := by simp [rngD]
  rw [hl]
  refine ⟨fun hi => ⟨hi, fun x H3 y => ?_⟩, fun hi => hi⟩
  obtain ⟨rfl, rfl⟩ := y
  refine ⟨F2, .int (lo + i), Grow.refl _ _, ?_, by unfold rd; rfl⟩
  simp [rngD, hi]
def enumD (n : Nat) : List D → List D
  | [] => []
  | d :: ds => .tup [.int n, d] :: enumD (n + 1) ds
theorem enumD_length : ∀ (n : Nat) (ds : List D), (enumD n ds).length = ds.length
  | _, [] => rfl
  | n, d :: ds => by simp [enumD, enumD_length (n + 1) ds]
theorem enumD_get : ∀ (n : Nat) (ds : List D) (i : Nat), (enumD n ds)[i]? = (ds[i]?).map fun d => .tup [.int ((n + i : Nat) : Int), d]
  | _, [], i => by simp [enumD]
  | n, d :: ds, 0 => by simp [enumD]
  | n, d :: ds, i + 1 => by
    simp only [enumD, List.getElem?_cons_succ, enumD_get (n + 1) ds i]
    have e : n + 1 + i = n + (i + 1) := by omega
    rw [e]
theorem rd_pair {H : Hp} {p : Addr} {d e : D} {x y : V} (h : H p = some (.tup [x, y])) (r1 : rd K H d x) (r2 : rd K H e y) : rd K H (.tup [d, e]) (.ref p) := by
  unfold rd
  exact ⟨p, _, rfl, h, rds_cons r1 (rds_one r2)⟩
theorem walkD_enum {a : Addr} {xs : List V} {ds : List D} {F : Hp} (q : SqL K F a xs) (r : rds K F ds xs) : WalkD K (enumD 0 ds) (Ite K a) F := fun i F2 H2 s1 s2 => by
  have q2 : SqL K H2 a xs := (s1.trans s2).seq q
  rw [enumD_length]
  refine ⟨fun hi => ⟨⟨xs, xs[i]'(by rw [rds_length r]; exact hi), q2, by simp⟩, fun v H3 y => ?_⟩, fun hi => ⟨xs, q2, by rw [rds_length r]; exact hi⟩⟩
  obtain ⟨T, x, rfl, hT, rfl, y⟩ := y
  obtain ⟨d, h1, h2⟩ := rds_at r (y xs q2)
  have fT : F2 T = none := by
    cases e : F2 T with
    | none => rfl
    | some o => rw [s2 T o e] at hT; cases hT
  refine ⟨_, .tup [.int (i : Nat), d], Grow.new hT, ?_, rd_pair upd_same (by unfold rd; rfl) (rd_mono (s1.trans (same_new fT)) d x h2)⟩
  rw [enumD_get, h1]
  simp
def zipD : List D → List D → List D
  | a :: as, b :: bs => .tup [a, b] :: zipD as bs
  | _, _ => []
theorem zipD_length : ∀ (as bs : List D), (zipD as bs).length = min as.length bs.length
  | [], bs => by simp [zipD]
  | a :: as, [] => by simp [zipD]
  | a :: as, b :: bs => by simp [zipD, zipD_length as bs]
theorem zipD_get : ∀ (as bs : List D) (i : Nat) (a b : D), as[i]? = some a → bs[i]? = some b → (zipD as bs)[i]? = some (.tup [a, b])
  | [], bs, i, a, b, h, _ => by simp at h
  | x :: as, [], i, a, b, _, h => by simp at h
  | x :: as, y :: bs, 0, a, b, h, h' => by simp at h h'; subst h h'; simp [zipD]
  | x :: as, y :: bs, i + 1, a, b, h, h' => by
    simp only [zipD, List.getElem?_cons_succ]
    exact zipD_get as bs i a b (by simpa using h) (by simpa using h')
theorem walkD_zip {a b : Addr} {xs ys : List V} {ds es : List D} {F : Hp} (q : SqL K F a xs) (r : rds K F ds xs) (q' : SqL K F b ys) (r' : rds K F es ys) : WalkD K (zipD ds es) (Itz K a b) F := fun i F2 H2 s1 s2 => by
  have q2 : SqL K H2 a xs := (s1.trans s2).seq q
  have q3 : SqL K H2 b ys := (s1.trans s2).seq q'
  rw [zipD_length]
  have l1 := rds_length r
  have l2 := rds_length r'
  refine ⟨fun hi => ⟨⟨xs, ys, xs[i]'(by omega), ys[i]'(by omega), q2, q3, by simp, by simp⟩, fun v H3 y => ?_⟩, fun hi => ⟨xs, ys, q2, q3, by omega⟩⟩
  obtain ⟨T, x, u, rfl, hT, rfl, y, y'⟩ := y
  obtain ⟨d, h1, h2⟩ := rds_at r (y xs q2)
  obtain ⟨e, h3, h4⟩ := rds_at r' (y' ys q3)
  have fT : F2 T = none := by
    cases e : F2 T with
    | none => rfl
    | some o => rw [s2 T o e] at hT; cases hT
  have sm := s1.trans (same_new (o := .tup [x, u]) fT)
  exact ⟨_, .tup [d, e], Grow.new hT, zipD_get _ _ _ _ _ h1 h3, rd_pair upd_same (rd_mono sm d x h2) (rd_mono sm e u h4)⟩
abbrev tI (K : PySem.W.Frag) (W : WX) (f : SA) : TI := tG K (fun H ds J => WalkD K ds J H) W f
theorem _root_.L2.PI.imp {X : Cx} {tg iter : Expr} {t t' : TI} (h : PI X tg iter t) (k : ∀ σ H R, t' σ H R → t σ H R) : PI X tg iter t' := ⟨fun pins s σ H R I w => h.run pins s σ H R I (k σ H R w)⟩
theorem _root_.L2.PI.or {X : Cx} {tg iter : Expr} {t t' : TI} (h : PI X tg iter t) (h' : PI X tg iter t') : PI X tg iter (fun σ H R => t σ H R ∨ t' σ H R) := ⟨fun pins s σ H R I w => w.elim (h.run pins s σ H R I) (h'.run pins s σ H R I)⟩
/-- the items of a list, a tuple -/
def iterD : D → R (List D)
  | .lst ds => .ok ds
  | .tup ds => .ok ds
  | .scr ns => .ok (ns.map D.int)
  | _ => .no
def iSeq (f : SE) : SA := fun ρ => (f ρ).bind iterD
theorem li_seq {X : Cx} {W : WX} {tg e : Expr} {f : SE} (h : PE X e (tD X.K W f)) : PI X tg e (tI X.K W (iSeq f)) := (PI.or (pi_list h) (pi_tup h)).imp fun σ H R ⟨ρ, z, w⟩ => by
  by_cases ht : ∃ ds, f ρ = .ok (.tup ds)
  · obtain ⟨ds, ht⟩ := ht
    refine .inr ⟨ρ, z, pst.bind (rel := rd X.K) w fun d x H1 e s1 r1 w1 => ?_⟩
    rw [ht] at e; cases e
    unfold rd at r1
    obtain ⟨a, vs, rfl, q, r⟩ := r1
    exact ⟨a, rfl, ⟨vs, SqT.of q⟩, w1 _ H1 (Same.refl H1) (walkD_tup (SqT.of q) r)⟩
  · refine .inl ⟨ρ, z, pst.bind (rel := rd X.K) w fun d x H1 e s1 r1 w1 => ?_⟩
    unfold iterD at w1
    split at w1
    · unfold rd at r1
      obtain ⟨a, vs, rfl, q, r⟩ := r1
      exact ⟨a, rfl, ⟨vs, SqL.of q⟩, w1 _ H1 (Same.refl H1) (walkD_list (SqL.of q) r)⟩
    · exact absurd ⟨_, e⟩ ht
    · unfold rd at r1
      obtain ⟨a, rfl, q⟩ := r1
      exact ⟨a, rfl, ⟨_, q⟩, w1 _ H1 (Same.refl H1) (walkD_list q ints_rds)⟩
    · exact w1.elim
def rgOk (j : Int) : Bool := decide (-4611686018427387904 ≤ j) && decide (j < 4611686018427387904)
def dRng1 : List D → R (List D)
  | [.int j] => if rgOk j = true then .ok (rngD 0 j.toNat) else .no
  | _ => .no
def dRng2 : List D → R (List D)
  | [.int i, .int j] => if (rgOk i && rgOk j) = true then .ok (rngD i (j - i).toNat) else .no
  | _ => .no
def iRg (g : List D → R (List D)) (f : SA) : SA := fun ρ => (f ρ).bind g
theorem rgOk_iff {j : Int} (h : rgOk j = true) : -(2 ^ 62) ≤ j ∧ j < 2 ^ 62 := by
  simp only [rgOk, Bool.and_eq_true, decide_eq_true_eq] at h
  have e : (2 : Int) ^ 62 = 4611686018427387904 := by decide
  rw [e]; exact h
theorem li_range1 {X : Cx} {W : WX} {tg a : Expr} {f : SA} {p pos : Pos} (hg : Gl X "range") (hm : X.mg "range" = none) (ha : PA X [a] (tA X.K W f)) (hs : starEach [a] X.env = [(false, eval a X.env)] := by rfl) : PI X tg (.Call (.Name "range" p) [a] [] pos) (tI X.K W (iRg dRng1 f)) :=
  (pi_range1 hg hm ha hs).imp fun σ H R ⟨ρ, z, w⟩ => ⟨ρ, z, pst.bind (rel := rds X.K) w fun ds vs H1 e s1 r1 w1 => by
    unfold dRng1 at w1
    split at w1
    · split at w1
      · rename_i j c
        obtain ⟨v, rfl, q⟩ := rds_1 r1
        unfold rd at q
        subst q
        exact ⟨j, rfl, (rgOk_iff c).1, (rgOk_iff c).2, w1 _ H1 (Same.refl H1) walkD_range⟩
      · exact w1.elim
    · exact w1.elim⟩
theorem li_range2 {X : Cx} {W : WX} {tg a b : Expr} {f : SA} {p pos : Pos} (hg : Gl X "range") (hm : X.mg "range" = none) (ha : PA X [a, b] (tA X.K W f)) (hs : starEach [a, b] X.env = [(false, eval a X.env), (false, eval b X.env)] := by rfl) (hs2 : starEach [b] X.env = [(false, eval b X.env)] := by rfl) : PI X tg (.Call (.Name "range" p) [a, b] [] pos) (tI X.K W (iRg dRng2 f)) :=
  (pi_range2 hg hm ha hs hs2).imp fun σ H R ⟨ρ, z, w⟩ => ⟨ρ, z, pst.bind (rel := rds X.K) w fun ds vs H1 e s1 r1 w1 => by
    unfold dRng2 at w1
    split at w1
    · split at w1
      · rename_i i j c
        obtain ⟨v, u, rfl, q, q'⟩ := rds_2 r1
        unfold rd at q q'
        subst q q'
        obtain ⟨c1, c2⟩ := Bool.and_eq_true_iff.mp c
        exact ⟨i, j, rfl, ⟨(rgOk_iff c1).1, (rgOk_iff c1).2, (rgOk_iff c2).1, (rgOk_iff c2).2⟩, w1 _ H1 (Same.refl H1) walkD_range⟩
      · exact w1.elim
    · exact w1.elim⟩
def dEnum : List D → R (List D)
  | [.lst ds] => .ok (enumD 0 ds)
  | _ => .no
theorem li_enum {X : Cx} {W : WX} {e : Expr} {f : SA} {p pos tpos : Pos} {elts : List Expr} {kk : Nat} (hg : Gl X "enumerate") (hm : X.mg "enumerate" = none) (ha : PA X [e] (tA X.K W f)) (hs : starEach [e] X.env = [(false, eval e X.env)] := by rfl) : PI X (.Tuple elts kk tpos) (.Call (.Name "enumerate" p) [e] [] pos) (tI X.K W (iRg dEnum f)) :=
  (pi_enum hg hm ha hs).imp fun σ H R ⟨ρ, z, w⟩ => ⟨ρ, z, pst.bind (rel := rds X.K) w fun ds vs H1 e s1 r1 w1 => by
    unfold dEnum at w1
    split at w1
    · obtain ⟨v, rfl, q⟩ := rds_1 r1
      unfold rd at q
      obtain ⟨a, us, rfl, q, r⟩ := q
      exact ⟨a, us, rfl, SqL.of q, w1 _ H1 (Same.refl H1) (walkD_enum (SqL.of q) r)⟩
    · exact w1.elim⟩
def dZip : List D → R (List D)
  | [.lst ds, .lst es] => .ok (zipD ds es)
  | _ => .no
theorem li_zip {X : Cx} {W : WX} {e e2 : Expr} {f : SA} {p pos tpos : Pos} {elts : List Expr} {kk : Nat} (hg : Gl X "zip") (hm : X.mg "zip" = none) (ha : PA X [e, e2] (tA X.K W f)) (hs : starEach [e, e2] X.env = (false, eval e X.env) :: starEach [e2] X.env := by rfl) (hpl : (backTo pos (starEach [e2] X.env)).any (·.1) = false := by rfl) :
    PI X (.Tuple elts kk tpos) (.Call (.Name "zip" p) [e, e2] [] pos) (tI X.K W (iRg dZip f)) :=
  (pi_zip hg hm ha hs hpl).imp fun σ H R ⟨ρ, z, w⟩ => ⟨ρ, z, pst.bind (rel := rds X.K) w fun ds vs H1 e s1 r1 w1 => by
    unfold dZip at w1
    split at w1
    · obtain ⟨v, u, rfl, q, q'⟩ := rds_2 r1
      unfold rd at q q'
      obtain ⟨a, us, rfl, q, r⟩ := q
      obtain ⟨b, ws, rfl, q', r'⟩ := q'
      exact ⟨a, b, us, ws, rfl, SqL.of q, SqL.of q', w1 _ H1 (Same.refl H1) (walkD_zip (SqL.of q) r (SqL.of q') r')⟩
    · exact w1.elim⟩

/-! ### targets -/
inductive Tg where
  | nm (i : Nat) | tp (ts : List Tg)
mutual
def bindT : Tg → D → Option (List (Nat × D))
  | .nm i, d => some [(i, d)]
  | .tp ts, .tup ds => bindTs ts ds
  | .tp _, _ => none
def bindTs : List Tg → List D → Option (List (Nat × D))
  | [], [] => some []
  | t :: ts, d :: ds => (bindT t d).bind fun a => (bindTs ts ds).map fun b => a ++ b
  | _, _ => none
end
theorem bindTs_length : ∀ {ts : List Tg} {ds : List D} {bs : List (Nat × D)}, bindTs ts ds = some bs → ts.length = ds.length
  | [], [], _, _ => rfl
  | t :: ts, d :: ds, bs, h => by
    unfold bindTs at h
    cases e : bindT t d with
    | none => rw [e] at h; cases h
    | some a =>
      rw [e] at h
      cases e' : bindTs ts ds with
      | none => rw [e'] at h; cases h
      | some b => simp [bindTs_length e']
  | [], d :: ds, bs, h => by unfold bindTs at h; cases h
  | t :: ts, [], bs, h => by unfold bindTs at h; cases h
def setsV (σ : St) : List (Nat × D) → List V → St
  | (i, _) :: bs, v :: vs => setsV (σ.set i (some v)) bs vs
  | _, _ => σ
theorem setsV_append : ∀ (as bs : List (Nat × D)) (us vs : List V) (σ : St), us.length = as.length → setsV σ (as ++ bs) (us ++ vs) = setsV (setsV σ as us) bs vs
  | [], bs, us, vs, σ, h => by
    have : us = [] := List.length_eq_zero_iff.mp h
    subst this; rfl
  | (i, d) :: as, bs, [], vs, σ, h => by simp at h
  | (i, d) :: as, bs, u :: us, vs, σ, h => setsV_append as bs us vs _ (by simpa using h)
def tTg (K : PySem.W.Frag) (t : Tg) : TG := fun v σ H Q => ∃ d F bs, Same F H ∧ rd K F d v ∧ bindT t d = some bs ∧ ∀ vs, rds K F (bs.map (·.2)) vs → Q (setsV σ bs vs) H
def tTgs (K : PySem.W.Frag) (ts : List Tg) : TGs := fun xs σ H Q => ∃ ds F bs, Same F H ∧ rds K F ds xs ∧ bindTs ts ds = some bs ∧ ∀ vs, rds K F (bs.map (·.2)) vs → Q (setsV σ bs vs) H
theorem _root_.L2.PG.imp {X : Cx} {tg : Expr} {t t' : TG} (h : PG X tg t) (k : ∀ v σ H Q, t' v σ H Q → t v σ H Q) : PG X tg t' := ⟨fun pins s σ H v u Q I r w => h.run pins s σ H v u Q I r (k v σ H Q w)⟩
theorem _root_.L2.PGs.imp {X : Cx} {tg : List Expr} {t t' : TGs} (h : PGs X tg t) (k : ∀ v σ H Q, t' v σ H Q → t v σ H Q) : PGs X tg t' := ⟨fun pins s σ H v u Q I r w => h.run pins s σ H v u Q I r (k v σ H Q w)⟩
theorem lg_name {X : Cx} {e : Expr} {i : Nat} (h : PG X e (gName i)) : PG X e (tTg X.K (.nm i)) := h.imp fun v σ H Q ⟨d, F, bs, s, r, e, k⟩ => by
  unfold bindT at e
  cases e
  exact k [v] (rds_one r)
theorem lg_nil {X : Cx} : PGs X [] (tTgs X.K []) := pgs_nil.imp fun v σ H Q ⟨ds, F, bs, s, r, e, k⟩ => by
  cases ds with
  | nil =>
    unfold bindTs at e; cases e
    unfold rds at r
    exact ⟨r, k [] rds_nil⟩
  | cons d ds => unfold bindTs at e; cases e
theorem lg_cons {X : Cx} {e : Expr} {es : List Expr} {t : Tg} {ts : List Tg} (h1 : PG X e (tTg X.K t)) (h2 : PGs X es (tTgs X.K ts)) (hs : (assignEach (e :: es) X.env).map (·.2) = assign e X.env :: (assignEach es X.env).map (·.2) := by rfl) : PGs X (e :: es) (tTgs X.K (t :: ts)) :=
  (pgs_cons h1 h2 hs).imp fun v σ H Q ⟨ds, F, bs, s, r, eb, k⟩ => by
    cases ds with
    | nil => unfold bindTs at eb; cases eb
    | cons d ds =>
      unfold bindTs at eb
      cases e1 : bindT t d with
      | none => rw [e1] at eb; cases eb
      | some a =>
        rw [e1] at eb
        cases e2 : bindTs ts ds with
        | none => rw [e2] at eb; cases eb
        | some b =>
          rw [e2] at eb
          cases eb
          unfold rds at r
          obtain ⟨x, xs, rfl, q, r⟩ := r
          refine ⟨x, xs, rfl, d, F, a, s, q, e1, fun us ru => ⟨ds, F, b, s, r, e2, fun ws rw' => ?_⟩⟩
          rw [← setsV_append _ _ _ _ _ (by rw [rds_length ru, List.length_map])]
          exact k _ (by rw [List.map_append]; exact rds_append ru rw')
theorem lg_tup {X : Cx} {es : List Expr} {k : Nat} {ts : List Tg} {n : Nat} {pos : Pos} (hc : X.calm = true) (h : PGs X es (tTgs X.K ts)) (hl : ts.length = n := by rfl) (hn : (assignEach es X.env).length = n := by rfl) (hst : (assignEach es X.env).findIdx? (·.1) = none := by rfl) : PG X (.Tuple es k pos) (tTg X.K (.tp ts)) :=
  (pg_tup (n := n) hc h hn hst).imp fun v σ H Q ⟨d, F, bs, s, r, eb, kk⟩ => by
    cases d with
    | tup ds =>
      unfold bindT at eb
      unfold rd at r
      obtain ⟨a, xs, rfl, q, r⟩ := r
      exact ⟨a, xs, rfl, SqT.of (s a _ q), by rw [rds_length r, ← bindTs_length eb]; exact hl, ds, F, bs, s, r, eb, kk⟩
    | _ => unfold bindT at eb; cases eb
/-! ### the environment of data under stores -/
def setsD (ρ : Ev) : List (Nat × D) → Ev
  | [] => ρ
  | (i, d) :: bs => setsD (ρ.set i (some d)) bs
def wipeD (ρ : Ev) : List Nat → Ev
  | [] => ρ
  | v :: vs => (wipeD ρ vs).set v none
theorem Rz.set {ρ : Ev} {σ : St} {H : Hp} {i : Nat} {d : D} {v : V} (h : Rz K ρ σ H) (r : rd K H d v) : Rz K (ρ.set i (some d)) (σ.set i (some v)) H := ⟨by simp [h.len], fun j e hj => by
  have hl := h.len
  by_cases hji : i = j
  · subst hji
    by_cases hlt : i < ρ.length
    · rw [List.getElem?_set_self hlt] at hj
      cases hj
      exact ⟨v, by rw [List.getElem?_set_self (by omega)], r⟩
    · rw [List.getElem?_eq_none (by rw [List.length_set]; omega)] at hj
      cases hj
  · rw [List.getElem?_set_ne hji] at hj
    obtain ⟨u, h1, h2⟩ := h.get j e hj
    exact ⟨u, by rw [List.getElem?_set_ne hji]; exact h1, h2⟩⟩
theorem Rz.sets {H : Hp} : ∀ {bs : List (Nat × D)} {vs : List V} {ρ : Ev} {σ : St}, Rz K ρ σ H → rds K H (bs.map (·.2)) vs → Rz K (setsD ρ bs) (setsV σ bs vs) H
  | [], vs, ρ, σ, h, r => by
    unfold setsD
    cases vs <;> exact h
  | (i, d) :: bs, vs, ρ, σ, h, r => by
    simp only [List.map_cons] at r
    unfold rds at r
    obtain ⟨v, us, rfl, q, r⟩ := r
    show Rz K (setsD (ρ.set i (some d)) bs) (setsV (σ.set i (some v)) bs us) H
    exact Rz.sets (h.set q) r
theorem Rz.wipe {ρ : Ev} {σ : St} {H : Hp} (h : Rz K ρ σ H) : ∀ vs : List Nat, Rz K (wipeD ρ vs) (wipe σ vs) H
  | [] => h
  | v :: vs => ⟨by unfold wipeD L2.wipe; rw [List.length_set, List.length_set, (h.wipe vs).len], fun j e hj => by
    unfold wipeD at hj
    unfold L2.wipe
    by_cases hjv : v = j
    · subst hjv
      by_cases hlt : v < (wipeD ρ vs).length
      · rw [List.getElem?_set_self hlt] at hj; cases hj
      · rw [List.getElem?_eq_none (by rw [List.length_set]; omega)] at hj; cases hj
    · rw [List.getElem?_set_ne hjv] at hj
      rw [List.getElem?_set_ne hjv]
      exact (h.wipe vs).get j e hj⟩
theorem wipeD_length (ρ : Ev) : ∀ vs : List Nat, (wipeD ρ vs).length = ρ.length
  | [] => rfl
  | v :: vs => by unfold wipeD; rw [List.length_set, wipeD_length ρ vs]
theorem setsD_length : ∀ (bs : List (Nat × D)) (ρ : Ev), (setsD ρ bs).length = ρ.length
  | [], _ => rfl
  | (i, d) :: bs, ρ => by unfold setsD; rw [setsD_length bs, List.length_set]
theorem setsV_length : ∀ (bs : List (Nat × D)) (vs : List V) (σ : St), (setsV σ bs vs).length = σ.length
  | [], vs, _ => by cases vs <;> rfl
  | (i, d) :: bs, [], σ => rfl
  | (i, d) :: bs, v :: vs, σ => by unfold setsV; rw [setsV_length bs, List.length_set]
/-- stores into slots that are forgotten -/
theorem wipe_set {σ : St} {i : Nat} {o : Option V} : ∀ {vs : List Nat}, i ∈ vs → wipe (σ.set i o) vs = wipe σ vs
  | v :: vs, h => by
    unfold L2.wipe
    by_cases hv : v = i
    · subst hv
      by_cases hm : v ∈ vs
      · rw [wipe_set hm]
      · have : wipe (σ.set v o) vs = (wipe σ vs).set v o := by
          clear h
          induction vs with
          | nil => rfl
          | cons w ws ih =>
            have hw : w ≠ v := fun e => hm (by simp [e])
            have hm' : v ∉ ws := fun e => hm (by simp [e])
            unfold L2.wipe
            rw [ih hm', List.set_comm _ _ hw.symm]
        rw [this, List.set_set]
    · have hm : i ∈ vs := by
        rcases List.mem_cons.mp h with e | e
        · exact absurd e.symm hv
        · exact e
      rw [wipe_set hm]
theorem wipe_wipe (σ : St) : ∀ vs : List Nat, wipe (wipe σ vs) vs = wipe σ vs
  | vs => by
    have : ∀ ws : List Nat, (∀ w ∈ ws, w ∈ vs) → wipe (wipe σ ws) vs = wipe σ vs := by
      intro ws
      induction ws with
      | nil => intro _; rfl
      | cons w ws ih =>
        intro h
        show wipe ((wipe σ ws).set w none) vs = wipe σ vs
        rw [wipe_set (h w (by simp)), ih fun x hx => h x (by simp [hx])]
    exact this vs fun _ h => h
theorem wipe_sets : ∀ {bs : List (Nat × D)} {us : List V} {σ : St} {vs : List Nat}, (∀ b ∈ bs, b.1 ∈ vs) → wipe (setsV σ bs us) vs = wipe σ vs
  | [], us, σ, vs, _ => by cases us <;> rfl
  | (i, d) :: bs, [], σ, vs, _ => rfl
  | (i, d) :: bs, u :: us, σ, vs, h => by
    unfold setsV
    rw [wipe_sets fun b hb => h b (by simp [hb]), wipe_set (h (i, d) (by simp))]
mutual
def Tg.slots : Tg → List Nat
  | .nm i => [i]
  | .tp ts => slotss ts
def slotss : List Tg → List Nat
  | [] => []
  | t :: ts => t.slots ++ slotss ts
end
mutual
theorem bindT_in : ∀ (t : Tg) (d : D) (bs : List (Nat × D)), bindT t d = some bs → ∀ b ∈ bs, b.1 ∈ t.slots
  | .nm i, d, bs, h, b, hb => by
    unfold bindT at h; cases h
    simp at hb; subst hb
    unfold Tg.slots; simp
  | .tp ts, .tup ds, bs, h, b, hb => by
    unfold bindT at h
    unfold Tg.slots
    exact bindTs_in ts ds bs h b hb
  | .tp ts, .non, _, h, _, _ | .tp ts, .bl _, _, h, _, _ | .tp ts, .int _, _, h, _, _ | .tp ts, .str _, _, h, _, _ | .tp ts, .lst _, _, h, _, _ | .tp ts, .dct _, _, h, _, _ | .tp ts, .ins _ _, _, h, _, _ | .tp ts, .scr _, _, h, _, _ | .tp ts, .exn _ _ _, _, h, _, _ => by unfold bindT at h; cases h
theorem bindTs_in : ∀ (ts : List Tg) (ds : List D) (bs : List (Nat × D)), bindTs ts ds = some bs → ∀ b ∈ bs, b.1 ∈ slotss ts
  | [], [], bs, h, b, hb => by unfold bindTs at h; cases h; simp at hb
  | t :: ts, d :: ds, bs, h, b, hb => by
    unfold bindTs at h
    cases e : bindT t d with
    | none => rw [e] at h; cases h
    | some a =>
      rw [e] at h
      cases e' : bindTs ts ds with
      | none => rw [e'] at h; cases h
      | some c =>
        rw [e'] at h; cases h
        unfold slotss
        rcases List.mem_append.mp hb with z | z
        · exact List.mem_append_left _ (bindT_in t d a e b z)
        · exact List.mem_append_right _ (bindTs_in ts ds c e' b z)
  | [], d :: ds, bs, h, _, _ => by unfold bindTs at h; cases h
  | t :: ts, [], bs, h, _, _ => by unfold bindTs at h; cases h
end
end
end Tw

/-! Tw6: comprehensions over data. -/
namespace Tw
open PySem L2
abbrev W0 : WX := fun _ _ _ _ => False
/-- H without p -/
def wo (p : Addr) (H : Hp) : Hp := fun a => if a = p then none else H a
theorem wo_same (p : Addr) (H : Hp) : Same (wo p H) H := fun a o e => by
  unfold wo at e
  split at e
  · cases e
  · exact e
theorem wo_self (p : Addr) (H : Hp) : wo p H p = none := by unfold wo; rw [if_pos rfl]
theorem wo_ne {p a : Addr} {H : Hp} (h : a ≠ p) : wo p H a = H a := by unfold wo; rw [if_neg h]
theorem wo_le {p : Addr} {F H : Hp} (s : Same F H) (h : F p = none) : Same F (wo p H) := fun a o e => by
  have hp : a ≠ p := fun q => by rw [q, h] at e; cases e
  rw [wo_ne hp]; exact s a o e
theorem hid_lst {p : Addr} {H : Hp} {xs : List V} (h : H p = some (.lst xs)) : Hid [p] (wo p H) H :=
  ⟨fun a ha => by rw [List.mem_singleton.mp ha]; exact wo_self p H, fun a ha => wo_ne fun e => ha (by simp [e]), fun a ha => by rw [List.mem_singleton.mp ha]; exact .inl ⟨xs, h⟩⟩
theorem hid_dct {p : Addr} {H : Hp} {k : List (Key × V)} (h : H p = some (.dK k)) : Hid [p] (wo p H) H :=
  ⟨fun a ha => by rw [List.mem_singleton.mp ha]; exact wo_self p H, fun a ha => wo_ne fun e => ha (by simp [e]), fun a ha => by rw [List.mem_singleton.mp ha]; exact .inr (.inl ⟨k, h⟩)⟩

def compS (t : Tg) (ft : ST) (fe : SE) (ρ : Ev) (d : D) : R (Option D) := match bindT t d with
  | none => .no
  | some bs => (ft (setsD ρ bs)).nox.bind fun b => if b = true then (fe (setsD ρ bs)).nox.bind fun e => .ok (some e) else .ok none
def consO {α : Type} (o : Option α) (r : List α) : List α := match o with
  | some x => x :: r
  | none => r
def compD {α : Type} (step : D → R (Option α)) : List D → R (List α)
  | [] => .ok []
  | d :: ds => (step d).bind fun o => (compD step ds).bind fun r => .ok (consO o r)
def eComp (own : List Nat) (t : Tg) (fi : SA) (ft : ST) (fe : SE) : SE := fun ρ => (fi ρ).bind fun ds => (compD (compS t ft fe (wipeD ρ own)) ds).nox.bind fun es => if sz es.length = true then .ok (.lst es) else .no
theorem R.bind_ok {α β : Type} {r : R α} {f : α → R β} {b : β} (h : r.bind f = .ok b) : ∃ a, r = .ok a ∧ f a = .ok b := by
  cases r with
  | ok a => exact ⟨a, rfl, h⟩
  | ex x => cases h
  | no => cases h
theorem R.nox_ok {α : Type} {r : R α} {b : α} (h : r.nox = .ok b) : r = .ok b := by
  cases r with
  | ok a => exact h
  | ex x => cases h
  | no => cases h
theorem pst_nb {α β γ : Type} {K : PySem.W.Frag} {rel : Hp → α → β → Prop} {W : WX} {σ : St} {H : Hp} {r : R γ} {g : γ → R α} {Q : β → Hp → Prop} (h : pst K rel W σ H (r.nox.bind g) Q) : ∃ a, r = .ok a ∧ pst K rel W σ H (g a) Q := by
  cases r with
  | ok a => exact ⟨a, rfl, h⟩
  | ex x => exact h.elim
  | no => exact h.elim
section
variable {K : PySem.W.Frag}
theorem grow_p {p : Addr} {H F3 H3 : Hp} {o : HO} (g : Grow (wo p H) H F3 H3) (h : H p = some o) : F3 p = none ∧ H3 p = some o := by
  rcases g p with ⟨a, b⟩ | ⟨a, _⟩
  · exact ⟨by rw [a]; exact wo_self p H, by rw [b]; exact h⟩
  · rw [h] at a; cases a
theorem lc_gen {W : WX} {own : List Nat} {t : Tg} {fi : SA} {ft : ST} {fe : SE} (hs : ∀ i ∈ t.slots, i ∈ own) {σ : St} {H : Hp} {Q : VK} {ρ : Ev} (z : Rz K ρ σ H) (w : pst K (fun _ ds (es : List D) => compD (compS t ft fe (wipeD ρ own)) ds = .ok es) W σ H (fi ρ) (fun es H1 => sz es.length = true ∧ ∀ p H' acc, H1 p = none → H' p = some (.lst acc) → Same H1 (wo p H') → rds K (wo p H') es acc → Q (.ref p) H'))
    (wx : ∀ ds, fi ρ = .ok ds → ∃ es, compD (compS t ft fe (wipeD ρ own)) ds = .ok es) : tLc (tI K W fi) (tTg K t) (tT K W0 ft) (fr (tD K W0 fe)) own σ H Q := by
  refine ⟨ρ, z, ?_⟩
  have w' : ∀ ds, fi ρ = .ok ds → ∀ J H1, Same H H1 → WalkD K ds J H1 → ∃ es, compD (compS t ft fe (wipeD ρ own)) ds = .ok es ∧ sz es.length = true ∧ ∀ p H' acc, H1 p = none → H' p = some (.lst acc) → Same H1 (wo p H') → rds K (wo p H') es acc → Q (.ref p) H' := fun ds e J H1 s1 _ => by
    obtain ⟨es, hes⟩ := wx ds e
    rw [e] at w
    obtain ⟨w1, w2⟩ := w es H1 s1 hes
    exact ⟨es, hes, w1, w2⟩
  cases e : fi ρ with
  | ex x => rw [e] at w; exact w
  | no => rw [e] at w; exact w
  | ok ds =>
  intro J H1 s1 wk
  obtain ⟨es, hes, hz, w2⟩ := w' ds e J H1 s1 wk
  have z1 := (z.mono s1).wipe own
  intro p hp
  refine ⟨fun i m H => m = ds.length - i ∧ i ≤ ds.length ∧ ∃ accD acc rest, H p = some (.lst acc) ∧ Same H1 (wo p H) ∧ rds K (wo p H) accD acc ∧ compD (compS t ft fe (wipeD ρ own)) (ds.drop i) = .ok rest ∧ es = accD ++ rest,
    ⟨ds.length, by simp, Nat.zero_le _, [], [], es, upd_same, wo_le (same_new hp) hp, rds_nil, hes, rfl⟩, ?_⟩
  rintro i m H ⟨rfl, hi, accD, acc, rest, hp', sm, ra, hc, he⟩
  have wki := wk i (wo p H) H sm (wo_same p H)
  by_cases hlt : i < ds.length
  · obtain ⟨go, yl⟩ := wki.1 hlt
    refine .inr ⟨go, fun H => ∃ accD acc rest, H p = some (.lst acc) ∧ Same H1 (wo p H) ∧ rds K (wo p H) accD acc ∧ compD (compS t ft fe (wipeD ρ own)) (ds.drop (i + 1)) = .ok rest ∧ es = accD ++ rest, fun H' n => ⟨ds.length - (i + 1), by omega, rfl, hlt, n⟩, fun x H' y => ?_⟩
    obtain ⟨F3, d, gr, hd, rdd⟩ := yl x H' y
    obtain ⟨g1, g2, g3⟩ := gr.same (wo_same p H)
    obtain ⟨fp, hp3⟩ := grow_p gr hp'
    have ed : ds.drop i = d :: ds.drop (i + 1) := by
      have h1 : d = ds[i] := by rw [List.getElem?_eq_getElem hlt] at hd; exact (Option.some.inj hd).symm
      rw [h1]; exact List.drop_eq_getElem_cons hlt
    rw [ed] at hc
    unfold compD at hc
    obtain ⟨o, ho, hc⟩ := R.bind_ok hc
    obtain ⟨rest', hr', hc⟩ := R.bind_ok hc
    cases hc
    unfold compS at ho
    split at ho
    · cases ho
    · rename_i bs hb
      obtain ⟨b, hbt, ho⟩ := R.bind_ok ho
      have hbt := R.nox_ok hbt
      refine ⟨d, F3, bs, g3, rdd, hb, fun vs rv => ⟨?_, setsD (wipeD ρ own) bs, Rz.sets (z1.mono ((sm.trans g1).trans g3)) (rds_mono g3 _ _ rv), ?_⟩⟩
      · rw [wipe_sets fun q hq => hs _ (bindT_in t d bs hb q hq), wipe_wipe]
      · rw [hbt]
        intro v H3 s3 hv
        subst hv
        have p3 : H3 p = some (.lst acc) := s3 _ _ hp3
        have s4 : Same F3 (wo p H3) := wo_le (g3.trans s3) fp
        cases v with
        | false =>
          rw [if_neg Bool.false_ne_true] at ho ⊢
          cases ho
          exact ⟨accD, acc, rest', p3, (sm.trans g1).trans s4, rds_mono (g1.trans s4) _ _ ra, hr', he⟩
        | true =>
          rw [if_pos rfl] at ho ⊢
          obtain ⟨e1, he1, ho⟩ := R.bind_ok ho
          have he1 := R.nox_ok he1
          cases ho
          refine ⟨[p], wo p H3, hid_lst p3, setsD (wipeD ρ own) bs, Rz.sets (z1.mono ((sm.trans g1).trans s4)) (rds_mono s4 _ _ rv), ?_⟩
          rw [he1]
          intro v F' s5 rv' hn
          have fp' : F' p = none := hn p (by simp)
          have mp : mix [p] H3 F' p = some (.lst acc) := by unfold mix; rw [if_pos (by simp)]; exact p3
          have hle : es.length ≤ sizeLine := of_decide_eq_true hz
          have hla : acc.length = accD.length := rds_length ra
          have hle2 : accD.length + 1 ≤ es.length := by rw [he]; simp [consO]
          refine ⟨acc, mp, by omega, accD ++ [e1], acc ++ [v], rest', upd_same, ?_, ?_, hr', by rw [he]; simp [consO]⟩
          all_goals
            have s6 : Same F' (wo p (upd (mix [p] H3 F') p (.lst (acc ++ [v])))) := fun a o q => by
              have ha : a ≠ p := fun y => by rw [y, fp'] at q; cases q
              rw [wo_ne ha, upd_ne ha]
              unfold mix
              rw [if_neg (by simpa using ha)]
              exact q
          · exact (((sm.trans g1).trans s4).trans s5).trans s6
          · exact rds_append (rds_mono (((g1.trans s4).trans s5).trans s6) _ _ ra) (rds_one (rd_mono s6 _ _ rv'))
  · have ei : i = ds.length := by omega
    subst ei
    refine .inl ⟨wki.2 (Nat.le_refl _), w2 p H acc hp hp' sm ?_⟩
    rw [List.drop_length] at hc
    unfold compD at hc
    cases hc
    rw [List.append_nil] at he
    rw [he]
    exact ra
theorem lc_lift {W : WX} {own : List Nat} {t : Tg} {fi : SA} {ft : ST} {fe : SE} (hs : ∀ i ∈ t.slots, i ∈ own) : ∀ σ H Q, tD K W (eComp own t fi ft fe) σ H Q → tLc (tI K W fi) (tTg K t) (tT K W0 ft) (fr (tD K W0 fe)) own σ H Q := fun σ H Q ⟨ρ, z, w⟩ => by
  refine lc_gen hs z (pst.bind (rel := fun _ ds (es : List D) => compD (compS t ft fe (wipeD ρ own)) ds = .ok es) w fun ds es H1 e s1 hes w1 => ?_) fun ds e => ?_
  · rw [hes] at w1
    have w1 : pst K (rd K) W σ H1 (if sz es.length = true then .ok (.lst es) else .no) Q := w1
    by_cases hz : sz es.length = true
    · rw [if_pos hz] at w1
      refine ⟨hz, fun p H' acc hp hp' sm ra => w1 _ H' (sm.trans (wo_same p H')) ?_⟩
      unfold rd
      exact ⟨p, acc, rfl, hp', rds_mono (wo_same p H') _ _ ra⟩
    · rw [if_neg hz] at w1; exact w1.elim
  · unfold eComp at w
    rw [e] at w
    obtain ⟨es, hes, _⟩ := pst_nb (show pst K (rd K) W σ H ((compD (compS t ft fe (wipeD ρ own)) ds).nox.bind _) Q from w)
    exact ⟨es, hes⟩
theorem le_lc {X : Cx} {W : WX} {elt tg iter : Expr} {ifs : List Expr} {scope : Scope} {own : List (Str × Nat)} {pos : Pos} {t : Tg} {fi : SA} {ft : ST} {fe : SE} (hc : X.calm = true) (hN : X.N.Nodup) (hi : PI X tg iter (tI X.K W fi)) (ok : BlkOk X.N X.env.scope scope own)
    (hg : ∀ (s : Shared) (H : Hp) (C : Addr) (cl : List (Str × Addr)) (fp : List Addr), PG (X.blk s H scope (compEnvC scope cl C X.env) fp) tg (tTg X.K t)) (ht : ∀ (s : Shared) (H : Hp) (C : Addr) (cl : List (Str × Addr)) (fp : List Addr), PTs (X.blk s H scope (compEnvC scope cl C X.env) fp) ifs (tT X.K W0 ft))
    (he : ∀ (s : Shared) (H : Hp) (C : Addr) (cl : List (Str × Addr)) (fp : List Addr), PE (X.blk s H scope (compEnvC scope cl C X.env) fp) elt (tD X.K W0 fe)) (hsl : (t.slots.all fun i => (own.map (·.2)).contains i) = true := by rfl) (hs : ∀ x, foldedSetIterable iter X.env x = pure x := by intro _; rfl) :
    PE X (.ListComp elt [⟨tg, iter, ifs, 0⟩] scope pos) (tD X.K W (eComp (own.map (·.2)) t fi ft fe)) :=
  (pe_lc hc hN hi ok hg ht (fun s H C cl fp => (he s H C cl fp).frame) hs).imp (lc_lift fun i hi => by
    have := List.all_eq_true.mp hsl i hi
    simpa using this)
def tTrue : ST := fun _ => .ok true
theorem lt_nil {X : Cx} : PTs X [] (tT X.K W0 tTrue) := ⟨fun pins s σ H Q I ⟨ρ, z, w⟩ => pts_nil.run pins s σ H Q I (w true H (Same.refl H) rfl)⟩
theorem lt_one {X : Cx} {c : Expr} {f : ST} (h : PT X c (tT X.K W0 f)) : PTs X [c] (tT X.K W0 f) := pts_one h
/-! ### {k: v for ..} -/
def dcS (t : Tg) (ft : ST) (fk fv : SE) (ρ : Ev) (d : D) : R (Option (Key × D)) := match bindT t d with
  | none => .no
  | some bs => (ft (setsD ρ bs)).nox.bind fun b => if b = true then (fk (setsD ρ bs)).nox.bind fun k => (R.of (keyOf k)).bind fun kk => (fv (setsD ρ bs)).nox.bind fun e => .ok (some (kk, e)) else .ok none
def foldPut (kvs : List (Key × D)) (ps : List (Key × D)) : List (Key × D) := ps.foldl (fun acc p => putD acc p.1 p.2) kvs
def eDc (own : List Nat) (t : Tg) (fi : SA) (ft : ST) (fk fv : SE) : SE := fun ρ => (fi ρ).bind fun ds => (compD (dcS t ft fk fv (wipeD ρ own)) ds).nox.bind fun ps => if decide (ps.length < sizeLine) = true then .ok (.dct (foldPut [] ps)) else .no
theorem rdk_any {H : Hp} {k : Key} : ∀ {kvs : List (Key × D)} {kws : List (Key × V)}, rdk K H kvs kws → (kws.any fun kv => decide (kv.1 = k)) = (kvs.any fun kv => decide (kv.1 = k))
  | [], kws, h => by unfold rdk at h; subst h; rfl
  | (j, d) :: kvs, kws, h => by
    unfold rdk at h
    obtain ⟨v, r, rfl, q, z⟩ := h
    simp only [List.any_cons, rdk_any z]
theorem rdk_repl {H : Hp} {k : Key} {d : D} {v : V} (rv : rd K H d v) : ∀ {kvs : List (Key × D)} {kws : List (Key × V)}, rdk K H kvs kws → rdk K H (kvs.map fun kv => if kv.1 = k then (kv.1, d) else kv) (kws.map fun kv => if kv.1 = k then (kv.1, v) else kv)
  | [], kws, h => by unfold rdk at h; subst h; show rdk K H [] []; unfold rdk; rfl
  | (j, e) :: kvs, kws, h => by
    unfold rdk at h
    obtain ⟨u, r, rfl, q, z⟩ := h
    simp only [List.map_cons]
    by_cases hj : j = k
    · rw [if_pos hj, if_pos hj]
      unfold rdk
      exact ⟨v, _, rfl, rv, rdk_repl rv z⟩
    · rw [if_neg hj, if_neg hj]
      unfold rdk
      exact ⟨u, _, rfl, q, rdk_repl rv z⟩
theorem rdk_snoc {H : Hp} {k : Key} {d : D} {v : V} (rv : rd K H d v) : ∀ {kvs : List (Key × D)} {kws : List (Key × V)}, rdk K H kvs kws → rdk K H (kvs ++ [(k, d)]) (kws ++ [(k, v)])
  | [], kws, h => by
    unfold rdk at h; subst h
    show rdk K H [(k, d)] [(k, v)]
    unfold rdk
    exact ⟨v, [], rfl, rv, by unfold rdk; rfl⟩
  | (j, e) :: kvs, kws, h => by
    unfold rdk at h
    obtain ⟨u, r, rfl, q, z⟩ := h
    show rdk K H ((j, e) :: (kvs ++ [(k, d)])) ((j, u) :: (r ++ [(k, v)]))
    unfold rdk
    exact ⟨u, _, rfl, q, rdk_snoc rv z⟩
theorem rdk_put {H : Hp} {k : Key} {d : D} {v : V} {kvs : List (Key × D)} {kws : List (Key × V)} (h : rdk K H kvs kws) (rv : rd K H d v) : rdk K H (putD kvs k d) (putK kws k v) := by
  unfold putD putK
  rw [rdk_any h]
  split
  · exact rdk_repl rv h
  · exact rdk_snoc rv h
theorem rdk_drop {H : Hp} {k : Key} : ∀ {kvs : List (Key × D)} {kws : List (Key × V)}, rdk K H kvs kws → rdk K H (dropD kvs k) (dropK kws k)
  | [], kws, h => by unfold rdk at h; subst h; show rdk K H [] []; unfold rdk; rfl
  | (j, e) :: kvs, kws, h => by
    unfold rdk at h
    obtain ⟨u, r, rfl, q, z⟩ := h
    have ih := rdk_drop (k := k) z
    unfold dropD dropK at *
    by_cases hj : j = k
    · simp only [List.filter_cons, hj, ne_eq, not_true_eq_false, decide_false, Bool.false_eq_true, if_false]
      exact ih
    · simp only [List.filter_cons, hj, ne_eq, not_false_eq_true, decide_true, if_true]
      unfold rdk
      exact ⟨u, _, rfl, q, ih⟩
theorem foldPut_len (ps : List (Key × D)) : ∀ kvs, (foldPut kvs ps).length ≤ kvs.length + ps.length := by
  induction ps with
  | nil => intro kvs; exact Nat.le_refl _
  | cons p ps ih =>
    intro kvs
    have h := ih (putD kvs p.1 p.2)
    have h2 : (putD kvs p.1 p.2).length ≤ kvs.length + 1 := by
      unfold putD
      split
      · rw [List.length_map]; omega
      · rw [List.length_append]; simp
    show (foldPut (putD kvs p.1 p.2) ps).length ≤ _
    simp only [List.length_cons]
    omega
theorem dc_gen {W : WX} {own : List Nat} {t : Tg} {fi : SA} {ft : ST} {fk fv : SE} (hs : ∀ i ∈ t.slots, i ∈ own) {σ : St} {H : Hp} {Q : VK} {ρ : Ev} (z : Rz K ρ σ H) (w : pst K (fun _ ds (es : List (Key × D)) => compD (dcS t ft fk fv (wipeD ρ own)) ds = .ok es) W σ H (fi ρ) (fun es H1 => es.length < sizeLine ∧ ∀ p H' acc, H1 p = none → H' p = some (.dK acc) → Same H1 (wo p H') → rdk K (wo p H') (foldPut [] es) acc → Q (.ref p) H'))
    (wx : ∀ ds, fi ρ = .ok ds → ∃ es, compD (dcS t ft fk fv (wipeD ρ own)) ds = .ok es) : tDc (tI K W fi) (tTg K t) (tT K W0 ft) (fr (tD K W0 fk)) (fr (tD K W0 fv)) own σ H Q := by
  refine ⟨ρ, z, ?_⟩
  have w' : ∀ ds, fi ρ = .ok ds → ∀ J H1, Same H H1 → WalkD K ds J H1 → ∃ es, compD (dcS t ft fk fv (wipeD ρ own)) ds = .ok es ∧ es.length < sizeLine ∧ ∀ p H' acc, H1 p = none → H' p = some (.dK acc) → Same H1 (wo p H') → rdk K (wo p H') (foldPut [] es) acc → Q (.ref p) H' := fun ds e J H1 s1 _ => by
    obtain ⟨es, hes⟩ := wx ds e
    rw [e] at w
    obtain ⟨w1, w2⟩ := w es H1 s1 hes
    exact ⟨es, hes, w1, w2⟩
  cases e : fi ρ with
  | ex x => rw [e] at w; exact w
  | no => rw [e] at w; exact w
  | ok ds =>
  intro J H1 s1 wk
  obtain ⟨es, hes, hz, w2⟩ := w' ds e J H1 s1 wk
  have z1 := (z.mono s1).wipe own
  intro p hp
  refine ⟨fun i m H => m = ds.length - i ∧ i ≤ ds.length ∧ ∃ accD acc rest, H p = some (.dK acc) ∧ Same H1 (wo p H) ∧ rdk K (wo p H) (foldPut [] accD) acc ∧ compD (dcS t ft fk fv (wipeD ρ own)) (ds.drop i) = .ok rest ∧ es = accD ++ rest,
    ⟨ds.length, by simp, Nat.zero_le _, [], [], es, upd_same, wo_le (same_new hp) hp, by unfold foldPut; simp only [List.foldl_nil]; unfold rdk; rfl, hes, rfl⟩, ?_⟩
  rintro i m H ⟨rfl, hi, accD, acc, rest, hp', sm, ra, hc, he⟩
  have wki := wk i (wo p H) H sm (wo_same p H)
  by_cases hlt : i < ds.length
  · obtain ⟨go, yl⟩ := wki.1 hlt
    refine .inr ⟨go, fun H => ∃ accD acc rest, H p = some (.dK acc) ∧ Same H1 (wo p H) ∧ rdk K (wo p H) (foldPut [] accD) acc ∧ compD (dcS t ft fk fv (wipeD ρ own)) (ds.drop (i + 1)) = .ok rest ∧ es = accD ++ rest, fun H' n => ⟨ds.length - (i + 1), by omega, rfl, hlt, n⟩, fun x H' y => ?_⟩
    obtain ⟨F3, d, gr, hd, rdd⟩ := yl x H' y
    obtain ⟨g1, g2, g3⟩ := gr.same (wo_same p H)
    obtain ⟨fp, hp3⟩ := grow_p gr hp'
    have ed : ds.drop i = d :: ds.drop (i + 1) := by
      have h1 : d = ds[i] := by rw [List.getElem?_eq_getElem hlt] at hd; exact (Option.some.inj hd).symm
      rw [h1]; exact List.drop_eq_getElem_cons hlt
    rw [ed] at hc
    unfold compD at hc
    obtain ⟨o, ho, hc⟩ := R.bind_ok hc
    obtain ⟨rest', hr', hc⟩ := R.bind_ok hc
    cases hc
    unfold dcS at ho
    split at ho
    · cases ho
    · rename_i bs hb
      obtain ⟨b, hbt, ho⟩ := R.bind_ok ho
      have hbt := R.nox_ok hbt
      refine ⟨d, F3, bs, g3, rdd, hb, fun vs rv => ⟨?_, setsD (wipeD ρ own) bs, Rz.sets (z1.mono ((sm.trans g1).trans g3)) (rds_mono g3 _ _ rv), ?_⟩⟩
      · rw [wipe_sets fun q hq => hs _ (bindT_in t d bs hb q hq), wipe_wipe]
      · rw [hbt]
        intro v H3 s3 hv
        subst hv
        have p3 : H3 p = some (.dK acc) := s3 _ _ hp3
        have s4 : Same F3 (wo p H3) := wo_le (g3.trans s3) fp
        cases v with
        | false =>
          rw [if_neg Bool.false_ne_true] at ho ⊢
          cases ho
          exact ⟨accD, acc, rest', p3, (sm.trans g1).trans s4, rdk_mono (g1.trans s4) _ _ ra, hr', he⟩
        | true =>
          rw [if_pos rfl] at ho ⊢
          obtain ⟨e0, he0, ho⟩ := R.bind_ok ho
          have he0 := R.nox_ok he0
          obtain ⟨kk, hk, ho⟩ := R.bind_ok ho
          have hk := R.of_ok hk
          obtain ⟨e1, he1, ho⟩ := R.bind_ok ho
          have he1 := R.nox_ok he1
          cases ho
          refine ⟨[p], wo p H3, hid_dct p3, setsD (wipeD ρ own) bs, Rz.sets (z1.mono ((sm.trans g1).trans s4)) (rds_mono s4 _ _ rv), ?_⟩
          rw [he0]
          intro y F4 s5 rk hn4
          have fp4 : F4 p = none := hn4 p (by simp)
          have mp4 : mix [p] H3 F4 p = some (.dK acc) := by unfold mix; rw [if_pos (by simp)]; exact p3
          have ey := keyOf_v hk rk
          have s54 : Same F4 (wo p (mix [p] H3 F4)) := fun a o q => by
            have ha : a ≠ p := fun y => by rw [y, fp4] at q; cases q
            rw [wo_ne ha]
            unfold mix
            rw [if_neg (by simpa using ha)]
            exact q
          refine ⟨[p], wo p (mix [p] H3 F4), hid_dct mp4, setsD (wipeD ρ own) bs, Rz.sets (z1.mono ((((sm.trans g1).trans s4).trans s5).trans s54)) (rds_mono ((s4.trans s5).trans s54) _ _ rv), ?_⟩
          rw [he1]
          intro v F' s6 rv' hn
          have fp' : F' p = none := hn p (by simp)
          have mp : mix [p] (mix [p] H3 F4) F' p = some (.dK acc) := by unfold mix; rw [if_pos (by simp), if_pos (by simp)]; exact p3
          have hla : acc.length = (foldPut [] accD).length := rdk_length ra
          have hlb := foldPut_len accD []
          have hle2 : accD.length + 1 ≤ es.length := by rw [he]; simp [consO]
          refine ⟨acc, kk, ey, mp, by simp at hlb; omega, accD ++ [(kk, e1)], putK acc kk v, rest', upd_same, ?_, ?_, hr', by rw [he]; simp [consO]⟩
          all_goals
            have s7 : Same F' (wo p (upd (mix [p] (mix [p] H3 F4) F') p (.dK (putK acc kk v)))) := fun a o q => by
              have ha : a ≠ p := fun y => by rw [y, fp'] at q; cases q
              rw [wo_ne ha, upd_ne ha]
              unfold mix
              rw [if_neg (by simpa using ha)]
              exact q
            have s8 := ((s5.trans s54).trans s6).trans s7
          · exact ((sm.trans g1).trans s4).trans s8
          · have q := rdk_put (k := kk) (rdk_mono ((g1.trans s4).trans s8) _ _ ra) (rd_mono s7 _ _ rv')
            unfold foldPut at q ⊢
            rw [List.foldl_append]
            exact q
  · have ei : i = ds.length := by omega
    subst ei
    refine .inl ⟨wki.2 (Nat.le_refl _), w2 p H acc hp hp' sm ?_⟩
    rw [List.drop_length] at hc
    unfold compD at hc
    cases hc
    rw [List.append_nil] at he
    rw [he]
    exact ra
theorem dc_lift {W : WX} {own : List Nat} {t : Tg} {fi : SA} {ft : ST} {fk fv : SE} (hs : ∀ i ∈ t.slots, i ∈ own) : ∀ σ H Q, tD K W (eDc own t fi ft fk fv) σ H Q → tDc (tI K W fi) (tTg K t) (tT K W0 ft) (fr (tD K W0 fk)) (fr (tD K W0 fv)) own σ H Q := fun σ H Q ⟨ρ, z, w⟩ => by
  refine dc_gen hs z (pst.bind (rel := fun _ ds (es : List (Key × D)) => compD (dcS t ft fk fv (wipeD ρ own)) ds = .ok es) w fun ds es H1 e s1 hes w1 => ?_) fun ds e => ?_
  · rw [hes] at w1
    have w1 : pst K (rd K) W σ H1 (if decide (es.length < sizeLine) = true then .ok (.dct (foldPut [] es)) else .no) Q := w1
    by_cases hz : decide (es.length < sizeLine) = true
    · rw [if_pos hz] at w1
      refine ⟨of_decide_eq_true hz, fun p H' acc hp hp' sm ra => w1 _ H' (sm.trans (wo_same p H')) ?_⟩
      unfold rd
      exact ⟨p, acc, rfl, hp', rdk_mono (wo_same p H') _ _ ra⟩
    · rw [if_neg hz] at w1; exact w1.elim
  · unfold eDc at w
    rw [e] at w
    obtain ⟨es, hes, _⟩ := pst_nb (show pst K (rd K) W σ H ((compD (dcS t ft fk fv (wipeD ρ own)) ds).nox.bind _) Q from w)
    exact ⟨es, hes⟩
theorem le_dc {X : Cx} {W : WX} {kx vx tg iter : Expr} {ifs : List Expr} {scope : Scope} {own : List (Str × Nat)} {pos : Pos} {t : Tg} {fi : SA} {ft : ST} {fk fv : SE} (hc : X.calm = true) (hN : X.N.Nodup) (hi : PI X tg iter (tI X.K W fi)) (ok : BlkOk X.N X.env.scope scope own)
    (hg : ∀ (s : Shared) (H : Hp) (C : Addr) (cl : List (Str × Addr)) (fp : List Addr), PG (X.blk s H scope (compEnvC scope cl C X.env) fp) tg (tTg X.K t)) (ht : ∀ (s : Shared) (H : Hp) (C : Addr) (cl : List (Str × Addr)) (fp : List Addr), PTs (X.blk s H scope (compEnvC scope cl C X.env) fp) ifs (tT X.K W0 ft))
    (hk : ∀ (s : Shared) (H : Hp) (C : Addr) (cl : List (Str × Addr)) (fp : List Addr), PE (X.blk s H scope (compEnvC scope cl C X.env) fp) kx (tD X.K W0 fk))
    (he : ∀ (s : Shared) (H : Hp) (C : Addr) (cl : List (Str × Addr)) (fp : List Addr), PE (X.blk s H scope (compEnvC scope cl C X.env) fp) vx (tD X.K W0 fv)) (hsl : (t.slots.all fun i => (own.map (·.2)).contains i) = true := by rfl) (hs : ∀ x, foldedSetIterable iter X.env x = pure x := by intro _; rfl) :
    PE X (.DictComp kx vx [⟨tg, iter, ifs, 0⟩] scope pos) (tD X.K W (eDc (own.map (·.2)) t fi ft fk fv)) :=
  (pe_dc hc hN hi ok hg ht (fun s H C cl fp => (hk s H C cl fp).frame) (fun s H C cl fp => (he s H C cl fp).frame) hs).imp (dc_lift fun i hi => by
    have := List.all_eq_true.mp hsl i hi
    simpa using this)
end
end Tw

/-! Tw7: statements over data: what is frozen, what is owned. -/
namespace Tw
open PySem L2

/-- a slot: nothing, a datum that no one changes, a list or dict that this def alone holds -/
inductive Cl where
  | no | fz (d : D) | ow (d : D)
  deriving Inhabited
def Cl.hid : Cl → Option D
  | .fz d => some d
  | _ => none
def Cl.frz : Cl → Option D
  | .fz d => some d
  | .ow d => some d
  | .no => none
def hid (ρ : List Cl) : Ev := ρ.map Cl.hid
def frz (ρ : List Cl) : Ev := ρ.map Cl.frz
inductive Out where
  | nx (ρ : List Cl) | rt (d : D) (ρ : List Cl) | bk (ρ : List Cl) | ct (ρ : List Cl) | ex (x : Xn) (ρ : List Cl) | no | rf (d : D)
abbrev SS := List Cl → Out
def isOw : Option Cl → Bool
  | some (.ow _) => true
  | _ => false
def ol (ρ : List Cl) (fp : Nat → List Addr) : List Addr := (List.range ρ.length).flatMap fun i => if isOw ρ[i]? = true then fp i else []
def un (L : List Addr) (H : Hp) : Hp := fun a => if a ∈ L then none else H a
section
variable {K : PySem.W.Frag}
theorem isOw_iff {o : Option Cl} : isOw o = true ↔ ∃ d, o = some (.ow d) := by
  unfold isOw
  constructor
  · intro h; split at h
    · exact ⟨_, rfl⟩
    · cases h
  · rintro ⟨d, rfl⟩; rfl
theorem mem_ol {ρ : List Cl} {fp : Nat → List Addr} {a : Addr} : a ∈ ol ρ fp ↔ ∃ (i : Nat) (d : D), ρ[i]? = some (.ow d) ∧ a ∈ fp i := by
  unfold ol
  rw [List.mem_flatMap]
  constructor
  · rintro ⟨i, hi, h⟩
    split at h
    · rename_i ho
      obtain ⟨d, e⟩ := isOw_iff.mp ho
      exact ⟨i, d, e, h⟩
    · cases h
  · rintro ⟨i, d, e, h⟩
    refine ⟨i, List.mem_range.mpr ((List.getElem?_eq_some_iff.mp e).1), ?_⟩
    rw [if_pos (isOw_iff.mpr ⟨d, e⟩)]
    exact h
theorem un_out {L : List Addr} {H : Hp} {a : Addr} (h : a ∈ L) : un L H a = none := by unfold un; rw [if_pos h]
theorem un_in {L : List Addr} {H : Hp} {a : Addr} (h : a ∉ L) : un L H a = H a := by unfold un; rw [if_neg h]
theorem un_same (L : List Addr) (H : Hp) : Same (un L H) H := fun a o e => by
  unfold un at e; split at e
  · cases e
  · exact e
theorem un_sub {L L' : List Addr} {H : Hp} (h : ∀ a, a ∈ L' → a ∈ L) : Same (un L H) (un L' H) := fun a o e => by
  by_cases ha : a ∈ L
  · rw [un_out ha] at e; cases e
  · rw [un_in ha] at e
    rw [un_in fun z => ha (h a z)]; exact e
theorem un_nil {H : Hp} : un [] H = H := by funext a; unfold un; rw [if_neg (by simp)]
theorem un_mix {L : List Addr} {H F' : Hp} (h : ∀ a ∈ L, F' a = none) : un L (mix L H F') = F' := by
  funext a
  by_cases ha : a ∈ L
  · rw [un_out ha, h a ha]
  · rw [un_in ha]; unfold mix; rw [if_neg ha]
theorem un_le {L : List Addr} {F H : Hp} (s : Same F H) (h : ∀ a ∈ L, F a = none) : Same F (un L H) := fun a o e => by
  have ha : a ∉ L := fun q => by rw [h a q] at e; cases e
  rw [un_in ha]; exact s a o e
/-- what is owned: the value, its objects -/
def rdo (K : PySem.W.Frag) (F H : Hp) (L : List Addr) : D → V → Prop
  | .lst ds, v => ∃ p vs, v = .ref p ∧ L = [p] ∧ H p = some (.lst vs) ∧ rds K F ds vs
  | .dct kvs, v => ∃ p kws, v = .ref p ∧ L = [p] ∧ H p = some (.dK kws) ∧ rdk K F kvs kws
  | _, _ => False
theorem rdo_mono {F F' H H' : Hp} {L : List Addr} {d : D} {v : V} (s : Same F F') (h : ∀ a ∈ L, H' a = H a) (r : rdo K F H L d v) : rdo K F' H' L d v := by
  cases d with
  | lst ds =>
    obtain ⟨p, vs, rfl, rfl, e, r⟩ := r
    exact ⟨p, vs, rfl, rfl, by rw [h p (by simp)]; exact e, rds_mono s _ _ r⟩
  | dct kvs =>
    obtain ⟨p, vs, rfl, rfl, e, r⟩ := r
    exact ⟨p, vs, rfl, rfl, by rw [h p (by simp)]; exact e, rdk_mono s _ _ r⟩
  | _ => exact r.elim
/-- an owned thing is no longer changed -/
theorem rdo_rd {F H G : Hp} {L : List Addr} {d : D} {v : V} (s : Same F G) (h : ∀ a ∈ L, G a = H a) (r : rdo K F H L d v) : rd K G d v := by
  cases d with
  | lst ds =>
    obtain ⟨p, vs, rfl, rfl, e, r⟩ := r
    unfold rd
    exact ⟨p, vs, rfl, by rw [h p (by simp)]; exact e, rds_mono s _ _ r⟩
  | dct kvs =>
    obtain ⟨p, vs, rfl, rfl, e, r⟩ := r
    unfold rd
    exact ⟨p, vs, rfl, by rw [h p (by simp)]; exact e, rdk_mono s _ _ r⟩
  | _ => exact r.elim
theorem rdo_kind {F H : Hp} {L : List Addr} {d : D} {v : V} (r : rdo K F H L d v) : ∀ a ∈ L, (∃ xs, H a = some (.lst xs)) ∨ ∃ k, H a = some (.dK k) := by
  cases d with
  | lst ds =>
    obtain ⟨p, vs, rfl, rfl, e, r⟩ := r
    intro a ha; rw [List.mem_singleton.mp ha]; exact .inl ⟨_, e⟩
  | dct kvs =>
    obtain ⟨p, vs, rfl, rfl, e, r⟩ := r
    intro a ha; rw [List.mem_singleton.mp ha]; exact .inr ⟨_, e⟩
  | _ => exact r.elim
structure AsF (K : PySem.W.Frag) (H0 : Hp) (ρ : List Cl) (σ : St) (H : Hp) (fp : Nat → List Addr) : Prop where
  len : ρ.length = σ.length
  s0 : Same H0 (un (ol ρ fp) H)
  apart : ∀ (i j : Nat) (d e : D), ρ[i]? = some (.ow d) → ρ[j]? = some (.ow e) → i ≠ j → ∀ a ∈ fp i, a ∉ fp j
  fzs : ∀ (i : Nat) (d : D), ρ[i]? = some (.fz d) → ∃ v, σ[i]? = some (some v) ∧ rd K (un (ol ρ fp) H) d v
  ows : ∀ (i : Nat) (d : D), ρ[i]? = some (.ow d) → ∃ v, σ[i]? = some (some v) ∧ rdo K (un (ol ρ fp) H) H (fp i) d v
def As (K : PySem.W.Frag) (H0 : Hp) (ρ : List Cl) (σ : St) (H : Hp) : Prop := ∃ fp, AsF K H0 ρ σ H fp
section
variable {H0 H H' F' : Hp} {ρ : List Cl} {σ : St} {fp : Nat → List Addr}
theorem AsF.hidL (A : AsF K H0 ρ σ H fp) : Hid (ol ρ fp) (un (ol ρ fp) H) H := ⟨fun a ha => un_out ha, fun a ha => un_in ha, fun a ha => by
  obtain ⟨i, d, e, h⟩ := mem_ol.mp ha
  obtain ⟨v, _, r⟩ := A.ows i d e
  rcases rdo_kind r a h with z | z
  · exact .inl z
  · exact .inr (.inl z)⟩
theorem AsF.rz_hid (A : AsF K H0 ρ σ H fp) : Rz K (hid ρ) σ (un (ol ρ fp) H) := ⟨by unfold Tw.hid; rw [List.length_map, A.len], fun i d e => by
  unfold Tw.hid at e
  rw [List.getElem?_map] at e
  cases q : ρ[i]? with
  | none => rw [q] at e; cases e
  | some c =>
    rw [q] at e
    cases c with
    | fz d' => cases e; exact A.fzs i d q
    | no => cases e
    | ow d' => cases e⟩
theorem AsF.rz_frz (A : AsF K H0 ρ σ H fp) : Rz K (frz ρ) σ H := ⟨by unfold Tw.frz; rw [List.length_map, A.len], fun i d e => by
  unfold Tw.frz at e
  rw [List.getElem?_map] at e
  cases q : ρ[i]? with
  | none => rw [q] at e; cases e
  | some c =>
    rw [q] at e
    cases c with
    | fz d' =>
      cases e
      obtain ⟨v, h1, h2⟩ := A.fzs i d q
      exact ⟨v, h1, rd_mono (un_same _ _) _ _ h2⟩
    | no => cases e
    | ow d' =>
      cases e
      obtain ⟨v, h1, h2⟩ := A.ows i d q
      exact ⟨v, h1, rdo_rd (un_same _ _) (fun _ _ => rfl) h2⟩⟩
/-- behind a piece of code that ran with what is owned hidden -/
theorem AsF.mixed (A : AsF K H0 ρ σ H fp) (s : Same (un (ol ρ fp) H) F') (n : ∀ a ∈ ol ρ fp, F' a = none) : AsF K H0 ρ σ (mix (ol ρ fp) H F') fp := by
  refine ⟨A.len, ?_, A.apart, fun i d e => ?_, fun i d e => ?_⟩
  · rw [un_mix n]; exact A.s0.trans s
  · rw [un_mix n]
    obtain ⟨v, h1, h2⟩ := A.fzs i d e
    exact ⟨v, h1, rd_mono s _ _ h2⟩
  · rw [un_mix n]
    obtain ⟨v, h1, h2⟩ := A.ows i d e
    refine ⟨v, h1, rdo_mono s (fun a ha => ?_) h2⟩
    unfold mix
    rw [if_pos (mem_ol.mpr ⟨i, d, e, ha⟩)]
/-- behind a piece of code that changed nothing -/
theorem AsF.grown (A : AsF K H0 ρ σ H fp) (s : Same H H') : AsF K H0 ρ σ H' fp := by
  have su : Same (un (ol ρ fp) H) (un (ol ρ fp) H') := un_le ((un_same _ _).trans s) fun a ha => un_out ha
  refine ⟨A.len, A.s0.trans su, A.apart, fun i d e => ?_, fun i d e => ?_⟩
  · obtain ⟨v, h1, h2⟩ := A.fzs i d e
    exact ⟨v, h1, rd_mono su _ _ h2⟩
  · obtain ⟨v, h1, h2⟩ := A.ows i d e
    refine ⟨v, h1, rdo_mono su (fun a ha => ?_) h2⟩
    have : ∃ o, H a = some o := by rcases rdo_kind h2 a ha with ⟨_, z⟩ | ⟨_, z⟩ <;> exact ⟨_, z⟩
    obtain ⟨o, ho⟩ := this
    rw [ho]; exact s a o ho
theorem ol_set_sub {i : Nat} {c : Cl} (hc : isOw (some c) = false) : ∀ a, a ∈ ol (ρ.set i c) fp → a ∈ ol ρ fp := fun a ha => by
  obtain ⟨j, d, e, h⟩ := mem_ol.mp ha
  by_cases hj : i = j
  · subst hj
    by_cases hl : i < ρ.length
    · rw [List.getElem?_set_self hl] at e
      cases e; cases hc
    · rw [List.getElem?_eq_none (by rw [List.length_set]; omega)] at e; cases e
  · rw [List.getElem?_set_ne hj] at e
    exact mem_ol.mpr ⟨j, d, e, h⟩
/-- a slot gets a datum -/
theorem AsF.setFz (A : AsF K H0 ρ σ H fp) {i : Nat} {d : D} {v : V} (r : rd K (un (ol ρ fp) H) d v) : AsF K H0 (ρ.set i (.fz d)) (σ.set i (some v)) H fp := by
  have su : Same (un (ol ρ fp) H) (un (ol (ρ.set i (.fz d)) fp) H) := un_sub (ol_set_sub rfl)
  have get : ∀ {j : Nat} {e : D}, (ρ.set i (.fz d))[j]? = some (.ow e) → i ≠ j ∧ ρ[j]? = some (.ow e) := fun {j e} h => by
    by_cases hj : i = j
    · subst hj
      by_cases hl : i < ρ.length
      · rw [List.getElem?_set_self hl] at h; cases h
      · rw [List.getElem?_eq_none (by rw [List.length_set]; omega)] at h; cases h
    · rw [List.getElem?_set_ne hj] at h; exact ⟨hj, h⟩
  refine ⟨by simp [A.len], A.s0.trans su, fun j k e f h1 h2 => A.apart j k e f (get h1).2 (get h2).2, fun j e h => ?_, fun j e h => ?_⟩
  · by_cases hj : i = j
    · subst hj
      by_cases hl : i < ρ.length
      · rw [List.getElem?_set_self hl] at h
        cases h
        exact ⟨v, by rw [List.getElem?_set_self (by rw [← A.len]; exact hl)], rd_mono su _ _ r⟩
      · rw [List.getElem?_eq_none (by rw [List.length_set]; omega)] at h; cases h
    · rw [List.getElem?_set_ne hj] at h
      obtain ⟨u, h1, h2⟩ := A.fzs j e h
      exact ⟨u, by rw [List.getElem?_set_ne hj]; exact h1, rd_mono su _ _ h2⟩
  · obtain ⟨hj, h⟩ := get h
    obtain ⟨u, h1, h2⟩ := A.ows j e h
    exact ⟨u, by rw [List.getElem?_set_ne hj]; exact h1, rdo_mono su (fun _ _ => rfl) h2⟩
/-- a slot's owned thing is frozen -/
theorem AsF.freeze (A : AsF K H0 ρ σ H fp) {i : Nat} {d : D} (hi : ρ[i]? = some (.ow d)) : AsF K H0 (ρ.set i (.fz d)) σ H fp := by
  obtain ⟨v, h1, h2⟩ := A.ows i d hi
  have hl : i < ρ.length := (List.getElem?_eq_some_iff.mp hi).1
  have su : Same (un (ol ρ fp) H) (un (ol (ρ.set i (.fz d)) fp) H) := un_sub (ol_set_sub rfl)
  have out : ∀ a ∈ fp i, a ∉ ol (ρ.set i (.fz d)) fp := fun a ha hb => by
    obtain ⟨j, e, h, hj⟩ := mem_ol.mp hb
    by_cases hij : i = j
    · subst hij; rw [List.getElem?_set_self hl] at h; cases h
    · rw [List.getElem?_set_ne hij] at h
      exact A.apart i j d e hi h hij a ha hj
  have rr : rd K (un (ol (ρ.set i (.fz d)) fp) H) d v := rdo_rd su (fun a ha => un_in (out a ha)) h2
  have get : ∀ {j : Nat} {e : D}, (ρ.set i (.fz d))[j]? = some (.ow e) → i ≠ j ∧ ρ[j]? = some (.ow e) := fun {j e} h => by
    by_cases hj : i = j
    · subst hj; rw [List.getElem?_set_self hl] at h; cases h
    · rw [List.getElem?_set_ne hj] at h; exact ⟨hj, h⟩
  refine ⟨by simp [A.len], A.s0.trans su, fun j k e f h1 h2 => A.apart j k e f (get h1).2 (get h2).2, fun j e h => ?_, fun j e h => ?_⟩
  · by_cases hj : i = j
    · subst hj
      rw [List.getElem?_set_self hl] at h
      cases h
      exact ⟨v, h1, rr⟩
    · rw [List.getElem?_set_ne hj] at h
      obtain ⟨u, h1, h2⟩ := A.fzs j e h
      exact ⟨u, h1, rd_mono su _ _ h2⟩
  · obtain ⟨hj, h⟩ := get h
    obtain ⟨u, h1, h2⟩ := A.ows j e h
    exact ⟨u, h1, rdo_mono su (fun _ _ => rfl) h2⟩
def fz1 (i : Nat) (ρ : List Cl) : List Cl := match ρ[i]? with
  | some (.ow d) => ρ.set i (.fz d)
  | _ => ρ
def fzL : List Nat → List Cl → List Cl
  | [], ρ => ρ
  | i :: is, ρ => fzL is (fz1 i ρ)
theorem As.fz1 (A : As K H0 ρ σ H) (i : Nat) : As K H0 (Tw.fz1 i ρ) σ H := by
  unfold Tw.fz1
  split
  · rename_i d h
    obtain ⟨fp, A⟩ := A
    exact ⟨fp, A.freeze h⟩
  · exact A
theorem As.fzL : ∀ (is : List Nat) {ρ : List Cl}, As K H0 ρ σ H → As K H0 (Tw.fzL is ρ) σ H
  | [], _, A => A
  | i :: is, _, A => As.fzL is (A.fz1 i)
/-- a slot that is not owned (or owned no more) gets a new owned thing -/
theorem AsF.setOw (A : AsF K H0 ρ σ H fp) {i : Nat} {d : D} {v : V} {L : List Addr} (hn : ∀ e : D, ρ[i]? ≠ some (.ow e)) (hL : ∀ a ∈ L, a ∉ ol ρ fp) (h0 : Same H0 (un (ol ρ fp) (un L H)))
    (hf : ∀ (j : Nat) (e : D), ρ[j]? = some (.fz e) → j ≠ i → ∃ u, σ[j]? = some (some u) ∧ rd K (un (ol ρ fp) (un L H)) e u)
    (ho : ∀ (j : Nat) (e : D), ρ[j]? = some (.ow e) → ∃ u, σ[j]? = some (some u) ∧ rdo K (un (ol ρ fp) (un L H)) H (fp j) e u) (r : rdo K (un (ol ρ fp) (un L H)) H L d v) :
    AsF K H0 (ρ.set i (.ow d)) (σ.set i (some v)) H (fun j => if j = i then L else fp j) := by
  by_cases hl : i < ρ.length
  case neg =>
    have e1 : ρ.set i (.ow d) = ρ := List.set_eq_of_length_le (by omega)
    have e2 : σ.set i (some v) = σ := List.set_eq_of_length_le (by rw [← A.len]; omega)
    have e3 : ol ρ (fun j => if j = i then L else fp j) = ol ρ fp := by
      unfold ol
      congr 1
      funext j
      by_cases hj : j = i
      · subst hj
        rw [List.getElem?_eq_none (by omega)]
        rfl
      · simp only [if_neg hj]
    rw [e1, e2]
    refine ⟨A.len, by rw [e3]; exact A.s0, fun j k e f h1 h2 h3 => ?_, by rw [e3]; exact A.fzs, fun j e h => ?_⟩
    · have hj : j ≠ i := fun q => by subst q; exact hl (List.getElem?_eq_some_iff.mp h1).1
      have hk : k ≠ i := fun q => by subst q; exact hl (List.getElem?_eq_some_iff.mp h2).1
      rw [if_neg hj, if_neg hk]
      exact A.apart j k e f h1 h2 h3
    · have hj : j ≠ i := fun q => by subst q; exact hl (List.getElem?_eq_some_iff.mp h).1
      rw [e3, if_neg hj]
      exact A.ows j e h
  have mo : ∀ a, a ∈ ol (ρ.set i (.ow d)) (fun j => if j = i then L else fp j) ↔ a ∈ ol ρ fp ∨ a ∈ L := fun a => by
    rw [mem_ol]
    constructor
    · rintro ⟨j, e, h, ha⟩
      by_cases hj : j = i
      · subst hj; rw [if_pos rfl] at ha; exact .inr ha
      · rw [List.getElem?_set_ne (Ne.symm hj)] at h
        rw [if_neg hj] at ha
        exact .inl (mem_ol.mpr ⟨j, e, h, ha⟩)
    · rintro (h | h)
      · obtain ⟨j, e, h, ha⟩ := mem_ol.mp h
        have hj : j ≠ i := fun q => by subst q; exact hn e h
        exact ⟨j, e, by rw [List.getElem?_set_ne (Ne.symm hj)]; exact h, by rw [if_neg hj]; exact ha⟩
      · exact ⟨i, d, by rw [List.getElem?_set_self hl], by rw [if_pos rfl]; exact h⟩
  have eu : un (ol (ρ.set i (.ow d)) (fun j => if j = i then L else fp j)) H = un (ol ρ fp) (un L H) := by
    funext a
    by_cases h1 : a ∈ ol ρ fp
    · rw [un_out h1, un_out ((mo a).mpr (.inl h1))]
    · by_cases h2 : a ∈ L
      · rw [un_in h1, un_out h2, un_out ((mo a).mpr (.inr h2))]
      · rw [un_in h1, un_in h2, un_in fun q => ((mo a).mp q).elim h1 h2]
  refine ⟨by simp [A.len], by rw [eu]; exact h0, fun j k e f h1 h2 h3 a ha hb => ?_, fun j e h => ?_, fun j e h => ?_⟩
  · by_cases hj : j = i
    · subst hj
      have hk : k ≠ j := Ne.symm h3
      rw [if_pos rfl] at ha
      rw [if_neg hk] at hb
      rw [List.getElem?_set_ne h3] at h2
      exact hL a ha (mem_ol.mpr ⟨k, f, h2, hb⟩)
    · rw [if_neg hj] at ha
      rw [List.getElem?_set_ne (Ne.symm hj)] at h1
      by_cases hk : k = i
      · subst hk
        rw [if_pos rfl] at hb
        exact hL a hb (mem_ol.mpr ⟨j, e, h1, ha⟩)
      · rw [if_neg hk] at hb
        rw [List.getElem?_set_ne (Ne.symm hk)] at h2
        exact A.apart j k e f h1 h2 h3 a ha hb
  · rw [eu]
    by_cases hj : j = i
    · subst hj; rw [List.getElem?_set_self hl] at h; cases h
    · rw [List.getElem?_set_ne (Ne.symm hj)] at h
      obtain ⟨u, h1, h2⟩ := hf j e h hj
      exact ⟨u, by rw [List.getElem?_set_ne (Ne.symm hj)]; exact h1, h2⟩
  · rw [eu]
    by_cases hj : j = i
    · subst hj
      rw [List.getElem?_set_self hl] at h
      cases h
      exact ⟨v, by rw [List.getElem?_set_self (by rw [← A.len]; exact hl)], by rw [if_pos rfl]; exact r⟩
    · rw [List.getElem?_set_ne (Ne.symm hj)] at h
      obtain ⟨u, h1, h2⟩ := ho j e h
      exact ⟨u, by rw [List.getElem?_set_ne (Ne.symm hj)]; exact h1, by rw [if_neg hj]; exact h2⟩
/-- the owned thing of a slot is changed -/
theorem AsF.chg (A : AsF K H0 ρ σ H fp) {i : Nat} {d d' : D} {p : Addr} {o : HO} (hi : ρ[i]? = some (.ow d)) (hp : fp i = [p]) (hv : σ[i]? = some (some (.ref p))) (r : rdo K (un (ol ρ fp) H) (upd H p o) [p] d' (.ref p)) :
    AsF K H0 (ρ.set i (.ow d')) σ (upd H p o) fp := by
  have hl : i < ρ.length := (List.getElem?_eq_some_iff.mp hi).1
  have eo : ol (ρ.set i (.ow d')) fp = ol ρ fp := by
    unfold ol
    rw [List.length_set]
    congr 1
    funext j
    by_cases hj : i = j
    · subst hj; rw [List.getElem?_set_self hl, hi]; rfl
    · rw [List.getElem?_set_ne hj]
  have pin : p ∈ ol ρ fp := mem_ol.mpr ⟨i, d, hi, by rw [hp]; simp⟩
  have eu : un (ol ρ fp) (upd H p o) = un (ol ρ fp) H := by
    funext a
    by_cases ha : a ∈ ol ρ fp
    · rw [un_out ha, un_out ha]
    · have : a ≠ p := fun e => ha (e ▸ pin)
      rw [un_in ha, un_in ha, upd_ne this]
  have get : ∀ {j : Nat} {e : D}, (ρ.set i (.ow d'))[j]? = some (.ow e) → ∃ e', ρ[j]? = some (.ow e') := fun {j e} h => by
    by_cases hj : i = j
    · subst hj; exact ⟨d, hi⟩
    · rw [List.getElem?_set_ne hj] at h; exact ⟨e, h⟩
  refine ⟨by simp [A.len], by rw [eo, eu]; exact A.s0, fun j k e f h1 h2 h3 => ?_, fun j e h => ?_, fun j e h => ?_⟩
  · obtain ⟨e', h1⟩ := get h1
    obtain ⟨f', h2⟩ := get h2
    exact A.apart j k e' f' h1 h2 h3
  · rw [eo, eu]
    by_cases hj : i = j
    · subst hj; rw [List.getElem?_set_self hl] at h; cases h
    · rw [List.getElem?_set_ne hj] at h; exact A.fzs j e h
  · rw [eo, eu]
    by_cases hj : i = j
    · subst hj
      rw [List.getElem?_set_self hl] at h
      cases h
      exact ⟨_, hv, by rw [hp]; exact r⟩
    · rw [List.getElem?_set_ne hj] at h
      obtain ⟨u, h1, h2⟩ := A.ows j e h
      refine ⟨u, h1, rdo_mono (Same.refl _) (fun a ha => upd_ne fun q => ?_) h2⟩
      subst q
      exact A.apart j i e d h hi (Ne.symm hj) a ha (by rw [hp]; simp)
end
end
end Tw

/-! Tw8: statements' rules. -/
namespace Tw
open PySem L2

theorem _root_.L2.Same.none {H H' : Hp} (s : Same H H') {p : Addr} (h : H' p = .none) : H p = .none := by
  cases q : H p with
  | none => rfl
  | some o => rw [s _ _ q] at h; cases h
/-- what is wanted of a statement's end -/
def Lead (K : PySem.W.Frag) (W : WX) (H0 : Hp) (D : Ends) (o : Out) : Prop := match o with
  | .nx ρ => ∀ σ H, As K H0 ρ σ H → D.nx σ H
  | .rt d ρ => ∀ v σ H fp, AsF K H0 ρ σ H fp → rd K (un (ol ρ fp) H) d v → D.rt v H
  | .bk ρ => ∀ σ H, As K H0 ρ σ H → D.bk σ H
  | .ct ρ => ∀ σ H, As K H0 ρ σ H → D.ct σ H
  | .ex x ρ => ∀ c oa σ F, Rz K (hid ρ) σ F → Same H0 F → rdx K F x c oa → W c oa σ F
  | .no => False
  | .rf d => ∀ p H, H0 p = none → Same H0 (wo p H) → rdo K (wo p H) H [p] d (.ref p) → D.rt (.ref p) H
def tS (K : PySem.W.Frag) (W : WX) (g : SS) : TS := fun D σ H => ∃ H0 ρ, As K H0 ρ σ H ∧ Lead K W H0 D (g ρ)
section
variable {K : PySem.W.Frag} {W : WX} {H0 H1 H H' : Hp} {ρ : List Cl} {σ : St} {fp : Nat → List Addr} {D : Ends}
theorem As.weak (s : Same H0 H1) (A : As K H1 ρ σ H) : As K H0 ρ σ H := let ⟨fp, A⟩ := A; ⟨fp, A.len, s.trans A.s0, A.apart, A.fzs, A.ows⟩
theorem AsF.weak (s : Same H0 H1) (A : AsF K H1 ρ σ H fp) : AsF K H0 ρ σ H fp := ⟨A.len, s.trans A.s0, A.apart, A.fzs, A.ows⟩
theorem Lead.weak {o : Out} (s : Same H0 H1) (h : Lead K W H0 D o) : Lead K W H1 D o := by
  cases o with
  | nx ρ => exact fun σ H A => h σ H (A.weak s)
  | rt d ρ => exact fun v σ H fp A r => h v σ H fp (A.weak s) r
  | bk ρ => exact fun σ H A => h σ H (A.weak s)
  | ct ρ => exact fun σ H A => h σ H (A.weak s)
  | ex x ρ => exact fun c oa σ F z s' r => h c oa σ F z (s.trans s') r
  | no => exact h
  | rf d => exact fun p H hp s' r => h p H (s.none hp) (s.trans s') r
/-- what comes of an expression in a statement -/
def step {α : Type} (r : R α) (ρ : List Cl) (k : α → Out) : Out := match r with
  | .ok a => k a
  | .ex x => .ex x ρ
  | .no => .no
/-- an expression, what is owned hidden -/
theorem run_hid {α β : Type} {rel : Hp → α → β → Prop} {f : Ev → R α} {Q : β → Hp → Prop} {k : α → Out} (A : AsF K H0 ρ σ H fp) (h : Lead K W H0 D (step (f (hid ρ)) ρ k))
    (q : ∀ a v F', f (hid ρ) = .ok a → Same (un (ol ρ fp) H) F' → (∀ b ∈ ol ρ fp, F' b = none) → rel F' a v → Lead K W H0 D (k a) → Q v (mix (ol ρ fp) H F')) : fr (tG K rel W f) σ H Q := by
  refine ⟨ol ρ fp, un (ol ρ fp) H, A.hidL, hid ρ, A.rz_hid, ?_⟩
  cases e : f (hid ρ) with
  | ok a =>
    rw [e] at h
    exact fun v F' s r n => q a v F' e s n r h
  | ex x =>
    rw [e] at h
    exact fun c oa F' s r => h c oa σ F' (A.rz_hid.mono s) (A.s0.trans s) r
  | no => rw [e] at h; exact h
/-- an expression, all to be read -/
theorem run_frz {α β : Type} {rel : Hp → α → β → Prop} {f : Ev → R α} {Q : β → Hp → Prop} {k : α → Out} (A : AsF K H0 ρ σ H fp) (h : Lead K W H0 D (step (f (frz ρ)) ρ k))
    (q : ∀ a v H', f (frz ρ) = .ok a → Same H H' → rel H' a v → Lead K W H0 D (k a) → Q v H') : tG K rel W f σ H Q := by
  refine ⟨frz ρ, A.rz_frz, ?_⟩
  cases e : f (frz ρ) with
  | ok a =>
    rw [e] at h
    exact fun v H' s r => q a v H' e s r h
  | ex x =>
    rw [e] at h
    exact fun c oa F' s r => h c oa σ F' ((A.rz_hid.mono (un_same _ _)).mono s) ((A.s0.trans (un_same _ _)).trans s) r
  | no => rw [e] at h; exact h
end
section
variable {X : Cx} {W : WX} {st : Stmt} {sts : List Stmt} {e c : Expr} {pos : Pos} {g g' : SS} {f : SE} {p : ST}
theorem _root_.L2.PS.imp {t t' : TS} (h : PS X st t) (k : ∀ D σ H, t' D σ H → t D σ H) : PS X st t' := ⟨fun pins s σ H D I w => h.run pins s σ H D I (k D σ H w)⟩
theorem _root_.L2.PSs.imp {t t' : TS} (h : PSs X sts t) (k : ∀ D σ H, t' D σ H → t D σ H) : PSs X sts t' := ⟨fun pins s σ H D I w => h.run pins s σ H D I (k D σ H w)⟩
/-- names are frozen ahead -/
def sFz (is : List Nat) (g : SS) : SS := fun ρ => g (fzL is ρ)
theorem ls_fz (is : List Nat) (h : PS X st (tS X.K W g)) : PS X st (tS X.K W (sFz is g)) := h.imp fun D σ H ⟨H0, ρ, A, l⟩ => ⟨H0, fzL is ρ, A.fzL is, l⟩
def sNil : SS := fun ρ => .nx ρ
def sSeq (g g' : SS) : SS := fun ρ => match g ρ with
  | .nx ρ' => g' ρ'
  | o => o
theorem lss_nil : PSs X [] (tS X.K W sNil) := pss_nil.imp fun D σ H ⟨H0, ρ, A, l⟩ => l σ H A
theorem lss_one (h : PS X st (tS X.K W g)) : PSs X [st] (tS X.K W g) := pss_one h
theorem lss_cons (h : PS X st (tS X.K W g)) (h' : PSs X sts (tS X.K W g')) : PSs X (st :: sts) (tS X.K W (sSeq g g')) := (pss_cons h h').imp fun D σ H ⟨H0, ρ, A, l⟩ => ⟨H0, ρ, A, by
  unfold sSeq at l
  cases q : g ρ with
  | nx ρ' => rw [q] at l; exact fun σ' H' A' => ⟨H0, ρ', A', l⟩
  | rt d ρ' => rw [q] at l; exact l
  | bk ρ' => rw [q] at l; exact l
  | ct ρ' => rw [q] at l; exact l
  | ex x ρ' => rw [q] at l; exact l
  | no => rw [q] at l; exact l
  | rf d => rw [q] at l; exact l⟩
theorem ls_pass : PS X (.Pass pos) (tS X.K W sNil) := ps_pass.imp fun D σ H ⟨H0, ρ, A, l⟩ => l σ H A
def sBreak : SS := fun ρ => .bk ρ
def sCont : SS := fun ρ => .ct ρ
theorem ls_break : PS X (.Break pos) (tS X.K W sBreak) := ps_break.imp fun D σ H ⟨H0, ρ, A, l⟩ => l σ H A
theorem ls_continue : PS X (.Continue pos) (tS X.K W sCont) := ps_continue.imp fun D σ H ⟨H0, ρ, A, l⟩ => l σ H A
/-! ### if -/
def sIf (p : ST) (g g' : SS) : SS := fun ρ => step (p (frz ρ)) ρ fun b => if b = true then g ρ else g' ρ
theorem ls_if {a b : List Stmt} (hc : PT X c (tT X.K W p)) (ha : PSs X a (tS X.K W g)) (hb : PSs X b (tS X.K W g')) : PS X (.If c a b pos) (tS X.K W (sIf p g g')) := (ps_if hc ha hb).imp fun D σ H ⟨H0, ρ, ⟨fp, A⟩, l⟩ =>
  run_frz (rel := relB) A l fun a v H' _ s r l' => by
    subst r
    cases v with
    | true => exact ⟨H0, ρ, ⟨fp, A.grown s⟩, l'⟩
    | false => exact ⟨H0, ρ, ⟨fp, A.grown s⟩, l'⟩
/-! ### return -/
def fzAll (ρ : List Cl) : List Cl := ρ.map fun c => match c with
  | .ow d => .fz d
  | c => c
/-- all is frozen ahead: nothing is owned behind -/
def sRet (f : SE) : SS := fun ρ => step (f (frz ρ)) ρ fun d => .rt d (fzAll ρ)
theorem ol_fzAll (ρ : List Cl) (fp : Nat → List Addr) : ol (fzAll ρ) fp = [] := by
  refine List.eq_nil_iff_forall_not_mem.mpr fun a ha => ?_
  obtain ⟨i, d, h, _⟩ := mem_ol.mp ha
  unfold fzAll at h
  rw [List.getElem?_map] at h
  cases q : ρ[i]? with
  | none => rw [q] at h; cases h
  | some c =>
    rw [q] at h
    cases c <;> cases h
theorem AsF.freezeAll {K : PySem.W.Frag} {H0 H : Hp} {ρ : List Cl} {σ : St} {fp : Nat → List Addr} (A : AsF K H0 ρ σ H fp) : AsF K H0 (fzAll ρ) σ H fp := by
  have e := ol_fzAll ρ fp
  refine ⟨by unfold fzAll; rw [List.length_map, A.len], ?_, fun i j d f h => ?_, fun i d h => ?_, fun i d h => ?_⟩
  · rw [e, un_nil]; exact A.s0.trans (un_same _ _)
  · exfalso
    unfold fzAll at h
    rw [List.getElem?_map] at h
    cases q : ρ[i]? with
    | none => rw [q] at h; cases h
    | some c => rw [q] at h; cases c <;> cases h
  · rw [e, un_nil]
    unfold fzAll at h
    rw [List.getElem?_map] at h
    cases q : ρ[i]? with
    | none => rw [q] at h; cases h
    | some c =>
      rw [q] at h
      cases c with
      | no => cases h
      | fz d' =>
        cases h
        obtain ⟨v, h1, h2⟩ := A.fzs i d q
        exact ⟨v, h1, rd_mono (un_same _ _) _ _ h2⟩
      | ow d' =>
        cases h
        obtain ⟨v, h1, h2⟩ := A.ows i d q
        exact ⟨v, h1, rdo_rd (un_same _ _) (fun _ _ => rfl) h2⟩
  · exfalso
    unfold fzAll at h
    rw [List.getElem?_map] at h
    cases q : ρ[i]? with
    | none => rw [q] at h; cases h
    | some c => rw [q] at h; cases c <;> cases h
theorem ls_ret (h : PE X e (tD X.K W f)) : PS X (.Return (some e) pos) (tS X.K W (sRet f)) := (ps_ret h).imp fun D σ H ⟨H0, ρ, ⟨fp, A⟩, l⟩ =>
  run_frz (rel := rd X.K) A l fun a v H' _ s r l' => l' v σ H' fp (A.grown s).freezeAll (by rw [ol_fzAll, un_nil]; exact r)
/-- .. what is owned stays so -/
def sRetK (f : SE) : SS := fun ρ => step (f (hid ρ)) ρ fun d => .rt d ρ
theorem ls_retK (h : PE X e (tD X.K W f)) : PS X (.Return (some e) pos) (tS X.K W (sRetK f)) := (ps_ret h.frame).imp fun D σ H ⟨H0, ρ, ⟨fp, A⟩, l⟩ =>
  run_hid (rel := rd X.K) A l fun a v F' _ s n r l' => l' v σ _ fp (A.mixed s n) (by rw [un_mix n]; exact r)
def sRetN : SS := fun ρ => .rt .non ρ
theorem ls_retN : PS X (.Return none pos) (tS X.K W sRetN) := ps_retN.imp fun D σ H ⟨H0, ρ, ⟨fp, A⟩, l⟩ => l .non σ H fp A (by unfold rd; rfl)
/-! ### name = e -/
def sSet (i : Nat) (f : SE) : SS := fun ρ => step (f (hid ρ)) ρ fun d => .nx (ρ.set i (.fz d))
theorem asg_core {K : PySem.W.Frag} {W : WX} {i : Nat} {f : SE} {D : Ends} {σ : St} {H : Hp} (w : tS K W (sSet i f) D σ H) : tAsg (fr (tD K W f)) (gName i) D σ H := by
  obtain ⟨H0, ρ, ⟨fp, A⟩, l⟩ := w
  exact run_hid (rel := rd K) A l fun a v F' _ s n r l' => l' _ _ ⟨fp, (A.mixed s n).setFz (by rw [un_mix n]; exact r)⟩
theorem ls_set {i : Nat} {x : Str} {pos' : Pos} (hN : X.N.Nodup) (hi : X.N[i]? = some x) (hx : Loc X.env.scope x) (he : PE X e (tD X.K W f)) (hs : swapsWith e (some (.Name x pos')) pos.line X.env = pure false := by rfl) (hf : X.fn x = true ∨ X.env.scope.names.lookup x = some .local := by first | exact .inl rfl | exact .inr rfl | assumption) :
    PS X (.Assign [.Name x pos'] e pos) (tS X.K W (sSet i f)) := (ps_set hN hi hx he.frame hs hf).imp fun D σ H w => asg_core w
/-- .. a flat value, whatever is read -/
def sSetB (i : Nat) (f : SE) : SS := fun ρ => step (f (frz ρ)) ρ fun d => if d.flat = true then .nx (ρ.set i (.fz d)) else .no
theorem ls_setB {i : Nat} {x : Str} {pos' : Pos} (hN : X.N.Nodup) (hi : X.N[i]? = some x) (hx : Loc X.env.scope x) (he : PE X e (tD X.K W f)) (hs : swapsWith e (some (.Name x pos')) pos.line X.env = pure false := by rfl) (hf : X.fn x = true ∨ X.env.scope.names.lookup x = some .local := by first | exact .inl rfl | exact .inr rfl | assumption) :
    PS X (.Assign [.Name x pos'] e pos) (tS X.K W (sSetB i f)) := (ps_set hN hi hx he hs hf).imp fun D σ H ⟨H0, ρ, ⟨fp, A⟩, l⟩ =>
  run_frz (rel := rd X.K) A l fun a v H' _ s r l' => by
    by_cases ha : a.flat = true
    · rw [if_pos ha] at l'
      exact l' _ _ ⟨fp, (A.grown s).setFz (rd_flat ha r)⟩
    · rw [if_neg ha] at l'
      exact l'.elim
/-! ### a new list, a new dict -/
def tF (K : PySem.W.Frag) (W : WX) (f : SE) : TE := fun σ H Q => ∃ ρ : Ev, Rz K ρ σ H ∧ match f ρ with
  | .ok d => ∀ p H', H p = none → Same H (wo p H') → rdo K (wo p H') H' [p] d (.ref p) → Q (.ref p) H'
  | .ex x => ∀ c oa H', Same H H' → rdx K H' x c oa → W c oa σ H'
  | .no => False
def sSetF (i : Nat) (f : SE) : SS := fun ρ => match ρ[i]? with
  | some (.ow _) => .no
  | _ => step (f (hid ρ)) ρ fun d => .nx (ρ.set i (.ow d))
theorem AsF.fresh {K : PySem.W.Frag} {H0 H F' : Hp} {ρ : List Cl} {σ : St} {fp : Nat → List Addr} (A : AsF K H0 ρ σ H fp) {i : Nat} {d : D} {p : Addr} (hn : ∀ e : D, ρ[i]? ≠ some (.ow e)) (hp : un (ol ρ fp) H p = none) (s : Same (un (ol ρ fp) H) (wo p F')) (n : ∀ b ∈ ol ρ fp, F' b = none)
    (r : rdo K (wo p F') F' [p] d (.ref p)) : AsF K H0 (ρ.set i (.ow d)) (σ.set i (some (.ref p))) (mix (ol ρ fp) H F') (fun j => if j = i then [p] else fp j) := by
  have sF : Same (un (ol ρ fp) H) F' := s.trans (wo_same _ _)
  have A2 := A.mixed sF n
  have Fp : ∃ o, F' p = some o := by
    cases d with
    | lst ds => obtain ⟨q, vs, e, l, h, _⟩ := r; cases e; exact ⟨_, h⟩
    | dct ds => obtain ⟨q, vs, e, l, h, _⟩ := r; cases e; exact ⟨_, h⟩
    | _ => exact r.elim
  obtain ⟨o, Fp⟩ := Fp
  have pL : p ∉ ol ρ fp := fun h => by rw [n p h] at Fp; cases Fp
  have eq : un (ol ρ fp) (un [p] (mix (ol ρ fp) H F')) = wo p F' := by
    funext a
    by_cases ha : a ∈ ol ρ fp
    · rw [un_out ha]
      have : a ≠ p := fun e => pL (e ▸ ha)
      rw [wo_ne this, n a ha]
    · rw [un_in ha]
      by_cases hp : a = p
      · subst hp; rw [un_out (by simp), wo_self]
      · rw [un_in (by simpa using hp), wo_ne hp]
        unfold mix; rw [if_neg ha]
  refine A2.setOw hn (fun a ha => by rw [List.mem_singleton.mp ha]; exact pL) (by rw [eq]; exact A.s0.trans s) (fun j e h _ => ?_) (fun j e h => ?_) ?_
  · rw [eq]
    obtain ⟨v, h1, h2⟩ := A.fzs j e h
    exact ⟨v, h1, rd_mono s _ _ h2⟩
  · rw [eq]
    obtain ⟨v, h1, h2⟩ := A.ows j e h
    refine ⟨v, h1, rdo_mono s (fun a ha => ?_) h2⟩
    unfold mix; rw [if_pos (mem_ol.mpr ⟨j, e, h, ha⟩)]
  · rw [eq]
    refine rdo_mono (Same.refl _) (fun a ha => ?_) r
    rw [List.mem_singleton.mp ha]
    unfold mix; rw [if_neg pL]
theorem setF_core {K : PySem.W.Frag} {W : WX} {i : Nat} {f : SE} {D : Ends} {σ : St} {H : Hp} (w : tS K W (sSetF i f) D σ H) : tAsg (fr (tF K W f)) (gName i) D σ H := by
  obtain ⟨H0, ρ, ⟨fp, A⟩, l⟩ := w
  have hn : ∀ e : Tw.D, ρ[i]? ≠ some (.ow e) := fun e h => by unfold sSetF at l; rw [h] at l; exact l
  have l' : Lead K W H0 D (step (f (hid ρ)) ρ fun d => .nx (ρ.set i (.ow d))) := by
    unfold sSetF at l
    split at l
    · rename_i d h; exact absurd h (hn d)
    · exact l
  refine ⟨ol ρ fp, un (ol ρ fp) H, A.hidL, hid ρ, A.rz_hid, ?_⟩
  cases e : f (hid ρ) with
  | ok d =>
    rw [e] at l'
    intro p F' hp s r n
    exact l' _ _ ⟨_, A.fresh hn hp s n r⟩
  | ex x =>
    rw [e] at l'
    exact fun c oa F' s r => l' c oa σ F' (A.rz_hid.mono s) (A.s0.trans s) r
  | no => rw [e] at l'; exact l'.elim
theorem ls_setF {i : Nat} {x : Str} {pos' : Pos} (hN : X.N.Nodup) (hi : X.N[i]? = some x) (hx : Loc X.env.scope x) (he : PE X e (tF X.K W f)) (hs : swapsWith e (some (.Name x pos')) pos.line X.env = pure false := by rfl) (hf : X.fn x = true ∨ X.env.scope.names.lookup x = some .local := by first | exact .inl rfl | exact .inr rfl | assumption) :
    PS X (.Assign [.Name x pos'] e pos) (tS X.K W (sSetF i f)) := (ps_set hN hi hx he.frame hs hf).imp fun D σ H w => setF_core w
/-! ### targets = e -/
def setsC (ρ : List Cl) : List (Nat × D) → List Cl
  | [] => ρ
  | (i, d) :: bs => setsC (ρ.set i (.fz d)) bs
theorem AsF.setsFz {K : PySem.W.Frag} {H0 H : Hp} {fp : Nat → List Addr} : ∀ {bs : List (Nat × D)} {vs : List V} {ρ : List Cl} {σ : St} {F : Hp}, AsF K H0 ρ σ H fp → Same F (un (ol ρ fp) H) → rds K F (bs.map (·.2)) vs → AsF K H0 (setsC ρ bs) (setsV σ bs vs) H fp
  | [], vs, ρ, σ, F, A, _, _ => by cases vs <;> exact A
  | (i, d) :: bs, vs, ρ, σ, F, A, s, r => by
    simp only [List.map_cons] at r
    unfold rds at r
    obtain ⟨v, us, rfl, q, r⟩ := r
    show AsF K H0 (setsC (ρ.set i (.fz d)) bs) (setsV (σ.set i (some v)) bs us) H fp
    exact AsF.setsFz (A.setFz (rd_mono s _ _ q)) (s.trans (un_sub (ol_set_sub rfl))) r
def sBind (t : Tg) (f : SE) : SS := fun ρ => step (f (hid ρ)) ρ fun d => match bindT t d with
  | some bs => .nx (setsC ρ bs)
  | none => .no
theorem ls_bind {tg : Expr} {t : Tg} (he : PE X e (tD X.K W f)) (hg : PG X tg (tTg X.K t)) (hs : swapsWithSole [tg] e pos.line X.env = pure false := by rfl) (hw : swappedStores [tg] e X.env = pure none := by rfl)
    (h1 : (assignEach [tg] X.env).map (·.2) = [assign tg X.env] := by rfl) : PS X (.Assign [tg] e pos) (tS X.K W (sBind t f)) := (ps_asg he.frame hg hs hw h1).imp fun D σ H ⟨H0, ρ, ⟨fp, A⟩, l⟩ =>
  run_hid (rel := rd X.K) A l fun a v F' _ s n r l' => by
    cases q : bindT t a with
    | none => rw [q] at l'; exact l'.elim
    | some bs =>
      rw [q] at l'
      have sm : Same F' (mix (ol ρ fp) H F') := fun b o e => by
        unfold mix
        rw [if_neg fun hb => by rw [n b hb] at e; cases e]
        exact e
      exact ⟨a, F', bs, sm, r, q, fun vs rv => l' _ _ ⟨fp, (A.mixed s n).setsFz (by rw [un_mix n]; exact Same.refl _) rv⟩⟩
/-! ### name += e -/
def sAug (i : Nat) (op : D → D → R D) (f : SE) : SS := fun ρ => step (eVar i (hid ρ)) ρ fun x => step (f (hid ρ)) ρ fun y => step (op x y).nox ρ fun z => .nx (ρ.set i (.fz z))
theorem ls_augI {i : Nat} {x : Str} {op : Operator} {fi : Int → Int → Int} {pos' : Pos} (hN : X.N.Nodup) (hi : X.N[i]? = some x) (hx : Loc X.env.scope x) (ho : PIp X op (ipI fi)) (he : PE X e (tD X.K W f)) (hf : X.fn x = true ∨ X.env.scope.names.lookup x = some .local := by first | exact .inl rfl | exact .inr rfl | assumption) :
    PS X (.AugAssign (.Name x pos') op e pos) (tS X.K W (sAug i (ii fun a b => .int (fi a b)) f)) := (ps_aug hN hi hx he.frame ho hf).imp fun D σ H ⟨H0, ρ, ⟨fp, A⟩, l⟩ => by
  unfold sAug at l
  cases q : eVar i (hid ρ) with
  | no => rw [q] at l; exact l.elim
  | ex x =>
    unfold eVar at q
    split at q <;> cases q
  | ok d =>
    rw [q] at l
    unfold eVar at q
    split at q
    · rename_i d' hd
      cases q
      obtain ⟨v, h1, h2⟩ := A.rz_hid.get i _ hd
      refine ⟨v, h1, run_hid (rel := rd X.K) A l fun a u F' _ s n r l' => ?_⟩
      cases q2 : (ii fun a b => Tw.D.int (fi a b)) d a with
      | no => rw [q2] at l'; exact l'.elim
      | ex x => rw [q2] at l'; exact l'.elim
      | ok z =>
        rw [q2] at l'
        obtain ⟨j, k, rfl, rfl, rfl⟩ := ii_ok d a z q2
        unfold rd at h2 r
        exact ⟨j, k, h2, r, l' _ _ ⟨fp, (A.mixed s n).setFz (by unfold rd; rfl)⟩⟩
    · cases q
/-! ### e as a statement -/
def sDrop (f : SE) : SS := fun ρ => step (f (hid ρ)) ρ fun _ => .nx ρ
theorem ls_expr (he : PE X e (tD X.K W f)) (hs : swapsWith e none pos.line X.env = pure false := by rfl) : PS X (.Expr e pos) (tS X.K W (sDrop f)) := (ps_expr he.frame hs).imp fun D σ H ⟨H0, ρ, ⟨fp, A⟩, l⟩ =>
  run_hid (rel := rd X.K) A l fun a v F' _ s n r l' => l' _ _ ⟨fp, A.mixed s n⟩
/-! ### for -/
def forD (body : D → List Cl → Out) : List D → List Cl → Out
  | [], ρ => .nx ρ
  | d :: ds, ρ => match body d ρ with
    | .nx ρ' => forD body ds ρ'
    | .ct ρ' => forD body ds ρ'
    | .bk ρ' => .nx ρ'
    | o => o
def bodyD (t : Tg) (g : SS) (d : D) (ρ : List Cl) : Out := match bindT t d with
  | some bs => g (setsC ρ bs)
  | none => .no
def sFor (t : Tg) (fi : SA) (g : SS) : SS := fun ρ => step (fi (hid ρ)) ρ fun ds => forD (bodyD t g) ds ρ
theorem AsF.turned {K : PySem.W.Frag} {H0 H F3 H3 : Hp} {ρ : List Cl} {σ : St} {fp : Nat → List Addr} (A : AsF K H0 ρ σ H fp) (g : Grow (un (ol ρ fp) H) H F3 H3) : AsF K H0 ρ σ H3 fp ∧ Same F3 (un (ol ρ fp) H3) := by
  obtain ⟨g1, g2, g3⟩ := g.same (un_same _ _)
  refine ⟨A.grown g2, fun a o e => ?_⟩
  by_cases ha : a ∈ ol ρ fp
  · exfalso
    rcases g a with ⟨h, _⟩ | ⟨h, _⟩
    · rw [h, un_out ha] at e; cases e
    · obtain ⟨i, d, hi, hm⟩ := mem_ol.mp ha
      obtain ⟨v, _, r⟩ := A.ows i d hi
      rcases rdo_kind r a hm with ⟨_, z⟩ | ⟨_, z⟩ <;> (rw [h] at z; cases z)
  · rw [un_in ha]; exact g3 a o e
theorem ls_for {tg iter : Expr} {body : List Stmt} {t : Tg} {fi : SA} (hp : PassesOwn (model X.prog X.w) X.A X.env X.xe) (hc : X.calm = true) (hi : PI X tg iter (tI X.K W fi)) (hg : PG X tg (tTg X.K t)) (hb : PSs X body (tS X.K W g))
    (hs : ∀ x, foldedSetIterable iter X.env x = pure x := by intro _; rfl) : PS X (.For tg iter body [] pos) (tS X.K W (sFor t fi g)) := (ps_for hp hc hi.frame hg hb hs).imp fun D σ H ⟨H0, ρ, ⟨fp, A⟩, l⟩ => by
  show fr (tI X.K W fi) σ H _
  refine run_hid (rel := fun H ds J => WalkD X.K ds J H) A l fun ds J F1 _ s n wk l' => ?_
  have A1 := A.mixed s n
  have eF := un_mix (L := ol ρ fp) (H := H) (F' := F1) n
  refine ⟨fun i m σ H => m = ds.length - i ∧ i ≤ ds.length ∧ ∃ ρ, As X.K F1 ρ σ H ∧ Lead X.K W H0 D (forD (bodyD t g) (ds.drop i) ρ), ⟨ds.length, by simp, Nat.zero_le _, ρ, ⟨fp, A1.len, by rw [eF]; exact Same.refl _, A1.apart, A1.fzs, A1.ows⟩, l'⟩, ?_⟩
  rintro i m σ H ⟨rfl, hi, ρ, ⟨fp, A⟩, l⟩
  have s01 : Same H0 F1 := by have := A1.s0; rw [eF] at this; exact this
  have wki := wk i (un (ol ρ fp) H) H A.s0 (un_same _ _)
  by_cases hlt : i < ds.length
  · obtain ⟨go, yl⟩ := wki.1 hlt
    refine .inr ⟨go, fun σ H => ∃ ρ, As X.K F1 ρ σ H ∧ Lead X.K W H0 D (forD (bodyD t g) (ds.drop (i + 1)) ρ), fun σ' H' n => ⟨ds.length - (i + 1), by omega, rfl, hlt, n⟩, fun x H' y => ?_⟩
    obtain ⟨F3, d, gr, hd, rdd⟩ := yl x H' y
    obtain ⟨A3, s3⟩ := A.turned gr
    have ed : ds.drop i = d :: ds.drop (i + 1) := by
      have h1 : d = ds[i] := by rw [List.getElem?_eq_getElem hlt] at hd; exact (Option.some.inj hd).symm
      rw [h1]; exact List.drop_eq_getElem_cons hlt
    rw [ed] at l
    unfold forD bodyD at l
    cases q : bindT t d with
    | none => rw [q] at l; exact l.elim
    | some bs =>
      rw [q] at l
      refine ⟨d, F3, bs, s3.trans (un_same _ _), rdd, q, fun vs rv => ⟨F1, setsC ρ bs, ⟨fp, A3.setsFz s3 rv⟩, ?_⟩⟩
      cases q2 : g (setsC ρ bs) with
      | nx ρ' => simp only [q2] at l; exact fun σ' H' A' => ⟨ρ', A', l⟩
      | ct ρ' => simp only [q2] at l; exact fun σ' H' A' => ⟨ρ', A', l⟩
      | bk ρ' => simp only [q2] at l; exact fun σ' H' A' => l σ' H' (A'.weak s01)
      | rt d' ρ' => simp only [q2] at l; exact fun v σ' H' fp' A' r => l v σ' H' fp' (A'.weak s01) r
      | ex x ρ' => simp only [q2] at l; exact fun c oa σ' F z s' r => l c oa σ' F z (s01.trans s') r
      | rf d' => simp only [q2] at l; exact fun p H' hp s' r => l p H' (s01.none hp) (s01.trans s') r
      | no => simp only [q2] at l; exact l.elim
  · have ei : i = ds.length := by omega
    subst ei
    rw [List.drop_length] at l
    exact .inl ⟨wki.2 (Nat.le_refl _), l σ H (As.weak s01 ⟨fp, A⟩)⟩
/-! ### while -/
def whileD (p : ST) (g : SS) : Nat → List Cl → Out
  | 0, _ => .no
  | n + 1, ρ => step (p (frz ρ)) ρ fun b => if b = true then match g ρ with
    | .nx ρ' => whileD p g n ρ'
    | .ct ρ' => whileD p g n ρ'
    | .bk ρ' => .nx ρ'
    | o => o
    else .nx ρ
theorem ls_while {body : List Stmt} (n : Nat) (hp : PassesOwn (model X.prog X.w) X.A X.env X.xe) (hc : PT X c (tT X.K W p)) (hb : PSs X body (tS X.K W g)) : PS X (.While c body [] pos) (tS X.K W (whileD p g n)) := (ps_while hp hc hb).imp fun D σ H ⟨H0, ρ, A, l⟩ => by
  refine ⟨fun m σ H => ∃ ρ, As X.K H0 ρ σ H ∧ Lead X.K W H0 D (whileD p g m ρ), ⟨n, ρ, A, l⟩, ?_⟩
  rintro m σ H ⟨ρ, ⟨fp, A⟩, l⟩
  cases m with
  | zero => exact l.elim
  | succ m =>
    unfold whileD at l
    refine run_frz (rel := relB) A l fun b v H' _ s r l' => ?_
    subst r
    have A' := A.grown s
    cases v with
    | false => exact l' σ H' ⟨fp, A'⟩
    | true =>
      rw [if_pos rfl] at l' ⊢
      refine ⟨fun σ H => ∃ ρ, As X.K H0 ρ σ H ∧ Lead X.K W H0 D (whileD p g m ρ), fun σ' H' n => ⟨m, Nat.lt_succ_self m, n⟩, H0, ρ, ⟨fp, A'⟩, ?_⟩
      cases q2 : g ρ with
      | nx ρ' => simp only [q2] at l'; exact fun σ' H' A' => ⟨ρ', A', l'⟩
      | ct ρ' => simp only [q2] at l'; exact fun σ' H' A' => ⟨ρ', A', l'⟩
      | bk ρ' => simp only [q2] at l'; exact l'
      | rt d' ρ' => simp only [q2] at l'; exact l'
      | ex x ρ' => simp only [q2] at l'; exact l'
      | rf d' => simp only [q2] at l'; exact l'
      | no => simp only [q2] at l'; exact l'.elim
end
end Tw

/-! Tw9: new lists and dicts, several stores at once, what is owned changed, defs. -/
namespace Tw
open PySem L2

section
variable {K : PySem.W.Frag} {W : WX} {H0 H H' F' : Hp} {ρ ρ' : List Cl} {σ σ' : St} {fp : Nat → List Addr}
/-- the same slots elsewhere -/
theorem AsF.reslot (A : AsF K H0 ρ σ H fp) (φ : Nat → Nat) (hl : ρ'.length = σ'.length) (hf : ∀ (k : Nat) (d : D), ρ'[k]? = some (.fz d) → ρ[φ k]? = some (.fz d) ∧ σ'[k]? = σ[φ k]?)
    (ho : ∀ (k : Nat) (d : D), ρ'[k]? = some (.ow d) → ρ[φ k]? = some (.ow d) ∧ σ'[k]? = σ[φ k]?) (inj : ∀ (j k : Nat) (d e : D), ρ'[j]? = some (.ow d) → ρ'[k]? = some (.ow e) → j ≠ k → φ j ≠ φ k) : AsF K H0 ρ' σ' H (fun k => fp (φ k)) := by
  have sub : ∀ a, a ∈ ol ρ' (fun k => fp (φ k)) → a ∈ ol ρ fp := fun a ha => by
    obtain ⟨k, d, e, h⟩ := mem_ol.mp ha
    exact mem_ol.mpr ⟨φ k, d, (ho k d e).1, h⟩
  have su : Same (un (ol ρ fp) H) (un (ol ρ' fun k => fp (φ k)) H) := un_sub sub
  refine ⟨hl, A.s0.trans su, fun j k d e h1 h2 h3 => A.apart _ _ d e (ho j d h1).1 (ho k e h2).1 (inj j k d e h1 h2 h3), fun k d e => ?_, fun k d e => ?_⟩
  · obtain ⟨h1, h2⟩ := hf k d e
    obtain ⟨v, h3, h4⟩ := A.fzs _ d h1
    exact ⟨v, h2.trans h3, rd_mono su _ _ h4⟩
  · obtain ⟨h1, h2⟩ := ho k d e
    obtain ⟨v, h3, h4⟩ := A.ows _ d h1
    exact ⟨v, h2.trans h3, rdo_mono su (fun _ _ => rfl) h4⟩
theorem AsF.pushNo (A : AsF K H0 ρ σ H fp) : AsF K H0 (ρ ++ [.no]) (σ ++ [none]) H fp := by
  have h := A.reslot (ρ' := ρ ++ [.no]) (σ' := σ ++ [none]) id (by simp [A.len]) (fun k d e => ?_) (fun k d e => ?_) (fun j k d e _ _ h => h)
  · exact h
  all_goals
    by_cases hk : k < ρ.length
    · rw [List.getElem?_append_left hk] at e
      exact ⟨e, List.getElem?_append_left (by rw [← A.len]; exact hk)⟩
    · exfalso
      rw [List.getElem?_append_right (by omega)] at e
      by_cases hk2 : k - ρ.length = 0
      · rw [hk2] at e; cases e
      · rw [List.getElem?_eq_none (by simp; omega)] at e; cases e
def cM (m : Bool) (d : D) : Cl := if m = true then .ow d else .fz d
def tM (K : PySem.W.Frag) (W : WX) (m : Bool) (f : SE) : TE := if m = true then tF K W f else tD K W f
theorem set_last {α : Type} (xs : List α) (a b : α) : (xs ++ [a]).set xs.length b = xs ++ [b] := by
  rw [List.set_append_right _ _ (Nat.le_refl _)]
  simp
theorem Rz.front {ρ more : Ev} {σ mo : St} {H : Hp} (h : Rz K (ρ ++ more) (σ ++ mo) H) (hl : ρ.length = σ.length) : Rz K ρ σ H := ⟨hl, fun i d e => by
  have hi := (List.getElem?_eq_some_iff.mp e).1
  obtain ⟨v, h1, h2⟩ := h.get i d (by rw [List.getElem?_append_left hi]; exact e)
  exact ⟨v, by rw [List.getElem?_append_left (by omega)] at h1; exact h1, h2⟩⟩
/-- an expression whose value goes to a slot at the end -/
theorem run_ext {m : Bool} {f : SE} {Q : VK} {k : D → Out} {D' : Ends} {more : List Cl} {mo : St} (A : AsF K H0 (ρ ++ more) (σ ++ mo) H fp) (hl : ρ.length = σ.length) (h : Lead K W H0 D' (step (f (hid ρ)) ρ k))
    (q : ∀ d v H' fp', f (hid ρ) = .ok d → AsF K H0 (ρ ++ (more ++ [cM m d])) (σ ++ (mo ++ [some v])) H' fp' → Lead K W H0 D' (k d) → Q v H') : fr (tM K W m f) σ H Q := by
  have zf : Rz K (hid ρ) σ (un (ol (ρ ++ more) fp) H) := by
    have z := A.rz_hid
    unfold Tw.hid at z ⊢
    rw [List.map_append] at z
    exact z.front (by rw [List.length_map]; exact hl)
  refine ⟨ol (ρ ++ more) fp, un (ol (ρ ++ more) fp) H, A.hidL, ?_⟩
  have bad : ∀ x, f (hid ρ) = .ex x → ∀ c oa F', Same (un (ol (ρ ++ more) fp) H) F' → rdx K F' x c oa → W c oa σ F' := fun x e c oa F' s r => by
    rw [e] at h
    exact h c oa σ F' (zf.mono s) (A.s0.trans s) r
  have lens : (ρ ++ more).length = (σ ++ mo).length := A.len
  cases m with
  | false =>
    refine ⟨hid ρ, zf, ?_⟩
    cases e : f (hid ρ) with
    | ok d =>
      intro v F' s r n
      have A2 := ((A.mixed s n).pushNo).setFz (i := (ρ ++ more).length) (d := d) (v := v) (by
        have eo : ol (ρ ++ more ++ [.no]) fp = ol (ρ ++ more) fp := by
          refine ol_no _ _
        rw [eo, un_mix n]; exact r)
      rw [set_last, lens, set_last] at A2
      rw [e] at h
      refine q d v _ fp e ?_ h
      rw [← List.append_assoc, ← List.append_assoc]
      exact A2
    | ex x => exact bad x e
    | no => rw [e] at h; exact h.elim
  | true =>
    refine ⟨hid ρ, zf, ?_⟩
    cases e : f (hid ρ) with
    | ok d =>
      intro p F' hp s r n
      have eo : ol (ρ ++ more ++ [.no]) fp = ol (ρ ++ more) fp := ol_no _ _
      have A2 := (A.pushNo).fresh (i := (ρ ++ more).length) (d := d) (p := p) (F' := F') (fun e' h' => by rw [List.getElem?_append_right (Nat.le_refl _)] at h'; simp at h') (by rw [eo]; exact hp) (by rw [eo]; exact s) (by rw [eo]; exact n) r
      rw [set_last, lens, set_last, eo] at A2
      rw [e] at h
      refine q d _ _ (fun j => if j = (σ ++ mo).length then [p] else fp j) e ?_ h
      rw [← List.append_assoc, ← List.append_assoc]
      exact A2
    | ex x => exact bad x e
    | no => rw [e] at h; exact h.elim
where
  ol_no (ρ : List Cl) (fp : Nat → List Addr) : ol (ρ ++ [.no]) fp = ol ρ fp := by
    unfold ol
    rw [List.length_append, List.length_singleton, List.range_succ, List.flatMap_append]
    have e1 : List.flatMap (fun i => if isOw (ρ ++ [Cl.no])[i]? = true then fp i else []) [ρ.length] = [] := by
      simp [isOw]
    rw [e1, List.append_nil]
    refine congrArg List.flatten (List.map_congr_left fun i hi => ?_)
    rw [List.getElem?_append_left (List.mem_range.mp hi)]
end
/-! ### a, b = e, f -/
def sPar2 (i j : Nat) (m n : Bool) (f g : SE) : SS := fun ρ => step (f (hid ρ)) ρ fun d => step (g (hid ρ)) ρ fun e => .nx ((ρ.set i (cM m d)).set j (cM n e))
def sPar3 (i j l : Nat) (m n o : Bool) (f g h : SE) : SS := fun ρ => step (f (hid ρ)) ρ fun d => step (g (hid ρ)) ρ fun e => step (h (hid ρ)) ρ fun a => .nx (((ρ.set i (cM m d)).set j (cM n e)).set l (cM o a))
theorem get_set2 {α : Type} {ρ : List α} {i k : Nat} {c x : α} (h : (ρ.set i c)[k]? = some x) : (k = i ∧ x = c ∧ i < ρ.length) ∨ (k ≠ i ∧ ρ[k]? = some x) := by
  by_cases hk : i = k
  · subst hk
    by_cases hl : i < ρ.length
    · rw [List.getElem?_set_self hl] at h
      exact .inl ⟨rfl, (Option.some.inj h).symm, hl⟩
    · rw [List.getElem?_eq_none (by rw [List.length_set]; omega)] at h; cases h
  · rw [List.getElem?_set_ne hk] at h; exact .inr ⟨Ne.symm hk, h⟩
section
variable {X : Cx} {W : WX}
theorem AsF.place1 {K : PySem.W.Frag} {H0 H : Hp} {ρ : List Cl} {σ : St} {fp : Nat → List Addr} {c : Cl} {v : Option V} {more : List Cl} {mo : St} (A : AsF K H0 (ρ ++ (c :: more)) (σ ++ (v :: mo)) H fp) (hl : ρ.length = σ.length) (i : Nat) : ∃ fp', AsF K H0 (ρ.set i c ++ more) (σ.set i v ++ mo) H fp' := by
  have hm : more.length = mo.length := by have := A.len; simp at this; omega
  let φ : Nat → Nat := fun k => if k = i ∧ i < ρ.length then ρ.length else if k < ρ.length then k else k + 1
  have key : ∀ (k : Nat) (x : Cl), (ρ.set i c ++ more)[k]? = some x → (ρ ++ (c :: more))[φ k]? = some x ∧ (σ.set i v ++ mo)[k]? = (σ ++ (v :: mo))[φ k]? := fun k x h => by
    by_cases h1 : k = i ∧ i < ρ.length
    · obtain ⟨rfl, h1⟩ := h1
      have e : φ k = ρ.length := if_pos ⟨rfl, h1⟩
      rw [e]
      rw [List.getElem?_append_left (by rw [List.length_set]; exact h1), List.getElem?_set_self h1] at h
      refine ⟨?_, ?_⟩
      · rw [List.getElem?_append_right (Nat.le_refl _)]
        simpa using h
      · rw [List.getElem?_append_left (by rw [List.length_set, ← hl]; exact h1), List.getElem?_set_self (by rw [← hl]; exact h1), hl, List.getElem?_append_right (Nat.le_refl _)]
        simp
    · by_cases h2 : k < ρ.length
      · have hki : i ≠ k := fun q => h1 ⟨q.symm, by omega⟩
        have e : φ k = k := by show (if _ then _ else _) = k; rw [if_neg h1, if_pos h2]
        rw [e]
        rw [List.getElem?_append_left (by rw [List.length_set]; exact h2), List.getElem?_set_ne hki] at h
        refine ⟨by rw [List.getElem?_append_left h2]; exact h, ?_⟩
        rw [List.getElem?_append_left (by rw [List.length_set, ← hl]; exact h2), List.getElem?_set_ne hki, List.getElem?_append_left (by omega)]
      · have e : φ k = k + 1 := by show (if _ then _ else _) = k + 1; rw [if_neg h1, if_neg h2]
        rw [e]
        rw [List.getElem?_append_right (by rw [List.length_set]; omega), List.length_set] at h
        have e1 : k + 1 - ρ.length = (k - ρ.length) + 1 := by omega
        have e2 : k + 1 - σ.length = (k - σ.length) + 1 := by omega
        refine ⟨?_, ?_⟩
        · rw [List.getElem?_append_right (by omega), e1, List.getElem?_cons_succ]
          exact h
        · rw [List.getElem?_append_right (by rw [List.length_set]; omega), List.length_set, List.getElem?_append_right (by omega), e2, List.getElem?_cons_succ]
  refine ⟨_, A.reslot φ (by simp [hl, hm]) (fun k d h => key k _ h) (fun k d h => key k _ h) fun j k d e h1 h2 h3 h4 => ?_⟩
  have hj := (List.getElem?_eq_some_iff.mp h1).1
  have hk := (List.getElem?_eq_some_iff.mp h2).1
  have h4 : (if j = i ∧ i < ρ.length then ρ.length else if j < ρ.length then j else j + 1) = (if k = i ∧ i < ρ.length then ρ.length else if k < ρ.length then k else k + 1) := h4
  split at h4 <;> split at h4 <;> (try split at h4) <;> (try split at h4) <;> omega
theorem ls_par2 {i j : Nat} {m n : Bool} {x y : Str} {a b : Expr} {f g : SE} {px py pt pos : Pos} {kt k2 pt2} (hc : X.calm = true) (hN : X.N.Nodup) (hi : X.N[i]? = some x) (hj : X.N[j]? = some y) (hij : i ≠ j)
    (hx : X.env.scope.names.lookup x = some .local) (hy : X.env.scope.names.lookup y = some .local) (ha : PE X a (tM X.K W m f)) (hb : PE X b (tM X.K W n g))
    (hw : swappedStores [.Tuple [.Name x px, .Name y py] kt pt] (.Tuple [a, b] k2 pt2) X.env = pure (some [x, y]))
    (hs : swapsWithSole [.Tuple [.Name x px, .Name y py] kt pt] (.Tuple [a, b] k2 pt2) pos.line X.env = pure false := by rfl)
    (h1 : starEach [a, b] X.env = (false, eval a X.env) :: starEach [b] X.env := by rfl) (h2 : starEach [b] X.env = (false, eval b X.env) :: starEach [] X.env := by rfl) :
    PS X (.Assign [.Tuple [.Name x px, .Name y py] kt pt] (.Tuple [a, b] k2 pt2) pos) (tS X.K W (sPar2 i j m n f g)) :=
  (ps_par hc hN hi hj hij hx hy (pa_cons ha.frame (pa_cons hb.frame pa_nil h2) h1) hw hs).imp fun D σ H ⟨H0, ρ, ⟨fp, A⟩, l⟩ => by
    have hl := A.len
    show fr (tM X.K W m f) σ H (fun x H1 => fr (tM X.K W n g) σ H1 (fun y H2 => ∃ v w, [x, y] = [v, w] ∧ D.nx ((σ.set i (some v)).set j (some w)) H2))
    refine run_ext (more := []) (mo := []) (by simpa using A) hl l fun d v H1 fp1 _ A1 l1 => ?_
    refine run_ext (more := [cM m d]) (mo := [some v]) A1 hl l1 fun e u H2 fp2 _ A2 l2 => ?_
    refine ⟨v, u, rfl, ?_⟩
    obtain ⟨fp3, A3⟩ := A2.place1 hl i
    obtain ⟨fp4, A4⟩ := AsF.place1 (more := []) (mo := []) A3 (by simp [hl]) j
    exact l2 _ _ ⟨fp4, by simpa using A4⟩
end
/-! ### new lists -/
section
variable {K : PySem.W.Frag} {W : WX}
theorem tF_intro {f : SE} {σ : St} {H : Hp} {Q : VK} {ρ : Ev} {d : D} (e : f ρ = .ok d) (w : match f ρ with
  | .ok d => ∀ p H', H p = none → Same H (wo p H') → rdo K (wo p H') H' [p] d (.ref p) → Q (.ref p) H'
  | .ex x => ∀ c oa H', Same H H' → rdx K H' x c oa → W c oa σ H'
  | .no => False) : ∀ p H', H p = none → Same H (wo p H') → rdo K (wo p H') H' [p] d (.ref p) → Q (.ref p) H' := by
  rw [e] at w; exact w
/-- the wish of a fresh thing, as a wish of a value -/
def wF (K : PySem.W.Frag) (H : Hp) (d : D) (Q : VK) : Prop := ∀ p H', H p = none → Same H (wo p H') → rdo K (wo p H') H' [p] d (.ref p) → Q (.ref p) H'
theorem wF.mono {H H1 : Hp} {d : D} {Q : VK} (s : Same H H1) (w : wF K H d Q) : wF K H1 d Q := fun p H' hp s' r => w p H' (s.free hp) (s.trans s') r
theorem wF.lst {H : Hp} {ds : List D} {vs : List V} {Q : VK} (w : wF K H (.lst ds) Q) (r : rds K H ds vs) : ∀ p, H p = none → Q (.ref p) (upd H p (.lst vs)) := fun p hp => by
  have s : Same H (wo p (upd H p (.lst vs))) := wo_le (same_new hp) hp
  exact w p _ hp s ⟨p, vs, rfl, rfl, upd_same, rds_mono s _ _ r⟩
theorem wF.dct0 {H : Hp} {Q : VK} (w : wF K H (.dct []) Q) : ∀ p, H p = none → Q (.ref p) (upd H p (.dK [])) := fun p hp => by
  have s : Same H (wo p (upd H p (.dK []))) := wo_le (same_new hp) hp
  exact w p _ hp s ⟨p, [], rfl, rfl, upd_same, by unfold rdk; rfl⟩
/-- tF by steps: r the parts that are evaluated ahead, g what is made of them -/
theorem tF_bind {α β : Type} {rel : Hp → α → β → Prop} {r : Ev → R α} {g : α → R D} {N : β → Hp → Prop} {σ : St} {H : Hp} {Q : VK} (w : tF K W (fun ρ => (r ρ).bind g) σ H Q)
    (k : ∀ a v H', Same H H' → rel H' a v → (match g a with
      | .ok d => wF K H' d Q
      | .ex x => ∀ c oa H2, Same H' H2 → rdx K H2 x c oa → W c oa σ H2
      | .no => False) → N v H') : tG K rel W r σ H N := by
  obtain ⟨ρ, z, w⟩ := w
  refine ⟨ρ, z, ?_⟩
  cases e : r ρ with
  | ok a =>
    intro v H' s q
    refine k a v H' s q ?_
    have w' : match g a with
      | .ok d => ∀ p H', H p = none → Same H (wo p H') → rdo K (wo p H') H' [p] d (.ref p) → Q (.ref p) H'
      | .ex x => ∀ c oa H', Same H H' → rdx K H' x c oa → W c oa σ H'
      | .no => False := by
      have e2 : (r ρ).bind g = g a := by rw [e]; rfl
      simp only [e2] at w
      exact w
    cases e3 : g a with
    | ok d => rw [e3] at w'; exact wF.mono s w'
    | ex x => rw [e3] at w'; exact fun c oa H2 s2 q2 => w' c oa H2 (s.trans s2) q2
    | no => rw [e3] at w'; exact w'
  | ex x =>
    have e2 : (r ρ).bind g = .ex x := by rw [e]; rfl
    simp only [e2] at w
    exact w
  | no =>
    have e2 : (r ρ).bind g = .no := by rw [e]; rfl
    simp only [e2] at w
variable {X : Cx} {e a b : Expr} {es : List Expr} {pos : Pos} {f g : SE}
theorem lf_lst {g : SA} (h : PA X es (tA X.K W g)) : PE X (.List es pos) (tF X.K W (eLst g)) := (pe_lst h).imp fun σ H Q w => tF_bind (rel := rds X.K) w fun ds vs H1 s1 r1 w1 => by
  by_cases hz : sz ds.length = true
  · rw [if_pos hz] at w1
    exact ⟨by rw [rds_length r1]; exact of_decide_eq_true hz, w1.lst r1⟩
  · rw [if_neg hz] at w1
    exact w1.elim
theorem lf_dnew : PE X (.Dict [] [] pos) (tF X.K W (eC (.dct []))) := pe_dnewK.imp fun σ H Q ⟨ρ, z, w⟩ => wF.dct0 (K := X.K) w
theorem lf_list {x : Str} {p : Pos} {h : SA} (hc : X.calm = true) (hg : Gl X x) (hm : X.mg x = none) (hv : bootBuiltins x = some (.type "list")) (ha : PA X (e :: es) (tA X.K W h)) (hn : x ≠ "__name__" := by decide) (hdb : (x == ("__debug__" : Str)) = false := by decide)
    (he : starEach (e :: es) X.env = (false, eval e X.env) :: starEach es X.env := by rfl) (hpl : (backTo pos (starEach es X.env)).any (·.1) = false := by rfl) : PE X (.Call (.Name x p) (e :: es) [] pos) (tF X.K W (eB dList h)) :=
  (pe_callTy (call_listAll hc) hg hm hv ha hn hdb he hpl).imp fun σ H Q w => tF_bind (rel := rds X.K) w fun ds vs H1 s1 r w1 => by
    cases hz : dList ds with
    | no => rw [hz] at w1; exact w1.elim
    | ex x => rw [hz] at w1; exact w1.elim
    | ok z =>
      rw [hz] at w1
      have w1 : wF X.K H1 z Q := w1
      unfold dList at hz
      split at hz
      · cases hz
        obtain ⟨v, rfl, q⟩ := rds_1 r
        unfold rd at q
        obtain ⟨a, us, rfl, q, r⟩ := q
        exact .inl ⟨a, us, rfl, .inl (SqL.of q), w1.lst r⟩
      · cases hz
        obtain ⟨v, rfl, q⟩ := rds_1 r
        unfold rd at q
        obtain ⟨a, us, rfl, q, r⟩ := q
        exact .inl ⟨a, us, rfl, .inr (SqT.of q), w1.lst r⟩
      · cases hz
        obtain ⟨v, rfl, q⟩ := rds_1 r
        unfold rd at q
        obtain ⟨a, rfl, q⟩ := q
        exact .inl ⟨a, _, rfl, .inl q, w1.lst ints_rds⟩
      · cases hz
        obtain ⟨v, rfl, q⟩ := rds_1 r
        unfold rd at q
        obtain ⟨a, us, rfl, q, r⟩ := q
        exact .inr ⟨a, us, rfl, q, w1.lst (rdk_keys r)⟩
      · cases hz
/-- list + list -/
def dCat : D → D → R D
  | .lst xs, .lst ys => if sz (xs.length + ys.length) = true then .ok (.lst (xs ++ ys)) else .no
  | _, _ => .no
theorem op2F {r : R2} {dd : D → D → R D} (hl : ∀ d e zz x y H Q, dd d e = .ok zz → rd K H d x → rd K H e y → wF K H zz Q → r x y H Q) : ∀ σ H Q, tF K W (e2 dd f g) σ H Q → tOp r (tD K W f) (tD K W g) σ H Q := fun σ H Q ⟨ρ, z, w⟩ => by
  refine ⟨ρ, z, ?_⟩
  unfold e2 at w
  cases ed : f ρ with
  | no => rw [ed] at w; exact w
  | ex x => rw [ed] at w; exact w
  | ok d =>
    rw [ed] at w
    intro x H1 s1 r1
    refine ⟨ρ, z.mono s1, ?_⟩
    cases ee : g ρ with
    | no => rw [ee] at w; exact w.elim
    | ex x => rw [ee] at w; exact fun c oa H2 s2 q2 => w c oa H2 (s1.trans s2) q2
    | ok e =>
      rw [ee] at w
      intro y H2 s2 r2
      cases ez : dd d e with
      | no => simp only [R.bind, ez, R.nox] at w
      | ex x => simp only [R.bind, ez, R.nox] at w
      | ok zz =>
        simp only [R.bind, ez, R.nox] at w
        exact hl d e zz x y H2 Q ez (rd_mono s2 _ _ r1) r2 (wF.mono (s1.trans s2) w)
theorem lf_cat (ha : PE X a (tD X.K W f)) (hb : PE X b (tD X.K W g)) : PE X (.BinOp a .Add b pos) (tF X.K W (e2 dCat f g)) := (pe_op op_cat ha hb).imp (op2F fun d e zz x y H Q hz r1 r2 w => by
  unfold dCat at hz
  split at hz
  · split at hz
    · rename_i c
      cases hz
      unfold rd at r1 r2
      obtain ⟨a, vs, rfl, q1, z1⟩ := r1
      obtain ⟨b, ws, rfl, q2, z2⟩ := r2
      exact ⟨a, b, vs, ws, rfl, rfl, q1, q2, by rw [rds_length z1, rds_length z2]; exact of_decide_eq_true c, w.lst (rds_append z1 z2)⟩
    · cases hz
  · cases hz)
/-! ### new lists by comprehensions -/
theorem lc_liftF {own : List Nat} {t : Tg} {fi : SA} {ft : ST} {fe : SE} (hs : ∀ i ∈ t.slots, i ∈ own) : ∀ σ H Q, tF K W (eComp own t fi ft fe) σ H Q → tLc (tI K W fi) (tTg K t) (tT K W0 ft) (fr (tD K W0 fe)) own σ H Q := fun σ H Q ⟨ρ, z, w⟩ => by
  have wx : ∀ ds, fi ρ = .ok ds → ∃ es, compD (compS t ft fe (wipeD ρ own)) ds = .ok es ∧ sz es.length = true ∧ wF K H (.lst es) Q := fun ds e => by
    unfold eComp at w
    rw [e] at w
    cases ec : compD (compS t ft fe (wipeD ρ own)) ds with
    | no => simp only [R.bind, ec, R.nox] at w
    | ex x => simp only [R.bind, ec, R.nox] at w
    | ok es =>
      simp only [R.bind, ec, R.nox] at w
      by_cases hz : sz es.length = true
      · rw [if_pos hz] at w; exact ⟨es, rfl, hz, w⟩
      · rw [if_neg hz] at w; exact w.elim
  refine lc_gen hs z ?_ fun ds e => let ⟨es, h, _⟩ := wx ds e; ⟨es, h⟩
  cases e : fi ρ with
  | ok ds =>
    intro es H1 s1 hes
    obtain ⟨es', h, hz, wf⟩ := wx ds e
    rw [h] at hes; cases hes
    refine ⟨hz, fun p H' acc hp hp' sm ra => wf p H' (s1.free hp) (s1.trans sm) ⟨p, acc, rfl, rfl, hp', ra⟩⟩
  | ex x => unfold eComp at w; rw [e] at w; exact w
  | no => unfold eComp at w; rw [e] at w; exact w
theorem dc_liftF {own : List Nat} {t : Tg} {fi : SA} {ft : ST} {fk fv : SE} (hs : ∀ i ∈ t.slots, i ∈ own) : ∀ σ H Q, tF K W (eDc own t fi ft fk fv) σ H Q → tDc (tI K W fi) (tTg K t) (tT K W0 ft) (fr (tD K W0 fk)) (fr (tD K W0 fv)) own σ H Q := fun σ H Q ⟨ρ, z, w⟩ => by
  have wx : ∀ ds, fi ρ = .ok ds → ∃ es, compD (dcS t ft fk fv (wipeD ρ own)) ds = .ok es ∧ es.length < sizeLine ∧ wF K H (.dct (foldPut [] es)) Q := fun ds e => by
    unfold eDc at w
    rw [e] at w
    cases ec : compD (dcS t ft fk fv (wipeD ρ own)) ds with
    | no => simp only [R.bind, ec, R.nox] at w
    | ex x => simp only [R.bind, ec, R.nox] at w
    | ok es =>
      simp only [R.bind, ec, R.nox] at w
      by_cases hz : decide (es.length < sizeLine) = true
      · rw [if_pos hz] at w; exact ⟨es, rfl, of_decide_eq_true hz, w⟩
      · rw [if_neg hz] at w; exact w.elim
  refine dc_gen hs z ?_ fun ds e => let ⟨es, h, _⟩ := wx ds e; ⟨es, h⟩
  cases e : fi ρ with
  | ok ds =>
    intro es H1 s1 hes
    obtain ⟨es', h, hz, wf⟩ := wx ds e
    rw [h] at hes; cases hes
    refine ⟨hz, fun p H' acc hp hp' sm ra => wf p H' (s1.free hp) (s1.trans sm) ⟨p, acc, rfl, rfl, hp', ra⟩⟩
  | ex x => unfold eDc at w; rw [e] at w; exact w
  | no => unfold eDc at w; rw [e] at w; exact w
section
variable {elt kx vx tg iter : Expr} {ifs : List Expr} {scope : Scope} {own : List (Str × Nat)} {t : Tg} {fi : SA} {ft : ST} {fe fk fv : SE}
theorem in_own (hsl : (t.slots.all fun i => (own.map (·.2)).contains i) = true) : ∀ i ∈ t.slots, i ∈ own.map (·.2) := fun i hi => by
  have := List.all_eq_true.mp hsl i hi
  simpa using this
theorem lf_lc (hc : X.calm = true) (hN : X.N.Nodup) (hi : PI X tg iter (tI X.K W fi)) (ok : BlkOk X.N X.env.scope scope own)
    (hg : ∀ (s : Shared) (H : Hp) (C : Addr) (cl : List (Str × Addr)) (fp : List Addr), PG (X.blk s H scope (compEnvC scope cl C X.env) fp) tg (tTg X.K t)) (ht : ∀ (s : Shared) (H : Hp) (C : Addr) (cl : List (Str × Addr)) (fp : List Addr), PTs (X.blk s H scope (compEnvC scope cl C X.env) fp) ifs (tT X.K W0 ft))
    (he : ∀ (s : Shared) (H : Hp) (C : Addr) (cl : List (Str × Addr)) (fp : List Addr), PE (X.blk s H scope (compEnvC scope cl C X.env) fp) elt (tD X.K W0 fe)) (hsl : (t.slots.all fun i => (own.map (·.2)).contains i) = true := by rfl) (hs : ∀ x, foldedSetIterable iter X.env x = pure x := by intro _; rfl) :
    PE X (.ListComp elt [⟨tg, iter, ifs, 0⟩] scope pos) (tF X.K W (eComp (own.map (·.2)) t fi ft fe)) :=
  (pe_lc hc hN hi ok hg ht (fun s H C cl fp => (he s H C cl fp).frame) hs).imp (lc_liftF (in_own hsl))
theorem lf_dc (hc : X.calm = true) (hN : X.N.Nodup) (hi : PI X tg iter (tI X.K W fi)) (ok : BlkOk X.N X.env.scope scope own)
    (hg : ∀ (s : Shared) (H : Hp) (C : Addr) (cl : List (Str × Addr)) (fp : List Addr), PG (X.blk s H scope (compEnvC scope cl C X.env) fp) tg (tTg X.K t)) (ht : ∀ (s : Shared) (H : Hp) (C : Addr) (cl : List (Str × Addr)) (fp : List Addr), PTs (X.blk s H scope (compEnvC scope cl C X.env) fp) ifs (tT X.K W0 ft))
    (hk : ∀ (s : Shared) (H : Hp) (C : Addr) (cl : List (Str × Addr)) (fp : List Addr), PE (X.blk s H scope (compEnvC scope cl C X.env) fp) kx (tD X.K W0 fk))
    (he : ∀ (s : Shared) (H : Hp) (C : Addr) (cl : List (Str × Addr)) (fp : List Addr), PE (X.blk s H scope (compEnvC scope cl C X.env) fp) vx (tD X.K W0 fv)) (hsl : (t.slots.all fun i => (own.map (·.2)).contains i) = true := by rfl) (hs : ∀ x, foldedSetIterable iter X.env x = pure x := by intro _; rfl) :
    PE X (.DictComp kx vx [⟨tg, iter, ifs, 0⟩] scope pos) (tF X.K W (eDc (own.map (·.2)) t fi ft fk fv)) :=
  (pe_dc hc hN hi ok hg ht (fun s H C cl fp => (hk s H C cl fp).frame) (fun s H C cl fp => (he s H C cl fp).frame) hs).imp (dc_liftF (in_own hsl))
/-- name = [..], the name a local -/
theorem ls_setLc {i : Nat} {y : Str} {py spos : Pos} (hc : X.calm = true) (hN : X.N.Nodup) (hy : X.N[i]? = some y) (hyl : X.env.scope.names.lookup y = some .local)
    (hsw : swapsWith (.ListComp elt [⟨tg, iter, ifs, 0⟩] scope pos) (some (.Name y py)) spos.line X.env = pure true) (hi : PI X tg iter (tI X.K W fi)) (ok : BlkOk X.N X.env.scope scope own)
    (hg : ∀ (s : Shared) (H : Hp) (C : Addr) (cl : List (Str × Addr)) (fp : List Addr), PG (X.blk s H scope (compEnvC scope cl C X.env) fp) tg (tTg X.K t)) (ht : ∀ (s : Shared) (H : Hp) (C : Addr) (cl : List (Str × Addr)) (fp : List Addr), PTs (X.blk s H scope (compEnvC scope cl C X.env) fp) ifs (tT X.K W0 ft))
    (he : ∀ (s : Shared) (H : Hp) (C : Addr) (cl : List (Str × Addr)) (fp : List Addr), PE (X.blk s H scope (compEnvC scope cl C X.env) fp) elt (tD X.K W0 fe)) (hsl : (t.slots.all fun i => (own.map (·.2)).contains i) = true := by rfl) (hs : ∀ x, foldedSetIterable iter X.env x = pure x := by intro _; rfl) :
    PS X (.Assign [.Name y py] (.ListComp elt [⟨tg, iter, ifs, 0⟩] scope pos) spos) (tS X.K W (sSet i (eComp (own.map (·.2)) t fi ft fe))) :=
  (ps_setLc hc hN hy hyl hsw hi ok hg ht (fun s H C cl fp => (he s H C cl fp).frame) hs).frame.imp fun D σ H w => by
    obtain ⟨L, F, hd, q⟩ := asg_core w
    exact ⟨L, F, hd, lc_lift (in_own hsl) σ F _ q⟩
theorem ls_setLcF {i : Nat} {y : Str} {py spos : Pos} (hc : X.calm = true) (hN : X.N.Nodup) (hy : X.N[i]? = some y) (hyl : X.env.scope.names.lookup y = some .local)
    (hsw : swapsWith (.ListComp elt [⟨tg, iter, ifs, 0⟩] scope pos) (some (.Name y py)) spos.line X.env = pure true) (hi : PI X tg iter (tI X.K W fi)) (ok : BlkOk X.N X.env.scope scope own)
    (hg : ∀ (s : Shared) (H : Hp) (C : Addr) (cl : List (Str × Addr)) (fp : List Addr), PG (X.blk s H scope (compEnvC scope cl C X.env) fp) tg (tTg X.K t)) (ht : ∀ (s : Shared) (H : Hp) (C : Addr) (cl : List (Str × Addr)) (fp : List Addr), PTs (X.blk s H scope (compEnvC scope cl C X.env) fp) ifs (tT X.K W0 ft))
    (he : ∀ (s : Shared) (H : Hp) (C : Addr) (cl : List (Str × Addr)) (fp : List Addr), PE (X.blk s H scope (compEnvC scope cl C X.env) fp) elt (tD X.K W0 fe)) (hsl : (t.slots.all fun i => (own.map (·.2)).contains i) = true := by rfl) (hs : ∀ x, foldedSetIterable iter X.env x = pure x := by intro _; rfl) :
    PS X (.Assign [.Name y py] (.ListComp elt [⟨tg, iter, ifs, 0⟩] scope pos) spos) (tS X.K W (sSetF i (eComp (own.map (·.2)) t fi ft fe))) :=
  (ps_setLc hc hN hy hyl hsw hi ok hg ht (fun s H C cl fp => (he s H C cl fp).frame) hs).frame.imp fun D σ H w => by
    obtain ⟨L, F, hd, q⟩ := setF_core w
    exact ⟨L, F, hd, lc_liftF (in_own hsl) σ F _ q⟩
end
/-! ### what is owned is changed -/
/-- the owned list of a slot -/
theorem AsF.list {H0 H : Hp} {ρ : List Cl} {σ : St} {fp : Nat → List Addr} {i : Nat} {ds : List D} (A : AsF K H0 ρ σ H fp) (h : ρ[i]? = some (.ow (.lst ds))) : ∃ p vs, σ[i]? = some (some (.ref p)) ∧ fp i = [p] ∧ H p = some (.lst vs) ∧ rds K (un (ol ρ fp) H) ds vs ∧ p ∈ ol ρ fp := by
  obtain ⟨v, h1, p, vs, rfl, h3, h4, h5⟩ := A.ows i _ h
  exact ⟨p, vs, h1, h3, h4, h5, mem_ol.mpr ⟨i, _, h, by rw [h3]; simp⟩⟩
theorem AsF.dict {H0 H : Hp} {ρ : List Cl} {σ : St} {fp : Nat → List Addr} {i : Nat} {ds : List (Key × D)} (A : AsF K H0 ρ σ H fp) (h : ρ[i]? = some (.ow (.dct ds))) : ∃ p vs, σ[i]? = some (some (.ref p)) ∧ fp i = [p] ∧ H p = some (.dK vs) ∧ rdk K (un (ol ρ fp) H) ds vs ∧ p ∈ ol ρ fp := by
  obtain ⟨v, h1, p, vs, rfl, h3, h4, h5⟩ := A.ows i _ h
  exact ⟨p, vs, h1, h3, h4, h5, mem_ol.mpr ⟨i, _, h, by rw [h3]; simp⟩⟩
def owL (ρ : List Cl) (i : Nat) : Option (List D) := match ρ[i]? with
  | some (.ow (.lst ds)) => some ds
  | _ => none
def owD (ρ : List Cl) (i : Nat) : Option (List (Key × D)) := match ρ[i]? with
  | some (.ow (.dct ds)) => some ds
  | _ => none
theorem owL_ok {ρ : List Cl} {i : Nat} {ds : List D} (h : owL ρ i = some ds) : ρ[i]? = some (.ow (.lst ds)) := by
  unfold owL at h; split at h
  · cases h; assumption
  · cases h
theorem owD_ok {ρ : List Cl} {i : Nat} {ds : List (Key × D)} (h : owD ρ i = some ds) : ρ[i]? = some (.ow (.dct ds)) := by
  unfold owD at h; split at h
  · cases h; assumption
  · cases h
def sApp (i : Nat) (f : SE) : SS := fun ρ => match owL ρ i with
  | some ds => step (f (hid ρ)) ρ fun d => if decide (ds.length < sizeLine) = true then .nx (ρ.set i (.ow (.lst (ds ++ [d])))) else .no
  | none => .no
def sExt (i : Nat) (f : SE) : SS := fun ρ => match owL ρ i with
  | some ds => step (f (hid ρ)) ρ fun d => match d with
    | .lst es => if sz (ds.length + es.length) = true then .nx (ρ.set i (.ow (.lst (ds ++ es)))) else .no
    | _ => .no
  | none => .no
variable {o : Expr} {apos cpos : Pos} {i : Nat} {te : TE}
theorem app_core {K : PySem.W.Frag} : ∀ D σ H, tS K W (sApp i f) D σ H → tDrop (tBM K "list" rAppend (tVar i) (tCons (fr (tD K W f)) tNil)) D σ H := fun D σ H ⟨H0, ρ, ⟨fp, A⟩, l⟩ => by
  unfold sApp at l
  cases q : owL ρ i with
  | none => rw [q] at l; exact l.elim
  | some ds =>
    rw [q] at l
    have hi := owL_ok q
    obtain ⟨p, vs, h1, h2, h3, h4, h5⟩ := A.list hi
    refine ⟨_, h1, .inl ⟨rfl, vs, SqL.of h3⟩, run_hid (rel := rd K) A l fun d v F' _ s n r l' => ?_⟩
    by_cases c : decide (ds.length < sizeLine) = true
    · rw [if_pos c] at l'
      have m : mix (ol ρ fp) H F' p = some (.lst vs) := by unfold mix; rw [if_pos h5]; exact h3
      refine ⟨p, vs, v, rfl, rfl, m, by rw [rds_length h4]; exact of_decide_eq_true c, l' _ _ ⟨fp, (A.mixed s n).chg hi h2 h1 ?_⟩⟩
      refine ⟨p, _, rfl, rfl, upd_same, ?_⟩
      rw [un_mix n]
      exact rds_append (rds_mono s _ _ h4) (rds_one r)
    · rw [if_neg c] at l'; exact l'.elim
theorem ext_core {K : PySem.W.Frag} : ∀ D σ H, tS K W (sExt i f) D σ H → tDrop (tBM K "list" rExtend (tVar i) (tCons (fr (tD K W f)) tNil)) D σ H := fun D σ H ⟨H0, ρ, ⟨fp, A⟩, l⟩ => by
  unfold sExt at l
  cases q : owL ρ i with
  | none => rw [q] at l; exact l.elim
  | some ds =>
    rw [q] at l
    have hi := owL_ok q
    obtain ⟨p, vs, h1, h2, h3, h4, h5⟩ := A.list hi
    refine ⟨_, h1, .inl ⟨rfl, vs, SqL.of h3⟩, run_hid (rel := rd K) A l fun d v F' _ s n r l' => ?_⟩
    cases d with
    | lst es =>
      have l' : Lead K W H0 D (if sz (ds.length + es.length) = true then .nx (ρ.set i (.ow (.lst (ds ++ es)))) else .no) := l'
      by_cases c : sz (ds.length + es.length) = true
      · rw [if_pos c] at l'
        have m : mix (ol ρ fp) H F' p = some (.lst vs) := by unfold mix; rw [if_pos h5]; exact h3
        unfold rd at r
        obtain ⟨b, ws, rfl, hb, rb⟩ := r
        have m2 : mix (ol ρ fp) H F' b = some (.lst ws) := by
          unfold mix
          rw [if_neg fun hb' => by rw [n b hb'] at hb; cases hb]
          exact hb
        refine ⟨p, b, vs, ws, rfl, rfl, m, m2, by rw [rds_length h4, rds_length rb]; exact of_decide_eq_true c, l' _ _ ⟨fp, (A.mixed s n).chg hi h2 h1 ?_⟩⟩
        refine ⟨p, _, rfl, rfl, upd_same, ?_⟩
        rw [un_mix n]
        exact rds_append (rds_mono s _ _ h4) rb
      · rw [if_neg c] at l'; exact l'.elim
    | _ => exact l'.elim
theorem ls_app (ho : PE X o (tVar i)) (he : PE X e (tD X.K W f)) (hbase : attributeBase o "append" X.env (eval o X.env) = eval o X.env := by rfl)
    (hfew : ((backTo cpos (starEach [e] X.env)).all (fun x => !x.1) && (backToKw cpos (keywordEach [] X.env)).all (fun x => x.1.isSome)
      && decide (([e] : List Expr).length + ([] : List Keyword).length + (if ([] : List Keyword).isEmpty then 0 else 1) < 30)) = true := by rfl)
    (hline : (apos.endLine == cpos.line) = true := by rfl) (h1 : starEach [e] X.env = (false, eval e X.env) :: starEach [] X.env := by rfl) (hsw : swapsWith (.Call (.Attribute o "append" apos) [e] [] cpos) none pos.line X.env = pure false := by rfl) :
    PS X (.Expr (.Call (.Attribute o "append" apos) [e] [] cpos) pos) (tS X.K W (sApp i f)) :=
  (ps_expr (pe_bm PySem.F.plainAttrs_list PySem.F.slot_list_append PySem.F.type_list_append mt_append ho (pa_cons he.frame pa_nil h1) hbase hfew hline h1 rfl) hsw).imp app_core
theorem ls_ext (ho : PE X o (tVar i)) (he : PE X e (tD X.K W f)) (hbase : attributeBase o "extend" X.env (eval o X.env) = eval o X.env := by rfl)
    (hfew : ((backTo cpos (starEach [e] X.env)).all (fun x => !x.1) && (backToKw cpos (keywordEach [] X.env)).all (fun x => x.1.isSome)
      && decide (([e] : List Expr).length + ([] : List Keyword).length + (if ([] : List Keyword).isEmpty then 0 else 1) < 30)) = true := by rfl)
    (hline : (apos.endLine == cpos.line) = true := by rfl) (h1 : starEach [e] X.env = (false, eval e X.env) :: starEach [] X.env := by rfl) (hsw : swapsWith (.Call (.Attribute o "extend" apos) [e] [] cpos) none pos.line X.env = pure false := by rfl) :
    PS X (.Expr (.Call (.Attribute o "extend" apos) [e] [] cpos) pos) (tS X.K W (sExt i f)) :=
  (ps_expr (pe_bm PySem.F.plainAttrs_list PySem.F.slot_list_extend PySem.F.type_list_extend mt_extend ho (pa_cons he.frame pa_nil h1) hbase hfew hline h1 rfl) hsw).imp ext_core
/-! ### pop -/
def sPop (i : Nat) (t : Tg) : SS := fun ρ => match owL ρ i with
  | some ds => match ds[ds.length - 1]? with
    | some d => match bindT t d with
      | some bs => .nx (setsC (ρ.set i (.ow (.lst ds.dropLast))) bs)
      | none => .no
    | none => .no
  | none => .no
def sPopAt (i : Nat) (t : Tg) (f : SE) : SS := fun ρ => match owL ρ i with
  | some ds => step (f (frz ρ)) ρ fun k => match k with
    | .int k => if (decide (-(2 ^ 63) ≤ k) && decide (k < 2 ^ 63)) = true then match seqIndex? k ds.length with
      | some j => match ds[j]? with
        | some d => match bindT t d with
          | some bs => .nx (setsC (ρ.set i (.ow (.lst (ds.eraseIdx j)))) bs)
          | none => .no
        | none => .no
      | none => .no
      else .no
    | _ => .no
  | none => .no
theorem rds_dropLast {K : PySem.W.Frag} {H : Hp} {ds : List D} {vs : List V} (r : rds K H ds vs) : rds K H ds.dropLast vs.dropLast := by
  rw [List.dropLast_eq_take, List.dropLast_eq_take, rds_length r]
  exact rds_take _ r
theorem rds_erase {K : PySem.W.Frag} {H : Hp} {ds : List D} {vs : List V} (r : rds K H ds vs) (j : Nat) : rds K H (ds.eraseIdx j) (vs.eraseIdx j) := by
  rw [List.eraseIdx_eq_take_drop_succ, List.eraseIdx_eq_take_drop_succ]
  exact rds_append (rds_take _ r) (rds_drop _ r)
theorem pop_end {K : PySem.W.Frag} {H0 H : Hp} {ρ : List Cl} {σ : St} {fp : Nat → List Addr} {D : Ends} {t : Tg} {ds ds' : List Tw.D} {d : Tw.D} {bs : List (Nat × Tw.D)} {p : Addr} {vs' : List V} {y : V} (A : AsF K H0 ρ σ H fp) (hi : ρ[i]? = some (.ow (.lst ds))) (h1 : σ[i]? = some (some (.ref p))) (h2 : fp i = [p])
    (hb : bindT t d = some bs) (ry : rd K (un (ol ρ fp) H) d y) (r' : rds K (un (ol ρ fp) H) ds' vs') (hp : p ∈ ol ρ fp) (l : Lead K W H0 D (.nx (setsC (ρ.set i (.ow (.lst ds'))) bs))) : tTg K t y σ (upd H p (.lst vs')) D.nx := by
  have A2 := A.chg (d' := .lst ds') (o := .lst vs') hi h2 h1 ⟨p, _, rfl, rfl, upd_same, r'⟩
  have eo : un (ol (ρ.set i (.ow (.lst ds'))) fp) (upd H p (.lst vs')) = un (ol ρ fp) H := by
    have hl : i < ρ.length := (List.getElem?_eq_some_iff.mp hi).1
    have e1 : ol (ρ.set i (.ow (.lst ds'))) fp = ol ρ fp := by
      unfold ol
      rw [List.length_set]
      congr 1
      funext j
      by_cases hj : i = j
      · subst hj; rw [List.getElem?_set_self hl, hi]; rfl
      · rw [List.getElem?_set_ne hj]
    rw [e1]
    funext a
    by_cases ha : a ∈ ol ρ fp
    · rw [un_out ha, un_out ha]
    · have : a ≠ p := fun e => ha (e ▸ hp)
      rw [un_in ha, un_in ha, upd_ne this]
  refine ⟨d, un (ol ρ fp) H, bs, ?_, ry, hb, fun us ru => l _ _ ⟨fp, A2.setsFz (by rw [eo]; exact Same.refl _) ru⟩⟩
  rw [← eo]
  exact un_same _ _
theorem ls_pop {tg : Expr} {t : Tg} (ho : PE X o (tVar i)) (hg : PG X tg (tTg X.K t)) (hbase : attributeBase o "pop" X.env (eval o X.env) = eval o X.env := by rfl) (hline : (apos.endLine == cpos.line) = true := by rfl)
    (hs : swapsWithSole [tg] (.Call (.Attribute o "pop" apos) [] [] cpos) pos.line X.env = pure false := by rfl) (hw : swappedStores [tg] (.Call (.Attribute o "pop" apos) [] [] cpos) X.env = pure none := by rfl) (h1 : (assignEach [tg] X.env).map (·.2) = [assign tg X.env] := by rfl) :
    PS X (.Assign [tg] (.Call (.Attribute o "pop" apos) [] [] cpos) pos) (tS X.K W (sPop i t)) :=
  (ps_asg (pe_bm0 PySem.F.plainAttrs_list PySem.F.slot_list_pop PySem.F.type_list_pop mt_pop ho hbase hline) hg hs hw h1).imp fun D σ H ⟨H0, ρ, ⟨fp, A⟩, l⟩ => by
    unfold sPop at l
    cases q : owL ρ i with
    | none => rw [q] at l; exact l.elim
    | some ds =>
      rw [q] at l
      have hi := owL_ok q
      obtain ⟨p, vs, h1, h2, h3, h4, h5⟩ := A.list hi
      cases q1 : ds[ds.length - 1]? with
      | none => simp only [q1] at l; exact l.elim
      | some d =>
        simp only [q1] at l
        cases q2 : bindT t d with
        | none => simp only [q2] at l; exact l.elim
        | some bs =>
          simp only [q2] at l
          obtain ⟨y, hy, ry⟩ := rds_get h4 q1
          refine ⟨_, h1, .inl ⟨rfl, vs, SqL.of h3⟩, p, vs, y, rfl, rfl, h3, by rw [rds_length h4]; exact hy, ?_⟩
          exact pop_end A hi h1 h2 q2 ry (rds_dropLast h4) h5 l
theorem ls_popAt {tg : Expr} {t : Tg} (ho : PE X o (tVar i)) (he : PE X e (tD X.K W f)) (hg : PG X tg (tTg X.K t)) (hbase : attributeBase o "pop" X.env (eval o X.env) = eval o X.env := by rfl)
    (hfew : ((backTo cpos (starEach [e] X.env)).all (fun x => !x.1) && (backToKw cpos (keywordEach [] X.env)).all (fun x => x.1.isSome)
      && decide (([e] : List Expr).length + ([] : List Keyword).length + (if ([] : List Keyword).isEmpty then 0 else 1) < 30)) = true := by rfl) (hline : (apos.endLine == cpos.line) = true := by rfl) (hst : starEach [e] X.env = (false, eval e X.env) :: starEach [] X.env := by rfl)
    (hs : swapsWithSole [tg] (.Call (.Attribute o "pop" apos) [e] [] cpos) pos.line X.env = pure false := by rfl) (hw : swappedStores [tg] (.Call (.Attribute o "pop" apos) [e] [] cpos) X.env = pure none := by rfl) (h1 : (assignEach [tg] X.env).map (·.2) = [assign tg X.env] := by rfl) :
    PS X (.Assign [tg] (.Call (.Attribute o "pop" apos) [e] [] cpos) pos) (tS X.K W (sPopAt i t f)) :=
  (ps_asg (pe_bm PySem.F.plainAttrs_list PySem.F.slot_list_pop PySem.F.type_list_pop mt_popAt ho (pa_cons he pa_nil hst) hbase hfew hline hst rfl) hg hs hw h1).imp fun D σ H ⟨H0, ρ, ⟨fp, A⟩, l⟩ => by
    unfold sPopAt at l
    cases q : owL ρ i with
    | none => rw [q] at l; exact l.elim
    | some ds =>
      rw [q] at l
      have hi := owL_ok q
      obtain ⟨p, vs, h1, h2, h3, h4, h5⟩ := A.list hi
      refine ⟨_, h1, .inl ⟨rfl, vs, SqL.of h3⟩, run_frz (rel := rd X.K) A l fun k u H' _ s r l' => ?_⟩
      have A' := A.grown s
      have h3' : H' p = some (.lst vs) := s _ _ h3
      have h4' : rds X.K (un (ol ρ fp) H') ds vs := rds_mono (un_le ((un_same _ _).trans s) fun a ha => un_out ha) _ _ h4
      split at l'
      · rename_i k
        unfold rd at r
        split at l'
        · rename_i c
          obtain ⟨c1, c2⟩ := Bool.and_eq_true_iff.mp c
          split at l'
          · rename_i j hj
            split at l'
            · rename_i d q1
              split at l'
              · rename_i bs q2
                obtain ⟨y, hy, ry⟩ := rds_get h4' q1
                refine ⟨p, vs, _, j, y, rfl, by rw [r], h3', of_decide_eq_true c1, of_decide_eq_true c2, by rw [rds_length h4]; exact hj, hy, ?_⟩
                exact pop_end A' hi h1 h2 q2 ry (rds_erase h4' j) h5 l'
              · exact l'.elim
            · exact l'.elim
          · exact l'.elim
        · exact l'.elim
      · exact l'.elim
/-! ### d[k] = v, d.pop(k) -/
def sPut (i : Nat) (fk fv : SE) : SS := fun ρ => match owD ρ i with
  | some kvs => step (fv (hid ρ)) ρ fun v => step (fk (frz ρ)) ρ fun k => match keyOf k with
    | some kk => if decide (kvs.length < sizeLine) = true then .nx (ρ.set i (.ow (.dct (putD kvs kk v)))) else .no
    | none => .no
  | none => .no
theorem keyOf_flat {d : D} {k : Key} (h : keyOf d = some k) : d.flat = true := by
  unfold keyOf at h
  split at h
  · rfl
  · rfl
  · cases h
theorem ls_put {k v : Expr} {fk fv : SE} {pos' : Pos} (hu : X.A.units + 1 < cLine) (ho : PE X o (tVar i)) (hk : PE X k (tD X.K W fk)) (hv : PE X v (tD X.K W fv)) (hs : swapsWith v (some (.Subscript o k pos')) pos.line X.env = pure false := by rfl) :
    PS X (.Assign [.Subscript o k pos'] v pos) (tS X.K W (sPut i fk fv)) := (ps_dput hu ho hk hv.frame hs).imp fun D σ H ⟨H0, ρ, ⟨fp, A⟩, l⟩ => by
  unfold sPut at l
  cases q : owD ρ i with
  | none => rw [q] at l; exact l.elim
  | some kvs =>
    rw [q] at l
    have hi := owD_ok q
    obtain ⟨p, vs, h1, h2, h3, h4, h5⟩ := A.dict hi
    refine run_hid (rel := rd X.K) A l fun dv u F' _ s n r l1 => ?_
    have A1 := A.mixed s n
    refine ⟨_, h1, run_frz (rel := rd X.K) A1 l1 fun dk y H2 _ s2 rk l2 => ?_⟩
    have A2 := A1.grown s2
    cases q2 : keyOf dk with
    | none => rw [q2] at l2; exact l2.elim
    | some kk =>
      rw [q2] at l2
      have l2 : Lead X.K W H0 D (if decide (kvs.length < sizeLine) = true then .nx (ρ.set i (.ow (.dct (putD kvs kk dv)))) else .no) := l2
      by_cases c : decide (kvs.length < sizeLine) = true
      · rw [if_pos c] at l2
        have ey := keyOf_v q2 rk
        have m : H2 p = some (.dK vs) := s2 _ _ (by unfold mix; rw [if_pos h5]; exact h3)
        have sF : Same F' (un (ol ρ fp) H2) := un_le ((by
          intro a o e
          refine s2 a o ?_
          unfold mix
          rw [if_neg fun ha => by rw [n a ha] at e; cases e]
          exact e) : Same F' H2) n
        refine ⟨p, _, rfl, by rw [ey]; exact DPut.k m (by rw [rdk_length h4]; exact of_decide_eq_true c), l2 _ _ ⟨fp, A2.chg hi h2 h1 ⟨p, _, rfl, rfl, upd_same, rdk_put (rdk_mono (s.trans sF) _ _ h4) (rd_mono sF _ _ r)⟩⟩⟩
      · rw [if_neg c] at l2; exact l2.elim
/-- d.pop(k) as a statement -/
def sDpop (i : Nat) (fk : SE) : SS := fun ρ => match owD ρ i with
  | some kvs => step (fk (frz ρ)) ρ fun k => match keyOf k with
    | some kk => if (valD kvs kk).isSome = true then .nx (ρ.set i (.ow (.dct (dropD kvs kk)))) else .no
    | none => .no
  | none => .no
theorem ls_dpop {k : Expr} {fk : SE} (ho : PE X o (tVar i)) (hk : PE X k (tD X.K W fk)) (m : M1 X o "pop" apos k cpos) (hsw : swapsWith (.Call (.Attribute o "pop" apos) [k] [] cpos) none pos.line X.env = pure false := by rfl) :
    PS X (.Expr (.Call (.Attribute o "pop" apos) [k] [] cpos) pos) (tS X.K W (sDpop i fk)) := (ps_expr (pe_dpop1 ho hk m) hsw).imp fun D σ H ⟨H0, ρ, ⟨fp, A⟩, l⟩ => by
  unfold sDpop at l
  cases q : owD ρ i with
  | none => rw [q] at l; exact l.elim
  | some kvs =>
    rw [q] at l
    have hi := owD_ok q
    obtain ⟨p, vs, h1, h2, h3, h4, h5⟩ := A.dict hi
    refine ⟨_, h1, p, rfl, .inl ⟨vs, .inl h3⟩, run_frz (rel := rd X.K) A l fun dk y H2 _ s2 rk l2 => ?_⟩
    have A2 := A.grown s2
    cases q2 : keyOf dk with
    | none => rw [q2] at l2; exact l2.elim
    | some kk =>
      rw [q2] at l2
      have l2 : Lead X.K W H0 D (if (valD kvs kk).isSome = true then .nx (ρ.set i (.ow (.dct (dropD kvs kk)))) else .no) := l2
      by_cases c : (valD kvs kk).isSome = true
      · rw [if_pos c] at l2
        have ey := keyOf_v q2 rk
        have h4' : rdk X.K (un (ol ρ fp) H2) kvs vs := rdk_mono (un_le ((un_same _ _).trans s2) fun a ha => un_out ha) _ _ h4
        obtain ⟨v, ev⟩ := Option.isSome_iff_exists.mp ((rdk_isSome (k := kk) h4').trans c)
        exact ⟨vs, kk, v, s2 _ _ h3, ey, ev, l2 _ _ ⟨fp, A2.chg hi h2 h1 ⟨p, _, rfl, rfl, upd_same, rdk_drop h4'⟩⟩⟩
      · rw [if_neg c] at l2; exact l2.elim
end
/-! ### a def -/
def start0 (n : Nat) (ds : List D) : List Cl := ds.map Cl.fz ++ List.replicate (n - ds.length) .no
def outR : Out → R D
  | .rt d _ => .ok d
  | .rf d => .ok d
  | .nx _ => .ok .non
  | .ex x _ => .ex x
  | _ => .no
def runD (n : Nat) (g : SS) (ds : List D) : R D := outR (g (start0 n ds))
theorem start_as {K : PySem.W.Frag} {H : Hp} {N : List Str} {ds : List D} {vs : List V} (r : rds K H ds vs) (hl : vs.length ≤ N.length) : As K H (start0 N.length ds) (L2.start N vs) H := by
  have el := rds_length r
  have noow : ∀ (i : Nat) (d : D), (start0 N.length ds)[i]? ≠ some (.ow d) := fun i d e => by
    unfold start0 at e
    by_cases hi : i < ds.length
    · rw [List.getElem?_append_left (by simpa using hi), List.getElem?_map] at e
      cases q : ds[i]? with
      | none => rw [q] at e; cases e
      | some a => rw [q] at e; cases e
    · rw [List.getElem?_append_right (by simpa using hi), List.getElem?_replicate] at e
      split at e <;> cases e
  have eo : ol (start0 N.length ds) (fun _ => []) = [] := by
    refine List.eq_nil_iff_forall_not_mem.mpr fun a ha => ?_
    obtain ⟨i, d, h, _⟩ := mem_ol.mp ha
    exact noow i d h
  refine ⟨fun _ => [], ⟨by unfold start0 L2.start; simp; omega, by rw [eo, un_nil]; exact Same.refl H, fun i j d e h => absurd h (noow i d), fun i d e => ?_, fun i d h => absurd h (noow i d)⟩⟩
  rw [eo, un_nil]
  unfold start0 at e
  by_cases hi : i < ds.length
  · rw [List.getElem?_append_left (by simpa using hi), List.getElem?_map] at e
    cases q : ds[i]? with
    | none => rw [q] at e; cases e
    | some a =>
      rw [q] at e; cases e
      obtain ⟨v, h1, h2⟩ := rds_get r q
      refine ⟨v, ?_, h2⟩
      unfold L2.start
      rw [List.getElem?_append_left (by rw [List.length_map]; omega), List.getElem?_map, h1]; rfl
  · rw [List.getElem?_append_right (by simpa using hi), List.getElem?_replicate] at e
    split at e <;> cases e
/-- THE RULE of a def -/
theorem fn_tw {P : Program} {w : World} {K : PySem.W.Frag} {mg : Str → Option Value} {base : Heap} {x qual : Str} {params : Arguments} {body : List Stmt} {scope : Scope} {dvs : List V} {kws : List (Str × V)} {f : Addr} {fd : FuncData} {N ps : List Str} {k : Nat} {g : SS}
    (F : FunD K x qual params body scope dvs kws f fd) (S : FnScope N ps scope)
    (hb : ∀ (cdv : Value) (A : Around) (outer : List Env) (s : Shared) (H : Hp) (E : XK), Room k (A.deeper (PyProof.Rows.envOfC qual scope s.heap.objs.size f cdv)) →
      PSs (cxOf (L2.CX P w) P w K mg base N qual scope f cdv A outer s H E) body (tS K (fun c oa _ H => E c oa H) g)) : FnOk P w K mg base (L2.CX P w) (k + 1) f fd ps (spD K ps.length (runD N.length g)) := by
  refine F.ok S (fun vs H Q E ⟨ds, h1, h2, _⟩ => by rw [rds_length h2, h1]) fun cdv A outer s H vs Q E hr ⟨ds, h1, h2, h3⟩ => ⟨_, hb cdv A outer s H E hr, H, start0 N.length ds, start_as h2 (by
    have := congrArg List.length S.pre
    rw [List.length_take] at this
    have := rds_length h2
    omega), ?_⟩
  unfold runD at h3
  cases e : g (start0 N.length ds) with
  | nx ρ =>
    rw [e] at h3
    exact fun σ' H' ⟨fp, A'⟩ => h3 .non H' (A'.s0.trans (un_same _ _)) (by unfold rd; rfl)
  | rt d ρ =>
    rw [e] at h3
    exact fun v σ' H' fp A' r => h3 v H' (A'.s0.trans (un_same _ _)) (rd_mono (un_same _ _) _ _ r)
  | ex x ρ =>
    rw [e] at h3
    exact fun c oa σ' F' _ s r => h3 c oa F' s r
  | rf d =>
    rw [e] at h3
    exact fun p H' hp s r => h3 (.ref p) H' (s.trans (wo_same _ _)) (rdo_rd (wo_same _ _) (fun _ _ => rfl) r)
  | bk ρ => rw [e] at h3; exact h3.elim
  | ct ρ => rw [e] at h3; exact h3.elim
  | no => rw [e] at h3; exact h3.elim
end Tw

/-! Tw10: calls of the text's defs, chains, isinstance, sorted, more built-ins. -/
namespace Tw
open PySem L2
/-- a def that stands under a global name and keeps the promise m -/
structure Callee (P : Program) (w : World) (K : PySem.W.Frag) (mg : Str → Option Value) (base : Heap) (x : Str) (k n : Nat) (m : List D → R D) : Prop where
  ex : ∃ f fd ps, FnOk P w K mg base (L2.CX P w) k f fd ps (spD K n m) ∧ mg x = some (.ref f) ∧ PySem.W.keepIn K (.ref f) = true ∧ Binds K fd ps []
def ALen (h : SA) (n : Nat) : Prop := ∀ ρ ds, h ρ = .ok ds → ds.length = n
theorem alen0 : ALen aNil 0 := fun ρ ds h => by cases h; rfl
theorem alenS {f : SE} {g : SA} {n : Nat} (h : ALen g n) : ALen (aCons f g) (n + 1) := fun ρ ds e => by
  unfold aCons at e
  obtain ⟨d, _, e⟩ := R.bind_ok e
  obtain ⟨ds', e2, e⟩ := R.bind_ok e
  cases e
  simp [h ρ ds' e2]
section
variable {X : Cx} {W : WX} {e a b c : Expr} {es : List Expr} {pos p : Pos} {f g h : SE}
theorem le_callC {k n : Nat} {x : Str} {m : List D → R D} {h : SA} (C : Callee X.prog X.w X.K X.mg X.base x k n m) (hr : Room k X.A) (hg : Gl X x) (hx : ∀ σ, PassesAt (L2.CX X.prog X.w) X σ (fun c oa H => W c oa σ H))
    (ha : PA X (e :: es) (tA X.K W h)) (hn : ALen h n) (hdb : (x == ("__debug__" : Str)) = false := by decide) (he : starEach (e :: es) X.env = (false, eval e X.env) :: starEach es X.env := by rfl) (hpl : (backTo pos (starEach es X.env)).any (·.1) = false := by rfl) :
    PE X (.Call (.Name x p) (e :: es) [] pos) (tD X.K W (eCall m h)) := by
  obtain ⟨f, fd, ps, F, hm, hk, hb⟩ := C.ex
  exact le_call F hr hg hm hk hb hx ha hn hdb he hpl
theorem pass_w0 {X : Cx} : ∀ σ, PassesAt (L2.CX X.prog X.w) X σ (fun c oa H => W0 c oa σ H) := fun _ _ _ _ _ _ _ h => by
  obtain ⟨_, _, _, _, _, _, _, _, _, _, _, _, z⟩ := h
  exact z.elim
theorem hu65 {A : Around} {k : Nat} (hr : Room k A) : A.units + 65 < cLine := by have := hr.un; omega
theorem hu64 {A : Around} {k : Nat} (hr : Room k A) : A.units + 64 < cLine := by have := hr.un; omega
/-! ### chains -/
def eCh (g1 g2 : D → D → R D) (f g h : SE) : SE := fun ρ => (f ρ).bind fun d => (g ρ).bind fun e => (g1 d e).nox.bind fun z => (asB z).bind fun k => if k = true then (h ρ).bind fun a => (g2 e a).nox else .ok (.bl false)
theorem ch_core {K : PySem.W.Frag} {r r' : R2} {g1 g2 : D → D → R D} (h1 : Lift2 K r g1) (h2 : Lift2 K r' g2) : ∀ σ H Q, tD K W (eCh g1 g2 f g h) σ H Q → tChain r r' (tD K W f) (tD K W g) (tD K W h) σ H Q := fun σ H Q ⟨ρ, z, w⟩ =>
  ⟨ρ, z, pst.bind (rel := rd K) w fun d x H1 _ s1 r1 w1 => ⟨ρ, z.mono s1, pst.bind (rel := rd K) w1 fun e y H2 _ s2 r2 w2 => by
    obtain ⟨a, ea, w3⟩ := pst_nb w2
    refine h1 d e a x y H2 _ ea (rd_mono s2 d x r1) r2 fun v H3 s3 r3 => ?_
    obtain ⟨k, ev, w4⟩ := asB_k r3 (w3.mono s3)
    refine ⟨k, ev, ?_⟩
    cases k with
    | false => exact w4 _ H3 (Same.refl H3) (by unfold rd; rfl)
    | true =>
      rw [if_pos rfl] at w4 ⊢
      refine ⟨ρ, z.mono ((s1.trans s2).trans s3), pst.bind (rel := rd K) w4 fun a u H4 _ s4 r4 w5 => ?_⟩
      obtain ⟨b, eb, w6⟩ := pst_nox w5
      exact h2 e a b y u H4 Q eb (rd_mono (s3.trans s4) e y r2) r4 w6⟩⟩
theorem le_ch {op op' : CmpOp} {r r' : R2} {g1 g2 : D → D → R D} (ho : OpR X (compareOp op) r) (h1 : Lift2 X.K r g1) (ho' : OpR X (compareOp op') r') (h2 : Lift2 X.K r' g2) (ha : PE X a (tD X.K W f)) (hb : PE X b (tD X.K W g)) (hc : PE X c (tD X.K W h))
    (hm : lastMarks [op, op'] [b, c] = false := by with_unfolding_all rfl) : PE X (.Compare a [op, op'] [b, c] pos) (tD X.K W (eCh g1 g2 f g h)) := (pe_chain ho ho' ha hb hc hm).imp (ch_core h1 h2)
theorem lt_ch {op op' : CmpOp} {r r' : R2} {g1 g2 : D → D → R D} (ho : OpR X (compareOp op) r) (h1 : Lift2 X.K r g1) (ho' : OpR X (compareOp op') r') (h2 : Lift2 X.K r' g2) (ha : PE X a (tD X.K W f)) (hb : PE X b (tD X.K W g)) (hc : PE X c (tD X.K W h))
    (hm : lastMarks [op, op'] [b, c] = false := by with_unfolding_all rfl) : PT X (.Compare a [op, op'] [b, c] pos) (tT X.K W (tV (eCh g1 g2 f g h))) := lt_test ((pt_chain ho ho' ha hb hc hm).imp fun σ H Q ⟨ρ, z, w⟩ => (ch_core h1 h2) σ H _ ⟨ρ, z, w⟩)
end
/-! ### defs by their places -/
structure DefAt (K : PySem.W.Frag) (d : He.DefD) : Prop where
  of : ∃ fd, FunD K d.name d.qual d.params d.body d.scope (d.dvs K) (d.kws K) (He.fAd K d.at_) fd
theorem callee_tw {P : Program} {w : World} {K : PySem.W.Frag} {mg : Str → Option Value} {base : Heap} {x qual : Str} {params : Arguments} {body : List Stmt} {scope : Scope} {f : Addr} {fd : FuncData} {N ps : List Str} {k : Nat} {g : SS}
    (F : FunD K x qual params body scope [] [] f fd) (hm : mg x = some (.ref f)) (S : FnScope N ps scope)
    (hbind : ∀ (kV doc pm : Value) (an : Option Addr) (cdv ct : Value) (us : List Value), us.length = ps.length → bindArgs (PySem.W.fnOf x qual params body scope .none kV doc pm an cdv ct) ⟨us, []⟩ = pure (ps.zip us))
    (hb : ∀ (cdv : Value) (A : Around) (outer : List Env) (s : Shared) (H : Hp) (E : XK), Room k (A.deeper (PyProof.Rows.envOfC qual scope s.heap.objs.size f cdv)) →
      (∀ σ, PassesAt (L2.CX P w) (cxOf (L2.CX P w) P w K mg base N qual scope f cdv A outer s H E) σ (fun c oa H => E c oa H)) →
      PSs (cxOf (L2.CX P w) P w K mg base N qual scope f cdv A outer s H E) body (tS K (fun c oa _ H => E c oa H) g)) : Callee P w K mg base x (k + 1) ps.length (runD N.length g) :=
  ⟨f, fd, ps, fn_tw F S fun cdv A outer s H E hr => hb cdv A outer s H E hr fun σ => passAt (W := fun c oa _ H => E c oa H) (takes_of rfl rfl rfl rfl) σ, hm, F.kp, F.bindsN hbind⟩
/-! ### a, b = e, f where the pair is made -/
section
variable {X : Cx} {W : WX}
theorem ls_parC2 {i j : Nat} {m n : Bool} {a b ta tb : Expr} {f g : SE} {pos pt : Pos} {kt k2 pt2} (hc : X.calm = true) (hga : PG X ta (gName i)) (hgb : PG X tb (gName j)) (ha : PE X a (tM X.K W m f)) (hb : PE X b (tM X.K W n g))
    (hw : swappedStores [.Tuple [ta, tb] kt pt] (.Tuple [a, b] k2 pt2) X.env = pure none := by rfl) (hs : swapsWithSole [.Tuple [ta, tb] kt pt] (.Tuple [a, b] k2 pt2) pos.line X.env = pure false := by rfl)
    (h1 : starEach [a, b] X.env = (false, eval a X.env) :: starEach [b] X.env := by rfl) (h2 : starEach [b] X.env = (false, eval b X.env) :: starEach [] X.env := by rfl)
    (hst : (assignEach [ta, tb] X.env).map (·.2) = assign ta X.env :: (assignEach [tb] X.env).map (·.2) := by rfl) (hst2 : (assignEach [tb] X.env).map (·.2) = assign tb X.env :: (assignEach [] X.env).map (·.2) := by rfl)
    (hn : (assignEach [ta, tb] X.env).length = 2 := by rfl) (hfi : (assignEach [ta, tb] X.env).findIdx? (·.1) = none := by rfl) (h3 : (assignEach [.Tuple [ta, tb] kt pt] X.env).map (·.2) = [assign (.Tuple [ta, tb] kt pt) X.env] := by rfl) :
    PS X (.Assign [.Tuple [ta, tb] kt pt] (.Tuple [a, b] k2 pt2) pos) (tS X.K W (sPar2 i j m n f g)) :=
  (ps_asg (pe_tup (pa_cons ha.frame (pa_cons hb.frame pa_nil h2) h1)) (pg_tup (n := 2) hc (pgs_cons hga (pgs_cons hgb pgs_nil hst2) hst) hn hfi) hs hw h3).imp fun D σ H ⟨H0, ρ, ⟨fp, A⟩, l⟩ => by
    have hl := A.len
    show fr (tM X.K W m f) σ H (fun x H1 => fr (tM X.K W n g) σ H1 (fun y H2 => [x, y].length ≤ sizeLine ∧ ∀ p, H2 p = none → gTup X.K 2 (gCons (gName i) (gCons (gName j) gNil)) (.ref p) σ (upd H2 p (.tup [x, y])) D.nx))
    refine run_ext (more := []) (mo := []) (by simpa using A) hl l fun d v H1 fp1 _ A1 l1 => ?_
    refine run_ext (more := [cM m d]) (mo := [some v]) A1 hl l1 fun e u H2 fp2 _ A2 l2 => ?_
    refine ⟨by show 2 ≤ sizeLine; decide, fun p hp => ⟨p, [v, u], rfl, SqT.of upd_same, rfl, v, [u], rfl, u, [], rfl, rfl, ?_⟩⟩
    obtain ⟨fp3, A3⟩ := A2.place1 hl i
    obtain ⟨fp4, A4⟩ := AsF.place1 (more := []) (mo := []) A3 (by simp [hl]) j
    exact l2 _ _ ⟨fp4, by simpa using A4.grown (same_new hp)⟩
theorem lg_one {X : Cx} {x : Str} {pos : Pos} {i : Nat} (h : PG X (.Name x pos) (gName i)) : PG X (.Name x pos) (gName i) := h
theorem ls_never {st : Stmt} : PS X st (tS X.K W fun _ => .no) := ps_never.imp fun D σ H ⟨_, _, _, l⟩ => l
end
end Tw

/-! TwEnum: list(enumerate(xs)). -/
namespace TwEn
open PySem
theorem en_no_len : typeLookup (.type "enumerate") "__len__" = pure none := am_miss_of_fast (by decide +kernel)
theorem en_no_hint : typeLookup (.type "enumerate") "__length_hint__" = pure none := am_miss_of_fast (by decide +kernel)
def EnSt (h : Heap) (e it l S : Addr) (items : Array Value) (i : Nat) : Prop :=
  h.IsListIter it l i ∧ h.IsList l items ∧ ((∃ old, IsEnum h e it i old) ∨ ∃ old T f oT, IsEnumHeld h e it i old T f ∧ h.get? T = some oT ∧ T ≠ e ∧ T ≠ it ∧ T ≠ S)
theorem EnSt.keep {h h' : Heap} {e it l S : Addr} {items : Array Value} {i : Nat} (x : EnSt h e it l S items i) (hk : ∀ b o, b ≠ S → h.get? b = some o → h'.get? b = some o) (he : e ≠ S) (hi : it ≠ S) (hl : l ≠ S) : EnSt h' e it l S items i := by
  obtain ⟨a, b, c⟩ := x
  refine ⟨a.at fun o q => hk _ o hi q, b.at fun o q => hk _ o hl q, ?_⟩
  rcases c with ⟨old, c⟩ | ⟨old, T, f, oT, c, hT, r1, r2, r3⟩
  · exact .inl ⟨old, hk _ _ he c⟩
  · exact .inr ⟨old, T, f, oT, hk _ _ he c, hk _ _ r3 hT, r1, r2, r3⟩
structure EnG (items : Array Value) (lo : Addr) (h : Heap) (as : List Addr) : Prop where
  rise : as.Pairwise (· < ·)
  above : ∀ a ∈ as, lo < a
  pairs : ∀ (j : Nat) (a : Addr), as[j]? = some a → ∃ (t : Tok) (x : Value), items[j]? = some x ∧ h.get? a = some { cls := .type "tuple", data := .seq #[.int (j : Nat) t, x] }
theorem EnG.there {items : Array Value} {lo : Addr} {h : Heap} {as : List Addr} (g : EnG items lo h as) {a : Addr} (ha : a ∈ as) : a < h.objs.size := by
  obtain ⟨j, hj⟩ := List.mem_iff_getElem?.mp ha
  obtain ⟨_, _, _, e⟩ := g.pairs j a hj
  exact Heap.lt_size e
section
variable {prog : Program} {w : World} {A : Around} {s : Shared} {R : Result → Shared → Prop} {items : Array Value} {E : Value → Shared → Prop}
theorem en_item {e it l S : Addr} {i : Nat} {x : Value} {Q : Option Value → Shared → Prop} (st : EnSt s.heap e it l S items i) (hx : items[i]? = some x) (hei : e ≠ it) (hle : l ≠ e) (hli : l ≠ it) (hS : S < s.heap.objs.size)
    (hQ : ∀ h', EnSt h' e it l S items (i + 1) → h'.get? s.heap.objs.size = some { cls := .type "tuple", data := .seq #[.int (i : Nat) s.toks, x] } → h'.objs.size = s.heap.objs.size + 1 →
      (∀ b o, b ≠ e → b ≠ it → s.heap.get? b = some o → h'.get? b = some o) → Q (some (.ref s.heap.objs.size)) { s with heap := h', toks := s.toks + 1 }) :
    wpAny (model prog w) A (pyNext (.ref e)) Q E s := by
  obtain ⟨hit, hl, he⟩ := st
  have ec : ((i + 1 : Nat) : Int) = (i : Int) + 1 := by omega
  have nit : s.heap.objs.size ≠ it := let ⟨_, x, _⟩ := hit; Nat.ne_of_gt (Heap.lt_size x)
  rcases he with ⟨old, he⟩ | ⟨old, T, f, oT, he, hT, r1, r2, r3⟩
  · refine wpAny_pyNext_enum_item he hit hl hx hei fun h' ho hit' hT hsz hk => ?_
    exact hQ h' ⟨hit', hl.at fun o x => hk l o hle hli x, .inr ⟨_, s.heap.objs.size, false, _, (by rw [ec]; exact ho), hT, Nat.ne_of_gt (Heap.lt_size he), nit, Nat.ne_of_gt hS⟩⟩ hT hsz hk
  · refine wpAny_pyNext_enum_item_held he hT r1 r2 hit hl hx hei fun h' ho hit' hT' hsz hk => ?_
    exact hQ h' ⟨hit', hl.at fun o x => hk l o hle hli x, .inr ⟨old, T, true, oT, (by rw [ec]; exact ho), hk _ _ r1 r2 hT, r1, r2, r3⟩⟩ hT' hsz hk
theorem en_done {e it l S : Addr} {i : Nat} {Q : Option Value → Shared → Prop} (hh : A.handled = none) (st : EnSt s.heap e it l S items i) (hx : items[i]? = none)
    (hQ : ∀ h', Heap.ExtBut it s.heap h' → Q none { s with heap := h' }) : wpAny (model prog w) A (pyNext (.ref e)) Q E s := by
  obtain ⟨hit, hl, he⟩ := st
  rcases he with ⟨old, he⟩ | ⟨old, T, f, oT, he, hT, r1, r2, r3⟩
  · exact wpAny_pyNext_enum_end hh he hit hl hx hQ
  · exact wpAny_pyNext_enum_end_held hh he hit hl hx hQ
theorem en_loop {S e it l : Addr} (hh : A.handled = none) (heS : e < S) (hiS : it < S) (hlS : l < S) (hei : e ≠ it) (hle : l ≠ e) (hli : l ≠ it) (hn : items.size ≤ sizeLine) (res : Value) {h₁ : Heap}
    (hR : ∀ h' tk acc c as, (∀ b o, b ≠ S → b ≠ e → b ≠ it → h₁.get? b = some o → h'.get? b = some o) → h'.get? S = some { cls := .type "list", dict := none, data := .seq acc c, slots := #[] } → as.length = items.size → EnG items S h' as →
      acc.toList = as.map Value.ref → R (.ok (.ret res)) { s with heap := h', toks := tk }) :
    ∀ (k i : Nat) (h : Heap) (tk c : Nat) (acc : Array Value) (as : List Addr), items.size - i = k → i ≤ items.size → EnSt h e it l S items i → (∀ b o, b ≠ S → b ≠ e → b ≠ it → h₁.get? b = some o → h.get? b = some o) →
      h.get? S = some { cls := .type "list", dict := none, data := .seq acc c, slots := #[] } → acc.toList = as.map Value.ref → as.length = i → EnG items S h as →
      codeAny (model prog w) A (.builtin "list.extend.loop" ⟨[.ref S, .ref e, res], []⟩) R { s with heap := h, toks := tk } := by
  have hne : S ≠ it := Nat.ne_of_gt hiS
  have hne2 : S ≠ e := Nat.ne_of_gt heS
  intro k
  induction k with
  | zero =>
    intro i h tk c acc as hk hi hst hkeep hS hacc hal hG
    refine codeAny_builtin PySem.F.entry_extend_loop ?_
    rw [Around.under_plainId PySem.F.plain_extend_loop _]
    show wpAny _ A.in1 (pyNext (.ref e) >>= _) _ _ _
    refine wpAny_bind (en_done (s := { s with heap := h, toks := tk }) (A := A.in1) hh hst (Array.getElem?_eq_none (by omega)) fun h' he => ?_)
    refine wpAny_pure (hR h' tk acc c as (fun b o h1 h2 h3 q => he b o h3 (hkeep b o h1 h2 h3 q)) (he S _ hne hS) (by omega) ⟨hG.rise, hG.above, fun j a hj => ?_⟩ hacc)
    obtain ⟨t, x, e1, e2⟩ := hG.pairs j a hj
    exact ⟨t, x, e1, he a _ (Nat.ne_of_gt (Nat.lt_trans hiS (hG.above a (List.mem_of_getElem? hj)))) e2⟩
  | succ k ih =>
    intro i h tk c acc as hk hi hst hkeep hS hacc hal hG
    have hlt : i < items.size := by omega
    obtain ⟨x, hx⟩ : ∃ p, items[i]? = some p := ⟨items[i], Array.getElem?_eq_getElem hlt⟩
    have hsz : acc.size = i := by rw [← Array.length_toList, hacc, List.length_map, hal]
    refine codeAny_builtin PySem.F.entry_extend_loop ?_
    rw [Around.under_plainId PySem.F.plain_extend_loop _]
    show wpAny _ A.in1 (pyNext (.ref e) >>= _) _ _ _
    refine wpAny_bind (en_item (s := { s with heap := h, toks := tk }) (S := S) hst hx hei hle hli (Heap.lt_size hS) fun h' hst' ht hz hkp => ?_)
    dsimp only at ht hz hkp ⊢
    have hS' := hkp S _ hne2 hne hS
    have up : ∀ b o, b ≠ S → h'.get? b = some o → (h'.update S (Obj.mapSeq (·.push (Value.ref h.objs.size)))).get? b = some o := fun b o hb e => (Heap.get?_update_other _ _ (Ne.symm hb)).trans e
    have hSl : S < h.objs.size := Heap.lt_size hS
    show wpAny _ A.in1 (updateSeq S (·.push (Value.ref h.objs.size)) >>= _) _ _ _
    refine wpAny_bind ?_
    refine wpAny_updateSeq hS' rfl (wpAny_pure ⟨plainId_quiet PySem.F.plain_extend_loop _, ih (i + 1) _ (tk + 1) _ (acc.push (Value.ref h.objs.size)) (as ++ [h.objs.size]) (by omega) hlt (hst'.keep up (Ne.symm hne2) (Ne.symm hne) (Nat.ne_of_lt hlS))
      (fun b o h1 h2 h3 q => up b o h1 (hkp b o h2 h3 (hkeep b o h1 h2 h3 q))) (Heap.get?_update_self _ hS' rfl) (by rw [Array.toList_push, hacc, List.map_append]; rfl) (by rw [List.length_append, hal]; rfl) ⟨?_, ?_, ?_⟩⟩) (by rw [hsz]; omega) (by show (acc.push (Value.ref h.objs.size)).size ≤ sizeLine + 1; rw [Array.size_push, hsz]; omega)
    · refine List.pairwise_append.mpr ⟨hG.rise, List.pairwise_singleton _ _, fun a ha b hb => ?_⟩
      rw [List.mem_singleton.mp hb]
      exact hG.there ha
    · intro a ha
      rcases List.mem_append.mp ha with ha | ha
      · exact hG.above a ha
      · rw [List.mem_singleton.mp ha]; exact hSl
    · intro j b hj
      rcases Nat.lt_trichotomy j as.length with h1 | h1 | h1
      · rw [List.getElem?_append_left h1] at hj
        obtain ⟨t', x', e1, e2⟩ := hG.pairs j b hj
        have hb := hG.above b (List.mem_of_getElem? hj)
        exact ⟨t', x', e1, up b _ (Nat.ne_of_gt hb) (hkp b _ (Nat.ne_of_gt (Nat.lt_trans heS hb)) (Nat.ne_of_gt (Nat.lt_trans hiS hb)) e2)⟩
      · subst h1
        have hb : h.objs.size = b := by simpa using hj
        subst hb
        exact ⟨tk, x, by rw [hal]; exact hx, up _ _ (Nat.ne_of_gt hSl) (by rw [hal]; exact ht)⟩
      · have hnone : (as ++ [h.objs.size])[j]? = none := List.getElem?_eq_none (by rw [List.length_append, List.length_singleton]; omega)
        rw [hnone] at hj; cases hj
theorem en_extend {e it l : Addr} (hh : A.handled = none) {S : Addr} (st : EnSt s.heap e it l S items 0) (hT : s.TypeIs (.ref e) "enumerate") (hself : ∀ (A : Around) (Q : Value → Shared → Prop) (E : Value → Shared → Prop), Q (.ref e) s → wpAny (model prog w) A (pyIter (.ref e)) Q E s) (heS : e < S) (hiS : it < S) (hlS : l < S) (hei : e ≠ it) (hle : l ≠ e) (hli : l ≠ it) (res : Value) (c₀ : Nat) (hS : s.heap.get? S = some { cls := .type "list", data := .seq #[] c₀ })
    (hR : ∀ h' tk acc c as, (∀ b o, b ≠ S → b ≠ e → b ≠ it → s.heap.get? b = some o → h'.get? b = some o) → h'.get? S = some { cls := .type "list", dict := none, data := .seq acc c, slots := #[] } → as.length = items.size → EnG items S h' as →
      acc.toList = as.map Value.ref → R (.ok (.ret res)) { s with heap := h', toks := tk }) (hn : items.size ≤ sizeLine) :
    wpAny (model prog w) A.in1 (Builtin.List.listExtendWith (.ref S) (.ref e) res)
      (fun fin s' => match fin with | .done f => R (.ok f) s' | .again c' => c'.quiet = true ∧ codeAny (model prog w) A c' R s') (fun e s' => R (.error e) s') s := by
  have hSe : S ≠ e := Nat.ne_of_gt heS
  unfold Builtin.List.listExtendWith
  refine wpAny_bind (wpAny_typeOf hT ?_)
  have h1 : Builtin.List.listSameRef (.ref S) (.ref e) = false := by simp [Builtin.List.listSameRef, hSe]
  have h2 : (Value.type "enumerate" == Value.type "list") = false := by decide
  have h3 : (Value.type "enumerate" == Value.type "tuple") = false := by decide
  simp only [h1, h2, h3, Bool.or_false, Bool.false_eq_true, if_false]
  refine wpAny_bind (hself _ _ _ ?_)
  refine wpAny_bind (wpAny_holding ?_)
  unfold Builtin.List.listLengthHint
  refine wpAny_bind (wpAny_specialOf hT en_no_len ?_)
  show wpAny _ A.in1 (specialOf (Value.ref e) (Str.ofString "__length_hint__") >>= _) _ _ _
  refine wpAny_bind (wpAny_specialOf hT en_no_hint ?_)
  refine wpAny_pure ?_
  show wpAny _ A.in1 (rule "list.extend.makes-room" >>= fun _ => Builtin.List.listTouch (.ref S) >>= fun _ =>
    again (.builtin "list.extend.loop" ⟨[.ref S, .ref e, res], []⟩)) _ _ _
  refine wpAny_bind (wpAny_rule ?_)
  refine wpAny_bind ?_
  show wpAny _ A.in1 (updateSeq S (·.push .none) >>= fun _ => updateSeq S (·.pop)) _ _ _
  refine wpAny_bind (wpAny_updateSeq hS rfl ?_)
  have hS₂ := Heap.get?_update_self (Obj.mapSeq (·.push Value.none)) hS rfl
  refine wpAny_updateSeq (hz := by seq_fits) hS₂ rfl ?_
  have hS₃ := Heap.get?_update_self (Obj.mapSeq (·.pop)) hS₂ rfl
  have oth : ∀ b o, b ≠ S → s.heap.get? b = some o → ((s.heap.update S (Obj.mapSeq (·.push Value.none))).update S (Obj.mapSeq (·.pop))).get? b = some o :=
    fun b o hb e => (Heap.get?_update_other _ _ (Ne.symm hb)).trans ((Heap.get?_update_other _ _ (Ne.symm hb)).trans e)
  refine wpAny_pure ⟨plainId_quiet PySem.F.plain_extend_loop _, ?_⟩
  exact en_loop (s := s) (h₁ := s.heap) hh heS hiS hlS hei hle hli hn res hR items.size 0 _ s.toks _ #[] [] (Nat.sub_zero _) (Nat.zero_le _) (st.keep oth (Ne.symm hSe) (Nat.ne_of_lt hiS) (Nat.ne_of_lt hlS)) (fun b o h1 _ _ q => oth b o h1 q) hS₃ rfl rfl
    ⟨List.Pairwise.nil, (fun _ ha => nomatch ha), (fun j a hj => by simp at hj)⟩
theorem en_call {e it l : Addr} {Q : Value → Shared → Prop} {old : Value} (hh : A.handled = none) (he : IsEnum s.heap e it 0 old) (hit : s.heap.IsListIter it l 0) (hl : s.heap.IsList l items) (hei : e ≠ it) (hn : items.size ≤ sizeLine)
    (hQ : ∀ h' tk acc c as, (∀ b o, b ≠ e → b ≠ it → s.heap.get? b = some o → h'.get? b = some o) → h'.get? s.heap.objs.size = some { cls := .type "list", dict := none, data := .seq acc c, slots := #[] } → as.length = items.size → EnG items s.heap.objs.size h' as →
      acc.toList = as.map Value.ref → Q (.ref s.heap.objs.size) { s with heap := h', toks := tk }) :
    wpAny (model prog w) A (call (.type "list") [.ref e]) Q E s := by
  refine callType_codes (Q₁ := fun obj s₁ => obj = .ref s.heap.objs.size ∧ s₁ = { s with heap := s.heap.push { cls := .type "list", data := .seq #[] } }) PySem.F.called_list (PySem.F.typeCall_list_1 _) PySem.F.entry_list_init
    (code_list_new _ ⟨rfl, rfl⟩) fun obj s₁ h₁ => ?_
  obtain ⟨rfl, rfl⟩ := h₁
  have hS : (s.heap.push { cls := .type "list", data := .seq #[] }).get? s.heap.objs.size = some { cls := .type "list", data := .seq #[] } := Heap.get?_push_size _ rfl
  have heL : e < s.heap.objs.size := Heap.lt_size he
  have hiL : it < s.heap.objs.size := let ⟨_, q, _⟩ := hit; Heap.lt_size q
  have hlL : l < s.heap.objs.size := let ⟨_, q, _⟩ := hl; Heap.lt_size q
  have hle : l ≠ e := fun q => by
    subst q
    obtain ⟨o, q1, q2, _⟩ := hl
    rw [he] at q1; cases q1
    injection q2 with z
    exact absurd z (by decide)
  have hli : l ≠ it := fun q => by
    subst q
    obtain ⟨o, q1, q2, _⟩ := hl
    obtain ⟨o', q3, q4, _⟩ := hit
    rw [q1] at q3; cases q3
    rw [q2] at q4
    injection q4 with z
    exact absurd z (by decide)
  refine ⟨⟨_, hS, rfl⟩, PySem.F.args_list_init_2 _ _, ?_⟩
  show wpAny _ _ (do let old ← Builtin.List.listItems (.ref s.heap.objs.size); Builtin.List.listUpdate (.ref s.heap.objs.size) (fun _ => #[]); letGo old.toList.reverse; Builtin.List.listExtendWith (.ref s.heap.objs.size) (.ref e) .none) _ _ _
  refine wpAny_bind ?_
  unfold Builtin.List.listItems
  refine wpAny_bind (wpAny_seqItems hS rfl (wpAny_pure ?_))
  show wpAny _ _ (updateSeq s.heap.objs.size (fun _ => #[]) >>= fun _ => letGo (#[] : Array Value).toList.reverse >>= fun _ => Builtin.List.listExtendWith (.ref s.heap.objs.size) (.ref e) .none) _ _ _
  refine wpAny_bind (wpAny_updateSeq hS rfl ?_)
  have hS₂ := Heap.get?_update_self (Obj.mapSeq (fun _ => (#[] : Array Value))) hS rfl
  have oth : ∀ b o, s.heap.get? b = some o → ((s.heap.push { cls := .type "list", data := .seq #[] }).update s.heap.objs.size (Obj.mapSeq (fun _ => (#[] : Array Value)))).get? b = some o :=
    fun b o e => (Heap.get?_update_other _ _ (Nat.ne_of_gt (Heap.lt_size e))).trans (Heap.get?_push_of_some _ e)
  refine wpAny_bind (wpAny_letGo ?_)
  have he' := oth _ _ he
  refine en_extend (A := A.in1) hh (S := s.heap.objs.size) ⟨hit.at fun o q => oth _ _ q, hl.at fun o q => oth _ _ q, .inl ⟨old, he'⟩⟩ ⟨_, he', rfl⟩ (fun A Q E h => wpAny_pyIter_enum he' h) heL hiL hlL hei hle hli .none _ hS₂ (fun h' tk acc c as hk hS' hl hG hacc => ?_) hn
  exact ⟨rfl, hQ h' tk acc c as (fun b o h1 h2 q => hk b o (Nat.ne_of_lt (Heap.lt_size q)) h1 h2 (oth b o q)) hS' hl hG hacc⟩
end
end TwEn

/-! TwEnum2: list(enumerate(xs)) over data. -/
namespace Tw
open PySem L2 LiI
def enK (n : Nat) : List V → List (Key × V)
  | [] => []
  | v :: vs => (Sum.inl (n : Int), v) :: enK (n + 1) vs
theorem enK_length : ∀ (n : Nat) (vs : List V), (enK n vs).length = vs.length
  | _, [] => rfl
  | n, v :: vs => by simp [enK, enK_length (n + 1) vs]
theorem enK_get : ∀ (n : Nat) (vs : List V) (i : Nat), (enK n vs)[i]? = (vs[i]?).map fun v => ((Sum.inl ((n + i : Nat) : Int) : Key), v)
  | _, [], i => by simp [enK]
  | n, v :: vs, 0 => by simp [enK]
  | n, v :: vs, i + 1 => by
    simp only [enK, List.getElem?_cons_succ, enK_get (n + 1) vs i]
    have e : n + 1 + i = n + (i + 1) := by omega
    rw [e]
theorem enum_laid {X : Cx} {pins : List (Addr × Obj)} {σ : L2.St} {H : Hp} {s : Shared} {h' : Heap} {tk : Nat} {xs : List V} {its : List Value} {acc : Array Value} {c : Nat} {as : List Addr} {S : Addr} (I : Inv X pins σ H s) (hS0 : s.heap.objs.size ≤ S) (hz : xs.length ≤ sizeLine) (kv : Vals xs its)
    (hk : ∀ b o, s.heap.get? b = some o → h'.get? b = some o) (hS : h'.get? S = some { cls := .type "list", dict := none, data := .seq acc c, slots := #[] }) (hl : as.length = its.length) (hG : TwEn.EnG its.toArray S h' as) (hacc : acc.toList = as.map Value.ref) :
    ∃ H' : Hp, (∀ b o, H b = some o → H' b = some o) ∧ H S = none ∧ (∀ t ∈ as, H t = none) ∧ S ∉ as ∧ H' S = some (.lst (as.map V.ref)) ∧ Paired (fun (t : Addr) (q : Key × V) => H' t = some (.tup [kV q.1, q.2])) as (enK 0 xs) ∧ Inv X pins σ H' { s with heap := h', toks := tk } := by
  have lk : xs.length = its.length := Paired.length kv
  have lk2 : as.length = (enK 0 xs).length := by rw [enK_length]; omega
  have hSn : S ∉ as := fun z => Nat.lt_irrefl _ (hG.above _ z)
  have nd : as.Nodup := List.Pairwise.imp (fun {a b} (h : a < b) => Nat.ne_of_lt h) hG.rise
  have new : ∀ t ∈ as, H t = none := fun t ht => I.hok.fresh (Nat.le_trans hS0 (Nat.le_of_lt (hG.above t ht)))
  have newS : H S = none := I.hok.fresh hS0
  have atP := putT_at as (enK 0 xs) (upd H S (.lst (as.map V.ref))) lk2 nd
  have off : ∀ b, b ∉ as → b ≠ S → putT (upd H S (.lst (as.map V.ref))) as (enK 0 xs) b = H b := fun b h1 h2 => by rw [putT_off as (enK 0 xs) _ h1, upd_ne h2]
  have low : ∀ b o, s.heap.get? b = some o → b ∉ as ∧ b ≠ S := fun b o e => ⟨fun z => absurd (Heap.lt_size e) (Nat.not_lt.mpr (Nat.le_trans hS0 (Nat.le_of_lt (hG.above b z)))), Nat.ne_of_lt (Nat.lt_of_lt_of_le (Heap.lt_size e) hS0)⟩
  have kp : ∀ b u, H b = some u → (putT (upd H S (.lst (as.map V.ref))) as (enK 0 xs)) b = some u := fun b u e => by
    rw [off b (fun z => by rw [new b z] at e; cases e) (fun z => by rw [z, newS] at e; cases e)]
    exact e
  have eS : putT (upd H S (.lst (as.map V.ref))) as (enK 0 xs) S = some (.lst (as.map V.ref)) := by rw [putT_off as (enK 0 xs) _ hSn, upd_same]
  refine ⟨putT (upd H S (.lst (as.map V.ref))) as (enK 0 xs), kp, newS, new, hSn, eS, atP, ?_⟩
  refine I.call' (ch := []) rfl ⟨fun b o q _ _ _ => hk b o q, fun b o q _ _ _ => ⟨o.slots, hk b o q⟩, fun b o q n _ => ?_, fun b o q _ => ⟨o, hk b o q⟩, fun b xs q => kp b _ q, fun b o u q => kp b _ q, fun b ps q => ⟨#[], by rw [kp b _ q]; simp⟩⟩ (fun b u q => ?_) I.bare (fun b z => absurd z (by simp))
  · obtain ⟨z1, z2⟩ := low b o q
    rw [off b z1 z2]
    exact n
  · by_cases hb : b ∈ as
    · obtain ⟨j, pk, e1, e2, e3⟩ := paired_ix atP hb
      rw [e3] at q
      cases q
      obtain ⟨t, x, f1, f2⟩ := hG.pairs j b e1
      rw [enK_get] at e2
      cases g : xs[j]? with
      | none => rw [g] at e2; cases e2
      | some v =>
        rw [g] at e2
        cases e2
        obtain ⟨u, g1, g2⟩ := kv.get g
        have ex : x = u := by
          have : its[j]? = some x := by simpa using f1
          rw [this] at g1
          exact Option.some.inj g1
        subst ex
        refine ⟨by show 2 ≤ sizeLine; decide, [.int (j : Nat) t, x], .cons ⟨t, ?_⟩ (.cons g2 .nil), ⟨_, f2, rfl, _, rfl⟩⟩
        rw [Nat.zero_add]
    · by_cases hb2 : b = S
      · rw [hb2] at q ⊢
        rw [eS] at q
        cases q
        refine ⟨by rw [List.length_map]; omega, acc.toList, c, by rw [hacc]; exact LiI.vals_refs as, ?_⟩
        rw [Array.toArray_toList]
        exact hS
      · rw [off b hb hb2] at q
        exact (I.hok b u q).stay (fun d v _ y => hk d v y) (fun d y => kp d _ y) fun d xs y => kp d _ y
def tLEnum (K : PySem.W.Frag) (ta : TA) : TE := fun σ H Q => ta σ H fun ys H1 => ∃ (a : Addr) (xs : List V), ys = [.ref a] ∧ SqL K H1 a xs ∧
  ∀ (H' : Hp) (p : Addr) (ts : List Addr), (∀ b o, H1 b = some o → H' b = some o) → H1 p = none → (∀ t ∈ ts, H1 t = none) → p ∉ ts → H' p = some (.lst (ts.map V.ref)) → Paired (fun (t : Addr) (q : Key × V) => H' t = some (.tup [kV q.1, q.2])) ts (enK 0 xs) → Q (.ref p) H'
section
variable {X : Cx} {W : WX} {e : Expr} {ta : TA} {p p2 pos pos2 : Pos}
theorem pe_lenum (hc : X.calm = true) (hg : Gl X "list") (hm : X.mg "list" = none) (hg2 : Gl X "enumerate") (hm2 : X.mg "enumerate" = none) (ha : PA X [e] ta) (hs : starEach [e] X.env = [(false, eval e X.env)] := by rfl)
    (hs2 : starEach [.Call (.Name "enumerate" p2) [e] [] pos2] X.env = (false, eval (.Call (.Name "enumerate" p2) [e] [] pos2) X.env) :: starEach [] X.env := by rfl) :
    PE X (.Call (.Name "list" p) [.Call (.Name "enumerate" p2) [e] [] pos2] [] pos) (tLEnum X.K ta) := by
  refine ⟨fun pins s σ H Q I h => ?_⟩
  refine wpAny_Call_Name_kw (ld_blt I hg hm (by decide +kernel : bootBuiltins "list" = some (.type "list")) ?_)
  refine PyProof.Rows.callWith_type1 ?_ hs2 rfl
  rw [hs2]
  show wpAny _ _ (spliced ((false, eval (.Call (.Name "enumerate" p2) [e] [] pos2) X.env) :: backTo pos (starEach [] X.env))) _ _ s
  refine Calls.spliced_cons ?_
  refine PyProof.Rows.Call_ (ld_blt I hg2 hm2 PyProof.Rows.boot_enumerate (PyProof.Rows.callWith_type1 (thn (ha.run pos2 pins s σ H _ I h) fun us s1 ⟨vs, H1, I1, r1, q1⟩ => ?_) hs rfl))
  obtain ⟨a, xs, ex, hq, q⟩ := q1
  subst ex
  cases r1 with
  | cons r rr =>
    cases rr
    cases r
    obtain ⟨its, rv, p', hz⟩ := I1.list hq
    refine call_enumerate_list p'.isList fun h' he hit hsz hk => ?_
    refine Calls.spliced_nil ?_
    have hlen : its.toArray.size ≤ sizeLine := by rw [List.size_toArray, ← rv.length]; exact hz
    refine TwEn.en_call (s := { s1 with heap := h' }) (I1.ok.hd hc) he hit (p'.isList.at fun o e => hk _ o e) (Nat.succ_ne_self _) hlen fun h2 tk acc c as hk2 hS hl hG hacc => ?_
    have hS0 : s1.heap.objs.size ≤ h'.objs.size := by rw [hsz]; exact Nat.le_add_right _ _
    obtain ⟨H', k1, k2, k3, k4, k5, k6, J⟩ := enum_laid (tk := tk) I1 hS0 hz rv (fun b o e => hk2 b o (Nat.ne_of_lt (Nat.lt_of_lt_of_le (Heap.lt_size e) (Nat.le_succ _))) (Nat.ne_of_lt (Heap.lt_size e)) (hk b o e)) hS (by rw [hl, List.size_toArray]) hG hacc
    exact ⟨.ref _, H', J, rfl, q H' _ as k1 k2 k3 k4 k5 k6⟩
theorem rds_enum {K : PySem.W.Frag} {H H' : Hp} (s : Same H H') : ∀ {ds : List D} {xs : List V} {ts : List Addr} {n : Nat}, rds K H ds xs → Paired (fun (t : Addr) (q : Key × V) => H' t = some (.tup [kV q.1, q.2])) ts (enK n xs) → rds K H' (enumD n ds) (ts.map V.ref)
  | [], xs, ts, n, r, q => by
    unfold rds at r; subst r
    cases q
    exact rds_nil
  | d :: ds, xs, ts, n, r, q => by
    unfold rds at r
    obtain ⟨v, vs, rfl, r1, r2⟩ := r
    cases q with
    | cons q1 q2 =>
      show rds K H' (.tup [.int n, d] :: enumD (n + 1) ds) _
      exact rds_cons (rd_pair q1 (by unfold rd; rfl) (rd_mono s _ _ r1)) (rds_enum s r2 q2)
def dLEnum : List D → R D
  | [.lst ds] => .ok (.lst (enumD 0 ds))
  | _ => .no
theorem le_lenum {g : SA} (hc : X.calm = true) (hm : X.mg "list" = none) (hm2 : X.mg "enumerate" = none) (ha : PA X [e] (tA X.K W g)) (hg : Gl X "list" := by rfl) (hg2 : Gl X "enumerate" := by rfl) (hs : starEach [e] X.env = [(false, eval e X.env)] := by rfl)
    (hs2 : starEach [.Call (.Name "enumerate" p2) [e] [] pos2] X.env = (false, eval (.Call (.Name "enumerate" p2) [e] [] pos2) X.env) :: starEach [] X.env := by rfl) :
    PE X (.Call (.Name "list" p) [.Call (.Name "enumerate" p2) [e] [] pos2] [] pos) (tD X.K W (eB dLEnum g)) :=
  (pe_lenum hc hg hm hg2 hm2 ha hs hs2).imp fun σ H Q ⟨ρ, z, w⟩ => ⟨ρ, z, pst.bind (rel := rds X.K) w fun ds vs H1 _ s1 r w1 => by
    obtain ⟨a, hz, k⟩ := pst_nox w1
    unfold dLEnum at hz
    split at hz
    · cases hz
      obtain ⟨v, rfl, q⟩ := rds_1 r
      unfold rd at q
      obtain ⟨a, us, rfl, q, r⟩ := q
      refine ⟨a, us, rfl, SqL.of q, fun H' p ts s2 h1 h2 h3 h4 h5 => k _ H' s2 ?_⟩
      unfold rd
      exact ⟨p, _, rfl, h4, rds_enum s2 r h5⟩
    · cases hz⟩
theorem lf_lenum {g : SA} (hc : X.calm = true) (hm : X.mg "list" = none) (hm2 : X.mg "enumerate" = none) (ha : PA X [e] (tA X.K W g)) (hg : Gl X "list" := by rfl) (hg2 : Gl X "enumerate" := by rfl) (hs : starEach [e] X.env = [(false, eval e X.env)] := by rfl)
    (hs2 : starEach [.Call (.Name "enumerate" p2) [e] [] pos2] X.env = (false, eval (.Call (.Name "enumerate" p2) [e] [] pos2) X.env) :: starEach [] X.env := by rfl) :
    PE X (.Call (.Name "list" p) [.Call (.Name "enumerate" p2) [e] [] pos2] [] pos) (tF X.K W (eB dLEnum g)) :=
  (pe_lenum hc hg hm hg2 hm2 ha hs hs2).imp fun σ H Q w => tF_bind (rel := rds X.K) w fun ds vs H1 s1 r w1 => by
    cases hz : dLEnum ds with
    | no => rw [hz] at w1; exact w1.elim
    | ex x => rw [hz] at w1; exact w1.elim
    | ok z =>
      rw [hz] at w1
      have w1 : wF X.K H1 z Q := w1
      unfold dLEnum at hz
      split at hz
      · cases hz
        obtain ⟨v, rfl, q⟩ := rds_1 r
        unfold rd at q
        obtain ⟨a, us, rfl, q, r⟩ := q
        refine ⟨a, us, rfl, SqL.of q, fun H' p ts s2 h1 h2 h3 h4 h5 => ?_⟩
        have s3 : Same H1 (wo p H') := wo_le s2 h1
        refine w1 p H' h1 s3 ⟨p, _, rfl, rfl, h4, rds_enum s3 r ?_⟩
        have go : ∀ {ts : List Addr} {ks : List (Key × V)}, p ∉ ts → Paired (fun (t : Addr) (q : Key × V) => H' t = some (.tup [kV q.1, q.2])) ts ks → Paired (fun (t : Addr) (q : Key × V) => wo p H' t = some (.tup [kV q.1, q.2])) ts ks := by
          intro ts ks hp h
          induction h with
          | nil => exact .nil
          | cons a b ih => exact .cons (by rw [wo_ne fun e => hp (by simp [e])]; exact a) (ih fun e => hp (by simp [e]))
        exact go h3 h5
      · cases hz
/-! ### list(d.items()) -/
def itemsD (kvs : List (Key × D)) : List D := kvs.map fun kv => .tup [keyD kv.1, kv.2]
def dItems : D → R D
  | .dct kvs => .ok (.lst (itemsD kvs))
  | _ => .no
theorem rds_items {K : PySem.W.Frag} {H H' : Hp} (s : Same H H') : ∀ {kvs : List (Key × D)} {kws : List (Key × V)} {ts : List Addr}, rdk K H kvs kws → Paired (fun (t : Addr) (q : Key × V) => H' t = some (.tup [kV q.1, q.2])) ts kws → rds K H' (itemsD kvs) (ts.map V.ref)
  | [], kws, ts, r, q => by
    unfold rdk at r; subst r
    cases q
    exact rds_nil
  | (k, d) :: ds, kws, ts, r, q => by
    unfold rdk at r
    obtain ⟨v, vs, rfl, r1, r2⟩ := r
    cases q with
    | cons q1 q2 =>
      show rds K H' (.tup [keyD k, d] :: itemsD ds) _
      exact rds_cons (rd_pair q1 (keyD_rd k) (rd_mono s _ _ r1)) (rds_items s r2 q2)
theorem le_items {f : SE} {apos cpos : Pos} (hc : X.calm = true) (he : PE X e (tD X.K W f)) (hg : Gl X "list") (hm : X.mg "list" = none) (hv : bootBuiltins "list" = some (.type "list") := by decide +kernel) (hbase : attributeBase e "items" X.env (eval e X.env) = eval e X.env := by rfl) (hline : (apos.endLine == cpos.line) = true := by rfl)
    (hs : starEach [.Call (.Attribute e "items" apos) [] [] cpos] X.env = (false, eval (.Call (.Attribute e "items" apos) [] [] cpos) X.env) :: starEach [] X.env := by rfl) :
    PE X (.Call (.Name "list" p) [.Call (.Attribute e "items" apos) [] [] cpos] [] pos) (tD X.K W (e1 dItems f)) :=
  (pe_listItems hc he hg hm hv hbase hline hs).imp fun σ H Q ⟨ρ, z, w⟩ => ⟨ρ, z, pst.bind (rel := rd X.K) w fun d x H1 _ s1 r w1 => by
    obtain ⟨a, hz, k⟩ := pst_nox w1
    unfold dItems at hz
    split at hz
    · cases hz
      unfold rd at r
      obtain ⟨a, kws, rfl, q, r⟩ := r
      refine ⟨a, kws, rfl, q, fun H' p ts s2 h1 h2 h3 h4 h5 => k _ H' s2 ?_⟩
      unfold rd
      exact ⟨p, _, rfl, h4, rds_items s2 r h5⟩
    · cases hz⟩
end
end Tw

/-! TwSort: sorted(xs, key=abs), sorted(xs). -/
namespace Tw
/-! ### a stable sort by a key -/
def insBy (f : Int → Int) (x : Int) : List Int → List Int
  | [] => [x]
  | y :: ys => if f x ≤ f y then x :: y :: ys else y :: insBy f x ys
def isort (f : Int → Int) : List Int → List Int
  | [] => []
  | x :: xs => insBy f x (isort f xs)
theorem insBy_mem {f : Int → Int} {x z : Int} : ∀ {ys : List Int}, z ∈ insBy f x ys ↔ z = x ∨ z ∈ ys
  | [] => by simp [insBy]
  | y :: ys => by
    unfold insBy
    split
    · simp
    · simp only [List.mem_cons, insBy_mem (ys := ys)]
      constructor
      · rintro (h | h | h)
        · exact .inr (.inl h)
        · exact .inl h
        · exact .inr (.inr h)
      · rintro (h | h | h)
        · exact .inr (.inl h)
        · exact .inl h
        · exact .inr (.inr h)
theorem insBy_sorted {f : Int → Int} {x : Int} : ∀ {ys : List Int}, ys.Pairwise (fun a b => f a ≤ f b) → (insBy f x ys).Pairwise (fun a b => f a ≤ f b)
  | [], _ => by simp [insBy]
  | y :: ys, h => by
    unfold insBy
    have h1 := List.pairwise_cons.mp h
    split
    · rename_i hl
      refine List.pairwise_cons.mpr ⟨fun z hz => ?_, h⟩
      rcases List.mem_cons.mp hz with e | hz
      · rw [e]; exact hl
      · exact Int.le_trans hl (h1.1 z hz)
    · rename_i hl
      refine List.pairwise_cons.mpr ⟨fun z hz => ?_, insBy_sorted h1.2⟩
      rcases insBy_mem.mp hz with e | hz
      · rw [e]; omega
      · exact h1.1 z hz
theorem isort_sorted (f : Int → Int) : ∀ xs, (isort f xs).Pairwise (fun a b => f a ≤ f b)
  | [] => List.Pairwise.nil
  | x :: xs => insBy_sorted (isort_sorted f xs)
theorem insBy_filter {f : Int → Int} {x c : Int} : ∀ {ys : List Int}, (insBy f x ys).filter (fun z => f z == c) = (x :: ys).filter (fun z => f z == c)
  | [] => rfl
  | y :: ys => by
    unfold insBy
    split
    · rfl
    · rename_i hl
      simp only [List.filter_cons, insBy_filter (ys := ys)]
      by_cases h1 : f x = c
      · by_cases h2 : f y = c
        · exfalso; apply hl; rw [h1, h2]; exact Int.le_refl c
        · simp [h1, h2]
      · simp [h1]
theorem isort_filter (f : Int → Int) (c : Int) : ∀ xs, (isort f xs).filter (fun z => f z == c) = xs.filter (fun z => f z == c)
  | [] => rfl
  | x :: xs => by
    show (insBy f x (isort f xs)).filter _ = _
    rw [insBy_filter, List.filter_cons, List.filter_cons, isort_filter f c xs]
theorem sort_unique {f : Int → Int} : ∀ {xs ys : List Int}, xs.Pairwise (fun a b => f a ≤ f b) → ys.Pairwise (fun a b => f a ≤ f b) → (∀ c, xs.filter (fun z => f z == c) = ys.filter (fun z => f z == c)) → xs = ys
  | [], [], _, _, _ => rfl
  | [], y :: ys, _, _, h => by
    have := h (f y)
    simp at this
  | x :: xs, [], _, _, h => by
    have := h (f x)
    simp at this
  | x :: xs, y :: ys, hx, hy, h => by
    have hx1 := List.pairwise_cons.mp hx
    have hy1 := List.pairwise_cons.mp hy
    have e1 : f y ≤ f x := by
      have hm : x ∈ (y :: ys).filter (fun z => f z == f x) := by rw [← h (f x)]; simp
      have hm2 := (List.mem_filter.mp hm).1
      rcases List.mem_cons.mp hm2 with e | hm2
      · rw [e]; exact Int.le_refl _
      · exact hy1.1 x hm2
    have e2 : f x ≤ f y := by
      have hm : y ∈ (x :: xs).filter (fun z => f z == f y) := by rw [h (f y)]; simp
      have hm2 := (List.mem_filter.mp hm).1
      rcases List.mem_cons.mp hm2 with e | hm2
      · rw [e]; exact Int.le_refl _
      · exact hx1.1 y hm2
    have e : f x = f y := by omega
    have exy : x = y := by
      have := h (f x)
      rw [List.filter_cons, List.filter_cons] at this
      simp only [beq_self_eq_true, if_true, ← e] at this
      exact (List.cons.inj this).1
    subst exy
    rw [sort_unique hx1.2 hy1.2 fun c => by
      have := h c
      rw [List.filter_cons, List.filter_cons] at this
      split at this
      · exact (List.cons.inj this).2
      · exact this]
def absI (i : Int) : Int := if i < 0 then -i else i
section
open PySem L2
theorem obj_some {P : Program} {w : World} {H : Hp} {h : Heap} {a : Addr} : ∀ {o : HO}, ObjOk P w H h a o → ∃ ob, h.get? a = some ob
  | .lst xs, x => by obtain ⟨_, _, _, _, e⟩ := x; exact ⟨_, e⟩
  | .tup xs, x => by obtain ⟨_, _, _, o, e, _⟩ := x; exact ⟨_, e⟩
  | .dK kvs, x => by obtain ⟨_, _, _, _, o, _, _, e, _⟩ := x; exact ⟨_, e⟩
  | .dT kvs, x => by obtain ⟨_, _, _, _, o, _, _, e, _⟩ := x; exact ⟨_, e⟩
  | .set S n, x => by obtain ⟨o, _, _, _, e, _⟩ := x; exact ⟨_, e⟩
  | .ins C dx fs, x => by obtain ⟨_, _, _, e, _⟩ := x; exact ⟨_, e⟩
  | .own y, x => by obtain ⟨o, e⟩ := x; exact ⟨_, e⟩
  | .xd fs, x => by obtain ⟨_, ⟨o, _, _, e, _⟩, _⟩ := x; exact ⟨_, e⟩
  | .rng lo hi, x => by obtain ⟨_, _, _, e⟩ := x; exact ⟨_, e⟩
  | .frz o u, x => ⟨o, x.1⟩
  | .tbl ps, x => ⟨_, x⟩
  | .met f y, x => ⟨_, x⟩
  | .ext φ, x => by obtain ⟨_, ⟨o, e⟩, _⟩ := x; exact ⟨_, e⟩
/-- a new list behind one of the library's walks: all else is as it was -/
theorem Inv.newList {X : Cx} {pins : List (Addr × Obj)} {σ : L2.St} {H : Hp} {s : Shared} {h' : Heap} {tk : Nat} {m : Str → Option Value} {D : Addr} {xs : List V} {us : List Value} {c : Nat} (I : Inv X pins σ H s) (F0 : PyProof.Rows.Fr X.base X.env.locals s.heap m)
    (F : PyProof.Rows.Fr X.base X.env.locals h' m) (N : PyProof.Rows.News X.base X.env.locals h' ((D, { cls := .type "list", data := .seq us.toArray c }) :: allNews X.base s.heap X.env.locals)) (hD : ∀ q ∈ allNews X.base s.heap X.env.locals, q.1 < D) (r : Vals xs us) (hz : xs.length ≤ sizeLine) :
    H D = none ∧ Inv X pins σ (upd H D (.lst xs)) { s with heap := h', toks := tk } := by
  obtain ⟨nD1, nD2, nD3⟩ := N _ List.mem_cons_self
  have kept : ∀ b o, b ≠ X.env.locals → s.heap.get? b = some o → h'.get? b = some o := fun b o hb e => by
    cases q : X.base.get? b with
    | some u =>
      have e2 := I.bk b u q
      rw [e] at e2; cases e2
      exact F.keep b _ q
    | none => exact (N (b, o) (List.mem_cons_of_mem _ (mem_allNews hb q e))).1
  have sD : s.heap.get? D = none := by
    cases q : s.heap.get? D with
    | none => rfl
    | some o => exact absurd (hD (D, o) (mem_allNews nD2 nD3 q)) (Nat.lt_irrefl _)
  have HD : H D = none := by
    cases q : H D with
    | none => rfl
    | some o =>
      obtain ⟨ob, e⟩ := obj_some (I.hok D o q)
      rw [sD] at e; cases e
  have neD : ∀ b o, s.heap.get? b = some o → b ≠ D := fun b o e z => by rw [z, sD] at e; cases e
  have neH : ∀ b o, H b = some o → b ≠ D := fun b o e z => by rw [z, HD] at e; cases e
  refine ⟨HD, I.step (g' := s.gens) (d' := s.drawn) (ch := []) (fun _ z => nomatch z) (fun b o hb _ _ e _ => kept b o hb e) (fun b o hb _ _ e _ => ⟨o.slots, kept b o hb e⟩) (fun b o _ e n => by rw [upd_ne (neD b o e)]; exact n) (fun b o _ e => ?_)
    (fun b xs e => by rw [upd_ne (neH b _ e)]; exact e) (fun b o u e => by rw [upd_ne (neH b _ e)]; exact e) (fun b ps e => ⟨#[], by rw [upd_ne (neH b _ e), e]; simp⟩) (fun m' hm => by rw [SlX.ns_only hm F0.ns]; exact F.ns) (fun b u e => ?_) I.bare⟩
  · by_cases hb : b = X.env.locals
    · obtain ⟨o', _, _, q, _⟩ := F.ns
      exact ⟨o', by rw [hb]; exact q⟩
    · exact ⟨o, kept b o hb e⟩
  · by_cases hb : b = D
    · rw [hb, upd_same] at e
      cases e
      rw [hb]
      exact ⟨hz, us, c, r, nD1⟩
    · rw [upd_ne hb] at e
      have nl : ∀ c o, H c = some o → c ≠ X.env.locals := fun c o q z => by rw [z, I.free] at q; cases q
      refine (I.hok b u e).stay (fun d v hd q => ?_) (fun d q => by rw [upd_ne (neH d _ q)]; exact q) fun d xs q => by rw [upd_ne (neH d _ q)]; exact q
      refine kept d v ?_ q
      rcases hd with hd | hd
      · rw [hd]; exact nl b u e
      · exact nl d _ hd
variable {X : Cx} {W : WX} {e : Expr} {ta : TA} {p p2 pos kpos : Pos}
def tSortAbs (K : PySem.W.Frag) (ta : TA) : TE := fun σ H Q => ta σ H fun vs H1 => ∃ (a : Addr) (ns : List Int), vs = [V.ref a] ∧ SqL K H1 a (ns.map V.int) ∧ ∀ q, H1 q = none → Q (.ref q) (upd H1 q (.lst ((isort absI ns).map V.int)))
theorem pe_sortAbs (hc : X.calm = true) (hg : Gl X "sorted") (hm : X.mg "sorted" = none) (hg2 : Gl X "abs") (hm2 : X.mg "abs" = none) (ha : PA X [e] ta)
    (he : backTo pos (starEach [e] X.env) = (false, eval e X.env) :: backTo pos (starEach [] X.env) := by rfl) (hpl : (backTo pos (starEach [e] X.env)).any (·.1) = false := by rfl)
    (hall : (backToKw pos (keywordEach [⟨some "key", .Name "abs" p2, kpos⟩] X.env)).all (·.1.isSome) = true := by rfl) (hnone : (backToKw pos (keywordEach [⟨some "key", .Name "abs" p2, kpos⟩] X.env)).any (·.1.isNone) = false := by rfl) (hks : (backToKw pos (keywordEach [⟨some "key", .Name "abs" p2, kpos⟩] X.env)).filterMap (·.1) = [Str.ofString "key"] := by rfl) :
    PE X (.Call (.Name "sorted" p) [e] [⟨some "key", .Name "abs" p2, kpos⟩] pos) (tSortAbs X.K ta) := by
  refine ⟨fun pins s σ H Q I h => ?_⟩
  refine wpAny_Call_Name_kw (ld_blt I hg hm PyProof.Rows.boot_sorted ?_)
  refine PyProof.Rows.callWith_kw (thn (ha.run pos pins s σ H _ I h) fun us s1 ⟨vs, H1, I1, r1, q1⟩ => ?_) he hpl hall hnone
  show wpAny _ _ (evalAll [(do let v ← eval (.Name "abs" p2) X.env; standAt pos; pure v)]) _ _ s1
  refine wpAny_evalAll_cons (wpAny_bind (ld_blt I1 hg2 hm2 PyProof.Rows.boot_abs (wpAny_bind (wpAny_standAt (wpAny_pure (wpAny_evalAll_nil ?_))))))
  rw [hks]
  obtain ⟨a, ns, rfl, hs, q⟩ := q1
  obtain rfl := Vals.ref1 r1
  obtain ⟨its, rv, hl, hz⟩ := I1.list hs
  have hi := rv.ints
  obtain ⟨m, F⟩ := I1.fr
  have hzn : ns.length ≤ sizeLine := by rw [List.length_map] at hz; exact hz
  refine PyProof.Rows.ksk_letterSt (b := false) absI F (news_all (h := s1.heap)) hl.isList hi hzn (PyProof.Rows.ksk_s1 _ _) (fun _ => PyProof.Rows.ksk_l1 _ _) (fun x => PyProof.Rows.ksk_t4 "abs" x)
    (fun n t h tk own _ F' N' => PyProof.Rows.call_abs_int fun u tk2 => PyProof.Rows.KskEnd.intro F' N' fun _ hp => hp) fun D vs' ns' c h' tk F' N' hlt hI hlen hP hO _ hst => ?_
  have es : ns' = isort absI ns := sort_unique (f := absI) (by simpa using hO) (isort_sorted absI ns) fun c => (hst c).trans (isort_filter absI c ns).symm
  obtain ⟨hD, J⟩ := Inv.newList (tk := tk) I1 F F' N' hlt (vals_of_ints hI) (by rw [List.length_map, hlen]; exact hzn)
  refine ⟨.ref D, _, J, rfl, ?_⟩
  rw [es]
  exact q D hD
def dSortAbs : List D → R D
  | [.lst ds] => match asInts ds with
    | some ns => .ok (.lst ((isort absI ns).map D.int))
    | none => .no
  | _ => .no
theorem le_sortAbs {g : SA} (hc : X.calm = true) (hm : X.mg "sorted" = none) (hm2 : X.mg "abs" = none) (ha : PA X [e] (tA X.K W g)) (hg : Gl X "sorted" := by rfl) (hg2 : Gl X "abs" := by rfl)
    (he : backTo pos (starEach [e] X.env) = (false, eval e X.env) :: backTo pos (starEach [] X.env) := by rfl) (hpl : (backTo pos (starEach [e] X.env)).any (·.1) = false := by rfl)
    (hall : (backToKw pos (keywordEach [⟨some "key", .Name "abs" p2, kpos⟩] X.env)).all (·.1.isSome) = true := by rfl) (hnone : (backToKw pos (keywordEach [⟨some "key", .Name "abs" p2, kpos⟩] X.env)).any (·.1.isNone) = false := by rfl) (hks : (backToKw pos (keywordEach [⟨some "key", .Name "abs" p2, kpos⟩] X.env)).filterMap (·.1) = [Str.ofString "key"] := by rfl) :
    PE X (.Call (.Name "sorted" p) [e] [⟨some "key", .Name "abs" p2, kpos⟩] pos) (tD X.K W (eB dSortAbs g)) :=
  (pe_sortAbs hc hg hm hg2 hm2 ha he hpl hall hnone hks).imp fun σ H Q ⟨ρ, z, w⟩ => ⟨ρ, z, pst.bind (rel := rds X.K) w fun ds vs H1 _ s1 r w1 => by
    obtain ⟨a, hz, k⟩ := pst_nox w1
    unfold dSortAbs at hz
    split at hz
    · split at hz
      · rename_i ns en
        cases hz
        obtain ⟨v, rfl, q⟩ := rds_1 r
        rw [asInts_map en] at q
        unfold rd at q
        obtain ⟨a, us, rfl, q, r⟩ := q
        have ev := rds_ints r
        subst ev
        refine ⟨a, ns, rfl, SqL.of q, fun q hq => k _ _ (same_new hq) ?_⟩
        unfold rd
        exact ⟨q, _, rfl, upd_same, ints_rds⟩
      · cases hz
    · cases hz⟩
/-! ### sorted(xs), ints -/
def idI (i : Int) : Int := i
def dSort : List D → R D
  | [.lst ds] => match asInts ds with
    | some ns => .ok (.lst ((isort idI ns).map D.int))
    | none => .no
  | _ => .no
theorem sort_perm {xs ys : List Int} (hp : xs.Perm ys) (hs : xs.Pairwise (· ≤ ·)) : xs = isort idI ys := sort_unique (f := idI) hs (isort_sorted idI ys) fun c => by
  rw [isort_filter]
  have h := hp.filter (fun z => idI z == c)
  have e : ∀ l : List Int, l.filter (fun z => idI z == c) = List.replicate (l.filter (fun z => idI z == c)).length c := fun l => by
    refine List.eq_replicate_iff.mpr ⟨rfl, fun b hb => ?_⟩
    have := (List.mem_filter.mp hb).2
    simpa [idI] using this
  rw [e xs, e ys, h.length_eq]
theorem lift_sort {K : PySem.W.Frag} : LiftA K (rSortedI K) dSort := fun ds z vs H Q hz r k => by
  unfold dSort at hz
  split at hz
  · split at hz
    · rename_i ns en
      cases hz
      obtain ⟨v, rfl, q⟩ := rds_1 r
      rw [asInts_map en] at q
      unfold rd at q
      obtain ⟨a, us, rfl, q, r⟩ := q
      have ev := rds_ints r
      subst ev
      refine ⟨a, ns, rfl, SqL.of q, fun ns' p hp hs hq => k _ _ (same_new hq) ?_⟩
      rw [← sort_perm hp hs]
      unfold rd
      exact ⟨p, _, rfl, upd_same, ints_rds⟩
    · cases hz
  · cases hz
end
end Tw

/-! TwSet: {e for x in xs} of ints, its len; len(set(xs)). -/
namespace Tw
/-- how many are met, the last ahead -/
def cntR : List Int → Nat
  | [] => 0
  | y :: l => if decide (y ∈ l) = true then cntR l else cntR l + 1
theorem cntR_le : ∀ l, cntR l ≤ l.length
  | [] => Nat.le_refl _
  | y :: l => by
    have := cntR_le l
    unfold cntR
    split <;> simp <;> omega
theorem cntR_nodup : ∀ {l : List Int}, l.Nodup → cntR l = l.length
  | [], _ => rfl
  | y :: l, h => by
    obtain ⟨h1, h2⟩ := List.nodup_cons.mp h
    unfold cntR
    rw [if_neg (by simpa using h1), cntR_nodup h2]; rfl
theorem nodup_cntR : ∀ {l : List Int}, cntR l = l.length → l.Nodup
  | [], _ => List.Pairwise.nil
  | y :: l, h => by
    have hl := cntR_le l
    unfold cntR at h
    split at h
    · simp at h; omega
    · rename_i hy
      exact List.nodup_cons.mpr ⟨by simpa using hy, nodup_cntR (by simpa using h)⟩
section
open PySem PySem.Spec PyProof.Rows L2 PpSet
variable {X : Cx}
abbrev setO (w : World) (D : Addr) (l : List Int) : HO := SetO w D (fun k => decide (k ∈ l)) (cntR l)
/-- set.add of an int -/
theorem setAdd {pins : List (Addr × Obj)} {σ : L2.St} {H : Hp} {s : Shared} {E : Value → Shared → Prop} {D : Addr} {l : List Int} {y : Int} {tk : Tok} {Q : Value → Shared → Prop} (I : Inv X pins σ H s) (hD : H D = some (setO X.w D l)) (room : l.length + 1 < scanBound)
    (h : ∀ s', Inv X pins σ (upd H D (setO X.w D (y :: l))) s' → Q .none s') : wpAny (model X.prog X.w) X.A (call (.builtin "set.add") [.ref D, .int y tk]) Q E s := by
  have hc := cntR_le l
  refine setR_add (setO_get I hD) (by omega) fun h' sb new => ?_
  have new2 : SetR X.w h' D (fun k => decide (k ∈ y :: l)) (cntR (y :: l)) := by
    have z := SetR.congr new (S' := fun k => decide (k ∈ y :: l)) fun k => by
      by_cases h1 : k = y <;> by_cases h2 : k ∈ l <;> simp [h1, h2]
    unfold cntR
    exact z
  have he : ∃ u, h'.get? D = some u := by
    have ⟨o, _, _, _, ho, _⟩ := new2
    exact ⟨o, ho⟩
  exact h _ (I.write (e := D) (t' := s.toks + 1) (by rw [hD]; trivial) (.inl rfl) (fun b u hb hu => (sb.2 b hb).trans hu) he (setO_new new2))
/-- what is wanted of a block {fe for t in fi} -/
def tSetI (w : World) (K : PySem.W.Frag) (W : WX) (own : List Nat) (t : Tg) (fi : SA) (fe : SE) : TE := fun σ H Q => ∃ ρ, Rz K ρ σ H ∧ pst K (fun _ (ds : List D) (ns : List Int) => compD (compS t tTrue fe (wipeD ρ own)) ds = .ok (ns.map Tw.D.int)) W σ H (fi ρ) (fun ns H1 => ns.length + 1 < scanBound ∧
  ∀ D H', H1 D = none → Same H1 (wo D H') → H' D = some (setO w D ns.reverse) → Q (.ref D) H') ∧ ∀ ds, fi ρ = .ok ds → ∃ ns : List Int, compD (compS t tTrue fe (wipeD ρ own)) ds = .ok (ns.map Tw.D.int)
theorem pe_setI {elt tg iter : Expr} {scope : Scope} {own : List (PySem.Str × Nat)} {pos : Pos} {W : WX} {t : Tg} {fi : SA} {fe : SE} (hc : X.calm = true) (hN : X.N.Nodup) (hi : PI X tg iter (tI X.K W fi)) (ok : BlkOk X.N X.env.scope scope own)
    (hg : ∀ (s : Shared) (H : Hp) (C : Addr) (cl : List (PySem.Str × Addr)) (fp : List Addr), PG (X.blk s H scope (compEnvC scope cl C X.env) fp) tg (tTg X.K t))
    (he : ∀ (s : Shared) (H : Hp) (C : Addr) (cl : List (PySem.Str × Addr)) (fp : List Addr), PE (X.blk s H scope (compEnvC scope cl C X.env) fp) elt (tD X.K W0 fe)) (hsl : ∀ i ∈ t.slots, i ∈ own.map (·.2)) (hs : ∀ x, foldedSetIterable iter X.env x = pure x := by intro _; rfl) :
    PE X (.SetComp elt [⟨tg, iter, [], 0⟩] scope pos) (tSetI X.w X.K W (own.map (·.2)) t fi fe) := by
  refine ⟨fun pins s σ H Q I h => ?_⟩
  obtain ⟨ρ, z, w, wx⟩ := h
  rw [eval_SetComp]
  have hfree : ∀ y ∈ scope.names, y.2 = .free → ∃ c, X.env.cells.lookup y.1 = some c := fun y hy e => (ok.free y hy e).elim (fun k => I.ok.has _ (.inl k)) (fun k => I.ok.has _ (.inr k))
  -- what the walked thing gives
  have hx := hi.run pins s σ H (fun J H1 => ∃ (ds : List D) (ns : List Int), fi ρ = .ok ds ∧ Same H H1 ∧ WalkD X.K ds J H1 ∧ compD (compS t tTrue fe (wipeD ρ (own.map (·.2)))) ds = .ok (ns.map Tw.D.int) ∧ ns.length + 1 < scanBound ∧ ∀ D H', H1 D = none → Same H1 (wo D H') → H' D = some (setO X.w D ns.reverse) → Q (.ref D) H') I
    ⟨ρ, z, by
      cases e : fi ρ with
      | ok ds =>
        rw [e] at w
        obtain ⟨ns, hns⟩ := wx ds e
        exact fun J H1 s1 wk => let ⟨w1, w2⟩ := w ns H1 s1 hns; ⟨ds, ns, rfl, s1, wk, hns, w1, w2⟩
      | ex x => rw [e] at w; exact w
      | no => rw [e] at w; exact w⟩
  refine wpAny_comprehension_free rfl hs (closure_ok hfree) ok.kind (fun y hy e => by rw [ok.uniq y hy, e]) (thn hx fun xv s1 h1 => thn h1 fun itv s2 h2 => ?_)
  obtain ⟨it, fp, tn, J, H2, rfl, I2, T, st2, f2, ds, ns, _, sm, wk, hns, hz, q⟩ := h2
  refine newSet_ok (newEnv_comp ?_)
  have z2 := (z.mono sm).wipe (own.map (·.2))
  have sz : ∀ b ∈ fp, b < s2.heap.objs.size := fun b hb => let ⟨o, e, _⟩ := T.obj _ _ st2 b hb; Heap.lt_size e
  generalize hD : s2.heap.objs.size = D at sz ⊢
  have hDn : H2 D = none := I2.hok.fresh (Nat.le_of_eq hD)
  generalize hs3 : ({ s2 with heap := s2.heap.push { cls := .type "set", dict := none, data := .set #[] 0 (.fresh 0 0 (!X.w.params.followText "set-order")) } } : Shared) = s3
  have push : ∀ b o, s2.heap.get? b = some o → s3.heap.get? b = some o := fun b o e => by rw [← hs3]; exact Heap.get?_push_of_some _ e
  have sz3 : s3.heap.objs.size = D + 1 := by rw [← hs3, ← hD]; exact Heap.size_push ..
  generalize hH3 : upd H2 D (setO X.w D []) = H3
  have I3 : Inv X pins σ H3 s3 := by
    rw [← hH3, ← hs3]
    refine I2.laid (t' := s2.toks) (fun b o e => Heap.get?_push_of_some _ e) (Nat.le_of_eq hD) ?_
    rw [← hD]
    exact setO_new (SetR.congr (setR_fresh X.w) fun k => by simp)
  have H3D : H3 D = some (setO X.w D []) := by rw [← hH3, upd_same]
  have S3 : Same H2 (wo D H3) := by rw [← hH3]; exact wo_le (same_new hDn) hDn
  have f3 : ∀ b ∈ fp, FpOk X pins H3 b ∧ b < s3.heap.objs.size := fun b hb => ⟨⟨by rw [← hH3, upd_ne (Nat.ne_of_lt (sz b hb))]; exact (f2 b hb).1, (f2 b hb).2⟩, by rw [sz3]; exact Nat.lt_succ_of_lt (sz b hb)⟩
  have st3 : tn 0 s3.heap := T.keep _ _ _ st2 fun b _ o e => push b o e
  have I4 := block_start I3 ok hN f3
  have pg := hg s3 H3 s3.heap.objs.size (cellsFrom (s3.heap.objs.size + 1) scope.names (cloFrom X.env.cells scope.names [])) fp
  have pe := he s3 H3 s3.heap.objs.size (cellsFrom (s3.heap.objs.size + 1) scope.names (cloFrom X.env.cells scope.names [])) fp
  show codeAny _ _ (.compStart (.SetComp elt [⟨tg, iter, [], 0⟩] scope pos) 0 (.ref it) (.ref D) (compEnvC scope (cellsFrom (s3.heap.objs.size + 1) scope.names (cloFrom X.env.cells scope.names [])) s3.heap.objs.size X.env)) (compPost (model X.prog X.w) X.A X.xe none (EP X pins σ Q) (.ref D) s3.heap.objs.size) { s3 with heap := pushCells (s3.heap.push { cls := .type "dict", data := .dict #[] }) scope.names }
  generalize hce : compEnvC scope (cellsFrom (s3.heap.objs.size + 1) scope.names (cloFrom X.env.cells scope.names [])) s3.heap.objs.size X.env = ce at I4 pg pe ⊢
  have cL : ce.locals = s3.heap.objs.size := by subst hce; rfl
  generalize hs4 : ({ s3 with heap := pushCells (s3.heap.push { cls := .type "dict", data := .dict #[] }) scope.names } : Shared) = s4 at I4 ⊢
  have st4 : tn 0 s4.heap := T.keep _ _ _ st3 fun b _ o e => by rw [← hs4]; exact pushCells_keeps _ _ _ _ (Heap.get?_push_of_some _ e)
  have stat : ∀ {σ' : L2.St} {H' : Hp} {s' : Shared}, Inv (X.blk s3 H3 scope ce fp) [] σ' H' s' → (∀ b ∈ fp, H' b = none) → ∀ b ∈ fp, FpOk (X.blk s3 H3 scope ce fp) [] H' b := fun {σ' H' s'} I' hn b hb =>
    ⟨hn b hb, (I'.ok.exf b hb).1, I'.ok.exfs b hb, .inl hb, fun x c e => (I'.ok.exf b hb).2 x c e, fun p hp => absurd (show p ∈ ([] : List (Addr × Obj)) ++ [] from hp) (by simp)⟩
  -- a turn's state: i are done, the ints l have come (the last ahead), rest are to come
  let Tn : Nat → Hp → Prop := fun i H => i ≤ ds.length ∧ ∃ l rest : List Int, H D = some (setO X.w D l) ∧ Same H2 (wo D H) ∧ compD (compS t tTrue fe (wipeD ρ (own.map (·.2)))) (ds.drop i) = .ok (rest.map Tw.D.int) ∧ ns.reverse = rest.reverse ++ l
  have loop : codeAny (model X.prog X.w) X.A (.compLoop (.SetComp elt [⟨tg, iter, [], 0⟩] scope pos) 0 (.ref it) (.ref D) ce) (compPost (model X.prog X.w) X.A X.xe none (EP X pins σ Q) (.ref D) s3.heap.objs.size) s4 := by
    refine compLoopS_any (fun n s' => ∃ i H', n = ds.length - i ∧ Inv (X.blk s3 H3 scope ce fp) [] (wipe σ (own.map (·.2))) H' s' ∧ tn i s'.heap ∧ (∀ b ∈ fp, H' b = none) ∧ Tn i H') ?_ ds.length
      ⟨0, H3, by simp, I4, st4, fun b hb => (f3 b hb).1.1, Nat.zero_le _, [], ns, H3D, S3, hns, by simp⟩
    rintro n s5 ⟨i, H5, rfl, I5, st5, n5, hi5, l, rest, h5D, sm5, hc5, hl5⟩
    have wki := wk i (wo D H5) H5 sm5 (wo_same D H5)
    by_cases hlt : i < ds.length
    · obtain ⟨go, yl⟩ := wki.1 hlt
      refine thnF (T.item (X.blk s3 H3 scope ce fp) rfl rfl rfl hc i [] s5 _ H5 (fun _ _ => False) I5 (stat I5 n5) st5 go) fun r s6 ⟨u, hr, h6⟩ => ?_
      subst hr
      refine thnF h6 fun _ s7 ⟨x, H7, I7, r7, y7, st7, n7⟩ => ?_
      have I7' := I7.pinned (stat I7 n7) (T.obj _ _ st7)
      obtain ⟨F7, d, gr, hd, rdd⟩ := yl x H7 y7
      obtain ⟨g1, g2, g3⟩ := gr.same (wo_same D H5)
      have hp7 : F7 D = none ∧ H7 D = some (setO X.w D l) := by
        rcases gr D with ⟨a, b⟩ | ⟨a, _⟩
        · exact ⟨by rw [a]; exact wo_self D H5, by rw [b]; exact h5D⟩
        · rw [h5D] at a; cases a
      have ed : ds.drop i = d :: ds.drop (i + 1) := by
        have e1 : d = ds[i] := by rw [List.getElem?_eq_getElem hlt] at hd; exact (Option.some.inj hd).symm
        rw [e1]; exact List.drop_eq_getElem_cons hlt
      rw [ed] at hc5
      unfold compD at hc5
      obtain ⟨o, ho, hc5⟩ := R.bind_ok hc5
      obtain ⟨rest', hr', hc5⟩ := R.bind_ok hc5
      unfold compS at ho
      split at ho
      · cases ho
      · rename_i bs hb
        have ho : ((fe (setsD (wipeD ρ (own.map (·.2))) bs)).nox.bind fun e => R.ok (some e)) = .ok o := ho
        obtain ⟨e1, he1, ho⟩ := R.bind_ok ho
        have he1 := R.nox_ok he1
        cases ho
        have hc5 : Tw.D.int (rest.headD 0) = e1 ∧ (rest.tail).map Tw.D.int = rest' ∧ rest = rest.headD 0 :: rest.tail := by
          have hc5 : R.ok (e1 :: rest') = R.ok (rest.map Tw.D.int) := hc5
          cases rest with
          | nil => cases hc5
          | cons a b => cases hc5; exact ⟨rfl, rfl, rfl⟩
        obtain ⟨ee, er, erest⟩ := hc5
        refine thnF (pg.run _ s7 _ H7 x u (fun σ2 H3 => wipe σ2 (own.map (·.2)) = wipe σ (own.map (·.2)) ∧ Rz X.K (setsD (wipeD ρ (own.map (·.2))) bs) σ2 H3 ∧ H3 = H7) I7' r7
          ⟨d, F7, bs, g3, rdd, hb, fun vs rv => ⟨by rw [wipe_sets fun q hq => hsl _ (bindT_in t d bs hb q hq), wipe_wipe], Rz.sets (z2.mono ((sm5.trans g1).trans g3)) (rds_mono g3 _ _ rv), rfl⟩⟩) fun _ s8 ⟨σ8, H8, I8, hw8, z8, e8⟩ => ?_
        subst e8
        refine thnF (wpAny_tests_nil (Q := fun b s => b = true ∧ s = s8) ⟨rfl, rfl⟩) fun b s9 ⟨hb9, hs9⟩ => ?_
        subst hb9 hs9
        simp only [if_true]
        refine thnF (pe.run _ s9 σ8 H8 (fun v H4 => Same H8 H4 ∧ ∃ k, v = .int k ∧ Tw.D.int k = e1) I8 ⟨_, z8, by
          rw [he1]
          intro v H4 s4' rv
          rw [← ee] at rv
          unfold rd at rv
          exact ⟨s4', _, rv, ee⟩⟩) fun v s10 ⟨yv, H10, I10, r10, sm10, k, ek, eD⟩ => ?_
        subst ek
        obtain ⟨tkz, rfl⟩ := (show ∃ tk, v = Value.int k tk from r10)
        have ek : rest.headD 0 = k := by rw [← eD] at ee; cases ee; rfl
        have h10D : H10 D = some (setO X.w D l) := sm10 _ _ hp7.2
        have hlen : ns.length = rest.length + l.length := by
          have := congrArg List.length hl5
          simpa using this
        have hrl : rest.length = rest.tail.length + 1 := by rw [erest]; simp
        refine setAdd (X := X.blk s3 H3 scope ce fp) I10 h10D (by omega) fun s11 I11 => ?_
        have pin' : ∀ b ∈ fp, ∀ o, s7.heap.get? b = some o → s11.heap.get? b = some o ∧ (upd H10 D (setO X.w D (k :: l))) b = none := fun b hb o e =>
          let z := I11.pin (b, o) (List.mem_append_right _ (List.mem_append_right _ (mem_pinsAt hb e)))
          ⟨z.1, z.2.1⟩
        have hl : (wipe σ (own.map (·.2))).length = σ8.length := by rw [← hw8, wipe_length]
        have s11' : Same F7 (wo D (upd H10 D (setO X.w D (k :: l)))) := fun a o q => by
          have ha : a ≠ D := fun y => by rw [y, hp7.1] at q; cases q
          rw [wo_ne ha, upd_ne ha]
          exact sm10 _ _ (g3 _ _ q)
        refine ⟨ds.length - (i + 1), by omega, i + 1, upd H10 D (setO X.w D (k :: l)), rfl, (I11.unpinned (pins := [])).weak hl (fun j v e => ?_), T.keep _ _ _ st7 fun b hb o e => (pin' b hb o e).1, fun b hb => ?_, hlt, k :: l, rest.tail, upd_same, ?_, ?_, ?_⟩
        · rw [← hw8] at e
          exact (wipe_some e).1
        · obtain ⟨o, e, _⟩ := T.obj _ _ st7 b hb
          exact (pin' b hb o e).2
        · exact (sm5.trans g1).trans s11'
        · rw [hr', er]
        · rw [hl5, ← ek]
          conv => lhs; rw [erest]
          simp
    · have ei : i = ds.length := by omega
      subst ei
      refine thnF (T.done (X.blk s3 H3 scope ce fp) rfl rfl rfl hc ds.length [] s5 _ H5 (fun _ _ => False) I5 (stat I5 n5) st5 (wki.2 (Nat.le_refl _))) fun r s6 ⟨hr, I6⟩ => ?_
      subst hr
      have I7 : Inv X pins σ H5 s6 := I3.call' (ch := fp) I6.os I6.base I6.hok I6.bare fun b hb => ⟨(f3 b hb).1.2.2.2.1, (f3 b hb).1.2.1, (f3 b hb).1.2.2.2.2.1, (f3 b hb).1.2.2.2.2.2⟩
      have nC : H5 s3.heap.objs.size = none := by
        have z : H5 ce.locals = none := I6.free
        rw [cL] at z
        exact z
      obtain ⟨m, hn, _⟩ := I6.loc
      have hn : s6.heap.Ns ce.locals m := hn
      rw [cL] at hn
      rw [List.drop_length] at hc5
      have hr0 : rest = [] := by
        have hc5 : R.ok ([] : List Tw.D) = R.ok (rest.map Tw.D.int) := hc5
        cases rest with
        | nil => rfl
        | cons a b => cases hc5
      rw [hr0] at hl5
      refine ⟨m, hn, fun h'' sb => ?_⟩
      obtain ⟨f0, f1, f2', f3', f4, f5⟩ := I3.fpOk (Nat.le_refl _) nC
      exact ⟨.ref D, H5, I7.turned (t' := s6.toks) (fun b o hb e => (sb.2 b hb).trans e) f0 f1 f3' f4 f5, rfl, q D H5 hDn sm5 (by rw [h5D]; simp at hl5; rw [hl5])⟩
  exact codeAny_compStart_set loop (T.self X.A 0 _ _ _ st4 loop)
/-- len of such a set -/
def rLenO (w : World) : List V → Hp → VK → Prop := fun vs H Q => ∃ (D : Addr) (l : List Int), vs = [V.ref D] ∧ H D = some (setO w D l) ∧ l.length < scanBound ∧ Q (.int (cntR l : Nat)) H
theorem call_lenO : CallR X (.builtin "len") (rLenO X.w) := by
  intro pins s σ H xs us Q I r h
  obtain ⟨D, l, rfl, hD, hl, q⟩ := h
  obtain rfl := Vals.ref1 r
  obtain ⟨o, es, ep, t, ho, hex, hd, _, _, _, _, hf, hn, _⟩ := setO_get I hD
  have hc := cntR_le l
  have hb : scanBound = 4096 := rfl
  exact call_len_set ho hex hd hf (by rw [hn]; omega) ⟨.int (cntR l : Nat), H, I.tok _, ⟨_, by rw [hn]⟩, q⟩
end
section
open PySem L2
variable {X : Cx} {W : WX} {pos p p2 q : Pos} {fi : SA} {fe f : SE} {t : Tg}
def asNs (ds : List D) : R (List Int) := match asInts ds with
  | some ns => if decide (ns.length + 1 < scanBound) = true then .ok ns else .no
  | none => .no
/-- len({fe for t in fi}) -/
def eLenC (own : List Nat) (t : Tg) (fi : SA) (fe : SE) : SE := fun ρ => (fi ρ).bind fun ds => (compD (compS t tTrue fe (wipeD ρ own)) ds).nox.bind fun es => (asNs es).bind fun ns => .ok (.int (cntR ns.reverse : Nat))
theorem asNs_ok {es : List D} {ns : List Int} (h : asNs es = .ok ns) : es = ns.map D.int ∧ ns.length + 1 < scanBound := by
  unfold asNs at h
  split at h
  · rename_i ms e
    split at h
    · rename_i hl
      cases h
      exact ⟨asInts_map e, of_decide_eq_true hl⟩
    · cases h
  · cases h
theorem le_lenC {elt tg iter : Expr} {scope : Scope} {own : List (PySem.Str × Nat)} (hc : X.calm = true) (hN : X.N.Nodup) (hg0 : Gl X "len") (hm : X.mg "len" = none) (hi : PI X tg iter (tI X.K W fi)) (ok : BlkOk X.N X.env.scope scope own)
    (hg : ∀ (s : Shared) (H : Hp) (C : Addr) (cl : List (PySem.Str × Addr)) (fp : List Addr), PG (X.blk s H scope (compEnvC scope cl C X.env) fp) tg (tTg X.K t))
    (he : ∀ (s : Shared) (H : Hp) (C : Addr) (cl : List (PySem.Str × Addr)) (fp : List Addr), PE (X.blk s H scope (compEnvC scope cl C X.env) fp) elt (tD X.K W0 fe)) (hsl : (t.slots.all fun i => (own.map (·.2)).contains i) = true := by rfl) (hs : ∀ x, foldedSetIterable iter X.env x = pure x := by intro _; rfl)
    (he1 : starEach [.SetComp elt [⟨tg, iter, [], 0⟩] scope q] X.env = (false, eval (.SetComp elt [⟨tg, iter, [], 0⟩] scope q) X.env) :: starEach [] X.env := by rfl) (hpl : (backTo pos (starEach [] X.env)).any (·.1) = false := by rfl) :
    PE X (.Call (.Name "len" p) [.SetComp elt [⟨tg, iter, [], 0⟩] scope q] [] pos) (tD X.K W (eLenC (own.map (·.2)) t fi fe)) :=
  (pe_callB call_lenO hg0 hm (by decide +kernel) (pa_cons (pe_setI hc hN hi ok hg he (fun i hi => by
    have := List.all_eq_true.mp hsl i hi
    simpa using this) hs) pa_nil he1) (by decide) (by decide) he1 hpl).imp fun σ H Q ⟨ρ, z, w⟩ => by
    show tSetI X.w X.K W (own.map (·.2)) t fi fe σ H fun x H1 => rLenO X.w [x] H1 Q
    have key : ∀ ds, fi ρ = .ok ds → ∃ ns : List Int, compD (compS t tTrue fe (wipeD ρ (own.map (·.2)))) ds = .ok (ns.map D.int) ∧ asNs (ns.map D.int) = .ok ns := fun ds e => by
      unfold eLenC at w
      rw [e] at w
      obtain ⟨es, hes, w1⟩ := pst_nb (show pst X.K (rd X.K) W σ H ((compD (compS t tTrue fe (wipeD ρ (own.map (·.2)))) ds).nox.bind _) Q from w)
      cases e2 : asNs es with
      | ok ns =>
        have := (asNs_ok e2).1
        subst this
        exact ⟨ns, hes, e2⟩
      | ex x => unfold asNs at e2; split at e2 <;> first | cases e2 | (split at e2 <;> cases e2)
      | no => rw [e2] at w1; exact w1.elim
    refine ⟨ρ, z, pst.bind (rel := fun _ ds (ns : List Int) => compD (compS t tTrue fe (wipeD ρ (own.map (·.2)))) ds = .ok (ns.map D.int)) w fun ds ns H1 e s1 hns w1 => ?_, fun ds e => let ⟨ns, h1, _⟩ := key ds e; ⟨ns, h1⟩⟩
    obtain ⟨ns', h1, h2⟩ := key ds e
    rw [hns] at h1
    have e3 : ns.map D.int = ns'.map D.int := R.ok.inj h1
    have w1 : pst X.K (rd X.K) W σ H1 ((compD (compS t tTrue fe (wipeD ρ (own.map (·.2)))) ds).nox.bind fun es => (asNs es).bind fun ns => .ok (.int (cntR ns.reverse : Nat))) Q := w1
    rw [hns] at w1
    have w2 : pst X.K (rd X.K) W σ H1 ((asNs (ns.map D.int)).bind fun ns => .ok (.int (cntR ns.reverse : Nat))) Q := w1
    rw [e3, h2] at w2
    clear w1
    have e4 : ns' = ns := (List.map_inj_right (f := D.int) (fun a b h => by cases h; rfl)).mp e3.symm
    subst e4
    have hl := (asNs_ok h2).2
    exact ⟨hl, fun D H' hD sm hO => ⟨D, ns'.reverse, rfl, hO, by rw [List.length_reverse]; omega, w2 _ H' (sm.trans (wo_same D H')) (by unfold rd; rfl)⟩⟩
/-! ### len(set(xs)) -/
theorem firstMet_cntR {ns : List Int} : ∀ i, i ≤ ns.length → (PyProof.Rows.firstMet (fun i => ns.getD i 0) i).length = cntR (ns.take i).reverse ∧ ∀ k, (PyProof.Rows.firstMet (fun i => ns.getD i 0) i).any (· == k) = decide (k ∈ ns.take i)
  | 0, _ => ⟨rfl, fun k => by simp [PyProof.Rows.firstMet_zero]⟩
  | i + 1, hi => by
    obtain ⟨h1, h2⟩ := firstMet_cntR (ns := ns) i (by omega)
    have hlt : i < ns.length := hi
    have e1 : ns.getD i 0 = ns[i] := by rw [List.getD_eq_getElem?_getD, List.getElem?_eq_getElem hlt]; rfl
    have e2 : ns.take (i + 1) = ns.take i ++ [ns[i]] := by rw [List.take_add_one, List.getElem?_eq_getElem hlt]; rfl
    rw [PyProof.Rows.firstMet_succ, e2]
    have e3 : PyProof.Rows.step_dedup (PyProof.Rows.firstMet (fun i => ns.getD i 0) i) (ns.getD i 0) = if decide (ns[i] ∈ ns.take i) = true then PyProof.Rows.firstMet (fun i => ns.getD i 0) i else PyProof.Rows.firstMet (fun i => ns.getD i 0) i ++ [ns[i]] := by
      unfold PyProof.Rows.step_dedup
      rw [h2, e1]
    rw [e3, List.reverse_append]
    clear e3 e2 e1
    generalize PyProof.Rows.firstMet (fun i => ns.getD i 0) i = M at h1 h2 ⊢
    generalize ns.take i = T at h1 h2 ⊢
    generalize ns[i] = y
    have e5 : [y].reverse ++ T.reverse = y :: T.reverse := rfl
    rw [e5]
    unfold cntR
    by_cases hm : y ∈ T
    · rw [if_pos (by simpa using hm), if_pos (by simpa using hm)]
      refine ⟨h1, fun k => ?_⟩
      rw [h2]
      by_cases hk : k = y
      · subst hk; simp [hm]
      · simp [hk]
    · rw [if_neg (by simpa using hm), if_neg (by simpa using hm)]
      refine ⟨by simp [h1], fun k => ?_⟩
      rw [List.any_append, h2]
      by_cases hk : k = y
      · subst hk; simp
      · have : (y == k) = false := by simpa using fun h => hk h.symm
        simp [hk, this]
def dLenSet : D → R D
  | .lst ds => (asNs ds).bind fun ns => .ok (.int (cntR ns.reverse : Nat))
  | _ => .no
theorem le_lenSet {a : Expr} (hg : Gl X "len") (hm : X.mg "len" = none) (hg2 : Gl X "set") (hm2 : X.mg "set" = none) (ha : PE X a (tD X.K W f)) (hc : X.calm = true := by rfl)
    (na : starEach [a] X.env = (false, eval a X.env) :: starEach [] X.env := by rfl) : PE X (.Call (.Name "len" p) [.Call (.Name "set" p2) [a] [] q] [] pos) (tD X.K W (e1 dLenSet f)) := by
  refine ⟨fun pins s σ H Q I ⟨ρ, z, w⟩ => ?_⟩
  refine PyProof.Rows.Call_ (ld_blt I hg hm boot_len ?_)
  refine PyProof.Rows.callWith_builtin1 (PyProof.Rows.args_cons ?_ rfl) rfl rfl
  refine PyProof.Rows.Call_ (ld_blt I hg2 hm2 PyProof.Rows.boot_set ?_)
  refine PyProof.Rows.callWith_type1 (PyProof.Rows.args_cons (thn (ha.run pins s σ H (fun x H1 => ∃ (l : Addr) (ns : List Int), x = .ref l ∧ SqL X.K H1 l (ns.map V.int) ∧ ns.length + 1 < scanBound ∧ Q (.int (cntR ns.reverse : Nat)) H1) I ⟨ρ, z, ?_⟩) fun v s1 ⟨x, H1, I1, r1, q1⟩ => PyProof.Rows.args_nil ?_) na) na rfl
  · refine pst.bind (rel := rd X.K) w fun d v H1 _ s1 r w1 => ?_
    obtain ⟨a, hz, k⟩ := pst_nox w1
    unfold dLenSet at hz
    split at hz
    · rename_i ds
      obtain ⟨ns, hns, hz⟩ := R.bind_ok hz
      cases hz
      obtain ⟨rfl, hl⟩ := asNs_ok hns
      unfold rd at r
      obtain ⟨a, us, rfl, q, r⟩ := r
      have ev := rds_ints r
      subst ev
      exact ⟨a, ns, rfl, SqL.of q, hl, k _ H1 (Same.refl H1) (by unfold rd; rfl)⟩
    · cases hz
  obtain ⟨l, ns, rfl, hq, hl, q1⟩ := q1
  cases r1
  obtain ⟨its, r, pl, hz⟩ := I1.list hq
  have hlen : its.toArray.size = ns.length := by rw [List.size_toArray, ← r.length, List.length_map]
  have hb : scanBound = 4096 := rfl
  refine PySem.call_set_list (I1.ok.hd hc) pl.isList (ns := ns) (by simpa using r.ints) (by rw [hlen]; exact hl) fun h' tk hS hk => ?_
  refine PyProof.Rows.args_nil ?_
  rw [hlen, (firstMet_cntR ns.length (Nat.le_refl _)).1, List.take_length] at hS
  obtain ⟨o, es, ep, t, ho, hex, hd, _, _, _, hf, hn⟩ := hS
  have I2 : Inv X pins σ H1 { s1 with heap := h', toks := tk } := I1.kept fun b o e => hk b o (Heap.lt_size e) e
  have hcl := cntR_le ns.reverse
  rw [List.length_reverse] at hcl
  exact call_len_set ho hex hd hf (by rw [hn]; omega) ⟨.int (cntR ns.reverse : Nat), H1, I2.tok _, ⟨_, by rw [hn]⟩, q1⟩
end
end Tw

/-! TwFB: a new list of flat items, whatever is read for it. -/
namespace Tw
open PySem L2
def flatL : D → Bool
  | .lst ds => ds.all D.flat
  | _ => false
theorem rds_flat {K : PySem.W.Frag} {H H' : Hp} : ∀ {ds : List D} {vs : List V}, ds.all D.flat = true → rds K H ds vs → rds K H' ds vs
  | [], vs, _, h => by unfold rds at h; subst h; exact rds_nil
  | d :: ds, vs, c, h => by
    unfold rds at h
    obtain ⟨v, r, rfl, q, z⟩ := h
    simp only [List.all_cons, Bool.and_eq_true] at c
    exact rds_cons (rd_flat c.1 q) (rds_flat c.2 z)
/-- the slot gets a new list of flat items; what is owned stays owned -/
def sSetL (i : Nat) (f : SE) : SS := fun ρ => step (f (frz ρ)) ρ fun d => if flatL d = true then .nx (ρ.set i (.fz d)) else .no
section
variable {X : Cx} {W : WX} {elt tg iter : Expr} {ifs : List Expr} {scope : Scope} {own : List (Str × Nat)} {t : Tg} {fi : SA} {ft : ST} {fe f : SE} {pos : Pos}
theorem setL_core {i : Nat} {D : Ends} {σ : St} {H : Hp} (w : tS X.K W (sSetL i f) D σ H) : tF X.K W f σ H fun v H' => D.nx (σ.set i (some v)) H' := by
  obtain ⟨H0, ρ, ⟨fp, A⟩, l⟩ := w
  refine ⟨frz ρ, A.rz_frz, ?_⟩
  unfold sSetL at l
  cases e : f (frz ρ) with
  | ok d =>
    rw [e] at l
    intro p H' hp s r
    have l : Lead X.K W H0 D (if flatL d = true then .nx (ρ.set i (.fz d)) else .no) := l
    by_cases hf : flatL d = true
    · rw [if_pos hf] at l
      cases d with
      | lst ds =>
        obtain ⟨p', vs, e1, e2, e3, r⟩ := r
        cases e1
        have A' := A.grown (s.trans (wo_same p H'))
        refine l _ _ ⟨fp, A'.setFz ?_⟩
        unfold rd
        refine ⟨p, vs, rfl, ?_, rds_flat hf r⟩
        rw [un_in]
        · exact e3
        · intro hm
          obtain ⟨o, ho⟩ := A.hidL.here hm
          rw [hp] at ho; cases ho
      | _ => cases hf
    · rw [if_neg hf] at l; exact l.elim
  | ex x =>
    rw [e] at l
    exact fun c oa H' s r => l c oa σ H' ((A.rz_hid.mono (un_same _ _)).mono s) ((A.s0.trans (un_same _ _)).trans s) r
  | no => rw [e] at l; exact l.elim
theorem ls_setL {i : Nat} {y : Str} {py spos : Pos} (hc : X.calm = true) (hN : X.N.Nodup) (hy : X.N[i]? = some y) (hyl : X.env.scope.names.lookup y = some .local)
    (hsw : swapsWith (.ListComp elt [⟨tg, iter, ifs, 0⟩] scope pos) (some (.Name y py)) spos.line X.env = pure true) (hi : PI X tg iter (tI X.K W fi)) (ok : BlkOk X.N X.env.scope scope own)
    (hg : ∀ (s : Shared) (H : Hp) (C : Addr) (cl : List (Str × Addr)) (fp : List Addr), PG (X.blk s H scope (compEnvC scope cl C X.env) fp) tg (tTg X.K t)) (ht : ∀ (s : Shared) (H : Hp) (C : Addr) (cl : List (Str × Addr)) (fp : List Addr), PTs (X.blk s H scope (compEnvC scope cl C X.env) fp) ifs (tT X.K W0 ft))
    (he : ∀ (s : Shared) (H : Hp) (C : Addr) (cl : List (Str × Addr)) (fp : List Addr), PE (X.blk s H scope (compEnvC scope cl C X.env) fp) elt (tD X.K W0 fe)) (hsl : (t.slots.all fun i => (own.map (·.2)).contains i) = true := by rfl) (hs : ∀ x, foldedSetIterable iter X.env x = pure x := by intro _; rfl) :
    PS X (.Assign [.Name y py] (.ListComp elt [⟨tg, iter, ifs, 0⟩] scope pos) spos) (tS X.K W (sSetL i (eComp (own.map (·.2)) t fi ft fe))) :=
  (ps_setLc hc hN hy hyl hsw hi ok hg ht (fun s H C cl fp => (he s H C cl fp).frame) hs).imp fun D σ H w => lc_liftF (in_own hsl) σ H _ (setL_core w)
end
end Tw

/-! TwIns: isinstance, fields, methods, own classes. -/
namespace Tw
open PySem L2
/-! ### isinstance -/
def tagD : D → Option String
  | .non => some "NoneType"
  | .bl _ => some "bool"
  | .int _ => some "int"
  | .str _ => some "str"
  | .tup _ => some "tuple"
  | .lst _ => some "list"
  | .scr _ => some "list"
  | .dct _ => some "dict"
  | .ins _ _ => none
  | .exn _ _ _ => none
def tagL : List String := ["NoneType", "bool", "int", "str", "tuple", "list", "dict"]
def isT (T a : String) : Bool := a == T || (a == "bool" && T == "int")
theorem tagD_mem {d : D} {a : String} (h : tagD d = some a) : a ∈ tagL := by
  cases d <;> first | (cases h; done) | (cases h; decide)
theorem tag_ty {K : PySem.W.Frag} {H : Hp} {d : D} {v : V} {a : String} (h : tagD d = some a) (r : rd K H d v) : TyX K H v (.type a) := by
  cases d with
  | non => cases h; unfold rd at r; subst r; exact .base .non
  | bl b => cases h; unfold rd at r; subst r; exact .base (.bl b)
  | int b => cases h; unfold rd at r; subst r; exact .base (.int b)
  | str b => cases h; unfold rd at r; subst r; exact .base (.str b)
  | tup b => cases h; unfold rd at r; obtain ⟨a, vs, rfl, e, _⟩ := r; exact .base (.tup e)
  | lst b => cases h; unfold rd at r; obtain ⟨a, vs, rfl, e, _⟩ := r; exact .base (.lst e)
  | dct b => cases h; unfold rd at r; obtain ⟨a, vs, rfl, e, _⟩ := r; exact .base (.dK e)
  | scr b =>
    cases h; unfold rd at r
    obtain ⟨a, rfl, q⟩ := r
    rcases q with (q | ⟨o, q⟩) | ⟨o, its, n, q, c, _⟩
    · exact .base (.lst q)
    · exact .base (.frz q)
    · exact .kList q c
  | ins C fs => cases h
  | exn _ _ _ => cases h
/-- what is asked of an own class whose instances are looked at -/
structure InsT (K : PySem.W.Frag) (C : Str) : Prop where
  cls : Cls K (He.ga K C)
  ha : PySem.W.findIn K (.ref (He.ga K C)) "__class__" = some (some (.builtin "object.__class__"))
  hn : PySem.W.specialIn K (.builtin "object.__class__") "__get__" = some (some (.builtin "getset_descriptor.__get__"))
  ht : PySem.W.takesIn K (.builtin "object.__class__") = some true
  hm : PySem.W.mroIn K (He.ga K C) (.type "object") = some true
def insCk (C : Str) (K : PySem.W.Frag) : Bool := (He.Fa.cls C).ok K && (decide (PySem.W.findIn K (.ref (He.ga K C)) "__class__" = some (some (.builtin "object.__class__"))) && (decide (PySem.W.specialIn K (.builtin "object.__class__") "__get__" = some (some (.builtin "getset_descriptor.__get__"))) &&
  (decide (PySem.W.takesIn K (.builtin "object.__class__") = some true) && decide (PySem.W.mroIn K (He.ga K C) (.type "object") = some true))))
theorem ins_of {C : Str} {K : PySem.W.Frag} (h : insCk C K = true) : InsT K C := by
  obtain ⟨h1, h⟩ := He.ba h
  obtain ⟨h2, h⟩ := He.ba h
  obtain ⟨h3, h⟩ := He.ba h
  obtain ⟨h4, h5⟩ := He.ba h
  exact ⟨He.cls_ok h1, of_decide_eq_true h2, of_decide_eq_true h3, of_decide_eq_true h4, of_decide_eq_true h5⟩
abbrev ClT := List (Str × List Str)
/-- the classes tb with the classes that they stand under; nms: classes asked for -/
structure KT (K : PySem.W.Frag) (tb : ClT) (nms : List Str) : Prop where
  ins : ∀ C sups, (C, sups) ∈ tb → InsT K C
  own : ∀ C sups, (C, sups) ∈ tb → ∀ C' ∈ nms, PySem.W.kitOne K (.ref (He.ga K C)) (.ref (He.ga K C')) = some (sups.contains C')
  bty : ∀ C sups, (C, sups) ∈ tb → ∀ T ∈ tagL, PySem.W.kitOne K (.ref (He.ga K C)) (.type T) = some false
  oty : ∀ C' ∈ nms, ∀ a ∈ tagL, PySem.W.kitOne K (.type a) (.ref (He.ga K C')) = some false
def ktCk (tb : ClT) (nms : List Str) (K : PySem.W.Frag) : Bool := (tb.all fun p => insCk p.1 K) && ((tb.all fun p => nms.all fun C' => decide (PySem.W.kitOne K (.ref (He.ga K p.1)) (.ref (He.ga K C')) = some (p.2.contains C'))) &&
  ((tb.all fun p => tagL.all fun T => decide (PySem.W.kitOne K (.ref (He.ga K p.1)) (.type T) = some false)) && (nms.all fun C' => tagL.all fun a => decide (PySem.W.kitOne K (.type a) (.ref (He.ga K C')) = some false))))
theorem kt_of {tb : ClT} {nms : List Str} {K : PySem.W.Frag} (h : ktCk tb nms K = true) : KT K tb nms := by
  obtain ⟨h1, h⟩ := He.ba h
  obtain ⟨h2, h⟩ := He.ba h
  obtain ⟨h3, h4⟩ := He.ba h
  refine ⟨fun C sups m => ins_of (List.all_eq_true.mp h1 _ m), fun C sups m C' m' => ?_, fun C sups m T mT => ?_, fun C' m' a ma => ?_⟩
  · exact of_decide_eq_true (List.all_eq_true.mp (List.all_eq_true.mp h2 _ m) _ m')
  · exact of_decide_eq_true (List.all_eq_true.mp (List.all_eq_true.mp h3 _ m) _ mT)
  · exact of_decide_eq_true (List.all_eq_true.mp (List.all_eq_true.mp h4 _ m') _ ma)
theorem ins_ty {K : PySem.W.Frag} {H : Hp} {C : Str} {fs : List (Str × D)} {v : V} (T : InsT K C) (r : rd K H (.ins C fs) v) : TyX K H v (.ref (He.ga K C)) := by
  unfold rd at r
  obtain ⟨a, dx, gs, rfl, e, _⟩ := r
  exact .base (.ins e T.cls T.ha T.hn T.ht T.hm)
theorem lookup_tb {tb : ClT} {C : Str} {sups : List Str} (h : tb.lookup C = some sups) : (C, sups) ∈ tb := PySem.mem_of_lookup h
/-- isinstance(x, a built-in type) -/
def dIsT (tb : ClT) (T : String) : D → R D := fun d => match d with
  | .ins C _ => match tb.lookup C with
    | some _ => .ok (.bl false)
    | none => .no
  | d => match tagD d with
    | some a => .ok (.bl (isT T a))
    | none => .no
/-- isinstance(x, an own class) -/
def dIsO (tb : ClT) (C' : Str) : D → R D := fun d => match d with
  | .ins C _ => match tb.lookup C with
    | some sups => .ok (.bl (sups.contains C'))
    | none => .no
  | .exn _ _ _ => .no
  | _ => .ok (.bl false)
section
variable {X : Cx} {W : WX} {e o : Expr} {es : List Expr} {pos p p2 apos : Pos} {f : SE} {h : SA} {tb : ClT} {nms : List Str}
theorem le_isT {T : Str} {ts : String} (hT : bootBuiltins T = some (.type ts)) (B : KT X.K tb nms) (hk : (tagL.all fun a => decide (kitB a ts = some (isT ts a))) = true) (hts : ts ∈ tagL) (hm : X.mg "isinstance" = none) (hmT : X.mg T = none) (ha : PE X e (tD X.K W f))
    (hg : Gl X "isinstance" := by rfl) (hgT : Gl X T := by rfl) (hn : T ≠ "__name__" := by decide) (hd : (T == ("__debug__" : Str)) = false := by decide)
    (he : starEach [e, .Name T p2] X.env = (false, eval e X.env) :: starEach [.Name T p2] X.env := by rfl) (he2 : starEach [.Name T p2] X.env = (false, eval (.Name T p2) X.env) :: starEach [] X.env := by rfl)
    (hpl : (backTo pos (starEach [.Name T p2] X.env)).any (·.1) = false := by rfl) :
    PE X (.Call (.Name "isinstance" p) [e, .Name T p2] [] pos) (tD X.K W (e1 (dIsT tb ts) f)) :=
  (pe_callB call_isi hg hm PyProof.Rows.boot_isinstance (pa_cons ha (pa_cons (pe_bltn (v := .ty ts) hgT hmT hT rfl hn hd) pa_nil he2) he) (by decide) (by decide) he hpl).imp fun σ H Q ⟨ρ, z, w⟩ => ⟨ρ, z, pst.bind (rel := rd X.K) w fun d v H1 _ s1 r w1 => by
    obtain ⟨a, hz, k⟩ := pst_nox w1
    show rIsi X.K [v, .ty ts] H1 Q
    unfold dIsT at hz
    split at hz
    · rename_i C fs
      split at hz
      · rename_i sups hl
        cases hz
        exact ⟨v, .ty ts, _, .type ts, false, rfl, .ty ts, ins_ty (B.ins _ _ (lookup_tb hl)) r, B.bty _ _ (lookup_tb hl) _ hts, k _ H1 (Same.refl H1) (by unfold rd; rfl)⟩
      · cases hz
    · rename_i d hd
      split at hz
      · rename_i a' ht
        cases hz
        exact ⟨v, .ty ts, .type a', .type ts, isT ts a', rfl, .ty ts, tag_ty ht r, kit_ty (of_decide_eq_true (List.all_eq_true.mp hk _ (tagD_mem ht))), k _ H1 (Same.refl H1) (by unfold rd; rfl)⟩
      · cases hz⟩
theorem le_isO {C : Str} (B : KT X.K tb nms) (hC : C ∈ nms) (hm : X.mg "isinstance" = none) (hmC : X.mg C = some (.ref (He.ga X.K C))) (ha : PE X e (tD X.K W f))
    (hg : Gl X "isinstance" := by rfl) (hgC : Gl X C := by rfl) (hd : (C == ("__debug__" : Str)) = false := by decide)
    (he : starEach [e, .Name C p2] X.env = (false, eval e X.env) :: starEach [.Name C p2] X.env := by rfl) (he2 : starEach [.Name C p2] X.env = (false, eval (.Name C p2) X.env) :: starEach [] X.env := by rfl)
    (hpl : (backTo pos (starEach [.Name C p2] X.env)).any (·.1) = false := by rfl) :
    PE X (.Call (.Name "isinstance" p) [e, .Name C p2] [] pos) (tD X.K W (e1 (dIsO tb C) f)) :=
  (pe_callB call_isi hg hm PyProof.Rows.boot_isinstance (pa_cons ha (pa_cons (pe_glob (v := .ref (He.ga X.K C)) hgC hmC rfl hd) pa_nil he2) he) (by decide) (by decide) he hpl).imp fun σ H Q ⟨ρ, z, w⟩ => ⟨ρ, z, pst.bind (rel := rd X.K) w fun d v H1 _ s1 r w1 => by
    obtain ⟨a, hz, k⟩ := pst_nox w1
    show rIsi X.K [v, .ref (He.ga X.K C)] H1 Q
    have bl : ∀ a', tagD d = some a' → dIsO tb C d = .ok (.bl false) → rIsi X.K [v, .ref (He.ga X.K C)] H1 Q := fun a' ht he => by
      rw [he] at hz
      cases hz
      exact ⟨v, .ref _, .type a', .ref _, false, rfl, .own _, tag_ty ht r, B.oty _ hC _ (tagD_mem ht), k _ H1 (Same.refl H1) (by unfold rd; rfl)⟩
    cases d with
    | ins C' fs =>
      have hz : (match tb.lookup C' with | some sups => R.ok (D.bl (sups.contains C)) | none => .no) = .ok a := hz
      cases hl : tb.lookup C' with
      | none => rw [hl] at hz; cases hz
      | some sups =>
        rw [hl] at hz
        cases hz
        exact ⟨v, .ref _, _, .ref _, _, rfl, .own _, ins_ty (B.ins _ _ (lookup_tb hl)) r, B.own _ _ (lookup_tb hl) _ hC, k _ H1 (Same.refl H1) (by unfold rd; rfl)⟩
    | exn _ _ _ => cases hz
    | _ => exact bl _ rfl rfl⟩
/-! ### fields -/
theorem rdf_lookup {K : PySem.W.Frag} {H : Hp} {f : Str} {d : D} : ∀ {fs : List (Str × D)} {gs : List (Str × V)}, rdf K H fs gs → fs.lookup f = some d → ∃ v, gs.lookup f = some v ∧ rd K H d v
  | [], gs, r, h => by cases h
  | (g, e) :: fs, gs, r, h => by
    unfold rdf at r
    obtain ⟨v, r', rfl, q, z⟩ := r
    rw [List.lookup_cons] at h ⊢
    cases hb : f == g with
    | true => rw [hb] at h; cases h; exact ⟨v, rfl, q⟩
    | false => rw [hb] at h; exact rdf_lookup z h
theorem rdf_none {K : PySem.W.Frag} {H : Hp} {f : Str} : ∀ {fs : List (Str × D)} {gs : List (Str × V)}, rdf K H fs gs → fs.lookup f = none → gs.lookup f = none
  | [], gs, r, h => by unfold rdf at r; subst r; rfl
  | (g, e) :: fs, gs, r, h => by
    unfold rdf at r
    obtain ⟨v, r', rfl, q, z⟩ := r
    rw [List.lookup_cons] at h ⊢
    cases hb : f == g with
    | true => rw [hb] at h; cases h
    | false => rw [hb] at h; exact rdf_none z h
/-- the classes Cs have no class attribute f -/
structure FldT (K : PySem.W.Frag) (Cs : List Str) (f : Str) : Prop where
  ok : ∀ C ∈ Cs, Cls K (He.ga K C) ∧ NoAttr K (He.ga K C) f
def fldCk (Cs : List Str) (f : Str) (K : PySem.W.Frag) : Bool := Cs.all fun C => (He.Fa.cls C).ok K && (He.Fa.noat C f).ok K
theorem fld_of {Cs : List Str} {f : Str} {K : PySem.W.Frag} (h : fldCk Cs f K = true) : FldT K Cs f := ⟨fun C m => by
  obtain ⟨h1, h2⟩ := He.ba (List.all_eq_true.mp h C m)
  exact ⟨He.cls_ok h1, He.noat_ok h2⟩⟩
def dFld (Cs : List Str) (f : Str) : D → R D := fun d => match d with
  | .ins C fs => if Cs.contains C = true then R.of (fs.lookup f) else .no
  | _ => .no
theorem le_fld {Cs : List Str} {fl : Str} (F : FldT X.K Cs fl) (he : PE X e (tD X.K W f)) (hb : attributeBase e fl X.env (eval e X.env) = eval e X.env := by rfl) : PE X (.Attribute e fl pos) (tD X.K W (e1 (dFld Cs fl) f)) :=
  (pe_fld he hb).imp fun σ H Q ⟨ρ, z, w⟩ => ⟨ρ, z, pst.bind (rel := rd X.K) w fun d v H1 _ s1 r w1 => by
    obtain ⟨a, hz, k⟩ := pst_nox w1
    cases d with
    | ins C fs =>
      have hz : (if Cs.contains C = true then R.of (fs.lookup fl) else .no) = .ok a := hz
      by_cases hc : Cs.contains C = true
      · rw [if_pos hc] at hz
        have hl : fs.lookup fl = some a := by
          cases q : fs.lookup fl with
          | none => rw [q] at hz; cases hz
          | some b => rw [q] at hz; cases hz; rfl
        unfold rd at r
        obtain ⟨x, dx, gs, rfl, ex, rf⟩ := r
        obtain ⟨u, hu, ru⟩ := rdf_lookup rf hl
        obtain ⟨c, n⟩ := F.ok C (by simpa using hc)
        exact ⟨x, _, dx, gs, u, rfl, ex, c, n, hu, k _ H1 (Same.refl H1) ru⟩
      · rw [if_neg hc] at hz; cases hz
    | _ => cases hz⟩
/-! ### methods -/
/-- a method of an own class that keeps the promise m (self ahead) -/
structure CalleeM (P : Program) (w : World) (K : PySem.W.Frag) (mg : Str → Option Value) (base : Heap) (C mt : Str) (k n : Nat) (m : List D → R D) : Prop where
  ex : ∃ f fd ps, FnOk P w K mg base (L2.CX P w) k f fd ps (spD K n m) ∧ Cls K (He.ga K C) ∧ Meth K (He.ga K C) mt f ∧ Binds K fd ps []
def eMeth (C mt : Str) (m : List D → R D) (f : SE) (h : SA) : SE := fun ρ => (f ρ).bind fun d => match d with
  | .ins C' fs => if (decide (C' = C) && (fs.lookup mt).isNone) = true then (h ρ).bind fun ds => m (d :: ds) else .no
  | _ => .no
theorem le_meth {k n : Nat} {C mt : Str} {m : List D → R D} {pl : Sem Bool} (M : CalleeM X.prog X.w X.K X.mg X.base C mt k (n + 1) m) (hr : Room k X.A) (hx : ∀ σ, PassesAt (L2.CX X.prog X.w) X σ (fun c oa H => W c oa σ H)) (ho : PE X o (tD X.K W f)) (ha : PA X (e :: es) (tA X.K W h)) (hn : ALen h n)
    (hst : starEach (e :: es) X.env = (false, eval e X.env) :: starEach es X.env := by rfl) (hpl : (backTo pos (starEach es X.env)).any (·.1) = false := by rfl)
    (ht : eval (.Call (.Attribute o mt apos) (e :: es) [] pos) X.env = (do
      let ov ← eval o X.env
      standAt apos.atName
      let (f, first) ← holding [ov] (getMethod ov mt pl)
      callWith pos f first (backTo pos (starEach (e :: es) X.env)) (backToKw pos (keywordEach [] X.env))) := by rfl) :
    PE X (.Call (.Attribute o mt apos) (e :: es) [] pos) (tD X.K W (eMeth C mt m f h)) := by
  obtain ⟨fa, fd, ps, F, c, hm, hb⟩ := M.ex
  refine ⟨fun pins s σ H Q I ⟨ρ, z, w⟩ => ?_⟩
  refine PySem.W.methodCall_KW (pl := pl) (thn (ho.run pins s σ H (fun x H1 => ∃ a dx gs d, x = .ref a ∧ H1 a = some (.ins (He.ga X.K C) dx gs) ∧ gs.lookup mt = none ∧ rd X.K H1 d (.ref a) ∧ Same H H1 ∧ pst X.K (rd X.K) W σ H1 ((h ρ).bind fun ds => m (d :: ds)) Q) I ⟨ρ, z, ?_⟩)
    fun u s1 ⟨x, H1, I1, rx, a, dx, gs, d, ex, ea, l, rd1, sm, w1⟩ => ?_) ht
  · refine pst.bind (rel := rd X.K) w fun d v H1 _ s1 r w1 => ?_
    cases d with
    | ins C' fs =>
      have w2 : pst X.K (rd X.K) W σ H1 (if (decide (C' = C) && (fs.lookup mt).isNone) = true then (h ρ).bind fun ds => m (.ins C' fs :: ds) else .no) Q := w1
      clear w1
      by_cases hc : (decide (C' = C) && (fs.lookup mt).isNone) = true
      · rw [if_pos hc] at w2
        obtain ⟨hc1, hc2⟩ := He.ba hc
        have := of_decide_eq_true hc1
        subst this
        have r' := r
        unfold rd at r
        obtain ⟨a, dx, gs, rfl, ea, rf⟩ := r
        exact ⟨a, dx, gs, _, rfl, ea, rdf_none rf (Option.isNone_iff_eq_none.mp hc2), r', s1, w2⟩
      · rw [if_neg hc] at w2; exact w2.elim
    | _ => exact w1.elim
  subst ex
  obtain rfl : u = Value.ref a := rx
  refine getmeth_ok I1 ea c hm l ?_
  refine PySem.W.callWith_K (first := [.ref a]) (h₀ := X.base) I.ok.mod.kin hm.kp (thn (ha.run pos pins s1 σ H1 (fun vs H2 => spD X.K (n + 1) m (.ref a :: vs) H2 Q fun c oa H => W c oa σ H) I1 ⟨ρ, z.mono sm, pst.bind (rel := rds X.K) w1 fun ds vs H2 ed s2 rds2 w2 => ?_⟩) fun us s2 ⟨vs, H2, I2, r, q2⟩ => ⟨I2.kIn, ?_⟩) hst hpl
  rotate_left
  · refine run_fnSD (E := fun σ c oa H => W c oa σ H) (us := .ref a :: us) (vs := .ref a :: vs) F hr hb .nil (hx σ) I2 (.cons rfl r) ?_
    rw [List.append_nil]
    exact q2
  · refine ⟨d :: ds, by simp [hn ρ ds ed], rds_cons (rd_mono s2 _ _ rd1) rds2, ?_⟩
    cases em : m (d :: ds) with
    | ok y => rw [em] at w2; exact w2
    | ex y => rw [em] at w2; exact w2
    | no => rw [em] at w2; exact w2
theorem calleeM_tw {P : Program} {w : World} {K : PySem.W.Frag} {mg : Str → Option Value} {base : Heap} {C x qual : Str} {params : Arguments} {body : List Stmt} {scope : Scope} {f : Addr} {fd : FuncData} {N ps : List Str} {k : Nat} {g : SS}
    (F : FunD K x qual params body scope [] [] f fd) (hc : Cls K (He.ga K C)) (hm : Meth K (He.ga K C) x f) (S : FnScope N ps scope)
    (hbind : ∀ (kV doc pm : Value) (an : Option Addr) (cdv ct : Value) (us : List Value), us.length = ps.length → bindArgs (PySem.W.fnOf x qual params body scope .none kV doc pm an cdv ct) ⟨us, []⟩ = pure (ps.zip us))
    (hb : ∀ (cdv : Value) (A : Around) (outer : List Env) (s : Shared) (H : Hp) (E : XK), Room k (A.deeper (PyProof.Rows.envOfC qual scope s.heap.objs.size f cdv)) →
      (∀ σ, PassesAt (L2.CX P w) (cxOf (L2.CX P w) P w K mg base N qual scope f cdv A outer s H E) σ (fun c oa H => E c oa H)) →
      PSs (cxOf (L2.CX P w) P w K mg base N qual scope f cdv A outer s H E) body (tS K (fun c oa _ H => E c oa H) g)) : CalleeM P w K mg base C x (k + 1) ps.length (runD N.length g) :=
  ⟨f, fd, ps, fn_tw F S fun cdv A outer s H E hr => hb cdv A outer s H E hr fun σ => passAt (W := fun c oa _ H => E c oa H) (takes_of rfl rfl rfl rfl) σ, hc, hm, F.bindsN hbind⟩
end
end Tw

/-! TwMake: own classes' instances made. -/
namespace Tw
open PySem L2
abbrev FD := List (Str × D)
abbrev SN := Ev → FD → R FD
def putFD (f : Str) (v : D) : FD → FD
  | [] => [(f, v)]
  | (g, x) :: r => if g = f then (g, v) :: r else (g, x) :: putFD f v r
section
variable {K : PySem.W.Frag}
theorem rdf_put {H : Hp} {f : Str} {d : D} {v : V} (r : rd K H d v) : ∀ {fs : FD} {gs : List (Str × V)}, rdf K H fs gs → rdf K H (putFD f d fs) (putF f v gs)
  | [], gs, h => by
    unfold rdf at h; subst h
    show rdf K H [(f, d)] [(f, v)]
    unfold rdf
    exact ⟨v, [], rfl, r, by unfold rdf; rfl⟩
  | (g, e) :: fs, gs, h => by
    unfold rdf at h
    obtain ⟨u, r', rfl, q, z⟩ := h
    unfold putFD putF
    by_cases hg : g = f
    · rw [if_pos hg, if_pos hg]; unfold rdf; exact ⟨v, r', rfl, r, z⟩
    · rw [if_neg hg, if_neg hg]; unfold rdf; exact ⟨u, _, rfl, q, rdf_put r z⟩
theorem rdf_length {H : Hp} : ∀ {fs : FD} {gs : List (Str × V)}, rdf K H fs gs → gs.length = fs.length
  | [], gs, h => by unfold rdf at h; subst h; rfl
  | (g, e) :: fs, gs, h => by
    unfold rdf at h
    obtain ⟨u, r', rfl, q, z⟩ := h
    simp [rdf_length z]
/-- within __init__: the new instance at x, its dict at dx, its fields so far -/
structure NewS (K : PySem.W.Frag) (C : Str) (x dx : Addr) (H0 : Hp) (ρ : Ev) (fs : FD) (σ : St) (H : Hp) : Prop where
  ne : dx ≠ x
  self : σ[0]? = some (some (.ref x))
  own : H dx = some (.own x)
  rz : Rz K ρ σ (un [x, dx] H)
  s0 : Same H0 (un [x, dx] H)
  obj : ∃ gs, H x = some (.ins (He.ga K C) dx gs) ∧ rdf K (un [x, dx] H) fs gs
def tN (K : PySem.W.Frag) (C : Str) (g : SN) : TS := fun D σ H => ∃ x dx H0 ρ fs fs', NewS K C x dx H0 ρ fs σ H ∧ g ρ fs = .ok fs' ∧ ∀ H', NewS K C x dx H0 ρ fs' σ H' → D.nx σ H'
theorem NewS.hid {C : Str} {x dx : Addr} {H0 H : Hp} {ρ : Ev} {fs : FD} {σ : St} (N : NewS K C x dx H0 ρ fs σ H) : Hid [x, dx] (un [x, dx] H) H := ⟨fun a ha => un_out ha, fun a ha => un_in ha, fun a ha => by
  obtain ⟨gs, e, _⟩ := N.obj
  rcases List.mem_cons.mp ha with h | h
  · subst h; exact .inr (.inr (.inl ⟨_, dx, gs, e, by simp⟩))
  · have h := List.mem_singleton.mp h
    subst h; exact .inr (.inr (.inr ⟨x, _, gs, N.own, by simp, e⟩))⟩
end
section
variable {X : Cx} {st : Stmt} {sts : List Stmt} {e o : Expr} {pos pos' : Pos} {f : Str} {fe : SE} {C : Str} {g g' : SN}
def sFset (f : Str) (fe : SE) : SN := fun ρ fs => if decide (fs.length < 1000) = true then (fe ρ).nox.bind fun d => .ok (putFD f d fs) else .no
theorem ln_fset {x : Str} {p : Pos} (F : FldT X.K [C] f) (ho : PE X (.Name x p) (tVar 0)) (he : PE X e (tD X.K W0 fe)) (hs : swapsWith e (some (.Attribute (.Name x p) f pos')) pos.line X.env = pure false := by rfl) :
    PS X (.Assign [.Attribute (.Name x p) f pos'] e pos) (tN X.K C (sFset f fe)) := (ps_fld ho he.frame hs).imp fun D σ H ⟨x, dx, H0, ρ, fs, fs', N, hg, k⟩ => by
  unfold sFset at hg
  by_cases hl : decide (fs.length < 1000) = true
  · rw [if_pos hl] at hg
    obtain ⟨d, hd, hg⟩ := R.bind_ok hg
    have hd := R.nox_ok hd
    cases hg
    obtain ⟨gs, ex, rf⟩ := N.obj
    refine ⟨[x, dx], un [x, dx] H, N.hid, ρ, N.rz, ?_⟩
    rw [hd]
    intro v F' s r n
    have mx : mix [x, dx] H F' x = some (.ins (He.ga X.K C) dx gs) := by unfold mix; rw [if_pos (by simp)]; exact ex
    obtain ⟨c, na⟩ := F.ok C (by simp)
    refine ⟨_, N.self, x, _, dx, gs, rfl, mx, c, na, by rw [rdf_length rf]; exact of_decide_eq_true hl, k _ ?_⟩
    have eu : un [x, dx] (upd (mix [x, dx] H F') x (.ins (He.ga X.K C) dx (putF f v gs))) = F' := by
      funext a
      by_cases ha : a ∈ [x, dx]
      · rw [un_out ha, n a ha]
      · rw [un_in ha, upd_ne (fun q => ha (by simp [q]))]
        unfold mix; rw [if_neg ha]
    refine ⟨N.ne, N.self, ?_, by rw [eu]; exact N.rz.mono s, by rw [eu]; exact N.s0.trans s, _, upd_same, by rw [eu]; exact rdf_put r (rdf_mono s _ _ rf)⟩
    rw [upd_ne N.ne]
    unfold mix
    rw [if_pos (by simp)]
    exact N.own
  · rw [if_neg hl] at hg; cases hg
def nSeq (g g' : SN) : SN := fun ρ fs => (g ρ fs).bind fun fs' => g' ρ fs'
theorem lns_one (h : PS X st (tN X.K C g)) : PSs X [st] (tN X.K C g) := pss_one h
theorem lns_cons (h : PS X st (tN X.K C g)) (h' : PSs X sts (tN X.K C g')) : PSs X (st :: sts) (tN X.K C (nSeq g g')) := (pss_cons h h').imp fun D σ H ⟨x, dx, H0, ρ, fs, fs', N, hg, k⟩ => by
  obtain ⟨fs1, h1, h2⟩ := R.bind_ok hg
  exact ⟨x, dx, H0, ρ, fs, fs1, N, h1, fun H' N' => ⟨x, dx, H0, ρ, fs1, fs', N', h2, k⟩⟩
end
/-- the promise of such an __init__ -/
def spI (K : PySem.W.Frag) (C : Str) (n : Nat) (m : List D → R FD) : Sp := fun vs H Q _ => ∃ x dx ds us fs, vs = .ref x :: us ∧ dx ≠ x ∧ H x = some (.ins (He.ga K C) dx []) ∧ H dx = some (.own x) ∧ ds.length = n ∧ rds K (un [x, dx] H) ds us ∧ m ds = .ok fs ∧
  ∀ H' gs, H' x = some (.ins (He.ga K C) dx gs) → H' dx = some (.own x) → Same (un [x, dx] H) (un [x, dx] H') → rdf K (un [x, dx] H') fs gs → Q .non H'
def startI (n : Nat) (ds : List D) : Ev := none :: (ds.map some ++ List.replicate (n - 1 - ds.length) none)
def initD (n : Nat) (g : SN) (ds : List D) : R FD := g (startI n ds) []
/-- a class made by its name -/
structure MakeC (P : Program) (w : World) (K : PySem.W.Frag) (mg : Str → Option Value) (base : Heap) (C : Str) (k n : Nat) (m : List D → R FD) : Prop where
  ex : ∃ f fd ps, Mk K (He.ga K C) f ∧ FnOk P w K mg base (L2.CX P w) k f fd ps (spI K C n m) ∧ mg C = some (.ref (He.ga K C)) ∧ Binds K fd ps []
theorem make_tw {P : Program} {w : World} {K : PySem.W.Frag} {mg : Str → Option Value} {base : Heap} {C x qual : Str} {params : Arguments} {body : List Stmt} {scope : Scope} {f : Addr} {fd : FuncData} {N ps : List Str} {s0 : Str} {k : Nat} {g : SN}
    (F : FunD K x qual params body scope [] [] f fd) (hM : Mk K (He.ga K C) f) (hg : mg C = some (.ref (He.ga K C))) (S : FnScope N (s0 :: ps) scope)
    (hbind : ∀ (kV doc pm : Value) (an : Option Addr) (cdv ct : Value) (us : List Value), us.length = (s0 :: ps).length → bindArgs (PySem.W.fnOf x qual params body scope .none kV doc pm an cdv ct) ⟨us, []⟩ = pure ((s0 :: ps).zip us))
    (hb : ∀ (cdv : Value) (A : Around) (outer : List Env) (s : Shared) (H : Hp) (E : XK), Room k (A.deeper (PyProof.Rows.envOfC qual scope s.heap.objs.size f cdv)) →
      PSs (cxOf (L2.CX P w) P w K mg base N qual scope f cdv A outer s H E) body (tN K C g)) : MakeC P w K mg base C (k + 1) ps.length (initD N.length g) := by
  refine ⟨f, fd, s0 :: ps, hM, F.ok S (fun vs H Q E ⟨x, dx, ds, us, fs, h1, _, _, _, h2, h3, _⟩ => by rw [h1, List.length_cons, rds_length h3, h2]; rfl) fun cdv A outer s H vs Q E hr ⟨x, dx, ds, us, fs, h1, h2, h3, h4, h5, h6, h7, h8⟩ => ⟨_, hb cdv A outer s H E hr, ?_⟩, hg, F.bindsN hbind⟩
  subst h1
  have el := rds_length h6
  have hN : ps.length + 1 ≤ N.length := by
    have := congrArg List.length S.pre
    rw [List.length_take, List.length_cons] at this
    omega
  refine ⟨x, dx, un [x, dx] H, startI N.length ds, [], fs, ⟨h2, ?_, h4, ⟨?_, fun i d e => ?_⟩, Same.refl _, [], h3, by unfold rdf; rfl⟩, h7, fun H' M => ?_⟩
  · unfold L2.start; simp
  · unfold startI L2.start; simp; omega
  · unfold startI at e
    cases i with
    | zero => cases e
    | succ i =>
      have e : (ds.map some ++ List.replicate (N.length - 1 - ds.length) none)[i]? = some (some d) := by simpa using e
      by_cases hi : i < ds.length
      · rw [List.getElem?_append_left (by simpa using hi), List.getElem?_map] at e
        cases q : ds[i]? with
        | none => rw [q] at e; cases e
        | some a =>
          rw [q] at e; cases e
          obtain ⟨v, q1, q2⟩ := rds_get h6 q
          refine ⟨v, ?_, q2⟩
          unfold L2.start
          rw [List.getElem?_append_left (by simp; omega), List.getElem?_map, List.getElem?_cons_succ, q1]; rfl
      · rw [List.getElem?_append_right (by simpa using hi), List.getElem?_replicate] at e
        split at e <;> cases e
  · obtain ⟨gs, e1, e2⟩ := M.obj
    exact h8 H' gs e1 M.own M.s0 e2
section
variable {X : Cx} {W : WX} {e : Expr} {es : List Expr} {pos p : Pos} {h : SA}
def eMake (C : Str) (m : List D → R FD) (h : SA) : SE := fun ρ => (h ρ).bind fun ds => (m ds).nox.bind fun fs => .ok (.ins C fs)
theorem pass_f {X : Cx} : Passes (L2.CX X.prog X.w) X (fun _ _ _ => False) := fun _ _ _ _ _ _ _ h => by
  obtain ⟨_, _, _, _, _, _, _, _, _, _, _, _, z⟩ := h
  exact z.elim
theorem le_make {k n : Nat} {C : Str} {m : List D → R FD} (M : MakeC X.prog X.w X.K X.mg X.base C k n m) (hr : Room (k + 1) X.A) (hg : Gl X C) (ha : PA X (e :: es) (tA X.K W h)) (hn : ALen h n) (hdb : (C == ("__debug__" : Str)) = false := by decide)
    (he : starEach (e :: es) X.env = (false, eval e X.env) :: starEach es X.env := by rfl) (hpl : (backTo pos (starEach es X.env)).any (·.1) = false := by rfl) : PE X (.Call (.Name C p) (e :: es) [] pos) (tD X.K W (eMake C m h)) := by
  obtain ⟨f, fd, ps, hM, F, hm, hb⟩ := M.ex
  refine (pe_make hM F hr hg hm hb .nil pass_f ha hdb he hpl).imp fun σ H Q ⟨ρ, z, w⟩ => ⟨ρ, z, pst.bind (rel := rds X.K) w fun ds us H1 ed s1 r w1 => fun x dx hx hdx hne => ?_⟩
  obtain ⟨fs, hfs, w2⟩ := pst_nb w1
  have eu : un [x, dx] (upd (upd H1 dx (.own x)) x (.ins (He.ga X.K C) dx [])) = H1 := by
    funext a
    by_cases ha : a ∈ [x, dx]
    · rw [un_out ha]
      rcases List.mem_cons.mp ha with q | q
      · rw [q, hx]
      · rw [List.mem_singleton.mp q, hdx]
    · rw [un_in ha, upd_ne (fun q => ha (by simp [q])), upd_ne (fun q => ha (by simp [q]))]
  refine ⟨x, dx, ds, us, fs, by rw [List.append_nil], hne, upd_same, by rw [upd_ne hne, upd_same], hn ρ ds ed, by rw [eu]; exact r, hfs, fun H' gs e1 e2 s3 rf => ⟨rfl, w2 _ H' ((by rw [eu] at s3; exact s3 : Same H1 (un [x, dx] H')).trans (un_same _ _)) ?_⟩⟩
  unfold rd
  exact ⟨x, dx, gs, rfl, e1, rdf_mono (un_same _ _) _ _ rf⟩
/-! ### a class without __init__ -/
structure MkP (K : PySem.W.Frag) (C : Str) : Prop where
  makes : PySem.W.makesIn K (He.ga K C) = true
  init : PySem.W.findIn K (.ref (He.ga K C)) "__init__" = some (some (.builtin "object.__init__"))
  kp : PySem.W.keepIn K (.ref (He.ga K C)) = true
def mkpCk (C : Str) (K : PySem.W.Frag) : Bool := PySem.W.makesIn K (He.ga K C) && (decide (PySem.W.findIn K (.ref (He.ga K C)) "__init__" = some (some (.builtin "object.__init__"))) && PySem.W.keepIn K (.ref (He.ga K C)))
theorem mkp_of {C : Str} {K : PySem.W.Frag} (h : mkpCk C K = true) : MkP K C := by
  obtain ⟨h1, h⟩ := He.ba h
  obtain ⟨h2, h3⟩ := He.ba h
  exact ⟨h1, of_decide_eq_true h2, h3⟩
theorem le_mkp {C : Str} (M : MkP X.K C) (hm : X.mg C = some (.ref (He.ga X.K C))) (hg : Gl X C := by rfl) (hdb : (C == ("__debug__" : Str)) = false := by decide) : PE X (.Call (.Name C p) [] [] pos) (tD X.K W (eC (.ins C []))) := by
  refine ⟨fun pins s σ H Q I ⟨ρ, z, w⟩ => ?_⟩
  refine wpAny_Call_Name_kw (ld_glob I hg hm ?_ hdb)
  refine PySem.W.callWith_K0 I.kIn M.kp ?_
  have I2 := Inv.made (C := He.ga X.K C) I
  refine wpAny_call (make_map0 I.kIn M.makes M.init (fun self => PySem.W.Looks.of_pure (PySem.W.oi_bind self)) ?_)
  have g1 : ((s.heap.push PySem.W.emptyDict).push (PySem.W.instObj (He.ga X.K C) s.heap.objs.size)).get? (s.heap.objs.size + 1) = some (PySem.W.instObj (He.ga X.K C) s.heap.objs.size) := by
    have := Heap.get?_push_size (s.heap.push PySem.W.emptyDict) (o := PySem.W.instObj (He.ga X.K C) s.heap.objs.size) rfl
    rwa [Heap.size_push] at this
  have t1 : PySem.W.Looks (model X.prog X.w) ((s.heap.push PySem.W.emptyDict).push (PySem.W.instObj (He.ga X.K C) s.heap.objs.size)) (typeOf (.ref (s.heap.objs.size + 1))) (.ref (He.ga X.K C)) := (PySem.W.Looks.ld g1).andThen .now
  have t2 : PySem.W.Looks (model X.prog X.w) ((s.heap.push PySem.W.emptyDict).push (PySem.W.instObj (He.ga X.K C) s.heap.objs.size)) (isInstance (.ref (s.heap.objs.size + 1)) (.type "object")) true :=
    t1.andThen ((PySem.W.makes_of (M := model X.prog X.w) I.kIn M.makes).top.keeps fun b o e => Heap.get?_push_of_some _ (Heap.get?_push_of_some _ e))
  refine codeAny_call_builtin PySem.W.oi_plain PySem.W.entry_oi (@PySem.W.check_slot (model X.prog X.w) _ _ _ "object.__init__" "object" "__init__" (.ref (s.heap.objs.size + 1)) [] [] _ PySem.W.oi_kind PySem.W.oi_split t2 (PySem.W.oi_args (.ref (s.heap.objs.size + 1))) ?_)
  rw [PySem.W.oi_run]
  refine wpAny_pure (And.intro rfl ?_)
  have hx : H (s.heap.objs.size + 1) = none := I.hok.fresh (Nat.le_succ _)
  have hdx : H s.heap.objs.size = none := I.hok.fresh (Nat.le_refl _)
  have hne : s.heap.objs.size ≠ s.heap.objs.size + 1 := Nat.ne_of_lt (Nat.lt_succ_self _)
  refine ⟨V.ref (s.heap.objs.size + 1), _, I2, rfl, w _ _ ((same_new hdx).trans (same_new (by rw [upd_ne (Ne.symm hne)]; exact hx))) ?_⟩
  unfold rd
  exact ⟨_, _, [], rfl, upd_same, by unfold rdf; rfl⟩
end
end Tw

/-! TwHead: the head's facts with looks of our own. -/
namespace Tw
open PySem L2
theorem FldT.one {K : PySem.W.Frag} {Cs : List Str} {f C : Str} (F : FldT K Cs f) (h : Cs.contains C = true) : FldT K [C] f := ⟨fun C' m => by
  rw [List.mem_singleton.mp m]
  exact F.ok C (by simpa using h)⟩
theorem tm_t {X : Cx} {W : WX} {e : Expr} {f : SE} (h : PE X e (tF X.K W f)) : PE X e (tM X.K W true f) := h
theorem tm_f {X : Cx} {W : WX} {e : Expr} {f : SE} (h : PE X e (tD X.K W f)) : PE X e (tM X.K W false f) := h
def ckAll (ck : List (PySem.W.Frag → Bool)) (K : PySem.W.Frag) : Bool := ck.all fun c => c K
theorem ckAll.fact {ck : List (PySem.W.Frag → Bool)} {K : PySem.W.Frag} (h : ckAll ck K = true) (i : Nat) {c : PySem.W.Frag → Bool} (hi : ck[i]? = some c := by rfl) : c K = true := List.all_eq_true.mp h c (List.mem_of_getElem? hi)
abbrev AlT : Type := He.AlD × Bool
def obsT (n : Nat) (fa : List He.Fa) (fn : List He.DefD) (ck : List (PySem.W.Frag → Bool)) (g : Addr → Option Obj) : AlT := (He.obsDG n fa fn g, ckAll ck (He.frG g (He.asD g n)))
def hookT (n : Nat) (fa : List He.Fa) (fn : List He.DefD) (ck : List (PySem.W.Frag → Bool)) : PySem.W.Hook where
  α := AlT
  obs := fun s => obsT n fa fn ck s.heap.get?
  val := fun _ => (He.valD fn, true)
  says := fun _ h => ∃ K : PySem.W.Frag, K.In h ∧ He.SaysD fa fn K ∧ ckAll ck K = true
  of := fun _ _ e => ⟨_, He.frG_in, congrArg (fun z : AlT => z.1) e, congrArg (fun z : AlT => z.2) e⟩
  keeps := fun _ _ _ ⟨K, hK, c⟩ k => ⟨K, PySem.W.Frag.In.keeps hK k, c⟩
theorem obsT_eq {n : Nat} {fa : List He.Fa} {fn : List He.DefD} {ck : List (PySem.W.Frag → Bool)} {g : Addr → Option Obj} {s : Shared} (h : ∀ a, g a = s.heap.get? a) : obsT n fa fn ck g = (hookT n fa fn ck).obs s := by
  have e : g = s.heap.get? := funext h
  rw [e]; rfl
theorem ex_no (P : Program) (w : World) : ∀ (H : Hp) (s : Shared) (e : Value) (s' : Shared), L2.CX P w [] H s (fun _ _ _ => False) e s' → False := fun _ _ _ _ h => by
  obtain ⟨_, _, _, _, _, _, _, _, _, _, _, _, z⟩ := h
  exact z
theorem fnok_tw {P : Program} {w : World} {K : PySem.W.Frag} {mg : Str → Option Value} {base : Heap} {x qual : Str} {params : Arguments} {body : List Stmt} {scope : Scope} {f : Addr} {fd : FuncData} {N ps : List Str} {k : Nat} {g : SS}
    (F : FunD K x qual params body scope [] [] f fd) (S : FnScope N ps scope)
    (hb : ∀ (cdv : Value) (A : Around) (outer : List Env) (s : Shared) (H : Hp) (E : XK), Room k (A.deeper (PyProof.Rows.envOfC qual scope s.heap.objs.size f cdv)) →
      (∀ σ, PassesAt (L2.CX P w) (cxOf (L2.CX P w) P w K mg base N qual scope f cdv A outer s H E) σ (fun c oa H => E c oa H)) →
      PSs (cxOf (L2.CX P w) P w K mg base N qual scope f cdv A outer s H E) body (tS K (fun c oa _ H => E c oa H) g)) : FnOk P w K mg base (L2.CX P w) (k + 1) f fd ps (spD K ps.length (runD N.length g)) :=
  fn_tw F S fun cdv A outer s H E hr => hb cdv A outer s H E hr fun σ => passAt (W := fun c oa _ H => E c oa H) (takes_of rfl rfl rfl rfl) σ
/-- what a def may let out, in whatever world -/
def CXa (P : Program) : CXT := fun outer H s E e s' => ∃ w, L2.CX P w outer H s E e s'
theorem fn_cxa {P : Program} {w : World} {K : PySem.W.Frag} {mg : Str → Option Value} {base : Heap} {k : Nat} {f : Addr} {fd : FuncData} {ps : List Str} {sp : Sp} (F : FnOk P w K mg base (L2.CX P w) k f fd ps sp) : FnOk P w K mg base (CXa P) k f fd ps sp :=
  ⟨F.len, fun A outer s H args us vs Q E hr he hb hv hs => codeAny_mono (F.run A outer s H args us vs Q E hr he hb hv hs) fun r s' h => by
    cases r with
    | error e => exact ⟨w, h⟩
    | ok fl => cases fl <;> exact h⟩
theorem exa_no (P : Program) : ∀ (H : Hp) (s : Shared) (e : Value) (s' : Shared), CXa P [] H s (fun _ _ _ => False) e s' → False := fun H s e s' ⟨w, h⟩ => ex_no P w H s e s' h
/-- law's promise, from what its data's function tells -/
theorem law_sp {K : PySem.W.Frag} {m : List D → R D} {H : Hp} {a : Addr} {ns : List Int} (h : m [.scr ns] = .ok (.bl true)) (hS : SqL K H a (ns.map V.int)) : spD K 1 m [.ref a] H (fun v _ => v = .bl true) fun _ _ _ => False := by
  refine ⟨[.scr ns], rfl, rds_one (by unfold rd; exact ⟨a, rfl, hS⟩), ?_⟩
  rw [h]
  intro v H' _ r
  unfold rd at r
  exact r
end Tw

/-! TwDict: dict(pairs), {k: v}. -/
namespace Tw
open PySem L2
section
variable {K : PySem.W.Frag}
/-- the pairs of a list, keys ints and texts -/
def pairsOf : List D → Option (List (Key × D))
  | [] => some []
  | .tup [k, v] :: ds => (keyOf k).bind fun kk => (pairsOf ds).map fun r => (kk, v) :: r
  | _ :: _ => none
def dDictP : List D → R D
  | [.lst ds] => match pairsOf ds with
    | some kvs => .ok (.dct (foldPut [] kvs))
    | none => .no
  | _ => .no
theorem rds_pairs {H : Hp} : ∀ {ds : List D} {kvs : List (Key × D)} {vs : List V}, pairsOf ds = some kvs → rds K H ds vs →
    ∃ (ps : List Addr) (kws : List (Key × V)), vs = ps.map V.ref ∧ Paired (fun (p : Addr) (kv : Key × V) => SqT K H p [kV kv.1, kv.2]) ps kws ∧ rdk K H kvs kws
  | [], kvs, vs, h, r => by
    unfold pairsOf at h; cases h
    unfold rds at r; subst r
    exact ⟨[], [], rfl, .nil, by unfold rdk; rfl⟩
  | .tup [k, v] :: ds, kvs, vs, h, r => by
    unfold pairsOf at h
    cases e : keyOf k with
    | none => rw [e] at h; cases h
    | some kk =>
      rw [e] at h
      cases e2 : pairsOf ds with
      | none => rw [e2] at h; cases h
      | some rest =>
        rw [e2] at h
        cases h
        unfold rds at r
        obtain ⟨x, us, rfl, q, z⟩ := r
        obtain ⟨ps, kws, rfl, h1, h2⟩ := rds_pairs e2 z
        unfold rd at q
        obtain ⟨a, ws, rfl, q, q2⟩ := q
        obtain ⟨x1, x2, rfl, r1, r2⟩ := rds_2 q2
        have ek := keyOf_v e r1
        subst ek
        exact ⟨a :: ps, (kk, x2) :: kws, rfl, .cons (SqT.of q) h1, by unfold rdk; exact ⟨x2, kws, rfl, r2, h2⟩⟩
  | .tup [] :: _, _, _, h, _ | .tup [_] :: _, _, _, h, _ | .tup (_ :: _ :: _ :: _) :: _, _, _, h, _ => by unfold pairsOf at h; cases h
  | .non :: _, _, _, h, _ | .bl _ :: _, _, _, h, _ | .int _ :: _, _, _, h, _ | .str _ :: _, _, _, h, _ | .lst _ :: _, _, _, h, _ | .dct _ :: _, _, _, h, _ | .ins _ _ :: _, _, _, h, _ | .scr _ :: _, _, _, h, _ | .exn _ _ _ :: _, _, _, h, _ => by unfold pairsOf at h; cases h
theorem rdk_merge {H : Hp} : ∀ {more : List (Key × D)} {moreV : List (Key × V)} {kvs : List (Key × D)} {kws : List (Key × V)}, rdk K H more moreV → rdk K H kvs kws → rdk K H (foldPut kvs more) (mergeK kws moreV)
  | [], _, _, _, h, r => by unfold rdk at h; subst h; exact r
  | (k, d) :: more, _, kvs, kws, h, r => by
    unfold rdk at h
    obtain ⟨v, rest, rfl, q, z⟩ := h
    show rdk K H (foldPut (putD kvs k d) more) (mergeK (putK kws k v) rest)
    exact rdk_merge z (rdk_put r q)
end
abbrev rDictP (K : PySem.W.Frag) : List V → Hp → VK → Prop := fun xs H Q => ∃ (a : Addr) (ps : List Addr) (kvs : List (Key × V)), xs = [.ref a] ∧ SqL K H a (ps.map V.ref) ∧ Paired (fun p kv => SqT K H p [kV kv.1, kv.2]) ps kvs ∧
    ∀ p, H p = none → Q (.ref p) (upd H p (.dK (mergeK [] kvs)))
theorem dDictP_ok {ds : List D} {z : D} (h : dDictP ds = .ok z) : ∃ es kvs, ds = [.lst es] ∧ pairsOf es = some kvs ∧ z = .dct (foldPut [] kvs) := by
  unfold dDictP at h
  split at h
  · rename_i es
    split at h
    · rename_i kvs hk
      cases h
      exact ⟨es, kvs, rfl, hk, rfl⟩
    · cases h
  · cases h
theorem dictP_core {K : PySem.W.Frag} {ds : List D} {z : D} {vs : List V} {H : Hp} {Q : VK} (hz : dDictP ds = .ok z) (r : rds K H ds vs) (k : ∀ p kws, H p = none → rdk K H (match z with | .dct x => x | _ => []) kws → (∃ x, z = .dct x) → Q (.ref p) (upd H p (.dK kws))) : rDictP K vs H Q := by
  obtain ⟨es, kvs, rfl, hk, rfl⟩ := dDictP_ok hz
  obtain ⟨v, rfl, q⟩ := rds_1 r
  unfold rd at q
  obtain ⟨a, us, rfl, q, r⟩ := q
  obtain ⟨ps, kws, rfl, h1, h2⟩ := rds_pairs hk r
  exact ⟨a, ps, kws, rfl, SqL.of q, h1, fun p hp => k p _ hp (rdk_merge h2 (by unfold rdk; rfl)) ⟨_, rfl⟩⟩
theorem lift_dictP {K : PySem.W.Frag} : LiftA K (rDictP K) dDictP := fun ds z vs H Q hz r k => dictP_core hz r fun p kws hp rk ⟨x, e⟩ => by
  subst e
  refine k _ _ (same_new hp) ?_
  unfold rd
  exact ⟨p, kws, rfl, upd_same, rdk_mono (same_new hp) _ _ rk⟩
section
variable {X : Cx} {W : WX} {e a b : Expr} {es : List Expr} {pos : Pos} {f g : SE}
theorem wF.dct {K : PySem.W.Frag} {H : Hp} {kvs : List (Key × D)} {kws : List (Key × V)} {Q : VK} (w : wF K H (.dct kvs) Q) (r : rdk K H kvs kws) : ∀ p, H p = none → Q (.ref p) (upd H p (.dK kws)) := fun p hp => by
  have s : Same H (wo p (upd H p (.dK kws))) := wo_le (same_new hp) hp
  exact w p _ hp s ⟨p, kws, rfl, rfl, upd_same, rdk_mono s _ _ r⟩
theorem lf_dictP {x : Str} {p : Pos} {h : SA} (hc : X.calm = true) (hg : Gl X x) (hm : X.mg x = none) (hv : bootBuiltins x = some (.type "dict")) (ha : PA X (e :: es) (tA X.K W h)) (hn : x ≠ "__name__" := by decide) (hdb : (x == ("__debug__" : Str)) = false := by decide)
    (he : starEach (e :: es) X.env = (false, eval e X.env) :: starEach es X.env := by rfl) (hpl : (backTo pos (starEach es X.env)).any (·.1) = false := by rfl) : PE X (.Call (.Name x p) (e :: es) [] pos) (tF X.K W (eB dDictP h)) :=
  (pe_callTy (call_dictP hc) hg hm hv ha hn hdb he hpl).imp fun σ H Q w => tF_bind (rel := rds X.K) w fun ds vs H1 s1 r w1 => by
    cases hz : dDictP ds with
    | no => rw [hz] at w1; exact w1.elim
    | ex x => rw [hz] at w1; exact w1.elim
    | ok z =>
      rw [hz] at w1
      have w1 : wF X.K H1 z Q := w1
      refine dictP_core hz r fun p kws hp rk ⟨x, e⟩ => ?_
      subst e
      exact w1.dct rk p hp
/-! ### {k: v} -/
def eD1 (fk fv : SE) : SE := fun ρ => (fk ρ).bind fun k => (fv ρ).bind fun v => (R.of (keyOf k)).bind fun kk => .ok (.dct [(kk, v)])
theorem lf_d1 {k v : Expr} {fk fv : SE} (hk : PE X k (tD X.K W fk)) (hv : PE X v (tD X.K W fv)) : PE X (.Dict [some k] [v] pos) (tF X.K W (eD1 fk fv)) :=
  (pe_disp (pps_cons hk.frame hv.frame pps_nil) rfl rfl (by simp) (by show 1 ≤ 15; decide)).imp fun σ H Q ⟨ρ, z, w⟩ p hp => by
    have e0 : wo p (upd H p (.dK [])) = H := by
      funext a
      by_cases ha : a = p
      · subst ha; rw [wo_self, hp]
      · rw [wo_ne ha, upd_ne ha]
    have bad : ∀ x c oa H2, (match R.ex x with | .ok d => ∀ p H', H p = none → Same H (wo p H') → rdo X.K (wo p H') H' [p] d (.ref p) → Q (.ref p) H' | .ex x => ∀ c oa H', Same H H' → rdx X.K H' x c oa → W c oa σ H' | .no => False) → Same H H2 → rdx X.K H2 x c oa → W c oa σ H2 := fun x c oa H2 w s r => w c oa H2 s r
    show fr (tD X.K W fk) σ (upd H p (.dK [])) _
    refine ⟨[p], wo p (upd H p (.dK [])), hid_dct upd_same, ρ, by rw [e0]; exact z, ?_⟩
    rw [e0]
    unfold eD1 at w
    cases ek : fk ρ with
    | no => rw [ek] at w; exact w
    | ex x => rw [ek] at w; exact w
    | ok dk =>
      rw [ek] at w
      intro x F1 s1 r1 n1
      have fp : F1 p = none := n1 p (by simp)
      have m1 : mix [p] (upd H p (.dK [])) F1 p = some (.dK []) := by unfold mix; rw [if_pos (by simp), upd_same]
      have e1 : wo p (mix [p] (upd H p (.dK [])) F1) = F1 := by
        funext a
        by_cases ha : a = p
        · subst ha; rw [wo_self, fp]
        · rw [wo_ne ha]; unfold mix; rw [if_neg (by simpa using ha)]
      show fr (tD X.K W fv) σ _ _
      refine ⟨[p], wo p (mix [p] (upd H p (.dK [])) F1), hid_dct m1, ρ, by rw [e1]; exact z.mono s1, ?_⟩
      rw [e1]
      cases ev : fv ρ with
      | no => simp only [R.bind, ev] at w
      | ex x => simp only [R.bind, ev] at w; exact fun c oa H2 s r => w c oa H2 (s1.trans s) r
      | ok dv =>
        intro y F2 s2 r2 n2
        have fp2 : F2 p = none := n2 p (by simp)
        simp only [R.bind, ev] at w
        cases ekk : keyOf dk with
        | none => rw [ekk] at w; exact w.elim
        | some kk =>
          rw [ekk] at w
          have ex := keyOf_v ekk r1
          subst ex
          have m2 : mix [p] (mix [p] (upd H p (.dK [])) F1) F2 p = some (.dK []) := by unfold mix; rw [if_pos (by simp), if_pos (by simp), upd_same]
          refine ⟨m2, [(kk, y)], rfl, by show 1 ≤ 15; decide, ?_⟩
          have s3 : Same F2 (wo p (upd (mix [p] (mix [p] (upd H p (.dK [])) F1) F2) p (.dK [(kk, y)]))) := fun a o q => by
            have ha : a ≠ p := fun z => by rw [z, fp2] at q; cases q
            rw [wo_ne ha, upd_ne ha]
            unfold mix
            rw [if_neg (by simpa using ha)]
            exact q
          exact w p _ hp ((s1.trans s2).trans s3) ⟨p, [(kk, y)], rfl, rfl, upd_same, by unfold rdk; exact ⟨y, [], rfl, rd_mono s3 _ _ r2, by unfold rdk; rfl⟩⟩
end
end Tw

/-! TwStar: targets with a star. -/
namespace Tw
open PySem L2 PyProof.Rows
section
variable {X : Cx} {pos : Pos}
def stV {α : Type} (i n : Nat) (xs : List α) (m : α) : List α := xs.take i ++ [m] ++ (xs.drop i).drop (xs.length + 1 - n)
def stM {α : Type} (i n : Nat) (xs : List α) : List α := (xs.drop i).take (xs.length + 1 - n)
theorem stV_eq {xs : List V} {its : List Value} {p : Addr} {i n : Nat} (r : Vals xs its) : Vals (stV i n xs (.ref p)) (its.take i ++ [.ref p] ++ (its.drop i).drop (its.length + 1 - n)) := by
  have e := r.length
  unfold stV
  rw [e]
  exact ((r.take i).append (.cons (show RelV (V.ref p) (Value.ref p) from rfl) .nil)).append ((r.drop i).drop _)
/-- targets, the star at i: a tuple's items -/
def gStar (K : PySem.W.Frag) (i n : Nat) (t : TGs) : TG := fun v σ H Q => ∃ a xs, v = .ref a ∧ (SqT K H a xs ∨ SqL K H a xs) ∧ n ≤ xs.length + 1 ∧ xs.length ≤ 16000 ∧ ∀ p, H p = none → t (stV i n xs (.ref p)) σ (upd H p (.lst (stM i n xs))) Q
theorem pg_star {es : List Expr} {k : Nat} {t : TGs} {n i : Nat} (hc : X.calm = true) (h : PGs X es t) (hi : i < n)
    (hn : (assignEach es X.env).length = n := by rfl) (hst : (assignEach es X.env).findIdx? (·.1) = some i := by rfl) : PG X (.Tuple es k pos) (gStar X.K i n t) := by
  refine ⟨fun pins s σ H v u Q I r hw => ?_⟩
  obtain ⟨l, xs, e1, hq, hl, hz, hw⟩ := hw
  subst e1
  cases r
  have fin : ∀ (its : List Value) (h₂ : Heap) (tk : Nat), Vals xs its → (∀ b o, s.heap.get? b = some o → h₂.get? b = some o) →
      wpAny (model X.prog X.w) X.A (newList ((its.drop i).take (its.length + 1 - n)) >>= fun d => pure (its.take i ++ [d] ++ (its.drop i).drop (its.length + 1 - n))) (fun vs s' => wpAny (model X.prog X.w) X.A (assignInOrder ((assignEach es X.env).map (·.2)) vs) (fun _ s' => ∃ σ' H', Inv X pins σ' H' s' ∧ Q σ' H') X.xe s') X.xe { s with heap := h₂, toks := tk } := fun its h₂ tk rv hk => by
    have el := rv.length
    have I2 : Inv X pins σ H { s with heap := h₂, toks := tk } := I.kept hk
    have hf : H h₂.objs.size = none := I2.hok.fresh (Nat.le_refl _)
    have rm : Vals (stM i n xs) ((its.drop i).take (its.length + 1 - n)) := by
      unfold stM; rw [el]; exact (rv.drop i).take _
    have hsz : ((its.drop i).take (its.length + 1 - n)).length ≤ sizeLine := by
      rw [List.length_take, List.length_drop, sizeLine_eq]; omega
    refine wpAny_bind (wpAny_newObj_type ?_ (by show ((its.drop i).take (its.length + 1 - n)).toArray.size ≤ sizeLine; rw [List.size_toArray]; exact hsz))
    have I3 := I2.laid (a := h₂.objs.size) (o := .lst (stM i n xs)) (t' := tk) (fun b u e => Heap.get?_push_of_some _ e) (Nat.le_refl _) ⟨by rw [rm.length]; exact hsz, _, 0, rm, Heap.get?_push_size _ rfl⟩
    exact wpAny_pure (h.run pins _ σ _ _ _ Q I3 (stV_eq rv) (hw _ hf))
  rw [assign_Tuple]
  refine wpAny_bind (wpAny_standAt ?_)
  unfold unpack
  rw [hn, hst]
  refine wpAny_bind (wpAny_holding ?_)
  rcases hq with hq | hq
  · obtain ⟨its, rv, ht, _⟩ := I.tuple hq
    have el := rv.length
    have hlt : l ≠ s.heap.objs.size := by obtain ⟨o, ho, _⟩ := ht; exact Nat.ne_of_lt (Heap.lt_size ho)
    unfold unpackItems
    refine wpAny_bind ?_
    unfold notIterableAtAll
    refine wpAny_bind (wpAny_specialOf ht.typeIs slot_tuple_iter.lookup ?_)
    refine wpAny_pure ?_
    simp only [Bool.false_eq_true, if_false]
    refine wpAny_bind (wpAny_holding (iter_tuple ht ?_))
    refine wpAny_bind (wpAny_holding (draw_tuple hlt i 0 _ _ ⟨_, Heap.get?_push_size _ rfl, rfl, rfl⟩ (ht.push _) (by simp; omega) fun h₁ hit₁ hs₁ => ?_))
    have hl₁ : IsTup h₁ l its.toArray := (ht.push _).extBut hs₁.extBut hlt
    rw [Nat.zero_add] at hit₁
    have hit₁' := hit₁
    obtain ⟨oi, hoi, _⟩ := hit₁'
    have hl₁' := hl₁
    obtain ⟨ol, hol, _⟩ := hl₁'
    rw [List.drop_zero]
    have hfl : (its.take i).length = i := by rw [List.length_take]; omega
    rw [if_neg (show ¬ ((its.toArray.toList.take i).length < i) by show ¬ ((its.take i).length < i); rw [hfl]; omega)]
    refine wpAny_bind (wpAny_holding (PySem.W.kun_collect (s := { s with heap := h₁ }) (T := "tuple_iterator") (.inr (.inr (.inr rfl))) (Walks.tuple (A := X.A.in1) (I.ok.hd hc) s.heap.objs.size l hlt its.toArray) (fun j u st => st.1.typeIs) (k := i) (by simp; omega) ⟨hit₁, hl₁⟩ (Heap.lt_size hoi) (Heap.lt_size hol) (fun h₂ tk hk => ?_) (by rw [sizeLine_eq]; simp; omega)))
    have hrl : (its.drop i).length = its.length - i := by rw [List.length_drop]
    have hmid : (its.drop i).length - (n - 1 - i) = its.length + 1 - n := by rw [hrl]; omega
    show wpAny _ _ (if (its.drop i).length < n - 1 - i then _ else _) _ _ _
    rw [if_neg (by rw [hrl]; omega)]
    have he : ∀ b o, s.heap.get? b = some o → h₂.get? b = some o := fun b o e => hk b o (Nat.ne_of_lt (Heap.lt_size e)) (hs₁.extBut b o (Nat.ne_of_lt (Heap.lt_size e)) (Heap.get?_push_of_some _ e))
    show wpAny _ _ (newList ((its.drop i).take ((its.drop i).length - (n - 1 - i))) >>= fun d => pure (its.take i ++ [d] ++ (its.drop i).drop ((its.drop i).length - (n - 1 - i)))) _ _ _
    rw [hmid]
    exact fin its h₂ tk rv he
  · obtain ⟨its, rv, pl, _⟩ := I.list hq
    have hl := pl.isList
    have el := rv.length
    have hlt : l ≠ s.heap.objs.size := by obtain ⟨o, ho, _⟩ := hl; exact Nat.ne_of_lt (Heap.lt_size ho)
    unfold unpackItems
    refine wpAny_bind ?_
    unfold notIterableAtAll
    refine wpAny_bind (wpAny_specialOf hl.typeIs slot_list_iter.lookup ?_)
    refine wpAny_pure ?_
    simp only [Bool.false_eq_true, if_false]
    refine wpAny_bind (wpAny_holding (wpAny_pyIter_list hl ?_))
    refine wpAny_bind (wpAny_holding (PySem.W.kun_draw hlt i 0 _ _ ⟨_, Heap.get?_push_size _ rfl, rfl, rfl⟩ (hl.push _) (by simp; omega) fun h₁ hit₁ hs₁ => ?_))
    have hl₁ : h₁.IsList l its.toArray := (hl.push _).extBut hs₁.extBut hlt
    rw [Nat.zero_add] at hit₁
    have hit₁' := hit₁
    obtain ⟨oi, hoi, _⟩ := hit₁'
    have hl₁' := hl₁
    obtain ⟨ol, hol, _⟩ := hl₁'
    rw [List.drop_zero]
    have hfl : (its.take i).length = i := by rw [List.length_take]; omega
    rw [if_neg (show ¬ ((its.toArray.toList.take i).length < i) by show ¬ ((its.take i).length < i); rw [hfl]; omega)]
    refine wpAny_bind (wpAny_holding (PySem.W.kun_collect (s := { s with heap := h₁ }) (T := "list_iterator") (.inr (.inr (.inl rfl))) (Walks.list (A := X.A.in1) (I.ok.hd hc) s.heap.objs.size l hlt its.toArray) (fun j u st => st.1.typeIs) (k := i) (by simp; omega) ⟨hit₁, hl₁⟩ (Heap.lt_size hoi) (Heap.lt_size hol) (fun h₂ tk hk => ?_) (by rw [sizeLine_eq]; simp; omega)))
    have hrl : (its.drop i).length = its.length - i := by rw [List.length_drop]
    have hmid : (its.drop i).length - (n - 1 - i) = its.length + 1 - n := by rw [hrl]; omega
    show wpAny _ _ (if (its.drop i).length < n - 1 - i then _ else _) _ _ _
    rw [if_neg (by rw [hrl]; omega)]
    have he : ∀ b o, s.heap.get? b = some o → h₂.get? b = some o := fun b o e => hk b o (Nat.ne_of_lt (Heap.lt_size e)) (hs₁.extBut b o (Nat.ne_of_lt (Heap.lt_size e)) (Heap.get?_push_of_some _ e))
    show wpAny _ _ (newList ((its.drop i).take ((its.drop i).length - (n - 1 - i))) >>= fun d => pure (its.take i ++ [d] ++ (its.drop i).drop ((its.drop i).length - (n - 1 - i)))) _ _ _
    rw [hmid]
    exact fin its h₂ tk rv he
end

/-! ### the same over data -/
def seqD : D → Option (List D)
  | .tup ds => some ds
  | .lst ds => some ds
  | _ => none
def bindSt (i : Nat) (ts : List Tg) (d : D) : Option (List (Nat × D)) := match seqD d with
  | some ds => if (decide (ts.length ≤ ds.length + 1) && decide (ds.length ≤ 16000)) = true then bindTs ts (stV i ts.length ds (.lst (stM i ts.length ds))) else none
  | none => none
def tTgS (K : PySem.W.Frag) (i : Nat) (ts : List Tg) : TG := fun v σ H Q => ∃ d F bs, Same F H ∧ rd K F d v ∧ bindSt i ts d = some bs ∧ ∀ vs F' H', Grow F H F' H' → rds K F' (bs.map (·.2)) vs → Q (setsV σ bs vs) H'
theorem rds_stV {K : PySem.W.Frag} {H : Hp} {ds : List D} {vs : List V} {d : D} {v : V} {i n : Nat} (r : rds K H ds vs) (q : rd K H d v) : rds K H (stV i n ds d) (stV i n vs v) := by
  unfold stV
  rw [rds_length r]
  exact rds_append (rds_append (rds_take _ r) (rds_one q)) (rds_drop _ (rds_drop _ r))
theorem rds_stM {K : PySem.W.Frag} {H : Hp} {ds : List D} {vs : List V} {i n : Nat} (r : rds K H ds vs) : rds K H (stM i n ds) (stM i n vs) := by
  unfold stM
  rw [rds_length r]
  exact rds_take _ (rds_drop _ r)
section
variable {X : Cx} {W : WX} {pos : Pos} {e : Expr} {es : List Expr}
theorem lgs_consS {p : Pos} {t : Tg} {ts : List Tg} (h1 : PG X e (tTg X.K t)) (h2 : PGs X es (tTgs X.K ts)) (hs : (assignEach (.Starred e p :: es) X.env).map (·.2) = assign e X.env :: (assignEach es X.env).map (·.2) := by rfl) : PGs X (.Starred e p :: es) (tTgs X.K (t :: ts)) := by
  have h : PGs X (.Starred e p :: es) (gCons (tTg X.K t) (tTgs X.K ts)) := by
    refine ⟨fun pins s σ H vs us Q I r h => ?_⟩
    obtain ⟨v, vr, e1, h⟩ := h
    subst e1
    cases r with
    | cons r rr =>
      rw [hs]
      refine assignInOrder_cons (thn (h1.run pins s σ H _ _ _ I r h) fun _ s1 ⟨σ1, H1, I1, q1⟩ => ?_)
      exact h2.run pins s1 σ1 H1 _ _ Q I1 rr q1
  refine h.imp fun v σ H Q ⟨ds, F, bs, s, r, eb, k⟩ => ?_
  cases ds with
  | nil => unfold bindTs at eb; cases eb
  | cons d ds =>
    unfold bindTs at eb
    cases e1 : bindT t d with
    | none => rw [e1] at eb; cases eb
    | some a =>
      rw [e1] at eb
      cases e2 : bindTs ts ds with
      | none => rw [e2] at eb; cases eb
      | some b =>
        rw [e2] at eb
        cases eb
        unfold rds at r
        obtain ⟨x, xs, rfl, q, r⟩ := r
        refine ⟨x, xs, rfl, d, F, a, s, q, e1, fun us ru => ⟨ds, F, b, s, r, e2, fun ws rw' => ?_⟩⟩
        rw [← setsV_append _ _ _ _ _ (by rw [rds_length ru, List.length_map])]
        exact k _ (by rw [List.map_append]; exact rds_append ru rw')
theorem lg_star {k : Nat} {ts : List Tg} {i n : Nat} (hc : X.calm = true) (h : PGs X es (tTgs X.K ts)) (hi : i < n) (hl : ts.length = n := by rfl) (hn : (assignEach es X.env).length = n := by rfl) (hst : (assignEach es X.env).findIdx? (·.1) = some i := by rfl) : PG X (.Tuple es k pos) (tTgS X.K i ts) :=
  (pg_star (n := n) (i := i) hc h hi hn hst).imp fun v σ H Q ⟨d, F, bs, s, r, eb, kk⟩ => by
    subst hl
    unfold bindSt at eb
    cases es' : seqD d with
    | none => rw [es'] at eb; cases eb
    | some ds =>
      rw [es'] at eb
      have eb : (if (decide (ts.length ≤ ds.length + 1) && decide (ds.length ≤ 16000)) = true then bindTs ts (stV i ts.length ds (.lst (stM i ts.length ds))) else none) = some bs := eb
      by_cases hz : (decide (ts.length ≤ ds.length + 1) && decide (ds.length ≤ 16000)) = true
      · rw [if_pos hz] at eb
        obtain ⟨z1, z2⟩ := Bool.and_eq_true_iff.mp hz
        have z1 := of_decide_eq_true z1
        have z2 := of_decide_eq_true z2
        have go : ∀ (a : Addr) (vs : List V), (SqT X.K H a vs ∨ SqL X.K H a vs) → rds X.K F ds vs → gStar X.K i ts.length (tTgs X.K ts) (.ref a) σ H Q := fun a vs hq r => by
          have el := rds_length r
          refine ⟨a, vs, rfl, hq, by omega, by omega, fun p hp => ?_⟩
          have fp : F p = none := s.free hp
          have g : Grow F H (upd F p (.lst (stM i ts.length vs))) (upd H p (.lst (stM i ts.length vs))) := Grow.new hp
          have s2 := (g.same s).2.2
          have s1 := (g.same s).1
          refine ⟨_, _, bs, s2, rds_stV (rds_mono s1 _ _ r) ?_, eb, fun us ru => kk us _ _ g ru⟩
          unfold rd
          exact ⟨p, _, rfl, upd_same, rds_mono s1 _ _ (rds_stM r)⟩
        cases d with
        | tup ds' => cases es'; unfold rd at r; obtain ⟨a, vs, rfl, q, r⟩ := r; exact go a vs (.inl (SqT.of (s a _ q))) r
        | lst ds' => cases es'; unfold rd at r; obtain ⟨a, vs, rfl, q, r⟩ := r; exact go a vs (.inr (SqL.of (s a _ q))) r
        | _ => cases es'
      · rw [if_neg hz] at eb; cases eb
/-! ### for, = with such targets -/
def bodyS (i : Nat) (ts : List Tg) (g : SS) (d : D) (ρ : List Cl) : Out := match bindSt i ts d with
  | some bs => g (setsC ρ bs)
  | none => .no
def sForS (i : Nat) (ts : List Tg) (fi : SA) (g : SS) : SS := fun ρ => step (fi (hid ρ)) ρ fun ds => forD (bodyS i ts g) ds ρ
theorem grow_un {K : PySem.W.Frag} {H0 H F' H' : Hp} {ρ : List Cl} {σ : L2.St} {fp : Nat → List Addr} (A : AsF K H0 ρ σ H fp) (g : Grow (un (ol ρ fp) H) H F' H') : AsF K H0 ρ σ H' fp ∧ Same F' (un (ol ρ fp) H') := A.turned g
theorem ls_forS {tg iter : Expr} {body : List Stmt} {i : Nat} {ts : List Tg} {fi : SA} {g : SS} (hp : PassesOwn (model X.prog X.w) X.A X.env X.xe) (hc : X.calm = true) (hi : PI X tg iter (tI X.K W fi)) (hg : PG X tg (tTgS X.K i ts)) (hb : PSs X body (tS X.K W g))
    (hs : ∀ x, foldedSetIterable iter X.env x = pure x := by intro _; rfl) : PS X (.For tg iter body [] pos) (tS X.K W (sForS i ts fi g)) := (ps_for hp hc hi.frame hg hb hs).imp fun D σ H ⟨H0, ρ, ⟨fp, A⟩, l⟩ => by
  show fr (tI X.K W fi) σ H _
  refine run_hid (rel := fun H ds J => WalkD X.K ds J H) A l fun ds J F1 _ s n wk l' => ?_
  have A1 := A.mixed s n
  have eF := un_mix (L := ol ρ fp) (H := H) (F' := F1) n
  refine ⟨fun j m σ H => m = ds.length - j ∧ j ≤ ds.length ∧ ∃ ρ, As X.K F1 ρ σ H ∧ Lead X.K W H0 D (forD (bodyS i ts g) (ds.drop j) ρ), ⟨ds.length, by simp, Nat.zero_le _, ρ, ⟨fp, A1.len, by rw [eF]; exact Same.refl _, A1.apart, A1.fzs, A1.ows⟩, l'⟩, ?_⟩
  rintro j m σ H ⟨rfl, hi, ρ, ⟨fp, A⟩, l⟩
  have s01 : Same H0 F1 := by have := A1.s0; rw [eF] at this; exact this
  have wki := wk j (un (ol ρ fp) H) H A.s0 (un_same _ _)
  by_cases hlt : j < ds.length
  · obtain ⟨go, yl⟩ := wki.1 hlt
    refine .inr ⟨go, fun σ H => ∃ ρ, As X.K F1 ρ σ H ∧ Lead X.K W H0 D (forD (bodyS i ts g) (ds.drop (j + 1)) ρ), fun σ' H' n => ⟨ds.length - (j + 1), by omega, rfl, hlt, n⟩, fun x H' y => ?_⟩
    obtain ⟨F3, d, gr, hd, rdd⟩ := yl x H' y
    obtain ⟨A3, s3⟩ := A.turned gr
    have ed : ds.drop j = d :: ds.drop (j + 1) := by
      have h1 : d = ds[j] := by rw [List.getElem?_eq_getElem hlt] at hd; exact (Option.some.inj hd).symm
      rw [h1]; exact List.drop_eq_getElem_cons hlt
    rw [ed] at l
    unfold forD bodyS at l
    cases q : bindSt i ts d with
    | none => rw [q] at l; exact l.elim
    | some bs =>
      rw [q] at l
      refine ⟨d, un (ol ρ fp) H', bs, un_same _ _, rd_mono s3 _ _ rdd, q, fun vs F4 H4 g4 rv => ?_⟩
      obtain ⟨A4, s4⟩ := A3.turned g4
      refine ⟨F1, setsC ρ bs, ⟨fp, A4.setsFz s4 rv⟩, ?_⟩
      cases q2 : g (setsC ρ bs) with
      | nx ρ' => simp only [q2] at l; exact fun σ' H' A' => ⟨ρ', A', l⟩
      | ct ρ' => simp only [q2] at l; exact fun σ' H' A' => ⟨ρ', A', l⟩
      | bk ρ' => simp only [q2] at l; exact fun σ' H' A' => l σ' H' (A'.weak s01)
      | rt d' ρ' => simp only [q2] at l; exact fun v σ' H' fp' A' r => l v σ' H' fp' (A'.weak s01) r
      | ex x ρ' => simp only [q2] at l; exact fun c oa σ' F z s' r => l c oa σ' F z (s01.trans s') r
      | rf d' => simp only [q2] at l; exact fun p H' hp s' r => l p H' (s01.none hp) (s01.trans s') r
      | no => simp only [q2] at l; exact l.elim
  · have ei : j = ds.length := by omega
    subst ei
    rw [List.drop_length] at l
    exact .inl ⟨wki.2 (Nat.le_refl _), l σ H (As.weak s01 ⟨fp, A⟩)⟩
def sBindS (i : Nat) (ts : List Tg) (f : SE) : SS := fun ρ => step (f (hid ρ)) ρ fun d => match bindSt i ts d with
  | some bs => .nx (setsC ρ bs)
  | none => .no
theorem ls_bindS {tg : Expr} {i : Nat} {ts : List Tg} {f : SE} (he : PE X e (tD X.K W f)) (hg : PG X tg (tTgS X.K i ts)) (hs : swapsWithSole [tg] e pos.line X.env = pure false := by rfl) (hw : swappedStores [tg] e X.env = pure none := by rfl)
    (h1 : (assignEach [tg] X.env).map (·.2) = [assign tg X.env] := by rfl) : PS X (.Assign [tg] e pos) (tS X.K W (sBindS i ts f)) := (ps_asg he.frame hg hs hw h1).imp fun D σ H ⟨H0, ρ, ⟨fp, A⟩, l⟩ =>
  run_hid (rel := rd X.K) A l fun a v F' _ s n r l' => by
    cases q : bindSt i ts a with
    | none => rw [q] at l'; exact l'.elim
    | some bs =>
      rw [q] at l'
      have A' := A.mixed s n
      have eF := un_mix (L := ol ρ fp) (H := H) (F' := F') n
      refine ⟨a, un (ol ρ fp) (mix (ol ρ fp) H F'), bs, un_same _ _, by rw [eF]; exact r, q, fun vs F4 H4 g4 rv => ?_⟩
      obtain ⟨A4, s4⟩ := A'.turned g4
      exact l' _ _ ⟨fp, A4.setsFz s4 rv⟩
end
end Tw

/-! TwKw: defs with one keyword-only parameter that has a default. -/
namespace Tw
open PySem L2
/-- a def whose last parameter, kw, is keyword-only with the default dv -/
structure CalleeK (P : Program) (w : World) (K : PySem.W.Frag) (mg : Str → Option Value) (base : Heap) (x kw : Str) (k n : Nat) (dd : D) (m : List D → R D) : Prop where
  ex : ∃ f fd ps, FnOk P w K mg base (L2.CX P w) k f fd ps (spD K (n + 1) m) ∧ mg x = some (.ref f) ∧ PySem.W.keepIn K (.ref f) = true ∧ (∃ (v : V) (u : Value), (∀ H, rd K H dd v) ∧ Vals [v] [u] ∧ Binds K fd ps [u]) ∧
    KBn K fd ps n [kw] (fun us ws => us ++ ws) (fun vs zs => vs ++ zs)
def eCallD (m : List D → R D) (dd : D) (h : SA) : SE := fun ρ => (h ρ).bind fun ds => m (ds ++ [dd])
def eCallK (m : List D → R D) (h : SA) (f : SE) : SE := fun ρ => (h ρ).bind fun ds => (f ρ).bind fun d => m (ds ++ [d])
section
variable {X : Cx} {W : WX} {e v : Expr} {es : List Expr} {pos p kpos : Pos} {f : SE} {h : SA} {k n : Nat} {x kw : Str} {dd : D} {m : List D → R D}
theorem le_callD (C : CalleeK X.prog X.w X.K X.mg X.base x kw k n dd m) (hr : Room k X.A) (hg : Gl X x) (hx : ∀ σ, PassesAt (L2.CX X.prog X.w) X σ (fun c oa H => W c oa σ H))
    (ha : PA X (e :: es) (tA X.K W h)) (hn : ALen h n) (hdb : (x == ("__debug__" : Str)) = false := by decide) (he : starEach (e :: es) X.env = (false, eval e X.env) :: starEach es X.env := by rfl) (hpl : (backTo pos (starEach es X.env)).any (·.1) = false := by rfl) :
    PE X (.Call (.Name x p) (e :: es) [] pos) (tD X.K W (eCallD m dd h)) := by
  obtain ⟨f, fd, ps, F, hm, hk, ⟨dv, u, rdv, hv, hb⟩, _⟩ := C.ex
  refine (pe_callSD (E := fun σ c oa H => W c oa σ H) F hr hg hm hk hb hv hx ha hdb he hpl).imp fun σ H Q ⟨ρ, z, w⟩ => ⟨ρ, z, pst.bind (rel := rds X.K) w fun ds vs H1 ed s1 r1 w1 => ?_⟩
  refine ⟨ds ++ [dd], by simp [hn ρ ds ed], rds_append r1 (rds_one (rdv H1)), ?_⟩
  cases e : m (ds ++ [dd]) with
  | ok d => rw [e] at w1; exact w1
  | ex x => rw [e] at w1; exact w1
  | no => rw [e] at w1; exact w1
theorem run_fnNS {CX : CXT} {fa : Addr} {fd : FuncData} {ps ks : List Str} {sp : Sp} {E : XK} {g : List Value → List Value → List Value} {gV : List V → List V → List V} {pins : List (Addr × Obj)} {σ : L2.St} {H : Hp} {s : Shared} {Q : VK} {us ws : List Value} {vs zs : List V} (F : FnOk X.prog X.w X.K X.mg X.base CX k fa fd ps sp) (hr : Room k X.A) (hb : KBn X.K fd ps n ks g gV) (hx : PassesAt CX X σ E)
    (I : Inv X pins σ H s) (r : Vals vs us) (rz : Vals zs ws) (l1 : vs.length = n) (l2 : zs.length = ks.length) (h : sp (gV vs zs) H Q E) : wpAny (model X.prog X.w) X.A (call (.ref fa) us (ks.zip ws)) (EP X pins σ Q) X.xe s := by
  have r2 := hb.rel r rz
  refine wpAny_call (codeAny_mono (F.run X.A X.stack s H ⟨us, ks.zip ws⟩ (g us ws) (gV vs zs) Q E hr I.env0 (hb.to s us ws I.kIn (r.length.symm.trans l1) (rz.length.symm.trans l2)) r2 h) fun r s' hq => ?_)
  cases r with
  | error e => exact hx pins H s e s' I hq
  | ok fl =>
    cases fl with
    | ret u => exact I.after hq
    | next => exact False.elim hq
    | brk => exact False.elim hq
    | cont => exact False.elim hq
theorem le_callK (C : CalleeK X.prog X.w X.K X.mg X.base x kw k n dd m) (hr : Room k X.A) (hg : Gl X x) (hx : ∀ σ, PassesAt (L2.CX X.prog X.w) X σ (fun c oa H => W c oa σ H))
    (ha : PA X (e :: es) (tA X.K W h)) (hn : ALen h n) (hv : PE X v (tD X.K W f)) (hdb : (x == ("__debug__" : Str)) = false := by decide) (he : starEach (e :: es) X.env = (false, eval e X.env) :: starEach es X.env := by rfl)
    (hall : (backToKw pos (keywordEach [⟨some kw, v, kpos⟩] X.env)).all (·.1.isSome) = true := by rfl) (hks : (backToKw pos (keywordEach [⟨some kw, v, kpos⟩] X.env)).filterMap (·.1) = [kw] := by rfl)
    (hpl : ((backTo pos (starEach (e :: es) X.env)).any (·.1) || (backToKw pos (keywordEach [⟨some kw, v, kpos⟩] X.env)).any (·.1.isNone)) = false := by rfl) :
    PE X (.Call (.Name x p) (e :: es) [⟨some kw, v, kpos⟩] pos) (tD X.K W (eCallK m h f)) := by
  obtain ⟨fa, fd, ps, F, hm, hk, _, hb⟩ := C.ex
  refine ⟨fun pins s σ H Q I ⟨ρ, z, w⟩ => ?_⟩
  refine wpAny_Call_Name_kw (ld_glob I hg hm ?_ hdb)
  refine PySem.W.callWith_KW (h₀ := X.base) I.ok.mod.kin hk hall (thn (ha.run pos pins s σ H (fun vs H1 => ∃ ds, rds X.K H1 ds vs ∧ ds.length = n ∧ Same H H1 ∧ pst X.K (rd X.K) W σ H1 ((f ρ).bind fun d => m (ds ++ [d])) Q) I ⟨ρ, z, pst.bind (rel := rds X.K) w fun ds vs H1 ed s1 r1 w1 => ⟨ds, r1, hn ρ ds ed, s1, w1⟩⟩) fun us s1 ⟨vs, H1, I1, r, ds, rd1, ln, sm, w1⟩ => ?_) hpl he
  refine thn ((pk_cons (kpos := kpos) (nm := some kw) hv pk_nil).run pos pins s1 σ H1 (fun zs H2 => spD X.K (n + 1) m (vs ++ zs) H2 Q fun c oa H => W c oa σ H) I1 ⟨ρ, z.mono sm, pst.bind (rel := rd X.K) w1 fun d x H2 ed s2 r2 w2 => ?_⟩) fun ws s2 ⟨zs, H2, I2, rz, q2⟩ => ⟨I2.kIn, ?_⟩
  · refine ⟨ds ++ [d], by simp [ln], rds_append (rds_mono s2 _ _ rd1) (rds_one r2), ?_⟩
    cases e : m (ds ++ [d]) with
    | ok d => rw [e] at w2; exact w2
    | ex x => rw [e] at w2; exact w2
    | no => rw [e] at w2; exact w2
  · rw [hks]
    have hl : (vs ++ zs).length = n + 1 := by
      obtain ⟨ds', l1, l2, _⟩ := q2
      rw [rds_length l2, l1]
    have lv : vs.length = n := by rw [rds_length rd1, ln]
    have lz : zs.length = [kw].length := by rw [List.length_append] at hl; show zs.length = 1; omega
    exact run_fnNS F hr hb (hx σ) I2 r rz lv lz q2
end
theorem calleeK_tw {P : Program} {w : World} {K : PySem.W.Frag} {mg : Str → Option Value} {base : Heap} {x qual kw : Str} {params : Arguments} {body : List Stmt} {scope : Scope} {f : Addr} {fd : FuncData} {N ps : List Str} {k n : Nat} {g : SS} {dd : D} {dv : V}
    (F : FunD K x qual params body scope [] [(kw, dv)] f fd) (hm : mg x = some (.ref f)) (S : FnScope N ps scope) (hl : ps.length = n + 1) (hdv : ∀ H, rd K H dd dv)
    (hbind : ∀ (D : Addr) (doc pm : Value) (an : Option Addr) (cdv ct : Value) (us ks : List Value), us.length = n → ks.length = 1 →
      KwChain D (([kw] : List Str).zip ks) (bindArgs (PySem.W.fnOf x qual params body scope .none (.ref D) doc pm an cdv ct) ⟨us, []⟩) (ps.zip (us ++ ks)))
    (hbk : ∀ (kV doc pm : Value) (an : Option Addr) (cdv ct : Value) (us ws : List Value), us.length = n → ws.length = 1 → bindArgs (PySem.W.fnOf x qual params body scope .none kV doc pm an cdv ct) ⟨us, ([kw] : List Str).zip ws⟩ = pure (ps.zip (us ++ ws)))
    (hb : ∀ (cdv : Value) (A : Around) (outer : List Env) (s : Shared) (H : Hp) (E : XK), Room k (A.deeper (PyProof.Rows.envOfC qual scope s.heap.objs.size f cdv)) →
      (∀ σ, PassesAt (L2.CX P w) (cxOf (L2.CX P w) P w K mg base N qual scope f cdv A outer s H E) σ (fun c oa H => E c oa H)) →
      PSs (cxOf (L2.CX P w) P w K mg base N qual scope f cdv A outer s H E) body (tS K (fun c oa _ H => E c oa H) g)) : CalleeK P w K mg base x kw (k + 1) n dd (runD N.length g) := by
  have FF : FnOk P w K mg base (L2.CX P w) (k + 1) f fd ps (spD K ps.length (runD N.length g)) := by
    refine F.ok S (fun vs H Q E ⟨ds, h1, h2, _⟩ => by rw [rds_length h2, h1]) fun cdv A outer s H vs Q E hr ⟨ds, h1, h2, h3⟩ => ⟨_, hb cdv A outer s H E hr fun σ => passAt (W := fun c oa _ H => E c oa H) (takes_of rfl rfl rfl rfl) σ, H, start0 N.length ds, start_as h2 (by
      have := congrArg List.length S.pre
      rw [List.length_take] at this
      have := rds_length h2
      omega), ?_⟩
    unfold runD at h3
    cases e : g (start0 N.length ds) with
    | nx ρ =>
      rw [e] at h3
      exact fun σ' H' ⟨fp, A'⟩ => h3 .non H' (A'.s0.trans (un_same _ _)) (by unfold rd; rfl)
    | rt d ρ =>
      rw [e] at h3
      exact fun v σ' H' fp A' r => h3 v H' (A'.s0.trans (un_same _ _)) (rd_mono (un_same _ _) _ _ r)
    | ex x ρ =>
      rw [e] at h3
      exact fun c oa σ' F' _ s r => h3 c oa F' s r
    | rf d =>
      rw [e] at h3
      exact fun p H' hp s r => h3 (.ref p) H' (s.trans (wo_same _ _)) (rdo_rd (wo_same _ _) (fun _ _ => rfl) r)
    | bk ρ => rw [e] at h3; exact h3.elim
    | ct ρ => rw [e] at h3; exact h3.elim
    | no => rw [e] at h3; exact h3.elim
  rw [hl] at FF
  obtain ⟨ds, hv, hB⟩ := F.binds0 (ps := ps) n (by simp) (by simp [hl]) fun D doc pm an cdv ct us ks l1 l2 => hbind D doc pm an cdv ct us ks l1 (by simpa using l2)
  have hv : Vals [dv] ds := hv
  cases hv with
  | cons h1 h2 =>
    cases h2
    refine ⟨f, fd, ps, FF, hm, F.kp, ⟨dv, _, hdv, .cons h1 .nil, hB⟩, ?_⟩
    obtain ⟨oc, od, dV, kV, doc, pm, an, cdv, ct, osl, rfl, lk, hcd, hD, hK⟩ := F.ex
    rcases hD with ⟨_, rfl⟩ | ⟨e, _⟩
    · exact ⟨fun s us ws X l1 l2 => .of_eq (hbk kV doc pm an cdv ct us ws l1 (by simpa using l2)), fun r1 r2 => r1.append r2⟩
    · exact absurd rfl e
end Tw

/-! TwMore: name = {k: v for ..}, a, b, c = x, y, z. -/
namespace Tw
open PySem L2 PyProof.Rows
section
variable {X : Cx} {W : WX}
theorem sw_trueD {kx vx : Expr} {gs : List Comprehension} {scope : Scope} {pos py : Pos} {y : Str} {l : Nat} {env : Env} (hk : env.scope.kind = .function) (hy : env.scope.names.lookup y = some .local) (hl : (py.line == pos.line) = true)
    (ha : (scope.names.any fun (n, k) => n == y && (k == .local || k == .cell)) = false) : swapsWith (.DictComp kx vx gs scope pos) (some (.Name y py)) l env = pure true := by
  have ky : env.kindOf y = some .local := hy
  have hb : env.blockKind = .function := by unfold Env.blockKind; rw [hk]; rfl
  unfold swapsWith
  simp only [hb, ky, ha, Expr.pos, hl]
  rfl
theorem ps_setDc {i : Nat} {y : Str} {py : Pos} {kx vx tg iter : Expr} {ifs : List Expr} {scope : Scope} {own : List (Str × Nat)} {pos spos : Pos} {wi : TI} {g : TG} {tt : TT} {tk tv : TE} (hc : X.calm = true) (hN : X.N.Nodup) (hy : X.N[i]? = some y) (hyl : X.env.scope.names.lookup y = some .local)
    (hsw : swapsWith (.DictComp kx vx [⟨tg, iter, ifs, 0⟩] scope pos) (some (.Name y py)) spos.line X.env = pure true) (hi : PI X tg iter wi) (ok : BlkOk X.N X.env.scope scope own)
    (hg : ∀ (s : Shared) (H : Hp) (C : Addr) (cl : List (Str × Addr)) (fp : List Addr), PG (X.blk s H scope (compEnvC scope cl C X.env) fp) tg g) (ht : ∀ (s : Shared) (H : Hp) (C : Addr) (cl : List (Str × Addr)) (fp : List Addr), PTs (X.blk s H scope (compEnvC scope cl C X.env) fp) ifs tt)
    (hk : ∀ (s : Shared) (H : Hp) (C : Addr) (cl : List (Str × Addr)) (fp : List Addr), PE (X.blk s H scope (compEnvC scope cl C X.env) fp) kx tk)
    (he : ∀ (s : Shared) (H : Hp) (C : Addr) (cl : List (Str × Addr)) (fp : List Addr), PE (X.blk s H scope (compEnvC scope cl C X.env) fp) vx tv) (hs : ∀ x, foldedSetIterable iter X.env x = pure x := by intro _; rfl) :
    PS X (.Assign [.Name y py] (.DictComp kx vx [⟨tg, iter, ifs, 0⟩] scope pos) spos) (tAsg (tDc wi g tt tk tv (own.map (·.2))) (gName i)) := by
  refine ⟨fun pins s σ H D I h => ?_⟩
  rw [exec_Assign_Name_used _ _ _ _ hsw]
  refine wpAny_bind (wpAny_standAt (wpAny_bind ?_))
  show wpAny _ X.A (do let _ ← comprehension (.DictComp kx vx [⟨tg, iter, ifs, 0⟩] scope pos) scope X.env (firstIterPos [⟨tg, iter, ifs, 0⟩] pos) newDict false (eval iter X.env) (some (assign (.Name y py) X.env))) _ _ s
  have h : tDc wi g tt tk tv (own.map (·.2)) σ H (fun x H1 => gName i x σ H1 D.nx) := h
  refine wpAny_bind (thn (dc_core (Qf := fun _ s' => SP X pins D .next s') hc hN I hi ok hg ht hk he hs h fun L C s' m H' I' q hn f => ?_) fun _ s' hq => wpAny_pure (wpAny_pure hq))
  show wpAny _ _ (assign (.Name y py) X.env (.ref L)) _ _ _
  refine wpAny_assign_Name (store_ok2 (v := V.ref L) I' hN hy (.inl hyl) rfl (fun s2 I2 ⟨a, sb, ha⟩ => ?_) (.inr hyl))
  obtain ⟨f0, f1, f2, f3, f4, f5⟩ := f
  have haC : C ≠ a := by
    rcases ha with z | z
    · rw [z]; exact f1
    · exact fun e => f4 y a z e.symm
  refine ⟨m, hn.sameBut sb haC, fun h3 sb3 => ?_⟩
  exact ⟨_, H', I2.turned (t' := s2.toks) (fun b o hb e => (sb3.2 b hb).trans e) f0 f1 f3 f4 f5, q⟩
section
variable {kx vx tg iter : Expr} {ifs : List Expr} {scope : Scope} {own : List (Str × Nat)} {t : Tg} {fi : SA} {ft : ST} {fk fv : SE} {pos : Pos}
theorem ls_setDcF {i : Nat} {y : Str} {py spos : Pos} (hc : X.calm = true) (hN : X.N.Nodup) (hy : X.N[i]? = some y) (hyl : X.env.scope.names.lookup y = some .local)
    (hsw : swapsWith (.DictComp kx vx [⟨tg, iter, ifs, 0⟩] scope pos) (some (.Name y py)) spos.line X.env = pure true) (hi : PI X tg iter (tI X.K W fi)) (ok : BlkOk X.N X.env.scope scope own)
    (hg : ∀ (s : Shared) (H : Hp) (C : Addr) (cl : List (Str × Addr)) (fp : List Addr), PG (X.blk s H scope (compEnvC scope cl C X.env) fp) tg (tTg X.K t)) (ht : ∀ (s : Shared) (H : Hp) (C : Addr) (cl : List (Str × Addr)) (fp : List Addr), PTs (X.blk s H scope (compEnvC scope cl C X.env) fp) ifs (tT X.K W0 ft))
    (hk : ∀ (s : Shared) (H : Hp) (C : Addr) (cl : List (Str × Addr)) (fp : List Addr), PE (X.blk s H scope (compEnvC scope cl C X.env) fp) kx (tD X.K W0 fk))
    (he : ∀ (s : Shared) (H : Hp) (C : Addr) (cl : List (Str × Addr)) (fp : List Addr), PE (X.blk s H scope (compEnvC scope cl C X.env) fp) vx (tD X.K W0 fv)) (hsl : (t.slots.all fun i => (own.map (·.2)).contains i) = true := by rfl) (hs : ∀ x, foldedSetIterable iter X.env x = pure x := by intro _; rfl) :
    PS X (.Assign [.Name y py] (.DictComp kx vx [⟨tg, iter, ifs, 0⟩] scope pos) spos) (tS X.K W (sSetF i (eDc (own.map (·.2)) t fi ft fk fv))) :=
  (ps_setDc hc hN hy hyl hsw hi ok hg ht (fun s H C cl fp => (hk s H C cl fp).frame) (fun s H C cl fp => (he s H C cl fp).frame) hs).frame.imp fun D σ H w => by
    obtain ⟨L, F, hd, q⟩ := setF_core w
    exact ⟨L, F, hd, dc_liftF (in_own hsl) σ F _ q⟩
theorem ls_setDc {i : Nat} {y : Str} {py spos : Pos} (hc : X.calm = true) (hN : X.N.Nodup) (hy : X.N[i]? = some y) (hyl : X.env.scope.names.lookup y = some .local)
    (hsw : swapsWith (.DictComp kx vx [⟨tg, iter, ifs, 0⟩] scope pos) (some (.Name y py)) spos.line X.env = pure true) (hi : PI X tg iter (tI X.K W fi)) (ok : BlkOk X.N X.env.scope scope own)
    (hg : ∀ (s : Shared) (H : Hp) (C : Addr) (cl : List (Str × Addr)) (fp : List Addr), PG (X.blk s H scope (compEnvC scope cl C X.env) fp) tg (tTg X.K t)) (ht : ∀ (s : Shared) (H : Hp) (C : Addr) (cl : List (Str × Addr)) (fp : List Addr), PTs (X.blk s H scope (compEnvC scope cl C X.env) fp) ifs (tT X.K W0 ft))
    (hk : ∀ (s : Shared) (H : Hp) (C : Addr) (cl : List (Str × Addr)) (fp : List Addr), PE (X.blk s H scope (compEnvC scope cl C X.env) fp) kx (tD X.K W0 fk))
    (he : ∀ (s : Shared) (H : Hp) (C : Addr) (cl : List (Str × Addr)) (fp : List Addr), PE (X.blk s H scope (compEnvC scope cl C X.env) fp) vx (tD X.K W0 fv)) (hsl : (t.slots.all fun i => (own.map (·.2)).contains i) = true := by rfl) (hs : ∀ x, foldedSetIterable iter X.env x = pure x := by intro _; rfl) :
    PS X (.Assign [.Name y py] (.DictComp kx vx [⟨tg, iter, ifs, 0⟩] scope pos) spos) (tS X.K W (sSet i (eDc (own.map (·.2)) t fi ft fk fv))) :=
  (ps_setDc hc hN hy hyl hsw hi ok hg ht (fun s H C cl fp => (hk s H C cl fp).frame) (fun s H C cl fp => (he s H C cl fp).frame) hs).frame.imp fun D σ H w => by
    obtain ⟨L, F, hd, q⟩ := asg_core w
    exact ⟨L, F, hd, dc_lift (in_own hsl) σ F _ q⟩
end
theorem ls_par3 {i j l : Nat} {m n o : Bool} {x y z : Str} {a b c : Expr} {f g h : SE} {px py pz pt pos : Pos} {kt k2 pt2} (hc : X.calm = true) (hN : X.N.Nodup) (hi : X.N[i]? = some x) (hj : X.N[j]? = some y) (hl : X.N[l]? = some z) (hij : i ≠ j) (hil : i ≠ l) (hjl : j ≠ l)
    (hx : X.env.scope.names.lookup x = some .local) (hy : X.env.scope.names.lookup y = some .local) (hz : X.env.scope.names.lookup z = some .local) (ha : PE X a (tM X.K W m f)) (hb : PE X b (tM X.K W n g)) (hcc : PE X c (tM X.K W o h))
    (hw : swappedStores [.Tuple [.Name x px, .Name y py, .Name z pz] kt pt] (.Tuple [a, b, c] k2 pt2) X.env = pure (some [x, y, z]))
    (hs : swapsWithSole [.Tuple [.Name x px, .Name y py, .Name z pz] kt pt] (.Tuple [a, b, c] k2 pt2) pos.line X.env = pure false := by rfl)
    (h1 : starEach [a, b, c] X.env = (false, eval a X.env) :: starEach [b, c] X.env := by rfl) (h2 : starEach [b, c] X.env = (false, eval b X.env) :: starEach [c] X.env := by rfl) (h3 : starEach [c] X.env = (false, eval c X.env) :: starEach [] X.env := by rfl) :
    PS X (.Assign [.Tuple [.Name x px, .Name y py, .Name z pz] kt pt] (.Tuple [a, b, c] k2 pt2) pos) (tS X.K W (sPar3 i j l m n o f g h)) :=
  (ps_par3 hc hN hi hj hl hij hil hjl hx hy hz (pa_cons ha.frame (pa_cons hb.frame (pa_cons hcc.frame pa_nil h3) h2) h1) hw hs).imp fun D σ H ⟨H0, ρ, ⟨fp, A⟩, le⟩ => by
    have hlen := A.len
    show fr (tM X.K W m f) σ H (fun x H1 => fr (tM X.K W n g) σ H1 (fun y H2 => fr (tM X.K W o h) σ H2 (fun z H3 => ∃ u v w, [x, y, z] = [u, v, w] ∧ D.nx (((σ.set i (some u)).set j (some v)).set l (some w)) H3)))
    refine run_ext (more := []) (mo := []) (by simpa using A) hlen le fun d v H1 fp1 _ A1 l1 => ?_
    refine run_ext (more := [cM m d]) (mo := [some v]) A1 hlen l1 fun e u H2 fp2 _ A2 l2 => ?_
    refine run_ext (more := [cM m d, cM n e]) (mo := [some v, some u]) A2 hlen l2 fun q r H3 fp3 _ A3 l3 => ?_
    refine ⟨v, u, r, rfl, ?_⟩
    obtain ⟨fp4, A4⟩ := A3.place1 hlen i
    obtain ⟨fp5, A5⟩ := AsF.place1 (more := [cM o q]) (mo := [some r]) A4 (by simp [hlen]) j
    obtain ⟨fp6, A6⟩ := AsF.place1 (more := []) (mo := []) A5 (by simp [hlen]) l
    exact l3 _ _ ⟨fp6, by simpa using A6⟩
end
end Tw

/-! TwEnumT: for i, a in enumerate(a tuple). -/
namespace TwEnT
open PySem PySem.W
set_option maxHeartbeats 1000000 in
theorem meets_enumerate_new1 {v : Value} {o : Obj} {H : Heap → Prop} (B : Begins v o H) :
    Meets (Builtin.«enumerate.__new__» ⟨[.type "enumerate", v], []⟩) (fun _ R s => H s.heap ∧
      R (.ok (.ret (.ref (s.heap.push o).objs.size))) { s with heap := (s.heap.push o).push { cls := .type "enumerate", data := .fields #[.none, .bool false, .ref s.heap.objs.size, rawInt 0, .none, .none] } }) :=
  .of_wp fun prog w A R s h => by
    obtain ⟨hp, g, d, tk, os⟩ := s; obtain ⟨h1, h⟩ := h
    have hsub := sub_enumerate
    have q1 : ∀ {A' : Around} {E : Value → Shared → Prop} {Q : Value → Shared → Prop}, Q (.ref hp.objs.size) ⟨hp.push o, g, d, tk, os⟩ → wpAny (model prog w) A' (pyIter v) Q E ⟨hp, g, d, tk, os⟩ :=
      fun q => B.iter prog w _ _ ⟨hp, g, d, tk, os⟩ _ h1 q
    wp_walk using q1
    refine wpAny_stack_any fun st => wpAny_pure ?_
    split
    · rename_i c _ _ _ _ _
      cases (c == Value.type "enumerate")
      · wp_walk using q1
        exact ⟨_, rfl, h⟩
      · wp_walk using q1
        exact ⟨_, rfl, h⟩
    · wp_walk using q1
      exact ⟨_, rfl, h⟩
section
variable {prog : Program} {w : World} {A : Around} {E : Value → Shared → Prop} {s : Shared}
theorem enum_begins1 {v : Value} {o : Obj} {H : Heap → Prop} {Q : Value → Shared → Prop} (B : Begins v o H) (h1 : H s.heap)
    (h : ∀ h', IsEnum h' (s.heap.objs.size + 1) s.heap.objs.size 0 .none → h'.get? s.heap.objs.size = some o → h'.objs.size = s.heap.objs.size + 2 →
      (∀ b o, s.heap.get? b = some o → h'.get? b = some o) → Q (.ref (s.heap.objs.size + 1)) { s with heap := h' }) :
    wpAny (model prog w) A (call (.type "enumerate") [v]) Q E s := by
  refine callType_new F.called_enumerate (by decide) (F.typeCall_enumerate_1 _) (F.newCall_enumerate_1 _) (fun obj => F.args_object_init_2 obj _) F.entry_enumerate_new
    (meets_enumerate_new1 B) ⟨h1, ?_⟩
  have hz : (s.heap.push o).objs.size = s.heap.objs.size + 1 := Heap.size_push ..
  show _ ∧ _
  rw [hz]
  have he : IsEnum ((s.heap.push o).push { cls := .type "enumerate", data := .fields #[.none, .bool false, .ref s.heap.objs.size, rawInt 0, .none, .none] }) (s.heap.objs.size + 1) s.heap.objs.size 0 .none := by
    have := Heap.get?_push_size (s.heap.push o) (o := { cls := .type "enumerate", data := .fields #[.none, .bool false, .ref s.heap.objs.size, rawInt 0, .none, .none] }) rfl
    rw [hz] at this; exact this
  refine ⟨⟨_, he, rfl⟩, h _ he (Heap.get?_push_of_some _ (Heap.get?_push_size _ B.free)) (by rw [Heap.size_push, hz]) fun b o x => Heap.get?_push_of_some _ (Heap.get?_push_of_some _ x)⟩
end
end TwEnT
namespace Tw
open PySem L2 TwEnT
def IteT (K : PySem.W.Frag) (a : Addr) : It :=
  ⟨fun i H => ∃ (xs : List V) (x : V), SqT K H a xs ∧ xs[i]? = some x, fun i H v H' => ∃ T x, v = .ref T ∧ H T = none ∧ H' = upd H T (.tup [.int (i : Nat), x]) ∧ ∀ xs, SqT K H a xs → xs[i]? = some x, fun i H => ∃ xs : List V, SqT K H a xs ∧ xs.length ≤ i⟩
theorem turn_enumT {P : Program} {w : World} {K : PySem.W.Frag} {elts : List Expr} {kk : Nat} {tpos : Pos} (a e it : Addr) (hae : a ≠ e) (hai : a ≠ it) (items : Array Value) :
    Turn P w K (.Tuple elts kk tpos) (IteT K a) [e, it] e (fun i h => (∃ old, IsEnum h e it ((i : Nat) : Int) old) ∧ h.IsTupleIter it a i ∧ e ≠ it) where
  mem := by simp
  obj := fun i h st b hb => by
    obtain ⟨⟨old, he⟩, ⟨o, ho, hc, hd⟩, _⟩ := st
    have e' : b = e ∨ b = it := by simpa using hb
    rcases e' with z | z
    · rw [z]; exact ⟨_, he, fun v q => nomatch q⟩
    · rw [z]; exact ⟨o, ho, fun v q => by rw [hd] at q; cases q⟩
  keep := fun i h h' st k => let ⟨⟨old, he⟩, hi, hne⟩ := st; ⟨⟨old, k e (by simp) _ he⟩, hi.at fun o q => k it (by simp) o q, hne⟩
  item := by
    intro X hP hw hK hc i pins s σ H E I hf st hg
    subst hP hw hK
    obtain ⟨⟨old, he⟩, hit, hne⟩ := st
    obtain ⟨xs, x, hq, hx⟩ := hg
    obtain ⟨its, rv, p, hz⟩ := I.tuple hq
    obtain ⟨u, hu, ru⟩ := rv.get hx
    have hlt : i < its.toArray.size := by
      have := (List.getElem?_eq_some_iff.mp hu).1
      simpa using this
    have hel : e < s.heap.objs.size := Heap.lt_size he
    have hil : it < s.heap.objs.size := by obtain ⟨_, q, _⟩ := hit; exact Heap.lt_size q
    refine wpAny_pyNext_enum_itemD (Draws.tuple (A := X.A.in1) (I.ok.hd hc) it a hai its.toArray) he ⟨hit, p⟩ hlt hne (by simp [hne, Ne.symm hae]) fun x' h' tk hP' ho hit' hT hsz hk => ?_
    have ex : x' = u := by
      have hP' : its.toArray[i]? = some x' := hP'
      have : its.toArray[i]? = some u := by simpa using hu
      rw [this] at hP'; exact (Option.some.inj hP').symm
    subst ex
    refine ⟨_, rfl, wpAny_letOwnedTupleGo_enum (s := { s with heap := h', toks := tk + 1 }) ho fun h'' he' sb => ?_⟩
    have hT2 : h''.get? s.heap.objs.size = some { cls := .type "tuple", data := .seq #[.int i tk, x'] } := (sb.2 _ (Nat.ne_of_gt hel)).trans hT
    have new : ObjOk X.prog X.w (upd H s.heap.objs.size (.tup [.int (i : Nat), x])) h'' s.heap.objs.size (.tup [.int (i : Nat), x]) :=
      ⟨by show 2 ≤ sizeLine; decide, [.int i tk, x'], .cons ⟨_, rfl⟩ (.cons ru .nil), ⟨_, hT2, rfl, _, rfl⟩⟩
    have I1 : Inv X pins σ (upd H s.heap.objs.size (.tup [.int (i : Nat), x])) { s with heap := h'', toks := tk + 1 } :=
      I.turnedNew (ch := [e, it]) (fun b ob hb q => (sb.2 b (fun z => hb (by simp [z]))).trans (hk b ob (fun z => hb (by simp [z])) (fun z => hb (by simp [z])) q)) hf (Nat.le_refl _) new
    refine ⟨.ref s.heap.objs.size, _, I1, rfl, ⟨_, x, rfl, I.hok.fresh (Nat.le_refl _), rfl, fun ys hy => by rw [I.tuple_inj hy hq]; exact hx⟩, ⟨⟨x', ?_⟩, hit'.1.at fun o q => (sb.2 it (Ne.symm hne)).trans q, hne⟩, fun b hb => ?_⟩
    · have e1 : ((i + 1 : Nat) : Int) = (i : Int) + 1 := by omega
      rw [e1]; exact he'
    · have hb' : b < s.heap.objs.size := by
        have e' : b = e ∨ b = it := by simpa using hb
        rcases e' with z | z
        · rw [z]; exact hel
        · rw [z]; exact hil
      rw [upd_ne (Nat.ne_of_lt hb')]
      exact (hf b hb).1
  done := by
    intro X hP hw hK hc i pins s σ H E I hf st hg
    subst hP hw hK
    obtain ⟨⟨old, he⟩, hit, hne⟩ := st
    obtain ⟨xs, hq, hx⟩ := hg
    obtain ⟨its, rv, p, hz⟩ := I.tuple hq
    obtain ⟨f0, f1, f2, f3, f4, f5⟩ := hf it (by simp)
    have hl := rv.length
    have D := Draws.tuple (prog := X.prog) (w := X.w) (A := X.A.in1) (I.ok.hd hc) it a hai its.toArray
    have hnx : its.toArray[i]? = none := by simp; omega
    -- beyond the last item: the tuple's own end
    have hT : s.TypeIs (.ref e) "enumerate" := ⟨_, he, rfl⟩
    unfold pyNext
    refine wpAny_bind (wpAny_attempt (wpAny_callSpecial?_slot (name := Str.ofString "__next__") hT F.slot_enumerate_next
      (wpAny_call_entry F.slot_enumerate_next hT F.entry_enumerate_next ?_ (F.args_enumerate_next_1 _))))
    show wpAny _ _ (field (.ref e) 2 >>= _) _ _ _
    refine wpAny_bind (wpAny_field he rfl (x := .ref it) rfl ?_)
    refine wpAny_bind (wpAny_nextOf_tuple_end (I.ok.hd hc) hit p hnx fun h' x he' hx' => ?_)
    obtain ⟨o, ho, hcc⟩ := hx'
    refine wpAny_bind (wpAny_isInstance (T := "StopIteration") (b := true) ⟨o, ho, hcc⟩ isSubtype_stop ?_)
    exact wpAny_pure ⟨rfl, I.turned (t' := s.toks) (fun b o hb q => he' b o hb q) f0 f1 f3 f4 f5⟩
  self := fun A i s Q E st h => let ⟨⟨_, he⟩, _⟩ := st; wpAny_pyIter_enum he h
def iEnumT (K : PySem.W.Frag) (ta : TA) : TI := fun σ H R => ta σ H fun vs H1 => ∃ a xs, vs = [.ref a] ∧ SqT K H1 a xs ∧ R (IteT K a) H1
theorem pi_enumT {X : Cx} {e : Expr} {ta : TA} {p pos tpos : Pos} {elts : List Expr} {kk : Nat} (hg : Gl X "enumerate") (hm : X.mg "enumerate" = none) (ha : PA X [e] ta) (hs : starEach [e] X.env = [(false, eval e X.env)] := by rfl) :
    PI X (.Tuple elts kk tpos) (.Call (.Name "enumerate" p) [e] [] pos) (iEnumT X.K ta) := by
  refine ⟨fun pins s σ H R I h => ?_⟩
  refine PyProof.Rows.Call_ (ld_blt I hg hm PyProof.Rows.boot_enumerate (PyProof.Rows.callWith_type1 (thn (ha.run pos pins s σ H _ I h) fun us s1 ⟨vs, H1, I1, r1, q1⟩ => ?_) hs rfl))
  obtain ⟨a, xs, ex, hq, q⟩ := q1
  subst ex
  cases r1 with
  | cons r rr =>
    cases rr
    cases r
    obtain ⟨its, rv, p', hz⟩ := I1.tuple hq
    have hal : a < s1.heap.objs.size := by obtain ⟨o, ho, _⟩ := p'; exact Heap.lt_size ho
    refine enum_begins1 (begins_tuple a its.toArray) p' fun h' he hit hsz hk => wpAny_pyIter_enum he ?_
    have I2 : Inv X pins σ H1 { s1 with heap := h' } := I1.kept (t' := s1.toks) hk
    refine ⟨s1.heap.objs.size + 1, [s1.heap.objs.size + 1, s1.heap.objs.size], _, _, H1, rfl, I2, turn_enumT a (s1.heap.objs.size + 1) s1.heap.objs.size (Nat.ne_of_lt (Nat.lt_succ_of_lt hal)) (Nat.ne_of_lt hal) its.toArray, ⟨⟨.none, he⟩, ⟨_, hit, rfl, rfl⟩, Nat.succ_ne_self _⟩, fun b hb => ?_, q⟩
    have e' : b = s1.heap.objs.size + 1 ∨ b = s1.heap.objs.size := by simpa using hb
    have hle : s1.heap.objs.size ≤ b := by
      rcases e' with z | z
      · rw [z]; exact Nat.le_add_right _ _
      · rw [z]; exact Nat.le_refl _
    exact I1.fpOk hle (I1.hok.fresh hle)
theorem walkD_enumT {K : PySem.W.Frag} {a : Addr} {xs : List V} {ds : List D} {F : Hp} (q : SqT K F a xs) (r : rds K F ds xs) : WalkD K (enumD 0 ds) (IteT K a) F := fun i F2 H2 s1 s2 => by
  have q2 : SqT K H2 a xs := sqT_mono (s1.trans s2) q
  rw [enumD_length]
  refine ⟨fun hi => ⟨⟨xs, xs[i]'(by rw [rds_length r]; exact hi), q2, by simp⟩, fun v H3 y => ?_⟩, fun hi => ⟨xs, q2, by rw [rds_length r]; exact hi⟩⟩
  obtain ⟨T, x, rfl, hT, rfl, y⟩ := y
  obtain ⟨d, h1, h2⟩ := rds_at r (y xs q2)
  have fT : F2 T = none := by
    cases e : F2 T with
    | none => rfl
    | some o => rw [s2 T o e] at hT; cases hT
  refine ⟨_, .tup [.int (i : Nat), d], Grow.new hT, ?_, rd_pair upd_same (by unfold rd; rfl) (rd_mono (s1.trans (same_new fT)) d x h2)⟩
  rw [enumD_get, h1]
  simp
/-- enumerate of a list or of a tuple -/
def dEnumA : List D → R (List D)
  | [.lst ds] => .ok (enumD 0 ds)
  | [.tup ds] => .ok (enumD 0 ds)
  | _ => .no
theorem li_enumA {X : Cx} {W : WX} {e : Expr} {f : SA} {p pos tpos : Pos} {elts : List Expr} {kk : Nat} (hg : Gl X "enumerate") (hm : X.mg "enumerate" = none) (ha : PA X [e] (tA X.K W f)) (hs : starEach [e] X.env = [(false, eval e X.env)] := by rfl) : PI X (.Tuple elts kk tpos) (.Call (.Name "enumerate" p) [e] [] pos) (tI X.K W (iRg dEnumA f)) :=
  (PI.or (pi_enum hg hm ha hs) (pi_enumT hg hm ha hs)).imp fun σ H R ⟨ρ, z, w⟩ => by
    by_cases ht : ∃ ds, f ρ = .ok [.tup ds]
    · obtain ⟨ds, ht⟩ := ht
      refine .inr ⟨ρ, z, pst.bind (rel := rds X.K) w fun es vs H1 e s1 r1 w1 => ?_⟩
      rw [ht] at e; cases e
      obtain ⟨v, rfl, q⟩ := rds_1 r1
      unfold rd at q
      obtain ⟨a, us, rfl, q, r⟩ := q
      exact ⟨a, us, rfl, SqT.of q, w1 _ H1 (Same.refl H1) (walkD_enumT (SqT.of q) r)⟩
    · refine .inl ⟨ρ, z, pst.bind (rel := rds X.K) w fun es vs H1 e s1 r1 w1 => ?_⟩
      unfold dEnumA at w1
      split at w1
      · obtain ⟨v, rfl, q⟩ := rds_1 r1
        unfold rd at q
        obtain ⟨a, us, rfl, q, r⟩ := q
        exact ⟨a, us, rfl, SqL.of q, w1 _ H1 (Same.refl H1) (walkD_enum (SqL.of q) r)⟩
      · exact absurd ⟨_, e⟩ ht
      · exact w1.elim
end Tw

/-! TwExc: own errors raised. -/
namespace Tw
open PySem L2
/-! ### an own error without an __init__ of its own -/
abbrev veT : List Value := [.type "ValueError", .type "Exception", .type "BaseException", .type "object"]
structure ErrC (K : PySem.W.Frag) (C : Str) : Prop where
  x : PySem.W.excIn K (He.ga K C) veT "ValueError.__new__" = true
  k : PySem.W.keepIn K (.ref (He.ga K C)) = true
  b : PySem.W.subIn K (.ref (He.ga K C)) (.type "BaseException") = some true
  t : PySem.W.typeIn K (.ref (He.ga K C)) = some (.type "type")
def errCk (C : Str) (K : PySem.W.Frag) : Bool :=
  PySem.W.excIn K (He.ga K C) veT "ValueError.__new__" && PySem.W.keepIn K (.ref (He.ga K C)) && (PySem.W.subIn K (.ref (He.ga K C)) (.type "BaseException") == some true) && (PySem.W.typeIn K (.ref (He.ga K C)) == some (.type "type"))
theorem err_of {C : Str} {K : PySem.W.Frag} (h : errCk C K = true) : ErrC K C := by
  unfold errCk at h
  simp only [Bool.and_eq_true, beq_iff_eq] at h
  exact ⟨h.1.1.1, h.1.1.2, h.1.2, h.2⟩
section
variable {X : Cx} {W : WX}
def sRaise (C : Str) : SS := fun ρ => .ex ⟨C, none⟩ ρ
theorem ls_raise {C m : Str} {j : Nat} {p p2 pos pos2 : Pos} (T : ErrC X.K C) (hm : X.mg C = some (.ref (He.ga X.K C))) (hc : X.calm = true) (tk : Takes X W) (hg : Gl X C := by rfl) (hdb : (C == ("__debug__" : Str)) = false := by decide) :
    PS X (.Raise (some (.Call (.Name C p) [.Constant (.str m) j p2] [] pos)) none pos2) (tS X.K W (sRaise C)) :=
  (ps_raise hc tk (pmk_own PySem.F.excBase_ValueError T.x hm T.k (raises_own T.b T.t) hg hdb)).imp fun D σ H ⟨H0, ρ, ⟨fp, A⟩, l⟩ =>
    l _ _ σ H (A.rz_hid.mono (un_same _ _)) (A.s0.trans (un_same _ _)) ⟨rfl, rfl⟩
end
/-! ### an own error whose __init__ keeps its one argument -/
section
open PySem.W PySem.Calls PyProof.Rows PySem.HandSPX
/-- what stands behind a made error's __init__ -/
structure ErrEnd (h h' : Heap) (x C dx t1 : Addr) (f : Str) (v : Value) : Prop where
  keep : ∀ b o, b ≠ x → h.get? b = some o → h'.get? b = some o
  obj : h'.get? x = some { cls := .ref C, dict := some dx, data := .fields #[.ref t1, .none, .none, .none, .bool false, .none] }
  dbig : h.objs.size ≤ dx
  dne : dx ≠ x
  ns : h'.Ns1 dx (fun y => if y = f then some v else none)
structure ErrMade (h h' : Heap) (e C d : Addr) (f : Str) (v : Value) : Prop where
  keep : ∀ b o, h.get? b = some o → h'.get? b = some o
  new : h.objs.size ≤ e
  obj : ∃ oe vs, h'.get? e = some oe ∧ oe.cls = .ref C ∧ oe.dict = some d ∧ oe.data = .fields vs ∧ vs[1]? = some .none
  dbig : h.objs.size ≤ d
  dne : d ≠ e
  ns : h'.Ns1 d (fun y => if y = f then some v else none)
/-- the class's rows -/
structure ErrT (K : Frag) (C : Addr) (f : Str) (fI : Addr) : Prop where
  cls : ∃ nm q N bs bm sn sub ab col dd k0 k1 k2 k3 k5, K.lookup C = some (excClassObj nm q C N bs bm true sn sub ab col dd k0 k1 k2 k3 k5 "ValueError.__new__") ∧ refsVE bm = true
  sa : findIn K (.ref C) "__setattr__" = some (some (.builtin "object.__setattr__"))
  ga : findIn K (.ref C) "__getattribute__" = some (some (.builtin "BaseException.__getattribute__"))
  gg : findIn K (.ref C) "__getattr__" = some none
  noN : findIn K (.ref C) f = some none
  iC : findIn K (.ref C) "__init__" = some (some (.ref fI))
  tC : typeIn K (.ref fI) = some (.type "function")
  kC : keepIn K (.ref C) = true
  exC : subIn K (.ref C) (.type "BaseException") = some true
  tyC : typeIn K (.ref C) = some (.type "type")
  hdC : hasDictIn K C = true
def errClsB (C : Addr) : Option Obj → Bool
  | some ⟨.type "type", _, .cls cd, sl⟩ => (match cd.mro, sl.toList with
    | .ref C' :: bm, [_, _, _, _, some (.builtin n), _] => C' == C && n == "ValueError.__new__" && !cd.hasDel && cd.hasDict && refsVE bm
    | _, _ => false)
  | _ => false
theorem errCls_of {C : Addr} {o : Option Obj} (q : errClsB C o = true) : ∃ nm q N bs bm sn sub ab col dd k0 k1 k2 k3 k5, o = some (excClassObj nm q C N bs bm true sn sub ab col dd k0 k1 k2 k3 k5 "ValueError.__new__") ∧ refsVE bm = true := by
  unfold errClsB at q
  split at q
  · rename_i dd cd sl
    split at q
    · rename_i C' bm k0 k1 k2 k3 n k5 hm hs
      simp only [Bool.and_eq_true, beq_iff_eq, Bool.not_eq_true'] at q
      obtain ⟨⟨⟨⟨rfl, rfl⟩, hdel⟩, hdct⟩, hv⟩ := q
      obtain ⟨nm, bs, mro, ns, qn, hd, sn, sub, ab, col, del⟩ := cd
      dsimp only at hm hdel hdct
      subst hm hdel hdct
      have hsl : sl = #[k0, k1, k2, k3, some (.builtin "ValueError.__new__"), k5] := by
        obtain ⟨l⟩ := sl
        simp only at hs
        rw [hs]
      subst hsl
      exact ⟨nm, qn, ns, bs, bm, sn, sub, ab, col, dd, k0, k1, k2, k3, k5, rfl, hv⟩
    · cases q
  · cases q
def errTCk (Cn f : Str) (K : Frag) : Bool :=
  let C := He.ga K Cn
  let fI := He.ma K C "__init__"
  errClsB C (K.lookup C) && (findIn K (.ref C) "__setattr__" == some (some (.builtin "object.__setattr__"))) && (findIn K (.ref C) "__getattribute__" == some (some (.builtin "BaseException.__getattribute__"))) && (findIn K (.ref C) "__getattr__" == some none) &&
  (findIn K (.ref C) f == some none) && (findIn K (.ref C) "__init__" == some (some (.ref fI))) && (typeIn K (.ref fI) == some (.type "function")) && keepIn K (.ref C) && (subIn K (.ref C) (.type "BaseException") == some true) && (typeIn K (.ref C) == some (.type "type")) && hasDictIn K C
theorem errT_of {Cn f : Str} {K : Frag} (h : errTCk Cn f K = true) : ErrT K (He.ga K Cn) f (He.ma K (He.ga K Cn) "__init__") := by
  unfold errTCk at h
  simp only [Bool.and_eq_true, beq_iff_eq] at h
  obtain ⟨⟨⟨⟨⟨⟨⟨⟨⟨⟨h1, h2⟩, h3⟩, h4⟩, h5⟩, h6⟩, h7⟩, h8⟩, h9⟩, h10⟩, h11⟩ := h
  exact ⟨errCls_of h1, h2, h3, h4, h5, h6, h7, h8, h9, h10, h11⟩
/-- the text of the __init__ at fI -/
structure ErrI (K : Frag) (f : Str) (fI : Addr) : Prop where
  run : ∀ {prog : Program} {w : World} {A : Around} {E : Value → Shared → Prop} {R : Result → Shared → Prop} {s : Shared} {C x t0 : Addr} {v : Value}, ErrT K C f fI → K.In s.heap → s.heap.NoLimit → s.heap.get? x = some (excO C t0) → A.depth < recursionLimit →
    (∀ h' tk dx, ErrEnd s.heap h' x C dx t0 f v → R (.ok (.ret .none)) { s with heap := h', toks := tk }) → codeAny (model prog w) A (.call (.ref fI) ⟨[.ref x, v], []⟩) R s
theorem ld_here {M : Model} {s : Shared} {env : Env} {L : Addr} {m : Str → Option Value} {x : Str} {pos : Pos} {v : Value} {Q : Value → Shared → Prop} {A : Around} {E : Value → Shared → Prop} {name : Str} {scope : Scope} {a : Addr} {cd : Value} (he : env = envOfC name scope L a cd) (hn : s.heap.Ns L m) (hv : m x = some v) (h : Q v s)
    (hk : scope.kind = .function) (hl : env.kindOf x = some .local) (hd : (x == ("__debug__" : Str)) = false) : wpAny M A (eval (.Name x pos) env) Q E s := by
  subst he
  exact wpAny_Name (wpAny_loadName_local hk hl hn hv h) hd
theorem errI_of {K : Frag} {q f p : Str} {params : Arguments} {body : List Stmt} {scope : Scope} {fI : Addr} {fd : FuncData} {q1 q2 q3 q4 : Pos} (F : FunD K "__init__" q params body scope [] [] fI fd) (hb : body = [.Assign [.Attribute (.Name "self" q1) f q2] (.Name p q3) q4])
    (hbind : ∀ (kV doc pm : Value) (an : Option Addr) (cdv ct a b : Value), bindArgs (fnOf "__init__" q params body scope .none kV doc pm an cdv ct) ⟨[a, b], []⟩ = pure [(("self" : Str), a), (p, b)])
    (hkind : ∀ a b : Value, (([(("self" : Str), a), (p, b)] : List (Str × Value)).all fun y => scope.names.lookup y.1 == some .local || scope.names.lookup y.1 == some .cell) = true)
    (hp : ∀ (L : Addr) (cd a b : Value), bindL (envOfC q scope L fI cd).kindOf [(("self" : Str), a), (p, b)] (fun _ => none) p = some b) (hs : ∀ (L : Addr) (cd a b : Value), bindL (envOfC q scope L fI cd).kindOf [(("self" : Str), a), (p, b)] (fun _ => none) "self" = some a)
    (hlp : ∀ (L : Addr) (cd : Value), (envOfC q scope L fI cd).kindOf p = some .local) (hls : ∀ (L : Addr) (cd : Value), (envOfC q scope L fI cd).kindOf "self" = some .local) (hdp : (p == ("__debug__" : Str)) = false)
    (hco : scope.isCoroutine = false) (hgen : scope.isGenerator = false) (hk : scope.kind = .function) : ErrI K f fI := ⟨fun {prog w A E R s C x t0 v} T X hlim hx hroom hq => by
  obtain ⟨oc, od, dV, kV, doc, pm, an, cdv, ct, osl, rfl, ho, hcd, hD, _⟩ := F.ex
  rcases hD with ⟨_, rfl⟩ | ⟨e, _⟩
  rotate_left
  · exact absurd rfl e
  obtain ⟨nm, qn, N, bs, bm, sn, sub, ab, col, dd, k0, k1, k2, k3, k5, hC, hbm⟩ := T.cls
  have hcl : clsIn K C = some { name := nm, bases := bs, mro := .ref C :: bm, ns := N, qualname := qn, hasDict := true, slotNames := sn, subclasses := sub, abstract := ab, collection := col, hasDel := false } := by unfold clsIn; rw [hC] <;> rfl
  refine Att.call_fn (binds := [(("self" : Str), Value.ref x), (p, v)]) X hlim ho hcd hroom (BindsTo.of_eq (hbind _ _ _ _ _ _ _ _)) (hkind _ _) (fun s₁ IC => ?_) hco hgen hk
  obtain ⟨h₁, tk₁, rfl⟩ := IC.toInCall.same
  have old : ∀ b o, s.heap.get? b = some o → h₁.get? b = some o := IC.toInCall.keep
  have hn := IC.toInCall.ns
  have X₁ : K.In h₁ := X.keeps old
  have hx₁ := old _ _ hx
  subst hb
  refine wpAny_execs_cons (plainObj_wpAny_Assign_Attribute ?_)
  refine ld_here rfl hn (hp _ _ _ _) (ld_here rfl hn (hs _ _ _ _) ?_ hk (hls _ _) (by decide)) hk (hlp _ _) hdp
  refine set_plain X₁ (ox := excO C t0) (od := none) ⟨hx₁, rfl, rfl, trivial⟩ T.sa ?_
  refine exc_osa X₁ hx₁ hcl (show refsVE (.ref C :: bm) = true from hbm) rfl T.noN fun h₃ tk₃ dx k₃ dn dne hx₃ hn₃ => ?_
  have z : s.heap.objs.size < h₁.objs.size := hn.lt
  exact wpAny_execs_nil (hq h₃ tk₃ dx ⟨fun b o hb e => k₃ b o hb (old b o e), hx₃, Nat.le_of_lt (Nat.lt_of_lt_of_le z dn), dne, hn₃⟩)⟩
theorem one_ok (v : Value) : ([v] : List Value).length ≤ sizeLine := by
  rw [sizeLine_eq]; simp
theorem err_made {prog : Program} {w : World} {A : Around} {E : Value → Shared → Prop} {R : Result → Shared → Prop} {s : Shared} {K : Frag} {C fI : Addr} {f : Str} (T : ErrT K C f fI) (I : ErrI K f fI) {v : Value} (X : K.In s.heap) (hlim : s.heap.NoLimit) (hroom : A.depth + 1 < recursionLimit)
    (hq : ∀ h' tk e d, ErrMade s.heap h' e C d f v → R (.ok (.ret (.ref e))) { s with heap := h', toks := tk }) : codeAny (model prog w) A (.call (.ref C) ⟨[v], []⟩) R s := by
  obtain ⟨nm, q, N, bs, bm, sn, sub, ab, col, dd, k0, k1, k2, k3, k5, hC, hbm⟩ := T.cls
  obtain ⟨hp, g, dr, tk, os⟩ := s
  have two : ∀ b o, hp.get? b = some o → ((hp.push (kdv_tup [v])).push (excO C hp.objs.size)).get? b = some o := fun b o e => Heap.get?_push_of_some _ (Heap.get?_push_of_some _ e)
  have there : ((hp.push (kdv_tup [v])).push (excO C hp.objs.size)).get? (hp.objs.size + 1) = some (excO C hp.objs.size) := by heap_get
  refine call_own F.excBase_ValueError (fun X => refsVE_contains X bm hbm) (X _ _ hC) (looks_findIn X T.iC) (fun self => bind_fn X self T.tC) (one_ok v) ?_
  refine I.run (E := E) (s := ⟨(hp.push (kdv_tup [v])).push (excO C hp.objs.size), g, dr, tk, os⟩) T (X.keeps two) (hlim.keeps two) there hroom fun h' tk' dx ⟨k', hx, dn, dne, hns⟩ => ?_
  have old : ∀ b o, hp.get? b = some o → h'.get? b = some o := fun b o e => k' b o (Nat.ne_of_lt (Nat.lt_succ_of_lt (Heap.lt_size e))) (two b o e)
  have z : hp.objs.size + 1 + 1 ≤ dx := by
    first
      | exact dn
      | (simpa only [Heap.size_push] using dn)
  exact ⟨rfl, hq h' tk' (hp.objs.size + 1) dx ⟨old, Nat.le_succ _, ⟨_, _, hx, rfl, rfl, rfl, rfl⟩, Nat.le_trans (Nat.le_trans (Nat.le_succ _) (Nat.le_succ _)) z, dne, hns⟩⟩
end
theorem rel_one {v : V} {v' : Value} {g : Str} (r : RelV v v') (f : Str) : RelO (List.lookup f [(g, v)]) (if f = g then some v' else none) := by
  by_cases hw : f = g
  · subst hw
    rw [if_pos rfl, show List.lookup f [(f, v)] = some v by simp [List.lookup]]
    exact r
  · have qw : (f == g) = false := by simpa using hw
    rw [if_neg hw, show List.lookup f [(g, v)] = none by simp [List.lookup, qw]]
    trivial
section
variable {X : Cx} {W : WX} {fI : Addr} {C f : Str}
/-- C(e) -/
def tMkErr (C : Addr) (f : Str) (ta : TA) : St → Hp → XK → Prop := fun σ H Q => ta σ H fun vs H1 => ∃ v, vs = [v] ∧ ∀ d, H1 d = none → Q (.ref C) (some d) (upd H1 d (.xd [(f, v)]))
theorem pmk_err {a : Expr} {ta : TA} {p pos : Pos} {k : Nat} (T : ErrT X.K (He.ga X.K C) f fI) (J : ErrI X.K f fI) (hm : X.mg C = some (.ref (He.ga X.K C))) (hr : Room k X.A) (ha : PA X [a] ta) (hg : Gl X C) (hdb : (C == ("__debug__" : Str)) = false)
    (he : starEach (a :: []) X.env = (false, eval a X.env) :: starEach [] X.env) (hpl : (backTo pos (starEach [] X.env)).any (·.1) = false) :
    PMk X (.Call (.Name C p) [a] [] pos) (tMkErr (He.ga X.K C) f ta) := by
  intro pins s σ H Q I h
  refine wpAny_Call_Name_kw (ld_glob I hg hm ?_ hdb)
  refine PySem.W.callWith_K (h₀ := X.base) I.ok.mod.kin T.kC (thn (ha.run pos pins s σ H _ I h) fun us s1 ⟨vs, H1, I1, r1, v, ev, q1⟩ => ⟨I1.kIn, ?_⟩) he hpl
  subst ev
  cases r1 with
  | cons rv rn =>
    cases rn
    show wpAny _ _ (call (.ref (He.ga X.K C)) [_]) _ _ _
    have hlim := I1.nolimit
    obtain ⟨hp, g, dr, tk, os⟩ := s1
    refine wpAny_call (err_made (E := fun _ _ => True) T J I1.kIn hlim (by have := hr.dp; omega) fun h' tk' e d M => ?_)
    obtain ⟨oe, fv, hoe, hc, hd, hdat, h1⟩ := M.obj
    have hns := M.ns
    obtain ⟨G', g1, g2⟩ := restrict h' fun b => decide (b ≠ e)
    have gk : ∀ b, b ≠ e → G'.get? b = h'.get? b := fun b hb => g1 b (decide_eq_true hb)
    have ge : G'.get? e = none := g2 e (by simp)
    have old : ∀ b o, hp.get? b = some o → G'.get? b = some o := fun b o q => (gk b (Nat.ne_of_lt (Nat.lt_of_lt_of_le (Heap.lt_size q) M.new))).trans (M.keep b o q)
    have ob : ObjOk X.prog X.w (upd H1 d (.xd [(f, v)])) G' d (.xd [(f, v)]) := ⟨_, hns.at (fun o q => (gk d M.dne).trans q), fun y => rel_one rv y⟩
    have L : Inv X pins σ (upd H1 d (.xd [(f, v)])) ⟨G', g, dr, tk', os⟩ := I1.laid (t' := tk') old M.dbig ob
    refine ⟨e, oe, fv, ⟨G', g, dr, tk', os⟩, _, .ref (He.ga X.K C), some d, rfl, L, fun b o q => ?_, ge, hoe, ⟨hc, hd⟩, hdat, h1, ?_, rfl, I1.bare, raises_own T.exC T.tyC, q1 d (I1.hok.fresh M.dbig)⟩
    · by_cases hb : b = e
      · have q' : G'.get? b = some o := q
        rw [hb, ge] at q'; cases q'
      · exact (gk b hb).symm.trans q
    · rw [upd_ne (Ne.symm M.dne)]
      exact I1.hok.fresh M.new
def sRaiseF (C f : Str) (e : SE) : SS := fun ρ => step (e (frz ρ)) ρ fun d => .ex ⟨C, some (f, d)⟩ ρ
theorem ls_raiseF {a : Expr} {e : SE} {p pos pos2 : Pos} {k : Nat} (T : ErrT X.K (He.ga X.K C) f fI) (J : ErrI X.K f fI) (hm : X.mg C = some (.ref (He.ga X.K C))) (hr : Room k X.A) (hc : X.calm = true) (tk : Takes X W) (ha : PE X a (tD X.K W e)) (hg : Gl X C := by rfl) (hdb : (C == ("__debug__" : Str)) = false := by decide)
    (he : starEach (a :: []) X.env = (false, eval a X.env) :: starEach [] X.env := by rfl) (hpl : (backTo pos (starEach [] X.env)).any (·.1) = false := by rfl) :
    PS X (.Raise (some (.Call (.Name C p) [a] [] pos)) none pos2) (tS X.K W (sRaiseF C f e)) :=
  (ps_raise hc tk (pmk_err T J hm hr (pa_cons ha pa_nil he) hg hdb he hpl)).imp fun D σ H ⟨H0, ρ, ⟨fp, A⟩, l⟩ => by
    show tD X.K W e σ H fun v H1 => ∃ u, [v] = [u] ∧ ∀ d, H1 d = none → W (.ref (He.ga X.K C)) (some d) σ (upd H1 d (.xd [(f, u)]))
    refine run_frz (rel := rd X.K) A l fun d v H1 _ s r l' => ⟨v, rfl, fun o ho => ?_⟩
    have sn : Same H1 (upd H1 o (.xd [(f, v)])) := same_new ho
    exact l' _ _ σ _ (((A.rz_hid.mono (un_same _ _)).mono s).mono sn) (((A.s0.trans (un_same _ _)).trans s).trans sn) ⟨rfl, o, v, rfl, upd_same, rd_mono sn _ _ r⟩
end
end Tw

/-! TwTry: own errors caught. -/
namespace Tw
open PySem L2
/-! ### isinstance of a caught error, with or without fields -/
section
open PySem.W PySem.Spec PySem.Calls PyProof.Rows
variable {K : Frag} {D x : Addr} {ox : Obj} {od : Option Obj}
theorem dataX {C : Addr} {n : Str} {a g : Value} (h0 : (clsIn K C).isSome = true) (h1 : findIn K (.ref C) n = some (some a)) (h2 : specialIn K a "__get__" = some (some g)) (h3 : takesIn K a = some true) : findObj K C od n = some (.bind g a) := by
  obtain ⟨c, h0⟩ := Option.isSome_iff_exists.mp h0
  simp [findObj, h0, h1, h2, h3]
theorem class_of_err {prog : Program} {w : World} {A : Around} {E : Value → Shared → Prop} {s : Shared} {Q : Option Value → Shared → Prop} (Z : ExcC K D) (X : K.In s.heap) (I : InstAt s.heap x ox D od) (fin : Q (some (.ref D)) { s with toks := s.toks + 1 }) : wpAny (model prog w) A (getAttr? (.ref x) "__class__") Q E s := by
  have found : findObj K D od "__class__" = some (.bind (.builtin "getset_descriptor.__get__") (.builtin "object.__class__")) := dataX (by obtain ⟨cd, hc, _⟩ := any_some Z.hd; rw [hc]; rfl) Z.ha Z.hn Z.ht
  obtain ⟨hp, g, d, t, os⟩ := s
  have M0 := I.type (M := model prog w)
  have M1 := looks_findIn (M := model prog w) X Z.hg
  have M2 := looks_findIn (M := model prog w) X Z.hk
  have M3 := looks_find (M := model prog w) X I found
  have isB : Looks (model prog w) hp (isInstance (.ref x) (.type "BaseException")) true := M0.andThen (looks_subIn X Z.hs)
  have b0 : (false && onTheHeap (Value.builtin "BaseException.__getattribute__")) = false := rfl
  have b2 : (Value.builtin "BaseException.__getattribute__" == Value.builtin "object.__getattribute__") = false := by decide +kernel
  have b1 : (onTheHeap (Value.ref D) && Value.builtin "BaseException.__getattribute__" == Value.builtin "object.__getattribute__") = false := by rw [b2] <;> rfl
  unfold getAttr? getAttrBy? getAttrBy
  refine wpAny_bind (wpAny_mkText (wpAny_bind (wpAny_attempt (wpAny_holding (wpAny_bind (M0.at (wpAny_bind (M1.at ?_))))))))
  show wpAny _ _ (if (onTheHeap (Value.ref D) && (Value.builtin "BaseException.__getattribute__") == Value.builtin "object.__getattribute__") = true then _ else _) _ _ _
  rw [b1, if_neg Bool.false_ne_true]
  unfold getAttrByItsOwn hookBefore
  refine wpAny_bind ?_
  rw [if_pos (show onTheHeap (Value.ref D) = true by rfl)]
  refine M2.at (wpAny_bind (wpAny_attempt (wpAny_holding ?_)))
  unfold callGetattribute
  rw [b0, if_neg Bool.false_ne_true]
  unfold boundAndCalled
  rw [PySem.F.excAttr_ValueError.ga.bind (.ref x)] <;> refine wpAny_bind (wpAny_pure ?_)
  show wpAny _ _ (call (.builtin "BaseException.__getattribute__") [Value.ref x, .str "__class__" t]) _ _ _
  refine wpAny_call (codeAny_call_builtin PySem.F.excAttr_ValueError.ga.plain PySem.F.entry_bexc_ga ?_) <;>
  refine @check_slot (model prog w) _ _ ⟨hp, g, d, t + 1, os⟩ "BaseException.__getattribute__" "BaseException" "__getattribute__" (.ref x) [.str "__class__" t] [] _ (by decide +kernel) (by decide +kernel) isB (PySem.F.args_bexc_ga (.ref x) (.str "__class__" t)) ?_
  unfold Builtin.«object.__getattribute__»
  refine wpAny_bind (wpAny_of_eq (a := ((Value.ref x, [Value.str "__class__" t]) : Value × List Value)) (by first | rfl | (simp only [slotArgs]; rfl)) ?_)
  refine wpAny_bind (wpAny_pure (wpAny_bind (M0.at (wpAny_bind (M3.at ?_)))))
  show wpAny _ _ ((holding [Value.builtin "object.__class__"] (call (.builtin "getset_descriptor.__get__") [.builtin "object.__class__", .ref x, .ref D])) >>= ret) _ _ _
  refine wpAny_bind (wpAny_holding (wpAny_call (class_get (s := ⟨hp, g, d, t + 1, os⟩) (ox := ox) (od := od) X I Z.hm (wpAny_pure ?_))))
  show wpAny _ _ (handedOut (Value.ref D)) _ _ _
  rw [handedOut_of (v := Value.ref D) rfl]
  first | exact wpAny_pure (wpAny_pure fin) | exact wpAny_pure fin | exact wpAny_pure (wpAny_bind (wpAny_pure (wpAny_pure fin)))
theorem cls_there {h : Heap} (Z : ExcC K D) (X : K.In h) : ∃ c d cd sl, h.get? D = some ⟨c, d, .cls cd, sl⟩ := by
  obtain ⟨cd, hc, _⟩ := any_some Z.hd
  unfold clsIn at hc
  split at hc
  · rename_i c' d' cd' sl' ho
    exact ⟨_, _, _, _, X _ _ ho⟩
  · cases hc
theorem kitx_err (Z : ExcC K D) : KitX K (.ref x) (.ref D) (fun h => InstAt h x ox D od) where
  ty := fun _ _ _ I => I.type
  it := fun _ _ X _ A' Q' E' s' k q => by
    obtain ⟨c, d, cd, sl, e⟩ := cls_there Z X
    unfold isType loadHead
    exact wpAny_bind (wpAny_loadPart (k _ _ e) (wpAny_pure q))
  ne := fun h tp dd its n sl X htp => by
    obtain ⟨c, d, cd, sl', e⟩ := cls_there Z X
    cases hq : (Value.ref D == Value.ref tp) with
    | false => rfl
    | true =>
      have e2 : D = tp := Value.ref.inj (beq_iff_eq.mp hq)
      rw [← e2, e] at htp
      cases htp
  ca := fun X I q => class_of_err Z X I q
end
/-- classes of own errors, by what stands above them -/
structure XT (K : PySem.W.Frag) (tb : ClT) (nms : List Str) : Prop where
  exm : ∀ C sups, (C, sups) ∈ tb → ∀ C' ∈ nms, PySem.W.exmOne K (.ref (He.ga K C)) (.ref (He.ga K C')) = some (sups.contains C')
  kit : ∀ C sups, (C, sups) ∈ tb → ∀ C' ∈ nms, PySem.W.kitOne K (.ref (He.ga K C)) (.ref (He.ga K C')) = some (sups.contains C')
  ve : ∀ C sups, (C, sups) ∈ tb → PySem.W.kitOne K (.ref (He.ga K C)) (.type "ValueError") = some true
  exc : ∀ C sups, (C, sups) ∈ tb → ExcC K (He.ga K C)
def excCk (C : Addr) (K : PySem.W.Frag) : Bool :=
  (PySem.W.findIn K (.ref C) "__getattribute__" == some (some (.builtin "BaseException.__getattribute__"))) && (PySem.W.findIn K (.ref C) "__getattr__" == some none) && (PySem.W.subIn K (.ref C) (.type "BaseException") == some true) && PySem.W.hasDictIn K C &&
  (PySem.W.findIn K (.ref C) "__class__" == some (some (.builtin "object.__class__"))) && (PySem.W.specialIn K (.builtin "object.__class__") "__get__" == some (some (.builtin "getset_descriptor.__get__"))) && (PySem.W.takesIn K (.builtin "object.__class__") == some true) && (PySem.W.mroIn K C (.type "object") == some true)
theorem excC_of {C : Addr} {K : PySem.W.Frag} (h : excCk C K = true) : ExcC K C := by
  unfold excCk at h
  simp only [Bool.and_eq_true, beq_iff_eq] at h
  obtain ⟨⟨⟨⟨⟨⟨⟨h1, h2⟩, h3⟩, h4⟩, h5⟩, h6⟩, h7⟩, h8⟩ := h
  exact ⟨h1, h2, h3, h4, h5, h6, h7, h8⟩
def xtCk (tb : ClT) (nms : List Str) (K : PySem.W.Frag) : Bool := tb.all fun r => excCk (He.ga K r.1) K && (PySem.W.kitOne K (.ref (He.ga K r.1)) (.type "ValueError") == some true) &&
  nms.all fun C' => (PySem.W.exmOne K (.ref (He.ga K r.1)) (.ref (He.ga K C')) == some (r.2.contains C')) && (PySem.W.kitOne K (.ref (He.ga K r.1)) (.ref (He.ga K C')) == some (r.2.contains C'))
theorem xt_of {tb : ClT} {nms : List Str} {K : PySem.W.Frag} (h : xtCk tb nms K = true) : XT K tb nms := by
  have all : ∀ C sups, (C, sups) ∈ tb → (excCk (He.ga K C) K = true ∧ PySem.W.kitOne K (.ref (He.ga K C)) (.type "ValueError") = some true) ∧ ∀ C' ∈ nms, PySem.W.exmOne K (.ref (He.ga K C)) (.ref (He.ga K C')) = some (sups.contains C') ∧ PySem.W.kitOne K (.ref (He.ga K C)) (.ref (He.ga K C')) = some (sups.contains C') := fun C sups m => by
    have h1 := List.all_eq_true.mp h _ m
    simp only [Bool.and_eq_true, beq_iff_eq, List.all_eq_true] at h1
    exact h1
  exact ⟨fun C s m C' m' => ((all C s m).2 C' m').1, fun C s m C' m' => ((all C s m).2 C' m').2, fun C s m => (all C s m).1.2, fun C s m => excC_of (all C s m).1.1⟩
/-- the classes Cs are errors of the one field f -/
structure XF (K : PySem.W.Frag) (Cs : List Str) (f : Str) : Prop where
  ok : ∀ C ∈ Cs, ErrT K (He.ga K C) f (He.ma K (He.ga K C) "__init__")
def xfCk (Cs : List Str) (f : Str) (K : PySem.W.Frag) : Bool := Cs.all fun C => errTCk C f K
theorem xf_of {Cs : List Str} {f : Str} {K : PySem.W.Frag} (h : xfCk Cs f K = true) : XF K Cs f := ⟨fun C m => errT_of (List.all_eq_true.mp h C m)⟩
section
variable {X : Cx} {a o : Addr} {oe : Obj} {cls : Value} {d : Option Addr} {pn : List (Addr × Obj)} {tb : ClT} {nms : List Str} {x : Xn} {e : Expr} {g : SE}
/-- what is known of the error in a suite: at a, its dict at o -/
structure Held (K : PySem.W.Frag) (tb : ClT) (x : Xn) (a o : Addr) (oe : Obj) (cls : Value) (d : Option Addr) : Prop where
  z : Zc cls d oe
  f : ∃ vs, oe.data = .fields vs
  c : cls = .ref (He.ga K x.C)
  d : d = x.f.map fun _ => o
  m : ∃ sups, tb.lookup x.C = some sups
def exnAt (a o : Addr) : D → Option (List (Str × D))
  | .exn a' o' fs => if a' = a ∧ o' = o then some fs else none
  | _ => none
theorem exnAt_some {a o : Addr} {d : D} {fs : List (Str × D)} (h : exnAt a o d = some fs) : d = .exn a o fs := by
  unfold exnAt at h
  split at h
  · split at h
    · rename_i hc; cases h; rw [hc.1, hc.2]
    · cases h
  · cases h
def eXIs (tb : ClT) (x : Xn) (a o : Addr) (C' : Str) (g : SE) : SE := fun ρ => (g ρ).bind fun d => match exnAt a o d, tb.lookup x.C with
  | some fs, some sups => if (decide (fs ≠ []) || x.f.isNone) = true then .ok (.bl (sups.contains C')) else .no
  | _, _ => .no
def eXVe (tb : ClT) (x : Xn) (a o : Addr) (g : SE) : SE := fun ρ => (g ρ).bind fun d => match exnAt a o d, tb.lookup x.C with
  | some fs, some _ => if (decide (fs ≠ []) || x.f.isNone) = true then .ok (.bl true) else .no
  | _, _ => .no
/-- isinstance(e, c), e the error that the suite holds -/
def rIsX (K : PySem.W.Frag) (D a : Addr) (d : Option Addr) : List V → Hp → VK → Prop := fun xs H Q => ∃ (c : V) (cv : Value) (b : Bool), xs = [.ref a, c] ∧ (∀ u, RelV c u → u = cv) ∧ PySem.W.kitOne K (.ref D) cv = some b ∧ (d = none ∨ ∃ o gs, d = some o ∧ H o = some (.xd gs)) ∧ Q (.bl b) H
theorem call_isX {D : Addr} (C : ExcC X.K D) (hz : Zc (.ref D) d oe) (hf : ∃ vs, oe.data = .fields vs) : CallR (X.suite a ((a, oe) :: pn)) (.builtin "isinstance") (rIsX X.K D a d) := by
  intro pins s σ H xs us Q I r h
  obtain ⟨c, cv, b, rfl, hcv, e, hd, q⟩ := h
  cases r with
  | cons rx rr =>
    cases rr with
    | cons rt rr =>
      cases rr
      cases rx
      have ec := hcv _ rt
      subst ec
      obtain ⟨hget, _⟩ := I.pin (a, oe) (List.mem_append_left _ (by simp))
      obtain ⟨vs, hv⟩ := hf
      have J : ∃ od, PySem.W.InstAt s.heap a oe D od := by
        rcases hd with hd | ⟨o, gs, hd, ho⟩
        · refine ⟨none, hget, hz.1, by unfold PySem.W.notCls; rw [hv] <;> rfl, ?_⟩
          rw [hz.2, hd]; trivial
        · have ok : ObjOk X.prog X.w H s.heap o (.xd gs) := I.hok o _ ho
          obtain ⟨mA, hns, _⟩ := ok
          obtain ⟨od, h1, _⟩ := lookIn_ns hns
          refine ⟨some od, hget, hz.1, by unfold PySem.W.notCls; rw [hv] <;> rfl, ?_⟩
          rw [hz.2, hd]; exact h1
      obtain ⟨od, J⟩ := J
      exact PySem.W.kia_one (kitx_err C) I.kIn J e (fun z => nomatch z) fun tk => ⟨.bl b, H, I.kept (t' := tk) fun _ _ z => z, rfl, q⟩
theorem isX_dict {K : PySem.W.Frag} {H : Hp} {fs : List (Str × D)} {v : V} (r : rd K H (.exn a o fs) v) (hd : d = x.f.map fun _ => o) (c : (decide (fs ≠ []) || x.f.isNone) = true) : v = .ref a ∧ (d = none ∨ ∃ o gs, d = some o ∧ H o = some (.xd gs)) := by
  unfold rd at r
  refine ⟨r.1, ?_⟩
  rcases Bool.or_eq_true .. ▸ c with c | c
  · rcases r.2 with h | ⟨gs, h, _⟩
    · exact absurd h (of_decide_eq_true c)
    · cases q : x.f with
      | none => left; rw [hd, q]; rfl
      | some p => right; exact ⟨o, gs, by rw [hd, q]; rfl, h⟩
  · left
    cases q : x.f with
    | none => rw [hd, q]; rfl
    | some p => rw [q] at c; cases c
theorem isX_core {H1 : Hp} {σ : St} {Q : VK} {sups : List Str} {C' : Str} {dd : D} {v : V} (hl : tb.lookup x.C = some sups) (r : rd X.K H1 dd v) (hdd : d = x.f.map fun _ => o)
    (w : pst X.K (rd X.K) W0 σ H1 (match exnAt a o dd, tb.lookup x.C with | some fs, some sups => if (decide (fs ≠ []) || x.f.isNone) = true then R.ok (.bl (sups.contains C')) else .no | _, _ => .no) Q) : v = .ref a ∧ (d = none ∨ ∃ o gs, d = some o ∧ H1 o = some (.xd gs)) ∧ Q (.bl (sups.contains C')) H1 := by
  cases q : exnAt a o dd with
  | none => rw [q] at w; exact w.elim
  | some fs =>
    rw [q, hl] at w
    have := exnAt_some q
    subst this
    have w : pst X.K (rd X.K) W0 σ H1 (if (decide (fs ≠ []) || x.f.isNone) = true then R.ok (D.bl (sups.contains C')) else .no) Q := w
    by_cases c : (decide (fs ≠ []) || x.f.isNone) = true
    · rw [if_pos c] at w
      obtain ⟨h1, h2⟩ := isX_dict r hdd c
      exact ⟨h1, h2, w _ H1 (Same.refl H1) (by unfold rd; rfl)⟩
    · rw [if_neg c] at w; exact w.elim
theorem isX_coreV {H1 : Hp} {σ : St} {Q : VK} {sups : List Str} {dd : D} {v : V} (hl : tb.lookup x.C = some sups) (r : rd X.K H1 dd v) (hdd : d = x.f.map fun _ => o)
    (w : pst X.K (rd X.K) W0 σ H1 (match exnAt a o dd, tb.lookup x.C with | some fs, some _ => if (decide (fs ≠ []) || x.f.isNone) = true then R.ok (.bl true) else .no | _, _ => .no) Q) : v = .ref a ∧ (d = none ∨ ∃ o gs, d = some o ∧ H1 o = some (.xd gs)) ∧ Q (.bl true) H1 := by
  cases q : exnAt a o dd with
  | none => rw [q] at w; exact w.elim
  | some fs =>
    rw [q, hl] at w
    have := exnAt_some q
    subst this
    have w : pst X.K (rd X.K) W0 σ H1 (if (decide (fs ≠ []) || x.f.isNone) = true then R.ok (D.bl true) else .no) Q := w
    by_cases c : (decide (fs ≠ []) || x.f.isNone) = true
    · rw [if_pos c] at w
      obtain ⟨h1, h2⟩ := isX_dict r hdd c
      exact ⟨h1, h2, w _ H1 (Same.refl H1) (by unfold rd; rfl)⟩
    · rw [if_neg c] at w; exact w.elim
theorem le_isX {C' : Str} {p p2 pos : Pos} (B : XT X.K tb nms) (hC : C' ∈ nms) (h : Held X.K tb x a o oe cls d) (he : PE (X.suite a ((a, oe) :: pn)) e (tD X.K W0 g)) (hm : X.mg "isinstance" = none) (hmC : X.mg C' = some (.ref (He.ga X.K C'))) (hg : Gl (X.suite a ((a, oe) :: pn)) "isinstance" := by rfl) (hgC : Gl (X.suite a ((a, oe) :: pn)) C' := by rfl) (hd : (C' == ("__debug__" : Str)) = false := by decide)
    (h1 : starEach (e :: [.Name C' p2]) X.env = (false, eval e X.env) :: starEach [.Name C' p2] X.env := by rfl) (h2 : starEach [.Name C' p2] X.env = (false, eval (.Name C' p2) X.env) :: starEach [] X.env := by rfl) (hpl : (backTo pos (starEach [.Name C' p2] X.env)).any (·.1) = false := by rfl) :
    PE (X.suite a ((a, oe) :: pn)) (.Call (.Name "isinstance" p) [e, .Name C' p2] [] pos) (tD X.K W0 (eXIs tb x a o C' g)) := by
  obtain ⟨hz, hf, hc, hdd, sups, hl⟩ := h
  have m := lookup_tb hl
  refine (pe_callB (call_isX (B.exc _ _ m) (hc ▸ hz) hf) hg hm PyProof.Rows.boot_isinstance (pa_cons he (pa_cons (pe_glob (v := .ref (He.ga X.K C')) hgC hmC rfl hd) pa_nil h2) h1) (by decide) (by decide) h1 hpl).imp fun σ H Q ⟨ρ, z, w⟩ => ⟨ρ, z, pst.bind (rel := rd X.K) w fun dd v H1 _ s1 r w1 => ?_⟩
  show rIsX X.K (He.ga X.K x.C) a d [v, .ref (He.ga X.K C')] H1 Q
  obtain ⟨rfl, hk, w2⟩ := isX_core hl r hdd w1
  exact ⟨_, _, _, rfl, fun u hu => hu, B.kit _ _ m _ hC, hk, w2⟩
theorem le_isVe {p p2 pos : Pos} (B : XT X.K tb nms) (h : Held X.K tb x a o oe cls d) (he : PE (X.suite a ((a, oe) :: pn)) e (tD X.K W0 g)) (hm : X.mg "isinstance" = none) (hmC : X.mg "ValueError" = none) (hg : Gl (X.suite a ((a, oe) :: pn)) "isinstance" := by rfl) (hgC : Gl (X.suite a ((a, oe) :: pn)) "ValueError" := by rfl)
    (h1 : starEach (e :: [.Name "ValueError" p2]) X.env = (false, eval e X.env) :: starEach [.Name "ValueError" p2] X.env := by rfl) (h2 : starEach [.Name "ValueError" p2] X.env = (false, eval (.Name "ValueError" p2) X.env) :: starEach [] X.env := by rfl) (hpl : (backTo pos (starEach [.Name "ValueError" p2] X.env)).any (·.1) = false := by rfl) :
    PE (X.suite a ((a, oe) :: pn)) (.Call (.Name "isinstance" p) [e, .Name "ValueError" p2] [] pos) (tD X.K W0 (eXVe tb x a o g)) := by
  obtain ⟨hz, hf, hc, hdd, sups, hl⟩ := h
  have m := lookup_tb hl
  refine (pe_callB (call_isX (B.exc _ _ m) (hc ▸ hz) hf) hg hm PyProof.Rows.boot_isinstance (pa_cons he (pa_cons (pe_bltn (v := .ty "ValueError") hgC hmC rfl rfl (by decide) (by decide)) pa_nil h2) h1) (by decide) (by decide) h1 hpl).imp fun σ H Q ⟨ρ, z, w⟩ => ⟨ρ, z, pst.bind (rel := rd X.K) w fun dd v H1 _ s1 r w1 => ?_⟩
  show rIsX X.K (He.ga X.K x.C) a d [v, .ty "ValueError"] H1 Q
  obtain ⟨rfl, hk, w2⟩ := isX_coreV hl r hdd w1
  exact ⟨_, _, _, rfl, fun u hu => hu, B.ve _ _ m, hk, w2⟩
/-- e.f of the error that the suite holds -/
def eXF (Cs : List Str) (x : Xn) (a o : Addr) (f : Str) (g : SE) : SE := fun ρ => (g ρ).bind fun d => if (x.f.isSome && Cs.contains x.C) = true then match exnAt a o d with
  | some fs => R.of (fs.lookup f)
  | none => .no
  else .no
theorem le_exF {Cs : List Str} {f : Str} {pos : Pos} (F : XF X.K Cs f) (h : Held X.K tb x a o oe cls d) (he : PE (X.suite a ((a, oe) :: pn)) e (tD X.K W0 g)) (hb : attributeBase e f X.env (eval e X.env) = eval e X.env := by rfl) :
    PE (X.suite a ((a, oe) :: pn)) (.Attribute e f pos) (tD X.K W0 (eXF Cs x a o f g)) := by
  obtain ⟨hz, hf, hc, hdd, sups, hl⟩ := h
  refine ⟨fun pins s σ H Q I w => ?_⟩
  refine attr_of hb (thn (he.run pins s σ H (fun v H1 => ∃ dd gs u, v = .ref a ∧ d = some dd ∧ H1 dd = some (.xd gs) ∧ gs.lookup f = some u ∧ Cs.contains x.C = true ∧ Q u H1) I ?_) fun u s1 hh => ?_)
  · obtain ⟨ρ, z, w⟩ := w
    refine ⟨ρ, z, pst.bind (rel := rd X.K) w fun dd v H1 _ s1 r w1 => ?_⟩
    have w1 : pst X.K (rd X.K) W0 σ H1 (if (x.f.isSome && Cs.contains x.C) = true then match exnAt a o dd with | some fs => R.of (fs.lookup f) | none => .no else .no) Q := w1
    by_cases c : (x.f.isSome && Cs.contains x.C) = true
    · rw [if_pos c] at w1
      obtain ⟨c1, c2⟩ := He.ba c
      cases q : exnAt a o dd with
      | none => rw [q] at w1; exact w1.elim
      | some fs =>
        rw [q] at w1
        have w2 : pst X.K (rd X.K) W0 σ H1 (R.of (fs.lookup f)) Q := w1
        clear w1
        have := exnAt_some q
        subst this
        cases q2 : fs.lookup f with
        | none => rw [q2] at w2; exact w2.elim
        | some e2 =>
          rw [q2] at w2
          unfold rd at r
          obtain ⟨rfl, r⟩ := r
          rcases r with r | ⟨gs, ho, rf⟩
          · subst r; cases q2
          · obtain ⟨u, hu, ru⟩ := rdf_lookup rf q2
            refine ⟨o, gs, u, rfl, ?_, ho, hu, c2, w2 u H1 (Same.refl H1) ru⟩
            rw [hdd]
            cases q3 : x.f with
            | none => rw [q3] at c1; cases c1
            | some p => rfl
    · rw [if_neg c] at w1; exact w1.elim
  · obtain ⟨v, H1, I1, rx, dd, gs, y, rfl, ed, ea, hu, hC, q⟩ := hh
    obtain rfl : u = Value.ref a := rx
    obtain ⟨ha, _⟩ := I1.pin (a, oe) (List.mem_append_left _ (by simp))
    obtain ⟨vs, hd⟩ := hf
    have T := F.ok x.C (by simpa using hC)
    have ok : ObjOk X.prog X.w H1 s1.heap dd (.xd gs) := I1.hok dd _ ea
    obtain ⟨mA, hns, hr⟩ := ok
    obtain ⟨od, ho, hlk⟩ := lookIn_ns hns
    obtain ⟨u, hu2, ru⟩ := RelO.some_of (v := y) (o := mA f) (by rw [← hu]; exact hr f)
    have J : PySem.W.InstAt s1.heap a oe (He.ga X.K x.C) (some od) := ⟨ha, by rw [hz.1, hc], by unfold PySem.W.notCls; rw [hd] <;> rfl, by rw [hz.2, ed]; exact ho⟩
    exact HandSPX.exc_get I1.kIn J T.ga T.gg T.exC (PySem.W.findObj_own T.hdC T.noN rfl (by rw [hlk, hu2])) (handed_of ru) ⟨y, H1, I1.tok _, ru, q⟩
end
/-! ### try: e except c as n: suite -/
theorem rdf_flat {K : PySem.W.Frag} {H H' : Hp} : ∀ {fs : List (Str × D)} {gs : List (Str × V)}, (fs.all fun p => p.2.flat) = true → rdf K H fs gs → rdf K H' fs gs
  | [], gs, _, r => by unfold rdf at r ⊢; exact r
  | (f, d) :: fs, gs, c, r => by
    unfold rdf at r ⊢
    obtain ⟨v, us, e, q, z⟩ := r
    simp only [List.all_cons, Bool.and_eq_true] at c
    exact ⟨v, us, e, rd_flat c.1 q, rdf_flat c.2 z⟩
def xfs (x : Xn) : List (Str × D) := match x.f with
  | none => []
  | some p => [p]
open Classical in
noncomputable def same (g : Addr → Addr → Out) : Out := if ∀ a o, g a o = g 0 0 then g 0 0 else .no
def wipe (i : Nat) : Out → Out
  | .nx ρ => .nx (ρ.set i .no)
  | .rt d ρ => .rt d (ρ.set i .no)
  | .bk ρ => .bk (ρ.set i .no)
  | .ct ρ => .ct (ρ.set i .no)
  | .rf d => .rf d
  | _ => .no
/-- the error's field may be kept: it is flat, or nothing is owned -/
def keepX (x : Xn) (ρ : List Cl) : Bool := ((xfs x).all fun p => p.2.flat) || ρ.all fun c => !isOw (some c)
noncomputable def sTryE (tb : ClT) (c : Str) (i : Nat) (f : SE) (h : Xn → Addr → Addr → SS) : SS := fun ρ => match f (frz ρ) with
  | .ok _ => .nx ρ
  | .ex x => match tb.lookup x.C with
    | some sups => if sups.contains c = true then (if keepX x ρ = true then same fun a o => wipe i (h x a o (ρ.set i (.fz (.exn a o (xfs x))))) else .no) else .ex x ρ
    | none => .no
  | .no => .no
theorem AsF.setNo {K : PySem.W.Frag} {H0 H : Hp} {ρ : List Cl} {σ σ' : St} {fp : Nat → List Addr} (A : AsF K H0 ρ σ H fp) {i : Nat} (hl : σ'.length = σ.length) (hs : ∀ j, j ≠ i → σ'[j]? = σ[j]?) : AsF K H0 (ρ.set i .no) σ' H fp := by
  have su : Same (un (ol ρ fp) H) (un (ol (ρ.set i .no) fp) H) := un_sub (ol_set_sub rfl)
  have get : ∀ {j : Nat} {c : Cl}, c ≠ .no → (ρ.set i .no)[j]? = some c → j ≠ i ∧ ρ[j]? = some c := fun {j c} hc e => by
    by_cases hj : i = j
    · subst hj
      by_cases hl : i < ρ.length
      · rw [List.getElem?_set_self hl] at e; cases e; exact absurd rfl hc
      · rw [List.getElem?_eq_none (by rw [List.length_set]; omega)] at e; cases e
    · rw [List.getElem?_set_ne hj] at e; exact ⟨fun h => hj h.symm, e⟩
  refine ⟨by rw [List.length_set, A.len, hl], A.s0.trans su, fun j k d e h1 h2 => A.apart j k d e (get (by simp) h1).2 (get (by simp) h2).2, fun j d e => ?_, fun j d e => ?_⟩
  · obtain ⟨hj, e⟩ := get (by simp) e
    obtain ⟨v, h1, h2⟩ := A.fzs j d e
    exact ⟨v, by rw [hs j hj]; exact h1, rd_mono su _ _ h2⟩
  · obtain ⟨hj, e⟩ := get (by simp) e
    obtain ⟨v, h1, h2⟩ := A.ows j d e
    exact ⟨v, by rw [hs j hj]; exact h1, rdo_mono su (fun _ _ => rfl) h2⟩
theorem lead_wipe {K : PySem.W.Frag} {W : WX} {H0 : Hp} {D : Ends} {i : Nat} {o : Out} (l : Lead K W H0 D (wipe i o)) :
    Lead K W0 H0 { nx := fun σ' H' => D.nx (σ'.set i none) H', rt := D.rt, bk := fun σ' H' => D.bk (σ'.set i none) H', ct := fun σ' H' => D.ct (σ'.set i none) H' } o := by
  cases o with
  | nx ρ => exact fun σ H ⟨fp, A⟩ => l _ H ⟨fp, A.setNo (by simp) fun j hj => List.getElem?_set_ne (Ne.symm hj)⟩
  | rt d ρ => exact fun v σ H fp A r => l v σ H fp (A.setNo rfl fun _ _ => rfl) (rd_mono (un_sub (ol_set_sub rfl)) _ _ r)
  | bk ρ => exact fun σ H ⟨fp, A⟩ => l _ H ⟨fp, A.setNo (by simp) fun j hj => List.getElem?_set_ne (Ne.symm hj)⟩
  | ct ρ => exact fun σ H ⟨fp, A⟩ => l _ H ⟨fp, A.setNo (by simp) fun j hj => List.getElem?_set_ne (Ne.symm hj)⟩
  | ex x ρ => exact l.elim
  | no => exact l.elim
  | rf d => exact l
theorem ol_none {ρ : List Cl} {fp : Nat → List Addr} (h : (ρ.all fun c => !isOw (some c)) = true) : ol ρ fp = [] := by
  refine List.eq_nil_iff_forall_not_mem.mpr fun a ha => ?_
  obtain ⟨i, d, e, _⟩ := mem_ol.mp ha
  have := List.all_eq_true.mp h _ (List.mem_of_getElem? e)
  simp [isOw] at this
theorem ls_tryE {X : Cx} {W : WX} {tb : ClT} {nms : List Str} {c n : Str} {i : Nat} {e : Expr} {f : SE} {h : Xn → Addr → Addr → SS} {b₀ : Stmt} {suite : List Stmt} {np pos pos1 pos2 : Pos} (B : XT X.K tb nms) (hcn : c ∈ nms) (hs : X.stack = X.env :: X.outer) (hf : X.env.frame = some X.env.locals) (hN : X.N.Nodup) (hi : X.N[i]? = some n)
    (hln : X.env.kindOf n = some .local) (hm : X.mg c = some (.ref (He.ga X.K c))) (tk : Takes X W)
    (hb : ∀ (W' : WX) (pn : List (Addr × Obj)) (xe : Value → Shared → Prop), (∀ σ, PassesAt (L2.CX X.prog X.w) (X.tr pn xe) σ (fun c oa H => W' c oa σ H)) → PE (X.tr pn xe) e (tD X.K W' f))
    (hsu : ∀ (x : Xn) (a o : Addr) (oe : Obj) (cls : Value) (d : Option Addr) (pn : List (Addr × Obj)), Held X.K tb x a o oe cls d → PSs (X.suite a ((a, oe) :: pn)) (b₀ :: suite) (tS X.K W0 (h x a o)))
    (hg : Gl X c := by rfl) (hdb : (c == ("__debug__" : Str)) = false := by decide) (hse : swapsWith e none pos2.line X.env = pure false := by rfl) :
    PS X (.Try [.Expr e pos2] [.ExceptHandler (some (.Name c np)) (some n) (b₀ :: suite) pos1] [] [] pos) (tS X.K W (sTryE tb c i f h)) := by
  refine (ps_try_as (tb := fun W' => tDrop (tD X.K W' f)) (ts := fun a cls d D σ H => ∃ x o, cls = .ref (He.ga X.K x.C) ∧ d = (x.f.map fun _ => o) ∧ (∃ sups, tb.lookup x.C = some sups) ∧ tS X.K W0 (h x a o) D σ H)
    hs hf hN hi hln ⟨hg, hdb, .inl hm⟩ tk (fun W' pn xe tk' _ => pss_one (ps_expr (hb W' pn xe fun σ => passAt tk' σ) hse)) (fun a oe cls d pn hz hv => ⟨fun pins s σ H D I ⟨x, o, h1, h2, h3, w⟩ => (hsu x a o oe cls d pn ⟨hz, hv, h1, h2, h3⟩).run pins s σ H D I w⟩)).imp fun D σ H ⟨H0, ρ, ⟨fp, A⟩, l⟩ => ?_
  unfold sTryE at l
  refine ⟨frz ρ, A.rz_frz, ?_⟩
  cases q : f (frz ρ) with
  | no => rw [q] at l; exact l.elim
  | ok d => rw [q] at l; exact fun v H1 s _ => l _ _ ⟨fp, A.grown s⟩
  | ex x =>
    rw [q] at l
    intro cc oa H1 s rx
    have A1 := A.grown s
    cases q2 : tb.lookup x.C with
    | none => simp only [q2] at l; exact l.elim
    | some sups =>
      simp only [q2] at l
      have ec : cc = .ref (He.ga X.K x.C) := rx.1
      refine ⟨sups.contains c, by rw [ec]; exact B.exm _ _ (lookup_tb q2) _ hcn, fun hy a na => ?_, fun hno => ?_⟩
      · rw [if_pos hy] at l
        have ho : ∃ o : Addr, oa = (x.f.map fun _ => o) ∧ (xfs x = [] ∨ ∃ gs, H1 o = some (.xd gs) ∧ rdf X.K H1 (xfs x) gs) := by
          obtain ⟨C, xf⟩ := x
          cases xf with
          | none => exact ⟨0, rx.2, .inl rfl⟩
          | some p =>
            obtain ⟨fl, d⟩ := p
            obtain ⟨o, v, h1, h2, h3⟩ := rx.2
            exact ⟨o, h1, .inr ⟨_, h2, by unfold xfs rdf; exact ⟨v, [], rfl, h3, by unfold rdf; rfl⟩⟩⟩
        obtain ⟨o, eo, hx⟩ := ho
        by_cases hk : keepX x ρ = true
        · rw [if_pos hk] at l
          have rr : rd X.K (un (ol ρ fp) H1) (.exn a o (xfs x)) (.ref a) := by
            unfold rd
            refine ⟨rfl, hx.imp id ?_⟩
            rintro ⟨gs, e1, e2⟩
            have no : o ∉ ol ρ fp := fun hm => by
              obtain ⟨j, dj, ej, hj⟩ := mem_ol.mp hm
              obtain ⟨vj, _, rj⟩ := A1.ows j dj ej
              rcases rdo_kind rj o hj with ⟨_, z⟩ | ⟨_, z⟩ <;> (rw [e1] at z; cases z)
            refine ⟨gs, by rw [un_in no]; exact e1, ?_⟩
            unfold keepX at hk
            rcases Bool.or_eq_true .. ▸ hk with hk | hk
            · exact rdf_flat hk e2
            · rw [ol_none hk, un_nil]; exact e2
          unfold same at l
          split at l
          · rename_i hall
            rw [← hall a o] at l
            exact ⟨x, o, ec, eo, ⟨sups, q2⟩, H0, _, ⟨fp, A1.setFz rr⟩, lead_wipe l⟩
          · exact l.elim
        · rw [if_neg hk] at l; exact l.elim
      · have hn : ¬ sups.contains c = true := by rw [hno]; simp
        rw [if_neg hn] at l
        exact l cc oa σ H1 ((A.rz_hid.mono (un_same _ _)).mono s) ((A.s0.trans (un_same _ _)).trans s) rx
end Tw

/-! TwFresh: defs that tell a list (or dict) that is new; clear. -/
namespace Tw
open PySem L2
section
variable {X : Cx} {W : WX} {e o : Expr} {f : SE} {pos apos cpos : Pos} {i : Nat}
/-- return of something new -/
def sRetF (f : SE) : SS := fun ρ => step (f (frz ρ)) ρ fun d => .rf d
theorem ls_retF (h : PE X e (tF X.K W f)) : PS X (.Return (some e) pos) (tS X.K W (sRetF f)) := (ps_ret h).imp fun D σ H ⟨H0, ρ, ⟨fp, A⟩, l⟩ => by
  have s0 : Same H0 H := A.s0.trans (un_same _ _)
  refine ⟨frz ρ, A.rz_frz, ?_⟩
  unfold sRetF at l
  cases q : f (frz ρ) with
  | ok d => rw [q] at l; exact fun p H' hp s r => l p H' (s0.none hp) (s0.trans s) r
  | ex x => rw [q] at l; exact fun c oa F' s r => l c oa σ F' ((A.rz_hid.mono (un_same _ _)).mono s) (s0.trans s) r
  | no => rw [q] at l; exact l.elim
/-- return of a name -/
def sRetO (i : Nat) : SS := fun ρ => match ρ[i]? with
  | some (.ow d) => .rf d
  | _ => .no
theorem ls_retO (h : PE X e (tVar i)) : PS X (.Return (some e) pos) (tS X.K W (sRetO i)) := (ps_ret h).imp fun D σ H ⟨H0, ρ, ⟨fp, A⟩, l⟩ => by
  unfold sRetO at l
  split at l
  · rename_i d hi
    obtain ⟨v, h1, h2⟩ := A.ows i d hi
    have one : ∃ p, fp i = [p] ∧ v = .ref p ∧ H p ≠ none := by
      cases d with
      | lst ds => obtain ⟨p, vs, h3, h4, h5, _⟩ := h2; exact ⟨p, h4, h3, by rw [h5]; simp⟩
      | dct ds => obtain ⟨p, vs, h3, h4, h5, _⟩ := h2; exact ⟨p, h4, h3, by rw [h5]; simp⟩
      | _ => exact h2.elim
    obtain ⟨p, ep, rfl, hp⟩ := one
    have pm : p ∈ ol ρ fp := mem_ol.mpr ⟨i, d, hi, by rw [ep]; simp⟩
    have uw : Same (un (ol ρ fp) H) (wo p H) := fun a o ho => by
      have ha : a ∉ ol ρ fp := fun hm => by rw [un_out hm] at ho; cases ho
      rw [un_in ha] at ho
      have ne : a ≠ p := fun h => ha (by rw [h]; exact pm)
      rw [wo_ne ne]; exact ho
    refine ⟨_, h1, l p H (A.s0.none (un_out pm)) (A.s0.trans uw) ?_⟩
    rw [ep] at h2
    exact rdo_mono uw (fun _ _ => rfl) h2
  · exact l.elim
/-- xs.clear() -/
def sClear (i : Nat) : SS := fun ρ => match owL ρ i with
  | some _ => .nx (ρ.set i (.ow (.lst [])))
  | none => .no
theorem ls_clear (ho : PE X o (tVar i)) (hbase : attributeBase o "clear" X.env (eval o X.env) = eval o X.env := by rfl) (hline : (apos.endLine == cpos.line) = true := by rfl) (hsw : swapsWith (.Call (.Attribute o "clear" apos) [] [] cpos) none pos.line X.env = pure false := by rfl) :
    PS X (.Expr (.Call (.Attribute o "clear" apos) [] [] cpos) pos) (tS X.K W (sClear i)) :=
  (ps_expr (pe_bm0 PySem.F.plainAttrs_list PySem.F.slot_list_clear PySem.F.type_list_clear mt_clear ho hbase hline) hsw).imp fun D σ H ⟨H0, ρ, ⟨fp, A⟩, l⟩ => by
    unfold sClear at l
    cases q : owL ρ i with
    | none => rw [q] at l; exact l.elim
    | some ds =>
      rw [q] at l
      have hi := owL_ok q
      obtain ⟨p, vs, h1, h2, h3, h4, h5⟩ := A.list hi
      exact ⟨_, h1, .inl ⟨rfl, vs, SqL.of h3⟩, p, vs, rfl, rfl, h3, l _ _ ⟨fp, A.chg hi h2 h1 ⟨p, [], rfl, rfl, upd_same, rds_nil⟩⟩⟩
end
/-! ### the promise -/
def fF (K : PySem.W.Frag) (E : XK) (H : Hp) (Q : VK) (r : R D) : Prop := match r with
  | .ok d => ∀ p H', H p = none → Same H (wo p H') → rdo K (wo p H') H' [p] d (.ref p) → Q (.ref p) H'
  | .ex x => ∀ c oa H', Same H H' → rdx K H' x c oa → E c oa H'
  | .no => False
def spF (K : PySem.W.Frag) (n : Nat) (m : List D → R D) : Sp := fun vs H Q E => ∃ ds, ds.length = n ∧ rds K H ds vs ∧ fF K E H Q (m ds)
def outF : Out → R D
  | .rf d => .ok d
  | .ex x _ => .ex x
  | _ => .no
def runF (n : Nat) (g : SS) (ds : List D) : R D := outF (g (start0 n ds))
theorem runF_D {n : Nat} {g : SS} {ds : List D} {d : D} (h : runF n g ds = .ok d) : runD n g ds = .ok d := by
  unfold runF at h
  unfold runD
  cases e : g (start0 n ds) with
  | rf d' => rw [e] at h; exact h
  | _ => rw [e] at h; cases h
structure CalleeF (P : Program) (w : World) (K : PySem.W.Frag) (mg : Str → Option Value) (base : Heap) (x : Str) (k n : Nat) (m : List D → R D) : Prop where
  ex : ∃ f fd ps, FnOk P w K mg base (L2.CX P w) k f fd ps (spF K n m) ∧ mg x = some (.ref f) ∧ PySem.W.keepIn K (.ref f) = true ∧ Binds K fd ps []
structure CalleeKF (P : Program) (w : World) (K : PySem.W.Frag) (mg : Str → Option Value) (base : Heap) (x kw : Str) (k n : Nat) (dd : D) (m : List D → R D) : Prop where
  ex : ∃ f fd ps, FnOk P w K mg base (L2.CX P w) k f fd ps (spF K (n + 1) m) ∧ mg x = some (.ref f) ∧ PySem.W.keepIn K (.ref f) = true ∧ (∃ (v : V) (u : Value), (∀ H, rd K H dd v) ∧ Vals [v] [u] ∧ Binds K fd ps [u]) ∧
    KBn K fd ps n [kw] (fun us ws => us ++ ws) (fun vs zs => vs ++ zs)
section
variable {X : Cx} {W : WX} {e v : Expr} {es : List Expr} {pos p kpos : Pos} {f : SE} {h : SA} {k n : Nat} {x kw : Str} {dd : D} {m : List D → R D}
theorem fF_step {K : PySem.W.Frag} {E : XK} {H H1 : Hp} {Q : VK} {r : R D} (s : Same H H1) (w : fF K E H Q r) : fF K E H1 Q r := by
  cases r with
  | ok d => exact fun p H' hp s' rr => w p H' (s.none hp) (s.trans s') rr
  | ex y => exact fun c oa H' s' rr => w c oa H' (s.trans s') rr
  | no => exact w
theorem fF_bind {K : PySem.W.Frag} {W : WX} {α β : Type} {rel : Hp → α → β → Prop} {h : Ev → R α} {m : α → R D} {σ : L2.St} {H : Hp} {Q : VK} {N : β → Hp → Prop} {ρ : Ev} (w : fF K (fun c oa H => W c oa σ H) H Q ((h ρ).bind m))
    (k : ∀ a v H1, h ρ = .ok a → Same H H1 → rel H1 a v → fF K (fun c oa H => W c oa σ H) H1 Q (m a) → N v H1) : pst K rel W σ H (h ρ) N := by
  cases e : h ρ with
  | ok a => rw [e] at w; exact fun v H1 s r => k a v H1 e s r (fF_step s w)
  | ex y => rw [e] at w; exact w
  | no => rw [e] at w; exact w
theorem tF_fF {K : PySem.W.Frag} {W : WX} {f : SE} {σ : L2.St} {H : Hp} {Q : VK} (w : tF K W f σ H Q) : ∃ ρ, Rz K ρ σ H ∧ fF K (fun c oa H => W c oa σ H) H Q (f ρ) := w
theorem tD_q {K : PySem.W.Frag} {W : WX} {f : SE} {σ : L2.St} {H : Hp} {Q N : VK} (w : tD K W f σ H Q) (k : ∀ v H1, Q v H1 → N v H1) : tD K W f σ H N := by
  obtain ⟨ρ, z, w⟩ := w
  refine ⟨ρ, z, ?_⟩
  cases e : f ρ with
  | ok d => rw [e] at w; exact fun v H1 s r => k v H1 (w v H1 s r)
  | ex y => rw [e] at w; exact w
  | no => rw [e] at w; exact w
theorem le_callF (C : CalleeF X.prog X.w X.K X.mg X.base x k n m) (hr : Room k X.A) (hg : Gl X x) (hx : ∀ σ, PassesAt (L2.CX X.prog X.w) X σ (fun c oa H => W c oa σ H))
    (ha : PA X (e :: es) (tA X.K W h)) (hn : ALen h n) (hdb : (x == ("__debug__" : Str)) = false := by decide) (he : starEach (e :: es) X.env = (false, eval e X.env) :: starEach es X.env := by rfl) (hpl : (backTo pos (starEach es X.env)).any (·.1) = false := by rfl) :
    PE X (.Call (.Name x p) (e :: es) [] pos) (tF X.K W (eCall m h)) := by
  obtain ⟨f, fd, ps, F, hm, hk, hb⟩ := C.ex
  exact (pe_callSD (E := fun σ c oa H => W c oa σ H) F hr hg hm hk hb .nil hx ha hdb he hpl).imp fun σ H Q w => by
    obtain ⟨ρ, z, w⟩ := tF_fF w
    exact ⟨ρ, z, fF_bind (rel := rds X.K) w fun ds vs H1 ed s r w1 => ⟨ds, hn ρ ds ed, by rw [List.append_nil]; exact r, w1⟩⟩
theorem le_callDF (C : CalleeKF X.prog X.w X.K X.mg X.base x kw k n dd m) (hr : Room k X.A) (hg : Gl X x) (hx : ∀ σ, PassesAt (L2.CX X.prog X.w) X σ (fun c oa H => W c oa σ H))
    (ha : PA X (e :: es) (tA X.K W h)) (hn : ALen h n) (hdb : (x == ("__debug__" : Str)) = false := by decide) (he : starEach (e :: es) X.env = (false, eval e X.env) :: starEach es X.env := by rfl) (hpl : (backTo pos (starEach es X.env)).any (·.1) = false := by rfl) :
    PE X (.Call (.Name x p) (e :: es) [] pos) (tF X.K W (eCallD m dd h)) := by
  obtain ⟨f, fd, ps, F, hm, hk, ⟨dv, u, rdv, hv, hb⟩, _⟩ := C.ex
  exact (pe_callSD (E := fun σ c oa H => W c oa σ H) F hr hg hm hk hb hv hx ha hdb he hpl).imp fun σ H Q w => by
    obtain ⟨ρ, z, w⟩ := tF_fF w
    exact ⟨ρ, z, fF_bind (rel := rds X.K) (m := fun ds => m (ds ++ [dd])) w fun ds vs H1 ed s r w1 => ⟨ds ++ [dd], by simp [hn ρ ds ed], rds_append r (rds_one (rdv H1)), w1⟩⟩
theorem le_callKF (C : CalleeKF X.prog X.w X.K X.mg X.base x kw k n dd m) (hr : Room k X.A) (hg : Gl X x) (hx : ∀ σ, PassesAt (L2.CX X.prog X.w) X σ (fun c oa H => W c oa σ H))
    (ha : PA X (e :: es) (tA X.K W h)) (hn : ALen h n) (hv : PE X v (tD X.K W f)) (hdb : (x == ("__debug__" : Str)) = false := by decide) (he : starEach (e :: es) X.env = (false, eval e X.env) :: starEach es X.env := by rfl)
    (hall : (backToKw pos (keywordEach [⟨some kw, v, kpos⟩] X.env)).all (·.1.isSome) = true := by rfl) (hks : (backToKw pos (keywordEach [⟨some kw, v, kpos⟩] X.env)).filterMap (·.1) = [kw] := by rfl)
    (hpl : ((backTo pos (starEach (e :: es) X.env)).any (·.1) || (backToKw pos (keywordEach [⟨some kw, v, kpos⟩] X.env)).any (·.1.isNone)) = false := by rfl) :
    PE X (.Call (.Name x p) (e :: es) [⟨some kw, v, kpos⟩] pos) (tF X.K W (eCallK m h f)) := by
  obtain ⟨fa, fd, ps, F, hm, hk, _, hb⟩ := C.ex
  refine ⟨fun pins s σ H Q I w => ?_⟩
  refine wpAny_Call_Name_kw (ld_glob I hg hm ?_ hdb)
  refine PySem.W.callWith_KW (h₀ := X.base) I.ok.mod.kin hk hall (thn (ha.run pos pins s σ H (fun vs H1 => ∃ ds, rds X.K H1 ds vs ∧ ds.length = n ∧ tD X.K W f σ H1 fun u H2 => spF X.K (n + 1) m (vs ++ [u]) H2 Q fun c oa H => W c oa σ H) I ?_) fun us s1 ⟨vs, H1, I1, r, ds, rd1, ln, w1⟩ => ?_) hpl he
  · obtain ⟨ρ, z, w⟩ := tF_fF w
    exact ⟨ρ, z, fF_bind (rel := rds X.K) (m := fun ds => (f ρ).bind fun d => m (ds ++ [d])) w fun ds vs H1 ed s r w1 => ⟨ds, r, hn ρ ds ed, ρ, z.mono s, fF_bind (rel := rd X.K) (m := fun d => m (ds ++ [d])) w1 fun d u H2 _ s2 r2 w2 => ⟨ds ++ [d], by simp [hn ρ ds ed], rds_append (rds_mono s2 _ _ r) (rds_one r2), w2⟩⟩⟩
  refine thn ((pk_cons (kpos := kpos) (nm := some kw) hv pk_nil).run pos pins s1 σ H1 (fun zs H2 => ∃ u, zs = [u] ∧ spF X.K (n + 1) m (vs ++ [u]) H2 Q fun c oa H => W c oa σ H) I1 ?_) fun ws s2 ⟨zs, H2, I2, rz, u, ez, q2⟩ => ⟨I2.kIn, ?_⟩
  · exact tD_q w1 fun u H2 q => ⟨u, rfl, q⟩
  · rw [hks]
    subst ez
    have lv : vs.length = n := by rw [rds_length rd1, ln]
    exact run_fnNS F hr hb (hx σ) I2 r rz lv rfl q2
end
/-- THE RULE of a def that tells what is new, or not -/
theorem fn_twF {P : Program} {w : World} {K : PySem.W.Frag} {mg : Str → Option Value} {base : Heap} {x qual : Str} {params : Arguments} {body : List Stmt} {scope : Scope} {dvs : List V} {kws : List (Str × V)} {f : Addr} {fd : FuncData} {N ps : List Str} {k : Nat} {g : SS}
    (F : FunD K x qual params body scope dvs kws f fd) (S : FnScope N ps scope)
    (hb : ∀ (cdv : Value) (A : Around) (outer : List Env) (s : Shared) (H : Hp) (E : XK), Room k (A.deeper (PyProof.Rows.envOfC qual scope s.heap.objs.size f cdv)) →
      PSs (cxOf (L2.CX P w) P w K mg base N qual scope f cdv A outer s H E) body (tS K (fun c oa _ H => E c oa H) g)) : FnOk P w K mg base (L2.CX P w) (k + 1) f fd ps (spF K ps.length (runF N.length g)) := by
  refine F.ok S (fun vs H Q E ⟨ds, h1, h2, _⟩ => by rw [rds_length h2, h1]) fun cdv A outer s H vs Q E hr ⟨ds, h1, h2, h3⟩ => ⟨_, hb cdv A outer s H E hr, H, start0 N.length ds, start_as h2 (by
    have := congrArg List.length S.pre
    rw [List.length_take] at this
    have := rds_length h2
    omega), ?_⟩
  unfold runF at h3
  cases e : g (start0 N.length ds) with
  | rf d =>
    rw [e] at h3
    exact h3
  | ex x ρ =>
    rw [e] at h3
    exact fun c oa σ' F' _ s r => h3 c oa F' s r
  | _ => rw [e] at h3; exact h3.elim
theorem callee_twF {P : Program} {w : World} {K : PySem.W.Frag} {mg : Str → Option Value} {base : Heap} {x qual : Str} {params : Arguments} {body : List Stmt} {scope : Scope} {f : Addr} {fd : FuncData} {N ps : List Str} {k : Nat} {g : SS}
    (F : FunD K x qual params body scope [] [] f fd) (hm : mg x = some (.ref f)) (S : FnScope N ps scope)
    (hbind : ∀ (kV doc pm : Value) (an : Option Addr) (cdv ct : Value) (us : List Value), us.length = ps.length → bindArgs (PySem.W.fnOf x qual params body scope .none kV doc pm an cdv ct) ⟨us, []⟩ = pure (ps.zip us))
    (hb : ∀ (cdv : Value) (A : Around) (outer : List Env) (s : Shared) (H : Hp) (E : XK), Room k (A.deeper (PyProof.Rows.envOfC qual scope s.heap.objs.size f cdv)) →
      (∀ σ, PassesAt (L2.CX P w) (cxOf (L2.CX P w) P w K mg base N qual scope f cdv A outer s H E) σ (fun c oa H => E c oa H)) →
      PSs (cxOf (L2.CX P w) P w K mg base N qual scope f cdv A outer s H E) body (tS K (fun c oa _ H => E c oa H) g)) : Callee P w K mg base x (k + 1) ps.length (runD N.length g) ∧ CalleeF P w K mg base x (k + 1) ps.length (runF N.length g) :=
  ⟨callee_tw F hm S hbind hb, f, fd, ps, fn_twF F S fun cdv A outer s H E hr => hb cdv A outer s H E hr fun σ => passAt (W := fun c oa _ H => E c oa H) (takes_of rfl rfl rfl rfl) σ, hm, F.kp, F.bindsN hbind⟩
theorem calleeK_twF {P : Program} {w : World} {K : PySem.W.Frag} {mg : Str → Option Value} {base : Heap} {x qual kw : Str} {params : Arguments} {body : List Stmt} {scope : Scope} {f : Addr} {fd : FuncData} {N ps : List Str} {k n : Nat} {g : SS} {dd : D} {dv : V}
    (F : FunD K x qual params body scope [] [(kw, dv)] f fd) (hm : mg x = some (.ref f)) (S : FnScope N ps scope) (hl : ps.length = n + 1) (hdv : ∀ H, rd K H dd dv)
    (hbind : ∀ (D : Addr) (doc pm : Value) (an : Option Addr) (cdv ct : Value) (us ks : List Value), us.length = n → ks.length = 1 →
      KwChain D (([kw] : List Str).zip ks) (bindArgs (PySem.W.fnOf x qual params body scope .none (.ref D) doc pm an cdv ct) ⟨us, []⟩) (ps.zip (us ++ ks)))
    (hbk : ∀ (kV doc pm : Value) (an : Option Addr) (cdv ct : Value) (us ws : List Value), us.length = n → ws.length = 1 → bindArgs (PySem.W.fnOf x qual params body scope .none kV doc pm an cdv ct) ⟨us, ([kw] : List Str).zip ws⟩ = pure (ps.zip (us ++ ws)))
    (hb : ∀ (cdv : Value) (A : Around) (outer : List Env) (s : Shared) (H : Hp) (E : XK), Room k (A.deeper (PyProof.Rows.envOfC qual scope s.heap.objs.size f cdv)) →
      (∀ σ, PassesAt (L2.CX P w) (cxOf (L2.CX P w) P w K mg base N qual scope f cdv A outer s H E) σ (fun c oa H => E c oa H)) →
      PSs (cxOf (L2.CX P w) P w K mg base N qual scope f cdv A outer s H E) body (tS K (fun c oa _ H => E c oa H) g)) : CalleeK P w K mg base x kw (k + 1) n dd (runD N.length g) ∧ CalleeKF P w K mg base x kw (k + 1) n dd (runF N.length g) := by
  refine ⟨calleeK_tw F hm S hl hdv hbind hbk hb, ?_⟩
  have FF := fn_twF F S fun cdv A outer s H E hr => hb cdv A outer s H E hr fun σ => passAt (W := fun c oa _ H => E c oa H) (takes_of rfl rfl rfl rfl) σ
  rw [hl] at FF
  obtain ⟨ds, hv, hB⟩ := F.binds0 (ps := ps) n (by simp) (by simp [hl]) fun D doc pm an cdv ct us ks l1 l2 => hbind D doc pm an cdv ct us ks l1 (by simpa using l2)
  have hv : Vals [dv] ds := hv
  cases hv with
  | cons h1 h2 =>
    cases h2
    refine ⟨f, fd, ps, FF, hm, F.kp, ⟨dv, _, hdv, .cons h1 .nil, hB⟩, ?_⟩
    obtain ⟨oc, od, dV, kV, doc, pm, an, cdv, ct, osl, rfl, lk, hcd, hD, hK⟩ := F.ex
    rcases hD with ⟨_, rfl⟩ | ⟨e, _⟩
    · exact ⟨fun s us ws X l1 l2 => .of_eq (hbk kV doc pm an cdv ct us ws l1 (by simpa using l2)), fun r1 r2 => r1.append r2⟩
    · exact absurd rfl e
end Tw

/-! TwImm: what can't be changed may be read beside what is owned. -/
namespace Tw
open PySem L2
mutual
def D.imm : D → Bool
  | .non => true
  | .bl _ => true
  | .int _ => true
  | .str _ => true
  | .tup ds => immL ds
  | .lst _ => false
  | .dct _ => false
  | .ins _ _ => false
  | .scr _ => false
  | .exn _ _ _ => false
def immL : List D → Bool
  | [] => true
  | d :: ds => d.imm && immL ds
end
mutual
theorem rd_imm {K : PySem.W.Frag} {H H' : Hp} (hh : ∀ a vs, H a = some (.tup vs) → H' a = some (.tup vs)) : ∀ (d : D) (v : V), d.imm = true → rd K H d v → rd K H' d v
  | .non, v, _, r => by unfold rd at *; exact r
  | .bl b, v, _, r => by unfold rd at *; exact r
  | .int b, v, _, r => by unfold rd at *; exact r
  | .str b, v, _, r => by unfold rd at *; exact r
  | .tup ds, v, c, r => by
    unfold rd at *
    unfold D.imm at c
    obtain ⟨a, vs, rfl, e, z⟩ := r
    exact ⟨a, vs, rfl, hh _ _ e, rds_imm hh ds vs c z⟩
  | .lst _, _, c, _ | .dct _, _, c, _ | .ins _ _, _, c, _ | .scr _, _, c, _ | .exn _ _ _, _, c, _ => by unfold D.imm at c; cases c
theorem rds_imm {K : PySem.W.Frag} {H H' : Hp} (hh : ∀ a vs, H a = some (.tup vs) → H' a = some (.tup vs)) : ∀ (ds : List D) (vs : List V), immL ds = true → rds K H ds vs → rds K H' ds vs
  | [], vs, _, r => by unfold rds at *; exact r
  | d :: ds, vs, c, r => by
    unfold rds at *
    unfold immL at c
    obtain ⟨c1, c2⟩ := Bool.and_eq_true_iff.mp c
    obtain ⟨v, us, rfl, q, z⟩ := r
    exact ⟨v, us, rfl, rd_imm hh d v c1 q, rds_imm hh ds us c2 z⟩
end
theorem AsF.imm {K : PySem.W.Frag} {H0 H : Hp} {ρ : List Cl} {σ : St} {fp : Nat → List Addr} (A : AsF K H0 ρ σ H fp) {d : D} {v : V} (c : d.imm = true) (r : rd K H d v) : rd K (un (ol ρ fp) H) d v :=
  rd_imm (fun a vs e => by
    have na : a ∉ ol ρ fp := fun hm => by
      obtain ⟨j, dj, ej, hj⟩ := mem_ol.mp hm
      obtain ⟨vj, _, rj⟩ := A.ows j dj ej
      rcases rdo_kind rj a hj with ⟨_, z⟩ | ⟨_, z⟩ <;> (rw [e] at z; cases z)
    rw [un_in na]; exact e) d v c r
/-- xs.append(e), whatever e reads -/
def sAppI (i : Nat) (f : SE) : SS := fun ρ => match owL ρ i with
  | some ds => step (f (frz ρ)) ρ fun d => if (d.imm && decide (ds.length < sizeLine)) = true then .nx (ρ.set i (.ow (.lst (ds ++ [d])))) else .no
  | none => .no
theorem ls_appI {X : Cx} {W : WX} {e o : Expr} {f : SE} {pos apos cpos : Pos} {i : Nat} (ho : PE X o (tVar i)) (he : PE X e (tD X.K W f)) (hbase : attributeBase o "append" X.env (eval o X.env) = eval o X.env := by rfl)
    (hfew : ((backTo cpos (starEach [e] X.env)).all (fun x => !x.1) && (backToKw cpos (keywordEach [] X.env)).all (fun x => x.1.isSome)
      && decide (([e] : List Expr).length + ([] : List Keyword).length + (if ([] : List Keyword).isEmpty then 0 else 1) < 30)) = true := by rfl)
    (hline : (apos.endLine == cpos.line) = true := by rfl) (h1 : starEach [e] X.env = (false, eval e X.env) :: starEach [] X.env := by rfl) (hsw : swapsWith (.Call (.Attribute o "append" apos) [e] [] cpos) none pos.line X.env = pure false := by rfl) :
    PS X (.Expr (.Call (.Attribute o "append" apos) [e] [] cpos) pos) (tS X.K W (sAppI i f)) :=
  (ps_expr (pe_bm PySem.F.plainAttrs_list PySem.F.slot_list_append PySem.F.type_list_append mt_append ho (pa_cons he pa_nil h1) hbase hfew hline h1 rfl) hsw).imp fun D σ H ⟨H0, ρ, ⟨fp, A⟩, l⟩ => by
    unfold sAppI at l
    cases q : owL ρ i with
    | none => rw [q] at l; exact l.elim
    | some ds =>
      rw [q] at l
      have hi := owL_ok q
      obtain ⟨p, vs, h1, h2, h3, h4, h5⟩ := A.list hi
      refine ⟨_, h1, .inl ⟨rfl, vs, SqL.of h3⟩, run_frz (rel := rd X.K) A l fun d v H' _ s r l' => ?_⟩
      by_cases c : (d.imm && decide (ds.length < sizeLine)) = true
      · rw [if_pos c] at l'
        obtain ⟨c1, c2⟩ := Bool.and_eq_true_iff.mp c
        have A' := A.grown s
        obtain ⟨p', vs', h1', h2', h3', h4', h5'⟩ := A'.list hi
        rw [h1] at h1'
        cases h1'
        have ev : vs' = vs := by have := s _ _ h3; rw [h3'] at this; cases this; rfl
        subst ev
        refine ⟨p, vs', v, rfl, rfl, h3', by rw [rds_length h4]; exact of_decide_eq_true c2, l' _ _ ⟨fp, A'.chg hi h2 h1 ?_⟩⟩
        exact ⟨p, _, rfl, rfl, upd_same, rds_append h4' (rds_one (A'.imm c1 r))⟩
      · rw [if_neg c] at l'; exact l'.elim
end Tw

/-! Pl1: plain tools: what the data's functions tell. -/
namespace Tw
open PySem L2
/-! ### encodings -/
def eT (r : List Int) : D := .tup (r.map D.int)
def eL (r : List Int) : D := .lst (r.map D.int)
theorem map_int_inj {a b : List Int} : a.map D.int = b.map D.int ↔ a = b := List.map_inj_right (f := D.int) fun a b h => by cases h; rfl
theorem eT_inj {a b : List Int} : eT a = eT b ↔ a = b := ⟨fun h => by unfold eT at h; exact map_int_inj.mp (D.tup.inj h), fun h => by rw [h]⟩
theorem eL_inj {a b : List Int} : eL a = eL b ↔ a = b := ⟨fun h => by unfold eL at h; exact map_int_inj.mp (D.lst.inj h), fun h => by rw [h]⟩
/-! ### == -/
/-- data of a depth, of ints, texts, None, lists, tuples -/
def nc : Nat → D → Bool
  | _, .int _ => true
  | _, .non => true
  | _, .str s => PyData.strOk s
  | n + 1, .tup xs => xs.all (nc n)
  | n + 1, .lst xs => xs.all (nc n)
  | _, _ => false
theorem toPs_map : ∀ ds : List D, toPs ds = ds.map D.toP
  | [] => by unfold toPs; rfl
  | d :: ds => by unfold toPs; rw [toPs_map ds]; rfl
theorem nc_lay : ∀ (n : Nat) (d : D), nc n d = true → d.toP.canLay0 = true ∧ d.toP.depth ≤ n := fun n => by
  have lst : ∀ m, (∀ d : D, nc m d = true → d.toP.canLay0 = true ∧ d.toP.depth ≤ m) → ∀ ds : List D, ds.all (nc m) = true → PyData.canLayAll0 (toPs ds) = true ∧ PyData.depthAll (toPs ds) ≤ m := fun m ih ds => by
    induction ds with
    | nil => intro _; unfold toPs; exact ⟨by simp [PyData.canLayAll0], by simp [PyData.depthAll]⟩
    | cons d ds ih2 =>
      intro h
      simp only [List.all_cons, Bool.and_eq_true] at h
      obtain ⟨a, b⟩ := ih d h.1
      obtain ⟨a2, b2⟩ := ih2 h.2
      unfold toPs
      exact ⟨by simp [PyData.canLayAll0, a, a2], by simp only [PyData.depthAll]; omega⟩
  induction n with
  | zero => intro d h; cases d <;> first | (cases h; done) | (simp [D.toP, PyData.canLay0, PyData.depth]; done) | (simp [D.toP, PyData.canLay0, PyData.depth]; exact h)
  | succ n ih =>
    intro d h
    cases d with
    | tup xs =>
      have h : xs.all (nc n) = true := h
      obtain ⟨a, b⟩ := lst n ih xs h
      unfold D.toP
      exact ⟨by simp [PyData.canLay0, a], by simp only [PyData.depth]; omega⟩
    | lst xs =>
      have h : xs.all (nc n) = true := h
      obtain ⟨a, b⟩ := lst n ih xs h
      unfold D.toP
      exact ⟨by simp [PyData.canLay0, a], by simp only [PyData.depth]; omega⟩
    | int i => simp [D.toP, PyData.canLay0, PyData.depth]
    | non => simp [D.toP, PyData.canLay0, PyData.depth]
    | str s => simp [D.toP, PyData.canLay0, PyData.depth]; exact h
    | bl b => cases h
    | dct k => cases h
    | ins C f => cases h
    | scr ns => cases h
    | exn a o fs => cases h
theorem nc_shp {n : Nat} {d : D} (h : nc n d = true) (hn : n ≤ 64) : shp d = true := by
  obtain ⟨a, b⟩ := nc_lay n d h
  unfold shp SeqAt.shaped
  simp [a]; omega
theorem nc_eqv : ∀ (n : Nat) (d e : D) (m : Nat), nc n d = true → nc m e = true → (PyData.eqv d.toP e.toP = true ↔ d = e) := fun n => by
  have lst : ∀ k, (∀ (d e : D) (m : Nat), nc k d = true → nc m e = true → (PyData.eqv d.toP e.toP = true ↔ d = e)) → ∀ (ds es : List D) (m : Nat), ds.all (nc k) = true → es.all (nc m) = true → (PyData.eqvAll (toPs ds) (toPs es) = true ↔ ds = es) := fun k ih ds => by
    induction ds with
    | nil => intro es m _ _; cases es <;> simp [toPs, PyData.eqvAll]
    | cons d ds ih2 =>
      intro es m h h'
      cases es with
      | nil => simp [toPs, PyData.eqvAll]
      | cons e es =>
        simp only [List.all_cons, Bool.and_eq_true] at h h'
        unfold toPs
        simp only [PyData.eqvAll, Bool.and_eq_true, ih d e m h.1 h'.1, ih2 es m h.2 h'.2, List.cons.injEq]
  induction n with
  | zero =>
    intro d e m h h'
    cases d <;> first | (cases h; done) | (cases e <;> first | (cases m <;> cases h'; done) | simp [D.toP, PyData.eqv])
  | succ n ih =>
    intro d e m h h'
    cases d with
    | tup xs =>
      have h : xs.all (nc n) = true := h
      cases e with
      | tup ys =>
        cases m with
        | zero => cases h'
        | succ m => unfold D.toP; simp only [PyData.eqv, lst n ih xs ys m h h', D.tup.injEq]
      | _ => first | (cases m <;> cases h'; done) | simp [D.toP, PyData.eqv]
    | lst xs =>
      have h : xs.all (nc n) = true := h
      cases e with
      | lst ys =>
        cases m with
        | zero => cases h'
        | succ m => unfold D.toP; simp only [PyData.eqv, lst n ih xs ys m h h', D.lst.injEq]
      | _ => first | (cases m <;> cases h'; done) | simp [D.toP, PyData.eqv]
    | int i => cases e <;> first | (cases m <;> cases h'; done) | simp [D.toP, PyData.eqv]
    | non => cases e <;> first | (cases m <;> cases h'; done) | simp [D.toP, PyData.eqv]
    | str s => cases e <;> first | (cases m <;> cases h'; done) | simp [D.toP, PyData.eqv]
    | bl b => cases h
    | dct k => cases h
    | ins C f => cases h
    | scr ns => cases h
    | exn a o fs => cases h
theorem dEq_nc {n m : Nat} {d e : D} {b : Bool} (h : nc n d = true) (h' : nc m e = true) (hb : b = true ↔ d = e) (hn : n ≤ 64 := by decide) (hm : m ≤ 64 := by decide) : dEq d e = .ok (.bl b) := by
  unfold dEq
  rw [nc_shp h hn, nc_shp h' hm]
  have := nc_eqv n d e m h h'
  have e2 : PyData.eqv d.toP e.toP = b := by
    rw [Bool.eq_iff_iff, this, hb]
  simp [e2]
theorem dNe_nc {n m : Nat} {d e : D} {b : Bool} (h : nc n d = true) (h' : nc m e = true) (hb : b = true ↔ d ≠ e) (hn : n ≤ 64 := by decide) (hm : m ≤ 64 := by decide) : dNe d e = .ok (.bl b) := by
  unfold dNe
  rw [nc_shp h hn, nc_shp h' hm]
  have := nc_eqv n d e m h h'
  have e2 : (!PyData.eqv d.toP e.toP) = b := by
    rw [Bool.eq_iff_iff, hb]
    cases q : PyData.eqv d.toP e.toP with
    | true => simp [this.mp q]
    | false => simp; intro z; rw [this.mpr z] at q; cases q
  simp [e2]
theorem nc_ints (n : Nat) (r : List Int) : (r.map D.int).all (nc n) = true := by
  rw [List.all_eq_true]; intro d hd
  obtain ⟨i, _, rfl⟩ := List.mem_map.mp hd
  cases n <;> rfl
theorem nc_eT (n : Nat) (r : List Int) : nc (n + 1) (eT r) = true := nc_ints n r
theorem nc_eL (n : Nat) (r : List Int) : nc (n + 1) (eL r) = true := nc_ints n r
/-- x in a list of ints -/
theorem anyP_ints (i : Int) (r : List Int) : anyP (.int i) (r.map D.int) = decide (i ∈ r) := by
  unfold anyP
  rw [toPs_map, List.map_map, List.any_map, Bool.eq_iff_iff]
  simp only [List.any_eq_true, Function.comp, D.toP, PyData.eqv, beq_iff_eq, decide_eq_true_eq]
  constructor
  · rintro ⟨x, h, rfl⟩; exact h
  · intro h; exact ⟨i, h, rfl⟩
theorem in_ints {neg : Bool} {i : Int} {r : List Int} : dInS neg (.int i) (.lst (r.map D.int)) = .ok (.bl (if neg then !decide (i ∈ r) else decide (i ∈ r))) := by
  unfold dInS
  have h1 : shp (.int i) = true := nc_shp (n := 0) rfl (by decide)
  have h2 : shp (.lst (r.map D.int)) = true := nc_shp (n := 1) (nc_eL 0 r) (by decide)
  simp only [h1, h2, Bool.and_self, if_true, anyP_ints]
/-! ### comprehensions -/
theorem compD_map {α β : Type} {st : D → R (Option β)} {en : α → D} {f : α → Option β} : ∀ {xs : List α}, (∀ x ∈ xs, st (en x) = .ok (f x)) → compD st (xs.map en) = .ok (xs.filterMap f)
  | [], _ => rfl
  | x :: xs, h => by
    simp only [List.map_cons, compD, h x List.mem_cons_self, R.bind, compD_map (xs := xs) fun y hy => h y (List.mem_cons_of_mem _ hy)]
    cases q : f x with
    | none => simp [consO, q]
    | some y => simp [consO, q]
/-! ### statements -/
def WP (o : Out) (N : List Cl → Prop) (Q : D → Prop) : Prop := match o with
  | .nx ρ => N ρ
  | .rt d _ => Q d
  | .rf d => Q d
  | _ => False
theorem WP.mono {o : Out} {N N' : List Cl → Prop} {Q Q' : D → Prop} (h : WP o N Q) (hn : ∀ ρ, N ρ → N' ρ) (hq : ∀ d, Q d → Q' d) : WP o N' Q' := by
  cases o <;> first | exact hn _ h | exact hq _ h | exact h
theorem wp_run {n : Nat} {g : SS} {ds : List D} {Q : D → Prop} (h : WP (g (start0 n ds)) (fun _ => Q .non) Q) : ∃ d, runD n g ds = .ok d ∧ Q d := by
  unfold runD
  cases q : g (start0 n ds) <;> rw [q] at h <;> first | exact ⟨_, rfl, h⟩ | exact h.elim
theorem wp_is {n : Nat} {g : SS} {ds : List D} {d : D} (h : WP (g (start0 n ds)) (fun _ => D.non = d) (· = d)) : runD n g ds = .ok d := by
  obtain ⟨e, h1, h2⟩ := wp_run (Q := (· = d)) h
  rw [h1, h2]
theorem wp_seq {g g' : SS} {ρ : List Cl} {N : List Cl → Prop} {Q : D → Prop} (h : WP (g ρ) (fun ρ' => WP (g' ρ') N Q) Q) : WP (sSeq g g' ρ) N Q := by
  unfold sSeq
  cases q : g ρ <;> rw [q] at h <;> exact h
theorem wp_if {p : ST} {g g' : SS} {ρ : List Cl} {N : List Cl → Prop} {Q : D → Prop} {b : Bool} (hp : p (frz ρ) = .ok b) (ht : b = true → WP (g ρ) N Q) (hf : b = false → WP (g' ρ) N Q) : WP (sIf p g g' ρ) N Q := by
  unfold sIf step
  rw [hp]
  cases b with
  | true => exact ht rfl
  | false => exact hf rfl
theorem wp_ret {f : SE} {ρ : List Cl} {N : List Cl → Prop} {Q : D → Prop} {d : D} (h : f (frz ρ) = .ok d) (q : Q d) : WP (sRet f ρ) N Q := by
  unfold sRet step
  rw [h]; exact q
theorem wp_set {i : Nat} {f : SE} {ρ : List Cl} {N : List Cl → Prop} {Q : D → Prop} {d : D} (h : f (hid ρ) = .ok d) (q : N (ρ.set i (.fz d))) : WP (sSet i f ρ) N Q := by
  unfold sSet step
  rw [h]; exact q
theorem wp_nil {ρ : List Cl} {N : List Cl → Prop} {Q : D → Prop} (h : N ρ) : WP (sNil ρ) N Q := h
theorem wp_fz {is : List Nat} {g : SS} {ρ : List Cl} {N : List Cl → Prop} {Q : D → Prop} (h : WP (g (fzL is ρ)) N Q) : WP (sFz is g ρ) N Q := h
theorem wp_for {α : Type} {t : Tg} {fi : SA} {g : SS} {ρ : List Cl} {N : List Cl → Prop} {Q : D → Prop} {xs : List α} {en : α → D} (I : List α → List Cl → Prop) (hi : fi (hid ρ) = .ok (xs.map en)) (h0 : I xs ρ)
    (hs : ∀ x ys ρ, (∃ zs, xs = zs ++ x :: ys) → I (x :: ys) ρ → WP (bodyD t g (en x) ρ) (I ys) Q) (hd : ∀ ρ, I [] ρ → N ρ) : WP (sFor t fi g ρ) N Q := by
  unfold sFor step
  rw [hi]
  show WP (forD (bodyD t g) (xs.map en) ρ) N Q
  have go : ∀ (ys : List α) (ρ : List Cl), (∃ zs, xs = zs ++ ys) → I ys ρ → WP (forD (bodyD t g) (ys.map en) ρ) N Q := fun ys => by
    induction ys with
    | nil => intro ρ _ h; exact hd ρ h
    | cons x ys ih =>
      intro ρ hz h
      have w := hs x ys ρ hz h
      simp only [List.map_cons, forD]
      cases q : bodyD t g (en x) ρ <;> rw [q] at w <;> first | exact ih _ (let ⟨zs, e⟩ := hz; ⟨zs ++ [x], by rw [e]; simp⟩) w | exact w | exact w.elim
  exact go xs ρ ⟨[], rfl⟩ h0
theorem wp_while {p : ST} {g : SS} {N : List Cl → Prop} {Q : D → Prop} (I : Nat → List Cl → Prop) (hs : ∀ m ρ, I m ρ → ∃ b, p (frz ρ) = .ok b ∧ (b = false → N ρ) ∧ (b = true → WP (g ρ) (fun ρ' => ∃ m', m' < m ∧ I m' ρ') Q)) :
    ∀ (n m : Nat) (ρ : List Cl), m < n → I m ρ → WP (whileD p g n ρ) N Q
  | 0, m, ρ, h, _ => absurd h (Nat.not_lt_zero _)
  | n + 1, m, ρ, h, hi => by
    obtain ⟨b, hb, h1, h2⟩ := hs m ρ hi
    unfold whileD step
    rw [hb]
    cases b with
    | false => exact h1 rfl
    | true =>
      have w := h2 rfl
      show WP (if true = true then _ else _) N Q
      rw [if_pos rfl]
      cases q : g ρ <;> rw [q] at w <;> first | exact w.elim | exact w | skip
      obtain ⟨m', hm, hi'⟩ := w
      exact wp_while I hs n m' _ (by omega) hi'
section
variable {α β : Type} {a : α} {x : Xn} {f : α → R β} {fe ge he : SE} {p q : ST} {g : SA} {ρ : Ev} {ds : List D} {d e : D} {k : List Cl → Out} {σ : List Cl}
@[simp] theorem s_bind1 : (R.ok a).bind f = f a := rfl
@[simp] theorem s_bind2 : (R.no : R α).bind f = .no := rfl
@[simp] theorem s_bind3 : (R.ex x : R α).bind f = .ex x := rfl
@[simp] theorem s_nox1 : (R.ok a).nox = .ok a := rfl
@[simp] theorem s_nox2 : (R.no : R α).nox = .no := rfl
@[simp] theorem s_nox3 : (R.ex x : R α).nox = .no := rfl
@[simp] theorem s_map {h : α → β} : (R.ok a).map h = .ok (h a) := rfl
@[simp] theorem s_or1 {r : R α} : (R.ok a).or r = .ok a := rfl
@[simp] theorem s_or2 {r : R α} : (R.no : R α).or r = r := rfl
@[simp] theorem s_of1 : R.of (some a) = .ok a := rfl
@[simp] theorem s_of2 : R.of (none : Option α) = .no := rfl
@[simp] theorem s_step1 {ρ : List Cl} {k : α → Out} : step (.ok a) ρ k = k a := rfl
@[simp] theorem s_asB {b : Bool} : asB (.bl b) = .ok b := rfl
@[simp] theorem s_eC : eC d ρ = .ok d := rfl
@[simp] theorem s_eVar {i : Nat} : eVar i ρ = match ρ[i]? with | some (some d) => .ok d | _ => .no := rfl
@[simp] theorem s_e1 {h : D → R D} : e1 h fe ρ = (fe ρ).bind fun d => (h d).nox := rfl
@[simp] theorem s_e2 {h : D → D → R D} : e2 h fe ge ρ = (fe ρ).bind fun d => (ge ρ).bind fun e => (h d e).nox := rfl
@[simp] theorem s_eB {h : List D → R D} : eB h g ρ = (g ρ).bind fun ds => (h ds).nox := rfl
@[simp] theorem s_eCall {h : List D → R D} : eCall h g ρ = (g ρ).bind h := rfl
@[simp] theorem s_aNil : aNil ρ = .ok [] := rfl
@[simp] theorem s_aCons : aCons fe g ρ = (fe ρ).bind fun d => (g ρ).map fun ds => d :: ds := rfl
@[simp] theorem s_eTup : eTup g ρ = (g ρ).bind fun ds => if sz ds.length = true then .ok (.tup ds) else .no := rfl
@[simp] theorem s_eLst : eLst g ρ = (g ρ).bind fun ds => if sz ds.length = true then .ok (.lst ds) else .no := rfl
@[simp] theorem s_tV : tV fe ρ = (fe ρ).bind asB := rfl
@[simp] theorem s_tNo : tNo p ρ = (p ρ).map (!·) := rfl
@[simp] theorem s_tAn : tAn p q ρ = (p ρ).bind fun b => if b = true then q ρ else .ok false := rfl
@[simp] theorem s_tOr : tOr' p q ρ = (p ρ).bind fun b => if b = true then .ok true else q ρ := rfl
@[simp] theorem s_tTrue : tTrue ρ = .ok true := rfl
@[simp] theorem s_eAn : eAn fe ge ρ = (fe ρ).bind fun d => (asB d).bind fun b => if b = true then ge ρ else .ok (.bl false) := rfl
@[simp] theorem s_eOr : eOr fe ge ρ = (fe ρ).bind fun d => (asB d).bind fun b => if b = true then .ok (.bl true) else ge ρ := rfl
@[simp] theorem s_eNo : eNo fe ρ = (fe ρ).bind fun d => (asB d).map fun b => .bl (!b) := rfl
@[simp] theorem s_eIf : eIf p fe ge ρ = (p ρ).bind fun b => if b = true then fe ρ else ge ρ := rfl
@[simp] theorem s_eCh {g1 g2 : D → D → R D} : eCh g1 g2 fe ge he ρ = (fe ρ).bind fun d => (ge ρ).bind fun e => (g1 d e).nox.bind fun z => (asB z).bind fun k => if k = true then (he ρ).bind fun a => (g2 e a).nox else .ok (.bl false) := rfl
@[simp] theorem s_iSeq : iSeq fe ρ = (fe ρ).bind iterD := rfl
@[simp] theorem s_iRg {h : List D → R (List D)} : iRg h g ρ = (g ρ).bind h := rfl
@[simp] theorem s_iter1 : iterD (.lst ds) = .ok ds := rfl
@[simp] theorem s_iter2 : iterD (.tup ds) = .ok ds := rfl
@[simp] theorem s_bindNm {i : Nat} : bindT (.nm i) d = some [(i, d)] := by unfold bindT; rfl
@[simp] theorem s_bindTp {ts : List Tg} : bindT (.tp ts) (.tup ds) = bindTs ts ds := by unfold bindT; rfl
@[simp] theorem s_bindTs0 : bindTs [] [] = some [] := by unfold bindTs; rfl
@[simp] theorem s_bindTs1 {t : Tg} {ts : List Tg} : bindTs (t :: ts) (d :: ds) = (bindT t d).bind fun a => (bindTs ts ds).map fun b => a ++ b := by conv => lhs; unfold bindTs
@[simp] theorem s_body {t : Tg} {gs : SS} : bodyD t gs d σ = match bindT t d with | some bs => gs (setsC σ bs) | none => .no := rfl
@[simp] theorem s_setsC0 : setsC σ [] = σ := rfl
@[simp] theorem s_setsC1 {i : Nat} {bs : List (Nat × D)} : setsC σ ((i, d) :: bs) = setsC (σ.set i (.fz d)) bs := rfl
@[simp] theorem s_setsD0 : setsD ρ [] = ρ := rfl
@[simp] theorem s_setsD1 {i : Nat} {bs : List (Nat × D)} : setsD ρ ((i, d) :: bs) = setsD (ρ.set i (some d)) bs := rfl
@[simp] theorem s_wipe0 : wipeD ρ [] = ρ := rfl
@[simp] theorem s_wipe1 {i : Nat} {is : List Nat} : wipeD ρ (i :: is) = (wipeD ρ is).set i none := rfl
@[simp] theorem s_hid0 : hid [] = [] := rfl
@[simp] theorem s_hid1 {c : Cl} : hid (c :: σ) = Cl.hid c :: hid σ := rfl
@[simp] theorem s_frz0 : frz [] = [] := rfl
@[simp] theorem s_frz1 {c : Cl} : frz (c :: σ) = Cl.frz c :: frz σ := rfl
@[simp] theorem s_h1 : Cl.hid (.fz d) = some d := rfl
@[simp] theorem s_h2 : Cl.hid (.ow d) = none := rfl
@[simp] theorem s_h3 : Cl.hid .no = none := rfl
@[simp] theorem s_f1 : Cl.frz (.fz d) = some d := rfl
@[simp] theorem s_f2 : Cl.frz (.ow d) = some d := rfl
@[simp] theorem s_f3 : Cl.frz .no = none := rfl
@[simp] theorem s_cM1 : cM true d = .ow d := rfl
@[simp] theorem s_cM2 : cM false d = .fz d := rfl
@[simp] theorem s_fzL0 : fzL [] σ = σ := rfl
@[simp] theorem s_fzL1 {i : Nat} {is : List Nat} : fzL (i :: is) σ = fzL is (match σ[i]? with | some (.ow d) => σ.set i (.fz d) | _ => σ) := rfl
@[simp] theorem s_start {n : Nat} : start0 n ds = ds.map Cl.fz ++ List.replicate (n - ds.length) .no := rfl
end
theorem sz_of {n : Nat} (h : n ≤ 10000) : sz n = true := by
  unfold sz sizeLine
  exact decide_eq_true (by omega)
theorem comp_is {own : List Nat} {t : Tg} {fi : SA} {ft : ST} {fe : SE} {ρ : Ev} {ds es : List D} (h1 : fi ρ = .ok ds) (h2 : compD (compS t ft fe (wipeD ρ own)) ds = .ok es) (h3 : es.length ≤ 10000) : eComp own t fi ft fe ρ = .ok (.lst es) := by
  unfold eComp
  rw [h1]
  simp only [s_bind1, h2, s_nox1, sz_of h3, if_true]
theorem compD_all {α β : Type} {st : D → R (Option β)} {en : α → D} {f : α → β} {xs : List α} (h : ∀ x ∈ xs, st (en x) = .ok (some (f x))) : compD st (xs.map en) = .ok (xs.map f) := by
  rw [compD_map (f := fun x => some (f x)) h]
  simp
theorem compD_filter {α β : Type} {st : D → R (Option β)} {en : α → D} {f : α → β} {p : α → Bool} {xs : List α} (h : ∀ x ∈ xs, st (en x) = .ok (if p x = true then some (f x) else none)) : compD st (xs.map en) = .ok ((xs.filter p).map f) := by
  rw [compD_map h]
  congr 1
  induction xs with
  | nil => rfl
  | cons x xs ih =>
    have ih := ih fun y hy => h y (List.mem_cons_of_mem _ hy)
    by_cases hp : p x = true
    · simp [hp, ih]
    · simp [hp, ih]
@[simp] theorem s_comp {t : Tg} {ft : ST} {fe : SE} {ρ : Ev} {d : D} : compS t ft fe ρ d = match bindT t d with
  | none => .no
  | some bs => (ft (setsD ρ bs)).nox.bind fun b => if b = true then (fe (setsD ρ bs)).nox.bind fun e => .ok (some e) else .ok none := rfl
@[simp] theorem s_neg {i : Int} : dNeg (.int i) = .ok (.int (-i)) := rfl
end Tw

noncomputable section
namespace Tw
open PySem L2
def top (i : Nat) : Stmt := PySem.Challenge.pw_cutslip_k06_whole_lean.main.body.getD i (.Pass ⟨0, 0, 0, 0⟩)

abbrev tbC : ClT := [("Answer", ["Answer"]), ("Right", ["Right", "Answer"]), ("Wrong", ["Wrong", "Answer"])]
abbrev nmC : List Str := ["Answer", "Right", "Wrong"]
abbrev F_step : List Str := ["Wrong"]
abbrev F_signs : List Str := ["Wrong"]
abbrev tbX : ClT := [("SlipError", ["SlipError"]), ("BadFormula", ["BadFormula", "SlipError"]), ("BadRoad", ["BadRoad", "SlipError"]), ("NotRight", ["NotRight", "SlipError"])]
abbrev nmX : List Str := ["SlipError", "BadFormula", "BadRoad", "NotRight"]
abbrev E_step : List Str := ["NotRight"]
structure Tx (K : PySem.W.Frag) (mg : Str → Option Value) : Prop where
  e_BadFormula : ErrC K "BadFormula"
  e_BadRoad : ErrC K "BadRoad"
  et_NotRight : ErrT K (He.ga K "NotRight") "step" (He.ma K (He.ga K "NotRight") "__init__")
  f_signs : FldT K F_signs "signs"
  f_step : FldT K F_step "step"
  n_abs : mg "abs" = none
  n_all : mg "all" = none
  n_any : mg "any" = none
  n_bool : mg "bool" = none
  n_enumerate : mg "enumerate" = none
  n_int : mg "int" = none
  n_isinstance : mg "isinstance" = none
  n_len : mg "len" = none
  n_list : mg "list" = none
  n_min : mg "min" = none
  n_range : mg "range" = none
  n_sorted : mg "sorted" = none
  n_str : mg "str" = none
  n_sum : mg "sum" = none
  n_tuple : mg "tuple" = none
  n_zip : mg "zip" = none
  c_MOST_MARKS : ∃ t, mg "MOST_MARKS" = some (.int 6 t)
  c_MOST_ROWS : ∃ t, mg "MOST_ROWS" = some (.int 16 t)
  c_MOST_STEPS : ∃ t, mg "MOST_STEPS" = some (.int 100 t)
  kt : KT K tbC nmC
  mkp_Right : MkP K "Right"
  xf_step : XF K E_step "step"
  xt : XT K tbX nmX
  mk_Wrong : Mk K (He.ga K "Wrong") (He.ma K (He.ga K "Wrong") "__init__")
  glo_opposites : mg "opposites" = some (.ref (He.ga K "opposites"))
  glo_forced : mg "forced" = some (.ref (He.ga K "forced"))
  glo_is_whole : mg "is_whole" = some (.ref (He.ga K "is_whole"))
  glo_is_list : mg "is_list" = some (.ref (He.ga K "is_list"))
  glo_row_of : mg "row_of" = some (.ref (He.ga K "row_of"))
  glo_last_with : mg "last_with" = some (.ref (He.ga K "last_with"))
  glo_without : mg "without" = some (.ref (He.ga K "without"))
  glo__law_number : mg "_law_number" = some (.ref (He.ga K "_law_number"))
  glo__law_row : mg "_law_row" = some (.ref (He.ga K "_law_row"))
  glo__law_told : mg "_law_told" = some (.ref (He.ga K "_law_told"))
  glo__law_forced : mg "_law_forced" = some (.ref (He.ga K "_law_forced"))
  glo_follows : mg "follows" = some (.ref (He.ga K "follows"))
  glo_closure : mg "closure" = some (.ref (He.ga K "closure"))
  glo_is_sign : mg "is_sign" = some (.ref (He.ga K "is_sign"))
  glo__law_rows : mg "_law_rows" = some (.ref (He.ga K "_law_rows"))
  glo__law_follows : mg "_law_follows" = some (.ref (He.ga K "_law_follows"))
  glo__law_tree : mg "_law_tree" = some (.ref (He.ga K "_law_tree"))
  glo_is_row : mg "is_row" = some (.ref (He.ga K "is_row"))
  glo_walked : mg "walked" = some (.ref (He.ga K "walked"))
  glo__law_walked : mg "_law_walked" = some (.ref (He.ga K "_law_walked"))
  glo__law_lean_right : mg "_law_lean_right" = some (.ref (He.ga K "_law_lean_right"))
  glo_is_step : mg "is_step" = some (.ref (He.ga K "is_step"))
  glo_rows_of : mg "rows_of" = some (.ref (He.ga K "rows_of"))
  glo__law_road : mg "_law_road" = some (.ref (He.ga K "_law_road"))
  glo__law_wider : mg "_law_wider" = some (.ref (He.ga K "_law_wider"))
  glo_steps_of : mg "steps_of" = some (.ref (He.ga K "steps_of"))
  glo_judged : mg "judged" = some (.ref (He.ga K "judged"))
  glo_right_steps : mg "right_steps" = some (.ref (He.ga K "right_steps"))
  glo_lean : mg "lean" = some (.ref (He.ga K "lean"))
  glo__law_refused : mg "_law_refused" = some (.ref (He.ga K "_law_refused"))
  glo_law : mg "law" = some (.ref (He.ga K "law"))
  cls_Wrong : Cls K (He.ga K "Wrong")
  g_BadFormula : mg "BadFormula" = some (.ref (He.ga K "BadFormula"))
  g_BadRoad : mg "BadRoad" = some (.ref (He.ga K "BadRoad"))
  g_NotRight : mg "NotRight" = some (.ref (He.ga K "NotRight"))
  g_Right : mg "Right" = some (.ref (He.ga K "Right"))
  g_SlipError : mg "SlipError" = some (.ref (He.ga K "SlipError"))
  g_Wrong : mg "Wrong" = some (.ref (He.ga K "Wrong"))
/-! NotRight.__init__ -/
abbrev st_NotRight___init__ : Stmt := inClass (top 10) 0
def d_NotRight___init__ : He.DefD := ⟨("NotRight", some "__init__"), "__init__", "NotRight.__init__", defArgs st_NotRight___init__, defBody st_NotRight___init__, defScope st_NotRight___init__, [], []⟩
theorem ok_NotRight___init__ {P : Program} {w : World} {K : PySem.W.Frag} {mg : Str → Option Value} {base : Heap} (T : Tx K mg) (F : DefAt K d_NotRight___init__) : ErrI K "step" (He.ma K (He.ga K "NotRight") "__init__") := by
  obtain ⟨fd, F⟩ := F.of
  exact errI_of F rfl (fun _ _ _ _ _ _ _ _ => rfl) (fun _ _ => rfl) (fun _ _ _ _ => rfl) (fun _ _ _ _ => rfl) (fun _ _ => rfl) (fun _ _ => rfl) (by decide) rfl rfl rfl
/-! Wrong.__init__ -/
abbrev st_Wrong___init__ : Stmt := inClass (top 30) 0
def d_Wrong___init__ : He.DefD := ⟨("Wrong", some "__init__"), "__init__", "Wrong.__init__", defArgs st_Wrong___init__, defBody st_Wrong___init__, defScope st_Wrong___init__, [], []⟩
abbrev N_Wrong___init__ : List Str := ["self", "step", "signs"]
def g_Wrong___init__ : SN := (nSeq (sFset "step" (eVar 1)) (sFset "signs" (eB dList (aCons (eVar 2) aNil))))
def i_Wrong : List D → R FD := initD 3 g_Wrong___init__
theorem sc_Wrong___init__ : FnScope N_Wrong___init__ ["self", "step", "signs"] (defScope st_Wrong___init__) := ⟨rfl, rfl, rfl, by decide +kernel, rfl, by decide +kernel, by decide +kernel⟩
theorem ok_Wrong___init__ {P : Program} {w : World} {K : PySem.W.Frag} {mg : Str → Option Value} {base : Heap} (T : Tx K mg) (F : DefAt K d_Wrong___init__) : MakeC P w K mg base "Wrong" 1 2 i_Wrong := by
  obtain ⟨fd, F⟩ := F.of
  refine make_tw F T.mk_Wrong T.g_Wrong (sc_Wrong___init__) (fun _ _ _ _ _ _ us hl => match us, hl with | [_, _, _], _ => rfl) fun cdv A outer s H E hr => ?_
  have nd : (N_Wrong___init__).Nodup := (sc_Wrong___init__).nd
  exact (lns_cons (ln_fset (T.f_step.one (by decide)) (pv 0) (le_var 1 (pv 1))) (lns_one (ln_fset (T.f_signs.one (by decide)) (pv 0) (le_callTy (call_listAll rfl) lift_list rfl T.n_list (by decide +kernel) (la_cons (le_var 2 (pv 2)) la_nil)))))
/-! opposites -/
abbrev st_opposites : Stmt := top 2
def d_opposites : He.DefD := ⟨("opposites", none), "opposites", "opposites", defArgs st_opposites, defBody st_opposites, defScope st_opposites, [], []⟩
abbrev N_opposites : List Str := ["row", "sign"]
def g_opposites : SS := (sRet (eComp [1] (.nm 1) (iSeq (eVar 0)) tTrue (e1 dNeg (eVar 1))))
def m_opposites : List D → R D := runD 2 g_opposites
theorem sc_opposites : FnScope N_opposites ["row"] (defScope st_opposites) := ⟨rfl, rfl, rfl, by decide +kernel, rfl, by decide +kernel, by decide +kernel⟩
theorem ok_opposites {P : Program} {w : World} {K : PySem.W.Frag} {mg : Str → Option Value} {base : Heap} (T : Tx K mg) (F : DefAt K d_opposites) : Callee P w K mg base "opposites" 1 1 m_opposites := by
  obtain ⟨fd, F⟩ := F.of
  refine callee_tw F T.glo_opposites (sc_opposites) (fun _ _ _ _ _ _ us hl => match us, hl with | [_], _ => rfl) fun cdv A outer s H E hr hx => ?_
  have nd : (N_opposites).Nodup := (sc_opposites).nd
  exact (lss_one (ls_ret (le_lc (own := [("sign", 1)]) rfl nd (li_seq (le_var 0 (pv 0))) (blkOk_by (N := N_opposites) (sc := (defScope st_opposites)) (by decide +kernel)) (fun _ _ _ _ _ => (lg_name (pg_name (i := 1) nd rfl (Or.inl rfl)))) (fun _ _ _ _ _ => lt_nil) (fun _ _ _ _ _ => (le_un un_neg lift_neg (le_var 1 (pv 1)))))))
/-! forced -/
abbrev st_forced : Stmt := top 3
def d_forced : He.DefD := ⟨("forced", none), "forced", "forced", defArgs st_forced, defBody st_forced, defScope st_forced, [], []⟩
abbrev N_forced : List Str := ["there", "start", "marks", "moved", "number", "row", "left", "sign"]
def g_forced : SS := (sSeq (sPar2 2 3 true false (eDc [7] (.nm 7) (iSeq (eVar 1)) tTrue (eVar 7) (eC .non)) (eC (.bl true))) (sSeq (whileD (tV (eVar 3)) (sSeq (sSet 3 (eC (.bl false))) (sFor (.tp [(.nm 4), (.nm 5)]) (iSeq (eVar 0)) (sSeq (sSetL 6 (eComp [7] (.nm 7) (iSeq (eVar 5)) (tV (e2 (dInS true) (e1 dNeg (eVar 7)) (eVar 2))) (eVar 7))) (sSeq (sIf (tV (e2 dEq (eVar 6) (eLst aNil))) (sRet (eTup (aCons (eVar 2) (aCons (eVar 4) aNil)))) sNil) (sIf (tAn (tV (e2 dEq (eB dLen (aCons (eVar 6) aNil)) (eC (.int 1)))) (tV (e2 (dInS true) (e2 dGet (eVar 6) (eC (.int 0))) (eVar 2)))) (sSeq (sPut 2 (e2 dGet (eVar 6) (eC (.int 0))) (eVar 4)) (sSet 3 (eC (.bl true)))) sNil))))) 1000) (sRet (eTup (aCons (eVar 2) (aCons (eC .non) aNil))))))
def m_forced : List D → R D := runD 8 g_forced
theorem sc_forced : FnScope N_forced ["there", "start"] (defScope st_forced) := ⟨rfl, rfl, rfl, by decide +kernel, rfl, by decide +kernel, by decide +kernel⟩
theorem ok_forced {P : Program} {w : World} {K : PySem.W.Frag} {mg : Str → Option Value} {base : Heap} (T : Tx K mg) (F : DefAt K d_forced) : Callee P w K mg base "forced" 1 2 m_forced := by
  obtain ⟨fd, F⟩ := F.of
  refine callee_tw F T.glo_forced (sc_forced) (fun _ _ _ _ _ _ us hl => match us, hl with | [_, _], _ => rfl) fun cdv A outer s H E hr hx => ?_
  have nd : (N_forced).Nodup := (sc_forced).nd
  exact (lss_cons (ls_parC2 (m := true) (n := false) rfl (pg_name (i := 2) nd rfl (Or.inr rfl)) (pg_name (i := 3) nd rfl (Or.inl rfl)) (tm_t (lf_dc (own := [("sign", 7)]) rfl nd (li_seq (le_var 1 (pv 1))) (blkOk_by (N := N_forced) (sc := (defScope st_forced)) (by decide +kernel)) (fun _ _ _ _ _ => (lg_name (pg_name (i := 7) nd rfl (Or.inl rfl)))) (fun _ _ _ _ _ => lt_nil) (fun _ _ _ _ _ => (le_var 7 (pv 7))) (fun _ _ _ _ _ => le_non))) (tm_f le_bl))
    (lss_cons (ls_while 1000 (passes_of rfl) (lt_val (le_var 3 (pv 3))) (lss_cons (ls_set nd rfl (Or.inl rfl) le_bl)
    (lss_one (ls_for (passes_of rfl) rfl (li_seq (le_var 0 (pv 0))) (lg_tup rfl (lg_cons (lg_name (pg_name (i := 4) nd rfl (Or.inl rfl))) (lg_cons (lg_name (pg_name (i := 5) nd rfl (Or.inl rfl))) lg_nil))) (lss_cons (ls_setL (i := 6) (own := [("sign", 7)]) rfl nd rfl rfl (sw_true rfl rfl rfl (by decide +kernel)) (li_seq (le_var 5 (pv 5))) (blkOk_by (N := N_forced) (sc := (defScope st_forced)) (by decide +kernel)) (fun _ _ _ _ _ => (lg_name (pg_name (i := 7) nd rfl (Or.inl rfl)))) (fun _ _ _ _ _ => (lt_one (lt_cmp (op_notInAll (hu65 hr)) lift_notIn (le_un un_neg lift_neg (le_var 7 (pv 7))) (le_var 2 (pv 2)) rfl))) (fun _ _ _ _ _ => (le_var 7 (pv 7))))
    (lss_cons (ls_if (lt_cmp (op_eqD (hu64 hr)) lift_eq (le_var 6 (pv 6)) (le_lst la_nil) (nomark _)) (lss_one (ls_ret (le_tup (la_cons (le_var 2 (pv 2)) (la_cons (le_var 4 (pv 4)) la_nil))))) lss_nil)
    (lss_one (ls_if (PW.pt (lw_and (lt_cmp (op_eqD (hu64 hr)) lift_eq (le_callB call_lenAll lift_len rfl T.n_len (by decide +kernel) (la_cons (le_var 6 (pv 6)) la_nil)) le_int (nomark _)) (lw_and1 (lt_cmp (op_notInAll (hu65 hr)) lift_notIn (le_sub (hu_of hr) (le_var 6 (pv 6)) le_int (fun _ _ => rfl)) (le_var 2 (pv 2)) rfl)))) (lss_cons (ls_put (hu_of hr) (pv 2) (le_sub (hu_of hr) (le_var 6 (pv 6)) le_int (fun _ _ => rfl)) (le_var 4 (pv 4)))
    (lss_one (ls_set nd rfl (Or.inl rfl) le_bl))) lss_nil))))))))
    (lss_one (ls_ret (le_tup (la_cons (le_var 2 (pv 2)) (la_cons le_non la_nil)))))))
/-! is_whole -/
abbrev st_is_whole : Stmt := top 15
def d_is_whole : He.DefD := ⟨("is_whole", none), "is_whole", "is_whole", defArgs st_is_whole, defBody st_is_whole, defScope st_is_whole, [], []⟩
abbrev N_is_whole : List Str := ["thing"]
def g_is_whole : SS := (sRet (eAn (e1 (dIsT tbC "int") (eVar 0)) (eNo (e1 (dIsT tbC "bool") (eVar 0)))))
def m_is_whole : List D → R D := runD 1 g_is_whole
theorem sc_is_whole : FnScope N_is_whole ["thing"] (defScope st_is_whole) := ⟨rfl, rfl, rfl, by decide +kernel, rfl, by decide +kernel, by decide +kernel⟩
theorem ok_is_whole {P : Program} {w : World} {K : PySem.W.Frag} {mg : Str → Option Value} {base : Heap} (T : Tx K mg) (F : DefAt K d_is_whole) : Callee P w K mg base "is_whole" 1 1 m_is_whole := by
  obtain ⟨fd, F⟩ := F.of
  refine callee_tw F T.glo_is_whole (sc_is_whole) (fun _ _ _ _ _ _ us hl => match us, hl with | [_], _ => rfl) fun cdv A outer s H E hr hx => ?_
  have nd : (N_is_whole).Nodup := (sc_is_whole).nd
  exact (lss_one (ls_ret (le_and (le_isT (by decide +kernel) T.kt (by decide +kernel) (by decide) T.n_isinstance T.n_int (le_var 0 (pv 0))) (le_one (le_not (le_isT (by decide +kernel) T.kt (by decide +kernel) (by decide) T.n_isinstance T.n_bool (le_var 0 (pv 0))))))))
/-! is_list -/
abbrev st_is_list : Stmt := top 17
def d_is_list : He.DefD := ⟨("is_list", none), "is_list", "is_list", defArgs st_is_list, defBody st_is_list, defScope st_is_list, [], []⟩
abbrev N_is_list : List Str := ["thing"]
def g_is_list : SS := (sRet (eOr (e1 (dIsT tbC "list") (eVar 0)) (e1 (dIsT tbC "tuple") (eVar 0))))
def m_is_list : List D → R D := runD 1 g_is_list
theorem sc_is_list : FnScope N_is_list ["thing"] (defScope st_is_list) := ⟨rfl, rfl, rfl, by decide +kernel, rfl, by decide +kernel, by decide +kernel⟩
theorem ok_is_list {P : Program} {w : World} {K : PySem.W.Frag} {mg : Str → Option Value} {base : Heap} (T : Tx K mg) (F : DefAt K d_is_list) : Callee P w K mg base "is_list" 1 1 m_is_list := by
  obtain ⟨fd, F⟩ := F.of
  refine callee_tw F T.glo_is_list (sc_is_list) (fun _ _ _ _ _ _ us hl => match us, hl with | [_], _ => rfl) fun cdv A outer s H E hr hx => ?_
  have nd : (N_is_list).Nodup := (sc_is_list).nd
  exact (lss_one (ls_ret (le_orV (le_isT (by decide +kernel) T.kt (by decide +kernel) (by decide) T.n_isinstance T.n_list (le_var 0 (pv 0))) (le_one (le_isT (by decide +kernel) T.kt (by decide +kernel) (by decide) T.n_isinstance T.n_tuple (le_var 0 (pv 0)))))))
/-! row_of -/
abbrev st_row_of : Stmt := top 19
def d_row_of : He.DefD := ⟨("row_of", none), "row_of", "row_of", defArgs st_row_of, defBody st_row_of, defScope st_row_of, [], []⟩
abbrev N_row_of : List Str := ["signs"]
def g_row_of : SS := (sRet (eB dTuple (aCons (eB dSortAbs (aCons (eB dList (aCons (eVar 0) aNil)) aNil)) aNil)))
def m_row_of : List D → R D := runD 1 g_row_of
theorem sc_row_of : FnScope N_row_of ["signs"] (defScope st_row_of) := ⟨rfl, rfl, rfl, by decide +kernel, rfl, by decide +kernel, by decide +kernel⟩
theorem ok_row_of {P : Program} {w : World} {K : PySem.W.Frag} {mg : Str → Option Value} {base : Heap} (T : Tx K mg) (F : DefAt K d_row_of) : Callee P w K mg base "row_of" 1 1 m_row_of := by
  obtain ⟨fd, F⟩ := F.of
  refine callee_tw F T.glo_row_of (sc_row_of) (fun _ _ _ _ _ _ us hl => match us, hl with | [_], _ => rfl) fun cdv A outer s H E hr hx => ?_
  have nd : (N_row_of).Nodup := (sc_row_of).nd
  exact (lss_one (ls_ret (le_callTy call_tuple_of lift_tuple rfl T.n_tuple (by decide +kernel) (la_cons (le_sortAbs rfl T.n_sorted T.n_abs (la_cons (le_callTy (call_listAll rfl) lift_list rfl T.n_list (by decide +kernel) (la_cons (le_var 0 (pv 0)) la_nil)) la_nil)) la_nil))))
/-! last_with -/
abbrev st_last_with : Stmt := top 24
def d_last_with : He.DefD := ⟨("last_with", none), "last_with", "last_with", defArgs st_last_with, defBody st_last_with, defScope st_last_with, [], []⟩
abbrev N_last_with : List Str := ["there", "row", "numbers", "number", "other"]
def g_last_with : SS := (sSeq (sSet 2 (eComp [3, 4] (.tp [(.nm 3), (.nm 4)]) (iSeq (eVar 0)) (tV (e2 dEq (eVar 4) (eVar 1))) (eVar 3))) (sRet (eIf (tV (e2 dNe (eVar 2) (eLst aNil))) (e2 dGet (eVar 2) (e1 dNeg (eC (.int 1)))) (eC .non))))
def m_last_with : List D → R D := runD 5 g_last_with
theorem sc_last_with : FnScope N_last_with ["there", "row"] (defScope st_last_with) := ⟨rfl, rfl, rfl, by decide +kernel, rfl, by decide +kernel, by decide +kernel⟩
theorem ok_last_with {P : Program} {w : World} {K : PySem.W.Frag} {mg : Str → Option Value} {base : Heap} (T : Tx K mg) (F : DefAt K d_last_with) : Callee P w K mg base "last_with" 1 2 m_last_with := by
  obtain ⟨fd, F⟩ := F.of
  refine callee_tw F T.glo_last_with (sc_last_with) (fun _ _ _ _ _ _ us hl => match us, hl with | [_, _], _ => rfl) fun cdv A outer s H E hr hx => ?_
  have nd : (N_last_with).Nodup := (sc_last_with).nd
  exact (lss_cons (ls_setLc (i := 2) (own := [("number", 3), ("other", 4)]) rfl nd rfl rfl (sw_true rfl rfl rfl (by decide +kernel)) (li_seq (le_var 0 (pv 0))) (blkOk_by (N := N_last_with) (sc := (defScope st_last_with)) (by decide +kernel)) (fun _ _ _ _ _ => (lg_tup rfl (lg_cons (lg_name (pg_name (i := 3) nd rfl (Or.inl rfl))) (lg_cons (lg_name (pg_name (i := 4) nd rfl (Or.inl rfl))) lg_nil)))) (fun _ _ _ _ _ => (lt_one (lt_cmp (op_eqD (hu64 hr)) lift_eq (le_var 4 (pv 4)) (le_var 1 (pv 1)) (nomark _)))) (fun _ _ _ _ _ => (le_var 3 (pv 3))))
    (lss_one (ls_ret (le_if (lt_cmp (op_neD (hu64 hr)) lift_ne (le_var 2 (pv 2)) (le_lst la_nil) (nomark _)) (le_sub (hu_of hr) (le_var 2 (pv 2)) (le_un un_neg lift_neg le_int) (fun _ _ => rfl)) le_non))))
/-! without -/
abbrev st_without : Stmt := top 25
def d_without : He.DefD := ⟨("without", none), "without", "without", defArgs st_without, defBody st_without, defScope st_without, [], []⟩
abbrev N_without : List Str := ["there", "number", "pair"]
def g_without : SS := (sRet (eComp [2] (.nm 2) (iSeq (eVar 0)) (tV (e2 dNe (e2 dGet (eVar 2) (eC (.int 0))) (eVar 1))) (eVar 2)))
def m_without : List D → R D := runD 3 g_without
theorem sc_without : FnScope N_without ["there", "number"] (defScope st_without) := ⟨rfl, rfl, rfl, by decide +kernel, rfl, by decide +kernel, by decide +kernel⟩
theorem ok_without {P : Program} {w : World} {K : PySem.W.Frag} {mg : Str → Option Value} {base : Heap} (T : Tx K mg) (F : DefAt K d_without) : Callee P w K mg base "without" 1 2 m_without := by
  obtain ⟨fd, F⟩ := F.of
  refine callee_tw F T.glo_without (sc_without) (fun _ _ _ _ _ _ us hl => match us, hl with | [_, _], _ => rfl) fun cdv A outer s H E hr hx => ?_
  have nd : (N_without).Nodup := (sc_without).nd
  exact (lss_one (ls_ret (le_lc (own := [("pair", 2)]) rfl nd (li_seq (le_var 0 (pv 0))) (blkOk_by (N := N_without) (sc := (defScope st_without)) (by decide +kernel)) (fun _ _ _ _ _ => (lg_name (pg_name (i := 2) nd rfl (Or.inl rfl)))) (fun _ _ _ _ _ => (lt_one (lt_cmp (op_neD (hu64 hr)) lift_ne (le_sub (hu_of hr) (le_var 2 (pv 2)) le_int (fun _ _ => rfl)) (le_var 1 (pv 1)) (nomark _)))) (fun _ _ _ _ _ => (le_var 2 (pv 2))))))
/-! _law_number -/
abbrev st__law_number : Stmt := top 37
def d__law_number : He.DefD := ⟨("_law_number", none), "_law_number", "_law_number", defArgs st__law_number, defBody st__law_number, defScope st__law_number, [], []⟩
abbrev N__law_number : List Str := ["_law_cell", "_law_at", "_law_whole", "_law_low", "_law_high", "_law_mixed"]
def g__law_number : SS := (sSeq (sPar2 3 4 false false (e2 dMod (eVar 0) (eC (.int 1000003))) (e2 dMod (e2 dFdiv (eVar 0) (eC (.int 1000003))) (eC (.int 999983)))) (sSeq (sSet 5 (e2 dMod (e2 dAdd (e2 dAdd (e2 dMul (e2 dAdd (eVar 3) (e2 dMul (eC (.int 977)) (eVar 1))) (eC (.int 48271))) (e2 dMul (eC (.int 31)) (eVar 4))) (e2 dMod (eVar 2) (eC (.int 65521)))) (eC (.int 2147483647)))) (sRet (e2 dAdd (e2 dMul (e2 dMod (e2 dMul (eVar 5) (e2 dAdd (e2 dAdd (eVar 5) (e2 dMul (eC (.int 31)) (eVar 1))) (eC (.int 7)))) (eC (.int 2147483629))) (eC (.int 65537))) (eVar 4)))))
def m__law_number : List D → R D := runD 6 g__law_number
theorem sc__law_number : FnScope N__law_number ["_law_cell", "_law_at", "_law_whole"] (defScope st__law_number) := ⟨rfl, rfl, rfl, by decide +kernel, rfl, by decide +kernel, by decide +kernel⟩
theorem ok__law_number {P : Program} {w : World} {K : PySem.W.Frag} {mg : Str → Option Value} {base : Heap} (T : Tx K mg) (F : DefAt K d__law_number) : Callee P w K mg base "_law_number" 1 3 m__law_number := by
  obtain ⟨fd, F⟩ := F.of
  refine callee_tw F T.glo__law_number (sc__law_number) (fun _ _ _ _ _ _ us hl => match us, hl with | [_, _, _], _ => rfl) fun cdv A outer s H E hr hx => ?_
  have nd : (N__law_number).Nodup := (sc__law_number).nd
  exact (lss_cons (ls_par2 (m := false) (n := false) rfl nd rfl rfl (by decide) rfl rfl (tm_f (le_op op_modN lift_mod (le_var 0 (pv 0)) le_int)) (tm_f (le_op op_modN lift_mod (le_op op_fdivN lift_fdiv (le_var 0 (pv 0)) le_int) le_int)) rfl)
    (lss_cons (ls_set nd rfl (Or.inl rfl) (le_op op_modN lift_mod (le_op op_addAll lift_add (le_op op_addAll lift_add (le_op op_mulAll lift_mul (le_op op_addAll lift_add (le_var 3 (pv 3)) (le_op op_mulAll lift_mul le_int (le_var 1 (pv 1)))) le_int) (le_op op_mulAll lift_mul le_int (le_var 4 (pv 4)))) (le_op op_modN lift_mod (le_var 2 (pv 2)) le_int)) le_int))
    (lss_one (ls_ret (le_op op_addAll lift_add (le_op op_mulAll lift_mul (le_op op_modN lift_mod (le_op op_mulAll lift_mul (le_var 5 (pv 5)) (le_op op_addAll lift_add (le_op op_addAll lift_add (le_var 5 (pv 5)) (le_op op_mulAll lift_mul le_int (le_var 1 (pv 1)))) le_int)) le_int) le_int) (le_var 4 (pv 4)))))))
/-! _law_row -/
abbrev st__law_row : Stmt := top 38
def d__law_row : He.DefD := ⟨("_law_row", none), "_law_row", "_law_row", defArgs st__law_row, defBody st__law_row, defScope st__law_row, [], []⟩
abbrev N__law_row : List Str := ["_law_number_here", "_law_marks", "_law_most", "_law_signs", "_law_found", "_law_turn", "_law_far", "_law_sign", "_law_mark"]
def g__law_row : SS := (sSeq (sPar2 3 4 true true (eComp [8] (.nm 8) (iRg dRng1 (aCons (eVar 1) aNil)) tTrue (e2 dAdd (eVar 8) (eC (.int 1)))) (eLst aNil)) (sSeq (sFor (.nm 5) (iRg dRng1 (aCons (e2 dMod (eVar 0) (e2 dAdd (eB dMin (aCons (eVar 2) (aCons (eVar 1) aNil))) (eC (.int 1)))) aNil)) (sSeq (sSet 6 (e2 dFdiv (e2 dFdiv (eVar 0) (eC (.int 7))) (e2 dAdd (eC (.int 11)) (e2 dMul (eC (.int 2)) (eVar 5))))) (sSeq (sPopAt 3 (.nm 7) (e2 dMod (eVar 6) (eB dLen (aCons (eVar 3) aNil)))) (sApp 4 (eIf (tV (e2 dEq (e2 dMod (e2 dFdiv (eVar 6) (eC (.int 6))) (eC (.int 2))) (eC (.int 0)))) (eVar 7) (e1 dNeg (eVar 7))))))) (sRet (eVar 4))))
def m__law_row : List D → R D := runD 9 g__law_row
theorem sc__law_row : FnScope N__law_row ["_law_number_here", "_law_marks", "_law_most"] (defScope st__law_row) := ⟨rfl, rfl, rfl, by decide +kernel, rfl, by decide +kernel, by decide +kernel⟩
theorem ok__law_row {P : Program} {w : World} {K : PySem.W.Frag} {mg : Str → Option Value} {base : Heap} (T : Tx K mg) (F : DefAt K d__law_row) : Callee P w K mg base "_law_row" 1 3 m__law_row := by
  obtain ⟨fd, F⟩ := F.of
  refine callee_tw F T.glo__law_row (sc__law_row) (fun _ _ _ _ _ _ us hl => match us, hl with | [_, _, _], _ => rfl) fun cdv A outer s H E hr hx => ?_
  have nd : (N__law_row).Nodup := (sc__law_row).nd
  exact (lss_cons (ls_par2 (m := true) (n := true) rfl nd rfl rfl (by decide) rfl rfl (tm_t (lf_lc (own := [("_law_mark", 8)]) rfl nd (li_range1 rfl T.n_range (la_cons (le_var 1 (pv 1)) la_nil)) (blkOk_by (N := N__law_row) (sc := (defScope st__law_row)) (by decide +kernel)) (fun _ _ _ _ _ => (lg_name (pg_name (i := 8) nd rfl (Or.inl rfl)))) (fun _ _ _ _ _ => lt_nil) (fun _ _ _ _ _ => (le_op op_addAll lift_add (le_var 8 (pv 8)) le_int)))) (tm_t (lf_lst la_nil)) rfl)
    (lss_cons (ls_for (passes_of rfl) rfl (li_range1 rfl T.n_range (la_cons (le_op op_modN lift_mod (le_var 0 (pv 0)) (le_op op_addAll lift_add (le_callB (call_min2 rfl) lift_min rfl T.n_min (by decide +kernel) (la_cons (le_var 2 (pv 2)) (la_cons (le_var 1 (pv 1)) la_nil))) le_int)) la_nil)) (lg_name (pg_name (i := 5) nd rfl (Or.inl rfl))) (lss_cons (ls_set nd rfl (Or.inl rfl) (le_op op_fdivN lift_fdiv (le_op op_fdivN lift_fdiv (le_var 0 (pv 0)) le_int) (le_op op_addAll lift_add le_int (le_op op_mulAll lift_mul le_int (le_var 5 (pv 5))))))
    (lss_cons (ls_popAt (pv 3) (le_op op_modN lift_mod (le_var 6 (pv 6)) (le_callB call_lenAll lift_len rfl T.n_len (by decide +kernel) (la_cons (le_var 3 (pv 3)) la_nil))) (lg_name (pg_name (i := 7) nd rfl (Or.inl rfl))))
    (lss_one (ls_app (pv 4) (le_if (lt_cmp (op_eqD (hu64 hr)) lift_eq (le_op op_modN lift_mod (le_op op_fdivN lift_fdiv (le_var 6 (pv 6)) le_int) le_int) le_int (nomark _)) (le_var 7 (pv 7)) (le_un un_neg lift_neg (le_var 7 (pv 7)))))))))
    (lss_one (ls_ret (le_var 4 (pv 4))))))
/-! _law_told -/
abbrev st__law_told : Stmt := top 40
def d__law_told : He.DefD := ⟨("_law_told", none), "_law_told", "_law_told", defArgs st__law_told, defBody st__law_told, defScope st__law_told, [], []⟩
abbrev N__law_told : List Str := ["_law_row_here"]
def g__law_told : SS := (sRet (eB dTuple (aCons (eB dSortAbs (aCons (eB dList (aCons (eVar 0) aNil)) aNil)) aNil)))
def m__law_told : List D → R D := runD 1 g__law_told
theorem sc__law_told : FnScope N__law_told ["_law_row_here"] (defScope st__law_told) := ⟨rfl, rfl, rfl, by decide +kernel, rfl, by decide +kernel, by decide +kernel⟩
theorem ok__law_told {P : Program} {w : World} {K : PySem.W.Frag} {mg : Str → Option Value} {base : Heap} (T : Tx K mg) (F : DefAt K d__law_told) : Callee P w K mg base "_law_told" 1 1 m__law_told := by
  obtain ⟨fd, F⟩ := F.of
  refine callee_tw F T.glo__law_told (sc__law_told) (fun _ _ _ _ _ _ us hl => match us, hl with | [_], _ => rfl) fun cdv A outer s H E hr hx => ?_
  have nd : (N__law_told).Nodup := (sc__law_told).nd
  exact (lss_one (ls_ret (le_callTy call_tuple_of lift_tuple rfl T.n_tuple (by decide +kernel) (la_cons (le_sortAbs rfl T.n_sorted T.n_abs (la_cons (le_callTy (call_listAll rfl) lift_list rfl T.n_list (by decide +kernel) (la_cons (le_var 0 (pv 0)) la_nil)) la_nil)) la_nil))))
/-! _law_forced -/
abbrev st__law_forced : Stmt := top 41
def d__law_forced : He.DefD := ⟨("_law_forced", none), "_law_forced", "_law_forced", defArgs st__law_forced, defBody st__law_forced, defScope st__law_forced, [], []⟩
abbrev N__law_forced : List Str := ["_law_there", "_law_start", "_law_marks", "_law_moved", "_law_number_here", "_law_row_here", "_law_left", "_law_sign"]
def g__law_forced : SS := (sSeq (sPar2 2 3 true false (eB dList (aCons (eVar 1) aNil)) (eC (.bl true))) (sSeq (whileD (tV (eVar 3)) (sSeq (sSet 3 (eC (.bl false))) (sFor (.tp [(.nm 4), (.nm 5)]) (iSeq (eVar 0)) (sSeq (sSetL 6 (eComp [7] (.nm 7) (iSeq (eVar 5)) (tV (e2 (dInS true) (e1 dNeg (eVar 7)) (eVar 2))) (eVar 7))) (sSeq (sIf (tV (e2 dEq (eVar 6) (eLst aNil))) (sRet (eTup (aCons (eVar 2) (aCons (eC (.bl true)) aNil)))) sNil) (sIf (tAn (tV (e2 dEq (eB dLen (aCons (eVar 6) aNil)) (eC (.int 1)))) (tV (e2 (dInS true) (e2 dGet (eVar 6) (eC (.int 0))) (eVar 2)))) (sSeq (sApp 2 (e2 dGet (eVar 6) (eC (.int 0)))) (sSet 3 (eC (.bl true)))) sNil))))) 1000) (sRet (eTup (aCons (eVar 2) (aCons (eC (.bl false)) aNil))))))
def m__law_forced : List D → R D := runD 8 g__law_forced
theorem sc__law_forced : FnScope N__law_forced ["_law_there", "_law_start"] (defScope st__law_forced) := ⟨rfl, rfl, rfl, by decide +kernel, rfl, by decide +kernel, by decide +kernel⟩
theorem ok__law_forced {P : Program} {w : World} {K : PySem.W.Frag} {mg : Str → Option Value} {base : Heap} (T : Tx K mg) (F : DefAt K d__law_forced) : Callee P w K mg base "_law_forced" 1 2 m__law_forced := by
  obtain ⟨fd, F⟩ := F.of
  refine callee_tw F T.glo__law_forced (sc__law_forced) (fun _ _ _ _ _ _ us hl => match us, hl with | [_, _], _ => rfl) fun cdv A outer s H E hr hx => ?_
  have nd : (N__law_forced).Nodup := (sc__law_forced).nd
  exact (lss_cons (ls_parC2 (m := true) (n := false) rfl (pg_name (i := 2) nd rfl (Or.inr rfl)) (pg_name (i := 3) nd rfl (Or.inl rfl)) (tm_t (lf_list rfl rfl T.n_list (by decide +kernel) (la_cons (le_var 1 (pv 1)) la_nil))) (tm_f le_bl))
    (lss_cons (ls_while 1000 (passes_of rfl) (lt_val (le_var 3 (pv 3))) (lss_cons (ls_set nd rfl (Or.inl rfl) le_bl)
    (lss_one (ls_for (passes_of rfl) rfl (li_seq (le_var 0 (pv 0))) (lg_tup rfl (lg_cons (lg_name (pg_name (i := 4) nd rfl (Or.inl rfl))) (lg_cons (lg_name (pg_name (i := 5) nd rfl (Or.inl rfl))) lg_nil))) (lss_cons (ls_setL (i := 6) (own := [("_law_sign", 7)]) rfl nd rfl rfl (sw_true rfl rfl rfl (by decide +kernel)) (li_seq (le_var 5 (pv 5))) (blkOk_by (N := N__law_forced) (sc := (defScope st__law_forced)) (by decide +kernel)) (fun _ _ _ _ _ => (lg_name (pg_name (i := 7) nd rfl (Or.inl rfl)))) (fun _ _ _ _ _ => (lt_one (lt_cmp (op_notInAll (hu65 hr)) lift_notIn (le_un un_neg lift_neg (le_var 7 (pv 7))) (le_var 2 (pv 2)) rfl))) (fun _ _ _ _ _ => (le_var 7 (pv 7))))
    (lss_cons (ls_if (lt_cmp (op_eqD (hu64 hr)) lift_eq (le_var 6 (pv 6)) (le_lst la_nil) (nomark _)) (lss_one (ls_ret (le_tup (la_cons (le_var 2 (pv 2)) (la_cons le_bl la_nil))))) lss_nil)
    (lss_one (ls_if (PW.pt (lw_and (lt_cmp (op_eqD (hu64 hr)) lift_eq (le_callB call_lenAll lift_len rfl T.n_len (by decide +kernel) (la_cons (le_var 6 (pv 6)) la_nil)) le_int (nomark _)) (lw_and1 (lt_cmp (op_notInAll (hu65 hr)) lift_notIn (le_sub (hu_of hr) (le_var 6 (pv 6)) le_int (fun _ _ => rfl)) (le_var 2 (pv 2)) rfl)))) (lss_cons (ls_app (pv 2) (le_sub (hu_of hr) (le_var 6 (pv 6)) le_int (fun _ _ => rfl)))
    (lss_one (ls_set nd rfl (Or.inl rfl) le_bl))) lss_nil))))))))
    (lss_one (ls_ret (le_tup (la_cons (le_var 2 (pv 2)) (la_cons le_bl la_nil)))))))
/-! follows -/
abbrev st_follows : Stmt := top 4
def d_follows : He.DefD := ⟨("follows", none), "follows", "follows", defArgs st_follows, defBody st_follows, defScope st_follows, [], []⟩
abbrev N_follows : List Str := ["there", "row"]
def g_follows : SS := (sRet (e2 (dIsN true) (e2 dGet (eCall m_forced (aCons (eVar 0) (aCons (eCall m_opposites (aCons (eVar 1) aNil)) aNil))) (eC (.int 1))) (eC .non)))
def m_follows : List D → R D := runD 2 g_follows
theorem sc_follows : FnScope N_follows ["there", "row"] (defScope st_follows) := ⟨rfl, rfl, rfl, by decide +kernel, rfl, by decide +kernel, by decide +kernel⟩
theorem ok_follows {P : Program} {w : World} {K : PySem.W.Frag} {mg : Str → Option Value} {base : Heap} (T : Tx K mg) (F : DefAt K d_follows) (C_forced : Callee P w K mg base "forced" 1 2 m_forced) (C_opposites : Callee P w K mg base "opposites" 1 1 m_opposites) : Callee P w K mg base "follows" 2 2 m_follows := by
  obtain ⟨fd, F⟩ := F.of
  refine callee_tw F T.glo_follows (sc_follows) (fun _ _ _ _ _ _ us hl => match us, hl with | [_, _], _ => rfl) fun cdv A outer s H E hr hx => ?_
  have nd : (N_follows).Nodup := (sc_follows).nd
  exact (lss_one (ls_ret (le_cmp op_notN lift_notN (le_sub (hu_of hr) (le_callC C_forced (hr.mono (by decide)) rfl hx (la_cons (le_var 0 (pv 0)) (la_cons (le_callC C_opposites (hr.mono (by decide)) rfl hx (la_cons (le_var 1 (pv 1)) la_nil) (alenS alen0)) la_nil)) (alenS (alenS alen0))) le_int (fun _ _ => rfl)) le_non (nomark _))))
/-! closure -/
abbrev st_closure : Stmt := top 5
def d_closure : He.DefD := ⟨("closure", none), "closure", "closure", defArgs st_closure, defBody st_closure, defScope st_closure, [], []⟩
abbrev N_closure : List Str := ["there", "row"]
def g_closure : SS := (sRet (eB dSortAbs (aCons (eB dList (aCons (e2 dGet (eCall m_forced (aCons (eVar 0) (aCons (eCall m_opposites (aCons (eVar 1) aNil)) aNil))) (eC (.int 0))) aNil)) aNil)))
def m_closure : List D → R D := runD 2 g_closure
theorem sc_closure : FnScope N_closure ["there", "row"] (defScope st_closure) := ⟨rfl, rfl, rfl, by decide +kernel, rfl, by decide +kernel, by decide +kernel⟩
theorem ok_closure {P : Program} {w : World} {K : PySem.W.Frag} {mg : Str → Option Value} {base : Heap} (T : Tx K mg) (F : DefAt K d_closure) (C_forced : Callee P w K mg base "forced" 1 2 m_forced) (C_opposites : Callee P w K mg base "opposites" 1 1 m_opposites) : Callee P w K mg base "closure" 2 2 m_closure := by
  obtain ⟨fd, F⟩ := F.of
  refine callee_tw F T.glo_closure (sc_closure) (fun _ _ _ _ _ _ us hl => match us, hl with | [_, _], _ => rfl) fun cdv A outer s H E hr hx => ?_
  have nd : (N_closure).Nodup := (sc_closure).nd
  exact (lss_one (ls_ret (le_sortAbs rfl T.n_sorted T.n_abs (la_cons (le_callTy (call_listAll rfl) lift_list rfl T.n_list (by decide +kernel) (la_cons (le_sub (hu_of hr) (le_callC C_forced (hr.mono (by decide)) rfl hx (la_cons (le_var 0 (pv 0)) (la_cons (le_callC C_opposites (hr.mono (by decide)) rfl hx (la_cons (le_var 1 (pv 1)) la_nil) (alenS alen0)) la_nil)) (alenS (alenS alen0))) le_int (fun _ _ => rfl)) la_nil)) la_nil))))
/-! is_sign -/
abbrev st_is_sign : Stmt := top 16
def d_is_sign : He.DefD := ⟨("is_sign", none), "is_sign", "is_sign", defArgs st_is_sign, defBody st_is_sign, defScope st_is_sign, [], []⟩
abbrev N_is_sign : List Str := ["thing"]
def g_is_sign : SS := (sRet (eAn (eCall m_is_whole (aCons (eVar 0) aNil)) (eCh dLe dLe (eC (.int 1)) (eB dAbs (aCons (eVar 0) aNil)) (eC (.int 6)))))
def m_is_sign : List D → R D := runD 1 g_is_sign
theorem sc_is_sign : FnScope N_is_sign ["thing"] (defScope st_is_sign) := ⟨rfl, rfl, rfl, by decide +kernel, rfl, by decide +kernel, by decide +kernel⟩
theorem ok_is_sign {P : Program} {w : World} {K : PySem.W.Frag} {mg : Str → Option Value} {base : Heap} (T : Tx K mg) (F : DefAt K d_is_sign) (C_is_whole : Callee P w K mg base "is_whole" 1 1 m_is_whole) : Callee P w K mg base "is_sign" 2 1 m_is_sign := by
  obtain ⟨fd, F⟩ := F.of
  refine callee_tw F T.glo_is_sign (sc_is_sign) (fun _ _ _ _ _ _ us hl => match us, hl with | [_], _ => rfl) fun cdv A outer s H E hr hx => ?_
  have nd : (N_is_sign).Nodup := (sc_is_sign).nd
  exact (lss_one (ls_ret (le_and (le_callC C_is_whole (hr.mono (by decide)) rfl hx (la_cons (le_var 0 (pv 0)) la_nil) (alenS alen0)) (le_one (le_ch op_le lift_le op_le lift_le le_int (le_callB call_abs lift_abs rfl T.n_abs (by decide +kernel) (la_cons (le_var 0 (pv 0)) la_nil)) (le_gint rfl T.c_MOST_MARKS))))))
/-! _law_rows -/
abbrev st__law_rows : Stmt := top 39
def d__law_rows : He.DefD := ⟨("_law_rows", none), "_law_rows", "_law_rows", defArgs st__law_rows, defBody st__law_rows, defScope st__law_rows, [], []⟩
abbrev N__law_rows : List Str := ["_law_script", "_law_by", "_law_cells", "_law_whole", "_law_lead", "_law_marks", "_law_found", "_law_at", "_law_number_here", "_law_row_here"]
def g__law_rows : SS := (sSeq (sSet 2 (eIf (tV (e2 dNe (eVar 0) (eLst aNil))) (eSl (eVar 0) oNone (oSome (eC (.int 63)))) (eLst (aCons (eC (.int 5)) aNil)))) (sSeq (sSet 3 (e2 dAdd (eB dSum (aCons (eVar 2) aNil)) (e2 dMul (eC (.int 31)) (eVar 1)))) (sSeq (sSet 4 (eCall m__law_number (aCons (e2 dGet (eVar 2) (e2 dMod (eVar 1) (eB dLen (aCons (eVar 2) aNil)))) (aCons (eVar 1) (aCons (eVar 3) aNil))))) (sSeq (sPar2 5 6 false true (e2 dAdd (eC (.int 2)) (e2 dMod (eVar 4) (eC (.int 5)))) (eLst aNil)) (sSeq (sFor (.nm 7) (iRg dRng1 (aCons (e2 dAdd (e2 dMul (eC (.int 2)) (eVar 5)) (e2 dMod (e2 dFdiv (eVar 4) (eC (.int 5))) (eC (.int 5)))) aNil)) (sSeq (sSet 8 (eCall m__law_number (aCons (e2 dAdd (e2 dGet (eVar 2) (e2 dMod (e2 dAdd (eVar 7) (eVar 1)) (eB dLen (aCons (eVar 2) aNil)))) (eVar 7)) (aCons (e2 dAdd (eVar 7) (e2 dMul (eC (.int 7)) (eVar 1))) (aCons (eVar 3) aNil))))) (sSeq (sSet 9 (eCall m__law_row (aCons (eVar 8) (aCons (eVar 5) (aCons (eIf (tV (e2 dLt (e2 dMod (e2 dFdiv (eVar 8) (eC (.int 3))) (eC (.int 4))) (eC (.int 3)))) (eC (.int 2)) (eC (.int 3))) aNil))))) (sApp 6 (eIf (tOr' (tV (e2 dNe (eVar 9) (eLst aNil))) (tV (e2 dEq (e2 dMod (eVar 8) (eC (.int 5))) (eC (.int 0))))) (eVar 9) (eLst (aCons (e2 dAdd (eC (.int 1)) (e2 dMod (e2 dFdiv (eVar 8) (eC (.int 9))) (eVar 5))) aNil))))))) (sRet (eTup (aCons (eSl (eVar 6) oNone (oSome (eC (.int 16)))) (aCons (eVar 5) aNil)))))))))
def m__law_rows : List D → R D := runD 10 g__law_rows
theorem sc__law_rows : FnScope N__law_rows ["_law_script", "_law_by"] (defScope st__law_rows) := ⟨rfl, rfl, rfl, by decide +kernel, rfl, by decide +kernel, by decide +kernel⟩
theorem ok__law_rows {P : Program} {w : World} {K : PySem.W.Frag} {mg : Str → Option Value} {base : Heap} (T : Tx K mg) (F : DefAt K d__law_rows) (C__law_number : Callee P w K mg base "_law_number" 1 3 m__law_number) (C__law_row : Callee P w K mg base "_law_row" 1 3 m__law_row) : Callee P w K mg base "_law_rows" 2 2 m__law_rows := by
  obtain ⟨fd, F⟩ := F.of
  refine callee_tw F T.glo__law_rows (sc__law_rows) (fun _ _ _ _ _ _ us hl => match us, hl with | [_, _], _ => rfl) fun cdv A outer s H E hr hx => ?_
  have nd : (N__law_rows).Nodup := (sc__law_rows).nd
  exact (lss_cons (ls_set nd rfl (Or.inl rfl) (le_if (lt_cmp (op_neD (hu64 hr)) lift_ne (le_var 0 (pv 0)) (le_lst la_nil) (nomark _)) (le_slice (le_var 0 (pv 0)) lo_none (lo_some le_int)) (le_lst (la_cons le_int la_nil))))
    (lss_cons (ls_set nd rfl (Or.inl rfl) (le_op op_addAll lift_add (le_callB (cr_sum rfl) lift_sum rfl T.n_sum (by decide +kernel) (la_cons (le_var 2 (pv 2)) la_nil)) (le_op op_mulAll lift_mul le_int (le_var 1 (pv 1)))))
    (lss_cons (ls_set nd rfl (Or.inl rfl) (le_callC C__law_number (hr.mono (by decide)) rfl hx (la_cons (le_sub (hu_of hr) (le_var 2 (pv 2)) (le_op op_modN lift_mod (le_var 1 (pv 1)) (le_callB call_lenAll lift_len rfl T.n_len (by decide +kernel) (la_cons (le_var 2 (pv 2)) la_nil))) (fun _ _ => rfl)) (la_cons (le_var 1 (pv 1)) (la_cons (le_var 3 (pv 3)) la_nil))) (alenS (alenS (alenS alen0)))))
    (lss_cons (ls_par2 (m := false) (n := true) rfl nd rfl rfl (by decide) rfl rfl (tm_f (le_op op_addAll lift_add le_int (le_op op_modN lift_mod (le_var 4 (pv 4)) le_int))) (tm_t (lf_lst la_nil)) rfl)
    (lss_cons (ls_for (passes_of rfl) rfl (li_range1 rfl T.n_range (la_cons (le_op op_addAll lift_add (le_op op_mulAll lift_mul le_int (le_var 5 (pv 5))) (le_op op_modN lift_mod (le_op op_fdivN lift_fdiv (le_var 4 (pv 4)) le_int) le_int)) la_nil)) (lg_name (pg_name (i := 7) nd rfl (Or.inl rfl))) (lss_cons (ls_set nd rfl (Or.inl rfl) (le_callC C__law_number (hr.mono (by decide)) rfl hx (la_cons (le_op op_addAll lift_add (le_sub (hu_of hr) (le_var 2 (pv 2)) (le_op op_modN lift_mod (le_op op_addAll lift_add (le_var 7 (pv 7)) (le_var 1 (pv 1))) (le_callB call_lenAll lift_len rfl T.n_len (by decide +kernel) (la_cons (le_var 2 (pv 2)) la_nil))) (fun _ _ => rfl)) (le_var 7 (pv 7))) (la_cons (le_op op_addAll lift_add (le_var 7 (pv 7)) (le_op op_mulAll lift_mul le_int (le_var 1 (pv 1)))) (la_cons (le_var 3 (pv 3)) la_nil))) (alenS (alenS (alenS alen0)))))
    (lss_cons (ls_set nd rfl (Or.inl rfl) (le_callC C__law_row (hr.mono (by decide)) rfl hx (la_cons (le_var 8 (pv 8)) (la_cons (le_var 5 (pv 5)) (la_cons (le_if (lt_cmp op_lt lift_lt (le_op op_modN lift_mod (le_op op_fdivN lift_fdiv (le_var 8 (pv 8)) le_int) le_int) le_int (nomark _)) le_int le_int) la_nil))) (alenS (alenS (alenS alen0)))))
    (lss_one (ls_app (pv 6) (le_if (PW.pt (lw_or (lt_cmp (op_neD (hu64 hr)) lift_ne (le_var 9 (pv 9)) (le_lst la_nil) (nomark _)) (lw_or1 (lt_cmp (op_eqD (hu64 hr)) lift_eq (le_op op_modN lift_mod (le_var 8 (pv 8)) le_int) le_int (nomark _))))) (le_var 9 (pv 9)) (le_lst (la_cons (le_op op_addAll lift_add le_int (le_op op_modN lift_mod (le_op op_fdivN lift_fdiv (le_var 8 (pv 8)) le_int) (le_var 5 (pv 5)))) la_nil))))))))
    (lss_one (ls_ret (le_tup (la_cons (le_slice (le_var 6 (pv 6)) lo_none (lo_some le_int)) (la_cons (le_var 5 (pv 5)) la_nil))))))))))
/-! _law_follows -/
abbrev st__law_follows : Stmt := top 42
def d__law_follows : He.DefD := ⟨("_law_follows", none), "_law_follows", "_law_follows", defArgs st__law_follows, defBody st__law_follows, defScope st__law_follows, [], []⟩
abbrev N__law_follows : List Str := ["_law_there", "_law_row_here", "_law_sign"]
def g__law_follows : SS := (sRet (e2 dGet (eCall m__law_forced (aCons (eVar 0) (aCons (eComp [2] (.nm 2) (iSeq (eVar 1)) tTrue (e1 dNeg (eVar 2))) aNil))) (eC (.int 1))))
def m__law_follows : List D → R D := runD 3 g__law_follows
theorem sc__law_follows : FnScope N__law_follows ["_law_there", "_law_row_here"] (defScope st__law_follows) := ⟨rfl, rfl, rfl, by decide +kernel, rfl, by decide +kernel, by decide +kernel⟩
theorem ok__law_follows {P : Program} {w : World} {K : PySem.W.Frag} {mg : Str → Option Value} {base : Heap} (T : Tx K mg) (F : DefAt K d__law_follows) (C__law_forced : Callee P w K mg base "_law_forced" 1 2 m__law_forced) : Callee P w K mg base "_law_follows" 2 2 m__law_follows := by
  obtain ⟨fd, F⟩ := F.of
  refine callee_tw F T.glo__law_follows (sc__law_follows) (fun _ _ _ _ _ _ us hl => match us, hl with | [_, _], _ => rfl) fun cdv A outer s H E hr hx => ?_
  have nd : (N__law_follows).Nodup := (sc__law_follows).nd
  exact (lss_one (ls_ret (le_sub (hu_of hr) (le_callC C__law_forced (hr.mono (by decide)) rfl hx (la_cons (le_var 0 (pv 0)) (la_cons (le_lc (own := [("_law_sign", 2)]) rfl nd (li_seq (le_var 1 (pv 1))) (blkOk_by (N := N__law_follows) (sc := (defScope st__law_follows)) (by decide +kernel)) (fun _ _ _ _ _ => (lg_name (pg_name (i := 2) nd rfl (Or.inl rfl)))) (fun _ _ _ _ _ => lt_nil) (fun _ _ _ _ _ => (le_un un_neg lift_neg (le_var 2 (pv 2))))) la_nil)) (alenS (alenS alen0))) le_int (fun _ _ => rfl))))
/-! _law_tree -/
abbrev st__law_tree : Stmt := top 44
def d__law_tree : He.DefD := ⟨("_law_tree", none), "_law_tree", "_law_tree", defArgs st__law_tree, defBody st__law_tree, defScope st__law_tree, [], []⟩
abbrev N__law_tree : List Str := ["_law_rows_here", "_law_marks", "_law_number_here", "_law_turn", "_law_waiting", "_law_steps", "_law_there", "_law_signs", "_law_done", "_law_marked", "_law_left", "_law_sign", "_law_at", "_law_mark"]
def g__law_tree : SS := (sSeq (sSet 3 (eComp [12] (.nm 12) (iRg dRng1 (aCons (eVar 1) aNil)) tTrue (e2 dAdd (eC (.int 1)) (e2 dMod (e2 dAdd (eVar 2) (eVar 12)) (eVar 1))))) (sSeq (sPar2 4 5 true true (eLst (aCons (eTup (aCons (eLst aNil) (aCons (eC (.bl false)) aNil))) aNil)) (eLst aNil)) (sSeq (sSet 6 (eB dLEnum (aCons (eVar 0) aNil))) (sSeq (whileD (tV (e2 dNe (eVar 4) (eLst aNil))) (sSeq (sPop 4 (.tp [(.nm 7), (.nm 8)])) (sIf (tOr' (tV (eVar 8)) (tV (e2 dGet (eCall m__law_forced (aCons (eVar 6) (aCons (eVar 7) aNil))) (eC (.int 1))))) (sApp 5 (eTup (aCons (eC (.str "row")) (aCons (e1 dRev (eComp [11] (.nm 11) (iSeq (eVar 7)) tTrue (e1 dNeg (eVar 11)))) aNil)))) (sSeq (sSet 9 (e2 dGet (eCall m__law_forced (aCons (eVar 6) (aCons (eVar 7) aNil))) (eC (.int 0)))) (sSeq (sSet 10 (eComp [13] (.nm 13) (iSeq (eVar 3)) (tAn (tV (e2 (dInS true) (eVar 13) (eVar 9))) (tV (e2 (dInS true) (e1 dNeg (eVar 13)) (eVar 9)))) (eVar 13))) (sSeq (sIf (tV (e2 dEq (eVar 10) (eLst aNil))) (sRet (eC .non)) sNil) (sSeq (sSet 11 (eIf (tV (e2 dEq (e2 dMod (e2 dFdiv (eVar 2) (eC (.int 64))) (eC (.int 2))) (eC (.int 0)))) (e2 dGet (eVar 10) (eC (.int 0))) (e1 dNeg (e2 dGet (eVar 10) (eC (.int 0)))))) (sFz [4] (sSetF 4 (e2 dCat (eVar 4) (eLst (aCons (eTup (aCons (eVar 7) (aCons (eC (.bl true)) aNil))) (aCons (eTup (aCons (e2 dAdd (eVar 7) (eLst (aCons (e1 dNeg (eVar 11)) aNil))) (aCons (eC (.bl false)) aNil))) (aCons (eTup (aCons (e2 dAdd (eVar 7) (eLst (aCons (eVar 11) aNil))) (aCons (eC (.bl false)) aNil))) aNil))))))))))))) 1000) (sRet (eVar 5))))))
def m__law_tree : List D → R D := runD 14 g__law_tree
theorem sc__law_tree : FnScope N__law_tree ["_law_rows_here", "_law_marks", "_law_number_here"] (defScope st__law_tree) := ⟨rfl, rfl, rfl, by decide +kernel, rfl, by decide +kernel, by decide +kernel⟩
theorem ok__law_tree {P : Program} {w : World} {K : PySem.W.Frag} {mg : Str → Option Value} {base : Heap} (T : Tx K mg) (F : DefAt K d__law_tree) (C__law_forced : Callee P w K mg base "_law_forced" 1 2 m__law_forced) : Callee P w K mg base "_law_tree" 2 3 m__law_tree := by
  obtain ⟨fd, F⟩ := F.of
  refine callee_tw F T.glo__law_tree (sc__law_tree) (fun _ _ _ _ _ _ us hl => match us, hl with | [_, _, _], _ => rfl) fun cdv A outer s H E hr hx => ?_
  have nd : (N__law_tree).Nodup := (sc__law_tree).nd
  exact (lss_cons (ls_setLc (i := 3) (own := [("_law_at", 12)]) rfl nd rfl rfl (sw_true rfl rfl rfl (by decide +kernel)) (li_range1 rfl T.n_range (la_cons (le_var 1 (pv 1)) la_nil)) (blkOk_by (N := N__law_tree) (sc := (defScope st__law_tree)) (by decide +kernel)) (fun _ _ _ _ _ => (lg_name (pg_name (i := 12) nd rfl (Or.inl rfl)))) (fun _ _ _ _ _ => lt_nil) (fun _ _ _ _ _ => (le_op op_addAll lift_add le_int (le_op op_modN lift_mod (le_op op_addAll lift_add (le_var 2 (pv 2)) (le_var 12 (pv 12))) (le_var 1 (pv 1))))))
    (lss_cons (ls_par2 (m := true) (n := true) rfl nd rfl rfl (by decide) rfl rfl (tm_t (lf_lst (la_cons (le_tup (la_cons (le_lst la_nil) (la_cons le_bl la_nil))) la_nil))) (tm_t (lf_lst la_nil)) rfl)
    (lss_cons (ls_set nd rfl (Or.inl rfl) (le_lenum rfl T.n_list T.n_enumerate (la_cons (le_var 0 (pv 0)) la_nil)))
    (lss_cons (ls_while 1000 (passes_of rfl) (lt_cmp (op_neD (hu64 hr)) lift_ne (le_var 4 (pv 4)) (le_lst la_nil) (nomark _)) (lss_cons (ls_pop (pv 4) (lg_tup rfl (lg_cons (lg_name (pg_name (i := 7) nd rfl (Or.inl rfl))) (lg_cons (lg_name (pg_name (i := 8) nd rfl (Or.inl rfl))) lg_nil))))
    (lss_one (ls_if (PW.pt (lw_or (lt_val (le_var 8 (pv 8))) (lw_or1 (lt_val (le_sub (hu_of hr) (le_callC C__law_forced (hr.mono (by decide)) rfl hx (la_cons (le_var 6 (pv 6)) (la_cons (le_var 7 (pv 7)) la_nil)) (alenS (alenS alen0))) le_int (fun _ _ => rfl)))))) (lss_one (ls_app (pv 5) (le_tup (la_cons le_str (la_cons (le_rev (le_lc (own := [("_law_sign", 11)]) rfl nd (li_seq (le_var 7 (pv 7))) (blkOk_by (N := N__law_tree) (sc := (defScope st__law_tree)) (by decide +kernel)) (fun _ _ _ _ _ => (lg_name (pg_name (i := 11) nd rfl (Or.inl rfl)))) (fun _ _ _ _ _ => lt_nil) (fun _ _ _ _ _ => (le_un un_neg lift_neg (le_var 11 (pv 11)))))) la_nil))))) (lss_cons (ls_set nd rfl (Or.inr rfl) (le_sub (hu_of hr) (le_callC C__law_forced (hr.mono (by decide)) rfl hx (la_cons (le_var 6 (pv 6)) (la_cons (le_var 7 (pv 7)) la_nil)) (alenS (alenS alen0))) le_int (fun _ _ => rfl)))
    (lss_cons (ls_setLc (i := 10) (own := [("_law_mark", 13)]) rfl nd rfl rfl (sw_true rfl rfl rfl (by decide +kernel)) (li_seq (le_var 3 (pv 3))) (blkOk_by (N := N__law_tree) (sc := (defScope st__law_tree)) (by decide +kernel)) (fun _ _ _ _ _ => (lg_name (pg_name (i := 13) nd rfl (Or.inl rfl)))) (fun _ _ _ _ _ => (lt_one (PW.pt (lw_and (lt_cmp (op_notInAll (hu65 hr)) lift_notIn (le_var 13 (pv 13)) (le_var 9 (pv 9)) rfl) (lw_and1 (lt_cmp (op_notInAll (hu65 hr)) lift_notIn (le_un un_neg lift_neg (le_var 13 (pv 13))) (le_var 9 (pv 9)) rfl)))))) (fun _ _ _ _ _ => (le_var 13 (pv 13))))
    (lss_cons (ls_if (lt_cmp (op_eqD (hu64 hr)) lift_eq (le_var 10 (pv 10)) (le_lst la_nil) (nomark _)) (lss_one (ls_ret le_non)) lss_nil)
    (lss_cons (ls_set nd rfl (Or.inl rfl) (le_if (lt_cmp (op_eqD (hu64 hr)) lift_eq (le_op op_modN lift_mod (le_op op_fdivN lift_fdiv (le_var 2 (pv 2)) le_int) le_int) le_int (nomark _)) (le_sub (hu_of hr) (le_var 10 (pv 10)) le_int (fun _ _ => rfl)) (le_un un_neg lift_neg (le_sub (hu_of hr) (le_var 10 (pv 10)) le_int (fun _ _ => rfl)))))
    (lss_one (ls_fz [4] (ls_setF nd rfl (Or.inl rfl) (lf_cat (le_var 4 (pv 4)) (le_lst (la_cons (le_tup (la_cons (le_var 7 (pv 7)) (la_cons le_bl la_nil))) (la_cons (le_tup (la_cons (le_op op_addAll lift_add (le_var 7 (pv 7)) (le_lst (la_cons (le_un un_neg lift_neg (le_var 11 (pv 11))) la_nil))) (la_cons le_bl la_nil))) (la_cons (le_tup (la_cons (le_op op_addAll lift_add (le_var 7 (pv 7)) (le_lst (la_cons (le_var 11 (pv 11)) la_nil))) (la_cons le_bl la_nil))) la_nil))))))))))))))))
    (lss_one (ls_ret (le_var 5 (pv 5))))))))
/-! is_row -/
abbrev st_is_row : Stmt := top 18
def d_is_row : He.DefD := ⟨("is_row", none), "is_row", "is_row", defArgs st_is_row, defBody st_is_row, defScope st_is_row, [], []⟩
abbrev N_is_row : List Str := ["thing", "sign"]
def g_is_row : SS := (sSeq (sIf (tOr' (tNo (tV (eCall m_is_list (aCons (eVar 0) aNil)))) (tNo (tV (eB dAll (aCons (eComp [1] (.nm 1) (iSeq (eVar 0)) tTrue (eCall m_is_sign (aCons (eVar 1) aNil))) aNil))))) (sRet (eC (.bl false))) sNil) (sRet (e2 dEq (eLenC [1] (.nm 1) (iSeq (eVar 0))  (eB dAbs (aCons (eVar 1) aNil))) (eB dLen (aCons (eVar 0) aNil)))))
def m_is_row : List D → R D := runD 2 g_is_row
theorem sc_is_row : FnScope N_is_row ["thing"] (defScope st_is_row) := ⟨rfl, rfl, rfl, by decide +kernel, rfl, by decide +kernel, by decide +kernel⟩
theorem ok_is_row {P : Program} {w : World} {K : PySem.W.Frag} {mg : Str → Option Value} {base : Heap} (T : Tx K mg) (F : DefAt K d_is_row) (C_is_list : Callee P w K mg base "is_list" 1 1 m_is_list) (C_is_sign : Callee P w K mg base "is_sign" 2 1 m_is_sign) : Callee P w K mg base "is_row" 3 1 m_is_row := by
  obtain ⟨fd, F⟩ := F.of
  refine callee_tw F T.glo_is_row (sc_is_row) (fun _ _ _ _ _ _ us hl => match us, hl with | [_], _ => rfl) fun cdv A outer s H E hr hx => ?_
  have nd : (N_is_row).Nodup := (sc_is_row).nd
  exact (lss_cons (ls_if (PW.pt (lw_or (lt_not (lt_val (le_callC C_is_list (hr.mono (by decide)) rfl hx (la_cons (le_var 0 (pv 0)) la_nil) (alenS alen0)))) (lw_or1 (lt_not (lt_val (le_callB (cr_all rfl) lift_all rfl T.n_all (by decide +kernel) (la_cons (le_lc (own := [("sign", 1)]) rfl nd (li_seq (le_var 0 (pv 0))) (blkOk_by (N := N_is_row) (sc := (defScope st_is_row)) (by decide +kernel)) (fun _ _ _ _ _ => (lg_name (pg_name (i := 1) nd rfl (Or.inl rfl)))) (fun _ _ _ _ _ => lt_nil) (fun _ _ _ _ _ => (le_callC C_is_sign (hr.mono (by decide)) rfl pass_w0 (la_cons (le_var 1 (pv 1)) la_nil) (alenS alen0)))) la_nil))))))) (lss_one (ls_ret le_bl)) lss_nil)
    (lss_one (ls_ret (le_cmp (op_eqD (hu64 hr)) lift_eq (le_lenC (own := [("sign", 1)]) rfl nd rfl T.n_len (li_seq (le_var 0 (pv 0))) (blkOk_by (N := N_is_row) (sc := (defScope st_is_row)) (by decide +kernel)) (fun _ _ _ _ _ => (lg_name (pg_name (i := 1) nd rfl (Or.inl rfl)))) (fun _ _ _ _ _ => (le_callB call_abs lift_abs rfl T.n_abs (by decide +kernel) (la_cons (le_var 1 (pv 1)) la_nil)))) (le_callB call_lenAll lift_len rfl T.n_len (by decide +kernel) (la_cons (le_var 0 (pv 0)) la_nil)) (nomark _)))))
/-! walked -/
abbrev st_walked : Stmt := top 26
def d_walked : He.DefD := ⟨("walked", none), "walked", "walked", defArgs st_walked, defBody st_walked, defScope st_walked, [], []⟩
abbrev N_walked : List Str := ["rows", "steps", "there", "count", "at", "word", "row", "number"]
def g_walked : SS := (sSeq (sPar2 2 3 false false (eB dLEnum (aCons (eVar 0) aNil)) (eB dLen (aCons (eVar 0) aNil))) (sSeq (sFor (.tp [(.nm 4), (.tp [(.nm 5), (.nm 6)])]) (iRg dEnum (aCons (eVar 1) aNil)) (sIf (tV (e2 dEq (eVar 5) (eC (.str "drop")))) (sSeq (sSet 7 (eCall m_last_with (aCons (eVar 2) (aCons (eVar 6) aNil)))) (sSeq (sIf (tV (e2 (dIsN false) (eVar 7) (eC .non))) (sRet (eTup (aCons (eVar 4) (aCons (eVar 2) aNil)))) sNil) (sSet 2 (eCall m_without (aCons (eVar 2) (aCons (eVar 7) aNil)))))) (sIf (tNo (tV (eCall m_follows (aCons (eVar 2) (aCons (eVar 6) aNil))))) (sRet (eTup (aCons (eVar 4) (aCons (eVar 2) aNil)))) (sSeq (sSet 2 (e2 dAdd (eVar 2) (eLst (aCons (eTup (aCons (eVar 3) (aCons (eVar 6) aNil))) aNil)))) (sAug 3 (ii fun a b => .int (a + b)) (eC (.int 1))))))) (sSeq (sIf (tOr' (tV (e2 dEq (eVar 1) (eLst aNil))) (tV (e2 dNe (e2 dGet (eVar 1) (e1 dNeg (eC (.int 1)))) (eTup (aCons (eC (.str "row")) (aCons (eTup aNil) aNil)))))) (sRet (eTup (aCons (eB dLen (aCons (eVar 1) aNil)) (aCons (eVar 2) aNil)))) sNil) (sRet (eTup (aCons (eC .non) (aCons (eVar 2) aNil)))))))
def m_walked : List D → R D := runD 8 g_walked
theorem sc_walked : FnScope N_walked ["rows", "steps"] (defScope st_walked) := ⟨rfl, rfl, rfl, by decide +kernel, rfl, by decide +kernel, by decide +kernel⟩
theorem ok_walked {P : Program} {w : World} {K : PySem.W.Frag} {mg : Str → Option Value} {base : Heap} (T : Tx K mg) (F : DefAt K d_walked) (C_follows : Callee P w K mg base "follows" 2 2 m_follows) (C_last_with : Callee P w K mg base "last_with" 1 2 m_last_with) (C_without : Callee P w K mg base "without" 1 2 m_without) : Callee P w K mg base "walked" 3 2 m_walked := by
  obtain ⟨fd, F⟩ := F.of
  refine callee_tw F T.glo_walked (sc_walked) (fun _ _ _ _ _ _ us hl => match us, hl with | [_, _], _ => rfl) fun cdv A outer s H E hr hx => ?_
  have nd : (N_walked).Nodup := (sc_walked).nd
  exact (lss_cons (ls_par2 (m := false) (n := false) rfl nd rfl rfl (by decide) rfl rfl (tm_f (le_lenum rfl T.n_list T.n_enumerate (la_cons (le_var 0 (pv 0)) la_nil))) (tm_f (le_callB call_lenAll lift_len rfl T.n_len (by decide +kernel) (la_cons (le_var 0 (pv 0)) la_nil))) rfl)
    (lss_cons (ls_for (passes_of rfl) rfl (li_enum rfl T.n_enumerate (la_cons (le_var 1 (pv 1)) la_nil)) (lg_tup rfl (lg_cons (lg_name (pg_name (i := 4) nd rfl (Or.inl rfl))) (lg_cons (lg_tup rfl (lg_cons (lg_name (pg_name (i := 5) nd rfl (Or.inl rfl))) (lg_cons (lg_name (pg_name (i := 6) nd rfl (Or.inl rfl))) lg_nil))) lg_nil))) (lss_one (ls_if (lt_cmp (op_eqD (hu64 hr)) lift_eq (le_var 5 (pv 5)) le_str (nomark _)) (lss_cons (ls_set nd rfl (Or.inl rfl) (le_callC C_last_with (hr.mono (by decide)) rfl hx (la_cons (le_var 2 (pv 2)) (la_cons (le_var 6 (pv 6)) la_nil)) (alenS (alenS alen0))))
    (lss_cons (ls_if (lt_cmp op_isN lift_isN (le_var 7 (pv 7)) le_non (nomark _)) (lss_one (ls_ret (le_tup (la_cons (le_var 4 (pv 4)) (la_cons (le_var 2 (pv 2)) la_nil))))) lss_nil)
    (lss_one (ls_set nd rfl (Or.inl rfl) (le_callC C_without (hr.mono (by decide)) rfl hx (la_cons (le_var 2 (pv 2)) (la_cons (le_var 7 (pv 7)) la_nil)) (alenS (alenS alen0))))))) (lss_one (ls_if (lt_not (lt_val (le_callC C_follows (hr.mono (by decide)) rfl hx (la_cons (le_var 2 (pv 2)) (la_cons (le_var 6 (pv 6)) la_nil)) (alenS (alenS alen0))))) (lss_one (ls_ret (le_tup (la_cons (le_var 4 (pv 4)) (la_cons (le_var 2 (pv 2)) la_nil))))) (lss_cons (ls_set nd rfl (Or.inl rfl) (le_op op_addAll lift_add (le_var 2 (pv 2)) (le_lst (la_cons (le_tup (la_cons (le_var 3 (pv 3)) (la_cons (le_var 6 (pv 6)) la_nil))) la_nil))))
    (lss_one (ls_augI nd rfl (Or.inl rfl) ip_add le_int))))))))
    (lss_cons (ls_if (PW.pt (lw_or (lt_cmp (op_eqD (hu64 hr)) lift_eq (le_var 1 (pv 1)) (le_lst la_nil) (nomark _)) (lw_or1 (lt_cmp (op_neD (hu64 hr)) lift_ne (le_sub (hu_of hr) (le_var 1 (pv 1)) (le_un un_neg lift_neg le_int) (fun _ _ => rfl)) (le_tup (la_cons le_str (la_cons (le_tup la_nil) la_nil))) (nomark _))))) (lss_one (ls_ret (le_tup (la_cons (le_callB call_lenAll lift_len rfl T.n_len (by decide +kernel) (la_cons (le_var 1 (pv 1)) la_nil)) (la_cons (le_var 2 (pv 2)) la_nil))))) lss_nil)
    (lss_one (ls_ret (le_tup (la_cons le_non (la_cons (le_var 2 (pv 2)) la_nil))))))))
/-! _law_walked -/
abbrev st__law_walked : Stmt := top 43
def d__law_walked : He.DefD := ⟨("_law_walked", none), "_law_walked", "_law_walked", defArgs st__law_walked, defBody st__law_walked, defScope st__law_walked, [], []⟩
abbrev N__law_walked : List Str := ["_law_rows_here", "_law_steps", "_law_there", "_law_count", "_law_at", "_law_word", "_law_signs", "_law_row_here", "_law_numbers", "_law_number_here", "_law_other", "_law_pair"]
def g__law_walked : SS := (sSeq (sPar2 2 3 false false (eB dLEnum (aCons (eComp [7] (.nm 7) (iSeq (eVar 0)) tTrue (eCall m__law_told (aCons (eVar 7) aNil))) aNil)) (eB dLen (aCons (eVar 0) aNil))) (sSeq (sFor (.tp [(.nm 4), (.tp [(.nm 5), (.nm 6)])]) (iRg dEnum (aCons (eVar 1) aNil)) (sSeq (sSet 7 (eCall m__law_told (aCons (eVar 6) aNil))) (sIf (tV (e2 dEq (eVar 5) (eC (.str "drop")))) (sSeq (sSet 8 (eComp [9, 10] (.tp [(.nm 9), (.nm 10)]) (iSeq (eVar 2)) (tV (e2 dEq (eVar 10) (eVar 7))) (eVar 9))) (sSeq (sIf (tV (e2 dEq (eVar 8) (eLst aNil))) (sRet (eTup (aCons (eVar 4) (aCons (eVar 2) aNil)))) sNil) (sSet 2 (eComp [11] (.nm 11) (iSeq (eVar 2)) (tV (e2 dNe (e2 dGet (eVar 11) (eC (.int 0))) (e2 dGet (eVar 8) (e1 dNeg (eC (.int 1)))))) (eVar 11))))) (sSeq (sIf (tNo (tV (eCall m__law_follows (aCons (eVar 2) (aCons (eVar 7) aNil))))) (sRet (eTup (aCons (eVar 4) (aCons (eVar 2) aNil)))) sNil) (sPar2 2 3 false false (e2 dAdd (eVar 2) (eLst (aCons (eTup (aCons (eVar 3) (aCons (eVar 7) aNil))) aNil))) (e2 dAdd (eVar 3) (eC (.int 1)))))))) (sSeq (sIf (tOr' (tV (e2 dEq (eVar 1) (eLst aNil))) (tOr' (tV (e2 dNe (e2 dGet (e2 dGet (eVar 1) (e1 dNeg (eC (.int 1)))) (eC (.int 0))) (eC (.str "row")))) (tV (e2 dGt (eB dLen (aCons (e2 dGet (e2 dGet (eVar 1) (e1 dNeg (eC (.int 1)))) (eC (.int 1))) aNil)) (eC (.int 0)))))) (sRet (eTup (aCons (eB dLen (aCons (eVar 1) aNil)) (aCons (eVar 2) aNil)))) sNil) (sRet (eTup (aCons (e1 dNeg (eC (.int 1))) (aCons (eVar 2) aNil)))))))
def m__law_walked : List D → R D := runD 12 g__law_walked
theorem sc__law_walked : FnScope N__law_walked ["_law_rows_here", "_law_steps"] (defScope st__law_walked) := ⟨rfl, rfl, rfl, by decide +kernel, rfl, by decide +kernel, by decide +kernel⟩
theorem ok__law_walked {P : Program} {w : World} {K : PySem.W.Frag} {mg : Str → Option Value} {base : Heap} (T : Tx K mg) (F : DefAt K d__law_walked) (C__law_follows : Callee P w K mg base "_law_follows" 2 2 m__law_follows) (C__law_told : Callee P w K mg base "_law_told" 1 1 m__law_told) : Callee P w K mg base "_law_walked" 3 2 m__law_walked := by
  obtain ⟨fd, F⟩ := F.of
  refine callee_tw F T.glo__law_walked (sc__law_walked) (fun _ _ _ _ _ _ us hl => match us, hl with | [_, _], _ => rfl) fun cdv A outer s H E hr hx => ?_
  have nd : (N__law_walked).Nodup := (sc__law_walked).nd
  exact (lss_cons (ls_par2 (m := false) (n := false) rfl nd rfl rfl (by decide) rfl rfl (tm_f (le_lenum rfl T.n_list T.n_enumerate (la_cons (le_lc (own := [("_law_row_here", 7)]) rfl nd (li_seq (le_var 0 (pv 0))) (blkOk_by (N := N__law_walked) (sc := (defScope st__law_walked)) (by decide +kernel)) (fun _ _ _ _ _ => (lg_name (pg_name (i := 7) nd rfl (Or.inl rfl)))) (fun _ _ _ _ _ => lt_nil) (fun _ _ _ _ _ => (le_callC C__law_told (hr.mono (by decide)) rfl pass_w0 (la_cons (le_var 7 (pv 7)) la_nil) (alenS alen0)))) la_nil))) (tm_f (le_callB call_lenAll lift_len rfl T.n_len (by decide +kernel) (la_cons (le_var 0 (pv 0)) la_nil))) rfl)
    (lss_cons (ls_for (passes_of rfl) rfl (li_enum rfl T.n_enumerate (la_cons (le_var 1 (pv 1)) la_nil)) (lg_tup rfl (lg_cons (lg_name (pg_name (i := 4) nd rfl (Or.inl rfl))) (lg_cons (lg_tup rfl (lg_cons (lg_name (pg_name (i := 5) nd rfl (Or.inl rfl))) (lg_cons (lg_name (pg_name (i := 6) nd rfl (Or.inl rfl))) lg_nil))) lg_nil))) (lss_cons (ls_set nd rfl (Or.inr rfl) (le_callC C__law_told (hr.mono (by decide)) rfl hx (la_cons (le_var 6 (pv 6)) la_nil) (alenS alen0)))
    (lss_one (ls_if (lt_cmp (op_eqD (hu64 hr)) lift_eq (le_var 5 (pv 5)) le_str (nomark _)) (lss_cons (ls_set nd rfl (Or.inr rfl) (le_lc (own := [("_law_number_here", 9), ("_law_other", 10)]) rfl nd (li_seq (le_var 2 (pv 2))) (blkOk_by (N := N__law_walked) (sc := (defScope st__law_walked)) (by decide +kernel)) (fun _ _ _ _ _ => (lg_tup rfl (lg_cons (lg_name (pg_name (i := 9) nd rfl (Or.inl rfl))) (lg_cons (lg_name (pg_name (i := 10) nd rfl (Or.inl rfl))) lg_nil)))) (fun _ _ _ _ _ => (lt_one (lt_cmp (op_eqD (hu64 hr)) lift_eq (le_var 10 (pv 10)) (le_var 7 (pv 7)) (nomark _)))) (fun _ _ _ _ _ => (le_var 9 (pv 9)))))
    (lss_cons (ls_if (lt_cmp (op_eqD (hu64 hr)) lift_eq (le_var 8 (pv 8)) (le_lst la_nil) (nomark _)) (lss_one (ls_ret (le_tup (la_cons (le_var 4 (pv 4)) (la_cons (le_var 2 (pv 2)) la_nil))))) lss_nil)
    (lss_one (ls_setLc (i := 2) (own := [("_law_pair", 11)]) rfl nd rfl rfl (sw_true rfl rfl rfl (by decide +kernel)) (li_seq (le_var 2 (pv 2))) (blkOk_by (N := N__law_walked) (sc := (defScope st__law_walked)) (by decide +kernel)) (fun _ _ _ _ _ => (lg_name (pg_name (i := 11) nd rfl (Or.inl rfl)))) (fun _ _ _ _ _ => (lt_one (lt_cmp (op_neD (hu64 hr)) lift_ne (le_sub (hu_of hr) (le_var 11 (pv 11)) le_int (fun _ _ => rfl)) (le_sub (hu_of hr) (le_var 8 (pv 8)) (le_un un_neg lift_neg le_int) (fun _ _ => rfl)) (nomark _)))) (fun _ _ _ _ _ => (le_var 11 (pv 11))))))) (lss_cons (ls_if (lt_not (lt_val (le_callC C__law_follows (hr.mono (by decide)) rfl hx (la_cons (le_var 2 (pv 2)) (la_cons (le_var 7 (pv 7)) la_nil)) (alenS (alenS alen0))))) (lss_one (ls_ret (le_tup (la_cons (le_var 4 (pv 4)) (la_cons (le_var 2 (pv 2)) la_nil))))) lss_nil)
    (lss_one (ls_par2 (m := false) (n := false) rfl nd rfl rfl (by decide) rfl rfl (tm_f (le_op op_addAll lift_add (le_var 2 (pv 2)) (le_lst (la_cons (le_tup (la_cons (le_var 3 (pv 3)) (la_cons (le_var 7 (pv 7)) la_nil))) la_nil)))) (tm_f (le_op op_addAll lift_add (le_var 3 (pv 3)) le_int)) rfl)))))))
    (lss_cons (ls_if (PW.pt (lw_or (lt_cmp (op_eqD (hu64 hr)) lift_eq (le_var 1 (pv 1)) (le_lst la_nil) (nomark _)) (lw_or (lt_cmp (op_neD (hu64 hr)) lift_ne (le_sub (hu_of hr) (le_sub (hu_of hr) (le_var 1 (pv 1)) (le_un un_neg lift_neg le_int) (fun _ _ => rfl)) le_int (fun _ _ => rfl)) le_str (nomark _)) (lw_or1 (lt_cmp op_gt lift_gt (le_callB call_lenAll lift_len rfl T.n_len (by decide +kernel) (la_cons (le_sub (hu_of hr) (le_sub (hu_of hr) (le_var 1 (pv 1)) (le_un un_neg lift_neg le_int) (fun _ _ => rfl)) le_int (fun _ _ => rfl)) la_nil)) le_int (nomark _)))))) (lss_one (ls_ret (le_tup (la_cons (le_callB call_lenAll lift_len rfl T.n_len (by decide +kernel) (la_cons (le_var 1 (pv 1)) la_nil)) (la_cons (le_var 2 (pv 2)) la_nil))))) lss_nil)
    (lss_one (ls_ret (le_tup (la_cons (le_un un_neg lift_neg le_int) (la_cons (le_var 2 (pv 2)) la_nil))))))))
/-! _law_lean_right -/
abbrev st__law_lean_right : Stmt := top 46
def d__law_lean_right : He.DefD := ⟨("_law_lean_right", none), "_law_lean_right", "_law_lean_right", defArgs st__law_lean_right, defBody st__law_lean_right, defScope st__law_lean_right, [], []⟩
abbrev N__law_lean_right : List Str := ["_law_rows_here", "_law_steps", "_law_found", "_law_there", "_law_came", "_law_word", "_law_row_here", "_law_old", "_law_signs", "_law_sign", "_law_other"]
def g__law_lean_right : SS := (sSeq (sSetF 3 (eB dLEnum (aCons (eComp [6] (.nm 6) (iSeq (eVar 0)) tTrue (eCall m__law_told (aCons (eVar 6) aNil))) aNil))) (sSeq (sSet 4 (eComp [5, 8] (.tp [(.nm 5), (.nm 8)]) (iSeq (eVar 1)) (tV (e2 dEq (eVar 5) (eC (.str "row")))) (eCall m__law_told (aCons (eVar 8) aNil)))) (sSeq (sIf (tV (e2 dNe (eB dLen (aCons (eVar 2) aNil)) (eB dLen (aCons (eVar 4) aNil)))) (sRet (eC (.bl false))) sNil) (sSeq (sFor (.tp [(.tp [(.nm 5), (.nm 6)]), (.nm 7)]) (iRg dZip (aCons (eVar 2) (aCons (eVar 4) aNil))) (sSeq (sIf (tOr' (tV (e2 dNe (eVar 5) (eC (.str "row")))) (tOr' (tV (e2 dNe (eVar 6) (eCall m__law_told (aCons (eVar 6) aNil)))) (tNo (tV (eB dAll (aCons (eComp [9] (.nm 9) (iSeq (eVar 6)) tTrue (e2 (dInS false) (eVar 9) (eVar 7))) aNil)))))) (sRet (eC (.bl false))) sNil) (sSeq (sIf (tNo (tV (eCall m__law_follows (aCons (eVar 3) (aCons (eVar 6) aNil))))) (sRet (eC (.bl false))) sNil) (sSeq (sIf (tV (eB dAny (aCons (eComp [9] (.nm 9) (iSeq (eVar 6)) tTrue (eCall m__law_follows (aCons (eVar 3) (aCons (eComp [10] (.nm 10) (iSeq (eVar 6)) (tV (e2 dNe (eVar 10) (eVar 9))) (eVar 10)) aNil)))) aNil))) (sRet (eC (.bl false))) sNil) (sAppI 3 (eTup (aCons (eB dLen (aCons (eVar 3) aNil)) (aCons (eVar 6) aNil)))))))) (sRet (e2 dEq (e2 dGet (eVar 2) (e1 dNeg (eC (.int 1)))) (eTup (aCons (eC (.str "row")) (aCons (eTup aNil) aNil)))))))))
def m__law_lean_right : List D → R D := runD 11 g__law_lean_right
theorem sc__law_lean_right : FnScope N__law_lean_right ["_law_rows_here", "_law_steps", "_law_found"] (defScope st__law_lean_right) := ⟨rfl, rfl, rfl, by decide +kernel, rfl, by decide +kernel, by decide +kernel⟩
theorem ok__law_lean_right {P : Program} {w : World} {K : PySem.W.Frag} {mg : Str → Option Value} {base : Heap} (T : Tx K mg) (F : DefAt K d__law_lean_right) (C__law_follows : Callee P w K mg base "_law_follows" 2 2 m__law_follows) (C__law_told : Callee P w K mg base "_law_told" 1 1 m__law_told) : Callee P w K mg base "_law_lean_right" 3 3 m__law_lean_right := by
  obtain ⟨fd, F⟩ := F.of
  refine callee_tw F T.glo__law_lean_right (sc__law_lean_right) (fun _ _ _ _ _ _ us hl => match us, hl with | [_, _, _], _ => rfl) fun cdv A outer s H E hr hx => ?_
  have nd : (N__law_lean_right).Nodup := (sc__law_lean_right).nd
  exact (lss_cons (ls_setF nd rfl (Or.inr rfl) (lf_lenum rfl T.n_list T.n_enumerate (la_cons (le_lc (own := [("_law_row_here", 6)]) rfl nd (li_seq (le_var 0 (pv 0))) (blkOk_by (N := N__law_lean_right) (sc := (defScope st__law_lean_right)) (by decide +kernel)) (fun _ _ _ _ _ => (lg_name (pg_name (i := 6) nd rfl (Or.inl rfl)))) (fun _ _ _ _ _ => lt_nil) (fun _ _ _ _ _ => (le_callC C__law_told (hr.mono (by decide)) rfl pass_w0 (la_cons (le_var 6 (pv 6)) la_nil) (alenS alen0)))) la_nil)))
    (lss_cons (ls_setLc (i := 4) (own := [("_law_word", 5), ("_law_signs", 8)]) rfl nd rfl rfl (sw_true rfl rfl rfl (by decide +kernel)) (li_seq (le_var 1 (pv 1))) (blkOk_by (N := N__law_lean_right) (sc := (defScope st__law_lean_right)) (by decide +kernel)) (fun _ _ _ _ _ => (lg_tup rfl (lg_cons (lg_name (pg_name (i := 5) nd rfl (Or.inl rfl))) (lg_cons (lg_name (pg_name (i := 8) nd rfl (Or.inl rfl))) lg_nil)))) (fun _ _ _ _ _ => (lt_one (lt_cmp (op_eqD (hu64 hr)) lift_eq (le_var 5 (pv 5)) le_str (nomark _)))) (fun _ _ _ _ _ => (le_callC C__law_told (hr.mono (by decide)) rfl pass_w0 (la_cons (le_var 8 (pv 8)) la_nil) (alenS alen0))))
    (lss_cons (ls_if (lt_cmp (op_neD (hu64 hr)) lift_ne (le_callB call_lenAll lift_len rfl T.n_len (by decide +kernel) (la_cons (le_var 2 (pv 2)) la_nil)) (le_callB call_lenAll lift_len rfl T.n_len (by decide +kernel) (la_cons (le_var 4 (pv 4)) la_nil)) (nomark _)) (lss_one (ls_ret le_bl)) lss_nil)
    (lss_cons (ls_for (passes_of rfl) rfl (li_zip rfl T.n_zip (la_cons (le_var 2 (pv 2)) (la_cons (le_var 4 (pv 4)) la_nil))) (lg_tup rfl (lg_cons (lg_tup rfl (lg_cons (lg_name (pg_name (i := 5) nd rfl (Or.inl rfl))) (lg_cons (lg_name (pg_name (i := 6) nd rfl (Or.inr rfl))) lg_nil))) (lg_cons (lg_name (pg_name (i := 7) nd rfl (Or.inr rfl))) lg_nil))) (lss_cons (ls_if (PW.pt (lw_or (lt_cmp (op_neD (hu64 hr)) lift_ne (le_var 5 (pv 5)) le_str (nomark _)) (lw_or (lt_cmp (op_neD (hu64 hr)) lift_ne (le_var 6 (pv 6)) (le_callC C__law_told (hr.mono (by decide)) rfl hx (la_cons (le_var 6 (pv 6)) la_nil) (alenS alen0)) (nomark _)) (lw_or1 (lt_not (lt_val (le_callB (cr_all rfl) lift_all rfl T.n_all (by decide +kernel) (la_cons (le_lc (own := [("_law_sign", 9)]) rfl nd (li_seq (le_var 6 (pv 6))) (blkOk_by (N := N__law_lean_right) (sc := (defScope st__law_lean_right)) (by decide +kernel)) (fun _ _ _ _ _ => (lg_name (pg_name (i := 9) nd rfl (Or.inl rfl)))) (fun _ _ _ _ _ => lt_nil) (fun _ _ _ _ _ => (le_cmp (op_inAll (hu65 hr)) lift_in (le_var 9 (pv 9)) (le_var 7 (pv 7)) rfl))) la_nil)))))))) (lss_one (ls_ret le_bl)) lss_nil)
    (lss_cons (ls_if (lt_not (lt_val (le_callC C__law_follows (hr.mono (by decide)) rfl hx (la_cons (le_var 3 (pv 3)) (la_cons (le_var 6 (pv 6)) la_nil)) (alenS (alenS alen0))))) (lss_one (ls_ret le_bl)) lss_nil)
    (lss_cons (ls_if (lt_val (le_callB (cr_any rfl) lift_any rfl T.n_any (by decide +kernel) (la_cons (le_lc (own := [("_law_sign", 9)]) rfl nd (li_seq (le_var 6 (pv 6))) (blkOk_by (N := N__law_lean_right) (sc := (defScope st__law_lean_right)) (by decide +kernel)) (fun _ _ _ _ _ => (lg_name (pg_name (i := 9) nd rfl (Or.inr rfl)))) (fun _ _ _ _ _ => lt_nil) (fun _ _ _ _ _ => (le_callC C__law_follows (hr.mono (by decide)) rfl pass_w0 (la_cons (le_var 3 (pv 3)) (la_cons (le_lc (own := [("_law_other", 10)]) rfl nd (li_seq (le_var 6 (pv 6))) (blkOk_by (N := N__law_lean_right) (sc := (relS _ (defScope st__law_lean_right))) (by decide +kernel)) (fun _ _ _ _ _ => (lg_name (pg_name (i := 10) nd rfl (Or.inl rfl)))) (fun _ _ _ _ _ => (lt_one (lt_cmp (op_neD (hu64 hr)) lift_ne (le_var 10 (pv 10)) (le_var 9 (pv 9)) (nomark _)))) (fun _ _ _ _ _ => (le_var 10 (pv 10)))) la_nil)) (alenS (alenS alen0))))) la_nil))) (lss_one (ls_ret le_bl)) lss_nil)
    (lss_one (ls_appI (pv 3) (le_tup (la_cons (le_callB call_lenAll lift_len rfl T.n_len (by decide +kernel) (la_cons (le_var 3 (pv 3)) la_nil)) (la_cons (le_var 6 (pv 6)) la_nil)))))))))
    (lss_one (ls_ret (le_cmp (op_eqD (hu64 hr)) lift_eq (le_sub (hu_of hr) (le_var 2 (pv 2)) (le_un un_neg lift_neg le_int) (fun _ _ => rfl)) (le_tup (la_cons le_str (la_cons (le_tup la_nil) la_nil))) (nomark _))))))))
/-! is_step -/
abbrev st_is_step : Stmt := top 20
def d_is_step : He.DefD := ⟨("is_step", none), "is_step", "is_step", defArgs st_is_step, defBody st_is_step, defScope st_is_step, [], []⟩
abbrev N_is_step : List Str := ["thing"]
def g_is_step : SS := (sSeq (sIf (tOr' (tNo (tV (e1 (dIsT tbC "tuple") (eVar 0)))) (tOr' (tV (e2 dNe (eB dLen (aCons (eVar 0) aNil)) (eC (.int 2)))) (tNo (tV (e1 (dIsT tbC "str") (e2 dGet (eVar 0) (eC (.int 0)))))))) (sRet (eC (.bl false))) sNil) (sRet (eAn (e2 (dInS false) (e2 dGet (eVar 0) (eC (.int 0))) (eTup (aCons (eC (.str "row")) (aCons (eC (.str "drop")) aNil)))) (eCall m_is_row (aCons (e2 dGet (eVar 0) (eC (.int 1))) aNil)))))
def m_is_step : List D → R D := runD 1 g_is_step
theorem sc_is_step : FnScope N_is_step ["thing"] (defScope st_is_step) := ⟨rfl, rfl, rfl, by decide +kernel, rfl, by decide +kernel, by decide +kernel⟩
theorem ok_is_step {P : Program} {w : World} {K : PySem.W.Frag} {mg : Str → Option Value} {base : Heap} (T : Tx K mg) (F : DefAt K d_is_step) (C_is_row : Callee P w K mg base "is_row" 3 1 m_is_row) : Callee P w K mg base "is_step" 4 1 m_is_step := by
  obtain ⟨fd, F⟩ := F.of
  refine callee_tw F T.glo_is_step (sc_is_step) (fun _ _ _ _ _ _ us hl => match us, hl with | [_], _ => rfl) fun cdv A outer s H E hr hx => ?_
  have nd : (N_is_step).Nodup := (sc_is_step).nd
  exact (lss_cons (ls_if (PW.pt (lw_or (lt_not (lt_val (le_isT (by decide +kernel) T.kt (by decide +kernel) (by decide) T.n_isinstance T.n_tuple (le_var 0 (pv 0))))) (lw_or (lt_cmp (op_neD (hu64 hr)) lift_ne (le_callB call_lenAll lift_len rfl T.n_len (by decide +kernel) (la_cons (le_var 0 (pv 0)) la_nil)) le_int (nomark _)) (lw_or1 (lt_not (lt_val (le_isT (by decide +kernel) T.kt (by decide +kernel) (by decide) T.n_isinstance T.n_str (le_sub (hu_of hr) (le_var 0 (pv 0)) le_int (fun _ _ => rfl))))))))) (lss_one (ls_ret le_bl)) lss_nil)
    (lss_one (ls_ret (le_and (le_cmp (op_inAll (hu65 hr)) lift_in (le_sub (hu_of hr) (le_var 0 (pv 0)) le_int (fun _ _ => rfl)) (le_tup (la_cons le_str (la_cons le_str la_nil))) rfl) (le_one (le_callC C_is_row (hr.mono (by decide)) rfl hx (la_cons (le_sub (hu_of hr) (le_var 0 (pv 0)) le_int (fun _ _ => rfl)) la_nil) (alenS alen0)))))))
/-! rows_of -/
abbrev st_rows_of : Stmt := top 21
def d_rows_of : He.DefD := ⟨("rows_of", none), "rows_of", "rows_of", defArgs st_rows_of, defBody st_rows_of, defScope st_rows_of, [], []⟩
abbrev N_rows_of : List Str := ["formula", "row"]
def g_rows_of : SS := (sSeq (sIf (tOr' (tNo (tV (e1 (dIsT tbC "list") (eVar 0)))) (tOr' (tV (e2 dGt (eB dLen (aCons (eVar 0) aNil)) (eC (.int 16)))) (tNo (tV (eB dAll (aCons (eComp [1] (.nm 1) (iSeq (eVar 0)) tTrue (eCall m_is_row (aCons (eVar 1) aNil))) aNil)))))) (sRaise "BadFormula") sNil) (sRet (eComp [1] (.nm 1) (iSeq (eVar 0)) tTrue (eCall m_row_of (aCons (eVar 1) aNil)))))
def m_rows_of : List D → R D := runD 2 g_rows_of
theorem sc_rows_of : FnScope N_rows_of ["formula"] (defScope st_rows_of) := ⟨rfl, rfl, rfl, by decide +kernel, rfl, by decide +kernel, by decide +kernel⟩
theorem ok_rows_of {P : Program} {w : World} {K : PySem.W.Frag} {mg : Str → Option Value} {base : Heap} (T : Tx K mg) (F : DefAt K d_rows_of) (C_is_row : Callee P w K mg base "is_row" 3 1 m_is_row) (C_row_of : Callee P w K mg base "row_of" 1 1 m_row_of) : Callee P w K mg base "rows_of" 4 1 m_rows_of := by
  obtain ⟨fd, F⟩ := F.of
  refine callee_tw F T.glo_rows_of (sc_rows_of) (fun _ _ _ _ _ _ us hl => match us, hl with | [_], _ => rfl) fun cdv A outer s H E hr hx => ?_
  have nd : (N_rows_of).Nodup := (sc_rows_of).nd
  exact (lss_cons (ls_if (PW.pt (lw_or (lt_not (lt_val (le_isT (by decide +kernel) T.kt (by decide +kernel) (by decide) T.n_isinstance T.n_list (le_var 0 (pv 0))))) (lw_or (lt_cmp op_gt lift_gt (le_callB call_lenAll lift_len rfl T.n_len (by decide +kernel) (la_cons (le_var 0 (pv 0)) la_nil)) (le_gint rfl T.c_MOST_ROWS) (nomark _)) (lw_or1 (lt_not (lt_val (le_callB (cr_all rfl) lift_all rfl T.n_all (by decide +kernel) (la_cons (le_lc (own := [("row", 1)]) rfl nd (li_seq (le_var 0 (pv 0))) (blkOk_by (N := N_rows_of) (sc := (defScope st_rows_of)) (by decide +kernel)) (fun _ _ _ _ _ => (lg_name (pg_name (i := 1) nd rfl (Or.inl rfl)))) (fun _ _ _ _ _ => lt_nil) (fun _ _ _ _ _ => (le_callC C_is_row (hr.mono (by decide)) rfl pass_w0 (la_cons (le_var 1 (pv 1)) la_nil) (alenS alen0)))) la_nil)))))))) (lss_one (ls_raise T.e_BadFormula T.g_BadFormula rfl (takes_of rfl rfl rfl rfl))) lss_nil)
    (lss_one (ls_ret (le_lc (own := [("row", 1)]) rfl nd (li_seq (le_var 0 (pv 0))) (blkOk_by (N := N_rows_of) (sc := (defScope st_rows_of)) (by decide +kernel)) (fun _ _ _ _ _ => (lg_name (pg_name (i := 1) nd rfl (Or.inl rfl)))) (fun _ _ _ _ _ => lt_nil) (fun _ _ _ _ _ => (le_callC C_row_of (hr.mono (by decide)) rfl pass_w0 (la_cons (le_var 1 (pv 1)) la_nil) (alenS alen0)))))))
/-! _law_road -/
abbrev st__law_road : Stmt := top 45
def d__law_road : He.DefD := ⟨("_law_road", none), "_law_road", "_law_road", defArgs st__law_road, defBody st__law_road, defScope st__law_road, [], []⟩
abbrev N__law_road : List Str := ["_law_rows_here", "_law_marks", "_law_number_here", "_law_steps", "_law_at", "_law_far", "_law_spot", "_law_there", "_law_row_here", "_law_more", "_law_tried"]
def g__law_road : SS := (sSeq (sSet 3 (eCall m__law_tree (aCons (eVar 0) (aCons (eVar 1) (aCons (eVar 2) aNil))))) (sSeq (sIf (tV (e2 (dIsN false) (eVar 3) (eC .non))) (sRet (eC .non)) sNil) (sSeq (sFor (.nm 4) (iRg dRng1 (aCons (e2 dMod (e2 dFdiv (eVar 2) (eC (.int 128))) (eC (.int 7))) aNil)) (sSeq (sSet 5 (eCall m__law_number (aCons (eVar 2) (aCons (eVar 4) (aCons (eC (.int 3)) aNil))))) (sSeq (sSet 6 (e2 dMod (eVar 5) (eB dLen (aCons (eVar 3) aNil)))) (sSeq (sSet 7 (e2 dGet (eCall m__law_walked (aCons (eVar 0) (aCons (e2 dAdd (eSl (eVar 3) oNone (oSome (eVar 6))) (eLst (aCons (eTup (aCons (eC (.str "row")) (aCons (eLst aNil) aNil))) aNil))) aNil))) (eC (.int 1)))) (sSeq (sSet 8 (eCall m__law_row (aCons (e2 dFdiv (eVar 5) (eC (.int 100))) (aCons (eVar 1) (aCons (eC (.int 3)) aNil))))) (sSeq (sSet 9 (eTup (aCons (eC (.str "row")) (aCons (eVar 8) aNil)))) (sSeq (sIf (tAn (tV (e2 dEq (e2 dMod (e2 dFdiv (eVar 5) (eC (.int 7))) (eC (.int 2))) (eC (.int 0)))) (tV (e2 dNe (eVar 7) (eLst aNil)))) (sSet 9 (eTup (aCons (eC (.str "drop")) (aCons (e1 dRev (eB dList (aCons (e2 dGet (e2 dGet (eVar 7) (e2 dMod (e2 dFdiv (eVar 5) (eC (.int 14))) (eB dLen (aCons (eVar 7) aNil)))) (eC (.int 1))) aNil))) aNil)))) sNil) (sSeq (sSet 10 (e2 dAdd (e2 dAdd (eSl (eVar 3) oNone (oSome (eVar 6))) (eLst (aCons (eVar 9) aNil))) (eSl (eVar 3) (oSome (eVar 6)) oNone))) (sIf (tAn (tV (e2 dLt (e2 dGet (eCall m__law_walked (aCons (eVar 0) (aCons (eVar 10) aNil))) (eC (.int 0))) (eC (.int 0)))) (tV (e2 dLe (eB dLen (aCons (eVar 10) aNil)) (eC (.int 100))))) (sSet 3 (eVar 10)) sNil))))))))) (sRet (eVar 3)))))
def m__law_road : List D → R D := runD 11 g__law_road
theorem sc__law_road : FnScope N__law_road ["_law_rows_here", "_law_marks", "_law_number_here"] (defScope st__law_road) := ⟨rfl, rfl, rfl, by decide +kernel, rfl, by decide +kernel, by decide +kernel⟩
theorem ok__law_road {P : Program} {w : World} {K : PySem.W.Frag} {mg : Str → Option Value} {base : Heap} (T : Tx K mg) (F : DefAt K d__law_road) (C__law_number : Callee P w K mg base "_law_number" 1 3 m__law_number) (C__law_row : Callee P w K mg base "_law_row" 1 3 m__law_row) (C__law_tree : Callee P w K mg base "_law_tree" 2 3 m__law_tree) (C__law_walked : Callee P w K mg base "_law_walked" 3 2 m__law_walked) : Callee P w K mg base "_law_road" 4 3 m__law_road := by
  obtain ⟨fd, F⟩ := F.of
  refine callee_tw F T.glo__law_road (sc__law_road) (fun _ _ _ _ _ _ us hl => match us, hl with | [_, _, _], _ => rfl) fun cdv A outer s H E hr hx => ?_
  have nd : (N__law_road).Nodup := (sc__law_road).nd
  exact (lss_cons (ls_set nd rfl (Or.inl rfl) (le_callC C__law_tree (hr.mono (by decide)) rfl hx (la_cons (le_var 0 (pv 0)) (la_cons (le_var 1 (pv 1)) (la_cons (le_var 2 (pv 2)) la_nil))) (alenS (alenS (alenS alen0)))))
    (lss_cons (ls_if (lt_cmp op_isN lift_isN (le_var 3 (pv 3)) le_non (nomark _)) (lss_one (ls_ret le_non)) lss_nil)
    (lss_cons (ls_for (passes_of rfl) rfl (li_range1 rfl T.n_range (la_cons (le_op op_modN lift_mod (le_op op_fdivN lift_fdiv (le_var 2 (pv 2)) le_int) le_int) la_nil)) (lg_name (pg_name (i := 4) nd rfl (Or.inl rfl))) (lss_cons (ls_set nd rfl (Or.inl rfl) (le_callC C__law_number (hr.mono (by decide)) rfl hx (la_cons (le_var 2 (pv 2)) (la_cons (le_var 4 (pv 4)) (la_cons le_int la_nil))) (alenS (alenS (alenS alen0)))))
    (lss_cons (ls_set nd rfl (Or.inl rfl) (le_op op_modN lift_mod (le_var 5 (pv 5)) (le_callB call_lenAll lift_len rfl T.n_len (by decide +kernel) (la_cons (le_var 3 (pv 3)) la_nil))))
    (lss_cons (ls_set nd rfl (Or.inl rfl) (le_sub (hu_of hr) (le_callC C__law_walked (hr.mono (by decide)) rfl hx (la_cons (le_var 0 (pv 0)) (la_cons (le_op op_addAll lift_add (le_slice (le_var 3 (pv 3)) lo_none (lo_some (le_var 6 (pv 6)))) (le_lst (la_cons (le_tup (la_cons le_str (la_cons (le_lst la_nil) la_nil))) la_nil))) la_nil)) (alenS (alenS alen0))) le_int (fun _ _ => rfl)))
    (lss_cons (ls_set nd rfl (Or.inl rfl) (le_callC C__law_row (hr.mono (by decide)) rfl hx (la_cons (le_op op_fdivN lift_fdiv (le_var 5 (pv 5)) le_int) (la_cons (le_var 1 (pv 1)) (la_cons le_int la_nil))) (alenS (alenS (alenS alen0)))))
    (lss_cons (ls_set nd rfl (Or.inl rfl) (le_tup (la_cons le_str (la_cons (le_var 8 (pv 8)) la_nil))))
    (lss_cons (ls_if (PW.pt (lw_and (lt_cmp (op_eqD (hu64 hr)) lift_eq (le_op op_modN lift_mod (le_op op_fdivN lift_fdiv (le_var 5 (pv 5)) le_int) le_int) le_int (nomark _)) (lw_and1 (lt_cmp (op_neD (hu64 hr)) lift_ne (le_var 7 (pv 7)) (le_lst la_nil) (nomark _))))) (lss_one (ls_set nd rfl (Or.inl rfl) (le_tup (la_cons le_str (la_cons (le_rev (le_callTy (call_listAll rfl) lift_list rfl T.n_list (by decide +kernel) (la_cons (le_sub (hu_of hr) (le_sub (hu_of hr) (le_var 7 (pv 7)) (le_op op_modN lift_mod (le_op op_fdivN lift_fdiv (le_var 5 (pv 5)) le_int) (le_callB call_lenAll lift_len rfl T.n_len (by decide +kernel) (la_cons (le_var 7 (pv 7)) la_nil))) (fun _ _ => rfl)) le_int (fun _ _ => rfl)) la_nil))) la_nil))))) lss_nil)
    (lss_cons (ls_set nd rfl (Or.inl rfl) (le_op op_addAll lift_add (le_op op_addAll lift_add (le_slice (le_var 3 (pv 3)) lo_none (lo_some (le_var 6 (pv 6)))) (le_lst (la_cons (le_var 9 (pv 9)) la_nil))) (le_slice (le_var 3 (pv 3)) (lo_some (le_var 6 (pv 6))) lo_none)))
    (lss_one (ls_if (PW.pt (lw_and (lt_cmp op_lt lift_lt (le_sub (hu_of hr) (le_callC C__law_walked (hr.mono (by decide)) rfl hx (la_cons (le_var 0 (pv 0)) (la_cons (le_var 10 (pv 10)) la_nil)) (alenS (alenS alen0))) le_int (fun _ _ => rfl)) le_int (nomark _)) (lw_and1 (lt_cmp op_le lift_le (le_callB call_lenAll lift_len rfl T.n_len (by decide +kernel) (la_cons (le_var 10 (pv 10)) la_nil)) le_int (nomark _))))) (lss_one (ls_set nd rfl (Or.inl rfl) (le_var 10 (pv 10)))) lss_nil))))))))))
    (lss_one (ls_ret (le_var 3 (pv 3)))))))
/-! _law_wider -/
abbrev st__law_wider : Stmt := top 48
def d__law_wider : He.DefD := ⟨("_law_wider", none), "_law_wider", "_law_wider", defArgs st__law_wider, defBody st__law_wider, defScope st__law_wider, [], []⟩
abbrev N__law_wider : List Str := ["_law_rows_here", "_law_steps", "_law_marks", "_law_more", "_law_at", "_law_spot", "_law_mark", "_law_word", "_law_row_here", "_law_other"]
def g__law_wider : SS := (sSeq (sFor (.nm 4) (iRg dRng1 (aCons (eC (.int 3)) aNil)) (sSeq (sPar2 5 6 false false (e2 dMod (e2 dFdiv (eVar 3) (e2 dAdd (eC (.int 1)) (eVar 4))) (eB dLen (aCons (eVar 1) aNil))) (e2 dAdd (eC (.int 1)) (e2 dMod (e2 dFdiv (eVar 3) (e2 dAdd (eC (.int 5)) (eVar 4))) (eVar 2)))) (sSeq (sBind (.tp [(.nm 7), (.nm 8)]) (e2 dGet (eVar 1) (eVar 5))) (sIf (tAn (tV (e2 dEq (eVar 7) (eC (.str "row")))) (tAn (tV (e2 (dInS true) (eVar 6) (eVar 8))) (tV (e2 (dInS true) (e1 dNeg (eVar 6)) (eVar 8))))) (sSeq (sSet 9 (e2 dAdd (e2 dAdd (eSl (eVar 1) oNone (oSome (eVar 5))) (eLst (aCons (eTup (aCons (eVar 7) (aCons (e2 dAdd (eB dList (aCons (eVar 8) aNil)) (eLst (aCons (eVar 6) aNil))) aNil))) aNil))) (eSl (eVar 1) (oSome (e2 dAdd (eVar 5) (eC (.int 1)))) oNone))) (sIf (tV (e2 dLt (e2 dGet (eCall m__law_walked (aCons (eVar 0) (aCons (eVar 9) aNil))) (eC (.int 0))) (eC (.int 0)))) (sSet 1 (eVar 9)) sNil)) sNil)))) (sRet (eVar 1)))
def m__law_wider : List D → R D := runD 10 g__law_wider
theorem sc__law_wider : FnScope N__law_wider ["_law_rows_here", "_law_steps", "_law_marks", "_law_more"] (defScope st__law_wider) := ⟨rfl, rfl, rfl, by decide +kernel, rfl, by decide +kernel, by decide +kernel⟩
theorem ok__law_wider {P : Program} {w : World} {K : PySem.W.Frag} {mg : Str → Option Value} {base : Heap} (T : Tx K mg) (F : DefAt K d__law_wider) (C__law_walked : Callee P w K mg base "_law_walked" 3 2 m__law_walked) : Callee P w K mg base "_law_wider" 4 4 m__law_wider := by
  obtain ⟨fd, F⟩ := F.of
  refine callee_tw F T.glo__law_wider (sc__law_wider) (fun _ _ _ _ _ _ us hl => match us, hl with | [_, _, _, _], _ => rfl) fun cdv A outer s H E hr hx => ?_
  have nd : (N__law_wider).Nodup := (sc__law_wider).nd
  exact (lss_cons (ls_for (passes_of rfl) rfl (li_range1 rfl T.n_range (la_cons le_int la_nil)) (lg_name (pg_name (i := 4) nd rfl (Or.inl rfl))) (lss_cons (ls_par2 (m := false) (n := false) rfl nd rfl rfl (by decide) rfl rfl (tm_f (le_op op_modN lift_mod (le_op op_fdivN lift_fdiv (le_var 3 (pv 3)) (le_op op_addAll lift_add le_int (le_var 4 (pv 4)))) (le_callB call_lenAll lift_len rfl T.n_len (by decide +kernel) (la_cons (le_var 1 (pv 1)) la_nil)))) (tm_f (le_op op_addAll lift_add le_int (le_op op_modN lift_mod (le_op op_fdivN lift_fdiv (le_var 3 (pv 3)) (le_op op_addAll lift_add le_int (le_var 4 (pv 4)))) (le_var 2 (pv 2))))) rfl)
    (lss_cons (ls_bind (le_sub (hu_of hr) (le_var 1 (pv 1)) (le_var 5 (pv 5)) (fun _ _ => rfl)) (lg_tup rfl (lg_cons (lg_name (pg_name (i := 7) nd rfl (Or.inl rfl))) (lg_cons (lg_name (pg_name (i := 8) nd rfl (Or.inl rfl))) lg_nil))))
    (lss_one (ls_if (PW.pt (lw_and (lt_cmp (op_eqD (hu64 hr)) lift_eq (le_var 7 (pv 7)) le_str (nomark _)) (lw_and (lt_cmp (op_notInAll (hu65 hr)) lift_notIn (le_var 6 (pv 6)) (le_var 8 (pv 8)) rfl) (lw_and1 (lt_cmp (op_notInAll (hu65 hr)) lift_notIn (le_un un_neg lift_neg (le_var 6 (pv 6))) (le_var 8 (pv 8)) rfl))))) (lss_cons (ls_set nd rfl (Or.inl rfl) (le_op op_addAll lift_add (le_op op_addAll lift_add (le_slice (le_var 1 (pv 1)) lo_none (lo_some (le_var 5 (pv 5)))) (le_lst (la_cons (le_tup (la_cons (le_var 7 (pv 7)) (la_cons (le_op op_addAll lift_add (le_callTy (call_listAll rfl) lift_list rfl T.n_list (by decide +kernel) (la_cons (le_var 8 (pv 8)) la_nil)) (le_lst (la_cons (le_var 6 (pv 6)) la_nil))) la_nil))) la_nil))) (le_slice (le_var 1 (pv 1)) (lo_some (le_op op_addAll lift_add (le_var 5 (pv 5)) le_int)) lo_none)))
    (lss_one (ls_if (lt_cmp op_lt lift_lt (le_sub (hu_of hr) (le_callC C__law_walked (hr.mono (by decide)) rfl hx (la_cons (le_var 0 (pv 0)) (la_cons (le_var 9 (pv 9)) la_nil)) (alenS (alenS alen0))) le_int (fun _ _ => rfl)) le_int (nomark _)) (lss_one (ls_set nd rfl (Or.inl rfl) (le_var 9 (pv 9)))) lss_nil))) lss_nil)))))
    (lss_one (ls_ret (le_var 1 (pv 1)))))
/-! steps_of -/
abbrev st_steps_of : Stmt := top 22
def d_steps_of : He.DefD := ⟨("steps_of", none), "steps_of", "steps_of", defArgs st_steps_of, defBody st_steps_of, defScope st_steps_of, [], []⟩
abbrev N_steps_of : List Str := ["road", "step", "word", "row"]
def g_steps_of : SS := (sSeq (sIf (tOr' (tNo (tV (e1 (dIsT tbC "list") (eVar 0)))) (tOr' (tV (e2 dGt (eB dLen (aCons (eVar 0) aNil)) (eC (.int 100)))) (tNo (tV (eB dAll (aCons (eComp [1] (.nm 1) (iSeq (eVar 0)) tTrue (eCall m_is_step (aCons (eVar 1) aNil))) aNil)))))) (sRaise "BadRoad") sNil) (sRet (eComp [2, 3] (.tp [(.nm 2), (.nm 3)]) (iSeq (eVar 0)) tTrue (eTup (aCons (eVar 2) (aCons (eCall m_row_of (aCons (eVar 3) aNil)) aNil))))))
def m_steps_of : List D → R D := runD 4 g_steps_of
theorem sc_steps_of : FnScope N_steps_of ["road"] (defScope st_steps_of) := ⟨rfl, rfl, rfl, by decide +kernel, rfl, by decide +kernel, by decide +kernel⟩
theorem ok_steps_of {P : Program} {w : World} {K : PySem.W.Frag} {mg : Str → Option Value} {base : Heap} (T : Tx K mg) (F : DefAt K d_steps_of) (C_is_step : Callee P w K mg base "is_step" 4 1 m_is_step) (C_row_of : Callee P w K mg base "row_of" 1 1 m_row_of) : Callee P w K mg base "steps_of" 5 1 m_steps_of := by
  obtain ⟨fd, F⟩ := F.of
  refine callee_tw F T.glo_steps_of (sc_steps_of) (fun _ _ _ _ _ _ us hl => match us, hl with | [_], _ => rfl) fun cdv A outer s H E hr hx => ?_
  have nd : (N_steps_of).Nodup := (sc_steps_of).nd
  exact (lss_cons (ls_if (PW.pt (lw_or (lt_not (lt_val (le_isT (by decide +kernel) T.kt (by decide +kernel) (by decide) T.n_isinstance T.n_list (le_var 0 (pv 0))))) (lw_or (lt_cmp op_gt lift_gt (le_callB call_lenAll lift_len rfl T.n_len (by decide +kernel) (la_cons (le_var 0 (pv 0)) la_nil)) (le_gint rfl T.c_MOST_STEPS) (nomark _)) (lw_or1 (lt_not (lt_val (le_callB (cr_all rfl) lift_all rfl T.n_all (by decide +kernel) (la_cons (le_lc (own := [("step", 1)]) rfl nd (li_seq (le_var 0 (pv 0))) (blkOk_by (N := N_steps_of) (sc := (defScope st_steps_of)) (by decide +kernel)) (fun _ _ _ _ _ => (lg_name (pg_name (i := 1) nd rfl (Or.inl rfl)))) (fun _ _ _ _ _ => lt_nil) (fun _ _ _ _ _ => (le_callC C_is_step (hr.mono (by decide)) rfl pass_w0 (la_cons (le_var 1 (pv 1)) la_nil) (alenS alen0)))) la_nil)))))))) (lss_one (ls_raise T.e_BadRoad T.g_BadRoad rfl (takes_of rfl rfl rfl rfl))) lss_nil)
    (lss_one (ls_ret (le_lc (own := [("word", 2), ("row", 3)]) rfl nd (li_seq (le_var 0 (pv 0))) (blkOk_by (N := N_steps_of) (sc := (defScope st_steps_of)) (by decide +kernel)) (fun _ _ _ _ _ => (lg_tup rfl (lg_cons (lg_name (pg_name (i := 2) nd rfl (Or.inl rfl))) (lg_cons (lg_name (pg_name (i := 3) nd rfl (Or.inl rfl))) lg_nil)))) (fun _ _ _ _ _ => lt_nil) (fun _ _ _ _ _ => (le_tup (la_cons (le_var 2 (pv 2)) (la_cons (le_callC C_row_of (hr.mono (by decide)) rfl pass_w0 (la_cons (le_var 3 (pv 3)) la_nil) (alenS alen0)) la_nil))))))))
/-! judged -/
abbrev st_judged : Stmt := top 32
def d_judged : He.DefD := ⟨("judged", none), "judged", "judged", defArgs st_judged, defBody st_judged, defScope st_judged, [], []⟩
abbrev N_judged : List Str := ["formula", "road", "rows", "steps", "step", "there"]
def g_judged : SS := (sSeq (sPar2 2 3 false false (eCall m_rows_of (aCons (eVar 0) aNil)) (eCall m_steps_of (aCons (eVar 1) aNil))) (sSeq (sBind (.tp [(.nm 4), (.nm 5)]) (eCall m_walked (aCons (eVar 2) (aCons (eVar 3) aNil)))) (sSeq (sIf (tV (e2 (dIsN false) (eVar 4) (eC .non))) (sRet (eC (.ins "Right" []))) sNil) (sSeq (sIf (tOr' (tV (e2 dEq (eVar 4) (eB dLen (aCons (eVar 3) aNil)))) (tV (e2 dEq (e2 dGet (e2 dGet (eVar 3) (eVar 4)) (eC (.int 0))) (eC (.str "drop"))))) (sRet (eMake "Wrong" i_Wrong (aCons (eVar 4) (aCons (eLst aNil) aNil)))) sNil) (sRet (eMake "Wrong" i_Wrong (aCons (eVar 4) (aCons (eCall m_closure (aCons (eVar 5) (aCons (e2 dGet (e2 dGet (eVar 3) (eVar 4)) (eC (.int 1))) aNil))) aNil))))))))
def m_judged : List D → R D := runD 6 g_judged
theorem sc_judged : FnScope N_judged ["formula", "road"] (defScope st_judged) := ⟨rfl, rfl, rfl, by decide +kernel, rfl, by decide +kernel, by decide +kernel⟩
theorem ok_judged {P : Program} {w : World} {K : PySem.W.Frag} {mg : Str → Option Value} {base : Heap} (T : Tx K mg) (F : DefAt K d_judged) (C_closure : Callee P w K mg base "closure" 2 2 m_closure) (C_rows_of : Callee P w K mg base "rows_of" 4 1 m_rows_of) (C_steps_of : Callee P w K mg base "steps_of" 5 1 m_steps_of) (C_walked : Callee P w K mg base "walked" 3 2 m_walked) (C_Wrong : MakeC P w K mg base "Wrong" 1 2 i_Wrong) : Callee P w K mg base "judged" 6 2 m_judged := by
  obtain ⟨fd, F⟩ := F.of
  refine callee_tw F T.glo_judged (sc_judged) (fun _ _ _ _ _ _ us hl => match us, hl with | [_, _], _ => rfl) fun cdv A outer s H E hr hx => ?_
  have nd : (N_judged).Nodup := (sc_judged).nd
  exact (lss_cons (ls_par2 (m := false) (n := false) rfl nd rfl rfl (by decide) rfl rfl (tm_f (le_callC C_rows_of (hr.mono (by decide)) rfl hx (la_cons (le_var 0 (pv 0)) la_nil) (alenS alen0))) (tm_f (le_callC C_steps_of (hr.mono (by decide)) rfl hx (la_cons (le_var 1 (pv 1)) la_nil) (alenS alen0))) rfl)
    (lss_cons (ls_bind (le_callC C_walked (hr.mono (by decide)) rfl hx (la_cons (le_var 2 (pv 2)) (la_cons (le_var 3 (pv 3)) la_nil)) (alenS (alenS alen0))) (lg_tup rfl (lg_cons (lg_name (pg_name (i := 4) nd rfl (Or.inl rfl))) (lg_cons (lg_name (pg_name (i := 5) nd rfl (Or.inl rfl))) lg_nil))))
    (lss_cons (ls_if (lt_cmp op_isN lift_isN (le_var 4 (pv 4)) le_non (nomark _)) (lss_one (ls_ret (le_mkp T.mkp_Right T.g_Right))) lss_nil)
    (lss_cons (ls_if (PW.pt (lw_or (lt_cmp (op_eqD (hu64 hr)) lift_eq (le_var 4 (pv 4)) (le_callB call_lenAll lift_len rfl T.n_len (by decide +kernel) (la_cons (le_var 3 (pv 3)) la_nil)) (nomark _)) (lw_or1 (lt_cmp (op_eqD (hu64 hr)) lift_eq (le_sub (hu_of hr) (le_sub (hu_of hr) (le_var 3 (pv 3)) (le_var 4 (pv 4)) (fun _ _ => rfl)) le_int (fun _ _ => rfl)) le_str (nomark _))))) (lss_one (ls_ret (le_make C_Wrong (hr.mono (by decide)) rfl (la_cons (le_var 4 (pv 4)) (la_cons (le_lst la_nil) la_nil)) (alenS (alenS alen0))))) lss_nil)
    (lss_one (ls_ret (le_make C_Wrong (hr.mono (by decide)) rfl (la_cons (le_var 4 (pv 4)) (la_cons (le_callC C_closure (hr.mono (by decide)) rfl hx (la_cons (le_var 5 (pv 5)) (la_cons (le_sub (hu_of hr) (le_sub (hu_of hr) (le_var 3 (pv 3)) (le_var 4 (pv 4)) (fun _ _ => rfl)) le_int (fun _ _ => rfl)) la_nil)) (alenS (alenS alen0))) la_nil)) (alenS (alenS alen0)))))))))
/-! right_steps -/
abbrev st_right_steps : Stmt := top 33
def d_right_steps : He.DefD := ⟨("right_steps", none), "right_steps", "right_steps", defArgs st_right_steps, defBody st_right_steps, defScope st_right_steps, [], []⟩
abbrev N_right_steps : List Str := ["formula", "road", "rows", "steps", "step", "there"]
def g_right_steps : SS := (sSeq (sPar2 2 3 false false (eCall m_rows_of (aCons (eVar 0) aNil)) (eCall m_steps_of (aCons (eVar 1) aNil))) (sSeq (sBind (.tp [(.nm 4), (.nm 5)]) (eCall m_walked (aCons (eVar 2) (aCons (eVar 3) aNil)))) (sSeq (sIf (tV (e2 (dIsN true) (eVar 4) (eC .non))) (sRaiseF "NotRight" "step" (eVar 4)) sNil) (sRet (eTup (aCons (eVar 2) (aCons (eVar 3) aNil)))))))
def m_right_steps : List D → R D := runD 6 g_right_steps
theorem sc_right_steps : FnScope N_right_steps ["formula", "road"] (defScope st_right_steps) := ⟨rfl, rfl, rfl, by decide +kernel, rfl, by decide +kernel, by decide +kernel⟩
theorem ok_right_steps {P : Program} {w : World} {K : PySem.W.Frag} {mg : Str → Option Value} {base : Heap} (T : Tx K mg) (F : DefAt K d_right_steps) (C_rows_of : Callee P w K mg base "rows_of" 4 1 m_rows_of) (C_steps_of : Callee P w K mg base "steps_of" 5 1 m_steps_of) (C_walked : Callee P w K mg base "walked" 3 2 m_walked) (J_NotRight : ErrI K "step" (He.ma K (He.ga K "NotRight") "__init__")) : Callee P w K mg base "right_steps" 6 2 m_right_steps := by
  obtain ⟨fd, F⟩ := F.of
  refine callee_tw F T.glo_right_steps (sc_right_steps) (fun _ _ _ _ _ _ us hl => match us, hl with | [_, _], _ => rfl) fun cdv A outer s H E hr hx => ?_
  have nd : (N_right_steps).Nodup := (sc_right_steps).nd
  exact (lss_cons (ls_par2 (m := false) (n := false) rfl nd rfl rfl (by decide) rfl rfl (tm_f (le_callC C_rows_of (hr.mono (by decide)) rfl hx (la_cons (le_var 0 (pv 0)) la_nil) (alenS alen0))) (tm_f (le_callC C_steps_of (hr.mono (by decide)) rfl hx (la_cons (le_var 1 (pv 1)) la_nil) (alenS alen0))) rfl)
    (lss_cons (ls_bind (le_callC C_walked (hr.mono (by decide)) rfl hx (la_cons (le_var 2 (pv 2)) (la_cons (le_var 3 (pv 3)) la_nil)) (alenS (alenS alen0))) (lg_tup rfl (lg_cons (lg_name (pg_name (i := 4) nd rfl (Or.inl rfl))) (lg_cons (lg_name (pg_name (i := 5) nd rfl (Or.inl rfl))) lg_nil))))
    (lss_cons (ls_if (lt_cmp op_notN lift_notN (le_var 4 (pv 4)) le_non (nomark _)) (lss_one (ls_raiseF T.et_NotRight J_NotRight T.g_NotRight hr rfl (takes_of rfl rfl rfl rfl) (le_var 4 (pv 4)))) lss_nil)
    (lss_one (ls_ret (le_tup (la_cons (le_var 2 (pv 2)) (la_cons (le_var 3 (pv 3)) la_nil))))))))
/-! lean -/
abbrev st_lean : Stmt := top 35
def d_lean : He.DefD := ⟨("lean", none), "lean", "lean", defArgs st_lean, defBody st_lean, defScope st_lean, [], []⟩
abbrev N_lean : List Str := ["formula", "road", "rows", "steps", "there", "found", "word", "row", "sign", "less", "other"]
def g_lean : SS := (sSeq (sBind (.tp [(.nm 2), (.nm 3)]) (eCall m_right_steps (aCons (eVar 0) (aCons (eVar 1) aNil)))) (sSeq (sPar2 4 5 true true (eB dLEnum (aCons (eVar 2) aNil)) (eLst aNil)) (sSeq (sFor (.tp [(.nm 6), (.nm 7)]) (iSeq (eVar 3)) (sIf (tV (e2 dEq (eVar 6) (eC (.str "row")))) (sSeq (sFor (.nm 8) (iSeq (eVar 7)) (sSeq (sSet 9 (eB dTuple (aCons (eComp [10] (.nm 10) (iSeq (eVar 7)) (tV (e2 dNe (eVar 10) (eVar 8))) (eVar 10)) aNil))) (sIf (tV (eCall m_follows (aCons (eVar 4) (aCons (eVar 9) aNil)))) (sSet 7 (eVar 9)) sNil))) (sSeq (sAppI 4 (eTup (aCons (eB dLen (aCons (eVar 4) aNil)) (aCons (eVar 7) aNil)))) (sApp 5 (eTup (aCons (eC (.str "row")) (aCons (eVar 7) aNil)))))) sNil)) (sRetO 5))))
def m_lean : List D → R D := runD 11 g_lean
def mF_lean : List D → R D := runF 11 g_lean
theorem sc_lean : FnScope N_lean ["formula", "road"] (defScope st_lean) := ⟨rfl, rfl, rfl, by decide +kernel, rfl, by decide +kernel, by decide +kernel⟩
theorem ok_lean {P : Program} {w : World} {K : PySem.W.Frag} {mg : Str → Option Value} {base : Heap} (T : Tx K mg) (F : DefAt K d_lean) (C_follows : Callee P w K mg base "follows" 2 2 m_follows) (C_right_steps : Callee P w K mg base "right_steps" 6 2 m_right_steps) : Callee P w K mg base "lean" 7 2 m_lean ∧ CalleeF P w K mg base "lean" 7 2 mF_lean := by
  obtain ⟨fd, F⟩ := F.of
  refine callee_twF F T.glo_lean (sc_lean) (fun _ _ _ _ _ _ us hl => match us, hl with | [_, _], _ => rfl) fun cdv A outer s H E hr hx => ?_
  have nd : (N_lean).Nodup := (sc_lean).nd
  exact (lss_cons (ls_bind (le_callC C_right_steps (hr.mono (by decide)) rfl hx (la_cons (le_var 0 (pv 0)) (la_cons (le_var 1 (pv 1)) la_nil)) (alenS (alenS alen0))) (lg_tup rfl (lg_cons (lg_name (pg_name (i := 2) nd rfl (Or.inl rfl))) (lg_cons (lg_name (pg_name (i := 3) nd rfl (Or.inl rfl))) lg_nil))))
    (lss_cons (ls_par2 (m := true) (n := true) rfl nd rfl rfl (by decide) rfl rfl (tm_t (lf_lenum rfl T.n_list T.n_enumerate (la_cons (le_var 2 (pv 2)) la_nil))) (tm_t (lf_lst la_nil)) rfl)
    (lss_cons (ls_for (passes_of rfl) rfl (li_seq (le_var 3 (pv 3))) (lg_tup rfl (lg_cons (lg_name (pg_name (i := 6) nd rfl (Or.inl rfl))) (lg_cons (lg_name (pg_name (i := 7) nd rfl (Or.inl rfl))) lg_nil))) (lss_one (ls_if (lt_cmp (op_eqD (hu64 hr)) lift_eq (le_var 6 (pv 6)) le_str (nomark _)) (lss_cons (ls_for (passes_of rfl) rfl (li_seq (le_var 7 (pv 7))) (lg_name (pg_name (i := 8) nd rfl (Or.inr rfl))) (lss_cons (ls_set nd rfl (Or.inl rfl) (le_callTy call_tuple_of lift_tuple rfl T.n_tuple (by decide +kernel) (la_cons (le_lc (own := [("other", 10)]) rfl nd (li_seq (le_var 7 (pv 7))) (blkOk_by (N := N_lean) (sc := (defScope st_lean)) (by decide +kernel)) (fun _ _ _ _ _ => (lg_name (pg_name (i := 10) nd rfl (Or.inl rfl)))) (fun _ _ _ _ _ => (lt_one (lt_cmp (op_neD (hu64 hr)) lift_ne (le_var 10 (pv 10)) (le_var 8 (pv 8)) (nomark _)))) (fun _ _ _ _ _ => (le_var 10 (pv 10)))) la_nil)))
    (lss_one (ls_if (lt_val (le_callC C_follows (hr.mono (by decide)) rfl hx (la_cons (le_var 4 (pv 4)) (la_cons (le_var 9 (pv 9)) la_nil)) (alenS (alenS alen0)))) (lss_one (ls_set nd rfl (Or.inl rfl) (le_var 9 (pv 9)))) lss_nil))))
    (lss_cons (ls_appI (pv 4) (le_tup (la_cons (le_callB call_lenAll lift_len rfl T.n_len (by decide +kernel) (la_cons (le_var 4 (pv 4)) la_nil)) (la_cons (le_var 7 (pv 7)) la_nil))))
    (lss_one (ls_app (pv 5) (le_tup (la_cons le_str (la_cons (le_var 7 (pv 7)) la_nil))))))) lss_nil)))
    (lss_one (ls_retO (pv 5))))))
/-! _law_refused -/
abbrev st__law_refused : Stmt := top 47
def d__law_refused : He.DefD := ⟨("_law_refused", none), "_law_refused", "_law_refused", defArgs st__law_refused, defBody st__law_refused, defScope st__law_refused, [], []⟩
abbrev N__law_refused : List Str := ["_law_rows_here", "_law_steps", "error"]
def g__law_refused : SS := (sSeq (sTryE tbX "NotRight" 2 (eCall m_lean (aCons (eVar 0) (aCons (eVar 1) aNil))) (fun x a o => (sRet (eIf (tV (eXIs tbX x a o "BadRoad" (eVar 2))) (e1 dNeg (eC (.int 9))) (eXF E_step x a o "step" (eVar 2)))))) (sRet (e1 dNeg (eC (.int 1)))))
def m__law_refused : List D → R D := runD 3 g__law_refused
theorem sc__law_refused : FnScope N__law_refused ["_law_rows_here", "_law_steps"] (defScope st__law_refused) := ⟨rfl, rfl, rfl, by decide +kernel, rfl, by decide +kernel, by decide +kernel⟩
theorem ok__law_refused {P : Program} {w : World} {K : PySem.W.Frag} {mg : Str → Option Value} {base : Heap} (T : Tx K mg) (F : DefAt K d__law_refused) (C_lean : Callee P w K mg base "lean" 7 2 m_lean) : Callee P w K mg base "_law_refused" 8 2 m__law_refused := by
  obtain ⟨fd, F⟩ := F.of
  refine callee_tw F T.glo__law_refused (sc__law_refused) (fun _ _ _ _ _ _ us hl => match us, hl with | [_, _], _ => rfl) fun cdv A outer s H E hr hx => ?_
  have nd : (N__law_refused).Nodup := (sc__law_refused).nd
  exact (lss_cons (ls_tryE (i := 2) (h := fun x a o => (sRet (eIf (tV (eXIs tbX x a o "BadRoad" (eVar 2))) (e1 dNeg (eC (.int 9))) (eXF E_step x a o "step" (eVar 2))))) T.xt (by decide) rfl rfl nd rfl rfl T.g_NotRight (takes_of rfl rfl rfl rfl) (fun W pn xe hx => (le_callC C_lean (hr.mono (by decide)) rfl hx (la_cons (le_var 0 (pv 0)) (la_cons (le_var 1 (pv 1)) la_nil)) (alenS (alenS alen0)))) (fun x a o oe cls d pn h => (lss_one (ls_ret (le_if (lt_val (le_isX T.xt (by decide) h (le_var 2 (pv 2)) T.n_isinstance T.g_BadRoad)) (le_un un_neg lift_neg le_int) (le_exF T.xf_step h (le_var 2 (pv 2))))))))
    (lss_one (ls_ret (le_un un_neg lift_neg le_int))))
/-! law -/
abbrev st_law : Stmt := top 49
def d_law : He.DefD := ⟨("law", none), "law", "law", defArgs st_law, defBody st_law, defScope st_law, [], []⟩
abbrev N_law : List Str := ["_law_script", "_law_whole", "_law_by", "_law_rows_here", "_law_marks", "_law_steps", "_law_again", "_law_handed", "_law_found", "_law_spot", "_law_other", "_law_word", "_law_row_here"]
def g_law : SS := (sSeq (sSet 1 (eB dAbs (aCons (eB dSum (aCons (eSl (eVar 0) oNone (oSome (eC (.int 63)))) aNil)) aNil))) (sSeq (sFor (.nm 2) (iRg dRng1 (aCons (eC (.int 4)) aNil)) (sSeq (sBind (.tp [(.nm 3), (.nm 4)]) (eCall m__law_rows (aCons (eVar 0) (aCons (eVar 2) aNil)))) (sSeq (sSet 5 (eCall m__law_road (aCons (eVar 3) (aCons (eVar 4) (aCons (e2 dFdiv (eVar 1) (e2 dAdd (eC (.int 1)) (eVar 2))) aNil))))) (sSeq (sIf (tV (e2 (dIsN false) (eVar 5) (eC .non))) (sSeq (sSet 3 (e2 dAdd (eSl (eVar 3) oNone (oSome (eC (.int 14)))) (eLst (aCons (eLst (aCons (eC (.int 1)) aNil)) (aCons (eLst (aCons (e1 dNeg (eC (.int 1))) aNil)) aNil))))) (sSet 5 (eCall m__law_road (aCons (eVar 3) (aCons (eVar 4) (aCons (e2 dFdiv (eVar 1) (e2 dAdd (eC (.int 1)) (eVar 2))) aNil)))))) sNil) (sSeq (sSet 5 (eCall m__law_wider (aCons (eVar 3) (aCons (eVar 5) (aCons (eVar 4) (aCons (e2 dFdiv (eVar 1) (e2 dAdd (eC (.int 3)) (eVar 2))) aNil)))))) (sSeq (sFor (.nm 6) (iRg dRng1 (aCons (eC (.int 2)) aNil)) (sSeq (sSet 7 (eComp [11, 12] (.tp [(.nm 11), (.nm 12)]) (iSeq (eVar 5)) tTrue (eTup (aCons (eVar 11) (aCons (eB dList (aCons (eVar 12) aNil)) aNil))))) (sSeq (sFz [8] (sSetF 8 (eCall mF_lean (aCons (eVar 3) (aCons (eVar 7) aNil))))) (sSeq (sIf (tOr' (tNo (tV (eCall m__law_lean_right (aCons (eVar 3) (aCons (eVar 5) (aCons (eVar 8) aNil)))))) (tV (e2 dNe (eVar 7) (eComp [11, 12] (.tp [(.nm 11), (.nm 12)]) (iSeq (eVar 5)) tTrue (eTup (aCons (eVar 11) (aCons (eB dList (aCons (eVar 12) aNil)) aNil))))))) (sRet (eC (.bl false))) sNil) (sSeq (sIf (tOr' (tV (e2 dNe (eCall m_lean (aCons (eVar 3) (aCons (eVar 8) aNil))) (eVar 8))) (tNo (tV (e1 (dIsO tbC "Right") (eCall m_judged (aCons (eVar 3) (aCons (eVar 8) aNil))))))) (sRet (eC (.bl false))) sNil) (sClear 8)))))) (sSeq (sSet 9 (e2 dMod (e2 dFdiv (eVar 1) (eC (.int 7))) (eB dLen (aCons (eVar 5) aNil)))) (sFor (.nm 10) (iSeq (eTup (aCons (e2 dAdd (eSl (eVar 5) oNone (oSome (eVar 9))) (eSl (eVar 5) (oSome (e2 dAdd (eVar 9) (eC (.int 1)))) oNone)) (aCons (eSl (eVar 5) oNone (oSome (e1 dNeg (eC (.int 1))))) aNil)))) (sIf (tV (e2 dNe (eCall m__law_refused (aCons (eVar 3) (aCons (eVar 10) aNil))) (e2 dGet (eCall m__law_walked (aCons (eVar 3) (aCons (eVar 10) aNil))) (eC (.int 0))))) (sRet (eC (.bl false))) sNil))))))))) (sSeq (sSet 3 (eLst (aCons (eLst (aCons (eC (.int 1)) (aCons (eC (.int 2)) aNil))) (aCons (eLst (aCons (e1 dNeg (eC (.int 1))) (aCons (eC (.int 2)) aNil))) (aCons (eLst (aCons (e1 dNeg (eC (.int 2))) (aCons (eC (.int 3)) aNil))) (aCons (eLst (aCons (e1 dNeg (eC (.int 3))) aNil)) aNil)))))) (sSeq (sFz [8] (sSetF 8 (eCall mF_lean (aCons (eVar 3) (aCons (eLst (aCons (eTup (aCons (eC (.str "row")) (aCons (eLst (aCons (eC (.int 2)) (aCons (eC (.int 3)) aNil))) aNil))) (aCons (eTup (aCons (eC (.str "drop")) (aCons (eLst (aCons (eC (.int 1)) (aCons (eC (.int 2)) aNil))) aNil))) (aCons (eTup (aCons (eC (.str "row")) (aCons (eLst aNil) aNil))) aNil)))) aNil))))) (sRet (eAn (e2 dEq (eVar 8) (eLst (aCons (eTup (aCons (eC (.str "row")) (aCons (eTup aNil) aNil))) (aCons (eTup (aCons (eC (.str "row")) (aCons (eTup aNil) aNil))) aNil)))) (e2 dEq (eCall m_lean (aCons (eVar 3) (aCons (eLst (aCons (eTup (aCons (eC (.str "row")) (aCons (eLst aNil) aNil))) aNil)) aNil))) (eLst (aCons (eTup (aCons (eC (.str "row")) (aCons (eTup aNil) aNil))) aNil)))))))))
def m_law : List D → R D := runD 13 g_law
theorem sc_law : FnScope N_law ["_law_script"] (defScope st_law) := ⟨rfl, rfl, rfl, by decide +kernel, rfl, by decide +kernel, by decide +kernel⟩
theorem ok_law {P : Program} {w : World} {K : PySem.W.Frag} {mg : Str → Option Value} {base : Heap} {fd : FuncData} (T : Tx K mg) (F : FunD K d_law.name d_law.qual d_law.params d_law.body d_law.scope (d_law.dvs K) (d_law.kws K) (He.fAd K d_law.at_) fd) (C__law_lean_right : Callee P w K mg base "_law_lean_right" 3 3 m__law_lean_right) (C__law_refused : Callee P w K mg base "_law_refused" 8 2 m__law_refused) (C__law_road : Callee P w K mg base "_law_road" 4 3 m__law_road) (C__law_rows : Callee P w K mg base "_law_rows" 2 2 m__law_rows) (C__law_walked : Callee P w K mg base "_law_walked" 3 2 m__law_walked) (C__law_wider : Callee P w K mg base "_law_wider" 4 4 m__law_wider) (C_judged : Callee P w K mg base "judged" 6 2 m_judged) (C_lean : Callee P w K mg base "lean" 7 2 m_lean) (CF_lean : CalleeF P w K mg base "lean" 7 2 mF_lean) : FnOk P w K mg base (L2.CX P w) 9 (He.ga K "law") fd ["_law_script"] (spD K 1 m_law) := by
  refine fnok_tw F (sc_law) fun cdv A outer s H E hr hx => ?_
  have nd : (N_law).Nodup := (sc_law).nd
  exact (lss_cons (ls_set nd rfl (Or.inl rfl) (le_callB call_abs lift_abs rfl T.n_abs (by decide +kernel) (la_cons (le_callB (cr_sum rfl) lift_sum rfl T.n_sum (by decide +kernel) (la_cons (le_slice (le_var 0 (pv 0)) lo_none (lo_some le_int)) la_nil)) la_nil)))
    (lss_cons (ls_for (passes_of rfl) rfl (li_range1 rfl T.n_range (la_cons le_int la_nil)) (lg_name (pg_name (i := 2) nd rfl (Or.inl rfl))) (lss_cons (ls_bind (le_callC C__law_rows (hr.mono (by decide)) rfl hx (la_cons (le_var 0 (pv 0)) (la_cons (le_var 2 (pv 2)) la_nil)) (alenS (alenS alen0))) (lg_tup rfl (lg_cons (lg_name (pg_name (i := 3) nd rfl (Or.inl rfl))) (lg_cons (lg_name (pg_name (i := 4) nd rfl (Or.inl rfl))) lg_nil))))
    (lss_cons (ls_set nd rfl (Or.inl rfl) (le_callC C__law_road (hr.mono (by decide)) rfl hx (la_cons (le_var 3 (pv 3)) (la_cons (le_var 4 (pv 4)) (la_cons (le_op op_fdivN lift_fdiv (le_var 1 (pv 1)) (le_op op_addAll lift_add le_int (le_var 2 (pv 2)))) la_nil))) (alenS (alenS (alenS alen0)))))
    (lss_cons (ls_if (lt_cmp op_isN lift_isN (le_var 5 (pv 5)) le_non (nomark _)) (lss_cons (ls_set nd rfl (Or.inl rfl) (le_op op_addAll lift_add (le_slice (le_var 3 (pv 3)) lo_none (lo_some le_int)) (le_lst (la_cons (le_lst (la_cons le_int la_nil)) (la_cons (le_lst (la_cons (le_un un_neg lift_neg le_int) la_nil)) la_nil)))))
    (lss_one (ls_set nd rfl (Or.inl rfl) (le_callC C__law_road (hr.mono (by decide)) rfl hx (la_cons (le_var 3 (pv 3)) (la_cons (le_var 4 (pv 4)) (la_cons (le_op op_fdivN lift_fdiv (le_var 1 (pv 1)) (le_op op_addAll lift_add le_int (le_var 2 (pv 2)))) la_nil))) (alenS (alenS (alenS alen0))))))) lss_nil)
    (lss_cons (ls_set nd rfl (Or.inl rfl) (le_callC C__law_wider (hr.mono (by decide)) rfl hx (la_cons (le_var 3 (pv 3)) (la_cons (le_var 5 (pv 5)) (la_cons (le_var 4 (pv 4)) (la_cons (le_op op_fdivN lift_fdiv (le_var 1 (pv 1)) (le_op op_addAll lift_add le_int (le_var 2 (pv 2)))) la_nil)))) (alenS (alenS (alenS (alenS alen0))))))
    (lss_cons (ls_for (passes_of rfl) rfl (li_range1 rfl T.n_range (la_cons le_int la_nil)) (lg_name (pg_name (i := 6) nd rfl (Or.inl rfl))) (lss_cons (ls_setLc (i := 7) (own := [("_law_word", 11), ("_law_row_here", 12)]) rfl nd rfl rfl (sw_true rfl rfl rfl (by decide +kernel)) (li_seq (le_var 5 (pv 5))) (blkOk_by (N := N_law) (sc := (defScope st_law)) (by decide +kernel)) (fun _ _ _ _ _ => (lg_tup rfl (lg_cons (lg_name (pg_name (i := 11) nd rfl (Or.inl rfl))) (lg_cons (lg_name (pg_name (i := 12) nd rfl (Or.inl rfl))) lg_nil)))) (fun _ _ _ _ _ => lt_nil) (fun _ _ _ _ _ => (le_tup (la_cons (le_var 11 (pv 11)) (la_cons (le_callTy (call_listAll rfl) lift_list rfl T.n_list (by decide +kernel) (la_cons (le_var 12 (pv 12)) la_nil)) la_nil)))))
    (lss_cons (ls_fz [8] (ls_setF nd rfl (Or.inl rfl) (le_callF CF_lean (hr.mono (by decide)) rfl hx (la_cons (le_var 3 (pv 3)) (la_cons (le_var 7 (pv 7)) la_nil)) (alenS (alenS alen0)))))
    (lss_cons (ls_if (PW.pt (lw_or (lt_not (lt_val (le_callC C__law_lean_right (hr.mono (by decide)) rfl hx (la_cons (le_var 3 (pv 3)) (la_cons (le_var 5 (pv 5)) (la_cons (le_var 8 (pv 8)) la_nil))) (alenS (alenS (alenS alen0)))))) (lw_or1 (lt_cmp (op_neD (hu64 hr)) lift_ne (le_var 7 (pv 7)) (le_lc (own := [("_law_word", 11), ("_law_row_here", 12)]) rfl nd (li_seq (le_var 5 (pv 5))) (blkOk_by (N := N_law) (sc := (defScope st_law)) (by decide +kernel)) (fun _ _ _ _ _ => (lg_tup rfl (lg_cons (lg_name (pg_name (i := 11) nd rfl (Or.inl rfl))) (lg_cons (lg_name (pg_name (i := 12) nd rfl (Or.inl rfl))) lg_nil)))) (fun _ _ _ _ _ => lt_nil) (fun _ _ _ _ _ => (le_tup (la_cons (le_var 11 (pv 11)) (la_cons (le_callTy (call_listAll rfl) lift_list rfl T.n_list (by decide +kernel) (la_cons (le_var 12 (pv 12)) la_nil)) la_nil))))) (nomark _))))) (lss_one (ls_ret le_bl)) lss_nil)
    (lss_cons (ls_if (PW.pt (lw_or (lt_cmp (op_neD (hu64 hr)) lift_ne (le_callC C_lean (hr.mono (by decide)) rfl hx (la_cons (le_var 3 (pv 3)) (la_cons (le_var 8 (pv 8)) la_nil)) (alenS (alenS alen0))) (le_var 8 (pv 8)) (nomark _)) (lw_or1 (lt_not (lt_val (le_isO T.kt (by decide) T.n_isinstance T.g_Right (le_callC C_judged (hr.mono (by decide)) rfl hx (la_cons (le_var 3 (pv 3)) (la_cons (le_var 8 (pv 8)) la_nil)) (alenS (alenS alen0))))))))) (lss_one (ls_ret le_bl)) lss_nil)
    (lss_one (ls_clear (pv 8))))))))
    (lss_cons (ls_set nd rfl (Or.inl rfl) (le_op op_modN lift_mod (le_op op_fdivN lift_fdiv (le_var 1 (pv 1)) le_int) (le_callB call_lenAll lift_len rfl T.n_len (by decide +kernel) (la_cons (le_var 5 (pv 5)) la_nil))))
    (lss_one (ls_for (passes_of rfl) rfl (li_seq (le_tup (la_cons (le_op op_addAll lift_add (le_slice (le_var 5 (pv 5)) lo_none (lo_some (le_var 9 (pv 9)))) (le_slice (le_var 5 (pv 5)) (lo_some (le_op op_addAll lift_add (le_var 9 (pv 9)) le_int)) lo_none)) (la_cons (le_slice (le_var 5 (pv 5)) lo_none (lo_some (le_un un_neg lift_neg le_int))) la_nil)))) (lg_name (pg_name (i := 10) nd rfl (Or.inl rfl))) (lss_one (ls_if (lt_cmp (op_neD (hu64 hr)) lift_ne (le_callC C__law_refused (hr.mono (by decide)) rfl hx (la_cons (le_var 3 (pv 3)) (la_cons (le_var 10 (pv 10)) la_nil)) (alenS (alenS alen0))) (le_sub (hu_of hr) (le_callC C__law_walked (hr.mono (by decide)) rfl hx (la_cons (le_var 3 (pv 3)) (la_cons (le_var 10 (pv 10)) la_nil)) (alenS (alenS alen0))) le_int (fun _ _ => rfl)) (nomark _)) (lss_one (ls_ret le_bl)) lss_nil)))))))))))
    (lss_cons (ls_set nd rfl (Or.inl rfl) (le_lst (la_cons (le_lst (la_cons le_int (la_cons le_int la_nil))) (la_cons (le_lst (la_cons (le_un un_neg lift_neg le_int) (la_cons le_int la_nil))) (la_cons (le_lst (la_cons (le_un un_neg lift_neg le_int) (la_cons le_int la_nil))) (la_cons (le_lst (la_cons (le_un un_neg lift_neg le_int) la_nil)) la_nil))))))
    (lss_cons (ls_fz [8] (ls_setF nd rfl (Or.inl rfl) (le_callF CF_lean (hr.mono (by decide)) rfl hx (la_cons (le_var 3 (pv 3)) (la_cons (le_lst (la_cons (le_tup (la_cons le_str (la_cons (le_lst (la_cons le_int (la_cons le_int la_nil))) la_nil))) (la_cons (le_tup (la_cons le_str (la_cons (le_lst (la_cons le_int (la_cons le_int la_nil))) la_nil))) (la_cons (le_tup (la_cons le_str (la_cons (le_lst la_nil) la_nil))) la_nil)))) la_nil)) (alenS (alenS alen0)))))
    (lss_one (ls_ret (le_and (le_cmp (op_eqD (hu64 hr)) lift_eq (le_var 8 (pv 8)) (le_lst (la_cons (le_tup (la_cons le_str (la_cons (le_tup la_nil) la_nil))) (la_cons (le_tup (la_cons le_str (la_cons (le_tup la_nil) la_nil))) la_nil))) (nomark _)) (le_one (le_cmp (op_eqD (hu64 hr)) lift_eq (le_callC C_lean (hr.mono (by decide)) rfl hx (la_cons (le_var 3 (pv 3)) (la_cons (le_lst (la_cons (le_tup (la_cons le_str (la_cons (le_lst la_nil) la_nil))) la_nil)) la_nil)) (alenS (alenS alen0))) (le_lst (la_cons (le_tup (la_cons le_str (la_cons (le_tup la_nil) la_nil))) la_nil)) (nomark _))))))))))
/-! ### the head -/
def fnL : List He.DefD := ([d_NotRight___init__, d_Wrong___init__, d_opposites, d_forced, d_is_whole, d_is_list, d_row_of, d_last_with, d_without, d__law_number, d__law_row, d__law_told, d__law_forced, d_follows, d_closure, d_is_sign, d__law_rows, d__law_follows, d__law_tree, d_is_row, d_walked, d__law_walked, d__law_lean_right, d_is_step, d_rows_of, d__law_road, d__law_wider, d_steps_of, d_judged, d_right_steps] : List He.DefD) ++ ([d_lean, d__law_refused, d_law] : List He.DefD)
def faL : List He.Fa := ([.free "abs", .free "all", .free "any", .free "bool", .free "enumerate", .free "int", .free "isinstance", .free "len", .free "list", .free "min", .free "range", .free "sorted", .free "str", .free "sum", .free "tuple", .free "zip", .int "MOST_MARKS" 6, .int "MOST_ROWS" 16, .int "MOST_STEPS" 100, .mkr "Wrong", .glo "opposites", .glo "forced", .glo "is_whole", .glo "is_list", .glo "row_of", .glo "last_with", .glo "without", .glo "_law_number", .glo "_law_row", .glo "_law_told"] : List He.Fa) ++ ([.glo "_law_forced", .glo "follows", .glo "closure", .glo "is_sign", .glo "_law_rows", .glo "_law_follows", .glo "_law_tree", .glo "is_row", .glo "walked", .glo "_law_walked", .glo "_law_lean_right", .glo "is_step", .glo "rows_of", .glo "_law_road", .glo "_law_wider", .glo "steps_of", .glo "judged", .glo "right_steps", .glo "lean", .glo "_law_refused", .glo "law", .cls "Wrong", .glo "BadFormula", .glo "BadRoad", .glo "NotRight", .glo "Right", .glo "SlipError", .glo "Wrong"] : List He.Fa)
def ckL : List (PySem.W.Frag → Bool) := ([errCk "BadFormula", errCk "BadRoad", errTCk "NotRight" "step", fldCk F_signs "signs", fldCk F_step "step", ktCk tbC nmC, mkpCk "Right", xfCk E_step "step", xtCk tbX nmX] : List (PySem.W.Frag → Bool))
theorem tx_of {K : PySem.W.Frag} {h : Heap} {mg : Str → Option Value} (X : K.In h) (G : h.Ns mainGlobals mg) (c : He.SaysD faL fnL K) (k : ckAll ckL K = true) : Tx K mg where
  e_BadFormula := err_of (ckAll.fact k 0 (c := errCk "BadFormula") rfl)
  e_BadRoad := err_of (ckAll.fact k 1 (c := errCk "BadRoad") rfl)
  et_NotRight := errT_of (ckAll.fact k 2 (c := errTCk "NotRight" "step") rfl)
  f_signs := fld_of (ckAll.fact k 3 (c := fldCk F_signs "signs") rfl)
  f_step := fld_of (ckAll.fact k 4 (c := fldCk F_step "step") rfl)
  n_abs := He.free_ok X G (c.fact 0 (f := .free "abs") rfl)
  n_all := He.free_ok X G (c.fact 1 (f := .free "all") rfl)
  n_any := He.free_ok X G (c.fact 2 (f := .free "any") rfl)
  n_bool := He.free_ok X G (c.fact 3 (f := .free "bool") rfl)
  n_enumerate := He.free_ok X G (c.fact 4 (f := .free "enumerate") rfl)
  n_int := He.free_ok X G (c.fact 5 (f := .free "int") rfl)
  n_isinstance := He.free_ok X G (c.fact 6 (f := .free "isinstance") rfl)
  n_len := He.free_ok X G (c.fact 7 (f := .free "len") rfl)
  n_list := He.free_ok X G (c.fact 8 (f := .free "list") rfl)
  n_min := He.free_ok X G (c.fact 9 (f := .free "min") rfl)
  n_range := He.free_ok X G (c.fact 10 (f := .free "range") rfl)
  n_sorted := He.free_ok X G (c.fact 11 (f := .free "sorted") rfl)
  n_str := He.free_ok X G (c.fact 12 (f := .free "str") rfl)
  n_sum := He.free_ok X G (c.fact 13 (f := .free "sum") rfl)
  n_tuple := He.free_ok X G (c.fact 14 (f := .free "tuple") rfl)
  n_zip := He.free_ok X G (c.fact 15 (f := .free "zip") rfl)
  c_MOST_MARKS := He.int_ok X G (c.fact 16 (f := .int "MOST_MARKS" 6) rfl)
  c_MOST_ROWS := He.int_ok X G (c.fact 17 (f := .int "MOST_ROWS" 16) rfl)
  c_MOST_STEPS := He.int_ok X G (c.fact 18 (f := .int "MOST_STEPS" 100) rfl)
  kt := kt_of (ckAll.fact k 5 (c := ktCk tbC nmC) rfl)
  mkp_Right := mkp_of (ckAll.fact k 6 (c := mkpCk "Right") rfl)
  xf_step := xf_of (ckAll.fact k 7 (c := xfCk E_step "step") rfl)
  xt := xt_of (ckAll.fact k 8 (c := xtCk tbX nmX) rfl)
  mk_Wrong := He.mkr_ok (c.fact 19 (f := .mkr "Wrong") rfl)
  glo_opposites := He.glo_ok X G (c.fact 20 (f := .glo "opposites") rfl)
  glo_forced := He.glo_ok X G (c.fact 21 (f := .glo "forced") rfl)
  glo_is_whole := He.glo_ok X G (c.fact 22 (f := .glo "is_whole") rfl)
  glo_is_list := He.glo_ok X G (c.fact 23 (f := .glo "is_list") rfl)
  glo_row_of := He.glo_ok X G (c.fact 24 (f := .glo "row_of") rfl)
  glo_last_with := He.glo_ok X G (c.fact 25 (f := .glo "last_with") rfl)
  glo_without := He.glo_ok X G (c.fact 26 (f := .glo "without") rfl)
  glo__law_number := He.glo_ok X G (c.fact 27 (f := .glo "_law_number") rfl)
  glo__law_row := He.glo_ok X G (c.fact 28 (f := .glo "_law_row") rfl)
  glo__law_told := He.glo_ok X G (c.fact 29 (f := .glo "_law_told") rfl)
  glo__law_forced := He.glo_ok X G (c.fact 30 (f := .glo "_law_forced") rfl)
  glo_follows := He.glo_ok X G (c.fact 31 (f := .glo "follows") rfl)
  glo_closure := He.glo_ok X G (c.fact 32 (f := .glo "closure") rfl)
  glo_is_sign := He.glo_ok X G (c.fact 33 (f := .glo "is_sign") rfl)
  glo__law_rows := He.glo_ok X G (c.fact 34 (f := .glo "_law_rows") rfl)
  glo__law_follows := He.glo_ok X G (c.fact 35 (f := .glo "_law_follows") rfl)
  glo__law_tree := He.glo_ok X G (c.fact 36 (f := .glo "_law_tree") rfl)
  glo_is_row := He.glo_ok X G (c.fact 37 (f := .glo "is_row") rfl)
  glo_walked := He.glo_ok X G (c.fact 38 (f := .glo "walked") rfl)
  glo__law_walked := He.glo_ok X G (c.fact 39 (f := .glo "_law_walked") rfl)
  glo__law_lean_right := He.glo_ok X G (c.fact 40 (f := .glo "_law_lean_right") rfl)
  glo_is_step := He.glo_ok X G (c.fact 41 (f := .glo "is_step") rfl)
  glo_rows_of := He.glo_ok X G (c.fact 42 (f := .glo "rows_of") rfl)
  glo__law_road := He.glo_ok X G (c.fact 43 (f := .glo "_law_road") rfl)
  glo__law_wider := He.glo_ok X G (c.fact 44 (f := .glo "_law_wider") rfl)
  glo_steps_of := He.glo_ok X G (c.fact 45 (f := .glo "steps_of") rfl)
  glo_judged := He.glo_ok X G (c.fact 46 (f := .glo "judged") rfl)
  glo_right_steps := He.glo_ok X G (c.fact 47 (f := .glo "right_steps") rfl)
  glo_lean := He.glo_ok X G (c.fact 48 (f := .glo "lean") rfl)
  glo__law_refused := He.glo_ok X G (c.fact 49 (f := .glo "_law_refused") rfl)
  glo_law := He.glo_ok X G (c.fact 50 (f := .glo "law") rfl)
  cls_Wrong := He.cls_ok (c.fact 51 (f := .cls "Wrong") rfl)
  g_BadFormula := He.glo_ok X G (c.fact 52 (f := .glo "BadFormula") rfl)
  g_BadRoad := He.glo_ok X G (c.fact 53 (f := .glo "BadRoad") rfl)
  g_NotRight := He.glo_ok X G (c.fact 54 (f := .glo "NotRight") rfl)
  g_Right := He.glo_ok X G (c.fact 55 (f := .glo "Right") rfl)
  g_SlipError := He.glo_ok X G (c.fact 56 (f := .glo "SlipError") rfl)
  g_Wrong := He.glo_ok X G (c.fact 57 (f := .glo "Wrong") rfl)
theorem facts {P : Program} {w : World} {K : PySem.W.Frag} {h : Heap} {mg : Str → Option Value} {f : Addr} (X : K.In h) (G : h.Ns mainGlobals mg) (hfa : mg ("law" : Str) = some (.ref f)) (c : He.SaysD faL fnL K) (k : ckAll ckL K = true) :
    ∃ fd : FuncData, (∀ (s : Shared) (v : Value), BindsTo s fd ⟨[v], []⟩ [("_law_script", v)]) ∧ ∀ base : Heap, FnOk P w K mg base (L2.CX P w) 9 f fd ["_law_script"] (spD K 1 m_law) := by
  have T := tx_of X G c k
  have e := hfa.symm.trans T.glo_law
  cases e
  obtain ⟨fd, F⟩ := c.def_ 32 (d := d_law) rfl
  have b := FunD.bindsA (ps := ["_law_script"]) F fun _ _ _ _ _ _ us hl => match us, hl with | [_], _ => rfl
  refine ⟨fd, fun s v => b s [v] rfl, fun base => ?_⟩
  have J_NotRight := ok_NotRight___init__ (P := P) (w := w) (mg := mg) (base := base) T ⟨c.def_ 0 (d := d_NotRight___init__) rfl⟩
  have C_Wrong := ok_Wrong___init__ (P := P) (w := w) (mg := mg) (base := base) T ⟨c.def_ 1 (d := d_Wrong___init__) rfl⟩ 
  have C_opposites := ok_opposites (P := P) (w := w) (mg := mg) (base := base) T ⟨c.def_ 2 (d := d_opposites) rfl⟩ 
  have C_forced := ok_forced (P := P) (w := w) (mg := mg) (base := base) T ⟨c.def_ 3 (d := d_forced) rfl⟩ 
  have C_is_whole := ok_is_whole (P := P) (w := w) (mg := mg) (base := base) T ⟨c.def_ 4 (d := d_is_whole) rfl⟩ 
  have C_is_list := ok_is_list (P := P) (w := w) (mg := mg) (base := base) T ⟨c.def_ 5 (d := d_is_list) rfl⟩ 
  have C_row_of := ok_row_of (P := P) (w := w) (mg := mg) (base := base) T ⟨c.def_ 6 (d := d_row_of) rfl⟩ 
  have C_last_with := ok_last_with (P := P) (w := w) (mg := mg) (base := base) T ⟨c.def_ 7 (d := d_last_with) rfl⟩ 
  have C_without := ok_without (P := P) (w := w) (mg := mg) (base := base) T ⟨c.def_ 8 (d := d_without) rfl⟩ 
  have C__law_number := ok__law_number (P := P) (w := w) (mg := mg) (base := base) T ⟨c.def_ 9 (d := d__law_number) rfl⟩ 
  have C__law_row := ok__law_row (P := P) (w := w) (mg := mg) (base := base) T ⟨c.def_ 10 (d := d__law_row) rfl⟩ 
  have C__law_told := ok__law_told (P := P) (w := w) (mg := mg) (base := base) T ⟨c.def_ 11 (d := d__law_told) rfl⟩ 
  have C__law_forced := ok__law_forced (P := P) (w := w) (mg := mg) (base := base) T ⟨c.def_ 12 (d := d__law_forced) rfl⟩ 
  have C_follows := ok_follows (P := P) (w := w) (mg := mg) (base := base) T ⟨c.def_ 13 (d := d_follows) rfl⟩ C_forced C_opposites
  have C_closure := ok_closure (P := P) (w := w) (mg := mg) (base := base) T ⟨c.def_ 14 (d := d_closure) rfl⟩ C_forced C_opposites
  have C_is_sign := ok_is_sign (P := P) (w := w) (mg := mg) (base := base) T ⟨c.def_ 15 (d := d_is_sign) rfl⟩ C_is_whole
  have C__law_rows := ok__law_rows (P := P) (w := w) (mg := mg) (base := base) T ⟨c.def_ 16 (d := d__law_rows) rfl⟩ C__law_number C__law_row
  have C__law_follows := ok__law_follows (P := P) (w := w) (mg := mg) (base := base) T ⟨c.def_ 17 (d := d__law_follows) rfl⟩ C__law_forced
  have C__law_tree := ok__law_tree (P := P) (w := w) (mg := mg) (base := base) T ⟨c.def_ 18 (d := d__law_tree) rfl⟩ C__law_forced
  have C_is_row := ok_is_row (P := P) (w := w) (mg := mg) (base := base) T ⟨c.def_ 19 (d := d_is_row) rfl⟩ C_is_list C_is_sign
  have C_walked := ok_walked (P := P) (w := w) (mg := mg) (base := base) T ⟨c.def_ 20 (d := d_walked) rfl⟩ C_follows C_last_with C_without
  have C__law_walked := ok__law_walked (P := P) (w := w) (mg := mg) (base := base) T ⟨c.def_ 21 (d := d__law_walked) rfl⟩ C__law_follows C__law_told
  have C__law_lean_right := ok__law_lean_right (P := P) (w := w) (mg := mg) (base := base) T ⟨c.def_ 22 (d := d__law_lean_right) rfl⟩ C__law_follows C__law_told
  have C_is_step := ok_is_step (P := P) (w := w) (mg := mg) (base := base) T ⟨c.def_ 23 (d := d_is_step) rfl⟩ C_is_row
  have C_rows_of := ok_rows_of (P := P) (w := w) (mg := mg) (base := base) T ⟨c.def_ 24 (d := d_rows_of) rfl⟩ C_is_row C_row_of
  have C__law_road := ok__law_road (P := P) (w := w) (mg := mg) (base := base) T ⟨c.def_ 25 (d := d__law_road) rfl⟩ C__law_number C__law_row C__law_tree C__law_walked
  have C__law_wider := ok__law_wider (P := P) (w := w) (mg := mg) (base := base) T ⟨c.def_ 26 (d := d__law_wider) rfl⟩ C__law_walked
  have C_steps_of := ok_steps_of (P := P) (w := w) (mg := mg) (base := base) T ⟨c.def_ 27 (d := d_steps_of) rfl⟩ C_is_step C_row_of
  have C_judged := ok_judged (P := P) (w := w) (mg := mg) (base := base) T ⟨c.def_ 28 (d := d_judged) rfl⟩ C_closure C_rows_of C_steps_of C_walked C_Wrong
  have C_right_steps := ok_right_steps (P := P) (w := w) (mg := mg) (base := base) T ⟨c.def_ 29 (d := d_right_steps) rfl⟩ C_rows_of C_steps_of C_walked J_NotRight
  have ⟨C_lean, CF_lean⟩ := ok_lean (P := P) (w := w) (mg := mg) (base := base) T ⟨c.def_ 30 (d := d_lean) rfl⟩ C_follows C_right_steps
  have C__law_refused := ok__law_refused (P := P) (w := w) (mg := mg) (base := base) T ⟨c.def_ 31 (d := d__law_refused) rfl⟩ C_lean
  exact ok_law T F C__law_lean_right C__law_refused C__law_road C__law_rows C__law_walked C__law_wider C_judged C_lean CF_lean
end Tw

namespace Tw
open PySem L2
/-! ### what is told is new -/
theorem wp_retF {f : SE} {ρ : List Cl} {N : List Cl → Prop} {Q : D → Prop} {d : D} (h : f (frz ρ) = .ok d) (q : Q d) : WP (sRetF f ρ) N Q := by
  unfold sRetF step
  rw [h]; exact q
def NRo : Out → Prop
  | .rt _ _ => False
  | _ => True
/-- no return but of what is new -/
def NR (g : SS) : Prop := ∀ ρ, NRo (g ρ)
theorem nr_step {α : Type} {r : R α} {ρ : List Cl} {k : α → Out} (h : ∀ a, NRo (k a)) : NRo (step r ρ k) := by
  unfold step
  split
  · exact h _
  · trivial
  · trivial
theorem nr_seq {g g' : SS} (h : NR g) (h' : NR g') : NR (sSeq g g') := fun ρ => by
  unfold sSeq
  have := h ρ
  cases q : g ρ with
  | nx ρ' => exact h' ρ'
  | rt d ρ' => rw [q] at this; exact this.elim
  | _ => trivial
theorem nr_nil : NR sNil := fun _ => trivial
theorem nr_fz {is : List Nat} {g : SS} (h : NR g) : NR (sFz is g) := fun ρ => h _
theorem nr_if {p : ST} {g g' : SS} (h : NR g) (h' : NR g') : NR (sIf p g g') := fun ρ => nr_step fun b => by
  cases b
  · exact h' ρ
  · exact h ρ
theorem nr_set {i : Nat} {f : SE} : NR (sSet i f) := fun ρ => nr_step fun _ => trivial
theorem nr_aug {i : Nat} {op : D → D → R D} {f : SE} : NR (sAug i op f) := fun ρ => nr_step fun _ => nr_step fun _ => nr_step fun _ => trivial
theorem nr_retF {f : SE} : NR (sRetF f) := fun ρ => nr_step fun _ => trivial
theorem nr_retO {i : Nat} : NR (sRetO i) := fun ρ => by
  unfold sRetO
  split <;> trivial
theorem nr_bind {t : Tg} {f : SE} : NR (sBind t f) := fun ρ => nr_step fun d => by
  cases q : bindT t d <;> simp only [] <;> trivial
theorem nr_par3 {i j l : Nat} {m n o : Bool} {f g h : SE} : NR (sPar3 i j l m n o f g h) := fun ρ => nr_step fun _ => nr_step fun _ => nr_step fun _ => trivial
theorem nr_par2 {i j : Nat} {m n : Bool} {f g : SE} : NR (sPar2 i j m n f g) := fun ρ => nr_step fun _ => nr_step fun _ => trivial
theorem nr_app {i : Nat} {f : SE} : NR (sApp i f) := fun ρ => by
  unfold sApp
  split
  · exact nr_step fun d => by split <;> trivial
  · trivial
theorem nr_for {t : Tg} {fi : SA} {g : SS} (h : NR g) : NR (sFor t fi g) := fun ρ => nr_step fun ds => by
  induction ds generalizing ρ with
  | nil => trivial
  | cons d ds ih =>
    unfold forD
    have hb : NRo (bodyD t g d ρ) := by
      unfold bodyD
      cases q : bindT t d with
      | none => trivial
      | some bs => exact h _
    cases q : bodyD t g d ρ with
    | nx ρ' => exact ih ρ'
    | ct ρ' => exact ih ρ'
    | rt d ρ' => rw [q] at hb; exact hb.elim
    | _ => trivial
theorem runF_of {n : Nat} {g : SS} {ds : List D} {d : D} (h : runD n g ds = .ok d) (hd : d ≠ .non) (nr : NR g) : runF n g ds = .ok d := by
  have := nr (start0 n ds)
  unfold runD at h
  unfold runF
  cases q : g (start0 n ds) with
  | rf d' => rw [q] at h; exact h
  | rt d' ρ => rw [q] at this; exact this.elim
  | nx ρ => rw [q] at h; cases h; exact absurd rfl hd
  | _ => rw [q] at h; cases h
end Tw

/-! P1: what forcing tells, in plain Lean. -/
namespace Tw
open PySem L2
/-- a list or a tuple of ints -/
def IsR (d : D) (r : List Int) : Prop := d = eL r ∨ d = eT r
theorem IsR.iter {d : D} {r : List Int} (h : IsR d r) : iterD d = .ok (r.map D.int) := by rcases h with rfl | rfl <;> rfl
theorem opposites_is {d : D} {r : List Int} (h : IsR d r) (hl : r.length ≤ 1000) : m_opposites [d] = .ok (eL (r.map (-·))) := by
  refine wp_is (wp_ret (d := eL (r.map (-·))) ?_ rfl)
  refine comp_is (es := (r.map (-·)).map D.int) (by simp [h.iter]; rfl) ?_ (by simp; omega)
  rw [List.map_map]
  exact compD_all fun x _ => by simp
/-! ### the forcing -/
abbrev Th := List (Int × List Int)
def eP (p : Int × List Int) : D := .tup [.int p.1, eT p.2]
def eTh (t : Th) : D := .lst (t.map eP)
def ePE (en : List Int → D) (p : Int × List Int) : D := .tup [.int p.1, en p.2]
def eThE (en : List Int → D) (t : Th) : D := .lst (t.map (ePE en))
def left (L r : List Int) : List Int := r.filter fun s => !decide (-s ∈ L)
def pass : Th → List Int → Bool → (List Int × Int) ⊕ (List Int × Bool)
  | [], L, mv => .inr (L, mv)
  | (n, r) :: t, L, mv => match left L r with
    | [] => .inl (L, n)
    | [s] => if s ∈ L then pass t L mv else pass t (L ++ [s]) true
    | _ :: _ :: _ => pass t L mv
def forc : Nat → Th → List Int → Option (List Int × Option Int)
  | 0, _, _ => none
  | k + 1, t, L => match pass t L false with
    | .inl (L', n) => some (L', some n)
    | .inr (L', true) => forc k t L'
    | .inr (L', false) => some (L', none)
/-- dicts by their keys -/
theorem val_some {kvs : List (Key × D)} {k : Key} : (valD kvs k).isSome = true ↔ k ∈ kvs.map Prod.fst := by
  unfold valD
  rw [Option.isSome_map, List.find?_isSome]
  simp only [decide_eq_true_eq, List.mem_map]
def Keys (kvs : List (Key × D)) (L : List Int) : Prop := kvs.map Prod.fst = L.map Sum.inl
theorem Keys.val {kvs : List (Key × D)} {L : List Int} (h : Keys kvs L) (i : Int) : (valD kvs (.inl i)).isSome = decide (i ∈ L) := by
  rw [Bool.eq_iff_iff, val_some, show kvs.map Prod.fst = L.map Sum.inl from h]; simp
theorem putD_new {kvs : List (Key × D)} {k : Key} {v : D} (h : k ∉ kvs.map Prod.fst) : putD kvs k v = kvs ++ [(k, v)] := by
  unfold putD
  rw [if_neg]
  intro hh
  obtain ⟨p, hp, e⟩ := List.any_eq_true.mp hh
  exact h (List.mem_map.mpr ⟨p, hp, of_decide_eq_true e⟩)
theorem Keys.put {kvs : List (Key × D)} {L : List Int} (h : Keys kvs L) {i : Int} (hi : i ∉ L) (v : D) : Keys (putD kvs (.inl i) v) (L ++ [i]) := by
  have : Sum.inl i ∉ kvs.map Prod.fst := by rw [show kvs.map Prod.fst = L.map Sum.inl from h]; simpa using hi
  unfold Keys
  rw [putD_new this, List.map_append, show kvs.map Prod.fst = L.map Sum.inl from h]; simp
theorem Keys.len {kvs : List (Key × D)} {L : List Int} (h : Keys kvs L) : kvs.length = L.length := by
  have := congrArg List.length h; simpa using this
theorem foldPut_keys (v : D) : ∀ (r L : List Int) (kvs : List (Key × D)), Keys kvs L → (L ++ r).Nodup → Keys (foldPut kvs (r.map fun i => (Sum.inl i, v))) (L ++ r)
  | [], L, kvs, h, _ => by simpa [foldPut] using h
  | i :: r, L, kvs, h, n => by
    have hi : i ∉ L := fun hm => by
      have := List.nodup_append.mp n
      exact this.2.2 i hm i (by simp) rfl
    have := foldPut_keys v r (L ++ [i]) (putD kvs (.inl i) v) (h.put hi v) (by simpa using n)
    simpa [foldPut] using this
/-- what left tells, over a list or a dict -/
theorem left_len {L r : List Int} : (left L r).length ≤ r.length := List.length_filter_le _ _
theorem eL_len {r : List Int} : (eL r) = .lst (r.map D.int) := rfl
theorem dEq_nil {r : List Int} : dEq (eL r) (.lst []) = .ok (.bl r.isEmpty) := dEq_nc (n := 1) (m := 1) (nc_eL 0 r) rfl (by cases r <;> simp [eL])
theorem dNe_nil {r : List Int} : dNe (eL r) (.lst []) = .ok (.bl (!r.isEmpty)) := dNe_nc (n := 1) (m := 1) (nc_eL 0 r) rfl (by cases r <;> simp [eL])
theorem dEq_int {i j : Int} : dEq (.int i) (.int j) = .ok (.bl (decide (i = j))) := dEq_nc (n := 0) (m := 0) rfl rfl (by simp)
theorem dNe_int {i j : Int} : dNe (.int i) (.int j) = .ok (.bl (!decide (i = j))) := dNe_nc (n := 0) (m := 0) rfl rfl (by simp)
theorem dLen_lst {ds : List D} : dLen [.lst ds] = .ok (.int ds.length) := rfl
theorem atI_0 {α : Type} {x : α} {xs : List α} : atI (x :: xs) 0 = some x := by
  unfold atI ixN
  simp
/-- one pass over the rows, the marks in a slot of their own: a list's or a dict's -/
theorem left_comp {en : List Int → D} (hen : ∀ r, IsR (en r) r) {kd : D} {L r : List Int} (hk : ∀ i : Int, dInS true (.int i) kd = .ok (.bl (!decide (i ∈ L)))) (hl : r.length ≤ 1000) {a b c e g : Cl} :
    eComp [7] (.nm 7) (iSeq (eVar 5)) (tV (e2 (dInS true) (e1 dNeg (eVar 7)) (eVar 2))) (eVar 7) (frz [a, b, .ow kd, c, e, .fz (en r), g, .no]) = .ok (eL (left L r)) := by
  refine comp_is (ds := r.map D.int) (es := (left L r).map D.int) (by simp [(hen r).iter]) ?_ (by have := left_len (L := L) (r := r); simp; omega)
  exact compD_filter fun x _ => by simp [hk]; split <;> simp_all
end Tw
namespace Tw
open PySem L2
/-- a pass's state: where the marks stand, as a list or as a dict -/
def FS (en : List Int → D) (mk : List Int → D → Prop) (t : Th) (st : D) (L : List Int) (mv : Bool) (ρ : List Cl) : Prop := ∃ kd a b c, mk L kd ∧ ρ = [.fz (eThE en t), .fz st, .ow kd, .fz (.bl mv), a, b, c, .no]
def mkL (L : List Int) (d : D) : Prop := d = eL L
def mkD (L : List Int) (d : D) : Prop := ∃ kvs, d = .dct kvs ∧ Keys kvs L ∧ kvs.length < 1000
theorem mkL_in {L : List Int} {d : D} (h : mkL L d) (i : Int) : dInS true (.int i) d = .ok (.bl (!decide (i ∈ L))) := by
  rw [h]; exact in_ints
theorem mkD_in {L : List Int} {d : D} (h : mkD L d) (i : Int) : dInS true (.int i) d = .ok (.bl (!decide (i ∈ L))) := by
  obtain ⟨kvs, rfl, k, _⟩ := h
  show R.ok (D.bl (if true = true then !(valD kvs (.inl i)).isSome else (valD kvs (.inl i)).isSome)) = _
  rw [k.val]; rfl
/-- rows of at most 100 signs -/
def Sm (t : Th) : Prop := ∀ p ∈ t, p.2.length ≤ 100
/-- the body of a pass, its return and its adding left open -/
abbrev bodyF (sr sa : SS) : SS := (sSeq (sSetL 6 (eComp [7] (.nm 7) (iSeq (eVar 5)) (tV (e2 (dInS true) (e1 dNeg (eVar 7)) (eVar 2))) (eVar 7))) (sSeq (sIf (tV (e2 dEq (eVar 6) (eLst aNil))) sr sNil) (sIf (tAn (tV (e2 dEq (eB dLen (aCons (eVar 6) aNil)) (eC (.int 1)))) (tV (e2 (dInS true) (e2 dGet (eVar 6) (eC (.int 0))) (eVar 2)))) (sSeq sa (sSet 3 (eC (.bl true)))) sNil)))
abbrev st8 (en : List Int → D) (t : Th) (st kd : D) (mv : Bool) (n : Int) (r l : List Int) : List Cl := [.fz (eThE en t), .fz st, .ow kd, .fz (.bl mv), .fz (.int n), .fz (en r), .fz (eL l), .no]
structure FK (en : List Int → D) (t : Th) (mk : List Int → D → Prop) (sr sa : SS) (rt : List Int → Int → D → Prop) : Prop where
  isin : ∀ L d (i : Int), mk L d → dInS true (.int i) d = .ok (.bl (!decide (i ∈ L)))
  ret : ∀ st kd mv n r l L (N : List Cl → Prop) (Q : D → Prop), mk L kd → (n, r) ∈ t → left L r = [] → (∀ d, rt L n d → Q d) → WP (sr (st8 en t st kd mv n r l)) N Q
  add : ∀ st kd mv n r i L (N : List Cl → Prop) (Q : D → Prop), mk L kd → i ∉ L → L.length ≤ 900 → (n, r) ∈ t → left L r = [i] → (∀ kd', mk (L ++ [i]) kd' → N (st8 en t st kd' mv n r [i])) → WP (sa (st8 en t st kd mv n r [i])) N Q
theorem pass_gen {en : List Int → D} (hen : ∀ r, IsR (en r) r) {mk : List Int → D → Prop} {sr sa : SS} {rt : List Int → Int → D → Prop} {t : Th} (K : FK en t mk sr sa rt) (ht : Sm t) {st : D} {L0 : List Int} {N : List Cl → Prop} {Q : D → Prop} (hlen : L0.length + t.length ≤ 900)
    (hr : ∀ L n d, pass t L0 false = .inl (L, n) → rt L n d → Q d) (hn : ∀ L mv ρ, pass t L0 false = .inr (L, mv) → FS en mk t st L mv ρ → N ρ) {ρ : List Cl} (h : FS en mk t st L0 false ρ) :
    WP (sFor (.tp [(.nm 4), (.nm 5)]) (iSeq (eVar 0)) (bodyF sr sa) ρ) N Q := by
  refine wp_for (xs := t) (en := ePE en) (I := fun xs ρ => ∃ L mv, L.length + xs.length ≤ L0.length + t.length ∧ pass t L0 false = pass xs L mv ∧ FS en mk t st L mv ρ) ?_ ⟨L0, false, Nat.le_refl _, rfl, h⟩ ?_ ?_
  · obtain ⟨kd, a, b, c, _, rfl⟩ := h
    simp [eThE]
  · rintro ⟨n, r⟩ xs ρ ⟨zs, hz⟩ ⟨L, mv, hl, hp, kd, a, b, c, hk, rfl⟩
    have hr100 : r.length ≤ 100 := ht (n, r) (by rw [hz]; simp)
    simp only [List.length_cons] at hl
    simp only [ePE, s_body, s_bindTp, s_bindTs1, s_bindTs0, s_bindNm, Option.bind_some, Option.map_some, List.cons_append, List.nil_append, List.append_nil, s_setsC1, s_setsC0]
    refine wp_seq ?_
    unfold sSetL
    rw [show List.set (List.set [Cl.fz (eThE en t), Cl.fz st, Cl.ow kd, Cl.fz (D.bl mv), a, b, c, Cl.no] 4 (Cl.fz (D.int n))) 5 (Cl.fz (en r)) = [.fz (eThE en t), .fz st, .ow kd, .fz (.bl mv), .fz (.int n), .fz (en r), c, .no] from rfl,
      left_comp hen (fun i => K.isin L kd i hk) (by omega)]
    have hf : flatL (eL (left L r)) = true := by
      unfold flatL eL; simp [D.flat]
    simp only [s_step1, hf, if_true]
    show WP (sSeq _ _ (st8 en t st kd mv n r (left L r))) _ Q
    have hp2 : pass ((n, r) :: xs) L mv = match left L r with
      | [] => .inl (L, n)
      | [s] => if s ∈ L then pass xs L mv else pass xs (L ++ [s]) true
      | _ :: _ :: _ => pass xs L mv := by conv => lhs; unfold pass
    rw [hp2] at hp
    refine wp_seq (wp_if (b := (left L r).isEmpty) (by simp [sz_of, dEq_nil]) (fun he => ?_) fun he => ?_)
    · rw [List.isEmpty_iff.mp he] at hp ⊢
      exact K.ret st kd mv n r [] L _ Q hk (by rw [hz]; simp) (List.isEmpty_iff.mp he) fun d hd => hr L n d hp hd
    · show WP (sIf _ _ _ (st8 en t st kd mv n r (left L r))) _ Q
      match hle : left L r with
      | [] => rw [hle] at he; cases he
      | [s] =>
        rw [hle] at hp
        refine wp_if (b := !decide (s ∈ L)) ?_ (fun hs => ?_) fun hs => ?_
        · have e1 : dEq (.int (1 : Nat)) (.int 1) = .ok (.bl true) := by rw [dEq_int]; rfl
          simp [eL, dLen, dEq_int, dGet, atI_0, K.isin L kd s hk]
        · have hs : s ∉ L := by simpa using hs
          have hp : pass t L0 false = if s ∈ L then pass xs L mv else pass xs (L ++ [s]) true := hp
          rw [if_neg hs] at hp
          refine wp_seq (K.add st kd mv n r s L _ Q hk hs (by omega) (by rw [hz]; simp) hle fun kd' hk' => ?_)
          exact wp_set (d := .bl true) rfl ⟨L ++ [s], true, by simp; omega, hp, kd', _, _, _, hk', rfl⟩
        · have hs : s ∈ L := by simpa using hs
          have hp : pass t L0 false = if s ∈ L then pass xs L mv else pass xs (L ++ [s]) true := hp
          rw [if_pos hs] at hp
          exact ⟨L, mv, by omega, hp, kd, _, _, _, hk, rfl⟩
      | s :: s' :: more =>
        rw [hle] at hp
        refine wp_if (b := false) ?_ (fun hs => by cases hs) fun _ => ⟨L, mv, by omega, hp, kd, _, _, _, hk, rfl⟩
        simp [eL, dLen, dEq_int]
        omega
  · rintro ρ ⟨L, mv, _, hp, hf⟩
    exact hn L mv ρ hp hf
theorem pass_len : ∀ (t : Th) (L : List Int) (mv : Bool) (L' : List Int) (b : Bool), pass t L mv = .inr (L', b) → L'.length ≤ L.length + t.length
  | [], L, mv, L', b, h => by unfold pass at h; cases h; simp
  | (n, r) :: t, L, mv, L', b, h => by
    unfold pass at h
    split at h
    · cases h
    · split at h
      · have := pass_len t _ _ _ _ h; simp; omega
      · have := pass_len t _ _ _ _ h; simp at this; simp; omega
    · have := pass_len t _ _ _ _ h; simp; omega
/-- the passes: k bounds them, and the marks' number -/
theorem forc_gen {en : List Int → D} (hen : ∀ r, IsR (en r) r) {mk : List Int → D → Prop} {sr sa : SS} {rt : List Int → Int → D → Prop} {t : Th} (K : FK en t mk sr sa rt) (ht : Sm t) {st : D} {N : List Cl → Prop} {Q : D → Prop} {L0 : List Int} {res : List Int × Option Int} {k : Nat} (hk : forc k t L0 = some res) (hk9 : k < 999)
    (inv : List Int → Prop) (h0 : inv L0) (hstep : ∀ L L' mv, inv L → pass t L false = .inr (L', mv) → inv L') (hb : ∀ L, inv L → L.length + t.length ≤ 900)
    (hr : ∀ n d, res.2 = some n → rt res.1 n d → Q d) (hn : ∀ ρ, res.2 = none → FS en mk t st res.1 false ρ → N ρ) {ρ : List Cl} (h : FS en mk t st L0 true ρ) :
    WP (whileD (tV (eVar 3)) (sSeq (sSet 3 (eC (.bl false))) (sFor (.tp [(.nm 4), (.nm 5)]) (iSeq (eVar 0)) (bodyF sr sa))) 1000 ρ) N Q := by
  refine wp_while (fun m ρ => (∃ L, inv L ∧ forc m t L = some res ∧ FS en mk t st L true ρ) ∨ (res.2 = none ∧ FS en mk t st res.1 false ρ)) (fun m ρ hi => ?_) 1000 k ρ (by omega) (.inl ⟨L0, h0, hk, h⟩)
  rcases hi with ⟨L, hI, hf, hF⟩ | ⟨hf, hF⟩
  · refine ⟨true, ?_, fun z => (by cases z), fun _ => ?_⟩
    · obtain ⟨kd, a, b, c, _, rfl⟩ := hF
      simp
    · cases m with
      | zero => cases hf
      | succ m =>
        have hlen := hb L hI
        refine wp_seq (wp_set (d := .bl false) rfl ?_)
        have hF' : FS en mk t st L false (ρ.set 3 (.fz (.bl false))) := by
          obtain ⟨kd, a, b, c, h1, rfl⟩ := hF
          exact ⟨kd, a, b, c, h1, rfl⟩
        unfold forc at hf
        refine pass_gen hen K ht hlen (fun L' n d hp hd => ?_) (fun L' mv ρ' hp hS => ?_) hF'
        · rw [hp] at hf
          cases hf
          exact hr n d rfl hd
        · rw [hp] at hf
          cases mv with
          | true => exact ⟨m, Nat.lt_succ_self m, .inl ⟨L', hstep L L' true hI hp, hf, hS⟩⟩
          | false =>
            cases hf
            exact ⟨m, Nat.lt_succ_self m, .inr ⟨rfl, hS⟩⟩
  · refine ⟨false, ?_, fun _ => hn ρ hf hF, fun z => (by cases z)⟩
    obtain ⟨kd, a, b, c, _, rfl⟩ := hF
    simp
/-! ### bounds -/
theorem left_sub {L r : List Int} : ∀ s ∈ left L r, s ∈ r ∧ -s ∉ L := fun s h => by
  obtain ⟨h1, h2⟩ := List.mem_filter.mp h
  exact ⟨h1, by simpa using h2⟩
/-- what a pass does to the marks -/
structure Gr (t : Th) (L L' : List Int) : Prop where
  nd : L.Nodup → L'.Nodup
  sub : ∀ s ∈ L, s ∈ L'
  new : ∀ s ∈ L', s ∈ L ∨ ((∃ p ∈ t, s ∈ p.2) ∧ (-s ∉ L))
  len : L.length ≤ L'.length
theorem Gr.refl (t : Th) (L : List Int) : Gr t L L := ⟨id, fun _ h => h, fun _ h => .inl h, Nat.le_refl _⟩
theorem pass_inr : ∀ (t : Th) (L : List Int) (mv : Bool) (L' : List Int) (b : Bool), pass t L mv = .inr (L', b) → Gr t L L' ∧ (b = true → mv = true ∨ L.length < L'.length) ∧ (b = false → L' = L ∧ mv = false ∧ ∀ p ∈ t, left L p.2 ≠ [] ∧ ∀ s, left L p.2 = [s] → s ∈ L)
  | [], L, mv, L', b, h => by
    unfold pass at h; cases h
    exact ⟨Gr.refl _ _, fun h => .inl h, fun h => ⟨rfl, h, fun p hp => absurd hp (by simp)⟩⟩
  | (n, r) :: t, L, mv, L', b, h => by
    have up : ∀ {L1 L2 : List Int}, Gr t L1 L2 → Gr ((n, r) :: t) L1 L2 := fun g => ⟨g.nd, g.sub, fun s hs => (g.new s hs).imp id fun ⟨⟨p, hp, q⟩, z⟩ => ⟨⟨p, List.mem_cons_of_mem _ hp, q⟩, z⟩, g.len⟩
    unfold pass at h
    split at h
    · cases h
    · rename_i s hl
      split at h
      · rename_i hs
        obtain ⟨g, h1, h2⟩ := pass_inr t _ _ _ _ h
        refine ⟨up g, h1, fun hb => ⟨(h2 hb).1, (h2 hb).2.1, fun p hp => ?_⟩⟩
        rcases List.mem_cons.mp hp with e | hp
        · subst e; rw [hl]; exact ⟨by simp, fun s' e => by cases e; exact hs⟩
        · exact (h2 hb).2.2 p hp
      · rename_i hs
        obtain ⟨g, h1, h2⟩ := pass_inr t _ _ _ _ h
        have hls := left_sub (L := L) (r := r) s (by rw [hl]; simp)
        refine ⟨⟨fun nd => g.nd (List.nodup_append.mpr ⟨nd, by simp, fun a ha b hb => by rw [List.mem_singleton.mp hb]; exact fun e => hs (e ▸ ha)⟩), fun a ha => g.sub a (List.mem_append_left _ ha), fun a ha => ?_, by have := g.len; simp at this; omega⟩, fun _ => .inr (by have := g.len; simp at this; omega), fun hb => ?_⟩
        · rcases g.new a ha with h' | ⟨⟨p, hp, q⟩, z⟩
          · rcases List.mem_append.mp h' with h' | h'
            · exact .inl h'
            · rw [List.mem_singleton.mp h']
              exact .inr ⟨⟨(n, r), by simp, hls.1⟩, hls.2⟩
          · exact .inr ⟨⟨p, List.mem_cons_of_mem _ hp, q⟩, fun hm => z (List.mem_append_left _ hm)⟩
        · have := (h2 hb).2.1; cases this
    · rename_i s1 s2 ss e0
      obtain ⟨g, h1, h2⟩ := pass_inr t _ _ _ _ h
      refine ⟨up g, h1, fun hb => ⟨(h2 hb).1, (h2 hb).2.1, fun p hp => ?_⟩⟩
      rcases List.mem_cons.mp hp with e | hp
      · subst e
        rw [e0]
        exact ⟨by simp, fun s' e => by cases e⟩
      · exact (h2 hb).2.2 p hp
theorem nodup_le : ∀ {L U : List Int}, L.Nodup → (∀ s ∈ L, s ∈ U) → L.length ≤ U.length
  | [], U, _, _ => Nat.zero_le _
  | x :: L, U, nd, sub => by
    obtain ⟨h1, h2⟩ := List.nodup_cons.mp nd
    have hx : x ∈ U := sub x (by simp)
    have := nodup_le (L := L) (U := U.erase x) h2 fun s hs => by
      have : s ≠ x := fun e => h1 (e ▸ hs)
      exact (List.mem_erase_of_ne this).mpr (sub s (List.mem_cons_of_mem _ hs))
    rw [List.length_erase_of_mem hx] at this
    have := List.length_pos_of_mem hx
    simp; omega
/-- the marks lie within U -/
structure In (U : List Int) (L : List Int) : Prop where
  nd : L.Nodup
  sub : ∀ s ∈ L, s ∈ U
def ThIn (U : List Int) (t : Th) : Prop := ∀ p ∈ t, ∀ s ∈ p.2, s ∈ U
theorem In.pass {U L L' : List Int} {t : Th} {mv b : Bool} (ht : ThIn U t) (h : In U L) (e : pass t L mv = .inr (L', b)) : In U L' := by
  obtain ⟨g, _, _⟩ := pass_inr _ _ _ _ _ e
  refine ⟨g.nd h.nd, fun s hs => ?_⟩
  rcases g.new s hs with h' | ⟨⟨p, hp, q⟩, _⟩
  · exact h.sub s h'
  · exact ht p hp s q
theorem forc_some {U : List Int} {t : Th} (ht : ThIn U t) : ∀ (k : Nat) (L : List Int), In U L → U.length + 2 ≤ L.length + k → ∃ res, forc k t L = some res
  | 0, L, h, hk => by have := nodup_le h.nd h.sub; omega
  | k + 1, L, h, hk => by
    unfold forc
    split
    · exact ⟨_, rfl⟩
    · rename_i L' e
      obtain ⟨g, h1, _⟩ := pass_inr _ _ _ _ _ e
      have := (h1 rfl).resolve_left (by simp)
      exact forc_some ht k L' (h.pass ht e) (by omega)
    · exact ⟨_, rfl⟩
/-- what forcing ends at -/
theorem forc_end {U : List Int} {t : Th} (ht : ThIn U t) : ∀ (k : Nat) (L M : List Int), In U L → forc k t L = some (M, none) → In U M ∧ (∀ s ∈ L, s ∈ M) ∧ ∀ p ∈ t, left M p.2 ≠ [] ∧ ∀ s, left M p.2 = [s] → s ∈ M
  | 0, L, M, _, h => by cases h
  | k + 1, L, M, hi, h => by
    unfold forc at h
    split at h
    · cases h
    · rename_i L' e
      obtain ⟨a, b, c⟩ := forc_end ht k L' M (hi.pass ht e) h
      obtain ⟨g, _, _⟩ := pass_inr _ _ _ _ _ e
      exact ⟨a, fun s hs => b s (g.sub s hs), c⟩
    · rename_i L' e
      cases h
      obtain ⟨g, _, h2⟩ := pass_inr _ _ _ _ _ e
      obtain ⟨e1, _, h3⟩ := h2 rfl
      subst e1
      exact ⟨hi, fun s hs => hs, h3⟩
/-- no mark stands with its opposite -/
def Cons (L : List Int) : Prop := ∀ s ∈ L, -s ∉ L
theorem pass_cons : ∀ (t : Th) (L : List Int) (mv : Bool) (L' : List Int) (b : Bool), (∀ p ∈ t, (0 : Int) ∉ p.2) → Cons L → pass t L mv = .inr (L', b) → Cons L'
  | [], L, mv, L', b, _, hc, h => by unfold pass at h; cases h; exact hc
  | (n, r) :: t, L, mv, L', b, h0, hc, h => by
    have h0' : ∀ p ∈ t, (0 : Int) ∉ p.2 := fun p hp => h0 p (List.mem_cons_of_mem _ hp)
    unfold pass at h
    split at h
    · cases h
    · rename_i s hl
      split at h
      · exact pass_cons t _ _ _ _ h0' hc h
      · refine pass_cons t _ _ _ _ h0' (fun a ha hb => ?_) h
        have hls := left_sub (L := L) (r := r) s (by rw [hl]; simp)
        have s0 : s ≠ 0 := fun e => h0 (n, r) (by simp) (e ▸ hls.1)
        rcases List.mem_append.mp ha with ha | ha <;> rcases List.mem_append.mp hb with hb | hb
        · exact hc a ha hb
        · have := List.mem_singleton.mp hb
          have : -s = a := by omega
          exact hls.2 (this ▸ ha)
        · rw [List.mem_singleton.mp ha] at hb; exact hls.2 hb
        · rw [List.mem_singleton.mp ha] at hb
          have := List.mem_singleton.mp hb
          omega
    · exact pass_cons t _ _ _ _ h0' hc h
theorem forc_cons : ∀ (k : Nat) (t : Th) (L M : List Int), (∀ p ∈ t, (0 : Int) ∉ p.2) → Cons L → forc k t L = some (M, none) → Cons M
  | 0, t, L, M, _, _, h => by cases h
  | k + 1, t, L, M, h0, hc, h => by
    unfold forc at h
    split at h
    · cases h
    · rename_i L' e
      exact forc_cons k t L' M h0 (pass_cons _ _ _ _ _ h0 hc e) h
    · rename_i L' e
      cases h
      exact pass_cons _ _ _ _ _ h0 hc e
end Tw

/-! P2: forcing, following, closing: the program's and the law's. -/
namespace Tw
open PySem L2
def U6 : List Int := [1, 2, 3, 4, 5, 6, -1, -2, -3, -4, -5, -6]
structure GTh (t : Th) : Prop where
  inU : ThIn U6 t
  sm : Sm t
  len : t.length ≤ 400
def force (t : Th) (L : List Int) : List Int × Option Int := (forc 900 t L).getD (L, none)
theorem forc_is {t : Th} {L : List Int} (h : GTh t) (hi : In U6 L) : forc 900 t L = some (force t L) := by
  obtain ⟨res, e⟩ := forc_some h.inU 900 L hi (by show 14 ≤ _; omega)
  unfold force; rw [e]; rfl
theorem fk_law {en : List Int → D} {t : Th} : FK en t mkL (sRet (eTup (aCons (eVar 2) (aCons (eC (.bl true)) aNil)))) (sApp 2 (e2 dGet (eVar 6) (eC (.int 0)))) (fun L _ d => d = .tup [eL L, .bl true]) where
  isin := fun L d i h => mkL_in h i
  ret := fun st kd mv n r l L N Q hk _ _ hq => by
    cases hk
    refine wp_ret (d := .tup [eL L, .bl true]) (by simp [sz_of]) (hq _ rfl)
  add := fun st kd mv n r i L N Q hk hi hl _ _ hn => by
    cases hk
    unfold sApp
    have e : owL (st8 en t st (eL L) mv n r [i]) 2 = some (L.map D.int) := rfl
    rw [e]
    have q2 : e2 dGet (eVar 6) (eC (.int 0)) (hid (st8 en t st (eL L) mv n r [i])) = .ok (.int i) := by simp [eL, dGet, atI_0]
    show WP (step (e2 dGet (eVar 6) (eC (.int 0)) (hid (st8 en t st (eL L) mv n r [i]))) _ _) N Q
    rw [q2, s_step1]
    have h3 : decide ((L.map D.int).length < sizeLine) = true := decide_eq_true (by simp; unfold sizeLine; omega)
    rw [if_pos h3]
    have := hn (eL (L ++ [i])) rfl
    have e4 : List.set (st8 en t st (eL L) mv n r [i]) 2 (.ow (.lst (L.map D.int ++ [.int i]))) = st8 en t st (eL (L ++ [i])) mv n r [i] := by simp [eL]
    rw [e4]
    exact this
/-- what forced the signs, in turn: each the only one left of its row -/
def JF (t : Th) (L0 : List Int) (fs : List (Int × Int)) : Prop := ∀ pre s n post, fs = pre ++ (s, n) :: post → s ∉ L0 ++ pre.map (·.1) ∧ ∃ r, (n, r) ∈ t ∧ left (L0 ++ pre.map (·.1)) r = [s]
def encJ (L0 : List Int) (fs : List (Int × Int)) : List (Key × D) := L0.map (fun s => ((Sum.inl s : Key), D.non)) ++ fs.map fun p => ((Sum.inl p.1 : Key), D.int p.2)
theorem encJ_keys {L0 : List Int} {fs : List (Int × Int)} : Keys (encJ L0 fs) (L0 ++ fs.map (·.1)) := by
  unfold Keys encJ
  simp [Function.comp_def]
theorem JF.nil {t : Th} {L0 : List Int} : JF t L0 [] := fun pre s n post h => by cases pre <;> cases h
theorem JF.snoc {t : Th} {L0 : List Int} {fs : List (Int × Int)} (h : JF t L0 fs) {s n : Int} {r : List Int} (hs : s ∉ L0 ++ fs.map (·.1)) (hn : (n, r) ∈ t) (hl : left (L0 ++ fs.map (·.1)) r = [s]) : JF t L0 (fs ++ [(s, n)]) := fun pre s' n' post e => by
  rcases List.eq_nil_or_concat post with rfl | ⟨post', x, rfl⟩
  · have := List.append_inj' e rfl
    obtain ⟨rfl, e2⟩ := this
    cases e2
    exact ⟨hs, r, hn, hl⟩
  · have e' : fs ++ [(s, n)] = (pre ++ (s', n') :: post') ++ [x] := by rw [e]; simp
    obtain ⟨e1, _⟩ := List.append_inj' e' rfl
    exact h pre s' n' post' e1
def mkJ (t : Th) (L0 : List Int) (L : List Int) (d : D) : Prop := ∃ fs, d = .dct (encJ L0 fs) ∧ L = L0 ++ fs.map (·.1) ∧ JF t L0 fs ∧ (encJ L0 fs).length < 1000
theorem mkJ.D {t : Th} {L0 L : List Int} {d : D} (h : mkJ t L0 L d) : mkD L d := by
  obtain ⟨fs, rfl, rfl, _, hl⟩ := h
  exact ⟨_, rfl, encJ_keys, hl⟩
theorem fk_prog {en : List Int → D} {t : Th} {L0 : List Int} : FK en t (mkJ t L0) (sRet (eTup (aCons (eVar 2) (aCons (eVar 4) aNil)))) (sPut 2 (e2 dGet (eVar 6) (eC (.int 0))) (eVar 4)) (fun L n d => ∃ fs, L = L0 ++ fs.map (·.1) ∧ JF t L0 fs ∧ (∃ r, (n, r) ∈ t ∧ left L r = []) ∧ d = .tup [.dct (encJ L0 fs), .int n]) where
  isin := fun L d i h => mkD_in h.D i
  ret := fun st kd mv n r l L N Q hk hr hl hq => by
    obtain ⟨fs, rfl, rfl, hJ, _⟩ := hk
    exact wp_ret (d := .tup [.dct (encJ L0 fs), .int n]) (by simp [sz_of]) (hq _ ⟨fs, rfl, hJ, ⟨r, hr, hl⟩, rfl⟩)
  add := fun st kd mv n r i L N Q hk hi hl hr hlf hn => by
    obtain ⟨fs, rfl, rfl, hJ, hlen⟩ := hk
    unfold sPut
    have e : owD (st8 en t st (.dct (encJ L0 fs)) mv n r [i]) 2 = some (encJ L0 fs) := rfl
    rw [e]
    have e1 : eVar 4 (hid (st8 en t st (.dct (encJ L0 fs)) mv n r [i])) = .ok (.int n) := by simp
    have q2 : e2 dGet (eVar 6) (eC (.int 0)) (frz (st8 en t st (.dct (encJ L0 fs)) mv n r [i])) = .ok (.int i) := by simp [eL, dGet, atI_0]
    simp only [e1, q2, s_step1, keyOf]
    rw [if_pos (decide_eq_true (by unfold sizeLine; omega))]
    have hp : putD (encJ L0 fs) (.inl i) (.int n) = encJ L0 (fs ++ [(i, n)]) := by
      have hnk : (Sum.inl i : Key) ∉ (encJ L0 fs).map Prod.fst := by
        rw [show (encJ L0 fs).map Prod.fst = (L0 ++ fs.map (·.1)).map Sum.inl from encJ_keys]
        intro q
        obtain ⟨x, hx, ex⟩ := List.mem_map.mp q
        cases ex
        exact hi hx
      rw [putD_new hnk]
      unfold encJ
      simp
    rw [hp]
    refine hn (.dct (encJ L0 (fs ++ [(i, n)]))) ⟨fs ++ [(i, n)], rfl, by simp, hJ.snoc hi hr hlf, ?_⟩
    have : (encJ L0 (fs ++ [(i, n)])).length = (L0 ++ fs.map (·.1)).length + 1 := by unfold encJ; simp; omega
    omega
theorem law_forced_en {en : List Int → D} (hen : ∀ r, IsR (en r) r) {t : Th} {L : List Int} (h : GTh t) (hi : In U6 L) : m__law_forced [eThE en t, eL L] = .ok (.tup [eL (force t L).1, .bl (force t L).2.isSome]) := by
  have hl : L.length ≤ 12 := nodup_le hi.nd hi.sub
  refine wp_is ?_
  refine wp_seq ?_
  unfold sPar2
  simp only [s_start, List.map_cons, List.map_nil, List.length_cons, List.length_nil, s_hid1, s_h1, s_h3]
  show WP (sSeq _ _ [.fz (eThE en t), .fz (eL L), .ow (eL L), .fz (.bl true), .no, .no, .no, .no]) _ _
  refine wp_seq (forc_gen hen fk_law h.sm (forc_is h hi) (by decide) (In U6) hi (fun L L' mv a b => a.pass h.inU b) (fun L a => by have := nodup_le a.nd a.sub; have := h.len; show L.length + t.length ≤ 900; simp [U6] at *; omega) (fun n d hs hd => ?_) (fun ρ hs hF => ?_) ⟨eL L, .no, .no, .no, rfl, rfl⟩)
  · rw [hd, hs]; rfl
  · obtain ⟨kd, a, b, c, hk, rfl⟩ := hF
    cases hk
    exact wp_ret (d := .tup [eL (force t L).1, .bl false]) (by simp [sz_of]) (by rw [hs]; rfl)
theorem law_forced_is {t : Th} {L : List Int} (h : GTh t) (hi : In U6 L) : m__law_forced [eTh t, eL L] = .ok (.tup [eL (force t L).1, .bl (force t L).2.isSome]) := law_forced_en (en := eT) (fun r => .inr rfl) h hi
def numD : Option Int → D
  | some n => .int n
  | none => .non
theorem foldPut_new (v : Int → D) : ∀ (r L : List Int) (kvs : List (Key × D)), Keys kvs L → (L ++ r).Nodup → foldPut kvs (r.map fun i => (Sum.inl i, v i)) = kvs ++ r.map fun i => (Sum.inl i, v i)
  | [], L, kvs, h, n => by simp [foldPut]
  | i :: r, L, kvs, h, n => by
    have hi : i ∉ L := fun hm => by
      have := List.nodup_append.mp n
      exact this.2.2 i hm i (by simp) rfl
    have := foldPut_new v r (L ++ [i]) (putD kvs (.inl i) (v i)) (h.put hi (v i)) (by simpa using n)
    have hp : putD kvs (.inl i) (v i) = kvs ++ [(.inl i, v i)] := putD_new (by
      rw [show kvs.map Prod.fst = L.map Sum.inl from h]
      intro q
      obtain ⟨x, hx, ex⟩ := List.mem_map.mp q
      cases ex; exact hi hx)
    rw [List.map_cons]
    show foldPut (putD kvs (.inl i) (v i)) _ = _
    rw [this, hp]
    simp
theorem start_dc {t : Th} {r : List Int} (hr : r.Nodup) (hl : r.length ≤ 500) : eDc [7] (.nm 7) (iSeq (eVar 1)) tTrue (eVar 7) (eC .non) (hid [.fz (eTh t), .fz (eL r), .no, .no, .no, .no, .no, .no]) = .ok (.dct (encJ r [])) := by
  unfold eDc
  have h1 : iSeq (eVar 1) (hid [.fz (eTh t), .fz (eL r), .no, .no, .no, .no, .no, .no]) = .ok (r.map D.int) := by simp [eL]
  rw [h1]
  have h2 : compD (dcS (.nm 7) tTrue (eVar 7) (eC .non) (wipeD (hid [.fz (eTh t), .fz (eL r), .no, .no, .no, .no, .no, .no]) [7])) (r.map D.int) = .ok (r.map fun i => ((Sum.inl i : Key), D.non)) := by
    refine compD_all fun x _ => ?_
    unfold dcS
    simp [keyOf]
  simp only [s_bind1, h2, s_nox1]
  rw [if_pos (decide_eq_true (by simp; unfold sizeLine; omega))]
  have := foldPut_new (fun _ => .non) r [] [] rfl (by simpa using hr)
  rw [this]
  unfold encJ
  simp
/-- forced signs with what forced them -/
structure FcOk (t : Th) (L : List Int) (fs : List (Int × Int)) : Prop where
  eq : (force t L).1 = L ++ fs.map (·.1)
  just : JF t L fs
  clash : ∀ n, (force t L).2 = some n → ∃ r, (n, r) ∈ t ∧ left (force t L).1 r = []
theorem forced_why {t : Th} {L : List Int} (h : GTh t) (hi : In U6 L) : ∃ fs, FcOk t L fs ∧ m_forced [eTh t, eL L] = .ok (.tup [.dct (encJ L fs), numD (force t L).2]) := by
  have hl : L.length ≤ 12 := nodup_le hi.nd hi.sub
  have hd := start_dc (t := t) hi.nd (by omega)
  have w : WP (g_forced (start0 8 [eTh t, eL L])) (fun _ => ∃ fs, FcOk t L fs ∧ D.non = .tup [.dct (encJ L fs), numD (force t L).2]) (fun d => ∃ fs, FcOk t L fs ∧ d = .tup [.dct (encJ L fs), numD (force t L).2]) := by
    refine wp_seq ?_
    unfold sPar2
    show WP (step (eDc [7] (.nm 7) (iSeq (eVar 1)) tTrue (eVar 7) (eC .non) (hid [.fz (eTh t), .fz (eL L), .no, .no, .no, .no, .no, .no])) _ _) _ _
    rw [hd, s_step1]
    show WP (sSeq _ _ [.fz (eTh t), .fz (eL L), .ow (.dct (encJ L [])), .fz (.bl true), .no, .no, .no, .no]) _ _
    have hle : (encJ L []).length < 1000 := by unfold encJ; simp; omega
    refine wp_seq (forc_gen (en := eT) (fun r => .inr rfl) (fk_prog (L0 := L)) h.sm (forc_is h hi) (by decide) (In U6) hi (fun L L' mv a b => a.pass h.inU b) (fun L a => by have := nodup_le a.nd a.sub; have := h.len; show L.length + t.length ≤ 900; simp [U6] at *; omega) (fun n d hs hd => ?_) (fun ρ hs hF => ?_) ⟨.dct (encJ L []), .no, .no, .no, ⟨[], rfl, by simp, JF.nil, hle⟩, rfl⟩)
    · obtain ⟨fs, e1, hJ, hr, rfl⟩ := hd
      refine ⟨fs, ⟨e1, hJ, fun n' hn' => ?_⟩, by rw [hs]; rfl⟩
      rw [hs] at hn'; cases hn'
      exact hr
    · obtain ⟨kd, a, b, c, ⟨fs, rfl, e1, hJ, _⟩, rfl⟩ := hF
      exact wp_ret (d := .tup [.dct (encJ L fs), .non]) (by simp [sz_of]) ⟨fs, ⟨e1, hJ, fun n hn => by rw [hs] at hn; cases hn⟩, by rw [hs]; rfl⟩
  obtain ⟨d, e, fs, hF, rfl⟩ := wp_run (Q := fun d => ∃ fs, FcOk t L fs ∧ d = .tup [.dct (encJ L fs), numD (force t L).2]) w
  exact ⟨fs, hF, e⟩
theorem forced_is {t : Th} {L : List Int} (h : GTh t) (hi : In U6 L) : ∃ kvs, Keys kvs (force t L).1 ∧ m_forced [eTh t, eL L] = .ok (.tup [.dct kvs, numD (force t L).2]) := by
  obtain ⟨fs, hF, e⟩ := forced_why h hi
  exact ⟨_, by rw [hF.eq]; exact encJ_keys, e⟩
def neg (r : List Int) : List Int := r.map (-·)
def foll (t : Th) (r : List Int) : Bool := (force t (neg r)).2.isSome
/-- rows of marks: the signs within U, no mark twice -/
structure Row (r : List Int) : Prop where
  sub : ∀ s ∈ r, s ∈ U6
  nd : (r.map absI).Nodup
theorem U6_neg : ∀ s ∈ U6, -s ∈ U6 := by decide
theorem U6_0 : (0 : Int) ∉ U6 := by decide
theorem Row.nodup {r : List Int} (h : Row r) : r.Nodup := by
  have := h.nd
  rw [List.Nodup, List.pairwise_map] at this
  exact this.imp fun hne e => hne (by rw [e])
theorem Row.inn {r : List Int} (h : Row r) : In U6 (neg r) := ⟨by
  have := h.nodup
  unfold neg
  rw [List.Nodup, List.pairwise_map]
  exact this.imp fun hne e => hne (by omega), fun s hs => by
  obtain ⟨x, hx, rfl⟩ := List.mem_map.mp hs
  exact U6_neg x (h.sub x hx)⟩
theorem Row.len {r : List Int} (h : Row r) : r.length ≤ 12 := nodup_le h.nodup h.sub
theorem absI_neg {s : Int} : absI (-s) = absI s := by unfold absI; split <;> split <;> omega
theorem Row.cons {r : List Int} (h : Row r) : Cons r := fun s hs hn => by
  have := h.nd
  rw [List.Nodup, List.pairwise_map] at this
  have s0 : s ≠ 0 := fun e => U6_0 (e ▸ h.sub s hs)
  have hp := this
  rw [List.pairwise_iff_forall_sublist] at hp
  rcases List.mem_iff_append.mp hs with ⟨a, b, e⟩
  subst e
  rcases List.mem_append.mp hn with ha | hb
  · refine hp (a := -s) (b := s) ?_ absI_neg
    exact (List.singleton_sublist.mpr ha).append (List.Sublist.cons₂ s (List.nil_sublist b))
  · rcases List.mem_cons.mp hb with e | hb
    · omega
    · refine hp (a := s) (b := -s) ?_ absI_neg.symm
      exact (List.nil_sublist a).append (List.Sublist.cons₂ s (List.singleton_sublist.mpr hb))
theorem Row.consn {r : List Int} (h : Row r) : Cons (neg r) := fun s hs hn => by
  obtain ⟨x, hx, rfl⟩ := List.mem_map.mp hs
  obtain ⟨y, hy, e⟩ := List.mem_map.mp hn
  have : y = -x := by omega
  exact h.cons x hx (this ▸ hy)
theorem opp_is {d : D} {r : List Int} (h : IsR d r) (hr : Row r) : m_opposites [d] = .ok (eL (neg r)) := opposites_is h (by have := hr.len; omega)
theorem dGet_tup1 {a b : D} : dGet (.tup [a, b]) (.int 1) = .ok b := rfl
theorem dGet_tup0 {a b : D} : dGet (.tup [a, b]) (.int 0) = .ok a := rfl
theorem follows_is {t : Th} {d : D} {r : List Int} (h : GTh t) (hd : IsR d r) (hr : Row r) : m_follows [eTh t, d] = .ok (.bl (foll t r)) := by
  obtain ⟨kvs, _, e⟩ := forced_is h hr.inn
  refine wp_is (wp_ret (d := .bl (foll t r)) ?_ rfl)
  have : numD (force t (neg r)).2 = if foll t r = true then numD (force t (neg r)).2 else .non := by
    unfold foll; cases (force t (neg r)).2 <;> rfl
  simp only [s_e2, s_eCall, s_aCons, s_aNil, s_start, List.map_cons, List.map_nil, List.length_cons, List.length_nil, s_frz1, s_f1, s_eVar, s_bind1, s_map, List.cons_append, List.getElem?_cons_zero, List.getElem?_cons_succ, opp_is hd hr, e, s_eC, dGet_tup1, s_nox1]
  unfold foll
  cases (force t (neg r)).2 <;> rfl
theorem law_follows_is {t : Th} {d : D} {r : List Int} (h : GTh t) (hd : IsR d r) (hr : Row r) : m__law_follows [eTh t, d] = .ok (.bl (foll t r)) := by
  refine wp_is (wp_ret (d := .bl (foll t r)) ?_ rfl)
  have c : eComp [2] (.nm 2) (iSeq (eVar 1)) tTrue (e1 dNeg (eVar 2)) (frz (start0 3 [eTh t, d])) = .ok (eL (neg r)) := by
    refine comp_is (es := (neg r).map D.int) (by simp [hd.iter]; rfl) ?_ (by have := hr.len; unfold neg; simp; omega)
    unfold neg
    rw [List.map_map]
    exact compD_all fun x _ => by simp
  simp only [s_e2, s_eCall, s_aCons, s_aNil, c, s_bind1, s_map]
  simp only [s_start, List.map_cons, List.map_nil, List.length_cons, List.length_nil, s_frz1, s_f1, s_eVar, List.cons_append, List.getElem?_cons_zero, s_bind1, s_map, law_forced_is h hr.inn, s_eC, dGet_tup1, s_nox1]
  rfl
end Tw

/-! P3: closure; rows told; the walk. -/
namespace Tw
open PySem L2
theorem asInts_ints : ∀ r : List Int, asInts (r.map D.int) = some r
  | [] => rfl
  | i :: r => by
    have := asInts_ints r
    simp only [List.map_cons, asInts, this]
    rfl
theorem sort_ints {r : List Int} : dSortAbs [eL r] = .ok (eL (isort absI r)) := by
  unfold dSortAbs eL
  simp only [asInts_ints]
theorem list_keys {kvs : List (Key × D)} {L : List Int} (h : Keys kvs L) : dList [.dct kvs] = .ok (eL L) := by
  have : (kvs.map fun kv => keyD kv.1) = L.map D.int := by
    have e : (kvs.map fun kv => keyD kv.1) = (kvs.map Prod.fst).map keyD := by simp
    rw [e, show kvs.map Prod.fst = L.map Sum.inl from h, List.map_map]
    rfl
  show R.ok (D.lst (kvs.map fun kv => keyD kv.1)) = _
  rw [this]; rfl
theorem closure_is {t : Th} {d : D} {r : List Int} (h : GTh t) (hd : IsR d r) (hr : Row r) : m_closure [eTh t, d] = .ok (eL (isort absI (force t (neg r)).1)) := by
  obtain ⟨kvs, hK, e⟩ := forced_is h hr.inn
  refine wp_is (wp_ret (d := eL (isort absI (force t (neg r)).1)) ?_ rfl)
  simp only [s_e2, s_eCall, s_aCons, s_aNil, s_start, List.map_cons, List.map_nil, List.length_cons, List.length_nil, s_frz1, s_f1, s_eVar, s_bind1, s_map, List.cons_append, List.getElem?_cons_zero, List.getElem?_cons_succ, opp_is hd hr, e, s_eC, dGet_tup0, s_nox1, s_eB, list_keys hK, sort_ints]
def told (r : List Int) : List Int := isort absI r
theorem list_IsR {d : D} {r : List Int} (h : IsR d r) : dList [d] = .ok (eL r) := by rcases h with rfl | rfl <;> rfl
theorem tuple_eL {r : List Int} : dTuple [eL r] = .ok (eT r) := rfl
theorem row_of_is {d : D} {r : List Int} (h : IsR d r) : m_row_of [d] = .ok (eT (told r)) := by
  refine wp_is (wp_ret (d := eT (told r)) ?_ rfl)
  simp only [s_eB, s_aCons, s_aNil, s_start, List.map_cons, List.map_nil, List.length_cons, List.length_nil, s_frz1, s_f1, s_eVar, s_bind1, s_map, List.cons_append, List.getElem?_cons_zero, list_IsR h, s_nox1, sort_ints, tuple_eL]
  rfl
theorem law_told_is {d : D} {r : List Int} (h : IsR d r) : m__law_told [d] = .ok (eT (told r)) := by
  refine wp_is (wp_ret (d := eT (told r)) ?_ rfl)
  simp only [s_eB, s_aCons, s_aNil, s_start, List.map_cons, List.map_nil, List.length_cons, List.length_nil, s_frz1, s_f1, s_eVar, s_bind1, s_map, List.cons_append, List.getElem?_cons_zero, list_IsR h, s_nox1, sort_ints, tuple_eL]
  rfl
theorem isort_mem {f : Int → Int} {z : Int} : ∀ {xs : List Int}, z ∈ isort f xs ↔ z ∈ xs
  | [] => Iff.rfl
  | x :: xs => by
    show z ∈ insBy f x (isort f xs) ↔ _
    rw [insBy_mem, isort_mem, List.mem_cons]
theorem insBy_perm {f : Int → Int} {x : Int} : ∀ {ys : List Int}, (insBy f x ys).Perm (x :: ys)
  | [] => List.Perm.refl _
  | y :: ys => by
    unfold insBy
    split
    · exact List.Perm.refl _
    · exact (List.Perm.cons y insBy_perm).trans (List.Perm.swap x y ys)
theorem isort_perm {f : Int → Int} : ∀ {xs : List Int}, (isort f xs).Perm xs
  | [] => List.Perm.refl _
  | x :: xs => insBy_perm.trans (List.Perm.cons x isort_perm)
theorem Row.perm {r r' : List Int} (h : Row r) (p : r'.Perm r) : Row r' := ⟨fun s hs => h.sub s (p.mem_iff.mp hs), (p.map absI).nodup_iff.mpr h.nd⟩
theorem Row.told {r : List Int} (h : Row r) : Row (told r) := h.perm isort_perm
/-! ### the walk -/
abbrev Stp := Bool × List Int
def wd (b : Bool) : Str := if b = true then "drop" else "row"
def lastN (t : Th) (r : List Int) : Option Int := ((t.filter fun p => decide (p.2 = r)).map (·.1)).getLast?
def wout (t : Th) (n : Int) : Th := t.filter fun p => !decide (p.1 = n)
def walkF : List Stp → Nat → Th → Int → Option Nat × Th
  | [], _, t, _ => (none, t)
  | (true, r) :: ss, k, t, c => match lastN t r with
    | none => (some k, t)
    | some n => walkF ss (k + 1) (wout t n) c
  | (false, r) :: ss, k, t, c => if foll t r = true then walkF ss (k + 1) (t ++ [(c, r)]) (c + 1) else (some k, t)
def enTh (n : Int) : List (List Int) → Th
  | [] => []
  | r :: rs => (n, r) :: enTh (n + 1) rs
def lastE (ss : List Stp) : Bool := decide (ss.getLast? = some (false, []))
/-- where a road isn't right any more, and the rows that are there then -/
def walk (rows : List (List Int)) (ss : List Stp) : Option Nat × Th := match walkF ss 0 (enTh 0 rows) rows.length with
  | (some k, t) => (some k, t)
  | (none, t) => if lastE ss = true then (none, t) else (some ss.length, t)
structure RTh (t : Th) : Prop where
  row : ∀ p ∈ t, Row p.2
theorem RTh.good {t : Th} (h : RTh t) (hl : t.length ≤ 400) : GTh t := ⟨fun p hp s hs => (h.row p hp).sub s hs, fun p hp => by have := (h.row p hp).len; omega, hl⟩
theorem atI_last {α : Type} {xs : List α} (h : xs ≠ []) : atI xs (-1) = xs.getLast? := by
  have hl : 0 < xs.length := List.length_pos_iff.mpr h
  unfold atI ixN
  rw [if_neg (by omega), if_pos (by omega)]
  have : (-1 + (xs.length : Int)).toNat = xs.length - 1 := by omega
  show xs[(-1 + (xs.length : Int)).toNat]? = _
  rw [this, List.getLast?_eq_getElem?]
theorem getLast_map {α β : Type} (f : α → β) (xs : List α) : (xs.map f).getLast? = xs.getLast?.map f := by simp
theorem dEq_eT {a b : List Int} : dEq (eT a) (eT b) = .ok (.bl (decide (a = b))) := dEq_nc (n := 1) (m := 1) (nc_eT 0 a) (nc_eT 0 b) (by simp [eT_inj])
theorem last_with_is {t : Th} {r : List Int} (hl : t.length ≤ 9000) : m_last_with [eTh t, eT r] = .ok (numD (lastN t r)) := by
  refine wp_is ?_
  refine wp_seq (wp_set (d := eL ((t.filter fun p => decide (p.2 = r)).map (·.1))) ?_ ?_)
  · refine comp_is (ds := t.map eP) (es := ((t.filter fun p => decide (p.2 = r)).map (·.1)).map D.int) ?h1 ?_ (by have := List.length_filter_le (fun p : Int × List Int => decide (p.2 = r)) t; simp; omega)
    · simp [eTh]
    rw [List.map_map]
    exact compD_filter fun p _ => by
      obtain ⟨n, q⟩ := p
      simp [eP, dEq_eT]
      split <;> simp_all
  · refine wp_ret (d := numD (lastN t r)) ?_ rfl
    show eIf _ _ _ (frz [.fz (eTh t), .fz (eT r), .fz (eL ((t.filter fun p => decide (p.2 = r)).map (·.1))), .no, .no]) = _
    unfold lastN
    generalize (t.filter fun p => decide (p.2 = r)).map (·.1) = ns
    cases hn : ns with
    | nil => simp [sz_of, dNe_nil, numD]
    | cons a b =>
      have e : dGet (eL (a :: b)) (.int (-1)) = .ok (numD ((a :: b).getLast?)) := by
        show R.of (atI ((a :: b).map D.int) (-1)) = _
        rw [atI_last (by simp), getLast_map]
        cases q : (a :: b).getLast? with
        | none => simp at q
        | some z => rfl
      simp only [s_eIf, s_tV, s_e2, s_eVar, s_frz1, s_f1, s_f3, List.getElem?_cons_succ, List.getElem?_cons_zero, s_bind1, s_eLst, s_aNil, List.length_nil, sz_of (Nat.zero_le _), if_true, dNe_nil, s_nox1, s_asB, List.isEmpty_cons, Bool.not_false, s_e1, s_eC, s_neg, e]
theorem dNe_ints {a b : Int} : dNe (.int a) (.int b) = .ok (.bl (!decide (a = b))) := dNe_int
theorem without_is {t : Th} {n : Int} (hl : t.length ≤ 9000) : m_without [eTh t, .int n] = .ok (eTh (wout t n)) := by
  refine wp_is (wp_ret (d := eTh (wout t n)) ?_ rfl)
  refine comp_is (ds := t.map eP) (es := (wout t n).map eP) (by simp [eTh]) ?_ (by have := List.length_filter_le (fun p : Int × List Int => !decide (p.1 = n)) t; unfold wout; simp; omega)
  exact compD_filter fun p _ => by
    obtain ⟨m, q⟩ := p
    simp [eP, dGet, atI_0, dNe_int]
    split <;> simp_all
/-! ### the walk's loops -/
def IsS (d : D) (s : Stp) : Prop := ∃ d', d = .tup [.str (wd s.1), d'] ∧ IsR d' s.2
/-- steps as data, each with what it is -/
abbrev DS := List (D × Stp)
structure OkS (xs : DS) : Prop where
  is : ∀ p ∈ xs, IsS p.1 p.2
  row : ∀ p ∈ xs, Row p.2.2
def eDS (xs : DS) : D := .lst (xs.map Prod.fst)
def sDS (xs : DS) : List Stp := xs.map Prod.snd
/-- with the rows told -/
def tDS (xs : DS) : List Stp := xs.map fun p => (p.2.1, told p.2.2)
def enI (n : Nat) {α : Type} : List α → List (Nat × α)
  | [] => []
  | x :: xs => (n, x) :: enI (n + 1) xs
theorem enumD_en {α : Type} (f : α → D) : ∀ (n : Nat) (xs : List α), enumD n (xs.map f) = (enI n xs).map fun p => .tup [.int p.1, f p.2]
  | _, [] => rfl
  | n, x :: xs => by simp only [List.map_cons, enumD, enI, enumD_en f (n + 1) xs]
theorem enum_rows (n : Nat) : ∀ rs : List (List Int), enumD n (rs.map eT) = (enTh n rs).map eP
  | [] => rfl
  | r :: rs => by
    simp only [List.map_cons, enumD, enTh, enum_rows (n + 1) rs]
    rfl
theorem dEq_str {a b : Str} (ha : PyData.strOk a = true) (hb : PyData.strOk b = true) : dEq (.str a) (.str b) = .ok (.bl (decide (a = b))) := dEq_nc (n := 0) (m := 0) ha hb (by simp)
theorem dNe_str {a b : Str} (ha : PyData.strOk a = true) (hb : PyData.strOk b = true) : dNe (.str a) (.str b) = .ok (.bl (!decide (a = b))) := dNe_nc (n := 0) (m := 0) ha hb (by simp)
theorem wd_ok (b : Bool) : PyData.strOk (wd b) = true := by cases b <;> decide +kernel
theorem wd_drop {b : Bool} : dEq (.str (wd b)) (.str "drop") = .ok (.bl b) := by
  rw [dEq_str (wd_ok b) (by decide +kernel), show decide (wd b = ("drop" : Str)) = b from by cases b <;> decide +kernel]
theorem wd_row {b : Bool} : dNe (.str (wd b)) (.str "row") = .ok (.bl b) := by
  rw [dNe_str (wd_ok b) (by decide +kernel), show decide (wd b = ("row" : Str)) = !b from by cases b <;> decide +kernel, Bool.not_not]
theorem nc_map {α : Type} {n : Nat} {f : α → D} {xs : List α} (h : ∀ x ∈ xs, nc n (f x) = true) : nc (n + 1) (.lst (xs.map f)) = true := by
  show (xs.map f).all (nc n) = true
  rw [List.all_eq_true]; intro d hd
  obtain ⟨x, hx, rfl⟩ := List.mem_map.mp hd
  exact h x hx
def eS (s : Stp) : D := .tup [.str (wd s.1), eT s.2]
theorem nc_eS (n : Nat) (s : Stp) : nc (n + 2) (eS s) = true := by
  show ([.str (wd s.1), eT s.2] : List D).all (nc (n + 1)) = true
  simp only [List.all_cons, List.all_nil, nc_eT, Bool.and_true]
  exact wd_ok s.1
theorem wd_inj {a b : Bool} : wd a = wd b ↔ a = b := by cases a <;> cases b <;> decide +kernel
theorem dNe_last {s : Stp} : dNe (eS s) (.tup [.str "row", .tup []]) = .ok (.bl (!decide (s = (false, [])))) := by
  have e : (D.tup [.str "row", .tup []]) = eS (false, []) := rfl
  rw [e]
  refine dNe_nc (n := 2) (m := 2) (nc_eS 0 s) (nc_eS 0 _) ?_
  obtain ⟨b, r⟩ := s
  cases b <;> simp [eS, wd_inj, eT_inj]
theorem last_map {α : Type} {f : α → D} {xs : List α} {x : α} (h : xs.getLast? = some x) : dGet (.lst (xs.map f)) (.int (-1)) = .ok (f x) := by
  show R.of (atI (xs.map f) (-1)) = _
  have : xs ≠ [] := fun e => by rw [e] at h; cases h
  rw [atI_last (by simpa using this), getLast_map, h]
  rfl
theorem dEq_mapnil {α : Type} {n : Nat} {f : α → D} {xs : List α} (h : ∀ x ∈ xs, nc n (f x) = true) (hn : n + 1 ≤ 64) : dEq (.lst (xs.map f)) (.lst []) = .ok (.bl xs.isEmpty) :=
  dEq_nc (n := n + 1) (m := 1) (nc_map h) rfl (by cases xs <;> simp) hn
theorem dNe_mapnil {α : Type} {n : Nat} {f : α → D} {xs : List α} (h : ∀ x ∈ xs, nc n (f x) = true) (hn : n + 1 ≤ 64) : dNe (.lst (xs.map f)) (.lst []) = .ok (.bl (!xs.isEmpty)) :=
  dNe_nc (n := n + 1) (m := 1) (nc_map h) rfl (by cases xs <;> simp) hn
theorem enI_split {α : Type} {zs ys : List (Nat × α)} {y : Nat × α} : ∀ {n : Nat} {xs : List α}, enI n xs = zs ++ y :: ys → y.2 ∈ xs := fun {n xs} h => by
  have : ∀ (n : Nat) (xs : List α) (q : Nat × α), q ∈ enI n xs → q.2 ∈ xs := fun n xs => by
    induction xs generalizing n with
    | nil => intro q h; cases h
    | cons x xs ih =>
      intro q h
      rcases List.mem_cons.mp h with e | h
      · rw [e]; exact List.mem_cons_self
      · exact List.mem_cons_of_mem _ (ih (n + 1) q h)
  exact this n xs y (by rw [h]; simp)
theorem enTh_row : ∀ {n : Int} {rs : List (List Int)}, (∀ r ∈ rs, Row r) → RTh (enTh n rs)
  | _, [], _ => ⟨fun p h => by cases h⟩
  | n, r :: rs, h => ⟨fun p hp => by
    rcases List.mem_cons.mp hp with e | hp
    · rw [e]; exact h r (by simp)
    · exact (enTh_row (n := n + 1) fun r' hr => h r' (List.mem_cons_of_mem _ hr)).row p hp⟩
theorem enTh_len : ∀ {n : Int} {rs : List (List Int)}, (enTh n rs).length = rs.length
  | _, [] => rfl
  | n, r :: rs => by simp [enTh, enTh_len (n := n + 1) (rs := rs)]
theorem RTh.wout {t : Th} (h : RTh t) (n : Int) : RTh (wout t n) := ⟨fun p hp => h.row p (List.mem_filter.mp hp).1⟩
theorem RTh.app {t : Th} (h : RTh t) {r : List Int} (hr : Row r) (c : Int) : RTh (t ++ [(c, r)]) := ⟨fun p hp => by
  rcases List.mem_append.mp hp with hp | hp
  · exact h.row p hp
  · rw [List.mem_singleton.mp hp]; exact hr⟩
theorem wout_len {t : Th} {n : Int} : (wout t n).length ≤ t.length := List.length_filter_le _ _
theorem eTh_app {t : Th} {c : Int} {r : List Int} : D.lst (t.map eP ++ [.tup [.int c, eT r]]) = eTh (t ++ [(c, r)]) := by simp [eTh, eP]
def atD : Option Nat → D
  | some k => .int k
  | none => .non
theorem walked_is {rows : List (List Int)} {ss : List Stp} (hr : ∀ r ∈ rows, Row r) (hs : ∀ s ∈ ss, Row s.2) (hl : rows.length + ss.length ≤ 390) :
    m_walked [.lst (rows.map eT), .lst (ss.map eS)] = .ok (.tup [atD (walk rows ss).1, eTh (walk rows ss).2]) := by
  refine wp_is (wp_seq ?_)
  unfold sPar2
  show WP (sSeq _ _ [.fz (.lst (rows.map eT)), .fz (.lst (ss.map eS)), .fz (.lst (enumD 0 (rows.map eT))), .fz (.int (rows.map eT).length), .no, .no, .no, .no]) _ _
  rw [enum_rows, List.length_map]
  generalize hds : D.lst (ss.map eS) = ds
  generalize hrs : D.lst (rows.map eT) = rs
  refine wp_seq (wp_for (xs := enI 0 ss) (en := fun p => .tup [.int p.1, eS p.2])
    (I := fun ys ρ => ∃ (k : Nat) (us : List Stp) (t : Th) (c : Int) (a b d e : Cl), ys = enI k us ∧ (∀ s ∈ us, Row s.2) ∧ RTh t ∧ t.length + us.length ≤ 390 ∧ walkF ss 0 (enTh 0 rows) rows.length = walkF us k t c ∧ ρ = [.fz rs, .fz ds, .fz (eTh t), .fz (.int c), a, b, d, e]) ?_ ?_ ?_ ?_)
  · subst hds
    simp only [s_iRg, s_aCons, s_aNil, s_eVar, s_hid1, s_h1, List.getElem?_cons_succ, List.getElem?_cons_zero, s_bind1, s_map, dEnum]
    rw [enumD_en]
  · exact ⟨0, ss, enTh 0 rows, rows.length, _, _, _, _, rfl, hs, enTh_row hr, by rw [enTh_len]; exact hl, rfl, rfl⟩
  · rintro ⟨k', ⟨b, r⟩⟩ ys ρ _ ⟨k, us, t, c, a1, a2, a3, a4, he, hu, ht, hlen, hw, rfl⟩
    cases us with
    | nil => cases he
    | cons u us =>
      have he : (k', (b, r)) :: ys = (k, u) :: enI (k + 1) us := he
      cases he
      have hrow : Row r := hu (b, r) (by simp)
      have hu' : ∀ s ∈ us, Row s.2 := fun s hs => hu s (List.mem_cons_of_mem _ hs)
      have hg : GTh t := ht.good (by simp at hlen; omega)
      simp only [List.length_cons] at hlen
      simp only [eS, s_body, s_bindTp, s_bindTs1, s_bindTs0, s_bindNm, Option.bind_some, Option.map_some, List.cons_append, List.nil_append, List.append_nil, s_setsC1, s_setsC0]
      show WP (sIf _ _ _ [.fz rs, .fz ds, .fz (eTh t), .fz (.int c), .fz (.int k'), .fz (.str (wd b)), .fz (eT r), a4]) _ _
      refine wp_if (b := b) ?_ (fun hb => ?_) (fun hb => ?_)
      · simp only [s_tV, s_e2, s_eVar, s_frz1, s_f1, List.getElem?_cons_succ, List.getElem?_cons_zero, s_bind1, s_eC]
        rw [wd_drop]
        rfl
      · subst hb
        refine wp_seq (wp_set (d := numD (lastN t r)) ?_ ?_)
        · simp only [s_eCall, s_aCons, s_aNil, s_eVar, s_hid1, s_h1, List.getElem?_cons_succ, List.getElem?_cons_zero, s_bind1, s_map]
          exact last_with_is (by omega)
        · show WP (sSeq _ _ [.fz rs, .fz ds, .fz (eTh t), .fz (.int c), .fz (.int k'), .fz (.str (wd true)), .fz (eT r), .fz (numD (lastN t r))]) _ _
          cases hn : lastN t r with
          | none =>
            refine wp_seq (wp_if (b := true) rfl (fun _ => wp_ret (d := .tup [.int k', eTh t]) (by simp [sz_of]) ?_) fun h => by cases h)
            unfold walk
            rw [hw]
            unfold walkF
            simp only [hn]
            rfl
          | some n =>
            refine wp_seq (wp_if (b := false) rfl (fun h => by cases h) fun _ => ?_)
            refine wp_set (d := eTh (wout t n)) ?_ ?_
            · simp only [s_eCall, s_aCons, s_aNil, s_eVar, s_hid1, s_h1, List.getElem?_cons_succ, List.getElem?_cons_zero, s_bind1, s_map, numD]
              exact without_is (by omega)
            · refine ⟨k' + 1, us, wout t n, c, _, _, _, _, rfl, hu', ht.wout n, by have := wout_len (t := t) (n := n); omega, ?_, rfl⟩
              rw [hw]
              conv => lhs; unfold walkF
              simp only [hn]
      · subst hb
        refine wp_if (b := !foll t r) ?_ (fun hb => ?_) (fun hb => ?_)
        · simp only [s_tNo, s_tV, s_eCall, s_aCons, s_aNil, s_eVar, s_frz1, s_f1, List.getElem?_cons_succ, List.getElem?_cons_zero, s_bind1, s_map, follows_is hg (.inr rfl) hrow, s_asB]
        · refine wp_ret (d := .tup [.int k', eTh t]) (by simp [sz_of]) ?_
          unfold walk
          rw [hw]
          unfold walkF
          have : foll t r = false := by simpa using hb
          simp [this]
          rfl
        · have hf : foll t r = true := by simpa using hb
          refine wp_seq (wp_set (d := eTh (t ++ [(c, r)])) ?_ ?_)
          · have hz : sz ((t.map eP).length + 1) = true := sz_of (by simp; omega)
            simp only [s_e2, s_eLst, s_eTup, s_aCons, s_aNil, s_eVar, s_hid1, s_h1, List.getElem?_cons_succ, List.getElem?_cons_zero, s_bind1, s_map, List.length_cons, List.length_nil, sz_of (show 0 + 1 + 1 ≤ 10000 by decide), sz_of (show 0 + 1 ≤ 10000 by decide), if_true]
            unfold eTh dAdd
            simp only [List.length_cons, List.length_nil, Nat.zero_add, hz, if_true, s_nox1]
            exact congrArg R.ok eTh_app
          · show WP (sAug 3 _ _ [.fz rs, .fz ds, .fz (eTh (t ++ [(c, r)])), .fz (.int c), .fz (.int k'), .fz (.str (wd false)), .fz (eT r), a4]) _ _
            refine ⟨k' + 1, us, t ++ [(c, r)], c + 1, _, _, _, _, rfl, hu', ht.app hrow c, by simp; omega, ?_, rfl⟩
            rw [hw]
            conv => lhs; unfold walkF
            simp only [hf, if_true]
  · rintro ρ ⟨k, us, t, c, a1, a2, a3, a4, he, _, ht, _, hw, rfl⟩
    cases us with
    | cons u us => cases he
    | nil =>
      subst hds
      refine wp_seq (wp_if (b := !lastE ss) ?_ (fun hb => ?_) (fun hb => ?_))
      · cases hl2 : ss.getLast? with
        | none =>
          have : ss = [] := List.getLast?_eq_none_iff.mp hl2
          subst this
          have e0 : dEq (.lst []) (.lst []) = .ok (.bl true) := dEq_mapnil (f := eS) (xs := []) (n := 2) (by simp) (by decide)
          simp [sz_of, e0, lastE]
        | some s =>
          have hne : ss ≠ [] := fun e => by rw [e] at hl2; cases hl2
          have he : ss.isEmpty = false := by cases ss <;> simp_all
          simp only [s_tOr, s_tV, s_e2, s_eVar, s_frz1, s_f1, List.getElem?_cons_succ, List.getElem?_cons_zero, s_bind1, s_eLst, s_eTup, s_aNil, s_aCons, s_map, List.length_nil, List.length_cons, sz_of (show 0 ≤ 10000 by decide), sz_of (show 0 + 1 + 1 ≤ 10000 by decide), if_true, dEq_mapnil (f := eS) (xs := ss) (n := 2) (fun s _ => nc_eS 0 s) (by decide), s_nox1, s_asB, he, Bool.false_eq_true, if_false, s_e1, s_eC, s_neg, last_map (f := eS) hl2, dNe_last]
          simp only [lastE, hl2, Option.some.injEq]
      · refine wp_ret (d := .tup [.int ss.length, eTh t]) ?_ ?_
        · simp [sz_of, dLen]
        unfold walk
        rw [hw]
        have : lastE ss = false := by simpa using hb
        simp [walkF, this, atD]
      · refine wp_nil (wp_ret (d := .tup [.non, eTh t]) ?_ ?_)
        · simp [sz_of]
        unfold walk
        rw [hw]
        have : lastE ss = true := by simpa using hb
        simp [walkF, this, atD]
end Tw

/-! P4: the law's walk. -/
namespace Tw
open PySem L2
/-- rows as data, each with what it is -/
abbrev DR := List (D × List Int)
structure OkR (xs : DR) : Prop where
  is : ∀ p ∈ xs, IsR p.1 p.2
  row : ∀ p ∈ xs, Row p.2
def eDR (xs : DR) : D := .lst (xs.map Prod.fst)
def tDR (xs : DR) : List (List Int) := xs.map fun p => told p.2
def atL : Option Nat → Int
  | some k => k
  | none => -1
theorem told_nil {r : List Int} : told r = [] ↔ r = [] := by
  constructor
  · intro h
    have := isort_perm (f := absI) (xs := r)
    unfold told at h
    rw [h] at this
    exact this.nil_eq.symm
  · intro h; rw [h]; rfl
theorem eDR_told {xs : DR} (h : OkR xs) (hl : xs.length ≤ 9000) {ρ : Ev} (h0 : ρ[0]? = some (some (eDR xs))) (hn : ρ.length = 12) :
    eComp [7] (.nm 7) (iSeq (eVar 0)) tTrue (eCall m__law_told (aCons (eVar 7) aNil)) ρ = .ok (.lst ((tDR xs).map eT)) := by
  refine comp_is (ds := xs.map Prod.fst) (es := (tDR xs).map eT) ?_ ?_ (by unfold tDR; simp; omega)
  · simp [h0, eDR]
  · unfold tDR
    rw [List.map_map]
    refine compD_all fun p hp => ?_
    have e : (setsD (wipeD ρ [7]) [(7, p.1)])[7]? = some (some p.1) := by simp [hn]
    simp only [s_comp, s_bindNm, s_tTrue, s_nox1, s_bind1, if_true, s_eCall, s_aCons, s_aNil, s_eVar, e, s_map, law_told_is (h.is p hp)]
    rfl
theorem dGt_ii {i j : Int} : dGt (.int i) (.int j) = .ok (.bl (decide (j < i))) := rfl
theorem dLen_R {d : D} {r : List Int} (h : IsR d r) : dLen [d] = .ok (.int r.length) := by rcases h with rfl | rfl <;> simp [dLen, eL, eT]
theorem law_walked_is {xr : DR} {xs : DS} (hr : OkR xr) (hs : OkS xs) (hl : xr.length + xs.length ≤ 390) :
    m__law_walked [eDR xr, eDS xs] = .ok (.tup [.int (atL (walk (tDR xr) (tDS xs)).1), eTh (walk (tDR xr) (tDS xs)).2]) := by
  have hlr : (tDR xr).length = xr.length := by unfold tDR; simp
  refine wp_is (wp_seq ?_)
  unfold sPar2
  have c0 := eDR_told hr (by omega) (ρ := hid (start0 12 [eDR xr, eDS xs])) rfl rfl
  simp only [s_eB, s_aCons, s_aNil, c0, s_bind1, s_map, dLEnum, s_nox1, s_step1]
  show WP (sSeq _ _ [.fz (eDR xr), .fz (eDS xs), .fz (.lst (enumD 0 ((tDR xr).map eT))), .fz (.int (xr.map Prod.fst).length), .no, .no, .no, .no, .no, .no, .no, .no]) _ _
  rw [enum_rows, List.length_map]
  generalize hrs : eDR xr = rs
  generalize hds : eDS xs = ds
  generalize hrw : tDR xr = rows at hlr ⊢
  have hrows : ∀ r ∈ rows, Row r := fun r hm => by
    rw [← hrw] at hm
    obtain ⟨p, hp, rfl⟩ := List.mem_map.mp hm
    exact (hr.row p hp).told
  refine wp_seq (wp_for (xs := enI 0 xs) (en := fun p => .tup [.int p.1, p.2.1])
    (I := fun ys ρ => ∃ (k : Nat) (us : DS) (t : Th) (c : Int) (a b d e f : Cl), ys = enI k us ∧ OkS us ∧ RTh t ∧ t.length + us.length ≤ 390 ∧ walkF (tDS xs) 0 (enTh 0 rows) rows.length = walkF (tDS us) k t c ∧ ρ = [.fz rs, .fz ds, .fz (eTh t), .fz (.int c), a, b, d, e, f, .no, .no, .no]) ?_ ?_ ?_ ?_)
  · subst hds
    simp only [s_iRg, s_aCons, s_aNil, s_eVar, s_hid1, s_h1, List.getElem?_cons_succ, List.getElem?_cons_zero, s_bind1, s_map, dEnum, eDS]
    rw [enumD_en]
  · exact ⟨0, xs, enTh 0 rows, rows.length, _, _, _, _, _, rfl, hs, enTh_row hrows, by rw [enTh_len]; omega, rfl, by rw [hlr]; rfl⟩
  · rintro ⟨k', u⟩ ys ρ _ ⟨k, us, t, c, a1, a2, a3, a4, a5, he, hu, ht, hlen, hw, rfl⟩
    cases us with
    | nil => cases he
    | cons u' us =>
      have he : (k', u) :: ys = (k, u') :: enI (k + 1) us := he
      cases he
      obtain ⟨d0, b, r⟩ := u
      have hrow : Row r := hu.row (d0, b, r) (by simp)
      obtain ⟨d', hd0, hR⟩ : IsS d0 (b, r) := hu.is (d0, b, r) (by simp)
      have hd0 : d0 = .tup [.str (wd b), d'] := hd0
      have hR : IsR d' r := hR
      have hu' : OkS us := ⟨fun p hp => hu.is p (List.mem_cons_of_mem _ hp), fun p hp => hu.row p (List.mem_cons_of_mem _ hp)⟩
      simp only [List.length_cons] at hlen
      have hg : GTh t := ht.good (by omega)
      simp only [hd0, s_body, s_bindTp, s_bindTs1, s_bindTs0, s_bindNm, Option.bind_some, Option.map_some, List.cons_append, List.nil_append, List.append_nil, s_setsC1, s_setsC0]
      refine wp_seq (wp_set (d := eT (told r)) ?_ ?_)
      · show eCall m__law_told _ (hid [.fz rs, .fz ds, .fz (eTh t), .fz (.int c), .fz (.int k'), .fz (.str (wd b)), .fz d', a4, a5, .no, .no, .no]) = _
        simp only [s_eCall, s_aCons, s_aNil, s_eVar, s_hid1, s_h1, List.getElem?_cons_succ, List.getElem?_cons_zero, s_bind1, s_map, law_told_is hR]
      show WP (sIf _ _ _ [.fz rs, .fz ds, .fz (eTh t), .fz (.int c), .fz (.int k'), .fz (.str (wd b)), .fz d', .fz (eT (told r)), a5, .no, .no, .no]) _ _
      have hwf : walkF (tDS ((d0, b, r) :: us)) k' t c = match b with
        | true => (match lastN t (told r) with
          | none => (some k', t)
          | some n => walkF (tDS us) (k' + 1) (wout t n) c)
        | false => if foll t (told r) = true then walkF (tDS us) (k' + 1) (t ++ [(c, told r)]) (c + 1) else (some k', t) := by
        show walkF ((b, told r) :: tDS us) k' t c = _
        conv => lhs; unfold walkF
        cases b <;> rfl
      refine wp_if (b := b) ?_ (fun hb => ?_) (fun hb => ?_)
      · simp only [s_tV, s_e2, s_eVar, s_frz1, s_f1, List.getElem?_cons_succ, List.getElem?_cons_zero, s_bind1, s_eC, wd_drop, s_nox1, s_asB]
      · subst hb
        refine wp_seq (wp_set (d := eL ((t.filter fun p => decide (p.2 = told r)).map (·.1))) ?_ ?_)
        · refine comp_is (ds := t.map eP) (es := ((t.filter fun p => decide (p.2 = told r)).map (·.1)).map D.int) ?_ ?_ (by have := List.length_filter_le (fun p : Int × List Int => decide (p.2 = told r)) t; simp; omega)
          · simp [eTh]
          rw [List.map_map]
          exact compD_filter fun p _ => by
            obtain ⟨n, q⟩ := p
            simp [eP, dEq_eT]
            split <;> simp_all
        show WP (sSeq _ _ [.fz rs, .fz ds, .fz (eTh t), .fz (.int c), .fz (.int k'), .fz (.str (wd true)), .fz d', .fz (eT (told r)), .fz (eL ((t.filter fun p => decide (p.2 = told r)).map (·.1))), .no, .no, .no]) _ _
        generalize hns : (t.filter fun p => decide (p.2 = told r)).map (·.1) = ns
        have hln : lastN t (told r) = ns.getLast? := by unfold lastN; rw [hns]
        refine wp_seq (wp_if (b := ns.isEmpty) ?_ (fun hb => ?_) fun hb => ?_)
        · simp only [s_tV, s_e2, s_eVar, s_frz1, s_f1, List.getElem?_cons_succ, List.getElem?_cons_zero, s_bind1, s_eLst, s_aNil, List.length_nil, sz_of (Nat.zero_le _), if_true, dEq_nil, s_nox1, s_asB]
        · have hne : ns = [] := List.isEmpty_iff.mp hb
          refine wp_ret (d := .tup [.int k', eTh t]) ?_ ?_
          · simp [sz_of]
          unfold walk
          rw [hw, hwf]
          simp only [hln, hne, List.getLast?_nil]
          rfl
        · have hne : ns ≠ [] := fun e => by rw [e] at hb; cases hb
          obtain ⟨n, hn⟩ : ∃ n, ns.getLast? = some n := by
            cases q : ns.getLast? with
            | none => exact absurd (List.getLast?_eq_none_iff.mp q) hne
            | some n => exact ⟨n, rfl⟩
          refine wp_nil (wp_set (d := eTh (wout t n)) ?_ ?_)
          · refine comp_is (ds := t.map eP) (es := (wout t n).map eP) ?_ ?_ (by have := wout_len (t := t) (n := n); simp; omega)
            · simp [eTh]
            · refine compD_filter fun p _ => ?_
              obtain ⟨m, q⟩ := p
              have e1 : dGet (eL ns) (.int (-1)) = .ok (.int n) := last_map (f := D.int) hn
              simp [eP, dGet_tup0, e1, dNe_int]
              split <;> simp_all
          · refine ⟨k' + 1, us, wout t n, c, _, _, _, _, _, rfl, hu', ht.wout n, by have := wout_len (t := t) (n := n); omega, ?_, rfl⟩
            rw [hw, hwf]
            simp only [hln, hn]
      · subst hb
        refine wp_seq (wp_if (b := !foll t (told r)) ?_ (fun hb => ?_) (fun hb => ?_))
        · simp only [s_tNo, s_tV, s_eCall, s_aCons, s_aNil, s_eVar, s_frz1, s_f1, List.getElem?_cons_succ, List.getElem?_cons_zero, s_bind1, s_map, law_follows_is hg (.inr rfl) hrow.told, s_asB]
        · refine wp_ret (d := .tup [.int k', eTh t]) ?_ ?_
          · simp [sz_of]
          unfold walk
          rw [hw, hwf]
          have : foll t (told r) = false := by simpa using hb
          simp [this]
          rfl
        · have hf : foll t (told r) = true := by simpa using hb
          refine wp_nil ?_
          have hz : sz ((t.map eP).length + 1) = true := sz_of (by simp; omega)
          simp only [s_e2, s_eLst, s_eTup, s_aCons, s_aNil, s_eVar, s_eC, s_hid1, s_h1, List.getElem?_cons_succ, List.getElem?_cons_zero, s_bind1, s_map, List.length_cons, List.length_nil, sz_of (show 0 + 1 + 1 ≤ 10000 by decide), sz_of (show 0 + 1 ≤ 10000 by decide), if_true, eTh, dAdd, Nat.zero_add, hz, s_nox1, s_step1, s_cM2]
          refine ⟨k' + 1, us, t ++ [(c, told r)], c + 1, .fz (.int k'), .fz (.str (wd false)), .fz d', .fz (eT (told r)), a5, rfl, hu', ht.app hrow.told c, by simp; omega, ?_, ?_⟩
          · rw [hw, hwf]
            simp only [hf, if_true]
          · simp [eTh, eP]
  · rintro ρ ⟨k, us, t, c, a1, a2, a3, a4, a5, he, _, ht, _, hw, rfl⟩
    cases us with
    | cons u us => cases he
    | nil =>
      subst hds
      have hlen : (tDS xs).length = xs.length := by unfold tDS; simp
      refine wp_seq (wp_if (b := !lastE (tDS xs)) ?_ (fun hb => ?_) (fun hb => ?_))
      · cases hl2 : xs.getLast? with
        | none =>
          have : xs = [] := List.getLast?_eq_none_iff.mp hl2
          subst this
          have e0 : dEq (.lst []) (.lst []) = .ok (.bl true) := dEq_mapnil (f := eS) (xs := []) (n := 2) (by simp) (by decide)
          simp [sz_of, e0, lastE, eDS, tDS]
        | some s =>
          have hne : xs ≠ [] := fun e => by rw [e] at hl2; cases hl2
          have he : xs.isEmpty = false := by cases xs <;> simp_all
          have hmem : s ∈ xs := List.mem_of_getLast? hl2
          obtain ⟨d0, b, r⟩ := s
          obtain ⟨d', hd0, hR⟩ : IsS d0 (b, r) := hs.is (d0, b, r) hmem
          have hd0 : d0 = .tup [.str (wd b), d'] := hd0
          have hR : IsR d' r := hR
          have e1 : dEq (.lst (xs.map Prod.fst)) (.lst []) = .ok (.bl false) := by
            rw [← he]
            refine dEq_mapnil (n := 2) (fun p hp => ?_) (by decide)
            obtain ⟨p1, p2⟩ := p
            obtain ⟨d2, h1, h2⟩ := hs.is _ hp
            have h1 : p1 = .tup [.str (wd p2.1), d2] := h1
            show nc 2 p1 = true
            rw [h1]
            show ([.str (wd p2.1), d2] : List D).all (nc 1) = true
            have : nc 1 d2 = true := by rcases h2 with rfl | rfl; exact nc_eL 0 _; exact nc_eT 0 _
            simp only [List.all_cons, List.all_nil, this, Bool.and_true]
            exact wd_ok _
          have e2 : dGet (.lst (xs.map Prod.fst)) (.int (-1)) = .ok d0 := last_map (f := Prod.fst) hl2
          have e3 : lastE (tDS xs) = (!b && decide (r.length = 0)) := by
            unfold lastE tDS
            rw [getLast_map, hl2]
            simp only [Option.map_some, Option.some.injEq, Prod.mk.injEq, told_nil]
            cases b <;> simp
          simp only [s_tOr, s_tV, s_e2, s_eVar, s_frz1, s_f1, List.getElem?_cons_succ, List.getElem?_cons_zero, s_bind1, s_eLst, s_aNil, s_aCons, s_map, List.length_nil, sz_of (show 0 ≤ 10000 by decide), if_true, eDS, e1, s_nox1, s_asB, Bool.false_eq_true, if_false, s_e1, s_eC, s_neg, e2, hd0, dGet_tup0, dGet_tup1, wd_row, s_eB, dLen_R hR, dGt_ii]
          rw [e3]
          cases b with
          | true => rfl
          | false =>
            simp only [Bool.false_eq_true, if_false]
            congr 1
            cases r <;> simp
      · refine wp_ret (d := .tup [.int xs.length, eTh t]) ?_ ?_
        · simp [sz_of, dLen, eDS]
        unfold walk
        rw [hw]
        have : lastE (tDS xs) = false := by simpa using hb
        have e0 : tDS [] = [] := rfl
        simp [e0, walkF, this, atL, hlen]
      · refine wp_nil (wp_ret (d := .tup [.int (-1), eTh t]) ?_ ?_)
        · simp [sz_of]
        unfold walk
        rw [hw]
        have : lastE (tDS xs) = true := by simpa using hb
        have e0 : tDS [] = [] := rfl
        simp [e0, walkF, this, atL]
end Tw

/-! P5: closed marks; rows and steps asked; judging. -/
namespace Tw
open PySem L2
def okRow (M r : List Int) : Bool := match left M r with
  | [] => false
  | [s] => decide (s ∈ M)
  | _ :: _ :: _ => true
def closedB (t : Th) (r M : List Int) : Bool := (r.all fun s => decide (-s ∈ M)) && t.all fun p => okRow M p.2
theorem in_eL {i : Int} {M : List Int} : dInS false (.int i) (eL M) = .ok (.bl (decide (i ∈ M))) := in_ints
theorem nin_eL {i : Int} {M : List Int} : dInS true (.int i) (eL M) = .ok (.bl (!decide (i ∈ M))) := in_ints
theorem asBls_bl : ∀ bs : List Bool, asBls (bs.map D.bl) = some bs
  | [] => rfl
  | b :: bs => by
    have := asBls_bl bs
    simp only [List.map_cons, asBls, this]
    rfl
theorem dAll_is {bs : List Bool} : dAll [.lst (bs.map D.bl)] = .ok (.bl (bs.all id)) := by
  unfold dAll
  simp only [asBls_bl]
theorem dAny_is {bs : List Bool} : dAny [.lst (bs.map D.bl)] = .ok (.bl (bs.any id)) := by
  unfold dAny
  simp only [asBls_bl]
/-- the loop over the rows that are there: each is neither broken nor forces a new mark -/
theorem closed_loop {t : Th} (ht : RTh t) {d0 d1 : D} {M : List Int} {ρ : List Cl} {N : List Cl → Prop} {Q : D → Prop} {a b c : Cl} (hd0 : d0 = eTh t) (hρ : ρ = [.fz d0, .fz d1, .fz (eL M), a, b, c, .no])
    (hf : (t.all fun p => okRow M p.2) = false → Q (.bl false)) (hn : ∀ ρ, (t.all fun p => okRow M p.2) = true → N ρ) :
    WP (sFor (.tp [(.nm 3), (.nm 4)]) (iSeq (eVar 0)) (sSeq (sSet 5 (eComp [6] (.nm 6) (iSeq (eVar 4)) (tV (e2 (dInS true) (e1 dNeg (eVar 6)) (eVar 2))) (eVar 6))) (sIf (tOr' (tV (e2 dEq (eVar 5) (eLst aNil))) (tAn (tV (e2 dEq (eB dLen (aCons (eVar 5) aNil)) (eC (.int 1)))) (tV (e2 (dInS true) (e2 dGet (eVar 5) (eC (.int 0))) (eVar 2))))) (sRet (eC (.bl false))) sNil)) ρ) N Q := by
  subst hρ
  refine wp_for (xs := t) (en := eP) (I := fun ys ρ => (t.all fun p => okRow M p.2) = (ys.all fun p => okRow M p.2) ∧ ∃ a b c, ρ = [.fz d0, .fz d1, .fz (eL M), a, b, c, .no]) ?_ ⟨rfl, a, b, c, rfl⟩ ?_ ?_
  · subst hd0; simp [eTh]
  · rintro ⟨n, r⟩ ys ρ ⟨zs, hz⟩ ⟨he, a, b, c, rfl⟩
    have hr : Row r := ht.row (n, r) (by rw [hz]; simp)
    have hl := hr.len
    simp only [eP, s_body, s_bindTp, s_bindTs1, s_bindTs0, s_bindNm, Option.bind_some, Option.map_some, List.cons_append, List.nil_append, List.append_nil, s_setsC1, s_setsC0]
    refine wp_seq (wp_set (d := eL (left M r)) ?_ ?_)
    · refine comp_is (ds := r.map D.int) (es := (left M r).map D.int) ?_ ?_ (by have := left_len (L := M) (r := r); simp; omega)
      · simp [eT]
      · exact compD_filter fun x _ => by simp [nin_eL]; split <;> simp_all
    show WP (sIf _ _ _ [.fz d0, .fz d1, .fz (eL M), .fz (.int n), .fz (eT r), .fz (eL (left M r)), .no]) _ _
    have hall : ((n, r) :: ys).all (fun p => okRow M p.2) = (okRow M r && ys.all fun p => okRow M p.2) := rfl
    rw [hall] at he
    refine wp_if (b := !okRow M r) ?_ (fun hb => ?_) (fun hb => ?_)
    · unfold okRow
      cases hle : left M r with
      | nil => simp [sz_of, dEq_nil]
      | cons s l =>
        cases l with
        | nil =>
          have e1 : dEq (.int (1 : Nat)) (.int 1) = .ok (.bl true) := by rw [dEq_int]; rfl
          simp [sz_of, dEq_nil, eL_len, dLen_lst, dGet, atI_0, dEq_int, show dEq (.lst [.int s]) (.lst []) = .ok (.bl false) from dEq_nil (r := [s]), show dInS true (.int s) (.lst (M.map D.int)) = .ok (.bl (!decide (s ∈ M))) from nin_eL]
        | cons s2 l =>
          have e1 : dEq (eL (s :: s2 :: l)) (.lst []) = .ok (.bl false) := dEq_nil
          have e2 : dLen [eL (s :: s2 :: l)] = .ok (.int (l.length + 2 : Nat)) := by simp [eL, dLen]; omega
          have e3 : dEq (.int (l.length + 2 : Nat)) (.int 1) = .ok (.bl false) := by rw [dEq_int, decide_eq_false (by omega)]
          simp only [s_tOr, s_tAn, s_tV, s_e2, s_eB, s_eVar, s_eC, s_frz1, s_f1, s_aCons, s_aNil, s_map, List.getElem?_cons_succ, List.getElem?_cons_zero, s_bind1, s_eLst, List.length_nil, sz_of (Nat.zero_le _), if_true, e1, s_nox1, s_asB, Bool.false_eq_true, if_false, e2, e3, Bool.not_true]
    · have : okRow M r = false := by simpa using hb
      refine wp_ret (d := .bl false) rfl (hf ?_)
      rw [he, this]; rfl
    · have : okRow M r = true := by simpa using hb
      refine wp_nil ⟨by rw [he, this]; rfl, _, _, _, rfl⟩
  · rintro ρ ⟨he, _⟩
    exact hn ρ (by rw [he]; rfl)
theorem neg_all {d : D} {r M : List Int} (hR : IsR d r) (hl : r.length ≤ 1000) {ρ : Ev} (h1 : ρ[1]? = some (some d)) (h2 : ρ[2]? = some (some (eL M))) (hn : ρ.length = 7) :
    eB dAll (aCons (eComp [6] (.nm 6) (iSeq (eVar 1)) tTrue (e2 (dInS false) (e1 dNeg (eVar 6)) (eVar 2))) aNil) ρ = .ok (.bl (r.all fun s => decide (-s ∈ M))) := by
  have c : eComp [6] (.nm 6) (iSeq (eVar 1)) tTrue (e2 (dInS false) (e1 dNeg (eVar 6)) (eVar 2)) ρ = .ok (.lst ((r.map fun s => decide (-s ∈ M)).map D.bl)) := by
    refine comp_is (ds := r.map D.int) ?_ ?_ (by simp; omega)
    · simp [h1, hR.iter]
    · rw [List.map_map]
      refine compD_all fun x _ => ?_
      have e6 : (setsD (wipeD ρ [6]) [(6, D.int x)])[6]? = some (some (.int x)) := by simp [hn]
      have e2 : (setsD (wipeD ρ [6]) [(6, D.int x)])[2]? = some (some (eL M)) := by simp [h2]
      simp only [s_comp, s_bindNm, s_tTrue, s_nox1, s_bind1, if_true, s_e2, s_e1, s_eVar, e6, e2, s_neg, in_eL, Function.comp]
  simp only [s_eB, s_aCons, s_aNil, c, s_bind1, s_map, dAll_is, s_nox1, List.all_map]
  rfl
end Tw

/-! P6: marks told in order; the law's look at them; rows and steps asked. -/
namespace Tw
open PySem L2
structure MkOk (M : List Int) : Prop where
  sub : ∀ s ∈ M, s ∈ U6
  inc : M.Pairwise fun a b => absI a < absI b
theorem U6_abs : ∀ s ∈ U6, 1 ≤ absI s ∧ absI s ≤ 6 := by decide
theorem MkOk.nodup {M : List Int} (h : MkOk M) : M.Nodup := h.inc.imp fun hl e => by rw [e] at hl; exact Int.lt_irrefl _ hl
theorem MkOk.len {M : List Int} (h : MkOk M) : M.length ≤ 12 := nodup_le h.nodup h.sub
theorem MkOk.cons {M : List Int} (h : MkOk M) : Cons M := Row.cons ⟨h.sub, by
  rw [List.Nodup, List.pairwise_map]
  exact h.inc.imp fun hl e => by omega⟩
theorem mkOk_nil : MkOk [] := ⟨fun s h => absurd h (by simp), List.Pairwise.nil⟩
theorem absI_eq {s : Int} : (if s < 0 then -s else s) = absI s := rfl
theorem dAbs_is {i : Int} : dAbs [.int i] = .ok (.int (absI i)) := rfl
theorem sorted_same {xs : List Int} (h : xs.Pairwise (· ≤ ·)) : isort idI xs = xs := (sort_perm (List.Perm.refl xs) h).symm
theorem asNs_is {xs : List Int} (h : xs.length ≤ 4000) : asNs (xs.map D.int) = .ok xs := by
  unfold asNs
  rw [asInts_ints]
  exact if_pos (decide_eq_true (by unfold scanBound; omega))
/-- a block [fe for x in xs] over ints, its item in slot 6 -/
theorem comp6 {fe : SE} {g : Int → D} {xs : List Int} {i : Nat} {d : D} {ρ : Ev} (h1 : ρ[i]? = some (some d)) (hd : iterD d = .ok (xs.map D.int)) (hl : xs.length ≤ 1000) (hf : ∀ x ∈ xs, fe ((ρ.set 6 none).set 6 (some (.int x))) = .ok (g x)) :
    eComp [6] (.nm 6) (iSeq (eVar i)) tTrue fe ρ = .ok (.lst (xs.map g)) := by
  refine comp_is (ds := xs.map D.int) ?_ ?_ (by simp; omega)
  · simp [h1, hd]
  · refine compD_all fun x hx => ?_
    simp only [s_comp, s_bindNm, s_tTrue, s_nox1, s_bind1, if_true, s_wipe1, s_wipe0, s_setsD1, s_setsD0, hf x hx]
theorem nodup_rev {xs : List Int} (h : xs.Nodup) : xs.reverse.Nodup := List.pairwise_reverse.mpr (h.imp Ne.symm)
theorem dLe_ii {i j : Int} : dLe (.int i) (.int j) = .ok (.bl (decide (i ≤ j))) := rfl
theorem dLt_ii {i j : Int} : dLt (.int i) (.int j) = .ok (.bl (decide (i < j))) := rfl
theorem dGe_ii {i j : Int} : dGe (.int i) (.int j) = .ok (.bl (decide (j ≤ i))) := rfl
/-! ### what is asked of rows, steps -/
theorem is_whole_int {i : Int} : m_is_whole [.int i] = .ok (.bl true) := rfl
theorem is_sign_is {i : Int} (h : i ∈ U6) : m_is_sign [.int i] = .ok (.bl true) := by
  have := U6_abs i h
  refine wp_is (wp_ret (d := .bl true) ?_ rfl)
  simp [is_whole_int, dAbs_is, dLe_ii, this.1, this.2]
theorem is_list_R {d : D} {r : List Int} (h : IsR d r) : m_is_list [d] = .ok (.bl true) := by rcases h with rfl | rfl <;> rfl
theorem is_row_is {d : D} {r : List Int} (h : IsR d r) (hr : Row r) : m_is_row [d] = .ok (.bl true) := by
  have hl := hr.len
  refine wp_is (wp_seq (wp_if (b := false) ?_ (fun h => by cases h) fun _ => wp_nil (wp_ret (d := .bl true) ?_ rfl)))
  · have c : eComp [1] (.nm 1) (iSeq (eVar 0)) tTrue (eCall m_is_sign (aCons (eVar 1) aNil)) (frz (start0 2 [d])) = .ok (.lst ((r.map fun _ => true).map D.bl)) := by
      rw [List.map_map]
      refine comp_is (ds := r.map D.int) ?_ ?_ (by simp; omega)
      · simp [h.iter]
      · refine compD_all fun x hx => ?_
        simp [is_sign_is (hr.sub x hx)]
    have e1 : (r.map fun _ => true).all id = true := by simp
    simp only [s_tOr, s_tNo, s_tV, s_eCall, s_eB, s_aCons, s_aNil, c, s_bind1, s_map, dAll_is, e1, s_nox1, s_asB]
    simp [is_list_R h]
  · have c : compD (compS (.nm 1) tTrue (eB dAbs (aCons (eVar 1) aNil)) (wipeD (frz (start0 2 [d])) [1])) (r.map D.int) = .ok ((r.map absI).map D.int) := by
      rw [List.map_map]
      exact compD_all fun x _ => by simp [dAbs_is]
    have e3 : cntR (r.map absI).reverse = r.length := by rw [cntR_nodup (nodup_rev hr.nd), List.length_reverse, List.length_map]
    have e : eLenC [1] (.nm 1) (iSeq (eVar 0)) (eB dAbs (aCons (eVar 1) aNil)) (frz (start0 2 [d])) = .ok (.int r.length) := by
      unfold eLenC
      have h0 : iSeq (eVar 0) (frz (start0 2 [d])) = .ok (r.map D.int) := by simp [h.iter]
      rw [h0, s_bind1, c]
      simp only [s_nox1, s_bind1, asNs_is (show (r.map absI).length ≤ 4000 by simp; omega), e3]
    simp only [s_e2, e, s_bind1, s_eB, s_aCons, s_aNil, s_map]
    simp [dLen_R h, dEq_int]
end Tw

/-! P7: judging, and what answers show. -/
namespace Tw
open PySem L2
theorem wd_in {b : Bool} : dInS false (.str (wd b)) (.tup [.str "row", .str "drop"]) = .ok (.bl true) := by
  have : ([("row" : Str), ("drop" : Str)].any (· == wd b)) = true := by cases b <;> decide +kernel
  show R.ok (D.bl (if false = true then !([("row" : Str), ("drop" : Str)].any (· == wd b)) else [("row" : Str), ("drop" : Str)].any (· == wd b))) = _
  rw [this]; rfl
theorem is_step_is {d : D} {s : Stp} (h : IsS d s) (hr : Row s.2) : m_is_step [d] = .ok (.bl true) := by
  obtain ⟨d', rfl, hR⟩ := h
  refine wp_is (wp_seq (wp_if (b := false) ?_ (fun h => by cases h) fun _ => wp_nil (wp_ret (d := .bl true) ?_ rfl)))
  · simp [dIsT, tagD, isT, dLen, dNe_int, dGet_tup0]
  · simp only [s_eAn, s_e2, s_eVar, s_eC, s_start, List.map_cons, List.map_nil, List.length_cons, List.length_nil, s_frz1, s_f1, List.cons_append, List.getElem?_cons_zero, s_bind1, dGet_tup0, dGet_tup1, s_nox1, s_eTup, s_aCons, s_aNil, s_map, sz_of (show 0 + 1 + 1 ≤ 10000 by decide), if_true, wd_in, s_asB, s_eCall, is_row_is hR hr]
theorem rows_of_is {xr : DR} (h : OkR xr) (hl : xr.length ≤ 16) : m_rows_of [eDR xr] = .ok (.lst ((tDR xr).map eT)) := by
  refine wp_is (wp_seq (wp_if (b := false) ?_ (fun h => by cases h) fun _ => wp_nil (wp_ret (d := .lst ((tDR xr).map eT)) ?_ rfl)))
  · have c : eComp [1] (.nm 1) (iSeq (eVar 0)) tTrue (eCall m_is_row (aCons (eVar 1) aNil)) (frz (start0 2 [eDR xr])) = .ok (.lst ((xr.map fun _ => true).map D.bl)) := by
      rw [List.map_map]
      refine comp_is (ds := xr.map Prod.fst) ?_ ?_ (by simp; omega)
      · simp [eDR]
      · refine compD_all fun p hp => ?_
        simp [is_row_is (h.is p hp) (h.row p hp)]
    have e1 : (xr.map fun _ => true).all id = true := by simp
    simp only [s_tOr, s_tNo, s_tV, s_eCall, s_eB, s_aCons, s_aNil, c, s_bind1, s_map, dAll_is, e1, s_nox1, s_asB]
    simp [eDR, dIsT, tagD, isT, dLen, dGt_ii]
    omega
  · refine comp_is (ds := xr.map Prod.fst) (es := (tDR xr).map eT) ?_ ?_ (by unfold tDR; simp; omega)
    · simp [eDR]
    · unfold tDR
      rw [List.map_map]
      refine compD_all fun p hp => ?_
      simp [row_of_is (h.is p hp)]
theorem steps_of_is {xs : DS} (h : OkS xs) (hl : xs.length ≤ 100) : m_steps_of [eDS xs] = .ok (.lst ((tDS xs).map eS)) := by
  refine wp_is (wp_seq (wp_if (b := false) ?_ (fun h => by cases h) fun _ => wp_nil (wp_ret (d := .lst ((tDS xs).map eS)) ?_ rfl)))
  · have c : eComp [1] (.nm 1) (iSeq (eVar 0)) tTrue (eCall m_is_step (aCons (eVar 1) aNil)) (frz (start0 4 [eDS xs])) = .ok (.lst ((xs.map fun _ => true).map D.bl)) := by
      rw [List.map_map]
      refine comp_is (ds := xs.map Prod.fst) ?_ ?_ (by simp; omega)
      · simp [eDS]
      · refine compD_all fun p hp => ?_
        simp [is_step_is (h.is p hp) (h.row p hp)]
    have e1 : (xs.map fun _ => true).all id = true := by simp
    simp only [s_tOr, s_tNo, s_tV, s_eCall, s_eB, s_aCons, s_aNil, c, s_bind1, s_map, dAll_is, e1, s_nox1, s_asB]
    simp [eDS, dIsT, tagD, isT, dLen, dGt_ii]
    omega
  · refine comp_is (ds := xs.map Prod.fst) (es := (tDS xs).map eS) ?_ ?_ (by unfold tDS; simp; omega)
    · simp [eDS]
    · unfold tDS
      rw [List.map_map]
      refine compD_all fun p hp => ?_
      obtain ⟨d', hd, hR⟩ := h.is p hp
      simp [hd, row_of_is hR, sz_of, eS]
theorem zipD_ints : ∀ (a b : List Int), zipD (a.map D.int) (b.map D.int) = (a.zip b).map fun p => .tup [.int p.1, .int p.2]
  | [], _ => rfl
  | _ :: _, [] => rfl
  | x :: a, y :: b => by
    simp only [List.map_cons, zipD, List.zip_cons_cons, zipD_ints a b]
theorem inc_zip : ∀ {M : List Int}, M.Pairwise (fun a b => absI a < absI b) → ∀ p ∈ M.zip (M.drop 1), absI p.1 < absI p.2
  | [], _, p, h => by simp at h
  | [x], _, p, h => by simp at h
  | x :: y :: M, hp, p, h => by
    have h : p ∈ (x, y) :: (y :: M).zip M := h
    rcases List.mem_cons.mp h with e | h
    · rw [e]; exact (List.pairwise_cons.mp hp).1 y (by simp)
    · exact inc_zip (List.pairwise_cons.mp hp).2 p h
/-! ### the walk's end -/
theorem walkF_some : ∀ (ss : List Stp) (k0 : Nat) (t : Th) (c : Int) (k : Nat) (t' : Th), (∀ s ∈ ss, Row s.2) → RTh t → walkF ss k0 t c = (some k, t') → RTh t' ∧ t'.length ≤ t.length + ss.length ∧ ∃ s, ss[k - k0]? = some s ∧ k0 ≤ k ∧ (s.1 = false → foll t' s.2 = false)
  | [], k0, t, c, k, t', _, _, h => by cases h
  | (true, r) :: ss, k0, t, c, k, t', hs, ht, h => by
    unfold walkF at h
    cases hl : lastN t r with
    | none =>
      rw [hl] at h; cases h
      exact ⟨ht, by omega, (true, r), by simp, Nat.le_refl _, fun h => by cases h⟩
    | some n =>
      rw [hl] at h
      obtain ⟨a, b, s, e, hk, f⟩ := walkF_some ss (k0 + 1) _ c k t' (fun s hm => hs s (List.mem_cons_of_mem _ hm)) (ht.wout n) h
      have := wout_len (t := t) (n := n)
      refine ⟨a, by simp; omega, s, ?_, by omega, f⟩
      rw [show k - k0 = (k - (k0 + 1)) + 1 by omega]
      simpa using e
  | (false, r) :: ss, k0, t, c, k, t', hs, ht, h => by
    unfold walkF at h
    by_cases hf : foll t r = true
    · rw [if_pos hf] at h
      obtain ⟨a, b, s, e, hk, f⟩ := walkF_some ss (k0 + 1) _ _ k t' (fun s hm => hs s (List.mem_cons_of_mem _ hm)) (ht.app (hs (false, r) (by simp)) c) h
      simp at b
      refine ⟨a, by simp; omega, s, ?_, by omega, f⟩
      rw [show k - k0 = (k - (k0 + 1)) + 1 by omega]
      simpa using e
    · rw [if_neg hf] at h; cases h
      exact ⟨ht, by omega, (false, r), by simp, Nat.le_refl _, fun _ => by simpa using hf⟩
theorem walkF_none : ∀ (ss : List Stp) (k0 : Nat) (t : Th) (c : Int) (t' : Th), (∀ s ∈ ss, Row s.2) → RTh t → walkF ss k0 t c = (none, t') → RTh t' ∧ t'.length ≤ t.length + ss.length
  | [], k0, t, c, t', _, ht, h => by cases h; exact ⟨ht, by simp⟩
  | (true, r) :: ss, k0, t, c, t', hs, ht, h => by
    unfold walkF at h
    cases hl : lastN t r with
    | none => rw [hl] at h; cases h
    | some n =>
      rw [hl] at h
      obtain ⟨a, b⟩ := walkF_none ss (k0 + 1) _ c t' (fun s hm => hs s (List.mem_cons_of_mem _ hm)) (ht.wout n) h
      have := wout_len (t := t) (n := n)
      exact ⟨a, by simp; omega⟩
  | (false, r) :: ss, k0, t, c, t', hs, ht, h => by
    unfold walkF at h
    by_cases hf : foll t r = true
    · rw [if_pos hf] at h
      obtain ⟨a, b⟩ := walkF_none ss (k0 + 1) _ _ t' (fun s hm => hs s (List.mem_cons_of_mem _ hm)) (ht.app (hs (false, r) (by simp)) c) h
      simp at b
      exact ⟨a, by simp; omega⟩
    · rw [if_neg hf] at h; cases h
/-- what is known of a walk's end -/
structure WkOk (rows : List (List Int)) (ss : List Stp) (o : Option Nat) (t : Th) : Prop where
  row : RTh t
  len : t.length ≤ rows.length + ss.length
  at_ : ∀ k, o = some k → k ≤ ss.length ∧ ∀ r, ss[k]? = some (false, r) → foll t r = false
theorem walk_ok {rows : List (List Int)} {ss : List Stp} (hr : ∀ r ∈ rows, Row r) (hs : ∀ s ∈ ss, Row s.2) : WkOk rows ss (walk rows ss).1 (walk rows ss).2 := by
  unfold walk
  cases h : walkF ss 0 (enTh 0 rows) rows.length with
  | mk o t =>
    cases o with
    | none =>
      obtain ⟨a, b⟩ := walkF_none _ _ _ _ _ hs (enTh_row hr) h
      rw [enTh_len] at b
      by_cases hl : lastE ss = true
      · simp only [hl, if_true]
        exact ⟨a, b, fun k e => by cases e⟩
      · simp only [hl, if_false]
        refine ⟨a, b, fun k e => ?_⟩
        cases e
        exact ⟨Nat.le_refl _, fun r e => by rw [List.getElem?_eq_none (Nat.le_refl _)] at e; cases e⟩
    | some k =>
      obtain ⟨a, b, s, e, _, f⟩ := walkF_some _ _ _ _ _ _ hs (enTh_row hr) h
      rw [enTh_len] at b
      rw [Nat.sub_zero] at e
      refine ⟨a, b, fun k' e' => ?_⟩
      cases e'
      refine ⟨Nat.le_of_lt (List.getElem?_eq_some_iff.mp e).1, fun r er => ?_⟩
      rw [e] at er
      cases er
      exact f rfl
end Tw

/-! P8: judged, shows, is_so. -/
namespace Tw
open PySem L2
def jud (rows : List (List Int)) (ss : List Stp) : Option (Nat × List Int) := match walk rows ss with
  | (none, _) => none
  | (some k, t) => match ss[k]? with
    | some (false, r) => some (k, told (force t (neg r)).1)
    | _ => some (k, [])
def fD : Option (Nat × List Int) → D
  | none => .ins "Right" []
  | some (k, M) => .ins "Wrong" [("step", .int k), ("signs", eL M)]
theorem closedB_perm {t : Th} {r r' M : List Int} (h : r'.Perm r) : closedB t r' M = closedB t r M := by
  unfold closedB
  congr 1
  rw [Bool.eq_iff_iff, List.all_eq_true, List.all_eq_true]
  exact ⟨fun q s hs => q s (h.mem_iff.mpr hs), fun q s hs => q s (h.mem_iff.mp hs)⟩
theorem absI_or {a b : Int} (h : absI a = absI b) : a = b ∨ a = -b := by
  unfold absI at h
  split at h <;> split at h <;> omega
theorem told_mk {M : List Int} (hi : In U6 M) (hc : Cons M) : MkOk (told M) := by
  refine ⟨fun s hs => hi.sub s (isort_mem.mp hs), ?_⟩
  have h1 := isort_sorted absI M
  have h2 : (isort absI M).Nodup := isort_perm.nodup_iff.mpr hi.nd
  have h3 := h1.and h2
  refine (List.Pairwise.imp_of_mem ?_ h3)
  intro a b ha hb ⟨hle, hne⟩
  rcases Int.lt_or_eq_of_le hle with h | h
  · exact h
  · exfalso
    rcases absI_or h with e | e
    · exact hne e
    · exact hc b (isort_mem.mp hb) (by rw [← e]; exact isort_mem.mp ha)
/-- the marks that a row which doesn't follow leaves -/
theorem force_end {t : Th} {r : List Int} (ht : RTh t) (hl : t.length ≤ 400) (hr : Row r) (hf : foll t r = false) : MkOk (told (force t (neg r)).1) ∧ closedB t r (told (force t (neg r)).1) = true := by
  have hg := ht.good hl
  have e := forc_is hg hr.inn
  cases hfc : force t (neg r) with
  | mk M o =>
    have ho : o = none := by
      unfold foll at hf
      rw [hfc] at hf
      cases o <;> first | rfl | cases hf
    subst ho
    rw [hfc] at e
    obtain ⟨hi, hsub, hcl⟩ := forc_end hg.inU 900 _ M hr.inn e
    have hc := forc_cons 900 t _ M (fun p hp h0 => U6_0 ((ht.row p hp).sub 0 h0)) hr.consn e
    refine ⟨told_mk hi hc, ?_⟩
    have hleft : ∀ q : List Int, left (told M) q = left M q := fun q => by
      unfold left
      refine List.filter_congr fun s _ => ?_
      have : (-s ∈ told M) ↔ (-s ∈ M) := isort_mem
      simp only [this]
    show closedB t r (told M) = true
    unfold closedB
    rw [Bool.and_eq_true, List.all_eq_true, List.all_eq_true]
    refine ⟨fun s hs => ?_, fun p hp => ?_⟩
    · exact decide_eq_true (isort_mem.mpr (hsub (-s) (List.mem_map.mpr ⟨s, hs, rfl⟩)))
    · obtain ⟨h1, h2⟩ := hcl p hp
      unfold okRow
      rw [hleft]
      cases q : left M p.2 with
      | nil => exact absurd q h1
      | cons s l =>
        cases l with
        | nil => exact decide_eq_true (isort_mem.mpr (h2 s q))
        | cons s2 l => rfl
theorem jud_mk {rows : List (List Int)} {ss : List Stp} (hr : ∀ r ∈ rows, Row r) (hs : ∀ s ∈ ss, Row s.2) (hl : rows.length + ss.length ≤ 400) {k : Nat} {M : List Int} (h : jud rows ss = some (k, M)) : MkOk M := by
  have w := walk_ok hr hs
  unfold jud at h
  cases hw : walk rows ss with
  | mk o t =>
    rw [hw] at h w
    cases o with
    | none => cases h
    | some k' =>
      simp only at h
      cases hk : ss[k']? with
      | none => rw [hk] at h; cases h; exact mkOk_nil
      | some s =>
        rw [hk] at h
        obtain ⟨b, r⟩ := s
        cases b with
        | true => cases h; exact mkOk_nil
        | false =>
          cases h
          exact (force_end w.row (by have := w.len; omega) (hs (false, r) (List.mem_of_getElem? hk)) ((w.at_ _ rfl).2 r hk)).1
theorem atI_nat {α : Type} {xs : List α} {k : Nat} (h : k < xs.length) : atI xs (k : Int) = xs[k]? := by
  unfold atI ixN
  rw [if_pos (by omega), if_pos (by omega)]
  rfl
theorem get_steps {ss : List Stp} {k : Nat} {s : Stp} (h : ss[k]? = some s) : dGet (.lst (ss.map eS)) (.int k) = .ok (eS s) := by
  have hk := (List.getElem?_eq_some_iff.mp h).1
  show R.of (atI (ss.map eS) (k : Int)) = _
  rw [atI_nat (by simpa using hk), List.getElem?_map, h]
  rfl
theorem make_wrong {k : Nat} {M : List Int} : i_Wrong [.int k, eL M] = .ok [("step", .int k), ("signs", eL M)] := rfl
theorem tDS_row {xs : DS} (h : OkS xs) : ∀ s ∈ tDS xs, Row s.2 := fun s hs => by
  obtain ⟨p, hp, rfl⟩ := List.mem_map.mp hs
  exact (h.row p hp).told
theorem tDR_row {xr : DR} (h : OkR xr) : ∀ r ∈ tDR xr, Row r := fun r hr => by
  obtain ⟨p, hp, rfl⟩ := List.mem_map.mp hr
  exact (h.row p hp).told
/-- is the step at k a drop, or none -/
def ends (ss : List Stp) (k : Nat) : Bool := match ss[k]? with
  | some (false, _) => false
  | _ => true
theorem ends_is {ss : List Stp} {k : Nat} (hk : k ≤ ss.length) {i j : Nat} {ρ : Ev} (hi : ρ[i]? = some (some (.int k))) (hj : ρ[j]? = some (some (.lst (ss.map eS)))) :
    tOr' (tV (e2 dEq (eVar i) (eB dLen (aCons (eVar j) aNil)))) (tV (e2 dEq (e2 dGet (e2 dGet (eVar j) (eVar i)) (eC (.int 0))) (eC (.str "drop")))) ρ = .ok (ends ss k) := by
  simp only [s_tOr, s_tV, s_e2, s_eB, s_aCons, s_aNil, s_eVar, hi, hj, s_bind1, s_map, dLen, List.length_map, s_nox1, dEq_int, s_asB, s_eC]
  unfold ends
  cases h : ss[k]? with
  | none =>
    have : k = ss.length := by have := List.getElem?_eq_none_iff.mp h; omega
    rw [if_pos (by simp [this])]
  | some s =>
    have hlt := (List.getElem?_eq_some_iff.mp h).1
    rw [if_neg (by simp; omega), get_steps h]
    obtain ⟨b, r⟩ := s
    simp only [s_nox1, s_bind1, eS, dGet_tup0, wd_drop, s_asB]
    cases b <;> rfl
theorem judged_is {xr : DR} {xs : DS} (hr : OkR xr) (hs : OkS xs) (hl : xr.length ≤ 16) (hl2 : xs.length ≤ 100) : m_judged [eDR xr, eDS xs] = .ok (fD (jud (tDR xr) (tDS xs))) := by
  have hss := tDS_row hs
  have w := walk_ok (tDR_row hr) (tDS_row hs)
  have el1 : (tDR xr).length = xr.length := by unfold tDR; simp
  have el2 : (tDS xs).length = xs.length := by unfold tDS; simp
  refine wp_is (wp_seq ?_)
  unfold sPar2
  have c1 : eCall m_rows_of (aCons (eVar 0) aNil) (hid (start0 6 [eDR xr, eDS xs])) = .ok (.lst ((tDR xr).map eT)) := by simp [rows_of_is hr hl]
  have c2 : eCall m_steps_of (aCons (eVar 1) aNil) (hid (start0 6 [eDR xr, eDS xs])) = .ok (.lst ((tDS xs).map eS)) := by simp [steps_of_is hs hl2]
  simp only [c1, c2, s_step1]
  show WP (sSeq _ _ [.fz (eDR xr), .fz (eDS xs), .fz (.lst ((tDR xr).map eT)), .fz (.lst ((tDS xs).map eS)), .no, .no]) _ _
  refine wp_seq ?_
  unfold sBind
  have c3 : eCall m_walked (aCons (eVar 2) (aCons (eVar 3) aNil)) (hid [.fz (eDR xr), .fz (eDS xs), .fz (.lst ((tDR xr).map eT)), .fz (.lst ((tDS xs).map eS)), .no, .no]) = .ok (.tup [atD (walk (tDR xr) (tDS xs)).1, eTh (walk (tDR xr) (tDS xs)).2]) := by
    simp only [s_eCall, s_aCons, s_aNil, s_eVar, s_hid1, s_h1, List.getElem?_cons_succ, List.getElem?_cons_zero, s_bind1, s_map]
    exact walked_is (tDR_row hr) (tDS_row hs) (by omega)
  simp only [c3, s_step1, s_bindTp, s_bindTs1, s_bindTs0, s_bindNm, Option.bind_some, Option.map_some, List.cons_append, List.nil_append, s_setsC1, s_setsC0]
  show WP (sSeq _ _ [.fz (eDR xr), .fz (eDS xs), .fz (.lst ((tDR xr).map eT)), .fz (.lst ((tDS xs).map eS)), .fz (atD (walk (tDR xr) (tDS xs)).1), .fz (eTh (walk (tDR xr) (tDS xs)).2)]) _ _
  generalize tDR xr = rows at *
  generalize tDS xs = ss at *
  unfold jud
  cases hw : walk rows ss with
  | mk o t =>
    rw [hw] at w
    cases o with
    | none => exact wp_seq (wp_if (b := true) rfl (fun _ => wp_ret (d := .ins "Right" []) rfl rfl) fun h => by cases h)
    | some k =>
      obtain ⟨hk, hf⟩ := w.at_ k rfl
      refine wp_seq (wp_if (b := false) rfl (fun h => by cases h) fun _ => wp_nil (wp_seq (wp_if (b := ends ss k) ?_ (fun hb => ?_) (fun hb => ?_))))
      · exact ends_is (i := 4) (j := 3) hk rfl rfl
      · refine wp_ret (d := .ins "Wrong" [("step", .int k), ("signs", eL [])]) ?_ ?_
        · show ((aCons (eVar 4) (aCons (eLst aNil) aNil) _).bind _) = _
          simp [atD, sz_of, show i_Wrong [.int k, .lst []] = .ok [("step", .int k), ("signs", eL [])] from rfl]
        · unfold ends at hb
          cases h : ss[k]? with
          | none => simp [h, fD]
          | some s =>
            obtain ⟨b, r⟩ := s
            cases b with
            | true => simp [h, fD]
            | false => rw [h] at hb; cases hb
      · unfold ends at hb
        cases h : ss[k]? with
        | none => rw [h] at hb; cases hb
        | some s =>
          obtain ⟨b, r⟩ := s
          cases b with
          | true => rw [h] at hb; cases hb
          | false =>
            have hrow : Row r := hss (false, r) (List.mem_of_getElem? h)
            refine wp_nil (wp_ret (d := .ins "Wrong" [("step", .int k), ("signs", eL (told (force t (neg r)).1))]) ?_ ?_)
            · have c5 := closure_is (w.row.good (by have := w.len; omega)) (d := eT r) (.inr rfl) hrow
              show ((aCons (eVar 4) _ _).bind _) = _
              simp only [s_aCons, s_aNil, s_eCall, s_e2, s_eC, s_eVar, s_frz1, s_f1, List.getElem?_cons_succ, List.getElem?_cons_zero, s_bind1, s_map, atD, get_steps h, s_nox1, eS, dGet_tup1, c5]
              rfl
            · simp [h, fD]
end Tw

/-! P9: what answers show, by the program and by the law. -/
namespace Tw
open PySem L2
def shB (rows : List (List Int)) (ss : List Stp) (k : Nat) (M : List Int) : Bool := match walk rows ss with
  | (none, _) => false
  | (some j, t) => decide (j = k) && match ss[j]? with
    | some (false, r) => closedB t r M
    | _ => M.isEmpty
def soB (rows : List (List Int)) (ss : List Stp) : Option (Nat × List Int) → Bool
  | none => (walk rows ss).1.isNone
  | some (k, M) => shB rows ss k M
theorem isR_right : dIsO tbC "Right" (.ins "Right" []) = .ok (.bl true) := rfl
theorem isR_wrong {fs : FD} : dIsO tbC "Right" (.ins "Wrong" fs) = .ok (.bl false) := rfl
theorem isW_right : dIsO tbC "Wrong" (.ins "Right" []) = .ok (.bl false) := rfl
theorem isW_wrong {fs : FD} : dIsO tbC "Wrong" (.ins "Wrong" fs) = .ok (.bl true) := rfl
theorem fld_step {k : Nat} {M : List Int} : dFld F_step "step" (fD (some (k, M))) = .ok (.int k) := rfl
theorem fld_signs {k : Nat} {M : List Int} : dFld F_signs "signs" (fD (some (k, M))) = .ok (eL M) := rfl
theorem raw_get {xs : DS} {k : Nat} {p : D × Stp} (h : xs[k]? = some p) : dGet (eDS xs) (.int k) = .ok p.1 := by
  have hk := (List.getElem?_eq_some_iff.mp h).1
  show R.of (atI (xs.map Prod.fst) (k : Int)) = _
  rw [atI_nat (by simpa using hk), List.getElem?_map, h]
  rfl
end Tw

/-! P10: one road judged and looked at. -/
namespace Tw
open PySem L2
/-- rows as lists; steps with lists, with tuples -/
def lR (xr : DR) : DR := xr.map fun p => (eL p.2, p.2)
def mS (e : List Int → D) (xs : DS) : DS := xs.map fun p => (.tup [.str (wd p.2.1), e p.2.2], p.2)
theorem lR_ok {xr : DR} (h : OkR xr) : OkR (lR xr) := ⟨fun p hp => by
  obtain ⟨q, _, rfl⟩ := List.mem_map.mp hp
  exact .inl rfl, fun p hp => by
  obtain ⟨q, hq, rfl⟩ := List.mem_map.mp hp
  exact h.row q hq⟩
theorem mS_ok {e : List Int → D} (he : ∀ r, IsR (e r) r) {xs : DS} (h : OkS xs) : OkS (mS e xs) := ⟨fun p hp => by
  obtain ⟨q, _, rfl⟩ := List.mem_map.mp hp
  exact ⟨_, rfl, he _⟩, fun p hp => by
  obtain ⟨q, hq, rfl⟩ := List.mem_map.mp hp
  exact h.row q hq⟩
theorem lR_told {xr : DR} : tDR (lR xr) = tDR xr := by unfold tDR lR; simp
theorem mS_told {e : List Int → D} {xs : DS} : tDS (mS e xs) = tDS xs := by unfold tDS mS; simp
theorem lR_len {xr : DR} : (lR xr).length = xr.length := by unfold lR; simp
theorem mS_len {e : List Int → D} {xs : DS} : (mS e xs).length = xs.length := by unfold mS; simp
theorem soB_jud {rows : List (List Int)} {ss : List Stp} (hr : ∀ r ∈ rows, Row r) (hs : ∀ s ∈ ss, Row s.2) (hl : rows.length + ss.length ≤ 400) : soB rows ss (jud rows ss) = true := by
  have w := walk_ok hr hs
  unfold jud
  cases hw : walk rows ss with
  | mk o t =>
    rw [hw] at w
    cases o with
    | none => unfold soB; rw [hw]; rfl
    | some k =>
      cases h : ss[k]? with
      | none => simp only [h]; unfold soB shB; rw [hw]; simp [h]
      | some s =>
        obtain ⟨b, r⟩ := s
        cases b with
        | true => simp only [h]; unfold soB shB; rw [hw]; simp [h]
        | false =>
          simp only [h]
          unfold soB shB
          rw [hw]
          simp only [h, decide_true, Bool.true_and]
          exact (force_end w.row (by have := w.len; omega) (hs (false, r) (List.mem_of_getElem? h)) ((w.at_ _ rfl).2 r h)).2
theorem jud_none {rows : List (List Int)} {ss : List Stp} : jud rows ss = none ↔ (walk rows ss).1 = none := by
  unfold jud
  cases hw : walk rows ss with
  | mk o t =>
    cases o with
    | none => simp
    | some k =>
      cases h : ss[k]? with
      | none => simp [h]
      | some s => obtain ⟨b, r⟩ := s; cases b <;> simp [h]
theorem dNe_b2 {a b c d : Bool} : dNe (.lst [.bl a, .bl b]) (.lst [.bl c, .bl d]) = .ok (.bl (!(decide (a = c) && decide (b = d)))) := by
  cases a <;> cases b <;> cases c <;> cases d <;> rfl
theorem dNe_bl {a b : Bool} : dNe (.bl a) (.bl b) = .ok (.bl (!decide (a = b))) := by cases a <;> cases b <;> rfl
theorem dNe_self {n : Nat} {d : D} (h : nc n d = true) (hn : n ≤ 64) : dNe d d = .ok (.bl false) := dNe_nc h h (by simp) hn hn
theorem nc_DR {xr : DR} (h : OkR xr) : nc 2 (eDR xr) = true := by
  refine nc_map fun p hp => ?_
  rcases h.is p hp with e | e <;> rw [e]
  · exact nc_eL 0 _
  · exact nc_eT 0 _
theorem nc_DS {xs : DS} (h : OkS xs) : nc 3 (eDS xs) = true := by
  refine nc_map fun p hp => ?_
  obtain ⟨d', e, hR⟩ := h.is p hp
  rw [e]
  show ([.str (wd p.2.1), d'] : List D).all (nc 1) = true
  have : nc 1 d' = true := by rcases hR with rfl | rfl; exact nc_eL 0 _; exact nc_eT 0 _
  simp only [List.all_cons, List.all_nil, this, Bool.and_true]
  exact wd_ok _
theorem comp_rows {xr : DR} (h : OkR xr) (hl : xr.length ≤ 9000) {ρ : Ev} (h0 : ρ[0]? = some (some (eDR xr))) (hn : ρ.length = 11) : eComp [9] (.nm 9) (iSeq (eVar 0)) tTrue (eB dList (aCons (eVar 9) aNil)) ρ = .ok (eDR (lR xr)) := by
  unfold eDR lR
  rw [List.map_map]
  refine comp_is (ds := xr.map Prod.fst) ?_ ?_ (by simp; omega)
  · simp [h0, eDR]
  · refine compD_all fun p hp => ?_
    have e : (setsD (wipeD ρ [9]) [(9, p.1)])[9]? = some (some p.1) := by simp [hn]
    simp only [s_comp, s_bindNm, s_tTrue, s_nox1, s_bind1, if_true, s_eB, s_aCons, s_aNil, s_eVar, e, s_map, list_IsR (h.is p hp)]
    rfl
theorem comp_steps {xs : DS} (h : OkS xs) (hl : xs.length ≤ 9000) {b : List D → R D} {e : List Int → D} (hb : ∀ d r, IsR d r → b [d] = .ok (e r)) {i : Nat} {ρ : Ev} (h0 : ρ[i]? = some (some (eDS xs))) (hn : ρ.length = 11) :
    eComp [10, 9] (.tp [(.nm 10), (.nm 9)]) (iSeq (eVar i)) tTrue (eTup (aCons (eVar 10) (aCons (eB b (aCons (eVar 9) aNil)) aNil))) ρ = .ok (eDS (mS e xs)) := by
  unfold eDS mS
  rw [List.map_map]
  refine comp_is (ds := xs.map Prod.fst) ?_ ?_ (by simp; omega)
  · simp [h0, eDS]
  · refine compD_all fun p hp => ?_
    obtain ⟨d', hd, hR⟩ := h.is p hp
    have e9 : (setsD (wipeD ρ [10, 9]) [(10, .str (wd p.2.1)), (9, d')])[9]? = some (some d') := by simp [hn]
    have e10 : (setsD (wipeD ρ [10, 9]) [(10, .str (wd p.2.1)), (9, d')])[10]? = some (some (.str (wd p.2.1))) := by simp [hn]
    simp only [s_comp, hd, s_bindTp, s_bindTs1, s_bindTs0, s_bindNm, Option.bind_some, Option.map_some, List.cons_append, List.nil_append, s_tTrue, s_nox1, s_bind1, if_true, s_eTup, s_eB, s_aCons, s_aNil, s_eVar, e9, e10, s_map, hb d' p.2.2 hR, List.length_cons, List.length_nil, sz_of (show 0 + 1 + 1 ≤ 10000 by decide)]
    rfl
theorem tuple_IsR {d : D} {r : List Int} (h : IsR d r) : dTuple [d] = .ok (eT r) := by rcases h with rfl | rfl <;> rfl
theorem isAns {f : Option (Nat × List Int)} : dIsO tbC "Answer" (fD f) = .ok (.bl true) := by cases f <;> rfl
theorem isRf {f : Option (Nat × List Int)} : dIsO tbC "Right" (fD f) = .ok (.bl f.isNone) := by cases f <;> rfl
theorem isWf {f : Option (Nat × List Int)} : dIsO tbC "Wrong" (fD f) = .ok (.bl f.isSome) := by cases f <;> rfl
theorem isBool {b : Bool} : dIsT tbC "bool" (.bl b) = .ok (.bl true) := rfl
end Tw

/-! PC: what follows, by sets of signs closed under forcing. -/
namespace Tw
open PySem L2
/-- no row is without a sign left, none forces a sign more -/
def Closed (rs : List (List Int)) (M : List Int) : Prop := ∀ r ∈ rs, left M r ≠ [] ∧ ∀ s, left M r = [s] → s ∈ M
def Sub (L M : List Int) : Prop := ∀ s ∈ L, s ∈ M
theorem Sub.app {L M : List Int} (h : Sub L M) {s : Int} (hs : s ∈ M) : Sub (L ++ [s]) M := fun x hx => by
  rcases List.mem_append.mp hx with h' | h'
  · exact h x h'
  · rw [List.mem_singleton.mp h']; exact hs
theorem mem_left {M r : List Int} {s : Int} : s ∈ left M r ↔ s ∈ r ∧ -s ∉ M := by unfold left; simp
theorem left_anti {L M r : List Int} (h : Sub L M) : ∀ s ∈ left M r, s ∈ left L r := fun s hs => by
  obtain ⟨h1, h2⟩ := mem_left.mp hs
  exact mem_left.mpr ⟨h1, fun q => h2 (h _ q)⟩
theorem left_sublist {L M r : List Int} (h : Sub L M) : (left M r).Sublist (left L r) := by
  have e : left M r = (left L r).filter fun s => !decide (-s ∈ M) := by
    unfold left
    rw [List.filter_filter]
    refine List.filter_congr fun s _ => ?_
    by_cases h1 : -s ∈ M
    · simp [h1]
    · have : -s ∉ L := fun q => h1 (h _ q)
      simp [h1, this]
  rw [e]
  exact List.filter_sublist
/-- a pass stays within what is closed -/
theorem pass_in {M : List Int} : ∀ {t : Th} {L : List Int} {mv : Bool}, Closed (t.map (·.2)) M → Sub L M → ∃ L' b, pass t L mv = .inr (L', b) ∧ Sub L' M
  | [], L, mv, _, h => ⟨L, mv, by unfold pass; rfl, h⟩
  | (n, r) :: t, L, mv, hc, h => by
    have hc' : Closed (t.map (·.2)) M := fun q hq => hc q (List.mem_cons_of_mem _ hq)
    obtain ⟨c1, c2⟩ := hc r (by simp)
    have sl := left_sublist (r := r) h
    unfold pass
    split
    · rename_i e
      rw [e] at sl
      exact absurd (List.sublist_nil.mp sl) c1
    · rename_i s e
      split
      · exact pass_in hc' h
      · rw [e] at sl
        have e2 : left M r = [s] := by
          cases q : left M r with
          | nil => exact absurd q c1
          | cons a as =>
            rw [q] at sl
            have h1 := sl.length_le
            have h2 := sl.subset (List.mem_cons_self (a := a))
            have : as = [] := by cases as <;> simp at h1 ⊢
            subst this
            rw [List.mem_singleton.mp h2]
        exact pass_in hc' (h.app (c2 s e2))
    · exact pass_in hc' h
theorem forc_in {t : Th} {M : List Int} (hc : Closed (t.map (·.2)) M) : ∀ {k : Nat} {L : List Int} {res : List Int × Option Int}, Sub L M → forc k t L = some res → res.2 = none ∧ Sub res.1 M
  | 0, _, _, _, h => by unfold forc at h; cases h
  | k + 1, L, res, hs, h => by
    obtain ⟨L', b, e, hs'⟩ := pass_in (mv := false) hc hs
    unfold forc at h
    rw [e] at h
    cases b with
    | true => exact forc_in hc hs' h
    | false => cases h; exact ⟨rfl, hs'⟩
theorem force_none_iff {t : Th} {L : List Int} (ht : GTh t) (hi : In U6 L) : (force t L).2 = none ↔ ∃ M, Closed (t.map (·.2)) M ∧ Sub L M := by
  have f := forc_is ht hi
  constructor
  · intro h
    have e : force t L = ((force t L).1, none) := Prod.ext rfl h
    rw [e] at f
    obtain ⟨_, h2, h3⟩ := forc_end ht.inU 900 L _ hi f
    refine ⟨(force t L).1, fun r hr => ?_, h2⟩
    obtain ⟨p, hp, rfl⟩ := List.mem_map.mp hr
    exact h3 p hp
  · rintro ⟨M, hc, hs⟩
    exact (forc_in hc hs f).1
theorem foll_false {t : Th} {r : List Int} (ht : GTh t) (hr : Row r) : foll t r = false ↔ ∃ M, Closed (t.map (·.2)) M ∧ Sub (neg r) M := by
  rw [← force_none_iff ht hr.inn]
  unfold foll
  cases (force t (neg r)).2 <;> simp
theorem left_perm {M r r' : List Int} (h : r.Perm r') : (left M r).Perm (left M r') := h.filter _
theorem closed_row {M r r' : List Int} (h : r.Perm r') (c : left M r' ≠ [] ∧ ∀ s, left M r' = [s] → s ∈ M) : left M r ≠ [] ∧ ∀ s, left M r = [s] → s ∈ M := by
  have p := left_perm (M := M) h
  refine ⟨fun e => ?_, fun s e => ?_⟩
  · rw [e] at p; exact c.1 (List.perm_nil.mp p.symm)
  · rw [e] at p; exact c.2 s (List.perm_singleton.mp p.symm)
/-- each row of A is one of B, in whatever turn its signs stand -/
def Rows (A B : List (List Int)) : Prop := ∀ r ∈ A, ∃ r' ∈ B, r.Perm r'
theorem Rows.closed {A B : List (List Int)} (h : Rows A B) {M : List Int} (c : Closed B M) : Closed A M := fun r hr => by
  obtain ⟨r', h1, h2⟩ := h r hr
  exact closed_row h2 (c r' h1)
theorem Rows.refl (A : List (List Int)) : Rows A A := fun r hr => ⟨r, hr, .refl r⟩
theorem Rows.trans {A B C : List (List Int)} (h : Rows A B) (h' : Rows B C) : Rows A C := fun r hr => by
  obtain ⟨r1, a1, a2⟩ := h r hr
  obtain ⟨r2, b1, b2⟩ := h' r1 a1
  exact ⟨r2, b1, a2.trans b2⟩
theorem Rows.sub {A B : List (List Int)} (h : ∀ r ∈ A, r ∈ B) : Rows A B := fun r hr => ⟨r, h r hr, .refl r⟩
theorem Rows.tld {A : List (List Int)} : Rows A (A.map told) := fun r hr => ⟨told r, List.mem_map.mpr ⟨r, hr, rfl⟩, isort_perm.symm⟩
theorem Rows.untld {A : List (List Int)} : Rows (A.map told) A := fun r hr => by
  obtain ⟨q, hq, rfl⟩ := List.mem_map.mp hr
  exact ⟨q, hq, isort_perm⟩
/-- more rows, a wider row: it follows still -/
theorem foll_mono {t t' : Th} {r r' : List Int} (ht : GTh t) (ht' : GTh t') (hr : Row r) (hr' : Row r') (h : Rows (t.map (·.2)) (t'.map (·.2))) (hs : ∀ s ∈ r, s ∈ r') (hf : foll t r = true) : foll t' r' = true := by
  cases q : foll t' r' with
  | true => rfl
  | false =>
    obtain ⟨M, c, s⟩ := (foll_false ht' hr').mp q
    have : foll t r = false := (foll_false ht hr).mpr ⟨M, h.closed c, fun x hx => by
      obtain ⟨y, hy, rfl⟩ := List.mem_map.mp hx
      exact s _ (List.mem_map.mpr ⟨y, hs y hy, rfl⟩)⟩
    rw [this] at hf; cases hf
theorem enTh_rows : ∀ {n : Int} {rs : List (List Int)}, (enTh n rs).map (·.2) = rs
  | _, [] => rfl
  | n, r :: rs => by simp [enTh, enTh_rows (n := n + 1) (rs := rs)]
/-! ### roads of rows alone -/
def rw' (qs : List (List Int)) : List Stp := qs.map fun r => (false, r)
/-- each row follows from those ahead -/
def RightR : List (List Int) → List (List Int) → Prop
  | _, [] => True
  | A, q :: qs => (∃ t : Th, t.map (·.2) = A ∧ foll t q = true) ∧ RightR (A ++ [q]) qs
theorem foll_same {t t' : Th} {r : List Int} (e : t.map (·.2) = t'.map (·.2)) (ht : GTh t) (ht' : GTh t') (hr : Row r) : foll t r = foll t' r := by
  cases q : foll t r with
  | true => exact (foll_mono ht ht' hr hr (by rw [e]; exact Rows.refl _) (fun _ h => h) q).symm
  | false =>
    cases q' : foll t' r with
    | false => rfl
    | true => rw [foll_mono ht' ht hr hr (by rw [e]; exact Rows.refl _) (fun _ h => h) q'] at q; cases q
theorem walkF_right : ∀ {qs : List (List Int)} {k : Nat} {t : Th} {c : Int}, RTh t → (∀ q ∈ qs, Row q) → t.length + qs.length ≤ 400 → RightR (t.map (·.2)) qs → (walkF (rw' qs) k t c).1 = none
  | [], _, _, _, _, _, _, _ => by unfold rw' walkF; rfl
  | q :: qs, k, t, c, ht, hq, hl, h => by
    obtain ⟨⟨t', e, hf⟩, h2⟩ := h
    simp only [List.length_cons] at hl
    have hrow := hq q (by simp)
    have ht' : RTh t' := ⟨fun p hp => by
      have : p.2 ∈ t.map (·.2) := by rw [← e]; exact List.mem_map.mpr ⟨p, hp, rfl⟩
      obtain ⟨p', hp', e'⟩ := List.mem_map.mp this
      rw [← e']; exact ht.row p' hp'⟩
    have hl' : t'.length = t.length := by have := congrArg List.length e; simpa using this
    have hf' : foll t q = true := by rw [foll_same (t' := t') e.symm (ht.good (by omega)) (ht'.good (by omega)) hrow]; exact hf
    show (walkF ((false, q) :: rw' qs) k t c).1 = none
    unfold walkF
    rw [if_pos hf']
    exact walkF_right (ht.app hrow c) (fun x hx => hq x (List.mem_cons_of_mem _ hx)) (by simp; omega) (by simpa using h2)
end Tw

/-! PD: dicts of rows by their numbers; a row led to by hints. -/
namespace Tw
open PySem L2
def dth (t : Th) : List (Key × D) := t.map fun p => ((Sum.inl p.1 : Key), eT p.2)
/-- no number twice -/
def Num (t : Th) : Prop := (t.map (·.1)).Nodup
def lk (t : Th) (n : Int) : Option (List Int) := (t.find? fun p => decide (p.1 = n)).map (·.2)
theorem dth_val {t : Th} {n : Int} : valD (dth t) (.inl n) = (lk t n).map eT := by
  unfold valD dth lk
  rw [List.find?_map]
  have e : ((fun (kv : Key × D) => decide (kv.1 = Sum.inl n)) ∘ fun (p : Int × List Int) => ((Sum.inl p.1 : Key), eT p.2)) = fun p => decide (p.1 = n) := by
    funext p; simp
  rw [e]
  cases t.find? fun p => decide (p.1 = n) <;> rfl
theorem lk_some {t : Th} {n : Int} {r : List Int} (h : lk t n = some r) : (n, r) ∈ t := by
  unfold lk at h
  cases q : t.find? fun p => decide (p.1 = n) with
  | none => rw [q] at h; cases h
  | some p =>
    rw [q] at h
    cases h
    have h1 := List.mem_of_find?_eq_some q
    have h2 := List.find?_some q
    have : p.1 = n := of_decide_eq_true h2
    rw [← this]; exact h1
theorem lk_isSome {t : Th} {n : Int} : (lk t n).isSome = decide (n ∈ t.map (·.1)) := by
  unfold lk
  rw [Option.isSome_map, Bool.eq_iff_iff, List.find?_isSome]
  simp
theorem lk_none {t : Th} {n : Int} : lk t n = none ↔ n ∉ t.map (·.1) := by
  have := lk_isSome (t := t) (n := n)
  cases q : lk t n with
  | none => rw [q] at this; simpa using this.symm
  | some r => rw [q] at this; simpa using this.symm
theorem lk_of {t : Th} {n : Int} {r : List Int} (hn : Num t) (h : (n, r) ∈ t) : lk t n = some r := by
  cases q : lk t n with
  | none => exact absurd (List.mem_map.mpr ⟨_, h, rfl⟩) (lk_none.mp q)
  | some r' =>
    have h' := lk_some q
    have : ∀ {t : Th}, (t.map (·.1)).Nodup → (n, r) ∈ t → (n, r') ∈ t → r = r' := fun {t} nd a b => by
      induction t with
      | nil => cases a
      | cons p t ih =>
        simp only [List.map_cons, List.nodup_cons] at nd
        have nk : ∀ {x : List Int}, (n, x) ∈ t → p.1 = n → False := fun {x} m e => nd.1 (List.mem_map.mpr ⟨_, m, e.symm⟩)
        rcases List.mem_cons.mp a with a | a <;> rcases List.mem_cons.mp b with b | b
        · rw [← a] at b; cases b; rfl
        · exact (nk b (by rw [← a])).elim
        · exact (nk a (by rw [← b])).elim
        · exact ih nd.2 a b
    rw [this hn h h']
theorem dth_in {neg : Bool} {t : Th} {n : Int} : dInS neg (.int n) (.dct (dth t)) = .ok (.bl (if neg then !decide (n ∈ t.map (·.1)) else decide (n ∈ t.map (·.1)))) := by
  show R.ok (D.bl (if neg = true then !(valD (dth t) (.inl n)).isSome else (valD (dth t) (.inl n)).isSome)) = _
  rw [dth_val, Option.isSome_map, lk_isSome]
theorem dth_get {t : Th} {n : Int} {r : List Int} (h : lk t n = some r) : dGet (.dct (dth t)) (.int n) = .ok (eT r) := by
  show R.of (valD (dth t) (.inl n)) = _
  rw [dth_val, h]; rfl
theorem dth_pairs {t : Th} : pairsOf (t.map eP) = some (dth t) := by
  induction t with
  | nil => rfl
  | cons p t ih =>
    show pairsOf (.tup [.int p.1, eT p.2] :: t.map eP) = _
    unfold pairsOf
    rw [ih]
    rfl
theorem foldPut_dth : ∀ {t u : Th}, Num (u ++ t) → foldPut (dth u) (dth t) = dth (u ++ t)
  | [], u, _ => by unfold foldPut dth; simp
  | p :: t, u, h => by
    have hp : (Sum.inl p.1 : Key) ∉ (dth u).map Prod.fst := by
      unfold dth
      rw [List.map_map]
      intro q
      obtain ⟨x, hx, e⟩ := List.mem_map.mp q
      have e : (Sum.inl x.1 : Key) = Sum.inl p.1 := e
      have : x.1 = p.1 := Sum.inl.inj e
      unfold Num at h
      rw [List.map_append] at h
      exact (List.nodup_append.mp h).2.2 x.1 (List.mem_map.mpr ⟨x, hx, rfl⟩) p.1 (by simp) this
    show foldPut (putD (dth u) (.inl p.1) (eT p.2)) (dth t) = _
    rw [putD_new hp]
    have := foldPut_dth (t := t) (u := u ++ [p]) (by simpa using h)
    have e : dth u ++ [((Sum.inl p.1 : Key), eT p.2)] = dth (u ++ [p]) := by unfold dth; simp
    rw [e, this]; simp
theorem dict_th {t : Th} (h : Num t) : dDictP [eTh t] = .ok (.dct (dth t)) := by
  show (match pairsOf (t.map eP) with | some kvs => R.ok (D.dct (foldPut [] kvs)) | none => .no) = _
  rw [dth_pairs]
  have := foldPut_dth (t := t) (u := []) (by simpa using h)
  show R.ok (D.dct (foldPut [] (dth t))) = _
  rw [show ([] : List (Key × D)) = dth [] from rfl, this]; rfl
theorem items_th {t : Th} : dItems (.dct (dth t)) = .ok (eTh t) := by
  show R.ok (D.lst (itemsD (dth t))) = _
  unfold itemsD dth eTh
  rw [List.map_map]
  rfl
theorem dth_len {t : Th} : (dth t).length = t.length := by unfold dth; simp
theorem dth_put {t : Th} {n : Int} {r : List Int} (h : n ∉ t.map (·.1)) : putD (dth t) (.inl n) (eT r) = dth (t ++ [(n, r)]) := by
  have hp : (Sum.inl n : Key) ∉ (dth t).map Prod.fst := by
    unfold dth
    rw [List.map_map]
    intro q
    obtain ⟨x, hx, e⟩ := List.mem_map.mp q
    have e : (Sum.inl x.1 : Key) = Sum.inl n := e
    have : x.1 = n := Sum.inl.inj e
    exact h (List.mem_map.mpr ⟨x, hx, this⟩)
  rw [putD_new hp]
  unfold dth; simp
theorem dth_drop {t : Th} {n : Int} : dropD (dth t) (.inl n) = dth (wout t n) := by
  unfold dropD dth wout
  rw [List.filter_map]
  congr 1
  refine List.filter_congr fun p _ => ?_
  by_cases h : p.1 = n
  · simp [h]
  · have : (Sum.inl p.1 : Key) ≠ Sum.inl n := fun e => h (by cases e; rfl)
    simp [h]
theorem Num.wout {t : Th} (h : Num t) (n : Int) : Num (wout t n) := by
  unfold Num Tw.wout at *
  exact List.Nodup.sublist (List.filter_sublist.map _) h
theorem Num.app {t : Th} (h : Num t) {n : Int} {r : List Int} (hn : n ∉ t.map (·.1)) : Num (t ++ [(n, r)]) := by
  unfold Num at *
  rw [List.map_append]
  refine List.nodup_append.mpr ⟨h, by simp, fun a ha b hb => ?_⟩
  have hb : b = n := by simpa using hb
  subst hb
  exact fun e => hn (e ▸ ha)
/-! ### led -/
def ledF (t : Th) : List Int → List Int → Bool
  | [], _ => false
  | n :: hs, L => match lk t n with
    | none => false
    | some r => match hs, left L r with
      | [], l => l.isEmpty
      | _ :: _, [s] => if s ∈ L then false else ledF t hs (L ++ [s])
      | _ :: _, _ => false
theorem ledF_eq {t : Th} {n : Int} {hs L : List Int} : ledF t (n :: hs) L = match lk t n with
    | none => false
    | some r => match hs, left L r with
      | [], l => l.isEmpty
      | _ :: _, [s] => if s ∈ L then false else ledF t hs (L ++ [s])
      | _ :: _, _ => false := by conv => lhs; unfold ledF
theorem left_mk {kd : D} {L r : List Int} {i j : Nat} {ρ : Ev} {fi : SE} (hk : ∀ x : Int, dInS true (.int x) kd = .ok (.bl (!decide (x ∈ L)))) (hl : r.length ≤ 1000) (hf : fi ρ = .ok (eT r)) (hj : ((ρ.set i none)[j]?) = some (some kd)) (hij : i ≠ j) (hlen : i < ρ.length) :
    eComp [i] (.nm i) (iSeq fi) (tV (e2 (dInS true) (e1 dNeg (eVar i)) (eVar j))) (eVar i) ρ = .ok (eL (left L r)) := by
  have hj' : ρ[j]? = some (some kd) := by rwa [List.getElem?_set_ne hij] at hj
  refine comp_is (ds := r.map D.int) (es := (left L r).map D.int) (by simp [hf, eT]) ?_ (by have := left_len (L := L) (r := r); simp; omega)
  unfold left
  refine compD_filter fun x _ => ?_
  have g1 : ((ρ.set i none).set i (some (D.int x)))[i]? = some (some (.int x)) := by rw [List.getElem?_set_self (by simpa using hlen)]
  have g2 : ((ρ.set i none).set i (some (D.int x)))[j]? = some (some kd) := by rw [List.getElem?_set_ne hij, List.getElem?_set_ne hij, hj']
  simp only [s_comp, s_bindNm, s_wipe1, s_wipe0, s_setsD1, s_setsD0, s_tV, s_e2, s_e1, s_eVar, g1, g2, s_bind1, s_neg, s_nox1, hk, s_asB, if_true]
  split <;> simp_all
theorem enI_num {n : Nat} : ∀ {k : Nat} {hs : List Int} {i : Nat} {x : Int} {zs ys : List (Nat × Int)}, enI k hs = zs ++ (i, x) :: ys → i + ys.length + 1 = k + hs.length
  | k, [], i, x, zs, ys, h => by cases zs <;> cases h
  | k, a :: hs, i, x, zs, ys, h => by
    cases zs with
    | nil =>
      cases h
      have : (enI (k + 1) hs).length = hs.length := by
        have : ∀ (m : Nat) (l : List Int), (enI m l).length = l.length := fun m l => by
          induction l generalizing m with
          | nil => rfl
          | cons a l ih => simp [enI, ih]
        exact this _ _
      rw [this]; simp; omega
    | cons z zs =>
      have h : enI (k + 1) hs = zs ++ (i, x) :: ys := (List.cons.inj (show (k, a) :: enI (k + 1) hs = z :: (zs ++ (i, x) :: ys) from h)).2
      have := enI_num (n := n) h
      simp; omega
end Tw

/-! PL: led, by the program and by the law. -/
namespace Tw
open PySem L2
def kt (L : List Int) : List (Key × D) := L.map fun s => ((Sum.inl s : Key), D.bl true)
theorem kt_keys {L : List Int} : Keys (kt L) L := by unfold Keys kt; simp [Function.comp_def]
theorem kt_in {neg : Bool} {L : List Int} {i : Int} : dInS neg (.int i) (.dct (kt L)) = .ok (.bl (if neg then !decide (i ∈ L) else decide (i ∈ L))) := by
  show R.ok (D.bl (if neg = true then !(valD (kt L) (.inl i)).isSome else (valD (kt L) (.inl i)).isSome)) = _
  rw [kt_keys.val]
theorem kt_put {L : List Int} {i : Int} (h : i ∉ L) : putD (kt L) (.inl i) (.bl true) = kt (L ++ [i]) := by
  have : (Sum.inl i : Key) ∉ (kt L).map Prod.fst := by
    rw [show (kt L).map Prod.fst = L.map Sum.inl from kt_keys]
    intro q
    obtain ⟨x, hx, ex⟩ := List.mem_map.mp q
    cases ex; exact h hx
  rw [putD_new this]
  unfold kt; simp
theorem kt_dc {r : List Int} {d : D} {i : Nat} {ρ : Ev} {fi : SE} (hr : r.Nodup) (hl : r.length ≤ 500) (hf : fi ρ = .ok (eL r)) (hi : i < ρ.length) : eDc [i] (.nm i) (iSeq fi) tTrue (eVar i) (eC (.bl true)) ρ = .ok (.dct (kt r)) := by
  unfold eDc
  have h1 : iSeq fi ρ = .ok (r.map D.int) := by simp [hf, eL]
  rw [h1]
  have h2 : compD (dcS (.nm i) tTrue (eVar i) (eC (.bl true)) (wipeD ρ [i])) (r.map D.int) = .ok (r.map fun s => ((Sum.inl s : Key), D.bl true)) := by
    refine compD_all fun x _ => ?_
    unfold dcS
    have g1 : ((ρ.set i none).set i (some (D.int x)))[i]? = some (some (.int x)) := by rw [List.getElem?_set_self (by simpa using hi)]
    simp only [s_bindNm, s_wipe1, s_wipe0, s_setsD1, s_setsD0, s_tTrue, s_nox1, s_bind1, if_true, s_eVar, g1, s_eC]
    rfl
  simp only [s_bind1, h2, s_nox1]
  rw [if_pos (decide_eq_true (by simp; unfold sizeLine; omega))]
  have := foldPut_new (fun _ => .bl true) r [] [] rfl (by simpa using hr)
  rw [this]
  unfold kt
  simp
theorem dEnumA_tup {hs : List Int} : dEnumA [eT hs] = .ok ((enI 0 hs).map fun p => .tup [.int p.1, .int p.2]) := by
  show R.ok (enumD 0 (hs.map D.int)) = _
  rw [enumD_en]
theorem dLen_eT {hs : List Int} : dLen [eT hs] = .ok (.int hs.length) := by simp [eT, dLen]
theorem dLen_eL {hs : List Int} : dLen [eL hs] = .ok (.int hs.length) := by simp [eL, dLen]
theorem dSub_ii' {i j : Int} : dSub (.int i) (.int j) = .ok (.int (i - j)) := rfl
theorem flat_eL {l : List Int} : flatL (eL l) = true := by unfold flatL eL; simp [D.flat]
theorem get_eL0 {s : Int} {l : List Int} : dGet (eL (s :: l)) (.int 0) = .ok (.int s) := by simp [eL, dGet, atI_0]
theorem dth_row {t : Th} (ht : RTh t) {n : Int} {r : List Int} (h : lk t n = some r) : Row r := ht.row (n, r) (lk_some h)
end Tw

/-! PH: hints: what they are, that they lead. -/
namespace Tw
open PySem L2
theorem snoc_cases {α : Type} (l : List α) : l = [] ∨ ∃ l' x, l = l' ++ [x] := by
  rcases List.eq_nil_or_concat l with h | ⟨l', x, h⟩
  · exact .inl h
  · exact .inr ⟨l', x, by rw [h, List.concat_eq_append]⟩
def addN (N xs : List Int) : List Int := xs.foldl (fun N x => if x ∈ N then N else N ++ [x]) N
theorem addN_mem {x : Int} : ∀ {xs N : List Int}, x ∈ addN N xs ↔ x ∈ N ∨ x ∈ xs
  | [], N => by simp [addN]
  | y :: xs, N => by
    show x ∈ addN (if y ∈ N then N else N ++ [y]) xs ↔ _
    rw [addN_mem (xs := xs)]
    by_cases h : y ∈ N
    · rw [if_pos h]
      simp only [List.mem_cons]
      constructor
      · rintro (a | a)
        · exact .inl a
        · exact .inr (.inr a)
      · rintro (a | a | a)
        · exact .inl a
        · exact .inl (a ▸ h)
        · exact .inr a
    · rw [if_neg h]
      simp only [List.mem_append, List.mem_cons, List.not_mem_nil, or_false]
      exact or_assoc
theorem addN_nd : ∀ {xs N : List Int}, N.Nodup → (addN N xs).Nodup
  | [], N, h => h
  | y :: xs, N, h => by
    show (addN (if y ∈ N then N else N ++ [y]) xs).Nodup
    refine addN_nd ?_
    by_cases hy : y ∈ N
    · rw [if_pos hy]; exact h
    · rw [if_neg hy]
      exact List.nodup_append.mpr ⟨h, by simp, fun a ha b hb => by rw [List.mem_singleton.mp hb]; exact fun e => hy (e ▸ ha)⟩
def oth (r : List Int) (s : Int) : List Int := neg (r.filter fun x => !decide (x = s))
def rowN (t : Th) (n : Int) : List Int := (lk t n).getD []
/-- the signs that are needed, from the last one on -/
def kp (t : Th) : List (Int × Int) → List Int → List (Int × Int)
  | [], _ => []
  | (s, n) :: rest, N => if s ∈ N then (s, n) :: kp t rest (addN N (oth (rowN t n) s)) else kp t rest N
theorem ledF_step {t : Th} {n : Int} {r : List Int} (hn : lk t n = some r) {L : List Int} {s : Int} (hl : left L r = [s]) (hs : s ∉ L) {tl : List Int} (ht : tl ≠ []) : ledF t (n :: tl) L = ledF t tl (L ++ [s]) := by
  rw [ledF_eq, hn]
  cases tl with
  | nil => exact absurd rfl ht
  | cons a as =>
    show (match a :: as, left L r with | [], l => l.isEmpty | _ :: _, [s] => if s ∈ L then false else ledF t (a :: as) (L ++ [s]) | _ :: _, _ => false) = _
    rw [hl]
    show (if s ∈ L then false else ledF t (a :: as) (L ++ [s])) = _
    rw [if_neg hs]
theorem left_one {L r : List Int} {s : Int} (nd : r.Nodup) (hs : s ∈ r) (h1 : -s ∉ L) (h2 : ∀ x ∈ r, x ≠ s → -x ∈ L) : left L r = [s] := by
  have all : ∀ x ∈ left L r, x = s := fun x hx => Classical.byContradiction fun h => (mem_left.mp hx).2 (h2 x (mem_left.mp hx).1 h)
  have hm : s ∈ left L r := mem_left.mpr ⟨hs, h1⟩
  have ndl : (left L r).Nodup := nd.filter _
  cases e : left L r with
  | nil => rw [e] at hm; cases hm
  | cons a as =>
    rw [e] at all ndl
    have ea := all a (by simp)
    have : as = [] := by
      cases as with
      | nil => rfl
      | cons b bs =>
        have eb := all b (by simp)
        rw [ea, eb] at ndl
        simp at ndl
    rw [this, ea]
theorem kp_led {t : Th} (hN : Num t) (ht : RTh t) {L0 : List Int} : ∀ (k : Nat) (pre : List (Int × Int)), pre.length = k → JF t L0 pre → ∀ N : List Int,
    (∀ tl, tl ≠ [] → ledF t ((kp t pre.reverse N).reverse.map (·.2) ++ tl) L0 = ledF t tl (L0 ++ (kp t pre.reverse N).reverse.map (·.1))) ∧ (∀ x ∈ pre.map (·.1), x ∈ N → x ∈ (kp t pre.reverse N).map (·.1)) ∧ (∀ x ∈ (kp t pre.reverse N).map (·.1), x ∈ pre.map (·.1))
  | 0, pre, h, _, N => by
    have : pre = [] := List.length_eq_zero_iff.mp h
    subst this
    simp [kp]
  | k + 1, pre, h, hJ, N => by
    rcases snoc_cases pre with rfl | ⟨pre', ⟨s, n⟩, rfl⟩
    · cases h
    have hk : pre'.length = k := by simpa using h
    have hJ' : JF t L0 pre' := fun p s' n' q e => hJ p s' n' (q ++ [(s, n)]) (by rw [e]; simp)
    obtain ⟨hs, r, hr, hl⟩ := hJ pre' s n [] rfl
    have hlk := lk_of hN hr
    have hrow := ht.row (n, r) hr
    have hsm : s ∈ left (L0 ++ pre'.map (·.1)) r := by rw [hl]; simp
    obtain ⟨hsr, hsn⟩ := mem_left.mp hsm
    simp only [List.reverse_append, List.reverse_cons, List.reverse_nil, List.nil_append, List.cons_append, kp]
    by_cases hsN : s ∈ N
    · rw [if_pos hsN]
      obtain ⟨a1, a2, a3⟩ := kp_led hN ht k pre' hk hJ' (addN N (oth (rowN t n) s))
      generalize hK : kp t pre'.reverse (addN N (oth (rowN t n) s)) = K at a1 a2 a3
      have sub : ∀ x ∈ L0 ++ K.reverse.map (·.1), x ∈ L0 ++ pre'.map (·.1) := fun x hx => by
        rcases List.mem_append.mp hx with h | h
        · exact List.mem_append_left _ h
        · exact List.mem_append_right _ (a3 x (by simpa using h))
      have hleft : left (L0 ++ K.reverse.map (·.1)) r = [s] := by
        refine left_one hrow.nodup hsr (fun q => hsn (sub _ q)) fun x hx hxs => ?_
        have : -x ∈ L0 ++ pre'.map (·.1) := Classical.byContradiction fun q => by
          have := mem_left.mpr ⟨hx, q⟩
          rw [hl] at this
          exact hxs (List.mem_singleton.mp this)
        rcases List.mem_append.mp this with h | h
        · exact List.mem_append_left _ h
        · refine List.mem_append_right _ ?_
          have : -x ∈ K.map (·.1) := a2 _ h (addN_mem.mpr (.inr (by
            unfold oth rowN
            rw [hlk]
            exact List.mem_map.mpr ⟨x, List.mem_filter.mpr ⟨hx, by simpa using hxs⟩, rfl⟩)))
          simpa using this
      refine ⟨fun tl htl => ?_, fun x hx hxN => ?_, fun x hx => ?_⟩
      · have := a1 (n :: tl) (by simp)
        have hsL : s ∉ L0 ++ K.reverse.map (·.1) := fun q => hs (sub _ q)
        rw [ledF_step hlk hleft hsL htl] at this
        simpa using this
      · simp only [List.map_append, List.map_cons, List.map_nil, List.mem_append, List.mem_singleton] at hx
        rcases hx with h | h
        · exact List.mem_cons_of_mem _ (a2 x h (addN_mem.mpr (.inl hxN)))
        · rw [h]; simp
      · simp only [List.map_cons, List.mem_cons] at hx
        rcases hx with h | h
        · rw [h]; simp
        · have := a3 x h
          simp only [List.map_append, List.mem_append]
          exact .inl this
    · rw [if_neg hsN]
      obtain ⟨a1, a2, a3⟩ := kp_led hN ht k pre' hk hJ' N
      refine ⟨a1, fun x hx hxN => ?_, fun x hx => ?_⟩
      · simp only [List.map_append, List.map_cons, List.map_nil, List.mem_append, List.mem_singleton] at hx
        rcases hx with h | h
        · exact a2 x h hxN
        · rw [h] at hxN; exact absurd hxN hsN
      · have := a3 x hx
        simp only [List.map_append, List.mem_append]
        exact .inl this
/-- the hints by which a row follows -/
def hintsK (t : Th) (fs : List (Int × Int)) (rc : List Int) (n0 : Int) : List Int := (kp t fs.reverse (neg rc)).reverse.map (·.2) ++ [n0]
theorem hints_lead {t : Th} (hN : Num t) (ht : RTh t) {L0 : List Int} {fs : List (Int × Int)} (hJ : JF t L0 fs) {n0 : Int} {rc : List Int} (hn : (n0, rc) ∈ t) (hc : left (L0 ++ fs.map (·.1)) rc = []) : ledF t (hintsK t fs rc n0) L0 = true := by
  obtain ⟨a1, a2, a3⟩ := kp_led hN ht _ fs rfl hJ (neg rc)
  unfold hintsK
  rw [a1 [n0] (by simp), ledF_eq, lk_of hN hn]
  show (left _ rc).isEmpty = true
  have : left (L0 ++ (kp t fs.reverse (neg rc)).reverse.map (·.1)) rc = [] := List.eq_nil_iff_forall_not_mem.mpr fun x hx => by
    obtain ⟨h1, h2⟩ := mem_left.mp hx
    have : -x ∈ L0 ++ fs.map (·.1) := Classical.byContradiction fun q => by
      have := mem_left.mpr ⟨h1, q⟩
      rw [hc] at this; cases this
    refine h2 ?_
    rcases List.mem_append.mp this with h | h
    · exact List.mem_append_left _ h
    · refine List.mem_append_right _ ?_
      have := a2 _ h (List.mem_map.mpr ⟨x, h1, rfl⟩)
      simpa using this
  rw [this]; rfl
theorem kp_len {t : Th} : ∀ {fs : List (Int × Int)} {N : List Int}, (kp t fs N).length ≤ fs.length
  | [], N => by simp [kp]
  | (s, n) :: fs, N => by
    unfold kp
    split
    · have := kp_len (t := t) (fs := fs) (N := addN N (oth (rowN t n) s)); simp; omega
    · have := kp_len (t := t) (fs := fs) (N := N); simp; omega
theorem hintsK_len {t : Th} {fs : List (Int × Int)} {rc : List Int} {n0 : Int} : (hintsK t fs rc n0).length ≤ fs.length + 1 := by
  unfold hintsK
  have := kp_len (t := t) (fs := fs.reverse) (N := neg rc)
  simp at this ⊢; omega
/-! ### hints_of -/
def bF (t : Th) : List (Int × Option Int) → List Int → List Int
  | [], _ => []
  | (s, some n) :: rest, N => if s ∈ N then n :: bF t rest (addN N (oth (rowN t n) s)) else bF t rest N
  | (_, none) :: rest, N => bF t rest N
theorem bF_none {t : Th} : ∀ {L N : List Int}, bF t (L.map fun s => (s, none)) N = []
  | [], N => by simp [bF]
  | s :: L, N => by simp only [List.map_cons, bF]; exact bF_none
theorem bF_kp {t : Th} {L : List Int} : ∀ {fs : List (Int × Int)} {N : List Int}, bF t (fs.map (fun p => (p.1, some p.2)) ++ L.map fun s => (s, none)) N = (kp t fs N).map (·.2)
  | [], N => by simp only [List.map_nil, List.nil_append, bF_none, kp]
  | (s, n) :: fs, N => by
    simp only [List.map_cons, List.cons_append, bF, kp]
    split
    · rw [bF_kp]; rfl
    · rw [bF_kp]
def enO (p : Int × Option Int) : D := .tup [.int p.1, numD p.2]
theorem items_encJ {L0 : List Int} {fs : List (Int × Int)} : e1 dRev (e1 dItems (eVar 2)) = e1 dRev (e1 dItems (eVar 2)) := rfl
theorem rev_items {L0 : List Int} {fs : List (Int × Int)} {ρ : Ev} (h : ρ[2]? = some (some (.dct (encJ L0 fs)))) : iSeq (e1 dRev (e1 dItems (eVar 2))) ρ = .ok ((fs.reverse.map (fun p => (p.1, some p.2)) ++ L0.reverse.map fun s => ((s, none) : Int × Option Int)).map enO) := by
  have e : itemsD (encJ L0 fs) = (L0.map fun s => enO (s, none)) ++ fs.map fun p => enO (p.1, some p.2) := by
    unfold itemsD encJ
    rw [List.map_append, List.map_map, List.map_map]
    rfl
  simp only [s_iSeq, s_e1, s_eVar, h, s_bind1, dItems, s_nox1, dRev, e, s_iter1]
  simp [Function.comp_def]
end Tw

/-! PS: slips of right roads. -/
namespace Tw
open PySem L2
/-- a slip's step: a number; with a row and its hints, or a drop -/
abbrev Slp := Int × Option (List Int × List Int)
def eK : Slp → D
  | (n, none) => .tup [.str "drop", .int n]
  | (n, some (r, h)) => .tup [.str "row", .int n, eT r, eT h]
def slipD (dr : Bool) (l : List Slp) : List Slp := l.filter fun s => dr || s.2.isSome
/-- numbers told apart, all below c -/
structure NumC (t : Th) (c : Int) : Prop where
  num : Num t
  lt : ∀ p ∈ t, p.1 < c
theorem NumC.wout {t : Th} {c : Int} (h : NumC t c) (n : Int) : NumC (wout t n) c := ⟨h.num.wout n, fun p hp => h.lt p (List.mem_filter.mp hp).1⟩
theorem NumC.fresh {t : Th} {c : Int} (h : NumC t c) : c ∉ t.map (·.1) := fun q => by
  obtain ⟨p, hp, e⟩ := List.mem_map.mp q
  have := h.lt p hp
  omega
theorem NumC.app {t : Th} {c : Int} (h : NumC t c) (r : List Int) : NumC (t ++ [(c, r)]) (c + 1) := ⟨h.num.app h.fresh, fun p hp => by
  rcases List.mem_append.mp hp with q | q
  · have := h.lt p q; omega
  · rw [List.mem_singleton.mp q]; show c < c + 1; omega⟩
theorem enTh_num : ∀ {n : Int} {rs : List (List Int)}, NumC (enTh n rs) (n + rs.length) ∧ ∀ p ∈ enTh n rs, n ≤ p.1
  | n, [] => ⟨⟨by unfold Num; simp [enTh], fun p hp => by simp [enTh] at hp⟩, fun p hp => by simp [enTh] at hp⟩
  | n, r :: rs => by
    obtain ⟨h1, h2⟩ := enTh_num (n := n + 1) (rs := rs)
    have h3 : ∀ p ∈ enTh n (r :: rs), n ≤ p.1 := fun p hp => by
      rcases List.mem_cons.mp hp with e | hp
      · rw [e]; exact Int.le_refl _
      · have := h2 p hp; omega
    refine ⟨⟨?_, fun p hp => ?_⟩, h3⟩
    · unfold Num
      show (n :: (enTh (n + 1) rs).map (·.1)).Nodup
      refine List.nodup_cons.mpr ⟨fun q => ?_, h1.num⟩
      obtain ⟨p, hp, e⟩ := List.mem_map.mp q
      have := h2 p hp
      omega
    · rcases List.mem_cons.mp hp with e | hp
      · rw [e]; show n < n + ((r :: rs).length : Nat); simp; omega
      · have := h1.lt p hp; simp; omega
theorem enTh_numC {rs : List (List Int)} : NumC (enTh 0 rs) rs.length := by
  have := (enTh_num (n := 0) (rs := rs)).1
  simpa using this
theorem right_steps_is {xr : DR} {xs : DS} (hr : OkR xr) (hs : OkS xs) (hl : xr.length ≤ 16) (hl2 : xs.length ≤ 100) (hw : (walk (tDR xr) (tDS xs)).1 = none) : m_right_steps [eDR xr, eDS xs] = .ok (.tup [.lst ((tDR xr).map eT), .lst ((tDS xs).map eS)]) := by
  have hss := tDS_row hs
  have el1 : (tDR xr).length = xr.length := by unfold tDR; simp
  have el2 : (tDS xs).length = xs.length := by unfold tDS; simp
  refine wp_is (wp_seq ?_)
  unfold sPar2
  have c1 : eCall m_rows_of (aCons (eVar 0) aNil) (hid (start0 6 [eDR xr, eDS xs])) = .ok (.lst ((tDR xr).map eT)) := by simp [rows_of_is hr hl]
  have c2 : eCall m_steps_of (aCons (eVar 1) aNil) (hid (start0 6 [eDR xr, eDS xs])) = .ok (.lst ((tDS xs).map eS)) := by simp [steps_of_is hs hl2]
  simp only [c1, c2, s_step1]
  show WP (sSeq _ _ [.fz (eDR xr), .fz (eDS xs), .fz (.lst ((tDR xr).map eT)), .fz (.lst ((tDS xs).map eS)), .no, .no]) _ _
  refine wp_seq ?_
  unfold sBind
  have c3 : eCall m_walked (aCons (eVar 2) (aCons (eVar 3) aNil)) (hid [.fz (eDR xr), .fz (eDS xs), .fz (.lst ((tDR xr).map eT)), .fz (.lst ((tDS xs).map eS)), .no, .no]) = .ok (.tup [atD (walk (tDR xr) (tDS xs)).1, eTh (walk (tDR xr) (tDS xs)).2]) := by
    simp only [s_eCall, s_aCons, s_aNil, s_eVar, s_hid1, s_h1, List.getElem?_cons_succ, List.getElem?_cons_zero, s_bind1, s_map]
    exact walked_is (tDR_row hr) (tDS_row hs) (by omega)
  simp only [c3, s_step1, s_bindTp, s_bindTs1, s_bindTs0, s_bindNm, Option.bind_some, Option.map_some, List.cons_append, List.nil_append, s_setsC1, s_setsC0]
  show WP (sSeq _ _ [.fz (eDR xr), .fz (eDS xs), .fz (.lst ((tDR xr).map eT)), .fz (.lst ((tDS xs).map eS)), .fz (atD (walk (tDR xr) (tDS xs)).1), .fz (eTh (walk (tDR xr) (tDS xs)).2)]) _ _
  rw [hw]
  exact wp_seq (wp_if (b := false) rfl (fun h => by cases h) fun _ => wp_nil (wp_ret (d := .tup [.lst ((tDR xr).map eT), .lst ((tDS xs).map eS)]) (by simp [sz_of]) rfl))
theorem nc_eK (s : Slp) : nc 2 (eK s) = true := by
  obtain ⟨n, o⟩ := s
  cases o with
  | none =>
    have h1 : nc 1 (.str "drop") = true := by decide +kernel
    show ([.str "drop", .int n] : List D).all (nc 1) = true
    simp only [List.all_cons, List.all_nil, h1]; rfl
  | some p =>
    have h1 : nc 1 (.str "row") = true := by decide +kernel
    show ([.str "row", .int n, eT p.1, eT p.2] : List D).all (nc 1) = true
    simp only [List.all_cons, List.all_nil, nc_eT, h1]; rfl
theorem eK_word {s : Slp} : dGet (eK s) (.int 0) = .ok (.str (wd s.2.isNone)) := by
  obtain ⟨n, o⟩ := s
  cases o <;> rfl
theorem wd_rowE {b : Bool} : dEq (.str (wd b)) (.str "row") = .ok (.bl (!b)) := by
  have h := dEq_str (a := wd b) (b := "row") (wd_ok b) (by decide +kernel)
  rw [h]
  congr 2
  cases b <;> decide +kernel
end Tw

/-! PF: whether a slip fits, by the program and by the law. -/
namespace Tw
open PySem L2
def fitF : List Slp → Th → Int → Bool → Bool
  | [], _, _, c => c
  | (n, none) :: ss, t, l, c => if n ∈ t.map (·.1) then fitF ss (wout t n) l c else false
  | (n, some (r, h)) :: ss, t, l, c => if n ≤ l then false else if ledF t h (neg (told r)) = true then fitF ss (t ++ [(n, told r)]) n (decide (told r = [])) else false
def IsK (d : D) (s : Slp) : Prop := match s with
  | (n, none) => d = .tup [.str "drop", .int n]
  | (n, some (r, h)) => ∃ d', d = .tup [.str "row", .int n, d', eT h] ∧ IsR d' r
abbrev DK := List (D × Slp)
structure OkK (ks : DK) : Prop where
  is : ∀ p ∈ ks, IsK p.1 p.2
  row : ∀ p ∈ ks, ∀ r h, p.2.2 = some (r, h) → Row r ∧ h.length ≤ 5000
def eDK (ks : DK) : D := .lst (ks.map Prod.fst)
def sDK (ks : DK) : List Slp := ks.map Prod.snd
theorem is_tup {ds : List D} : dIsT tbC "tuple" (.tup ds) = .ok (.bl true) := rfl
theorem is_str {z : Str} : dIsT tbC "str" (.str z) = .ok (.bl true) := rfl
theorem whole_all {h : List Int} (hl : h.length ≤ 5000) {ρ : Ev} {d : D} {fi : SE} (hf : fi ρ = .ok (eT h)) (hn : 1 < ρ.length) : eB dAll (aCons (eComp [1] (.nm 1) (iSeq fi) tTrue (eCall m_is_whole (aCons (eVar 1) aNil))) aNil) ρ = .ok (.bl true) := by
  have c : eComp [1] (.nm 1) (iSeq fi) tTrue (eCall m_is_whole (aCons (eVar 1) aNil)) ρ = .ok (.lst ((h.map fun _ => true).map D.bl)) := by
    refine comp_is (ds := h.map D.int) ?_ ?_ (by simp; omega)
    · simp [hf, eT]
    · rw [List.map_map]
      refine compD_all fun x _ => ?_
      have g1 : ((ρ.set 1 none).set 1 (some (D.int x)))[1]? = some (some (.int x)) := by rw [List.getElem?_set_self (by simpa using hn)]
      simp only [s_comp, s_bindNm, s_wipe1, s_wipe0, s_setsD1, s_setsD0, s_tTrue, s_nox1, s_bind1, if_true, s_eCall, s_aCons, s_aNil, s_eVar, g1, s_map, is_whole_int]
      rfl
  simp only [s_eB, s_aCons, s_aNil, c, s_bind1, s_map, dAll_is, s_nox1]
  have : (h.map fun _ => true).all id = true := by simp
  rw [this]
theorem ne_nil_tup {n : Nat} {ds : List D} (h : ds.all (nc n) = true) (h0 : ds ≠ []) (hn : n + 1 ≤ 64) : dEq (.tup ds) (.tup []) = .ok (.bl false) := dEq_nc (n := n + 1) (m := 1) h rfl (by simp [h0]) hn
theorem dLe_i {i j : Int} : dLe (.int i) (.int j) = .ok (.bl (decide (i ≤ j))) := rfl
theorem dEq_eT_nil {r : List Int} : dEq (eT r) (.tup []) = .ok (.bl (decide (r = []))) := dEq_nc (n := 1) (m := 1) (nc_eT 0 r) rfl (by simp [eT])
/-- what stands in a fit: rows, numbers told apart and not beyond the last -/
structure FtOk (t : Th) (l : Int) : Prop where
  row : RTh t
  num : Num t
  le : ∀ p ∈ t, p.1 ≤ l
theorem FtOk.wout {t : Th} {l : Int} (h : FtOk t l) (n : Int) : FtOk (wout t n) l := ⟨h.row.wout n, h.num.wout n, fun p hp => h.le p (List.mem_filter.mp hp).1⟩
theorem FtOk.fresh {t : Th} {l n : Int} (h : FtOk t l) (hn : ¬ n ≤ l) : n ∉ t.map (·.1) := fun q => by
  obtain ⟨p, hp, e⟩ := List.mem_map.mp q
  have := h.le p hp
  omega
theorem FtOk.app {t : Th} {l n : Int} (h : FtOk t l) (hn : ¬ n ≤ l) {r : List Int} (hr : Row r) : FtOk (t ++ [(n, r)]) n := ⟨h.row.app hr n, h.num.app (h.fresh hn), fun p hp => by
  rcases List.mem_append.mp hp with q | q
  · have := h.le p q; omega
  · rw [List.mem_singleton.mp q]; exact Int.le_refl _⟩
theorem ftOk_start {rs : List (List Int)} (h : ∀ r ∈ rs, Row r) : FtOk (enTh 0 rs) (rs.length - 1) := ⟨enTh_row h, enTh_numC.num, fun p hp => by have := enTh_numC.lt p hp; omega⟩
theorem bindSt_drop {n : Int} : bindSt 2 [.nm 6, .nm 7, .nm 8] (.tup [.str "drop", .int n]) = some [(6, .str "drop"), (7, .int n), (8, .lst [])] := rfl
theorem bindSt_row {n : Int} {d h : D} : bindSt 2 [.nm 6, .nm 7, .nm 8] (.tup [.str "row", .int n, d, h]) = some [(6, .str "row"), (7, .int n), (8, .lst [d, h])] := rfl
theorem wp_forS {α : Type} {i : Nat} {ts : List Tg} {fi : SA} {g : SS} {ρ : List Cl} {N : List Cl → Prop} {Q : D → Prop} {xs : List α} {en : α → D} (I : List α → List Cl → Prop) (hi : fi (hid ρ) = .ok (xs.map en)) (h0 : I xs ρ)
    (hs : ∀ x ys ρ, (∃ zs, xs = zs ++ x :: ys) → I (x :: ys) ρ → WP (bodyS i ts g (en x) ρ) (I ys) Q) (hd : ∀ ρ, I [] ρ → N ρ) : WP (sForS i ts fi g ρ) N Q := by
  unfold sForS step
  rw [hi]
  show WP (forD (bodyS i ts g) (xs.map en) ρ) N Q
  have go : ∀ (ys : List α) (ρ : List Cl), (∃ zs, xs = zs ++ ys) → I ys ρ → WP (forD (bodyS i ts g) (ys.map en) ρ) N Q := fun ys => by
    induction ys with
    | nil => intro ρ _ h; exact hd ρ h
    | cons x ys ih =>
      intro ρ hz h
      have w := hs x ys ρ hz h
      simp only [List.map_cons, forD]
      cases q : bodyS i ts g (en x) ρ <;> rw [q] at w <;> first | exact ih _ (let ⟨zs, e⟩ := hz; ⟨zs ++ [x], by rw [e]; simp⟩) w | exact w | exact w.elim
  exact go xs ρ ⟨[], rfl⟩ h0
theorem enum_dc {rs : List (List Int)} (hl : rs.length ≤ 1000) {ρ : Ev} (h2 : ρ[2]? = some (some (.lst (rs.map eT)))) (hn : 9 < ρ.length) : eDc [7, 9] (.tp [(.nm 7), (.nm 9)]) (iRg dEnum (aCons (eVar 2) aNil)) tTrue (eVar 7) (eVar 9) ρ = .ok (.dct (dth (enTh 0 rs))) := by
  unfold eDc
  have e1 : iRg dEnum (aCons (eVar 2) aNil) ρ = .ok ((enTh 0 rs).map eP) := by
    simp only [s_iRg, s_aCons, s_aNil, s_eVar, h2, s_bind1, s_map, dEnum, enum_rows]; rfl
  rw [e1]
  have e2 : compD (dcS (.tp [(.nm 7), (.nm 9)]) tTrue (eVar 7) (eVar 9) (wipeD ρ [7, 9])) ((enTh 0 rs).map eP) = .ok (dth (enTh 0 rs)) := by
    unfold dth
    refine compD_all fun p _ => ?_
    unfold dcS
    have g7 : ((((ρ.set 9 none).set 7 none).set 7 (some (D.int p.1))).set 9 (some (eT p.2)))[7]? = some (some (.int p.1)) := by
      rw [List.getElem?_set_ne (by decide), List.getElem?_set_self (by simp; omega)]
    have g9 : ((((ρ.set 9 none).set 7 none).set 7 (some (D.int p.1))).set 9 (some (eT p.2)))[9]? = some (some (eT p.2)) := by
      rw [List.getElem?_set_self (by simp; omega)]
    simp only [eP, s_bindTp, s_bindTs1, s_bindTs0, s_bindNm, Option.bind_some, Option.map_some, List.cons_append, List.nil_append, s_wipe1, s_wipe0, s_setsD1, s_setsD0, s_tTrue, s_nox1, s_bind1, if_true, s_eVar, g7, g9]
    rfl
  simp only [s_bind1, e2, s_nox1]
  rw [if_pos (decide_eq_true (by rw [dth_len, enTh_len]; unfold sizeLine; omega))]
  have := foldPut_dth (t := enTh 0 rs) (u := []) (by simpa using enTh_numC.num)
  rw [show ([] : List (Key × D)) = dth [] from rfl, this]; rfl
end Tw

/-! PF2: whether a slip fits, by the law. -/
namespace Tw
open PySem L2
theorem told_comp {xr : DR} (h : OkR xr) (hl : xr.length ≤ 9000) {i j : Nat} {ρ : Ev} (h0 : ρ[j]? = some (some (eDR xr))) (hij : i ≠ j) (hn : i < ρ.length) : eComp [i] (.nm i) (iSeq (eVar j)) tTrue (eCall m__law_told (aCons (eVar i) aNil)) ρ = .ok (.lst ((tDR xr).map eT)) := by
  refine comp_is (ds := xr.map Prod.fst) ?_ ?_ (by unfold tDR; simp; omega)
  · simp [h0, eDR]
  · unfold tDR
    rw [List.map_map]
    refine compD_all fun p hp => ?_
    have g1 : ((ρ.set i none).set i (some p.1))[i]? = some (some p.1) := by rw [List.getElem?_set_self (by simpa using hn)]
    simp only [s_comp, s_bindNm, s_wipe1, s_wipe0, s_setsD1, s_setsD0, s_tTrue, s_nox1, s_bind1, if_true, s_eCall, s_aCons, s_aNil, s_eVar, g1, s_map, law_told_is (h.is p hp)]
    rfl
end Tw

/-! P11: the script's numbers, rows. -/
namespace Tw
open PySem L2
theorem dAdd_ii {i j : Int} : dAdd (.int i) (.int j) = .ok (.int (i + j)) := rfl
theorem dSub_ii {i j : Int} : dSub (.int i) (.int j) = .ok (.int (i - j)) := rfl
theorem dMod_ii {i j : Int} (h : j ≠ 0) : dMod (.int i) (.int j) = .ok (.int (i.fmod j)) := by
  show (if decide (j ≠ 0) = true then R.ok (D.int (i.fmod j)) else .no) = _
  rw [if_pos (decide_eq_true h)]
theorem dFdiv_ii {i j : Int} (h : j ≠ 0) (h2 : j.natAbs < 1073741824) : dFdiv (.int i) (.int j) = .ok (.int (i.fdiv j)) := by
  show (if decide (j ≠ 0 ∧ j.natAbs < 1073741824) = true then R.ok (D.int (i.fdiv j)) else .no) = _
  rw [if_pos (decide_eq_true ⟨h, h2⟩)]
theorem dMul_r {i j : Int} (h1 : -18446744073709551616 < j) (h2 : j < 18446744073709551616) : dMul (.int i) (.int j) = .ok (.int (i * j)) := by
  show (if mulOk i j = true then R.ok (D.int (i * j)) else .no) = _
  rw [if_pos (by unfold mulOk; rw [decide_eq_true h1, decide_eq_true h2]; simp)]
theorem dMul_l {i j : Int} (h1 : -18446744073709551616 < i) (h2 : i < 18446744073709551616) : dMul (.int i) (.int j) = .ok (.int (i * j)) := by
  show (if mulOk i j = true then R.ok (D.int (i * j)) else .no) = _
  rw [if_pos (by unfold mulOk; rw [decide_eq_true h1, decide_eq_true h2]; simp)]
theorem fm0 {a b : Int} (h : 0 < b) : 0 ≤ a.fmod b := Int.fmod_nonneg_of_pos a h
theorem fm1 {a b : Int} (h : 0 < b) : a.fmod b < b := Int.fmod_lt_of_pos a h
def lnumZ (c a w : Int) : Int := ((c.fmod 1000003 + 977 * a) * 48271 + 31 * ((c.fdiv 1000003).fmod 999983) + w.fmod 65521).fmod 2147483647
def lnum (c a w : Int) : Int := (lnumZ c a w * (lnumZ c a w + 31 * a + 7)).fmod 2147483629 * 65537 + (c.fdiv 1000003).fmod 999983
theorem number_is (c a w : Int) : m__law_number [.int c, .int a, .int w] = .ok (.int (lnum c a w)) := by
  unfold lnum
  generalize hz : lnumZ c a w = z
  unfold lnumZ at hz
  have z0 : 0 ≤ z := by rw [← hz]; exact fm0 (by decide)
  have z1 : z < 2147483647 := by rw [← hz]; exact fm1 (by decide)
  refine wp_is (wp_seq ?_)
  unfold sPar2
  have e1 : e2 dMod (eVar 0) (eC (.int 1000003)) (hid (start0 6 [.int c, .int a, .int w])) = .ok (.int (c.fmod 1000003)) := by simp [dMod_ii]
  have q2 : e2 dMod (e2 dFdiv (eVar 0) (eC (.int 1000003))) (eC (.int 999983)) (hid (start0 6 [.int c, .int a, .int w])) = .ok (.int ((c.fdiv 1000003).fmod 999983)) := by simp [dMod_ii, dFdiv_ii]
  simp only [e1, q2, s_step1]
  generalize c.fmod 1000003 = x at hz ⊢
  generalize (c.fdiv 1000003).fmod 999983 = y at hz ⊢
  show WP (sSeq _ _ [.fz (.int c), .fz (.int a), .fz (.int w), .fz (.int x), .fz (.int y), .no]) _ _
  refine wp_seq (wp_set (d := .int z) ?_ ?_)
  · simp [dMod_ii, dAdd_ii, dMul_l (i := 977), dMul_r (j := 48271), dMul_l (i := 31), hz]
  refine wp_ret (d := .int ((z * (z + 31 * a + 7)).fmod 2147483629 * 65537 + y)) ?_ rfl
  simp [dMod_ii, dAdd_ii, dMul_l (i := 31), dMul_l (i := z) (by omega) (by omega), dMul_r (j := 65537)]
/-! ### rows -/
theorem eraseIdx_split {α : Type} : ∀ {xs : List α} {j : Nat} {x : α}, xs[j]? = some x → (x :: xs.eraseIdx j).Perm xs
  | [], j, x, h => by simp at h
  | a :: xs, 0, x, h => by simp at h; subst h; simp
  | a :: xs, j + 1, x, h => by
    have h : xs[j]? = some x := by simpa using h
    simp only [List.eraseIdx_cons_succ]
    exact (List.Perm.swap a x _).trans (List.Perm.cons a (eraseIdx_split h))
theorem erase_map {α β : Type} (f : α → β) : ∀ (xs : List α) (j : Nat), (xs.map f).eraseIdx j = (xs.eraseIdx j).map f
  | [], j => rfl
  | a :: xs, 0 => rfl
  | a :: xs, j + 1 => by simp [erase_map f xs j]
/-- the marks that are left and those drawn -/
structure Drw (m : Int) (ls fs : List Int) : Prop where
  nd : (fs.map absI ++ ls).Nodup
  lo : ∀ s ∈ fs.map absI ++ ls, 1 ≤ s ∧ s ≤ m
  len : (ls.length + fs.length : Int) = m
theorem seqIdx {k : Int} {n : Nat} (h0 : 0 ≤ k) (h1 : k < n) : seqIndex? k n = some k.toNat := by
  unfold seqIndex?
  have : ¬ k < 0 := by omega
  simp [this, h0, h1]
theorem rngD_len {lo : Int} {n : Nat} : rngD lo n = (List.range n).map fun (i : Nat) => D.int (lo + i) := rfl
theorem absI_pos {s : Int} (h : 0 ≤ s) : absI s = s := by unfold absI; rw [if_neg (by omega)]
theorem Drw.pop {m : Int} {ls fs : List Int} (h : Drw m ls fs) {j : Nat} {x y : Int} (hj : ls[j]? = some x) (hy : y = x ∨ y = -x) : Drw m (ls.eraseIdx j) (fs ++ [y]) := by
  have p := eraseIdx_split hj
  have hx : x ∈ ls := List.mem_of_getElem? hj
  have x1 := h.lo x (List.mem_append_right _ hx)
  have ay : absI y = x := by rcases hy with e | e <;> rw [e]; exact absI_pos (by omega); rw [absI_neg]; exact absI_pos (by omega)
  have pp : ((fs ++ [y]).map absI ++ ls.eraseIdx j).Perm (fs.map absI ++ ls) := by
    rw [List.map_append, List.map_cons, List.map_nil, ay, List.append_assoc]
    exact List.Perm.append_left _ p
  refine ⟨pp.nodup_iff.mpr h.nd, fun s hs => h.lo s (pp.mem_iff.mp hs), ?_⟩
  have := p.length_eq
  have := h.len
  simp at *
  omega
theorem U6_of {s : Int} (h1 : 1 ≤ absI s) (h2 : absI s ≤ 6) : s ∈ U6 := by
  have : s = 1 ∨ s = 2 ∨ s = 3 ∨ s = 4 ∨ s = 5 ∨ s = 6 ∨ s = -1 ∨ s = -2 ∨ s = -3 ∨ s = -4 ∨ s = -5 ∨ s = -6 := by
    unfold absI at h1 h2
    split at h1 <;> split at h2 <;> omega
  rcases this with h | h | h | h | h | h | h | h | h | h | h | h <;> subst h <;> decide
/-- a row over marks 1 to m -/
structure RowM (m : Int) (r : List Int) : Prop where
  nd : (r.map absI).Nodup
  lo : ∀ s ∈ r, 1 ≤ absI s ∧ absI s ≤ m
theorem RowM.row {m : Int} {r : List Int} (h : RowM m r) (hm : m ≤ 6) : Row r := ⟨fun s hs => by
  have := h.lo s hs
  exact U6_of this.1 (by omega), h.nd⟩
theorem Drw.rowM {m : Int} {ls fs : List Int} (h : Drw m ls fs) : RowM m fs := ⟨(List.nodup_append.mp h.nd).1, fun s hs => h.lo _ (List.mem_append_left _ (List.mem_map.mpr ⟨s, hs, rfl⟩))⟩
theorem drw0 {m : Nat} : Drw m ((List.range m).map fun (i : Nat) => ((i : Int) + 1)) [] := by
  refine ⟨?_, fun s hs => ?_, by simp⟩
  · simp only [List.map_nil, List.nil_append]
    rw [List.Nodup, List.pairwise_map]
    exact List.nodup_range.imp fun h e => h (by omega)
  · simp only [List.map_nil, List.nil_append, List.mem_map, List.mem_range] at hs
    obtain ⟨i, hi, rfl⟩ := hs
    omega
theorem law_row_is (n : Int) {m k : Int} (hm : 1 ≤ m) (hm6 : m ≤ 6) (hk : 1 ≤ k) (hk6 : k ≤ 6) : ∃ r, RowM m r ∧ m__law_row [.int n, .int m, .int k] = .ok (eL r) := by
  have w : WP (g__law_row (start0 9 [.int n, .int m, .int k])) (fun _ => ∃ r, RowM m r ∧ D.non = eL r) (fun d => ∃ r, RowM m r ∧ d = eL r) := by
    unfold g__law_row
    refine wp_seq ?_
    unfold sPar2
    have c : eComp [8] (.nm 8) (iRg dRng1 (aCons (eVar 1) aNil)) tTrue (e2 dAdd (eVar 8) (eC (.int 1))) (hid (start0 9 [.int n, .int m, .int k])) = .ok (eL ((List.range m.toNat).map fun (i : Nat) => ((i : Int) + 1))) := by
      unfold eL
      rw [List.map_map]
      refine comp_is (ds := rngD 0 m.toNat) ?_ ?_ (by simp; omega)
      · have : rgOk m = true := by unfold rgOk; rw [decide_eq_true (by omega), decide_eq_true (by omega)]; rfl
        simp [dRng1, this]
      · rw [rngD_len]
        exact compD_all fun i _ => by simp [dAdd_ii]
    simp only [c, s_step1, s_eLst, s_aNil, s_bind1, List.length_nil, sz_of (Nat.zero_le _), if_true]
    show WP (sSeq _ _ [.fz (.int n), .fz (.int m), .fz (.int k), .ow (eL ((List.range m.toNat).map fun (i : Nat) => ((i : Int) + 1))), .ow (eL []), .no, .no, .no, .no]) _ _
    have hmn : (if m < k then m else k) + 1 ≠ 0 := by split <;> omega
    have hp : 0 < (if m < k then m else k) + 1 := by split <;> omega
    generalize ht : n.fmod ((if m < k then m else k) + 1) = tt
    have t0 : 0 ≤ tt := by rw [← ht]; exact fm0 hp
    have t1 : tt ≤ m := by have := fm1 (a := n) hp; rw [ht] at this; split at this <;> omega
    refine wp_seq (wp_for (xs := List.range tt.toNat) (en := fun (i : Nat) => D.int ((0 : Int) + i))
      (I := fun ys ρ => ∃ ls fs a b c, Drw m ls fs ∧ ys.length ≤ ls.length ∧ fs.length ≤ 6 ∧ (∀ i ∈ ys, i ≤ 6) ∧ ρ = [.fz (.int n), .fz (.int m), .fz (.int k), .ow (eL ls), .ow (eL fs), a, b, c, .no]) ?_ ?_ ?_ ?_)
    · have : rgOk tt = true := by unfold rgOk; rw [decide_eq_true (by omega), decide_eq_true (by omega)]; rfl
      simp only [s_iRg, s_aCons, s_aNil, s_e2, s_eB, s_eVar, s_eC, s_hid1, s_h1, List.getElem?_cons_succ, List.getElem?_cons_zero, s_bind1, s_map, dMin, s_nox1, dAdd_ii, dMod_ii hmn, ht, dRng1, this, if_true]
      rfl
    · exact ⟨_, _, _, _, _, (show Drw m _ _ from by have := drw0 (m := m.toNat); rwa [Int.toNat_of_nonneg (by omega)] at this), by simp; omega, by simp, fun i hi => by have := List.mem_range.mp hi; omega, rfl⟩
    · rintro i ys ρ _ ⟨ls, fs, a, b, c, hd, hy, hf6, hi6, rfl⟩
      simp only [List.length_cons] at hy
      have hi : i ≤ 6 := hi6 i (by simp)
      simp only [s_body, s_bindNm, s_setsC1, s_setsC0]
      refine wp_seq (wp_set (d := .int ((n.fdiv 7).fdiv (11 + 2 * (0 + (i : Int))))) ?_ ?_)
      · have h1 : (11 + 2 * (0 + (i : Int))) ≠ 0 := by omega
        have h2 : (11 + 2 * (0 + (i : Int))).natAbs < 1073741824 := by omega
        simp only [s_e2, s_eVar, s_eC, List.set_cons_succ, List.set_cons_zero, s_hid1, s_h1, List.getElem?_cons_succ, List.getElem?_cons_zero, s_bind1, dFdiv_ii (j := 7) (by decide) (by decide), s_nox1, dMul_l (i := 2) (by decide) (by decide), dAdd_ii, dFdiv_ii h1 h2]
      generalize (n.fdiv 7).fdiv (11 + 2 * (0 + (i : Int))) = far
      show WP (sSeq _ _ [.fz (.int n), .fz (.int m), .fz (.int k), .ow (eL ls), .ow (eL fs), .fz (.int (0 + (i : Int))), .fz (.int far), c, .no]) _ _
      have hl0 : (0 : Int) < ls.length := by omega
      have f0 := fm0 (a := far) hl0
      have f1 := fm1 (a := far) hl0
      generalize hq : far.fmod ls.length = q at f0 f1
      have hlt : q.toNat < ls.length := by omega
      obtain ⟨x, hx⟩ : ∃ x, ls[q.toNat]? = some x := ⟨_, List.getElem?_eq_getElem hlt⟩
      have hll : (ls.length : Int) ≤ m := by have := hd.len; omega
      refine wp_seq ?_
      unfold sPopAt
      have o1 : owL [.fz (.int n), .fz (.int m), .fz (.int k), .ow (eL ls), .ow (eL fs), .fz (.int (0 + (i : Int))), .fz (.int far), c, .no] 3 = some (ls.map D.int) := rfl
      have o2 : e2 dMod (eVar 6) (eB dLen (aCons (eVar 3) aNil)) (frz [.fz (.int n), .fz (.int m), .fz (.int k), .ow (eL ls), .ow (eL fs), .fz (.int (0 + (i : Int))), .fz (.int far), c, .no]) = .ok (.int q) := by
        have : dLen [eL ls] = .ok (.int ls.length) := by simp [eL, dLen]
        simp only [s_e2, s_eB, s_aCons, s_aNil, s_eVar, s_frz1, s_f1, s_f2, List.getElem?_cons_succ, List.getElem?_cons_zero, s_bind1, s_map, this, s_nox1, dMod_ii (show (ls.length : Int) ≠ 0 by omega), hq]
      have o3 : (decide (-(2 ^ 63) ≤ q) && decide (q < 2 ^ 63)) = true := by
        rw [decide_eq_true (by omega), decide_eq_true (by omega)]; rfl
      simp only [o1, o2, s_step1, o3, if_true, List.length_map, seqIdx f0 f1, List.getElem?_map, hx, Option.map_some, s_bindNm]
      show WP (sApp 4 _ [.fz (.int n), .fz (.int m), .fz (.int k), .ow (.lst ((ls.map D.int).eraseIdx q.toNat)), .ow (eL fs), .fz (.int (0 + (i : Int))), .fz (.int far), .fz (.int x), .no]) _ _
      rw [erase_map]
      unfold sApp
      have a1 : owL [.fz (.int n), .fz (.int m), .fz (.int k), .ow (.lst ((ls.eraseIdx q.toNat).map D.int)), .ow (eL fs), .fz (.int (0 + (i : Int))), .fz (.int far), .fz (.int x), .no] 4 = some (fs.map D.int) := rfl
      obtain ⟨y, hy2, a2⟩ : ∃ y, (y = x ∨ y = -x) ∧ eIf (tV (e2 dEq (e2 dMod (e2 dFdiv (eVar 6) (eC (.int 6))) (eC (.int 2))) (eC (.int 0)))) (eVar 7) (e1 dNeg (eVar 7)) (hid [.fz (.int n), .fz (.int m), .fz (.int k), .ow (.lst ((ls.eraseIdx q.toNat).map D.int)), .ow (eL fs), .fz (.int (0 + (i : Int))), .fz (.int far), .fz (.int x), .no]) = .ok (.int y) := by
        simp only [s_eIf, s_tV, s_e2, s_e1, s_eC, s_eVar, s_hid1, s_h1, s_h2, List.getElem?_cons_succ, List.getElem?_cons_zero, s_bind1, dFdiv_ii (j := 6) (by decide) (by decide), s_nox1, dMod_ii (j := 2) (by decide), dEq_int, s_asB, s_neg]
        by_cases h : (far.fdiv 6).fmod 2 = 0
        · exact ⟨x, .inl rfl, by simp [h]⟩
        · exact ⟨-x, .inr rfl, by simp [h]⟩
      have a3 : decide ((fs.map D.int).length < sizeLine) = true := decide_eq_true (by simp; unfold sizeLine; omega)
      simp only [a1, a2, s_step1, a3, if_true]
      have hd' := hd.pop hx hy2
      refine ⟨ls.eraseIdx q.toNat, fs ++ [y], .fz (.int (0 + (i : Int))), .fz (.int far), .fz (.int x), hd', ?_, ?_, fun i hi => hi6 i (List.mem_cons_of_mem _ hi), ?_⟩
      · have := (eraseIdx_split hx).length_eq; simp at this; omega
      · have := hd'.len; simp at this ⊢; omega
      · simp [eL]
    · rintro ρ ⟨ls, fs, a, b, c, hd, _, _, _, rfl⟩
      exact wp_ret (d := eL fs) rfl ⟨fs, hd.rowM, rfl⟩
  obtain ⟨d, e, r, hr, rfl⟩ := wp_run (n := 9) (g := g__law_row) (ds := [.int n, .int m, .int k]) (Q := fun d => ∃ r, RowM m r ∧ d = eL r) w
  exact ⟨r, hr, e⟩
end Tw

/-! P12: the script's formula. -/
namespace Tw
open PySem L2
theorem scr_shp {ns : List Int} : shp (.scr ns) = true := by
  have e : (D.scr ns).toP = (eL ns).toP := by
    unfold eL D.toP
    rw [toPs_map, List.map_map]
    rfl
  unfold shp
  rw [e]
  exact nc_shp (n := 1) (nc_eL 0 ns) (by decide)
theorem scr_ne {ns : List Int} : dNe (.scr ns) (.lst []) = .ok (.bl (!ns.isEmpty)) := by
  have e : (D.scr ns).toP = (eL ns).toP := by
    unfold eL D.toP
    rw [toPs_map, List.map_map]
    rfl
  have h := dNe_nil (r := ns)
  unfold dNe at h ⊢
  unfold shp at h ⊢
  rw [e]
  exact h
theorem scr_cut {ns : List Int} {k : Nat} (h : ns.length ≤ k) : dSl (.scr ns) none (some (k : Int)) = .ok (eL ns) := by
  show R.ok (D.lst ((cutD ns none (some (k : Int))).map D.int)) = _
  unfold cutD
  rw [HT.sIx_none, HT.sIx_nat, Nat.min_eq_right h]
  simp [eL]
theorem lst_cut {α : Type} {f : α → D} {xs : List α} {k : Nat} : dSl (.lst (xs.map f)) none (some (k : Int)) = .ok (.lst ((xs.take k).map f)) := by
  show R.ok (D.lst (cutD (xs.map f) none (some (k : Int)))) = _
  rw [cut_map]
  unfold cutD
  rw [HT.sIx_none, HT.sIx_nat]
  simp [List.take_eq_take_min]
theorem dSum_is {cs : List Int} : ∃ s : Int, dSum [eL cs] = .ok (.int s) := by
  unfold dSum eL
  simp only [asInts_ints]
  exact ⟨_, rfl⟩
theorem get_ints {cs : List Int} {i : Int} (h0 : 0 ≤ i) (h1 : i < cs.length) : ∃ x : Int, dGet (eL cs) (.int i) = .ok (.int x) := by
  obtain ⟨k, rfl⟩ : ∃ k : Nat, i = k := ⟨i.toNat, by omega⟩
  have hk : k < cs.length := by omega
  refine ⟨cs[k], ?_⟩
  show R.of (atI (cs.map D.int) (k : Int)) = _
  rw [atI_nat (by simpa using hk), List.getElem?_map, List.getElem?_eq_getElem hk]
  rfl
theorem RowM.one {m x : Int} (h1 : 1 ≤ x) (h2 : x ≤ m) : RowM m [x] := ⟨by simp, fun s hs => by rw [List.mem_singleton.mp hs, absI_pos (by omega)]; exact ⟨h1, h2⟩⟩
structure Fm (m : Int) (rs : List (List Int)) : Prop where
  m1 : 2 ≤ m
  m6 : m ≤ 6
  row : ∀ r ∈ rs, RowM m r
  len : rs.length ≤ 16
theorem law_rows_is (ns : List Int) (hns : ns.length ≤ 63) (b : Int) : ∃ (m : Int) (rs : List (List Int)), Fm m rs ∧ m__law_rows [.scr ns, .int b] = .ok (.tup [.lst (rs.map eL), .int m]) := by
  have w : WP (g__law_rows (start0 10 [.scr ns, .int b])) (fun _ => ∃ (m : Int) (rs : List (List Int)), Fm m rs ∧ D.non = .tup [.lst (rs.map eL), .int m]) (fun d => ∃ (m : Int) (rs : List (List Int)), Fm m rs ∧ d = .tup [.lst (rs.map eL), .int m]) := by
    unfold g__law_rows
    obtain ⟨cs, hc0, hc⟩ : ∃ cs : List Int, cs ≠ [] ∧ eIf (tV (e2 dNe (eVar 0) (eLst aNil))) (eSl (eVar 0) oNone (oSome (eC (.int 63)))) (eLst (aCons (eC (.int 5)) aNil)) (hid (start0 10 [.scr ns, .int b])) = .ok (eL cs) := by
      have e63 : dSl (.scr ns) none (some 63) = .ok (eL ns) := scr_cut (k := 63) hns
      cases ns with
      | nil => exact ⟨[5], by simp, by simp [sz_of, scr_ne, eL]⟩
      | cons a l => exact ⟨a :: l, by simp, by simp [sz_of, scr_ne, eSl, oNone, oSome, asI, e63]⟩
    refine wp_seq (wp_set (d := eL cs) hc ?_)
    obtain ⟨s, hs⟩ := dSum_is (cs := cs)
    have hlen : dLen [eL cs] = .ok (.int cs.length) := by simp [eL, dLen]
    have hl0 : (0 : Int) < cs.length := by have := List.length_pos_iff.mpr hc0; omega
    show WP (sSeq _ _ [.fz (.scr ns), .fz (.int b), .fz (eL cs), .no, .no, .no, .no, .no, .no, .no]) _ _
    refine wp_seq (wp_set (d := .int (s + 31 * b)) ?_ ?_)
    · simp [hs, dMul_l (i := 31), dAdd_ii]
    generalize s + 31 * b = wh
    show WP (sSeq _ _ [.fz (.scr ns), .fz (.int b), .fz (eL cs), .fz (.int wh), .no, .no, .no, .no, .no, .no]) _ _
    have gt : ∀ i : Int, ∃ x : Int, dGet (eL cs) (.int (i.fmod cs.length)) = .ok (.int x) := fun i => get_ints (fm0 hl0) (fm1 hl0)
    obtain ⟨x, hx⟩ := gt b
    refine wp_seq (wp_set (d := .int (lnum x b wh)) ?_ ?_)
    · simp [hlen, dMod_ii (show (cs.length : Int) ≠ 0 by omega), hx, number_is]
    generalize lnum x b wh = ld
    show WP (sSeq _ _ [.fz (.scr ns), .fz (.int b), .fz (eL cs), .fz (.int wh), .fz (.int ld), .no, .no, .no, .no, .no]) _ _
    have m0 := fm0 (a := ld) (b := 5) (by decide)
    have m1 := fm1 (a := ld) (b := 5) (by decide)
    generalize hm : 2 + ld.fmod 5 = m
    have hm2 : 2 ≤ m := by omega
    have hm6 : m ≤ 6 := by omega
    refine wp_seq ?_
    unfold sPar2
    have p1 : e2 dAdd (eC (.int 2)) (e2 dMod (eVar 4) (eC (.int 5))) (hid [.fz (.scr ns), .fz (.int b), .fz (eL cs), .fz (.int wh), .fz (.int ld), .no, .no, .no, .no, .no]) = .ok (.int m) := by
      simp [dMod_ii, dAdd_ii, hm]
    simp only [p1, s_step1, s_eLst, s_aNil, s_bind1, List.length_nil, sz_of (Nat.zero_le _), if_true]
    show WP (sSeq _ _ [.fz (.scr ns), .fz (.int b), .fz (eL cs), .fz (.int wh), .fz (.int ld), .fz (.int m), .ow (.lst []), .no, .no, .no]) _ _
    have t0 := fm0 (a := ld.fdiv 5) (b := 5) (by decide)
    have t1 := fm1 (a := ld.fdiv 5) (b := 5) (by decide)
    generalize ht : 2 * m + (ld.fdiv 5).fmod 5 = tt
    refine wp_seq (wp_for (xs := List.range tt.toNat) (en := fun (i : Nat) => D.int ((0 : Int) + i))
      (I := fun ys ρ => ∃ (rs : List (List Int)) (a c d : Cl), (∀ r ∈ rs, RowM m r) ∧ rs.length + ys.length ≤ 16 ∧ ρ = [.fz (.scr ns), .fz (.int b), .fz (eL cs), .fz (.int wh), .fz (.int ld), .fz (.int m), .ow (.lst (rs.map eL)), a, c, d]) ?_ ?_ ?_ ?_)
    · have : rgOk tt = true := by unfold rgOk; rw [decide_eq_true (by omega), decide_eq_true (by omega)]; rfl
      simp only [s_iRg, s_aCons, s_aNil, s_e2, s_eVar, s_eC, s_hid1, s_h1, List.getElem?_cons_succ, List.getElem?_cons_zero, s_bind1, s_map, dMul_l (i := 2) (by decide) (by decide), s_nox1, dFdiv_ii (j := 5) (by decide) (by decide), dMod_ii (j := 5) (by decide), dAdd_ii, ht, dRng1, this, if_true]
      rfl
    · exact ⟨[], _, _, _, fun r h => absurd h (by simp), by simp; omega, rfl⟩
    · rintro i ys ρ _ ⟨rs, a, c, d, hrs, hlr, rfl⟩
      simp only [List.length_cons] at hlr
      simp only [s_body, s_bindNm, s_setsC1, s_setsC0]
      generalize (0 : Int) + (i : Int) = ii_
      obtain ⟨y, hy⟩ := gt (ii_ + b)
      refine wp_seq (wp_set (d := .int (lnum (y + ii_) (ii_ + 7 * b) wh)) ?_ ?_)
      · simp [hlen, dMod_ii (show (cs.length : Int) ≠ 0 by omega), hy, number_is, dAdd_ii, dMul_l (i := 7)]
      generalize lnum (y + ii_) (ii_ + 7 * b) wh = nn
      show WP (sSeq _ _ [.fz (.scr ns), .fz (.int b), .fz (eL cs), .fz (.int wh), .fz (.int ld), .fz (.int m), .ow (.lst (rs.map eL)), .fz (.int ii_), .fz (.int nn), d]) _ _
      obtain ⟨k, hk1, hk6, hk⟩ : ∃ k : Int, 1 ≤ k ∧ k ≤ 6 ∧ eIf (tV (e2 dLt (e2 dMod (e2 dFdiv (eVar 8) (eC (.int 3))) (eC (.int 4))) (eC (.int 3)))) (eC (.int 2)) (eC (.int 3)) (hid [.fz (.scr ns), .fz (.int b), .fz (eL cs), .fz (.int wh), .fz (.int ld), .fz (.int m), .ow (.lst (rs.map eL)), .fz (.int ii_), .fz (.int nn), d]) = .ok (.int k) := by
        simp only [s_eIf, s_tV, s_e2, s_eC, s_eVar, s_hid1, s_h1, List.getElem?_cons_succ, List.getElem?_cons_zero, s_bind1, dFdiv_ii (j := 3) (by decide) (by decide), s_nox1, dMod_ii (j := 4) (by decide), dLt_ii, s_asB]
        by_cases h : (nn.fdiv 3).fmod 4 < 3
        · exact ⟨2, by decide, by decide, by simp [h]⟩
        · exact ⟨3, by decide, by decide, by simp [h]⟩
      obtain ⟨r, hr, er⟩ := law_row_is nn (m := m) (k := k) (by omega) hm6 hk1 hk6
      refine wp_seq (wp_set (d := eL r) ?_ ?_)
      · simp only [s_eCall, s_aCons, s_aNil, hk, s_bind1, s_map]
        simp only [s_eVar, s_hid1, s_h1, List.getElem?_cons_succ, List.getElem?_cons_zero, s_bind1, s_map, er]
      show WP (sApp 6 _ [.fz (.scr ns), .fz (.int b), .fz (eL cs), .fz (.int wh), .fz (.int ld), .fz (.int m), .ow (.lst (rs.map eL)), .fz (.int ii_), .fz (.int nn), .fz (eL r)]) _ _
      unfold sApp
      have a1 : owL [.fz (.scr ns), .fz (.int b), .fz (eL cs), .fz (.int wh), .fz (.int ld), .fz (.int m), .ow (.lst (rs.map eL)), .fz (.int ii_), .fz (.int nn), .fz (eL r)] 6 = some (rs.map eL) := rfl
      obtain ⟨r2, hr2, a2⟩ : ∃ r2, RowM m r2 ∧ eIf (tOr' (tV (e2 dNe (eVar 9) (eLst aNil))) (tV (e2 dEq (e2 dMod (eVar 8) (eC (.int 5))) (eC (.int 0))))) (eVar 9) (eLst (aCons (e2 dAdd (eC (.int 1)) (e2 dMod (e2 dFdiv (eVar 8) (eC (.int 9))) (eVar 5))) aNil)) (hid [.fz (.scr ns), .fz (.int b), .fz (eL cs), .fz (.int wh), .fz (.int ld), .fz (.int m), .ow (.lst (rs.map eL)), .fz (.int ii_), .fz (.int nn), .fz (eL r)]) = .ok (eL r2) := by
        have u0 := fm0 (a := nn.fdiv 9) (b := m) (by omega)
        have u1 := fm1 (a := nn.fdiv 9) (b := m) (by omega)
        simp only [s_eIf, s_tOr, s_tV, s_e2, s_eC, s_eLst, s_aCons, s_aNil, s_eVar, s_hid1, s_h1, s_h2, List.getElem?_cons_succ, List.getElem?_cons_zero, s_bind1, s_map, List.length_nil, List.length_cons, sz_of (show 0 ≤ 10000 by decide), sz_of (show 0 + 1 ≤ 10000 by decide), if_true, dNe_nil, dFdiv_ii (j := 9) (by decide) (by decide), s_nox1, dMod_ii (j := 5) (by decide), dMod_ii (show m ≠ 0 by omega), dAdd_ii, dEq_int, s_asB]
        by_cases h1 : r.isEmpty = true
        · by_cases h2 : nn.fmod 5 = 0
          · exact ⟨r, hr, by simp [h1, h2]⟩
          · exact ⟨[1 + (nn.fdiv 9).fmod m], RowM.one (by omega) (by omega), by simp [h1, h2, eL]⟩
        · exact ⟨r, hr, by simp [h1]⟩
      have a3 : decide ((rs.map eL).length < sizeLine) = true := decide_eq_true (by simp; unfold sizeLine; omega)
      simp only [a1, a2, s_step1, a3, if_true]
      refine ⟨rs ++ [r2], .fz (.int ii_), .fz (.int nn), .fz (eL r), fun q hq => ?_, by simp; omega, by simp⟩
      rcases List.mem_append.mp hq with hq | hq
      · exact hrs q hq
      · rw [List.mem_singleton.mp hq]; exact hr2
    · rintro ρ ⟨rs, a, c, d, hrs, hlr, rfl⟩
      have e16 : dSl (.lst (rs.map eL)) none (some 16) = .ok (.lst ((rs.take 16).map eL)) := lst_cut (k := 16)
      refine wp_ret (d := .tup [.lst ((rs.take 16).map eL), .int m]) ?_ ⟨m, rs.take 16, ⟨hm2, hm6, fun r h => hrs r (List.mem_of_mem_take h), by simp; omega⟩, rfl⟩
      simp [eSl, oNone, oSome, asI, e16, sz_of]
  obtain ⟨d, e, m, rs, hf, rfl⟩ := wp_run (n := 10) (g := g__law_rows) (ds := [.scr ns, .int b]) (Q := fun d => ∃ (m : Int) (rs : List (List Int)), Fm m rs ∧ d = .tup [.lst (rs.map eL), .int m]) w
  exact ⟨m, rs, hf, e⟩
end Tw

/-! P13: the tree of marks tried. -/
namespace Tw
open PySem L2
/-! ### shapes with truths -/
def okd (n : Nat) (d : D) : Prop := d.toP.canLay0 = true ∧ d.toP.depth ≤ n
theorem okd_all {n : Nat} : ∀ {ds : List D}, (∀ d ∈ ds, okd n d) → PyData.canLayAll0 (toPs ds) = true ∧ PyData.depthAll (toPs ds) ≤ n
  | [], _ => by unfold toPs; exact ⟨by simp [PyData.canLayAll0], by simp [PyData.depthAll]⟩
  | d :: ds, h => by
    obtain ⟨a, b⟩ := h d (by simp)
    obtain ⟨a2, b2⟩ := okd_all (ds := ds) fun e he => h e (List.mem_cons_of_mem _ he)
    unfold toPs
    exact ⟨by simp [PyData.canLayAll0, a, a2], by simp only [PyData.depthAll]; omega⟩
theorem okd_lst {n : Nat} {ds : List D} (h : ∀ d ∈ ds, okd n d) : okd (n + 1) (.lst ds) := by
  obtain ⟨a, b⟩ := okd_all h
  unfold okd D.toP
  exact ⟨by simp [PyData.canLay0, a], by simp only [PyData.depth]; omega⟩
theorem okd_tup {n : Nat} {ds : List D} (h : ∀ d ∈ ds, okd n d) : okd (n + 1) (.tup ds) := by
  obtain ⟨a, b⟩ := okd_all h
  unfold okd D.toP
  exact ⟨by simp [PyData.canLay0, a], by simp only [PyData.depth]; omega⟩
theorem okd_bl {n : Nat} {b : Bool} : okd n (.bl b) := by unfold okd D.toP; exact ⟨by simp [PyData.canLay0], by simp [PyData.depth]⟩
theorem okd_nc {n : Nat} {d : D} (h : nc n d = true) : okd n d := nc_lay n d h
theorem okd_shp {n : Nat} {d : D} (h : okd n d) (hn : n ≤ 64) : shp d = true := by
  obtain ⟨a, b⟩ := h
  unfold shp SeqAt.shaped
  simp [a]; omega
theorem dNe_empty {n : Nat} {ds : List D} (h : okd n (.lst ds)) (hn : n ≤ 64) : dNe (.lst ds) (.lst []) = .ok (.bl (!ds.isEmpty)) := by
  unfold dNe
  rw [okd_shp h hn, nc_shp (n := 1) (show nc 1 (.lst []) = true from rfl) (by decide)]
  cases ds with
  | nil => simp [D.toP, toPs, PyData.eqv, PyData.eqvAll]
  | cons d ds => simp [D.toP, toPs, PyData.eqv, PyData.eqvAll]
/-! ### the tree -/
def eW (p : List Int × Bool) : D := .tup [eL p.1, .bl p.2]
theorem okd_eW {p : List Int × Bool} : okd 2 (eW p) := okd_tup fun d hd => by
  rcases List.mem_cons.mp hd with e | hd
  · rw [e]; exact okd_nc (nc_eL 0 _)
  · rw [List.mem_singleton.mp hd]; exact okd_bl
def wt : Nat → Nat
  | 0 => 1
  | k + 1 => 2 * wt k + 2
def wI (m : Nat) (p : List Int × Bool) : Nat := if p.2 = true then 1 else wt (m - p.1.length)
def wL (m : Nat) (ws : List (List Int × Bool)) : Nat := (ws.map (wI m)).sum
theorem wL_app {m : Nat} {a b : List (List Int × Bool)} : wL m (a ++ b) = wL m a + wL m b := by unfold wL; simp
theorem wt_pos (k : Nat) : 1 ≤ wt k := by cases k <;> simp [wt]
def eR (r : List Int) : D := .tup [.str "row", eL r]
theorem RowM.len {m : Int} {r : List Int} (h : RowM m r) (hm : 0 ≤ m) : r.length ≤ m.toNat := by
  have h1 : (r.map absI).length ≤ ((List.range m.toNat).map fun (i : Nat) => ((i : Int) + 1)).length := nodup_le h.nd fun s hs => by
    obtain ⟨x, hx, rfl⟩ := List.mem_map.mp hs
    have := h.lo x hx
    exact List.mem_map.mpr ⟨(absI x).toNat - 1, List.mem_range.mpr (by omega), by omega⟩
  simpa using h1
theorem RowM.full {m : Int} {r : List Int} (h : RowM m r) (hm : 0 ≤ m) (hl : r.length = m.toNat) {t : Int} (h1 : 1 ≤ t) (h2 : t ≤ m) : t ∈ r ∨ -t ∈ r := by
  by_cases ht : t ∈ r.map absI
  · obtain ⟨x, hx, e⟩ := List.mem_map.mp ht
    have : absI x = absI t := by rw [e, absI_pos (by omega)]
    rcases absI_or this with e | e
    · exact .inl (e ▸ hx)
    · exact .inr (by have : -t = x := by omega
                     exact this ▸ hx)
  · exfalso
    have h1 : (t :: r.map absI).length ≤ ((List.range m.toNat).map fun (i : Nat) => ((i : Int) + 1)).length := nodup_le (List.nodup_cons.mpr ⟨ht, h.nd⟩) fun s hs => by
      rcases List.mem_cons.mp hs with e | hs
      · exact List.mem_map.mpr ⟨s.toNat - 1, List.mem_range.mpr (by omega), by omega⟩
      · obtain ⟨x, hx, rfl⟩ := List.mem_map.mp hs
        have := h.lo x hx
        exact List.mem_map.mpr ⟨(absI x).toNat - 1, List.mem_range.mpr (by omega), by omega⟩
    simp at h1
    omega
theorem RowM.add {m : Int} {r : List Int} (h : RowM m r) {s t : Int} (hs : s = t ∨ s = -t) (h1 : 1 ≤ t) (h2 : t ≤ m) (n1 : t ∉ r) (n2 : -t ∉ r) : RowM m (r ++ [s]) := by
  have as : absI s = t := by rcases hs with e | e <;> rw [e]; exact absI_pos (by omega); rw [absI_neg]; exact absI_pos (by omega)
  refine ⟨?_, fun x hx => ?_⟩
  · rw [List.map_append, List.nodup_append]
    refine ⟨h.nd, by simp, fun a ha b hb => ?_⟩
    have hb : b = t := by simpa [as] using hb
    subst hb
    intro e
    subst e
    obtain ⟨x, hx, e⟩ := List.mem_map.mp ha
    have : absI x = absI a := by rw [e, absI_pos (by omega)]
    rcases absI_or this with e | e
    · exact n1 (e ▸ hx)
    · exact n2 (e ▸ hx)
  · rcases List.mem_append.mp hx with hx | hx
    · exact h.lo x hx
    · rw [List.mem_singleton.mp hx, as]; exact ⟨h1, h2⟩
theorem RowM.negr {m : Int} {r : List Int} (h : RowM m r) : RowM m (neg r).reverse := by
  have e : (neg r).map absI = r.map absI := by unfold neg; rw [List.map_map]; exact List.map_congr_left fun x _ => absI_neg
  refine ⟨?_, fun s hs => ?_⟩
  · rw [List.map_reverse, e]; exact nodup_rev h.nd
  · obtain ⟨x, hx, rfl⟩ := List.mem_map.mp (List.mem_reverse.mp hs)
    rw [absI_neg]; exact h.lo x hx
theorem RowM.inU {m : Int} {r : List Int} (h : RowM m r) (hm : m ≤ 6) : In U6 r := ⟨(h.row hm).nodup, (h.row hm).sub⟩
theorem force_sub {t : Th} {L M : List Int} (h : GTh t) (hi : In U6 L) (e : force t L = (M, none)) : ∀ s ∈ L, s ∈ M := by
  have f := forc_is h hi
  rw [e] at f
  exact (forc_end h.inU 900 L M hi f).2.1
theorem enum_lrows (n : Nat) : ∀ rs : List (List Int), enumD n (rs.map eL) = (enTh n rs).map (ePE eL)
  | [] => rfl
  | r :: rs => by
    simp only [List.map_cons, enumD, enTh, enum_lrows (n + 1) rs]
    rfl
theorem wL_snoc {m : Nat} {ws : List (List Int × Bool)} {p : List Int × Bool} : wL m (ws ++ [p]) = wL m ws + wI m p := by rw [wL_app]; unfold wL; simp
end Tw

/-! PT: the tree's road is right, and short. -/
namespace Tw
open PySem L2
def rowL (L : List Int) : List Int := (neg L).reverse
theorem mem_rowL {L : List Int} {x : Int} : x ∈ rowL L ↔ -x ∈ L := by
  unfold rowL neg
  rw [List.mem_reverse, List.mem_map]
  constructor
  · rintro ⟨y, hy, rfl⟩; rwa [Int.neg_neg]
  · intro h; exact ⟨-x, h, Int.neg_neg x⟩
/-! ### the stack covers what is to come -/
def Pend (ws : List (List Int × Bool)) (ss : List (List Int)) (X : List Int) : Prop := rowL X ∈ ss ∨ X ∈ ws.map (·.1)
def Cov : List (List Int × Bool) → List (List Int) → Prop
  | [], _ => True
  | p :: ws, ss => (p.2 = true → ∃ s, Pend ws ss (p.1 ++ [s]) ∧ Pend ws ss (p.1 ++ [-s])) ∧ Cov ws ss
theorem Cov.imp {f : List (List Int × Bool) → List (List Int × Bool)} {ss ss' : List (List Int)} {tl tl' : List (List Int × Bool)} (hp : ∀ ws X, Pend (ws ++ tl) ss X → Pend (ws ++ tl') ss' X) (ht : Cov tl' ss') : ∀ {ws : List (List Int × Bool)}, Cov (ws ++ tl) ss → Cov (ws ++ tl') ss'
  | [], _ => ht
  | p :: ws, h => by
    obtain ⟨h1, h2⟩ := (h : (p.2 = true → ∃ s, Pend (ws ++ tl) ss (p.1 ++ [s]) ∧ Pend (ws ++ tl) ss (p.1 ++ [-s])) ∧ Cov (ws ++ tl) ss)
    exact ⟨fun e => let ⟨s, a, b⟩ := h1 e; ⟨s, hp ws _ a, hp ws _ b⟩, Cov.imp (f := f) hp ht h2⟩
theorem Cov.last {ss : List (List Int)} {p : List Int × Bool} : ∀ {ws : List (List Int × Bool)}, Cov (ws ++ [p]) ss → p.2 = true → ∃ s, rowL (p.1 ++ [s]) ∈ ss ∧ rowL (p.1 ++ [-s]) ∈ ss
  | [], h, e => by
    obtain ⟨s, a, b⟩ := h.1 e
    exact ⟨s, a.resolve_right (by simp), b.resolve_right (by simp)⟩
  | q :: ws, h, e => Cov.last (ws := ws) h.2 e
theorem Cov.emit {ws : List (List Int × Bool)} {ss : List (List Int)} {L : List Int} {dn : Bool} (h : Cov (ws ++ [(L, dn)]) ss) : Cov ws (ss ++ [rowL L]) := by
  have := Cov.imp (f := id) (tl := [(L, dn)]) (tl' := []) (ss := ss) (ss' := ss ++ [rowL L]) (fun ws X hX => by
    rcases hX with h | h
    · exact .inl (List.mem_append_left _ h)
    · simp only [List.map_append, List.map_cons, List.map_nil, List.mem_append, List.mem_singleton] at h
      rcases h with h | h
      · exact .inr (by simpa using h)
      · exact .inl (by rw [h]; simp)) trivial h
  simpa using this
theorem Cov.grow {ws : List (List Int × Bool)} {ss : List (List Int)} {L : List Int} {s : Int} (h : Cov (ws ++ [(L, false)]) ss) : Cov (ws ++ [(L, true), (L ++ [-s], false), (L ++ [s], false)]) ss := by
  refine Cov.imp (f := id) (tl := [(L, false)]) (tl' := [(L, true), (L ++ [-s], false), (L ++ [s], false)]) (fun ws X hX => ?_) ?_ h
  · rcases hX with h | h
    · exact .inl h
    · simp only [List.map_append, List.map_cons, List.map_nil, List.mem_append, List.mem_singleton] at h
      refine .inr ?_
      rcases h with h | h
      · simp [h]
      · simp [h]
  · refine ⟨fun _ => ⟨s, .inr (by simp), .inr (by simp)⟩, fun e => (by cases e), fun e => (by cases e), trivial⟩
/-! ### counts -/
def cnt : Nat → Nat
  | 0 => 1
  | 1 => 1
  | k + 2 => 2 * cnt (k + 1) + 1
def cI (m : Nat) (p : List Int × Bool) : Nat := if p.2 = true then 1 else cnt (m - p.1.length)
def cL (m : Nat) (ws : List (List Int × Bool)) : Nat := (ws.map (cI m)).sum
theorem cL_app {m : Nat} {a b : List (List Int × Bool)} : cL m (a ++ b) = cL m a + cL m b := by unfold cL; simp
theorem cnt_pos (k : Nat) : 1 ≤ cnt k := by
  match k with
  | 0 => decide
  | 1 => decide
  | k + 2 => simp [cnt]
theorem cI_pos {m : Nat} {p : List Int × Bool} : 1 ≤ cI m p := by unfold cI; split; exact Nat.le_refl _; exact cnt_pos _
/-! ### what follows at a row of the tree -/
theorem RightR.snoc {A : List (List Int)} {q : List Int} : ∀ {qs : List (List Int)} {A : List (List Int)}, RightR A qs → (∃ t : Th, t.map (·.2) = A ++ qs ∧ foll t q = true) → RightR A (qs ++ [q])
  | [], A, _, h => ⟨by simpa using h, trivial⟩
  | x :: qs, A, h, h' => ⟨h.1, RightR.snoc (A := []) h.2 (by simpa using h')⟩
theorem numbered (A : List (List Int)) : ∃ t : Th, t.map (·.2) = A ∧ t.length = A.length := ⟨enTh 0 A, enTh_rows, enTh_len⟩
theorem rth_of {t : Th} {A : List (List Int)} (e : t.map (·.2) = A) (h : ∀ r ∈ A, Row r) : RTh t := ⟨fun p hp => h _ (by rw [← e]; exact List.mem_map.mpr ⟨p, hp, rfl⟩)⟩
/-- two rows that differ in one sign: the row without it -/
theorem foll_two {A : List (List Int)} (hA : ∀ r ∈ A, Row r) (hl : A.length ≤ 400) {L : List Int} (hL : Row (rowL L)) {s : Int} {r1 r2 : List Int} (h1 : r1 ∈ A) (h2 : r2 ∈ A) (p1 : r1.Perm (rowL (L ++ [s]))) (p2 : r2.Perm (rowL (L ++ [-s]))) {q : List Int} (hq : Row q) (pq : q.Perm (rowL L)) :
    ∃ t : Th, t.map (·.2) = A ∧ foll t q = true := by
  obtain ⟨t, et, el⟩ := numbered A
  have ht := rth_of et hA
  refine ⟨t, et, ?_⟩
  cases hf : foll t q with
  | true => rfl
  | false =>
    exfalso
    obtain ⟨M, c, sb⟩ := (foll_false (ht.good (by omega)) hq).mp hf
    rw [et] at c
    have hin : ∀ x ∈ L, x ∈ M := fun x hx => by
      have : -x ∈ q := pq.mem_iff.mpr (mem_rowL.mpr (by rwa [Int.neg_neg]))
      have := sb (- -x) (List.mem_map.mpr ⟨-x, this, rfl⟩)
      rwa [Int.neg_neg] at this
    have key : ∀ (y : Int) (r : List Int), r ∈ A → r.Perm (rowL (L ++ [y])) → y ∉ M ∧ -y ∈ M ∨ False := fun y r hr pr => by
      obtain ⟨c1, c2⟩ := c r hr
      have all : ∀ x ∈ left M r, x = -y := fun x hx => by
        obtain ⟨a, b⟩ := mem_left.mp hx
        have := mem_rowL.mp (pr.mem_iff.mp a)
        rcases List.mem_append.mp this with h | h
        · exact absurd (hin _ h) b
        · have := List.mem_singleton.mp h; omega
      have nd : (left M r).Nodup := (hA r hr).nodup.filter _
      cases e : left M r with
      | nil => exact absurd e c1
      | cons a as =>
        rw [e] at all nd
        have ea := all a (by simp)
        have : as = [] := by
          cases as with
          | nil => rfl
          | cons b bs =>
            have eb := all b (by simp)
            rw [ea, eb] at nd
            simp at nd
        subst this
        have h := c2 a e
        have hm : a ∈ left M r := by rw [e]; simp
        have := (mem_left.mp hm).2
        rw [ea] at h this
        rw [Int.neg_neg] at this
        exact .inl ⟨this, h⟩
    rcases key s r1 h1 p1 with ⟨a, b⟩ | h
    · rcases key (-s) r2 h2 p2 with ⟨a', b'⟩ | h
      · exact a' b
      · exact h
    · exact h
theorem RowM.rowL {m : Int} {L : List Int} (h : RowM m L) : RowM m (rowL L) := h.negr
theorem neg_rowL {L : List Int} : (neg (rowL L)).Perm L := by
  have : neg (rowL L) = L.reverse := by
    unfold rowL neg
    rw [List.map_reverse, List.map_map]
    have : ((fun x : Int => -x) ∘ fun x => -x) = id := by funext x; simp
    rw [this, List.map_id]
  rw [this]
  exact List.reverse_perm L
/-- a row whose opposites clash -/
theorem foll_clash {rs : List (List Int)} {m : Int} (hm : m ≤ 6) (hr : ∀ r ∈ rs, RowM m r) (hl : rs.length ≤ 16) {more : List (List Int)} (hmore : ∀ r ∈ more, Row r) (hml : more.length ≤ 300) {L : List Int} (hL : RowM m L) (hf : (force (enTh 0 rs) L).2.isSome = true) {q : List Int} (hq : Row q) (pq : q.Perm (rowL L)) :
    ∃ t : Th, t.map (·.2) = rs.map told ++ more ∧ foll t q = true := by
  have hrow : ∀ r ∈ rs, Row r := fun r h => (hr r h).row hm
  have hA : ∀ r ∈ rs.map told ++ more, Row r := fun r h => by
    rcases List.mem_append.mp h with h | h
    · obtain ⟨x, hx, rfl⟩ := List.mem_map.mp h
      exact (hrow x hx).told
    · exact hmore r h
  obtain ⟨t, et, el⟩ := numbered (rs.map told ++ more)
  have ht := rth_of et hA
  refine ⟨t, et, ?_⟩
  cases h : foll t q with
  | true => rfl
  | false =>
    exfalso
    obtain ⟨M, c, sb⟩ := (foll_false (ht.good (by rw [el]; simp; omega)) hq).mp h
    rw [et] at c
    have g : GTh (enTh 0 rs) := (enTh_row hrow).good (by rw [enTh_len]; omega)
    have : (force (enTh 0 rs) L).2 = none := (force_none_iff g (hL.inU hm)).mpr ⟨M, by
      rw [enTh_rows]
      exact (Rows.tld.trans (Rows.sub fun r hr => List.mem_append_left _ hr)).closed c, fun x hx => by
      have : -x ∈ q := pq.mem_iff.mpr (mem_rowL.mpr (by rwa [Int.neg_neg]))
      have := sb (- -x) (List.mem_map.mpr ⟨-x, this, rfl⟩)
      rwa [Int.neg_neg] at this⟩
    rw [this] at hf; cases hf
/-! ### one mark left: both its signs hold -/
theorem closed_more {rs : List (List Int)} {m : Int} {L M : List Int} {t s : Int} (hr : ∀ r ∈ rs, RowM m r) (hfull : ∀ u : Int, 1 ≤ u → u ≤ m → u ≠ t → u ∈ L ∨ -u ∈ L) (hLM : Sub L M) (n1 : t ∉ M) (n2 : -t ∉ M) (ht : 1 ≤ t) (hs : s = t ∨ s = -t) (hc : Closed rs M) : Closed rs (M ++ [s]) := fun r hrr => by
  obtain ⟨c1, c2⟩ := hc r hrr
  have hrow := hr r hrr
  have nd : r.Nodup := by
    have := hrow.nd
    rw [List.Nodup, List.pairwise_map] at this
    exact this.imp fun h e => h (by rw [e])
  have ndl : (left M r).Nodup := nd.filter _
  have absd : ∀ x ∈ r, ∀ y ∈ r, absI x = absI y → x = y := fun x hx y hy e => by
    have := hrow.nd
    rw [List.Nodup, List.pairwise_map] at this
    by_cases h : x = y
    · exact h
    · exfalso
      rcases List.pairwise_iff_getElem.mp this with z
      obtain ⟨i, hi, rfl⟩ := List.getElem_of_mem hx
      obtain ⟨j, hj, rfl⟩ := List.getElem_of_mem hy
      rcases Nat.lt_trichotomy i j with l | l | l
      · exact z i j hi hj l e
      · subst l; exact h rfl
      · exact z j i hj hi l e.symm
  have abt : ∀ x : Int, (x = t ∨ x = -t) → absI x = t := fun x h => by
    rcases h with e | e <;> rw [e]
    · exact absI_pos (by omega)
    · rw [absI_neg]; exact absI_pos (by omega)
  have memL : ∀ x, x ∈ left (M ++ [s]) r ↔ x ∈ left M r ∧ -x ≠ s := fun x => by
    rw [mem_left, mem_left]
    simp only [List.mem_append, List.mem_singleton, not_or]
    exact and_assoc.symm
  refine ⟨fun e => ?_, fun x e => ?_⟩
  · -- not empty
    have none' : ∀ x ∈ left M r, -x = s := fun x hx => Classical.byContradiction fun h => by
      have := (memL x).mpr ⟨hx, h⟩
      rw [e] at this; simp at this
    cases q : left M r with
    | nil => exact c1 q
    | cons a as =>
      rw [q] at none' ndl
      have ea := none' a (by simp)
      have : as = [] := by
        cases as with
        | nil => rfl
        | cons b bs =>
          have eb := none' b (by simp)
          have : a = b := by omega
          rw [this] at ndl; simp at ndl
      subst this
      have := c2 a q
      rcases hs with h | h
      · exact n2 (by rw [← h, ← ea, Int.neg_neg]; exact this)
      · exact n1 (by have : a = t := by omega
                     rw [← this]; assumption)
  · have hx : x ∈ left (M ++ [s]) r := by rw [e]; simp
    obtain ⟨h1, h2⟩ := (memL x).mp hx
    obtain ⟨h3, h4⟩ := mem_left.mp h1
    have lo := hrow.lo x h3
    by_cases ha : absI x = t
    · have : x = t ∨ x = -t := absI_or (by rw [ha, absI_pos (by omega)])
      have : x = s := by rcases this with e1 | e1 <;> rcases hs with e2 | e2 <;> omega
      rw [this]; simp
    · have : absI x = x ∨ absI x = -x := by unfold absI; split <;> omega
      rcases hfull (absI x) lo.1 lo.2 ha with h | h
      · rcases this with e1 | e1
        · rw [e1] at h; exact List.mem_append_left _ (hLM _ h)
        · rw [e1] at h; exact absurd (hLM _ h) h4
      · rcases this with e1 | e1
        · rw [e1] at h; exact absurd (hLM _ h) h4
        · rw [e1, Int.neg_neg] at h; exact List.mem_append_left _ (hLM _ h)
end Tw

/-! P14: the tree's loop. -/
namespace Tw
open PySem L2
/-- what the tree tells: nothing, or rows -/
structure TrR (rs0 : List (List Int)) (m : Int) (rs : List (List Int)) : Prop where
  ne : rs ≠ []
  len : rs.length ≤ 63
  row : ∀ r ∈ rs, RowM m r
  last : rs.getLast? = some []
  right : RightR (rs0.map told) (rs.map told)
def TrOk (rs0 : List (List Int)) (m : Int) (d : D) : Prop := (d = .non ∧ (force (enTh 0 rs0) []).2 = none) ∨ ∃ rs : List (List Int), TrR rs0 m rs ∧ d = .lst (rs.map eR)
/-- the stack's top is signs of all marks that don't clash -/
def Dead (rs : List (List Int)) (tn : List Int) (ws : List (List Int × Bool)) : Prop := ∃ ws' L M, ws = ws' ++ [(L, false)] ∧ force (enTh 0 rs) L = (M, none) ∧ ∀ t ∈ tn, t ∈ M ∨ -t ∈ M
structure Live (rs : List (List Int)) (m : Int) (ws : List (List Int × Bool)) (ss : List (List Int)) : Prop where
  cnt : ss.length + cL m.toNat ws ≤ cnt m.toNat
  cov : Cov ws ss
  right : RightR (rs.map told) (ss.map told)
  last : ws = [] → ss.getLast? = some []
  head : ∀ p, ws.head? = some p → p.1 = []
theorem cnt_le {m : Int} (h1 : 2 ≤ m) (h2 : m ≤ 6) : cnt m.toNat ≤ 63 := by
  have : m.toNat = 2 ∨ m.toNat = 3 ∨ m.toNat = 4 ∨ m.toNat = 5 ∨ m.toNat = 6 := by omega
  rcases this with h | h | h | h | h <;> rw [h] <;> decide
theorem row_okd {r : List Int} : okd 3 (eR r) := okd_nc (n := 3) (by show ([.str "row", eL r] : List D).all (nc 2) = true; simp only [List.all_cons, List.all_nil, nc_eL, Bool.and_true]; decide +kernel)
theorem law_tree_is {m : Int} {rs : List (List Int)} (hF : Fm m rs) (n : Int) : ∃ d, TrOk rs m d ∧ m__law_tree [.lst (rs.map eL), .int m, .int n] = .ok d := by
  have hm1 := hF.m1
  have hm6 := hF.m6
  have hth : RTh (enTh 0 rs) := enTh_row fun r hr => (hF.row r hr).row hm6
  have hg : GTh (enTh 0 rs) := hth.good (by rw [enTh_len]; have := hF.len; omega)
  have w : WP (g__law_tree (start0 14 [.lst (rs.map eL), .int m, .int n])) (fun _ => TrOk rs m .non) (fun d => TrOk rs m d) := by
    unfold g__law_tree
    generalize hR : D.lst (rs.map eL) = R0
    obtain ⟨tn, htn, hc⟩ : ∃ tn : List Int, (∀ t ∈ tn, 1 ≤ t ∧ t ≤ m) ∧ eComp [12] (.nm 12) (iRg dRng1 (aCons (eVar 1) aNil)) tTrue (e2 dAdd (eC (.int 1)) (e2 dMod (e2 dAdd (eVar 2) (eVar 12)) (eVar 1))) (hid (start0 14 [R0, .int m, .int n])) = .ok (eL tn) := by
      refine ⟨(List.range m.toNat).map fun (i : Nat) => 1 + (n + ((0 : Int) + i)).fmod m, fun t ht => ?_, ?_⟩
      · obtain ⟨i, _, rfl⟩ := List.mem_map.mp ht
        have := fm0 (a := n + ((0 : Int) + i)) (b := m) (by omega)
        have := fm1 (a := n + ((0 : Int) + i)) (b := m) (by omega)
        omega
      · unfold eL
        rw [List.map_map]
        refine comp_is (ds := rngD 0 m.toNat) ?_ ?_ (by simp; omega)
        · have : rgOk m = true := by unfold rgOk; rw [decide_eq_true (by omega), decide_eq_true (by omega)]; rfl
          simp [dRng1, this]
        · rw [rngD_len]
          exact compD_all fun i _ => by simp [dAdd_ii, dMod_ii (show m ≠ 0 by omega)]
    refine wp_seq (wp_set (d := eL tn) hc ?_)
    show WP (sSeq _ _ [.fz R0, .fz (.int m), .fz (.int n), .fz (eL tn), .no, .no, .no, .no, .no, .no, .no, .no, .no, .no]) _ _
    refine wp_seq ?_
    unfold sPar2
    have p1 : eLst (aCons (eTup (aCons (eLst aNil) (aCons (eC (.bl false)) aNil))) aNil) (hid [.fz R0, .fz (.int m), .fz (.int n), .fz (eL tn), .no, .no, .no, .no, .no, .no, .no, .no, .no, .no]) = .ok (.lst (([([], false)] : List (List Int × Bool)).map eW)) := by simp [sz_of, eW, eL]
    simp only [p1, s_step1, s_eLst, s_aNil, s_bind1, List.length_nil, sz_of (Nat.zero_le _), if_true]
    show WP (sSeq _ _ [.fz R0, .fz (.int m), .fz (.int n), .fz (eL tn), .ow (.lst (([([], false)] : List (List Int × Bool)).map eW)), .ow (.lst []), .no, .no, .no, .no, .no, .no, .no, .no]) _ _
    refine wp_seq (wp_set (d := eThE eL (enTh 0 rs)) ?_ ?_)
    · subst hR
      simp only [s_eB, s_aCons, s_aNil, s_eVar, s_hid1, s_h1, List.getElem?_cons_zero, s_bind1, s_map, dLEnum, s_nox1, enum_lrows]
      rfl
    show WP (sSeq _ _ [.fz R0, .fz (.int m), .fz (.int n), .fz (eL tn), .ow (.lst (([([], false)] : List (List Int × Bool)).map eW)), .ow (.lst []), .fz (eThE eL (enTh 0 rs)), .no, .no, .no, .no, .no, .no, .no]) _ _
    generalize hT : eThE eL (enTh 0 rs) = T0
    have hforc : ∀ L : List Int, RowM m L → m__law_forced [T0, eL L] = .ok (.tup [eL (force (enTh 0 rs) L).1, .bl (force (enTh 0 rs) L).2.isSome]) := fun L hL => by
      rw [← hT]; exact law_forced_en (en := eL) (fun r => .inl rfl) hg (hL.inU hm6)
    refine wp_seq (wp_while (fun k ρ => ∃ (ws : List (List Int × Bool)) (ss : List (List Int)) (a b c d e : Cl), k = wL m.toNat ws ∧ ss.length + k ≤ 200 ∧ (Dead rs tn ws ∨ Live rs m ws ss) ∧ (∀ p ∈ ws, RowM m p.1) ∧ (∀ r ∈ ss, RowM m r) ∧ ws.length ≤ 1000 ∧
      ρ = [.fz R0, .fz (.int m), .fz (.int n), .fz (eL tn), .ow (.lst (ws.map eW)), .ow (.lst (ss.map eR)), .fz T0, a, b, c, d, e, .no, .no]) ?_ 1000 (wL m.toNat [([], false)]) _ ?_ ?_)
    rotate_left
    · have : m.toNat = 2 ∨ m.toNat = 3 ∨ m.toNat = 4 ∨ m.toNat = 5 ∨ m.toNat = 6 := by omega
      rcases this with h | h | h | h | h <;> rw [h] <;> decide
    · refine ⟨[([], false)], [], _, _, _, _, _, rfl, ?_, .inr ⟨?_, ⟨fun e => (by cases e), trivial⟩, trivial, fun h => (by cases h), fun p h => by cases h; rfl⟩, fun p hp => ?_, fun r h => absurd h (by simp), by simp, rfl⟩
      · have : m.toNat = 2 ∨ m.toNat = 3 ∨ m.toNat = 4 ∨ m.toNat = 5 ∨ m.toNat = 6 := by omega
        rcases this with h | h | h | h | h <;> rw [h] <;> decide
      · unfold cL cI; simp
      · rw [List.mem_singleton.mp hp]; exact ⟨by simp, fun s h => absurd h (by simp)⟩
    rintro k ρ ⟨ws, ss, a, b, c, d, e, rfl, hk, hne, hws, hss, hwl, rfl⟩
    refine ⟨!ws.isEmpty, ?_, fun hb => ?_, fun hb => ?_⟩
    · have h1 : okd 3 (.lst (ws.map eW)) := okd_lst fun d hd => by obtain ⟨p, _, rfl⟩ := List.mem_map.mp hd; exact okd_eW
      have h2 := dNe_empty h1 (by decide)
      simp [sz_of, h2]
    · have hw0 : ws = [] := by simpa using hb
      have lv : Live rs m ws ss := hne.resolve_left fun ⟨ws', _, _, e, _⟩ => by rw [hw0] at e; simp at e
      have h63 := cnt_le hm1 hm6
      exact wp_ret (d := .lst (ss.map eR)) rfl (.inr ⟨ss, ⟨fun e => (by have := lv.last hw0; rw [e] at this; cases this), (by have := lv.cnt; omega), hss, lv.last hw0, lv.right⟩, rfl⟩)
    · have hw0 : ws ≠ [] := by
        intro h; rw [h] at hb; cases hb
      obtain ⟨ws', p, rfl⟩ : ∃ ws' p, ws = ws' ++ [p] := ⟨ws.dropLast, ws.getLast hw0, (List.dropLast_concat_getLast hw0).symm⟩
      obtain ⟨L, dn⟩ := p
      have hL : RowM m L := hws (L, dn) (by simp)
      have hws' : ∀ p ∈ ws', RowM m p.1 := fun p hp => hws p (List.mem_append_left _ hp)
      have hLl := hL.len (by omega)
      rw [wL_snoc] at hk ⊢
      simp only [List.length_append, List.length_cons, List.length_nil] at hwl
      refine wp_seq ?_
      unfold sPop
      have o1 : owL [.fz R0, .fz (.int m), .fz (.int n), .fz (eL tn), .ow (.lst ((ws' ++ [(L, dn)]).map eW)), .ow (.lst (ss.map eR)), .fz T0, a, b, c, d, e, .no, .no] 4 = some ((ws' ++ [(L, dn)]).map eW) := rfl
      have o2 : ((ws' ++ [(L, dn)]).map eW)[((ws' ++ [(L, dn)]).map eW).length - 1]? = some (eW (L, dn)) := by simp
      have o3 : ((ws' ++ [(L, dn)]).map eW).dropLast = ws'.map eW := by simp
      simp only [o1, o2, o3, eW, s_bindTp, s_bindTs1, s_bindTs0, s_bindNm, Option.bind_some, Option.map_some, List.cons_append, List.nil_append, s_setsC1, s_setsC0]
      show WP (sIf _ _ _ [.fz R0, .fz (.int m), .fz (.int n), .fz (eL tn), .ow (.lst (ws'.map eW)), .ow (.lst (ss.map eR)), .fz T0, .fz (eL L), .fz (.bl dn), c, d, e, .no, .no]) _ _
      refine wp_if (b := dn || (force (enTh 0 rs) L).2.isSome) ?_ (fun hb => ?_) (fun hb => ?_)
      · cases dn with
        | true => simp
        | false => simp [hforc L hL, dGet_tup1]
      · -- a row more
        have hss2 : ss.length ≤ 200 := by omega
        unfold sApp
        have a1 : owL [.fz R0, .fz (.int m), .fz (.int n), .fz (eL tn), .ow (.lst (ws'.map eW)), .ow (.lst (ss.map eR)), .fz T0, .fz (eL L), .fz (.bl dn), c, d, e, .no, .no] 5 = some (ss.map eR) := rfl
        have a2 : eTup (aCons (eC (.str "row")) (aCons (e1 dRev (eComp [11] (.nm 11) (iSeq (eVar 7)) tTrue (e1 dNeg (eVar 11)))) aNil)) (hid [.fz R0, .fz (.int m), .fz (.int n), .fz (eL tn), .ow (.lst (ws'.map eW)), .ow (.lst (ss.map eR)), .fz T0, .fz (eL L), .fz (.bl dn), c, d, e, .no, .no]) = .ok (eR (neg L).reverse) := by
          have cc : eComp [11] (.nm 11) (iSeq (eVar 7)) tTrue (e1 dNeg (eVar 11)) (hid [.fz R0, .fz (.int m), .fz (.int n), .fz (eL tn), .ow (.lst (ws'.map eW)), .ow (.lst (ss.map eR)), .fz T0, .fz (eL L), .fz (.bl dn), c, d, e, .no, .no]) = .ok (eL (neg L)) := by
            refine comp_is (ds := L.map D.int) (es := (neg L).map D.int) ?_ ?_ (by unfold neg; simp; omega)
            · simp [eL]
            · unfold neg
              rw [List.map_map]
              exact compD_all fun x _ => by simp
          have rr : dRev (eL (neg L)) = .ok (eL (neg L).reverse) := by simp [dRev, eL]
          simp only [s_eTup, s_aCons, s_aNil, s_eC, s_e1, cc, s_bind1, rr, s_nox1, s_map, List.length_cons, List.length_nil, sz_of (show 0 + 1 + 1 ≤ 10000 by decide), if_true]
          rfl
        have a3 : decide ((ss.map eR).length < sizeLine) = true := decide_eq_true (by simp; unfold sizeLine; omega)
        simp only [a1, a2, s_step1, a3, if_true]
        have wp1 := wt_pos (m.toNat - L.length)
        have wi1 : 1 ≤ wI m.toNat (L, dn) := by unfold wI; split <;> omega
        refine ⟨wL m.toNat ws', by omega, ws', ss ++ [(neg L).reverse], .fz (eL L), .fz (.bl dn), c, d, e, rfl, by simp; omega, .inr ?_, hws', fun r hr => ?_, by omega, by simp⟩
        · have lv : Live rs m (ws' ++ [(L, dn)]) ss := hne.resolve_left fun ⟨w2, L2, M2, e, f, _⟩ => by
            have e2 := (List.append_inj' e rfl).2
            cases e2
            rw [f] at hb; cases hb
          have hssr : ∀ r ∈ ss.map told, Row r := fun r hr => by
            obtain ⟨x, hx, rfl⟩ := List.mem_map.mp hr
            exact ((hss x hx).row hm6).told
          have hrow0 : ∀ r ∈ rs, Row r := fun r h => (hF.row r h).row hm6
          have hA : ∀ r ∈ rs.map told ++ ss.map told, Row r := fun r h => by
            rcases List.mem_append.mp h with h | h
            · obtain ⟨x, hx, rfl⟩ := List.mem_map.mp h
              exact (hrow0 x hx).told
            · exact hssr r h
          have hl16 := hF.len
          have hLr : Row (rowL L) := (hL.rowL).row hm6
          refine ⟨by have := lv.cnt; rw [cL_app] at this; have c1 : 1 ≤ cL m.toNat [(L, dn)] := (by unfold cL; simpa using cI_pos); simp; omega, lv.cov.emit, ?_, fun h => ?_, fun p h => lv.head p (by
            cases ws' with
            | nil => cases h
            | cons a as => exact h)⟩
          · rw [List.map_append, List.map_cons, List.map_nil]
            refine RightR.snoc (A := []) lv.right ?_
            show ∃ t : Th, t.map (·.2) = rs.map told ++ ss.map told ∧ foll t (told (rowL L)) = true
            cases hdn : dn with
            | true =>
              obtain ⟨s, h1, h2⟩ := Cov.last lv.cov hdn
              exact foll_two hA (by simp; omega) hLr (List.mem_append_right _ (List.mem_map.mpr ⟨_, h1, rfl⟩)) (List.mem_append_right _ (List.mem_map.mpr ⟨_, h2, rfl⟩)) isort_perm isort_perm hLr.told isort_perm
            | false =>
              rw [hdn] at hb
              exact foll_clash hm6 hF.row hF.len hssr (by simp; omega) hL hb hLr.told isort_perm
          · have : L = [] := lv.head (L, dn) (by rw [h]; rfl)
            rw [this]; simp [neg]
        rcases List.mem_append.mp hr with hr | hr
        · exact hss r hr
        · rw [List.mem_singleton.mp hr]; exact hL.negr
      · -- tried further
        have hdn : dn = false := by cases dn <;> first | rfl | cases hb
        subst hdn
        have hfn : (force (enTh 0 rs) L).2 = none := by
          cases q : (force (enTh 0 rs) L).2 with
          | none => rfl
          | some x => rw [q] at hb; cases hb
        generalize hM : (force (enTh 0 rs) L).1 = M
        have hfe : force (enTh 0 rs) L = (M, none) := Prod.ext hM hfn
        have hsub := force_sub hg (hL.inU hm6) hfe
        refine wp_seq (wp_set (d := eL M) ?_ ?_)
        · simp [hforc L hL, dGet_tup0, hM]
        show WP (sSeq _ _ [.fz R0, .fz (.int m), .fz (.int n), .fz (eL tn), .ow (.lst (ws'.map eW)), .ow (.lst (ss.map eR)), .fz T0, .fz (eL L), .fz (.bl false), .fz (eL M), d, e, .no, .no]) _ _
        generalize hlf : (tn.filter fun t => !decide (t ∈ M) && !decide (-t ∈ M)) = lf
        have hlfl : lf.length ≤ tn.length := by rw [← hlf]; exact List.length_filter_le _ _
        have htl : tn.length ≤ 9000 := by
          have e1 : eL tn = eL tn := rfl
          have := hc
          by_cases h : tn.length ≤ 9000
          · exact h
          · exfalso
            -- the list has m items
            have h2 : eComp [12] (.nm 12) (iRg dRng1 (aCons (eVar 1) aNil)) tTrue (e2 dAdd (eC (.int 1)) (e2 dMod (e2 dAdd (eVar 2) (eVar 12)) (eVar 1))) (hid (start0 14 [R0, .int m, .int n])) = .ok (eL ((List.range m.toNat).map fun (i : Nat) => 1 + (n + ((0 : Int) + i)).fmod m)) := by
              unfold eL
              rw [List.map_map]
              refine comp_is (ds := rngD 0 m.toNat) ?_ ?_ (by simp; omega)
              · have : rgOk m = true := by unfold rgOk; rw [decide_eq_true (by omega), decide_eq_true (by omega)]; rfl
                simp [dRng1, this]
              · rw [rngD_len]
                exact compD_all fun i _ => by simp [dAdd_ii, dMod_ii (show m ≠ 0 by omega)]
            rw [h2] at this
            have e3 := eL_inj.mp (R.ok.inj this)
            have := congrArg List.length e3
            simp at this
            omega
        refine wp_seq (wp_set (d := eL lf) ?_ ?_)
        · refine comp_is (ds := tn.map D.int) (es := lf.map D.int) ?_ ?_ (by simp; omega)
          · simp [eL]
          · rw [← hlf]
            exact compD_filter fun x _ => by
              simp [nin_eL]
              by_cases h1 : x ∈ M <;> by_cases h2 : -x ∈ M <;> simp [h1, h2]
        show WP (sSeq _ _ [.fz R0, .fz (.int m), .fz (.int n), .fz (eL tn), .ow (.lst (ws'.map eW)), .ow (.lst (ss.map eR)), .fz T0, .fz (eL L), .fz (.bl false), .fz (eL M), .fz (eL lf), e, .no, .no]) _ _
        cases hlc : lf with
        | nil =>
          have hn0 : (force (enTh 0 rs) []).2 = none := by
            obtain ⟨M', c, _⟩ := (force_none_iff hg (hL.inU hm6)).mp hfn
            exact (force_none_iff hg ⟨by simp, fun s h => absurd h (by simp)⟩).mpr ⟨M', c, fun s h => absurd h (by simp)⟩
          exact wp_seq (wp_if (b := true) (by simp [sz_of, dEq_nil]) (fun _ => wp_ret (d := .non) rfl (.inl ⟨rfl, hn0⟩)) fun h => by cases h)
        | cons t more =>
          have ht : t ∈ tn ∧ t ∉ M ∧ -t ∉ M := by
            have : t ∈ lf := by rw [hlc]; simp
            rw [← hlf] at this
            obtain ⟨h1, h2⟩ := List.mem_filter.mp this
            simp at h2
            exact ⟨h1, h2.1, h2.2⟩
          have htb := htn t ht.1
          have n1 : t ∉ L := fun h => ht.2.1 (hsub t h)
          have n2 : -t ∉ L := fun h => ht.2.2 (hsub _ h)
          have hlt : L.length < m.toNat := by
            rcases Nat.lt_or_eq_of_le hLl with h | h
            · exact h
            · rcases hL.full (by omega) h htb.1 htb.2 with q | q
              · exact absurd q n1
              · exact absurd q n2
          refine wp_seq (wp_if (b := false) (by simp [sz_of, dEq_nil]) (fun h => by cases h) fun _ => wp_nil ?_)
          have g0 : dGet (eL (t :: more)) (.int 0) = .ok (.int t) := by simp [eL, dGet, atI_0]
          obtain ⟨s, hs, es⟩ : ∃ s, (s = t ∨ s = -t) ∧ eIf (tV (e2 dEq (e2 dMod (e2 dFdiv (eVar 2) (eC (.int 64))) (eC (.int 2))) (eC (.int 0)))) (e2 dGet (eVar 10) (eC (.int 0))) (e1 dNeg (e2 dGet (eVar 10) (eC (.int 0)))) (hid [.fz R0, .fz (.int m), .fz (.int n), .fz (eL tn), .ow (.lst (ws'.map eW)), .ow (.lst (ss.map eR)), .fz T0, .fz (eL L), .fz (.bl false), .fz (eL M), .fz (eL (t :: more)), e, .no, .no]) = .ok (.int s) := by
            simp only [s_eIf, s_tV, s_e2, s_e1, s_eC, s_eVar, s_hid1, s_h1, s_h2, List.getElem?_cons_succ, List.getElem?_cons_zero, s_bind1, dFdiv_ii (j := 64) (by decide) (by decide), s_nox1, dMod_ii (j := 2) (by decide), dEq_int, s_asB, g0, s_neg]
            by_cases h : (n.fdiv 64).fmod 2 = 0
            · exact ⟨t, .inl rfl, by simp [h]⟩
            · exact ⟨-t, .inr rfl, by simp [h]⟩
          refine wp_seq (wp_set (d := .int s) es ?_)
          show WP (sFz [4] _ [.fz R0, .fz (.int m), .fz (.int n), .fz (eL tn), .ow (.lst (ws'.map eW)), .ow (.lst (ss.map eR)), .fz T0, .fz (eL L), .fz (.bl false), .fz (eL M), .fz (eL (t :: more)), .fz (.int s), .no, .no]) _ _
          refine wp_fz ?_
          show WP (sSetF 4 _ [.fz R0, .fz (.int m), .fz (.int n), .fz (eL tn), .fz (.lst (ws'.map eW)), .ow (.lst (ss.map eR)), .fz T0, .fz (eL L), .fz (.bl false), .fz (eL M), .fz (eL (t :: more)), .fz (.int s), .no, .no]) _ _
          have hcat : e2 dCat (eVar 4) (eLst (aCons (eTup (aCons (eVar 7) (aCons (eC (.bl true)) aNil))) (aCons (eTup (aCons (e2 dAdd (eVar 7) (eLst (aCons (e1 dNeg (eVar 11)) aNil))) (aCons (eC (.bl false)) aNil))) (aCons (eTup (aCons (e2 dAdd (eVar 7) (eLst (aCons (eVar 11) aNil))) (aCons (eC (.bl false)) aNil))) aNil)))) (hid [.fz R0, .fz (.int m), .fz (.int n), .fz (eL tn), .fz (.lst (ws'.map eW)), .ow (.lst (ss.map eR)), .fz T0, .fz (eL L), .fz (.bl false), .fz (eL M), .fz (eL (t :: more)), .fz (.int s), .no, .no]) = .ok (.lst ((ws' ++ [(L, true), (L ++ [-s], false), (L ++ [s], false)]).map eW)) := by
            have z1 : sz (L.length + (0 + 1)) = true := sz_of (by omega)
            have z2 : sz (ws'.length + (0 + 1 + 1 + 1)) = true := sz_of (by omega)
            simp only [s_e2, s_e1, s_eLst, s_eTup, s_aCons, s_aNil, s_eC, s_eVar, s_hid1, s_h1, List.getElem?_cons_succ, List.getElem?_cons_zero, s_bind1, s_neg, s_nox1, s_map, List.length_cons, List.length_nil, sz_of (show 0 + 1 ≤ 10000 by decide), sz_of (show 0 + 1 + 1 ≤ 10000 by decide), sz_of (show 0 + 1 + 1 + 1 ≤ 10000 by decide), if_true, eL, dAdd, List.length_map, z1, dCat, z2]
            simp [eW, eL]
          unfold sSetF
          show WP (step _ _ _) _ _
          rw [hcat, s_step1]
          have hw3 : wL m.toNat (ws' ++ [(L, true), (L ++ [-s], false), (L ++ [s], false)]) = wL m.toNat ws' + (1 + 2 * wt (m.toNat - (L.length + 1))) := by
            rw [wL_app]; unfold wL wI; simp; omega
          have hw4 : wI m.toNat (L, false) = 2 * wt (m.toNat - (L.length + 1)) + 2 := by
            unfold wI
            rw [show m.toNat - (L, false).1.length = (m.toNat - (L.length + 1)) + 1 by show m.toNat - L.length = _; omega]
            rfl
          have hwl2 : (ws' ++ [(L, true), (L ++ [-s], false), (L ++ [s], false)]).length ≤ 1000 := by
            have : ∀ (l : List (List Int × Bool)), l.length ≤ wL m.toNat l := fun l => by
              induction l with
              | nil => exact Nat.zero_le _
              | cons p l ih =>
                have h1 := wt_pos (m.toNat - p.1.length)
                have h2 : 1 ≤ wI m.toNat p := by unfold wI; split <;> omega
                have h3 : wL m.toNat (p :: l) = wI m.toNat p + wL m.toNat l := by unfold wL; simp
                simp; omega
            have := this (ws' ++ [(L, true), (L ++ [-s], false), (L ++ [s], false)])
            omega
          refine ⟨wL m.toNat (ws' ++ [(L, true), (L ++ [-s], false), (L ++ [s], false)]), by omega, _, ss, .fz (eL L), .fz (.bl false), .fz (eL M), .fz (eL (t :: more)), .fz (.int s), rfl, by omega, ?_, fun p hp => ?_, hss, hwl2, rfl⟩
          rotate_left
          rcases List.mem_append.mp hp with hp | hp
          · exact hws' p hp
          · have hs2 : -s = t ∨ -s = -t := by rcases hs with e | e <;> omega
            simp only [List.mem_cons, List.not_mem_nil, or_false] at hp
            rcases hp with e | e | e <;> subst e
            · exact hL
            · exact hL.add hs2 htb.1 htb.2 n1 n2
            · exact hL.add hs htb.1 htb.2 n1 n2
          -- live or dead
          have lv : Live rs m (ws' ++ [(L, false)]) ss := hne.resolve_left fun ⟨w2, L2, M2, e, f, al⟩ => by
            have e2 := (List.append_inj' e rfl).2
            cases e2
            rw [hfe] at f
            cases f
            rcases al t ht.1 with q | q
            · exact ht.2.1 q
            · exact ht.2.2 q
          by_cases hk2 : L.length + 2 ≤ m.toNat
          · refine .inr ⟨?_, lv.cov.grow, lv.right, fun h => by simp at h, fun p h => ?_⟩
            · have := lv.cnt
              rw [cL_app] at this ⊢
              have e1 : cL m.toNat [(L, false)] = 2 * cnt (m.toNat - (L.length + 1)) + 1 := by
                unfold cL cI
                obtain ⟨j, hj⟩ : ∃ j, m.toNat - L.length = j + 2 := ⟨m.toNat - L.length - 2, by omega⟩
                have hj2 : m.toNat - (L.length + 1) = j + 1 := by omega
                simp only [List.map_cons, List.map_nil, List.sum_cons, List.sum_nil, hj, hj2]
                simp [Tw.cnt]
              have e2 : cL m.toNat [(L, true), (L ++ [-s], false), (L ++ [s], false)] = 1 + 2 * cnt (m.toNat - (L.length + 1)) := by
                unfold cL cI; simp; omega
              omega
            · cases ws' with
              | nil => cases h; exact lv.head (L, false) rfl
              | cons a as => exact lv.head p h
          · have hlm : (L ++ [t]).length = m.toNat := by simp; omega
            have hfull : ∀ u : Int, 1 ≤ u → u ≤ m → u ≠ t → u ∈ L ∨ -u ∈ L := fun u u1 u2 un => by
              have := (hL.add (s := t) (.inl rfl) htb.1 htb.2 n1 n2).full (by omega) hlm u1 u2
              simp only [List.mem_append, List.mem_singleton] at this
              rcases this with (h | h) | (h | h)
              · exact .inl h
              · exact absurd h un
              · exact .inr h
              · omega
            have hLs := hL.add hs htb.1 htb.2 n1 n2
            have f := forc_is hg (hL.inU hm6)
            rw [hfe] at f
            obtain ⟨_, _, hcl⟩ := forc_end hg.inU 900 _ M (hL.inU hm6) f
            have hcM : Closed rs M := fun r hr => by
              have : r ∈ (enTh 0 rs).map (·.2) := by rw [enTh_rows]; exact hr
              obtain ⟨p, hp, rfl⟩ := List.mem_map.mp this
              exact hcl p hp
            have hc2 := closed_more (s := s) hF.row hfull hsub ht.2.1 ht.2.2 htb.1 hs hcM
            have hn2 : (force (enTh 0 rs) (L ++ [s])).2 = none := (force_none_iff hg (hLs.inU hm6)).mpr ⟨M ++ [s], by rw [enTh_rows]; exact hc2, fun x hx => by
              rcases List.mem_append.mp hx with h | h
              · exact List.mem_append_left _ (hsub x h)
              · exact List.mem_append_right _ h⟩
            have hfe2 : force (enTh 0 rs) (L ++ [s]) = ((force (enTh 0 rs) (L ++ [s])).1, none) := Prod.ext rfl hn2
            have hsub2 := force_sub hg (hLs.inU hm6) hfe2
            refine .inl ⟨ws' ++ [(L, true), (L ++ [-s], false)], L ++ [s], _, by simp, hfe2, fun u hu => ?_⟩
            obtain ⟨u1, u2⟩ := htn u hu
            by_cases ut : u = t
            · have := hsub2 s (by simp)
              rcases hs with e | e
              · left; rw [ut, ← e]; exact this
              · right; rw [ut, ← e]; exact this
            · rcases hfull u u1 u2 ut with h | h
              · exact .inl (hsub2 u (List.mem_append_left _ h))
              · exact .inr (hsub2 _ (List.mem_append_left _ h))
  obtain ⟨d, e, h⟩ := wp_run (n := 14) (g := g__law_tree) (ds := [.lst (rs.map eL), .int m, .int n]) (Q := fun d => TrOk rs m d) w
  exact ⟨d, h, e⟩
end Tw

/-! P15: the script's road. -/
namespace Tw
open PySem L2
def eLS (s : Stp) : D := .tup [.str (wd s.1), eL s.2]
def dsL (ss : List Stp) : DS := ss.map fun s => (eLS s, s)
def drL (rs : List (List Int)) : DR := rs.map fun r => (eL r, r)
theorem eDS_L {ss : List Stp} : eDS (dsL ss) = .lst (ss.map eLS) := by unfold eDS dsL; simp
theorem eDR_L {rs : List (List Int)} : eDR (drL rs) = .lst (rs.map eL) := by unfold eDR drL; simp
theorem okS_L {ss : List Stp} (h : ∀ s ∈ ss, Row s.2) : OkS (dsL ss) := ⟨fun p hp => by
  obtain ⟨s, _, rfl⟩ := List.mem_map.mp hp
  exact ⟨_, rfl, .inl rfl⟩, fun p hp => by
  obtain ⟨s, hs, rfl⟩ := List.mem_map.mp hp
  exact h s hs⟩
theorem okR_L {rs : List (List Int)} (h : ∀ r ∈ rs, Row r) : OkR (drL rs) := ⟨fun p hp => by
  obtain ⟨s, _, rfl⟩ := List.mem_map.mp hp
  exact .inl rfl, fun p hp => by
  obtain ⟨s, hs, rfl⟩ := List.mem_map.mp hp
  exact h s hs⟩
theorem lst_cut2 {α : Type} {f : α → D} {xs : List α} {k : Nat} (h : k ≤ xs.length) : dSl (.lst (xs.map f)) (some (k : Int)) none = .ok (.lst ((xs.drop k).map f)) := by
  show R.ok (D.lst (cutD (xs.map f) (some (k : Int)) none)) = _
  rw [cut_map]
  unfold cutD
  rw [HT.sIx_none, HT.sIx_nat, Nat.min_eq_left h]
  rw [List.take_of_length_le (by simp)]
theorem row_nil : Row [] := ⟨fun s h => absurd h (by simp), by simp⟩
theorem dAdd_lst {a b : List D} (h : a.length + b.length ≤ 10000) : dAdd (.lst a) (.lst b) = .ok (.lst (a ++ b)) := by
  show (if sz (a.length + b.length) = true then R.ok (D.lst (a ++ b)) else .no) = _
  rw [if_pos (sz_of h)]
structure RdOk (ss : List Stp) : Prop where
  ne : ss ≠ []
  row : ∀ s ∈ ss, Row s.2
  len : ss.length ≤ 200
theorem slL {α : Type} {f : α → D} {xs : List α} {k : Nat} {e l : SE} {ρ : Ev} (h1 : e ρ = .ok (.lst (xs.map f))) (h2 : l ρ = .ok (.int k)) : eSl e oNone (oSome l) ρ = .ok (.lst ((xs.take k).map f)) := by
  unfold eSl oNone oSome
  rw [h1, h2]
  simp [asI, lst_cut]
theorem slR {α : Type} {f : α → D} {xs : List α} {k : Nat} {e l : SE} {ρ : Ev} (h1 : e ρ = .ok (.lst (xs.map f))) (h2 : l ρ = .ok (.int k)) (hk : k ≤ xs.length) : eSl e (oSome l) oNone ρ = .ok (.lst ((xs.drop k).map f)) := by
  unfold eSl oNone oSome
  rw [h1, h2]
  simp [asI, lst_cut2 hk]
def tSt (s : Stp) : Stp := (s.1, told s.2)
/-- a right road -/
structure RdR (rs : List (List Int)) (ss : List Stp) : Prop where
  ok : RdOk ss
  len : ss.length ≤ 100
  right : (walk (rs.map told) (ss.map tSt)).1 = none
theorem tDR_L {rs : List (List Int)} : tDR (drL rs) = rs.map told := by unfold tDR drL; simp
theorem tDS_L {ss : List Stp} : tDS (dsL ss) = ss.map tSt := by unfold tDS dsL; simp [tSt]
theorem atL_neg {o : Option Nat} : atL o < 0 ↔ o = none := by
  cases o with
  | none => simp [atL]
  | some k => simp [atL]
theorem TrR.walk {rs0 : List (List Int)} {m : Int} (hm : m ≤ 6) (h0 : ∀ r ∈ rs0, RowM m r) (hl : rs0.length ≤ 16) {qs : List (List Int)} (h : TrR rs0 m qs) : (walk (rs0.map told) ((qs.map fun r => ((false, r) : Stp)).map tSt)).1 = none := by
  have hq := h.len
  have e1 : (qs.map fun r => ((false, r) : Stp)).map tSt = rw' (qs.map told) := by unfold rw' tSt; simp
  rw [e1]
  have hw := walkF_right (k := 0) (t := enTh 0 (rs0.map told)) (c := ((rs0.map told).length : Int)) (qs := qs.map told) (enTh_row fun r hr => by
    obtain ⟨x, hx, rfl⟩ := List.mem_map.mp hr
    exact ((h0 x hx).row hm).told) (fun r hr => by
    obtain ⟨x, hx, rfl⟩ := List.mem_map.mp hr
    exact ((h.row x hx).row hm).told) (by rw [enTh_len]; simp; omega) (by rw [enTh_rows]; exact h.right)
  have hlast : lastE (rw' (qs.map told)) = true := by
    unfold lastE rw'
    rw [List.getLast?_map, List.getLast?_map, h.last]
    rfl
  unfold Tw.walk
  cases e : walkF (rw' (qs.map told)) 0 (enTh 0 (rs0.map told)) (rs0.map told).length with
  | mk o t =>
    rw [e] at hw
    cases hw
    simp [hlast]
theorem law_road_right {m : Int} {rs : List (List Int)} (hF : Fm m rs) (n : Int) : ∃ d, ((d = .non ∧ (force (enTh 0 rs) []).2 = none) ∨ ∃ ss, RdR rs ss ∧ d = .lst (ss.map eLS)) ∧ m__law_road [.lst (rs.map eL), .int m, .int n] = .ok d := by
  have hm1 := hF.m1
  have hm6 := hF.m6
  have hrl := hF.len
  have hrow : ∀ r ∈ rs, Row r := fun r hr => (hF.row r hr).row hm6
  have okr := okR_L hrow
  obtain ⟨td, htd, et⟩ := law_tree_is hF n
  have hwk : ∀ ss : List Stp, (∀ s ∈ ss, Row s.2) → ss.length ≤ 300 → ∃ (o : Option Nat) (t : Th), RTh t ∧ t.length ≤ 400 ∧ o = (walk (rs.map told) (ss.map tSt)).1 ∧ m__law_walked [.lst (rs.map eL), .lst (ss.map eLS)] = .ok (.tup [.int (atL o), eTh t]) := fun ss hs hl => by
    have h := law_walked_is okr (okS_L hs) (by unfold drL dsL; simp; omega)
    rw [eDR_L, eDS_L] at h
    have w := walk_ok (tDR_row okr) (tDS_row (okS_L hs))
    refine ⟨_, _, w.row, ?_, by rw [tDR_L, tDS_L], h⟩
    have h1 : (tDR (drL rs)).length = rs.length := by unfold tDR drL; simp
    have h2 : (tDS (dsL ss)).length = ss.length := by unfold tDS dsL; simp
    have := w.len
    omega
  have w : WP (g__law_road (start0 11 [.lst (rs.map eL), .int m, .int n])) (fun _ => ((D.non = .non ∧ (force (enTh 0 rs) []).2 = none) ∨ ∃ ss, RdR rs ss ∧ D.non = .lst (ss.map eLS))) (fun d => (d = .non ∧ (force (enTh 0 rs) []).2 = none) ∨ ∃ ss, RdR rs ss ∧ d = .lst (ss.map eLS)) := by
    unfold g__law_road
    generalize hR : D.lst (rs.map eL) = R0 at et hwk
    refine wp_seq (wp_set (d := td) (by simp [et]) ?_)
    show WP (sSeq _ _ [.fz R0, .fz (.int m), .fz (.int n), .fz td, .no, .no, .no, .no, .no, .no, .no]) _ _
    rcases htd with ⟨rfl, hn0⟩ | ⟨qs, hT, rfl⟩
    · exact wp_seq (wp_if (b := true) rfl (fun _ => wp_ret (d := .non) rfl (.inl ⟨rfl, hn0⟩)) fun h => by cases h)
    · refine wp_seq (wp_if (b := false) rfl (fun h => by cases h) fun _ => wp_nil ?_)
      have k0 := fm0 (a := n.fdiv 128) (b := 7) (by decide)
      have k1 := fm1 (a := n.fdiv 128) (b := 7) (by decide)
      generalize ht : (n.fdiv 128).fmod 7 = tt
      have hqs : (D.lst (qs.map eR)) = .lst ((qs.map fun r => ((false, r) : Stp)).map eLS) := by
        rw [List.map_map]; rfl
      rw [hqs]
      refine wp_seq (wp_for (xs := List.range tt.toNat) (en := fun (i : Nat) => D.int ((0 : Int) + i))
        (I := fun _ ρ => ∃ (ss : List Stp) (a b c d e f g : Cl), RdR rs ss ∧ ρ = [.fz R0, .fz (.int m), .fz (.int n), .fz (.lst (ss.map eLS)), a, b, c, d, e, f, g]) ?_ ?_ ?_ ?_)
      · have : rgOk tt = true := by unfold rgOk; rw [decide_eq_true (by omega), decide_eq_true (by omega)]; rfl
        simp only [s_iRg, s_aCons, s_aNil, s_e2, s_eVar, s_eC, s_hid1, s_h1, List.getElem?_cons_succ, List.getElem?_cons_zero, s_bind1, s_map, dFdiv_ii (j := 128) (by decide) (by decide), s_nox1, dMod_ii (j := 7) (by decide), ht, dRng1, this, if_true]
        rfl
      · have hq2 := hT.len
        refine ⟨qs.map fun r => ((false, r) : Stp), _, _, _, _, _, _, _, ⟨⟨by simpa using hT.ne, fun s hs => ?_, by simp; omega⟩, by simp; omega, hT.walk hm6 hF.row hF.len⟩, rfl⟩
        obtain ⟨r, hr, rfl⟩ := List.mem_map.mp hs
        exact (hT.row r hr).row hm6
      · rintro i ys ρ _ ⟨ss, a, b, c, d, e, f, g, hR0, rfl⟩
        have ho := hR0.ok
        have hol := ho.len
        simp only [s_body, s_bindNm, s_setsC1, s_setsC0]
        generalize (0 : Int) + (i : Int) = i0
        refine wp_seq (wp_set (d := .int (lnum n i0 3)) ?_ ?_)
        · simp [number_is]
        generalize lnum n i0 3 = far
        show WP (sSeq _ _ [.fz R0, .fz (.int m), .fz (.int n), .fz (.lst (ss.map eLS)), .fz (.int i0), .fz (.int far), c, d, e, f, g]) _ _
        have hl0 : (0 : Int) < ss.length := by have := List.length_pos_iff.mpr ho.ne; omega
        have f0 := fm0 (a := far) hl0
        have f1 := fm1 (a := far) hl0
        obtain ⟨sp, hsp⟩ : ∃ sp : Nat, far.fmod ss.length = sp := ⟨(far.fmod ss.length).toNat, by omega⟩
        have hspl : sp < ss.length := by omega
        refine wp_seq (wp_set (d := .int sp) ?_ ?_)
        · simp [dLen, dMod_ii (show (ss.length : Int) ≠ 0 by omega), hsp]
        show WP (sSeq _ _ [.fz R0, .fz (.int m), .fz (.int n), .fz (.lst (ss.map eLS)), .fz (.int i0), .fz (.int far), .fz (.int sp), d, e, f, g]) _ _
        obtain ⟨o1, t1, ht1, htl1, _, hw1⟩ := hwk (ss.take sp ++ [(false, [])]) (fun s hs => by
          rcases List.mem_append.mp hs with hs | hs
          · exact ho.row s (List.mem_of_mem_take hs)
          · rw [List.mem_singleton.mp hs]; exact row_nil) (by simp; omega)
        refine wp_seq (wp_set (d := eTh t1) ?_ ?_)
        · have c1 := slL (f := eLS) (xs := ss) (k := sp) (e := eVar 3) (l := eVar 6) (ρ := hid [.fz R0, .fz (.int m), .fz (.int n), .fz (.lst (ss.map eLS)), .fz (.int i0), .fz (.int far), .fz (.int sp), d, e, f, g]) rfl rfl
          have c2 : dAdd (.lst ((ss.take sp).map eLS)) (.lst [.tup [.str "row", .lst []]]) = .ok (.lst ((ss.take sp ++ [(false, [])]).map eLS)) := by
            rw [dAdd_lst (by simp; omega)]; simp [eLS]; exact ⟨rfl, rfl⟩
          simp only [s_e2, s_eCall, s_aCons, s_aNil, c1, s_bind1, s_eLst, s_eTup, s_eC, s_map, List.length_cons, List.length_nil, sz_of (show 0 ≤ 10000 by decide), sz_of (show 0 + 1 ≤ 10000 by decide), sz_of (show 0 + 1 + 1 ≤ 10000 by decide), if_true, c2, s_nox1]
          simp only [s_eVar, s_hid1, s_h1, List.getElem?_cons_zero, s_bind1, s_map, hw1, dGet_tup1, s_nox1]
        show WP (sSeq _ _ [.fz R0, .fz (.int m), .fz (.int n), .fz (.lst (ss.map eLS)), .fz (.int i0), .fz (.int far), .fz (.int sp), .fz (eTh t1), e, f, g]) _ _
        obtain ⟨r, hr, er⟩ := law_row_is (far.fdiv 100) (m := m) (k := 3) (by omega) hm6 (by decide) (by decide)
        refine wp_seq (wp_set (d := eL r) ?_ ?_)
        · simp [dFdiv_ii, er]
        show WP (sSeq _ _ [.fz R0, .fz (.int m), .fz (.int n), .fz (.lst (ss.map eLS)), .fz (.int i0), .fz (.int far), .fz (.int sp), .fz (eTh t1), .fz (eL r), f, g]) _ _
        refine wp_seq (wp_set (d := eLS (false, r)) ?_ ?_)
        · simp [sz_of]; rfl
        show WP (sSeq _ _ [.fz R0, .fz (.int m), .fz (.int n), .fz (.lst (ss.map eLS)), .fz (.int i0), .fz (.int far), .fz (.int sp), .fz (eTh t1), .fz (eL r), .fz (eLS (false, r)), g]) _ _
        have hne : dNe (eTh t1) (.lst []) = .ok (.bl (!t1.isEmpty)) := dNe_mapnil (f := eP) (n := 2) (fun p _ => by show ([.int p.1, eT p.2] : List D).all (nc 1) = true; simp only [List.all_cons, List.all_nil, nc_eT, Bool.and_true]; rfl) (by decide)
        -- the rest, whatever the step more is
        have rest : ∀ s : Stp, Row s.2 → WP (sSeq (sSet 10 (e2 dAdd (e2 dAdd (eSl (eVar 3) oNone (oSome (eVar 6))) (eLst (aCons (eVar 9) aNil))) (eSl (eVar 3) (oSome (eVar 6)) oNone))) (sIf (tAn (tV (e2 dLt (e2 dGet (eCall m__law_walked (aCons (eVar 0) (aCons (eVar 10) aNil))) (eC (.int 0))) (eC (.int 0)))) (tV (e2 dLe (eB dLen (aCons (eVar 10) aNil)) (eC (.int 100))))) (sSet 3 (eVar 10)) sNil) [.fz R0, .fz (.int m), .fz (.int n), .fz (.lst (ss.map eLS)), .fz (.int i0), .fz (.int far), .fz (.int sp), .fz (eTh t1), .fz (eL r), .fz (eLS s), g]) (fun ρ => ∃ (ss : List Stp) (a b c d e f g : Cl), RdR rs ss ∧ ρ = [.fz R0, .fz (.int m), .fz (.int n), .fz (.lst (ss.map eLS)), a, b, c, d, e, f, g]) (fun d => (d = .non ∧ (force (enTh 0 rs) []).2 = none) ∨ ∃ ss, RdR rs ss ∧ d = .lst (ss.map eLS)) := fun s hs => by
          have hro : ∀ q ∈ ss.take sp ++ [s] ++ ss.drop sp, Row q.2 := fun q hq => by
            rcases List.mem_append.mp hq with hq | hq
            · rcases List.mem_append.mp hq with hq | hq
              · exact ho.row q (List.mem_of_mem_take hq)
              · rw [List.mem_singleton.mp hq]; exact hs
            · exact ho.row q (List.mem_of_mem_drop hq)
          have hln : (ss.take sp ++ [s] ++ ss.drop sp).length = ss.length + 1 := by simp; omega
          refine wp_seq (wp_set (d := .lst ((ss.take sp ++ [s] ++ ss.drop sp).map eLS)) ?_ ?_)
          · have c1 := slL (f := eLS) (xs := ss) (k := sp) (e := eVar 3) (l := eVar 6) (ρ := hid [.fz R0, .fz (.int m), .fz (.int n), .fz (.lst (ss.map eLS)), .fz (.int i0), .fz (.int far), .fz (.int sp), .fz (eTh t1), .fz (eL r), .fz (eLS s), g]) rfl rfl
            have c2 := slR (f := eLS) (xs := ss) (k := sp) (e := eVar 3) (l := eVar 6) (ρ := hid [.fz R0, .fz (.int m), .fz (.int n), .fz (.lst (ss.map eLS)), .fz (.int i0), .fz (.int far), .fz (.int sp), .fz (eTh t1), .fz (eL r), .fz (eLS s), g]) rfl rfl (by omega)
            have c3 : dAdd (.lst ((ss.take sp).map eLS)) (.lst [eLS s]) = .ok (.lst ((ss.take sp ++ [s]).map eLS)) := by
              rw [dAdd_lst (by simp; omega)]; simp
            have c4 : dAdd (.lst ((ss.take sp ++ [s]).map eLS)) (.lst ((ss.drop sp).map eLS)) = .ok (.lst ((ss.take sp ++ [s] ++ ss.drop sp).map eLS)) := by
              rw [dAdd_lst (by simp; omega)]; simp
            simp only [s_e2, c1, c2, s_bind1, s_eLst, s_aCons, s_aNil]
            simp only [s_eVar, s_hid1, s_h1, List.getElem?_cons_succ, List.getElem?_cons_zero, s_bind1, s_map, List.length_cons, List.length_nil, sz_of (show 0 + 1 ≤ 10000 by decide), if_true, c3, s_nox1, c4]
          generalize hss2 : ss.take sp ++ [s] ++ ss.drop sp = ss2 at hro hln
          show WP (sIf _ _ _ [.fz R0, .fz (.int m), .fz (.int n), .fz (.lst (ss.map eLS)), .fz (.int i0), .fz (.int far), .fz (.int sp), .fz (eTh t1), .fz (eL r), .fz (eLS s), .fz (.lst (ss2.map eLS))]) _ _
          obtain ⟨o2, t2, ht2, htl2, eo2, hw2⟩ := hwk ss2 hro (by omega)
          refine wp_if (b := decide (atL o2 < 0) && decide ((ss2.length : Int) ≤ 100)) ?_ (fun hb => ?_) (fun _ => wp_nil ⟨ss, _, _, _, _, _, _, _, hR0, rfl⟩)
          · simp only [s_tAn, s_tV, s_e2, s_eB, s_eCall, s_aCons, s_aNil, s_eVar, s_eC, s_frz1, s_f1, List.getElem?_cons_succ, List.getElem?_cons_zero, s_bind1, s_map, hw2, dGet_tup0, s_nox1, dLt_ii, s_asB, dLen, List.length_map, dLe_ii]
            cases decide (atL o2 < 0) <;> rfl
          · have hb2 : atL o2 < 0 ∧ (ss2.length : Int) ≤ 100 := by
              simp only [Bool.and_eq_true, decide_eq_true_eq] at hb
              exact hb
            exact wp_set (d := .lst (ss2.map eLS)) rfl ⟨ss2, _, _, _, _, _, _, _, ⟨⟨fun h => by rw [h] at hln; simp at hln, hro, by omega⟩, by omega, by rw [← eo2]; exact atL_neg.mp hb2.1⟩, rfl⟩
        refine wp_seq (wp_if (b := decide ((far.fdiv 7).fmod 2 = 0) && !t1.isEmpty) ?_ (fun hb => ?_) (fun _ => wp_nil (rest (false, r) (hr.row hm6))))
        · simp only [s_tAn, s_tV, s_e2, s_eLst, s_aNil, s_eVar, s_eC, s_frz1, s_f1, List.getElem?_cons_succ, List.getElem?_cons_zero, s_bind1, dFdiv_ii (j := 7) (by decide) (by decide), s_nox1, dMod_ii (j := 2) (by decide), dEq_int, s_asB, List.length_nil, sz_of (Nat.zero_le _), if_true, hne]
          cases decide ((far.fdiv 7).fmod 2 = 0) <;> rfl
        · have hb2 : t1 ≠ [] := by
            intro h; rw [h] at hb; simp at hb
          have hl0 : (0 : Int) < List.length t1 := by have := List.length_pos_iff.mpr hb2; omega
          have f0 := fm0 (a := far.fdiv 14) hl0
          have f1 := fm1 (a := far.fdiv 14) hl0
          obtain ⟨j, hj⟩ : ∃ j : Nat, (far.fdiv 14).fmod (List.length t1) = j := ⟨((far.fdiv 14).fmod (List.length t1)).toNat, by omega⟩
          have hjl : j < List.length t1 := by omega
          obtain ⟨p, hp⟩ : ∃ p, t1[j]? = some p := ⟨_, List.getElem?_eq_getElem hjl⟩
          have hprow := ht1.row p (List.mem_of_getElem? hp)
          refine wp_set (d := eLS (true, p.2.reverse)) ?_ (rest (true, p.2.reverse) (hprow.perm (List.reverse_perm _)))
          have g1 : dGet (eTh t1) (.int j) = .ok (eP p) := by
            show R.of (atI (t1.map eP) (j : Int)) = _
            rw [atI_nat (by simpa using hjl), List.getElem?_map, hp]; rfl
          have g2 : dLen [eTh t1] = .ok (.int (List.length t1)) := by simp [eTh, dLen]
          have g3 : dGet (eP p) (.int 1) = .ok (eT p.2) := rfl
          have g4 : dList [eT p.2] = .ok (eL p.2) := rfl
          have g5 : dRev (eL p.2) = .ok (eL p.2.reverse) := by simp [dRev, eL]
          simp only [s_eTup, s_aCons, s_aNil, s_eC, s_e1, s_e2, s_eB, s_eVar, s_hid1, s_h1, List.getElem?_cons_succ, List.getElem?_cons_zero, s_bind1, s_map, dFdiv_ii (j := 14) (by decide) (by decide), s_nox1, g2, dMod_ii (show (List.length t1 : Int) ≠ 0 by omega), hj, g1, g3, g4, g5, List.length_cons, List.length_nil, sz_of (show 0 + 1 + 1 ≤ 10000 by decide), if_true]
          rfl
      · rintro ρ ⟨ss, a, b, c, d, e, f, g, ho, rfl⟩
        exact wp_ret (d := .lst (ss.map eLS)) rfl (.inr ⟨ss, ho, rfl⟩)
  obtain ⟨d, e, h⟩ := wp_run (n := 11) (g := g__law_road) (ds := [.lst (rs.map eL), .int m, .int n]) (Q := fun d => (d = .non ∧ (force (enTh 0 rs) []).2 = none) ∨ ∃ ss, RdR rs ss ∧ d = .lst (ss.map eLS)) w
  exact ⟨d, h, e⟩
theorem law_road_is {m : Int} {rs : List (List Int)} (hF : Fm m rs) (n : Int) : ∃ d, (d = .non ∨ ∃ ss, RdOk ss ∧ d = .lst (ss.map eLS)) ∧ m__law_road [.lst (rs.map eL), .int m, .int n] = .ok d := by
  obtain ⟨d, h, e⟩ := law_road_right hF n
  exact ⟨d, h.imp (·.1) fun ⟨ss, a, b⟩ => ⟨ss, a.ok, b⟩, e⟩
/-- two rows that clash at once: a road there is -/
theorem law_road_there {m : Int} {rs : List (List Int)} (hF : Fm m (rs ++ [[1], [-1]])) (n : Int) : ∃ ss, RdR (rs ++ [[1], [-1]]) ss ∧ m__law_road [.lst ((rs ++ [[1], [-1]]).map eL), .int m, .int n] = .ok (.lst (ss.map eLS)) := by
  obtain ⟨d, h, e⟩ := law_road_right hF n
  rcases h with ⟨_, h⟩ | ⟨ss, h1, h2⟩
  · exfalso
    have hrow : ∀ r ∈ rs ++ [[1], [-1]], Row r := fun r hr => (hF.row r hr).row hF.m6
    have g : GTh (enTh 0 (rs ++ [[1], [-1]])) := (enTh_row hrow).good (by rw [enTh_len]; have := hF.len; omega)
    obtain ⟨M, c, _⟩ := (force_none_iff g ⟨by simp, fun s h => absurd h (by simp)⟩).mp h
    rw [enTh_rows] at c
    obtain ⟨a1, a2⟩ := c [1] (by simp)
    obtain ⟨b1, b2⟩ := c [-1] (by simp)
    have l1 : left M [1] = [1] := by
      cases q : left M [1] with
      | nil => exact absurd q a1
      | cons a as =>
        have := (List.filter_sublist (p := fun s => !decide (-s ∈ M)) (l := [(1 : Int)]))
        have q' : List.filter (fun s => !decide (-s ∈ M)) [1] = a :: as := q
        rw [q'] at this
        exact this.eq_of_length_le (by simp)
    have l2 : left M [-1] = [-1] := by
      cases q : left M [-1] with
      | nil => exact absurd q b1
      | cons a as =>
        have := (List.filter_sublist (p := fun s => !decide (-s ∈ M)) (l := [(-1 : Int)]))
        have q' : List.filter (fun s => !decide (-s ∈ M)) [-1] = a :: as := q
        rw [q'] at this
        exact this.eq_of_length_le (by simp)
    have m1 := b2 (-1) l2
    have : (1 : Int) ∈ left M [1] := by rw [l1]; simp
    exact (mem_left.mp this).2 m1
  · exact ⟨ss, h1, by rw [e, h2]⟩
theorem fm_more {m : Int} {rs : List (List Int)} (h : Fm m rs) : Fm m (rs.take 14 ++ [[1], [-1]]) := ⟨h.m1, h.m6, fun r hr => by
  have := h.m1
  rcases List.mem_append.mp hr with hr | hr
  · exact h.row r (List.mem_of_mem_take hr)
  · simp only [List.mem_cons, List.not_mem_nil, or_false] at hr
    rcases hr with e | e <;> subst e
    · exact RowM.one (x := 1) (by decide) (by omega)
    · exact ⟨by simp, fun s hs => by rw [List.mem_singleton.mp hs]; show 1 ≤ absI (-1) ∧ absI (-1) ≤ m; simp [absI]; omega⟩, by simp; omega⟩
end Tw

/-! PX: small tools for the laws' ends. -/
namespace Tw
open PySem L2
theorem wp_of_out {o : Out} {N : List Cl → Prop} {Q : D → Prop} {d : D} (h : outR o = .ok d) (hq : Q d) (hn : d ≠ .non) : WP o N Q := by
  cases o with
  | nx ρ => cases h; exact absurd rfl hn
  | rt d' ρ => cases h; exact hq
  | bk ρ => cases h
  | ct ρ => cases h
  | ex x ρ => cases h
  | rf d' => cases h; exact hq
  | no => cases h
theorem dEnum_en {α : Type} {f : α → D} {xs : List α} : dEnum [.lst (xs.map f)] = .ok ((enI 0 xs).map fun p => .tup [.int p.1, f p.2]) := by
  show R.ok (enumD 0 (xs.map f)) = _
  rw [enumD_en]
theorem enI_get {α : Type} : ∀ {n : Nat} {xs : List α} {k : Nat} {x : α} {zs ys : List (Nat × α)}, enI n xs = zs ++ (k, x) :: ys → x ∈ xs ∧ n ≤ k ∧ k < n + xs.length
  | n, [], k, x, zs, ys, h => by cases zs <;> cases h
  | n, a :: xs, k, x, zs, ys, h => by
    cases zs with
    | nil => cases h; exact ⟨by simp, Nat.le_refl _, by simp⟩
    | cons z zs =>
      have h : enI (n + 1) xs = zs ++ (k, x) :: ys := (List.cons.inj (show (n, a) :: enI (n + 1) xs = z :: (zs ++ (k, x) :: ys) from h)).2
      obtain ⟨h1, h2, h3⟩ := enI_get h
      exact ⟨List.mem_cons_of_mem _ h1, by omega, by simp; omega⟩
theorem row_one {m s : Int} (hm1 : 1 ≤ m) (hm6 : m ≤ 6) (hs : s = m ∨ s = -m) : Row [s] := RowM.row (m := m) ⟨by simp, fun x hx => by
  rw [List.mem_singleton.mp hx]
  rcases hs with e | e <;> rw [e]
  · rw [absI_pos (by omega)]; omega
  · rw [absI_neg, absI_pos (by omega)]; omega⟩ hm6
theorem sorted_lt {f : Int → Int} {xs : List Int} (h : (xs.map f).Nodup) (hs : xs.Pairwise fun a b => f a ≤ f b) (c : Int) : (xs.filter fun z => f z == c).length ≤ 1 := by
  have nd : ((xs.filter fun z => f z == c).map f).Nodup := List.Nodup.sublist (List.filter_sublist.map f) h
  cases e : xs.filter fun z => f z == c with
  | nil => simp
  | cons a as =>
    cases as with
    | nil => simp
    | cons b bs =>
      exfalso
      have ha : a ∈ xs.filter fun z => f z == c := by rw [e]; simp
      have hb : b ∈ xs.filter fun z => f z == c := by rw [e]; simp
      have ea : f a = c := by simpa using (List.mem_filter.mp ha).2
      have eb : f b = c := by simpa using (List.mem_filter.mp hb).2
      rw [e] at nd
      simp [ea, eb] at nd
/-- a row told is its signs', whatever turn they stood in -/
theorem told_perm {r r' : List Int} (h : Row r) (p : r'.Perm r) : told r' = told r := by
  have h' := h.perm p
  refine sort_unique (f := absI) (isort_sorted absI r') (isort_sorted absI r) fun c => ?_
  have n1 := sorted_lt (f := absI) (by have := h'.told.nd; exact this) (isort_sorted absI r') c
  have n2 := sorted_lt (f := absI) (by have := h.told.nd; exact this) (isort_sorted absI r) c
  have pp : (isort absI r').Perm (isort absI r) := isort_perm.trans (p.trans isort_perm.symm)
  have pf := pp.filter (fun z => absI z == c)
  show (isort absI r').filter (fun z => absI z == c) = (isort absI r).filter (fun z => absI z == c)
  cases e : (isort absI r').filter fun z => absI z == c with
  | nil => rw [e] at pf; exact (List.nil_perm.mp pf).symm
  | cons a as =>
    rw [e] at n1 pf
    have : as = [] := by cases as <;> simp at n1 ⊢
    subst this
    exact List.singleton_perm.mp pf
end Tw

/-! R3: slips of right roads fit; slips looked at step by step; what is refused. -/
namespace Tw
open PySem L2
/-! ### fits -/
theorem lastN_in {t : Th} {r : List Int} {n : Int} (h : lastN t r = some n) : n ∈ t.map (·.1) := by
  unfold lastN at h
  obtain ⟨p, hp, e⟩ := List.mem_map.mp (List.mem_of_getLast? h)
  exact List.mem_map.mpr ⟨p, (List.mem_filter.mp hp).1, e⟩
theorem ledF_mono {t t' : Th} (h : ∀ n r, lk t n = some r → lk t' n = some r) : ∀ {hs L : List Int}, ledF t hs L = true → ledF t' hs L = true
  | [], _, e => by unfold ledF at e; cases e
  | n :: hs, L, e => by
    rw [ledF_eq] at e ⊢
    cases q : lk t n with
    | none => rw [q] at e; cases e
    | some r =>
      rw [q] at e
      rw [h n r q]
      cases hs with
      | nil => exact e
      | cons m hs =>
        cases ql : left L r with
        | nil => simp only [ql] at e; cases e
        | cons s l =>
          cases l with
          | nil =>
            simp only [ql] at e ⊢
            by_cases hm : s ∈ L
            · rw [if_pos hm] at e; cases e
            · rw [if_neg hm] at e ⊢; exact ledF_mono h e
          | cons s' l => simp only [ql] at e; cases e
def clF : List Stp → Bool → Bool
  | [], b => b
  | (true, _) :: ss, b => clF ss b
  | (false, r) :: ss, _ => clF ss (decide (r = []))
theorem clF_last : ∀ {ss : List Stp} {b : Bool}, ss.getLast? = some (false, []) → clF ss b = true
  | [], _, h => by cases h
  | [(c, r)], b, h => by
    have : (c, r) = (false, ([] : List Int)) := Option.some.inj h
    cases this
    rfl
  | (c, r) :: s :: ss, b, h => by
    have h : (s :: ss).getLast? = some (false, []) := by rw [← h]; simp
    cases c
    · exact clF_last (ss := s :: ss) h
    · exact clF_last (ss := s :: ss) h
theorem told_told {r : List Int} (h : Row r) : told (told r) = told r := told_perm h isort_perm
structure RRoad (rs : List (List Int)) (ss : List Stp) : Prop where
  row : ∀ r ∈ rs, Row r
  srow : ∀ s ∈ ss, Row s.2
  len : rs.length ≤ 16
  slen : ss.length ≤ 100
  right : (walk (rs.map told) (ss.map tSt)).1 = none
theorem RRoad.of {m : Int} {rs : List (List Int)} (hF : Fm m rs) {ss : List Stp} (hR : RdR rs ss) : RRoad rs ss := ⟨fun r hr => (hF.row r hr).row hF.m6, hR.ok.row, hF.len, hR.len, hR.right⟩
section
variable {rs : List (List Int)} {ss : List Stp} (h : RRoad rs ss)
include h
theorem RRoad.okr : OkR (drL rs) := okR_L h.row
theorem RRoad.oks : OkS (dsL ss) := okS_L h.srow
theorem RRoad.walk : (walkF (ss.map tSt) 0 (enTh 0 (rs.map told)) (rs.map told).length).1 = none ∧ lastE (ss.map tSt) = true := by
  have hw := h.right
  unfold Tw.walk at hw
  split at hw
  · cases hw
  · rename_i t e
    split at hw
    · rename_i hE; exact ⟨by rw [e], hE⟩
    · cases hw
theorem RRoad.rows : ∀ r ∈ rs.map told, Row r := fun r hr => by
  obtain ⟨x, hx, rfl⟩ := List.mem_map.mp hr
  exact (h.row x hx).told
theorem RRoad.steps : ∀ s ∈ ss.map tSt, Row s.2 ∧ told s.2 = s.2 := fun s hs => by
  obtain ⟨x, hx, rfl⟩ := List.mem_map.mp hs
  exact ⟨(h.srow x hx).told, told_told (h.srow x hx)⟩
theorem RRoad.numC : NumC (enTh 0 (rs.map told)) (rs.map told).length := enTh_numC
end
end Tw

/-! RX: wrong roads raise; try; small things of the laws' own walks. -/
namespace Tw
open PySem L2
theorem sq_nx {g g' : SS} {ρ ρ' : List Cl} (h : g ρ = .nx ρ') : sSeq g g' ρ = g' ρ' := by unfold sSeq; rw [h]
theorem sq_ex {g g' : SS} {ρ ρ' : List Cl} {x : Xn} (h : g ρ = .ex x ρ') : sSeq g g' ρ = .ex x ρ' := by unfold sSeq; rw [h]
abbrev nrX (k : Nat) : Xn := ⟨"NotRight", some ("step", .int k)⟩
theorem right_steps_no {xr : DR} {xs : DS} (hr : OkR xr) (hs : OkS xs) (hl : xr.length ≤ 16) (hl2 : xs.length ≤ 100) {k : Nat} (hw : (walk (tDR xr) (tDS xs)).1 = some k) : m_right_steps [eDR xr, eDS xs] = .ex (nrX k) := by
  have hss := tDS_row hs
  have el1 : (tDR xr).length = xr.length := by unfold tDR; simp
  have el2 : (tDS xs).length = xs.length := by unfold tDS; simp
  have c1 : eCall m_rows_of (aCons (eVar 0) aNil) (hid (start0 6 [eDR xr, eDS xs])) = .ok (.lst ((tDR xr).map eT)) := by simp [rows_of_is hr hl]
  have c2 : eCall m_steps_of (aCons (eVar 1) aNil) (hid (start0 6 [eDR xr, eDS xs])) = .ok (.lst ((tDS xs).map eS)) := by simp [steps_of_is hs hl2]
  have c3 : eCall m_walked (aCons (eVar 2) (aCons (eVar 3) aNil)) (hid [.fz (eDR xr), .fz (eDS xs), .fz (.lst ((tDR xr).map eT)), .fz (.lst ((tDS xs).map eS)), .no, .no]) = .ok (.tup [atD (walk (tDR xr) (tDS xs)).1, eTh (walk (tDR xr) (tDS xs)).2]) := by
    simp only [s_eCall, s_aCons, s_aNil, s_eVar, s_hid1, s_h1, List.getElem?_cons_succ, List.getElem?_cons_zero, s_bind1, s_map]
    exact walked_is (tDR_row hr) (tDS_row hs) (by omega)
  have e1 : sPar2 2 3 false false (eCall m_rows_of (aCons (eVar 0) aNil)) (eCall m_steps_of (aCons (eVar 1) aNil)) (start0 6 [eDR xr, eDS xs]) = .nx [.fz (eDR xr), .fz (eDS xs), .fz (.lst ((tDR xr).map eT)), .fz (.lst ((tDS xs).map eS)), .no, .no] := by
    unfold sPar2
    simp only [c1, c2, s_step1]
    rfl
  have e2 : sBind (.tp [(.nm 4), (.nm 5)]) (eCall m_walked (aCons (eVar 2) (aCons (eVar 3) aNil))) [.fz (eDR xr), .fz (eDS xs), .fz (.lst ((tDR xr).map eT)), .fz (.lst ((tDS xs).map eS)), .no, .no] = .nx [.fz (eDR xr), .fz (eDS xs), .fz (.lst ((tDR xr).map eT)), .fz (.lst ((tDS xs).map eS)), .fz (.int k), .fz (eTh (walk (tDR xr) (tDS xs)).2)] := by
    unfold sBind
    simp only [c3, s_step1, s_bindTp, s_bindTs1, s_bindTs0, s_bindNm, Option.bind_some, Option.map_some, List.cons_append, List.nil_append, s_setsC1, s_setsC0, hw]
    rfl
  unfold m_right_steps runD g_right_steps
  rw [sq_nx e1, sq_nx e2]
  rfl
/-! ### try -/
theorem tryE_ok {tb : ClT} {c : Str} {i : Nat} {f : SE} {h : Xn → Addr → Addr → SS} {ρ : List Cl} {d : D} (e : f (frz ρ) = .ok d) : sTryE tb c i f h ρ = .nx ρ := by unfold sTryE; rw [e]
theorem tryE_ex {tb : ClT} {c : Str} {i : Nat} {f : SE} {h : Xn → Addr → Addr → SS} {ρ : List Cl} {x : Xn} {sups : List Str} {out : Out} (e : f (frz ρ) = .ex x) (l : tb.lookup x.C = some sups) (hc : sups.contains c = true) (hk : keepX x ρ = true)
    (hs : ∀ a o, wipe i (h x a o (ρ.set i (.fz (.exn a o (xfs x))))) = out) : sTryE tb c i f h ρ = out := by
  unfold sTryE
  rw [e]
  simp only [l]
  rw [if_pos hc, if_pos hk]
  unfold same
  rw [if_pos fun a b => (hs a b).trans (hs 0 0).symm]
  exact hs 0 0
theorem exnAt_self {a o : Addr} {fs : List (Str × D)} : exnAt a o (.exn a o fs) = some fs := if_pos ⟨rfl, rfl⟩
theorem xis {x : Xn} {p : Str × D} {C' : Str} {a o : Addr} {g : SE} {ρ : Ev} {sups : List Str} (hg : g ρ = .ok (.exn a o [p])) (hl : tbX.lookup x.C = some sups) : eXIs tbX x a o C' g ρ = .ok (.bl (sups.contains C')) := by
  unfold eXIs
  rw [hg, s_bind1]
  simp only [exnAt_self, hl]
  rfl
theorem xfl {Cs : List Str} {x : Xn} {f : Str} {d : D} {a o : Addr} {g : SE} {ρ : Ev} (hg : g ρ = .ok (.exn a o [(f, d)])) (hx : x.f.isSome = true) (hc : Cs.contains x.C = true) : eXF Cs x a o f g ρ = .ok d := by
  unfold eXF
  rw [hg, s_bind1]
  simp only [hx, hc, Bool.and_self, if_true, exnAt_self]
  simp [R.of]
theorem handed_is {ss : List Stp} (hl : ss.length ≤ 200) {i j k : Nat} {ρ : Ev} (h : ρ[k]? = some (some (.lst (ss.map eLS)))) (hij : i ≠ j) (hi : i < ρ.length) (hj : j < ρ.length) :
    eComp [i, j] (.tp [(.nm i), (.nm j)]) (iSeq (eVar k)) tTrue (eTup (aCons (eVar i) (aCons (eB dList (aCons (eVar j) aNil)) aNil))) ρ = .ok (.lst (ss.map eLS)) := by
  refine comp_is (ds := ss.map eLS) (es := ss.map eLS) (by simp [h]) ?_ (by simp; omega)
  refine compD_all fun s _ => ?_
  obtain ⟨b, r⟩ := s
  unfold compS
  have g1 : ((((ρ.set j none).set i none).set i (some (D.str (wd b)))).set j (some (eL r)))[i]? = some (some (.str (wd b))) := by
    rw [List.getElem?_set_ne (Ne.symm hij), List.getElem?_set_self (by simpa using hi)]
  have g2 : ((((ρ.set j none).set i none).set i (some (D.str (wd b)))).set j (some (eL r)))[j]? = some (some (eL r)) := by
    rw [List.getElem?_set_self (by simpa using hj)]
  have g3 : dList [eL r] = .ok (eL r) := rfl
  simp only [eLS, s_bindTp, s_bindTs1, s_bindTs0, s_bindNm, Option.bind_some, Option.map_some, List.cons_append, List.nil_append, s_wipe1, s_wipe0, s_setsD1, s_setsD0, s_tTrue, s_nox1, s_bind1, if_true, s_eTup, s_aCons, s_aNil, s_eVar, g1, s_eB, g2, g3, s_map, List.length_cons, List.length_nil, sz_of (show 0 + 1 + 1 ≤ 10000 by decide)]
theorem nc_SL {ss : List Stp} : nc 3 (.lst (ss.map eLS)) = true := nc_map fun s _ => by
  have h1 : nc 1 (.str (wd s.1)) = true := by cases s.1 <;> decide +kernel
  show ([.str (wd s.1), eL s.2] : List D).all (nc 1) = true
  simp only [List.all_cons, List.all_nil, nc_eL, h1]; rfl
theorem lst_init {α : Type} {f : α → D} {xs : List α} (h : 0 < xs.length) : dSl (.lst (xs.map f)) none (some (-1)) = .ok (.lst (xs.dropLast.map f)) := by
  show R.ok (D.lst (cutD (xs.map f) none (some (-1)))) = _
  rw [cut_map]
  unfold cutD
  have e : HT.sIx xs.length xs.length (some (-1)) = xs.length - 1 := by
    show (if (-1 : Int) < 0 then ((-1 : Int) + (xs.length : Int)).toNat else min (-1 : Int).toNat xs.length) = _
    rw [if_pos (by decide)]
    omega
  rw [e, HT.sIx_none, List.drop_zero, List.dropLast_eq_take]
  rfl
theorem isB_tt : dIsB true (.bl true) (.bl true) = .ok (.bl false) := rfl
end Tw

/-! L6: rows made lean. -/
namespace Tw
open PySem L2
/-- each row of A has a narrower one in B -/
def RowsN (A B : List (List Int)) : Prop := ∀ r ∈ A, ∃ r' ∈ B, (∀ s ∈ r', s ∈ r) ∧ r'.Nodup
theorem RowsN.closed {A B : List (List Int)} (h : RowsN A B) {M : List Int} (c : Closed B M) : Closed A M := fun r hr => by
  obtain ⟨r', h1, h2, h3⟩ := h r hr
  obtain ⟨c1, c2⟩ := c r' h1
  have sub : ∀ s ∈ left M r', s ∈ left M r := fun s hs => by
    obtain ⟨a, b⟩ := mem_left.mp hs
    exact mem_left.mpr ⟨h2 s a, b⟩
  have nd : (left M r').Nodup := h3.filter _
  cases q : left M r' with
  | nil => exact absurd q c1
  | cons a as =>
    rw [q] at sub nd
    have ha := sub a (by simp)
    refine ⟨fun e => (by rw [e] at ha; cases ha), fun s e => ?_⟩
    rw [e] at sub
    have e1 : a = s := List.mem_singleton.mp (sub a (by simp))
    have e2 : as = [] := by
      cases as with
      | nil => rfl
      | cons b bs =>
        have : b = s := List.mem_singleton.mp (sub b (by simp))
        subst this; subst e1
        simp at nd
    subst e1; subst e2
    exact c2 a q
theorem foll_narrow {t t' : Th} {r r' : List Int} (ht : GTh t) (ht' : GTh t') (hr : Row r) (hr' : Row r') (h : RowsN (t.map (·.2)) (t'.map (·.2))) (hs : ∀ s ∈ r, s ∈ r') (hf : foll t r = true) : foll t' r' = true := by
  cases q : foll t' r' with
  | true => rfl
  | false =>
    obtain ⟨M, c, s⟩ := (foll_false ht' hr').mp q
    have : foll t r = false := (foll_false ht hr).mpr ⟨M, h.closed c, fun x hx => by
      obtain ⟨y, hy, rfl⟩ := List.mem_map.mp hx
      exact s _ (List.mem_map.mpr ⟨y, hs y hy, rfl⟩)⟩
    rw [this] at hf; cases hf
theorem RowsN.refl {A : List (List Int)} (h : ∀ r ∈ A, Row r) : RowsN A A := fun r hr => ⟨r, hr, fun _ h => h, (h r hr).nodup⟩
def noS (s : Int) (r : List Int) : List Int := r.filter fun x => !decide (x = s)
theorem noS_sub {s : Int} {r : List Int} : ∀ x ∈ noS s r, x ∈ r := fun x h => (List.mem_filter.mp h).1
theorem Row.sl {r q : List Int} (h : Row r) (hq : q.Sublist r) : Row q := ⟨fun s hs => h.sub s (hq.subset hs), h.nd.sublist (hq.map absI)⟩
theorem Row.noS {r : List Int} (h : Row r) (s : Int) : Row (noS s r) := h.sl List.filter_sublist
/-- signs left out, one behind the other, where the row follows still -/
def lessF (t : Th) : List Int → List Int → List Int
  | [], q => q
  | s :: ss, q => lessF t ss (if foll t (noS s q) = true then noS s q else q)
theorem lessF_sub {t : Th} : ∀ {ss q : List Int}, (lessF t ss q).Sublist q
  | [], _ => .refl _
  | s :: ss, q => by
    unfold lessF
    split
    · exact (lessF_sub (ss := ss)).trans List.filter_sublist
    · exact lessF_sub
theorem lessF_foll {t : Th} : ∀ {ss q : List Int}, foll t q = true → foll t (lessF t ss q) = true
  | [], _, h => h
  | s :: ss, q, h => by
    unfold lessF
    split
    · rename_i h2; exact lessF_foll h2
    · exact lessF_foll h
theorem lessF_min {t : Th} (ht : GTh t) (hrt : ∀ r ∈ t.map (·.2), Row r) : ∀ {ss q : List Int}, Row q → ∀ s ∈ ss, s ∈ lessF t ss q → foll t (noS s (lessF t ss q)) = false
  | [], _, _, s, h, _ => by cases h
  | a :: ss, q, hq, s, h, hm => by
    unfold lessF at hm ⊢
    rcases List.mem_cons.mp h with rfl | h
    · by_cases hf : foll t (noS s q) = true
      · rw [if_pos hf] at hm
        have := (lessF_sub (t := t) (ss := ss) (q := noS s q)).subset hm
        have := (List.mem_filter.mp this).2
        simp at this
      · rw [if_neg hf] at hm ⊢
        cases e : foll t (noS s (lessF t ss q)) with
        | false => rfl
        | true =>
          exfalso
          refine hf (foll_narrow ht ht ((hq.sl lessF_sub).noS s) (hq.noS s) (RowsN.refl hrt) (fun x hx => ?_) e)
          obtain ⟨h1, h2⟩ := List.mem_filter.mp hx
          exact List.mem_filter.mpr ⟨(lessF_sub (t := t) (ss := ss)).subset h1, h2⟩
    · split at hm
      · rename_i hf; rw [if_pos hf]; exact lessF_min ht hrt (hq.noS a) s h hm
      · rename_i hf; rw [if_neg hf]; exact lessF_min ht hrt hq s h hm
theorem lessF_stay {t : Th} : ∀ {ss q : List Int}, (∀ s ∈ ss, foll t (noS s q) = false) → lessF t ss q = q
  | [], _, _ => rfl
  | s :: ss, q, h => by
    unfold lessF
    rw [h s (by simp), if_neg Bool.false_ne_true]
    exact lessF_stay fun x hx => h x (List.mem_cons_of_mem _ hx)
def minF (t : Th) (r : List Int) : List Int := lessF t r r
/-- what can't be made narrower -/
def Mn (t : Th) (q : List Int) : Prop := foll t q = true ∧ ∀ s ∈ q, foll t (noS s q) = false
theorem minF_mn {t : Th} (ht : GTh t) (hrt : ∀ r ∈ t.map (·.2), Row r) {r : List Int} (hr : Row r) (hf : foll t r = true) : Mn t (minF t r) :=
  ⟨lessF_foll hf, fun s hs => lessF_min ht hrt hr s (lessF_sub.subset hs) hs⟩
theorem Mn.stay {t : Th} {q : List Int} (h : Mn t q) : minF t q = q := lessF_stay h.2
/-- a row as it is told, narrower -/
theorem told_sorted {r : List Int} : told r = r ↔ r.Pairwise fun a b => absI a ≤ absI b := by
  constructor
  · intro h; rw [← h]; exact isort_sorted absI r
  · intro h; exact sort_unique (f := absI) (isort_sorted absI r) h fun c => isort_filter absI c r
theorem told_sub {r q : List Int} (h : told r = r) (hq : q.Sublist r) : told q = q := told_sorted.mpr ((told_sorted.mp h).sublist hq)
/-- the rows of a road made lean -/
def leanF : List Stp → Th → List (List Int)
  | [], _ => []
  | (true, _) :: ss, t => leanF ss t
  | (false, r) :: ss, t => minF t r :: leanF ss (t ++ [((t.length : Int), minF t r)])
/-- each one can't be made narrower, behind those ahead -/
def LnR : Th → List (List Int) → Prop
  | _, [] => True
  | t, q :: qs => (Row q ∧ told q = q ∧ Mn t q) ∧ LnR (t ++ [((t.length : Int), q)]) qs
theorem RTh.rows {t : Th} (h : RTh t) : ∀ r ∈ t.map (·.2), Row r := fun r hr => by
  obtain ⟨p, hp, rfl⟩ := List.mem_map.mp hr
  exact h.row p hp
theorem lean_ln : ∀ {ss : List Stp} {k : Nat} {t u : Th} {c : Int}, RTh t → RTh u → t.length + ss.length ≤ 390 → u.length + ss.length ≤ 390 → (∀ s ∈ ss, Row s.2 ∧ told s.2 = s.2) → (walkF ss k t c).1 = none → RowsN (t.map (·.2)) (u.map (·.2)) → LnR u (leanF ss u)
  | [], _, _, _, _, _, _, _, _, _, _, _ => trivial
  | (true, r) :: ss, k, t, u, c, ht, hu, hl, hl2, hs, hw, hN => by
    unfold walkF at hw
    simp only [List.length_cons] at hl hl2
    cases e : lastN t r with
    | none => rw [e] at hw; cases hw
    | some n =>
      rw [e] at hw
      have hwl := wout_len (t := t) (n := n)
      exact lean_ln (ss := ss) (ht.wout n) hu (by omega) (by omega) (fun s h => hs s (List.mem_cons_of_mem _ h)) hw fun q hq => by
        obtain ⟨p, hp, e⟩ := List.mem_map.mp hq
        exact hN q (List.mem_map.mpr ⟨p, (List.mem_filter.mp hp).1, e⟩)
  | (false, r) :: ss, k, t, u, c, ht, hu, hl, hl2, hs, hw, hN => by
    unfold walkF at hw
    simp only [List.length_cons] at hl hl2
    obtain ⟨hr, htr⟩ := hs (false, r) (by simp)
    have hr : Row r := hr
    have htr : told r = r := htr
    by_cases hf : foll t r = true
    · rw [if_pos hf] at hw
      have gu := hu.good (by omega)
      have fu : foll u r = true := foll_narrow (ht.good (by omega)) gu hr hr hN (fun _ h => h) hf
      have hm := minF_mn gu hu.rows hr fu
      have hq : Row (minF u r) := hr.sl lessF_sub
      refine ⟨⟨hq, told_sub htr lessF_sub, hm⟩, ?_⟩
      refine lean_ln (ss := ss) (ht.app hr c) (hu.app hq _) (by simp; omega) (by simp; omega) (fun s h => hs s (List.mem_cons_of_mem _ h)) hw fun q hq' => ?_
      rw [List.map_append] at hq' ⊢
      rcases List.mem_append.mp hq' with hq' | hq'
      · obtain ⟨r', h1, h2⟩ := hN q hq'
        exact ⟨r', List.mem_append_left _ h1, h2⟩
      · have : q = r := by simpa using hq'
        subst this
        exact ⟨minF u q, List.mem_append_right _ (by simp), lessF_sub.subset, hq.nodup⟩
    · rw [if_neg hf] at hw; cases hw
/-- lean again: the same -/
theorem ln_again : ∀ {qs : List (List Int)} {u : Th}, LnR u qs → leanF (qs.map fun q => ((false, q) : Stp)) u = qs
  | [], _, _ => rfl
  | q :: qs, u, ⟨⟨_, _, hm⟩, h⟩ => by
    show minF u q :: leanF _ (u ++ [((u.length : Int), minF u q)]) = _
    rw [hm.stay, ln_again h]
theorem ln_walk : ∀ {qs : List (List Int)} {k : Nat} {u : Th}, LnR u qs → (walkF (qs.map fun q => ((false, q) : Stp)) k u u.length).1 = none
  | [], _, _, _ => rfl
  | q :: qs, k, u, ⟨⟨_, _, hm⟩, h⟩ => by
    show (walkF ((false, q) :: _) k u u.length).1 = none
    unfold walkF
    rw [if_pos hm.1]
    have := ln_walk (k := k + 1) h
    rw [show ((u ++ [((u.length : Int), q)]).length : Int) = (u.length : Int) + 1 by simp] at this
    exact this
theorem ln_row : ∀ {qs : List (List Int)} {u : Th}, LnR u qs → ∀ q ∈ qs, Row q ∧ told q = q
  | q :: qs, u, ⟨⟨h1, h2, _⟩, h⟩, x, hx => by
    rcases List.mem_cons.mp hx with rfl | hx
    · exact ⟨h1, h2⟩
    · exact ln_row h x hx
theorem lean_last {ss : List Stp} {u : Th} (h : ss.getLast? = some (false, [])) : (leanF ss u).getLast? = some [] := by
  induction ss generalizing u with
  | nil => cases h
  | cons a ss ih =>
    obtain ⟨c, r⟩ := a
    cases ss with
    | nil =>
      have : (c, r) = (false, ([] : List Int)) := Option.some.inj h
      cases this
      rfl
    | cons s ss =>
      have h' : (s :: ss).getLast? = some (false, []) := by rw [← h]; simp
      cases c
      · show (minF u r :: leanF (s :: ss) (u ++ [((u.length : Int), minF u r)])).getLast? = some []
        have := ih (u := u ++ [((u.length : Int), minF u r)]) h'
        cases q : leanF (s :: ss) (u ++ [((u.length : Int), minF u r)]) with
        | nil => rw [q] at this; cases this
        | cons a as => rw [q] at this; simpa using this
      · exact ih (u := u) h'
theorem lean_len : ∀ {ss : List Stp} {u : Th}, (leanF ss u).length = (ss.filter fun s => !s.1).length
  | [], _ => rfl
  | (true, _) :: ss, u => lean_len (ss := ss)
  | (false, r) :: ss, u => by
    show (minF u r :: leanF ss _).length = _
    simp [lean_len (ss := ss)]
end Tw

/-! L6B: lean, walked. -/
namespace Tw
open PySem L2
theorem wp_retO {i : Nat} {ρ : List Cl} {N : List Cl → Prop} {Q : D → Prop} {d : D} (h : ρ[i]? = some (.ow d)) (q : Q d) : WP (sRetO i ρ) N Q := by
  unfold sRetO
  rw [h]; exact q
theorem nr_appI {i : Nat} {f : SE} : NR (sAppI i f) := fun ρ => by
  unfold sAppI
  split
  · exact nr_step fun d => by split <;> trivial
  · trivial
def eF (q : List Int) : D := eS (false, q)
theorem imm_ints : ∀ (r : List Int), immL (r.map D.int) = true
  | [] => by simp [immL]
  | a :: r => by simp [immL, D.imm, imm_ints r]
theorem imm_eT (r : List Int) : (eT r).imm = true := by unfold eT D.imm; exact imm_ints r
theorem imm_P (n : Int) (r : List Int) : (D.tup [.int n, eT r]).imm = true := by
  unfold D.imm immL immL immL
  rw [imm_eT]; simp [D.imm]
theorem nos_comp {r : List Int} {x : Int} (hl : r.length ≤ 1000) {i j k : Nat} {ρ : Ev} {d : D} (hd : IsR d r) (hj : ρ[j]? = some (some d)) (hk : ρ[k]? = some (some (.int x))) (hi : i < ρ.length) (hik : i ≠ k) :
    eComp [i] (.nm i) (iSeq (eVar j)) (tV (Tw.e2 dNe (eVar i) (eVar k))) (eVar i) ρ = .ok (eL (noS x r)) := by
  refine comp_is (ds := r.map D.int) (es := (noS x r).map D.int) (by simp [hj, hd.iter]) ?_ (by have := List.length_filter_le (fun y => !decide (y = x)) r; unfold noS; simp; omega)
  unfold noS
  refine compD_filter fun y _ => ?_
  unfold compS
  have g1 : ((ρ.set i none).set i (some (D.int y)))[i]? = some (some (.int y)) := by rw [List.getElem?_set_self (by simpa using hi)]
  have g2 : ((ρ.set i none).set i (some (D.int y)))[k]? = some (some (.int x)) := by rw [List.getElem?_set_ne hik, List.getElem?_set_ne hik, hk]
  simp only [s_bindNm, s_wipe1, s_wipe0, s_setsD1, s_setsD0, s_tV, s_e2, s_eVar, g1, g2, s_bind1, dNe_int, s_nox1, s_asB]
  by_cases h : y = x <;> simp [h]
theorem lean_is {xr : DR} {xs : DS} (hr : OkR xr) (hs : OkS xs) (hl : xr.length ≤ 16) (hl2 : xs.length ≤ 100) (hw : (walk (tDR xr) (tDS xs)).1 = none) :
    m_lean [eDR xr, eDS xs] = .ok (.lst ((leanF (tDS xs) (enTh 0 (tDR xr))).map eF)) := by
  have hss := tDS_row hs
  have hrr := tDR_row hr
  have el1 : (tDR xr).length = xr.length := by unfold tDR; simp
  have el2 : (tDS xs).length = xs.length := by unfold tDS; simp
  refine wp_is (wp_seq ?_)
  unfold sBind
  have c1 : eCall m_right_steps (aCons (eVar 0) (aCons (eVar 1) aNil)) (hid (start0 11 [eDR xr, eDS xs])) = .ok (.tup [.lst ((tDR xr).map eT), .lst ((tDS xs).map eS)]) := by simp [right_steps_is hr hs hl hl2 hw]
  simp only [c1, s_step1, s_bindTp, s_bindTs1, s_bindTs0, s_bindNm, Option.bind_some, Option.map_some, List.cons_append, List.nil_append, s_setsC1, s_setsC0]
  generalize eDR xr = F0
  generalize eDS xs = G0
  have hlen : (enTh 0 (tDR xr)).length + (tDS xs).length ≤ 390 := by rw [enTh_len]; omega
  have hth := enTh_row (n := 0) hrr
  have e1 : enumD 0 ((tDR xr).map eT) = (enTh 0 (tDR xr)).map eP := enum_rows 0 _
  generalize enTh 0 (tDR xr) = u0 at hlen hth e1
  generalize hR : D.lst ((tDR xr).map eT) = R0
  generalize tDS xs = ss at hss hlen
  show WP (sSeq _ _ [.fz F0, .fz G0, .fz R0, .fz (.lst (ss.map eS)), .no, .no, .no, .no, .no, .no, .no]) _ _
  refine wp_seq ?_
  unfold sPar2
  have p1 : eB dLEnum (aCons (eVar 2) aNil) (hid [.fz F0, .fz G0, .fz R0, .fz (.lst (ss.map eS)), .no, .no, .no, .no, .no, .no, .no]) = .ok (eTh u0) := by
    rw [← hR]
    simp only [s_eB, s_aCons, s_aNil, s_eVar, s_hid1, s_h1, List.getElem?_cons_succ, List.getElem?_cons_zero, s_bind1, s_map, dLEnum, s_nox1, e1]
    rfl
  have p2 : eLst aNil (hid [.fz F0, .fz G0, .fz R0, .fz (.lst (ss.map eS)), .no, .no, .no, .no, .no, .no, .no]) = .ok (.lst []) := by simp [sz_of]
  simp only [p1, p2, s_step1, s_cM1]
  show WP (sSeq _ _ [.fz F0, .fz G0, .fz R0, .fz (.lst (ss.map eS)), .ow (eTh u0), .ow (.lst []), .no, .no, .no, .no, .no]) _ _
  generalize hall : leanF ss u0 = all
  refine wp_seq (wp_for (xs := ss) (en := eS)
    (I := fun ys ρ => ∃ (u : Th) (qs : List (List Int)) (a b c d : Cl), RTh u ∧ u.length + ys.length ≤ 390 ∧ qs.length + ys.length ≤ 390 ∧ qs ++ leanF ys u = all ∧ (∀ s ∈ ys, Row s.2) ∧
      ρ = [.fz F0, .fz G0, .fz R0, .fz (.lst (ss.map eS)), .ow (eTh u), .ow (.lst (qs.map eF)), a, b, c, d, .no]) ?_ ?_ ?_ ?_)
  · simp
  · exact ⟨u0, [], _, _, _, _, hth, hlen, by simp; omega, hall, hss, rfl⟩
  · rintro ⟨b, r⟩ ys ρ _ ⟨u, qs, a1, a2, a3, a4, hu, hl1, hq, hv, hys, rfl⟩
    have hrow : Row r := hys (b, r) (by simp)
    have hys' : ∀ s ∈ ys, Row s.2 := fun s h => hys s (List.mem_cons_of_mem _ h)
    simp only [List.length_cons] at hl1 hq
    have hrl := hrow.len
    simp only [eS, s_body, s_bindTp, s_bindTs1, s_bindTs0, s_bindNm, Option.bind_some, Option.map_some, List.cons_append, List.nil_append, List.append_nil, s_setsC1, s_setsC0]
    show WP (sIf _ _ _ [.fz F0, .fz G0, .fz R0, .fz (.lst (ss.map eS)), .ow (eTh u), .ow (.lst (qs.map eF)), .fz (.str (wd b)), .fz (eT r), a3, a4, .no]) _ _
    refine wp_if (b := !b) ?_ (fun hb => ?_) (fun hb => wp_nil ?_)
    · simp only [s_tV, s_e2, s_eVar, s_frz1, s_f1, List.getElem?_cons_succ, List.getElem?_cons_zero, s_bind1, s_eC, wd_rowE, s_nox1, s_asB]
    · have hb : b = false := by simpa using hb
      subst hb
      have hg := hu.good (by omega)
      refine wp_seq (wp_for (xs := r) (en := D.int)
        (I := fun ss' ρ => ∃ (q : List Int) (a b : Cl), lessF u ss' q = minF u r ∧ q.Sublist r ∧
          ρ = [.fz F0, .fz G0, .fz R0, .fz (.lst (ss.map eS)), .ow (eTh u), .ow (.lst (qs.map eF)), .fz (.str (wd false)), .fz (eT q), a, b, .no]) ?_ ?_ ?_ ?_)
      · simp only [s_iSeq, s_eVar, s_hid1, s_h1, List.getElem?_cons_succ, List.getElem?_cons_zero, s_bind1]
        rfl
      · exact ⟨r, _, _, rfl, .refl _, rfl⟩
      · rintro x xs' ρ _ ⟨q, b1, b2, hq1, hq2, rfl⟩
        have hqr : Row q := hrow.sl hq2
        have hql := hqr.len
        simp only [s_body, s_bindNm, s_setsC1, s_setsC0]
        refine wp_seq (wp_set (d := eT (noS x q)) ?_ ?_)
        · have cc : eComp [10] (.nm 10) (iSeq (eVar 7)) (tV (Tw.e2 dNe (eVar 10) (eVar 8))) (eVar 10) (hid (List.set [.fz F0, .fz G0, .fz R0, .fz (.lst (ss.map eS)), .ow (eTh u), .ow (.lst (qs.map eF)), .fz (.str (wd false)), .fz (eT q), b1, b2, .no] 8 (.fz (.int x)))) = .ok (eL (noS x q)) :=
            nos_comp (by omega) (.inr rfl) rfl rfl (by show (10 : Nat) < 11; decide) (by decide)
          simp only [s_eB, s_aCons, s_aNil, cc, s_bind1, s_map, tuple_eL, s_nox1]
        show WP (sIf _ _ _ [.fz F0, .fz G0, .fz R0, .fz (.lst (ss.map eS)), .ow (eTh u), .ow (.lst (qs.map eF)), .fz (.str (wd false)), .fz (eT q), .fz (.int x), .fz (eT (noS x q)), .no]) _ _
        unfold lessF at hq1
        refine wp_if (b := foll u (noS x q)) ?_ (fun hb => ?_) (fun hb => wp_nil ?_)
        · simp only [s_tV, s_eCall, s_aCons, s_aNil, s_eVar, s_frz1, s_f1, s_f2, List.getElem?_cons_succ, List.getElem?_cons_zero, s_bind1, s_map, follows_is hg (.inr rfl) (hqr.noS x), s_asB]
        · rw [if_pos hb] at hq1
          exact wp_set (d := eT (noS x q)) rfl ⟨noS x q, _, _, hq1, List.filter_sublist.trans hq2, rfl⟩
        · rw [if_neg (by rw [hb]; simp)] at hq1
          exact ⟨q, _, _, hq1, hq2, rfl⟩
      · rintro ρ ⟨q, b1, b2, hq1, hq2, rfl⟩
        have hq1 : q = minF u r := hq1
        subst hq1
        have hqr : Row (minF u r) := hrow.sl hq2
        refine wp_seq ?_
        unfold sAppI
        have o1 : owL [.fz F0, .fz G0, .fz R0, .fz (.lst (ss.map eS)), .ow (eTh u), .ow (.lst (qs.map eF)), .fz (.str (wd false)), .fz (eT (minF u r)), b1, b2, .no] 4 = some (u.map eP) := rfl
        have o2 : eTup (aCons (eB dLen (aCons (eVar 4) aNil)) (aCons (eVar 7) aNil)) (frz [.fz F0, .fz G0, .fz R0, .fz (.lst (ss.map eS)), .ow (eTh u), .ow (.lst (qs.map eF)), .fz (.str (wd false)), .fz (eT (minF u r)), b1, b2, .no]) = .ok (.tup [.int u.length, eT (minF u r)]) := by
          simp [eTh, dLen, sz_of]
        have o3 : ((D.tup [.int u.length, eT (minF u r)]).imm && decide ((u.map eP).length < sizeLine)) = true := by
          rw [imm_P]; simp; unfold sizeLine; omega
        simp only [o1, o2, s_step1, o3, if_true]
        have e4 : List.set [Cl.fz F0, .fz G0, .fz R0, .fz (.lst (ss.map eS)), .ow (eTh u), .ow (.lst (qs.map eF)), .fz (.str (wd false)), .fz (eT (minF u r)), b1, b2, .no] 4 (.ow (.lst (u.map eP ++ [.tup [.int u.length, eT (minF u r)]]))) = [.fz F0, .fz G0, .fz R0, .fz (.lst (ss.map eS)), .ow (eTh (u ++ [((u.length : Int), minF u r)])), .ow (.lst (qs.map eF)), .fz (.str (wd false)), .fz (eT (minF u r)), b1, b2, .no] := by
          simp [eTh, eP]
        rw [e4]
        show WP (sApp _ _ [.fz F0, .fz G0, .fz R0, .fz (.lst (ss.map eS)), .ow (eTh (u ++ [((u.length : Int), minF u r)])), .ow (.lst (qs.map eF)), .fz (.str (wd false)), .fz (eT (minF u r)), b1, b2, .no]) _ _
        unfold sApp
        have s1 : owL [.fz F0, .fz G0, .fz R0, .fz (.lst (ss.map eS)), .ow (eTh (u ++ [((u.length : Int), minF u r)])), .ow (.lst (qs.map eF)), .fz (.str (wd false)), .fz (eT (minF u r)), b1, b2, .no] 5 = some (qs.map eF) := rfl
        have s2 : eTup (aCons (eC (.str "row")) (aCons (eVar 7) aNil)) (hid [.fz F0, .fz G0, .fz R0, .fz (.lst (ss.map eS)), .ow (eTh (u ++ [((u.length : Int), minF u r)])), .ow (.lst (qs.map eF)), .fz (.str (wd false)), .fz (eT (minF u r)), b1, b2, .no]) = .ok (eF (minF u r)) := by
          simp [sz_of]; rfl
        have s3 : decide ((qs.map eF).length < sizeLine) = true := decide_eq_true (by unfold sizeLine; simp; omega)
        simp only [s1, s2, s_step1, s3, if_true]
        exact ⟨u ++ [((u.length : Int), minF u r)], qs ++ [minF u r], .fz (.str (wd false)), .fz (eT (minF u r)), b1, b2, hu.app hqr _, by simp; omega, by simp; omega, by rw [← hv]; simp [leanF], hys', by simp⟩
    · have hb : b = true := by simpa using hb
      subst hb
      exact ⟨u, qs, _, _, _, _, hu, by omega, by omega, hv, hys', rfl⟩
  · rintro ρ ⟨u, qs, a1, a2, a3, a4, _, _, _, hv, _, rfl⟩
    have hv : qs = all := by simpa [leanF] using hv
    subst hv
    exact wp_retO (d := .lst (qs.map eF)) rfl rfl
theorem nr_lean : NR g_lean := by
  unfold g_lean
  repeat' first | exact nr_nil | exact nr_set | exact nr_aug | exact nr_app | exact nr_appI | exact nr_retF | exact nr_retO | exact nr_bind | exact nr_par2 | exact nr_par3 | apply nr_seq | apply nr_if | apply nr_for
theorem lean_isF {xr : DR} {xs : DS} (hr : OkR xr) (hs : OkS xs) (hl : xr.length ≤ 16) (hl2 : xs.length ≤ 100) (hw : (walk (tDR xr) (tDS xs)).1 = none) :
    mF_lean [eDR xr, eDS xs] = .ok (.lst ((leanF (tDS xs) (enTh 0 (tDR xr))).map eF)) := runF_of (lean_is hr hs hl hl2 hw) (by simp) nr_lean
theorem lean_no {xr : DR} {xs : DS} (hr : OkR xr) (hs : OkS xs) (hl : xr.length ≤ 16) (hl2 : xs.length ≤ 100) {k : Nat} (hw : (walk (tDR xr) (tDS xs)).1 = some k) : m_lean [eDR xr, eDS xs] = .ex (nrX k) := by
  have c1 : eCall m_right_steps (aCons (eVar 0) (aCons (eVar 1) aNil)) (hid (start0 11 [eDR xr, eDS xs])) = .ex (nrX k) := by simp [right_steps_no hr hs hl hl2 hw]
  unfold m_lean runD g_lean
  have e1 : sBind (.tp [(.nm 2), (.nm 3)]) (eCall m_right_steps (aCons (eVar 0) (aCons (eVar 1) aNil))) (start0 11 [eDR xr, eDS xs]) = .ex (nrX k) (start0 11 [eDR xr, eDS xs]) := by
    unfold sBind
    rw [c1]; rfl
  rw [sq_ex e1]
  rfl
end Tw

/-! L6C: what was made lean, looked at. -/
namespace Tw
open PySem L2
theorem in_eT {s : Int} {r : List Int} (hl : r.length ≤ 1000) : dInS false (.int s) (eT r) = .ok (.bl (decide (s ∈ r))) := by
  have h1 : shp (.int s) = true := nc_shp (n := 0) rfl (by decide)
  have h2 : shp (eT r) = true := nc_shp (n := 1) (nc_eT 0 r) (by decide)
  show (if (shp (.int s) && shp (eT r)) = true then R.ok (D.bl (if false = true then !anyP (.int s) (r.map D.int) else anyP (.int s) (r.map D.int))) else .no) = _
  rw [h1, h2, anyP_ints]; rfl
def cameF (ss : List Stp) : List (List Int) := (ss.filter fun s => !s.1).map (·.2)
theorem lean_zip : ∀ {ss : List Stp} {u : Th}, (∀ s ∈ ss, Row s.2) → ∀ p ∈ (leanF ss u).zip (cameF ss), p.1.Sublist p.2 ∧ Row p.2
  | [], _, _, p, hp => by simp [leanF, cameF] at hp
  | (true, r) :: ss, u, h, p, hp => lean_zip (ss := ss) (fun s hs => h s (List.mem_cons_of_mem _ hs)) p hp
  | (false, r) :: ss, u, h, p, hp => by
    have hp : p ∈ (minF u r, r) :: (leanF ss (u ++ [((u.length : Int), minF u r)])).zip (cameF ss) := hp
    rcases List.mem_cons.mp hp with rfl | hp
    · exact ⟨lessF_sub, h (false, r) (by simp)⟩
    · exact lean_zip (ss := ss) (fun s hs => h s (List.mem_cons_of_mem _ hs)) p hp
theorem zip_map_fst {α β : Type} : ∀ {xs : List α} {ys : List β}, xs.length = ys.length → (xs.zip ys).map (·.1) = xs
  | [], [], _ => rfl
  | x :: xs, y :: ys, h => by simp [zip_map_fst (xs := xs) (ys := ys) (by simpa using h)]
theorem zipD_map {α β : Type} {f : α → D} {g : β → D} : ∀ {xs : List α} {ys : List β}, zipD (xs.map f) (ys.map g) = (xs.zip ys).map fun p => .tup [f p.1, g p.2]
  | [], _ => by simp [zipD]
  | _ :: _, [] => by simp [zipD]
  | x :: xs, y :: ys => by simp [zipD, zipD_map (xs := xs) (ys := ys)]
theorem nc_row : nc 1 (.str "row") = true := by decide +kernel
theorem dAll_t {n : Nat} {bs : List Bool} (h : bs.all id = true) : dAll [.lst (bs.map D.bl)] = .ok (.bl true) := by
  show (match asBls (bs.map D.bl) with | some ns => R.ok (D.bl (ns.all id)) | none => .no) = _
  rw [asBls_of]; simp only [h]
theorem dAny_f {bs : List Bool} (h : bs.any id = false) : dAny [.lst (bs.map D.bl)] = .ok (.bl false) := by
  show (match asBls (bs.map D.bl) with | some ns => R.ok (D.bl (ns.any id)) | none => .no) = _
  rw [asBls_of]; simp only [h]
theorem eF_nc (n : Nat) (q : List Int) : nc (n + 2) (eF q) = true := nc_eS n (false, q)
theorem lean_right_is {rs : List (List Int)} {ss : List Stp} (h : RRoad rs ss) : m__law_lean_right [.lst (rs.map eL), .lst (ss.map eLS), .lst ((leanF (ss.map tSt) (enTh 0 (rs.map told))).map eF)] = .ok (.bl true) := by
  have hln := lean_ln (u := enTh 0 (rs.map told)) (enTh_row (n := 0) h.rows) (enTh_row (n := 0) h.rows) (by rw [enTh_len]; have := h.len; have := h.slen; simp; omega) (by rw [enTh_len]; have := h.len; have := h.slen; simp; omega) h.steps h.walk.1 (RowsN.refl (enTh_row (n := 0) h.rows).rows)
  have hzip := lean_zip (u := enTh 0 (rs.map told)) fun s hs => (h.steps s hs).1
  have hlen : (leanF (ss.map tSt) (enTh 0 (rs.map told))).length = (cameF (ss.map tSt)).length := by rw [lean_len]; unfold cameF; simp
  have hlast := lean_last (u := enTh 0 (rs.map told)) (of_decide_eq_true h.walk.2)
  have hcl : (cameF (ss.map tSt)).length ≤ 100 := by
    unfold cameF
    have h1 := List.length_filter_le (fun s : Stp => !s.1) (ss.map tSt)
    have := h.slen
    simp at h1 ⊢
    omega
  have hul : (enTh 0 (rs.map told)).length ≤ 16 := by rw [enTh_len]; have := h.len; simp; omega
  have hth := enTh_row (n := 0) h.rows
  have e1 : enumD 0 ((rs.map told).map eT) = (enTh 0 (rs.map told)).map eP := enum_rows 0 _
  have hcame : eComp [5, 8] (.tp [(.nm 5), (.nm 8)]) (iSeq (eVar 1)) (tV (Tw.e2 dEq (eVar 5) (eC (.str "row")))) (eCall m__law_told (aCons (eVar 8) aNil)) (hid [.fz (.lst (rs.map eL)), .fz (.lst (ss.map eLS)), .fz (.lst ((leanF (ss.map tSt) (enTh 0 (rs.map told))).map eF)), .ow (eTh (enTh 0 (rs.map told))), .no, .no, .no, .no, .no, .no, .no]) = .ok (.lst ((cameF (ss.map tSt)).map eT)) := by
    have e3 : (cameF (ss.map tSt)).map eT = (ss.filter fun s => !s.1).map fun s => eT (told s.2) := by
      unfold cameF
      rw [List.filter_map, List.map_map, List.map_map]
      rfl
    refine comp_is (ds := ss.map eLS) (by simp) ?_ (by simp; omega)
    rw [e3]
    refine compD_filter fun s _ => ?_
    obtain ⟨b, r⟩ := s
    simp [eLS, wd_rowE, law_told_is (d := eL r) (.inl rfl)]
    cases b <;> rfl
  refine wp_is (wp_seq ?_)
  unfold sSetF
  have c0 : eB dLEnum (aCons (eComp [6] (.nm 6) (iSeq (eVar 0)) tTrue (eCall m__law_told (aCons (eVar 6) aNil))) aNil) (hid (start0 11 [.lst (rs.map eL), .lst (ss.map eLS), .lst ((leanF (ss.map tSt) (enTh 0 (rs.map told))).map eF)])) = .ok (eTh (enTh 0 (rs.map told))) := by
    have t := told_comp h.okr (by unfold drL; simp; have := h.len; omega) (i := 6) (j := 0) (ρ := hid (start0 11 [.lst (rs.map eL), .lst (ss.map eLS), .lst ((leanF (ss.map tSt) (enTh 0 (rs.map told))).map eF)])) (by rw [eDR_L]; rfl) (by decide) (by show (6 : Nat) < 11; decide)
    rw [tDR_L] at t
    simp only [s_eB, s_aCons, s_aNil, t, s_bind1, s_map, dLEnum, s_nox1, e1]
    rfl
  show WP (step (eB dLEnum _ (hid (start0 11 [.lst (rs.map eL), .lst (ss.map eLS), .lst ((leanF (ss.map tSt) (enTh 0 (rs.map told))).map eF)]))) _ _) _ _
  rw [c0, s_step1]
  show WP (sSeq _ _ [.fz (.lst (rs.map eL)), .fz (.lst (ss.map eLS)), .fz (.lst ((leanF (ss.map tSt) (enTh 0 (rs.map told))).map eF)), .ow (eTh (enTh 0 (rs.map told))), .no, .no, .no, .no, .no, .no, .no]) _ _
  refine wp_seq (wp_set (d := .lst ((cameF (ss.map tSt)).map eT)) hcame ?_)
  generalize leanF (ss.map tSt) (enTh 0 (rs.map told)) = qs at hln hzip hlen hlast
  generalize cameF (ss.map tSt) = cs at hzip hlen hcl
  generalize enTh 0 (rs.map told) = u0 at hln hul hth
  generalize D.lst (rs.map eL) = R0
  generalize D.lst (ss.map eLS) = S0
  show WP (sSeq _ _ [.fz R0, .fz S0, .fz (.lst (qs.map eF)), .ow (eTh u0), .fz (.lst (cs.map eT)), .no, .no, .no, .no, .no, .no]) _ _
  refine wp_seq (wp_if (b := false) ?_ (fun h => by cases h) fun _ => wp_nil ?_)
  · simp only [s_tV, s_e2, s_eB, s_aCons, s_aNil, s_eVar, s_frz1, s_f1, List.getElem?_cons_succ, List.getElem?_cons_zero, s_bind1, s_map, dLen_lst, s_nox1, List.length_map, hlen, dNe_int, s_asB]
    simp
  refine wp_seq (wp_for (xs := qs.zip cs) (en := fun p => .tup [eF p.1, eT p.2])
    (I := fun ys ρ => ∃ (u : Th) (a b c : Cl), RTh u ∧ u.length + ys.length ≤ 150 ∧ LnR u (ys.map (·.1)) ∧ (∀ p ∈ ys, p.1.Sublist p.2 ∧ Row p.2) ∧ ρ = [.fz R0, .fz S0, .fz (.lst (qs.map eF)), .ow (eTh u), .fz (.lst (cs.map eT)), a, b, c, .no, .no, .no]) ?_ ?_ ?_ ?_)
  · simp only [s_iRg, s_aCons, s_aNil, s_eVar, s_hid1, s_h1, List.getElem?_cons_succ, List.getElem?_cons_zero, s_bind1, s_map, dZip, zipD_map]
  · refine ⟨u0, _, _, _, hth, ?_, by rw [zip_map_fst hlen]; exact hln, hzip, rfl⟩
    rw [List.length_zip]; omega
  · rintro ⟨q, c⟩ ys ρ _ ⟨u, a1, a2, a3, hu, hl, hn, hz, rfl⟩
    obtain ⟨hsub, hc⟩ := hz (q, c) (by simp)
    have hsub : q.Sublist c := hsub
    have hc : Row c := hc
    obtain ⟨⟨hq, htq, hm⟩, hn'⟩ : LnR u (q :: ys.map (fun p : List Int × List Int => p.1)) := hn
    simp only [List.length_cons] at hl
    have hg := hu.good (by omega)
    have hql := hq.len
    have hcl' := hc.len
    simp only [eF, eS, s_body, s_bindTp, s_bindTs1, s_bindTs0, s_bindNm, Option.bind_some, Option.map_some, List.cons_append, List.nil_append, List.append_nil, s_setsC1, s_setsC0]
    show WP (sSeq _ _ [.fz R0, .fz S0, .fz (.lst (qs.map eF)), .ow (eTh u), .fz (.lst (cs.map eT)), .fz (.str "row"), .fz (eT q), .fz (eT c), .no, .no, .no]) _ _
    have n1 : dNe (.str "row") (.str "row") = .ok (.bl false) := dNe_self nc_row (by decide)
    have n2 : dNe (eT q) (eT q) = .ok (.bl false) := dNe_self (nc_eT 0 q) (by decide)
    have t1 : m__law_told [eT q] = .ok (eT q) := by rw [law_told_is (.inr rfl), htq]
    refine wp_seq (wp_if (b := false) ?_ (fun h => by cases h) fun _ => wp_nil ?_)
    · have cc : eComp [9] (.nm 9) (iSeq (eVar 6)) tTrue (Tw.e2 (dInS false) (eVar 9) (eVar 7)) (frz [.fz R0, .fz S0, .fz (.lst (qs.map eF)), .ow (eTh u), .fz (.lst (cs.map eT)), .fz (.str "row"), .fz (eT q), .fz (eT c), .no, .no, .no]) = .ok (.lst ((q.map fun s => decide (s ∈ c)).map D.bl)) := by
        rw [List.map_map]
        refine comp_is (ds := q.map D.int) (by simp [eT, iterD]) ?_ (by simp; omega)
        refine compD_all fun s _ => ?_
        simp [in_eT (s := s) (r := c) (by omega)]
      have ca : dAll [.lst ((q.map fun s => decide (s ∈ c)).map D.bl)] = .ok (.bl true) := dAll_t (n := 0) (by simp; exact fun s hs => hsub.subset hs)
      simp only [s_tOr, s_tNo, s_tV, s_e2, s_eB, s_eCall, s_aCons, s_aNil, cc]
      simp only [s_eVar, s_eC, s_frz1, s_f1, s_f2, List.getElem?_cons_succ, List.getElem?_cons_zero, s_bind1, s_map, n1, t1, n2, ca, s_nox1, s_asB]
      rfl
    refine wp_seq (wp_if (b := false) ?_ (fun h => by cases h) fun _ => wp_nil ?_)
    · simp only [s_tNo, s_tV, s_eCall, s_aCons, s_aNil, s_eVar, s_frz1, s_f1, s_f2, List.getElem?_cons_succ, List.getElem?_cons_zero, s_bind1, s_map, law_follows_is hg (.inr rfl) hq, hm.1, s_asB]
      rfl
    refine wp_seq (wp_if (b := false) ?_ (fun h => by cases h) fun _ => wp_nil ?_)
    · have cc : eComp [9] (.nm 9) (iSeq (eVar 6)) tTrue (eCall m__law_follows (aCons (eVar 3) (aCons (eComp [10] (.nm 10) (iSeq (eVar 6)) (tV (Tw.e2 dNe (eVar 10) (eVar 9))) (eVar 10)) aNil))) (frz [.fz R0, .fz S0, .fz (.lst (qs.map eF)), .ow (eTh u), .fz (.lst (cs.map eT)), .fz (.str "row"), .fz (eT q), .fz (eT c), .no, .no, .no]) = .ok (.lst ((q.map fun _ => false).map D.bl)) := by
        rw [List.map_map]
        refine comp_is (ds := q.map D.int) (by simp [eT, iterD]) ?_ (by simp; omega)
        refine compD_all fun s hs => ?_
        have ic : eComp [10] (.nm 10) (iSeq (eVar 6)) (tV (Tw.e2 dNe (eVar 10) (eVar 9))) (eVar 10) (List.set (List.set (frz [.fz R0, .fz S0, .fz (.lst (qs.map eF)), .ow (eTh u), .fz (.lst (cs.map eT)), .fz (.str "row"), .fz (eT q), .fz (eT c), .no, .no, .no]) 9 none) 9 (some (D.int s))) = .ok (eL (noS s q)) :=
          nos_comp (by omega) (.inr rfl) rfl rfl (by show (10 : Nat) < 11; decide) (by decide)
        have fl : m__law_follows [eTh u, eL (noS s q)] = .ok (.bl false) := by rw [law_follows_is hg (.inl rfl) (hq.noS s), hm.2 s hs]
        unfold compS
        simp only [s_bindNm, s_wipe1, s_wipe0, s_setsD1, s_setsD0, s_tTrue, s_nox1, s_bind1, if_true, s_eCall, s_aCons, s_aNil, ic, s_map]
        have g3 : eVar 3 (List.set (List.set (frz [.fz R0, .fz S0, .fz (.lst (qs.map eF)), .ow (eTh u), .fz (.lst (cs.map eT)), .fz (.str "row"), .fz (eT q), .fz (eT c), .no, .no, .no]) 9 none) 9 (some (D.int s))) = .ok (eTh u) := rfl
        simp only [g3, s_bind1, fl, s_nox1]
        rfl
      have ca : dAny [.lst ((q.map fun _ => false).map D.bl)] = .ok (.bl false) := dAny_f (by simp)
      simp only [s_tV, s_eB, s_aCons, s_aNil, cc, s_bind1, s_map, ca, s_nox1, s_asB]
    show WP (sAppI _ _ [.fz R0, .fz S0, .fz (.lst (qs.map eF)), .ow (eTh u), .fz (.lst (cs.map eT)), .fz (.str "row"), .fz (eT q), .fz (eT c), .no, .no, .no]) _ _
    unfold sAppI
    have o1 : owL [.fz R0, .fz S0, .fz (.lst (qs.map eF)), .ow (eTh u), .fz (.lst (cs.map eT)), .fz (.str "row"), .fz (eT q), .fz (eT c), .no, .no, .no] 3 = some (u.map eP) := rfl
    have o2 : eTup (aCons (eB dLen (aCons (eVar 3) aNil)) (aCons (eVar 6) aNil)) (frz [.fz R0, .fz S0, .fz (.lst (qs.map eF)), .ow (eTh u), .fz (.lst (cs.map eT)), .fz (.str "row"), .fz (eT q), .fz (eT c), .no, .no, .no]) = .ok (.tup [.int u.length, eT q]) := by
      simp [eTh, dLen, sz_of]
    have o3 : ((D.tup [.int u.length, eT q]).imm && decide ((u.map eP).length < sizeLine)) = true := by
      rw [imm_P]; simp; unfold sizeLine; omega
    simp only [o1, o2, s_step1, o3, if_true]
    exact ⟨u ++ [((u.length : Int), q)], .fz (.str "row"), .fz (eT q), .fz (eT c), hu.app hq _, by simp; omega, hn', fun p hp => hz p (List.mem_cons_of_mem _ hp), by simp [eTh, eP]⟩
  · rintro ρ ⟨u, a1, a2, a3, _, _, _, _, rfl⟩
    refine wp_ret (d := .bl true) ?_ rfl
    have l1 : dGet (.lst (qs.map eF)) (.int (-1)) = .ok (eF []) := last_map hlast
    have l2 : dEq (eF []) (.tup [.str "row", .tup []]) = .ok (.bl true) := by kernel_rfl
    simp only [s_e2, s_e1, s_eTup, s_aCons, s_aNil, s_eVar, s_eC, s_frz1, s_f1, List.getElem?_cons_succ, List.getElem?_cons_zero, s_bind1, s_map, s_neg, s_nox1, l1, List.length_nil, List.length_cons, sz_of (show 0 ≤ 10000 by decide), sz_of (show 0 + 1 + 1 ≤ 10000 by decide), if_true, l2]
end Tw

/-! the law's tail, a closed look. -/
namespace Tw
open PySem L2
def tailG : SS := (sSeq (sSet 3 (eLst (aCons (eLst (aCons (eC (.int 1)) (aCons (eC (.int 2)) aNil))) (aCons (eLst (aCons (e1 dNeg (eC (.int 1))) (aCons (eC (.int 2)) aNil))) (aCons (eLst (aCons (e1 dNeg (eC (.int 2))) (aCons (eC (.int 3)) aNil))) (aCons (eLst (aCons (e1 dNeg (eC (.int 3))) aNil)) aNil)))))) (sSeq (sFz [8] (sSetF 8 (eCall mF_lean (aCons (eVar 3) (aCons (eLst (aCons (eTup (aCons (eC (.str "row")) (aCons (eLst (aCons (eC (.int 2)) (aCons (eC (.int 3)) aNil))) aNil))) (aCons (eTup (aCons (eC (.str "drop")) (aCons (eLst (aCons (eC (.int 1)) (aCons (eC (.int 2)) aNil))) aNil))) (aCons (eTup (aCons (eC (.str "row")) (aCons (eLst aNil) aNil))) aNil)))) aNil))))) (sRet (eAn (e2 dEq (eVar 8) (eLst (aCons (eTup (aCons (eC (.str "row")) (aCons (eTup aNil) aNil))) (aCons (eTup (aCons (eC (.str "row")) (aCons (eTup aNil) aNil))) aNil)))) (e2 dEq (eCall m_lean (aCons (eVar 3) (aCons (eLst (aCons (eTup (aCons (eC (.str "row")) (aCons (eLst aNil) aNil))) aNil)) aNil))) (eLst (aCons (eTup (aCons (eC (.str "row")) (aCons (eTup aNil) aNil))) aNil)))))))
theorem tail_is (c0 c1 c2 c3 c4 c5 c6 c7 c9 c10 c11 c12 : Cl) : outR (tailG [c0, c1, c2, c3, c4, c5, c6, c7, .ow (.lst []), c9, c10, c11, c12]) = .ok (.bl true) := by
  kernel_rfl
end Tw

/-! L6D: roads made wider; refused. -/
namespace Tw
open PySem L2
theorem absI_1 {x m : Int} (hm : 1 ≤ m) (h : absI x = m) : x = m ∨ x = -m := by
  unfold absI at h
  split at h <;> omega
theorem row_more {r : List Int} (hr : Row r) {mk : Int} (h1 : 1 ≤ mk) (h6 : mk ≤ 6) (ha : mk ∉ r) (hb : -mk ∉ r) : Row (r ++ [mk]) := ⟨fun s hs => by
  rcases List.mem_append.mp hs with h | h
  · exact hr.sub s h
  · rw [List.mem_singleton.mp h]
    have : mk = 1 ∨ mk = 2 ∨ mk = 3 ∨ mk = 4 ∨ mk = 5 ∨ mk = 6 := by omega
    rcases this with rfl | rfl | rfl | rfl | rfl | rfl <;> decide, by
  rw [List.map_append]
  refine List.nodup_append.mpr ⟨hr.nd, by simp, fun a ha' b hb' e => ?_⟩
  obtain ⟨x, hx, rfl⟩ := List.mem_map.mp ha'
  have : b = absI mk := by simpa using hb'
  have e2 : absI mk = mk := absI_pos (by omega)
  rcases absI_1 h1 (show absI x = mk by rw [e, this, e2]) with q | q
  · exact ha (q ▸ hx)
  · exact hb (q ▸ hx)⟩
theorem law_wider_is {m : Int} {rs : List (List Int)} (hF : Fm m rs) {ss : List Stp} (hR : RdR rs ss) (n : Int) : ∃ ss', RdR rs ss' ∧ m__law_wider [.lst (rs.map eL), .lst (ss.map eLS), .int m, .int n] = .ok (.lst (ss'.map eLS)) := by
  have hm1 := hF.m1
  have hm6 := hF.m6
  have hrow : ∀ r ∈ rs, Row r := fun r hr => (hF.row r hr).row hm6
  have okr := okR_L hrow
  have hrl := hF.len
  have w : WP (g__law_wider (start0 10 [.lst (rs.map eL), .lst (ss.map eLS), .int m, .int n])) (fun _ => ∃ ss', RdR rs ss' ∧ D.non = .lst (ss'.map eLS)) (fun d => ∃ ss', RdR rs ss' ∧ d = .lst (ss'.map eLS)) := by
    unfold g__law_wider
    have hwk : ∀ o : List Stp, (∀ s ∈ o, Row s.2) → o.length ≤ 300 → m__law_walked [.lst (rs.map eL), .lst (o.map eLS)] = .ok (.tup [.int (atL (walk (rs.map told) (o.map tSt)).1), eTh (walk (rs.map told) (o.map tSt)).2]) := fun o ho hl => by
      have h := law_walked_is okr (okS_L ho) (by unfold drL dsL; simp; omega)
      rw [eDR_L, eDS_L, tDR_L, tDS_L] at h
      exact h
    generalize hR0 : D.lst (rs.map eL) = R0 at hwk
    show WP (sSeq _ _ [.fz R0, .fz (.lst (ss.map eLS)), .fz (.int m), .fz (.int n), .no, .no, .no, .no, .no, .no]) _ _
    refine wp_seq (wp_for (xs := List.range 3) (en := fun (i : Nat) => D.int ((0 : Int) + i))
      (I := fun ys ρ => (∀ i ∈ ys, i < 3) ∧ ∃ (ss : List Stp) (a b c d e f : Cl), RdR rs ss ∧ ρ = [.fz R0, .fz (.lst (ss.map eLS)), .fz (.int m), .fz (.int n), a, b, c, d, e, f]) rfl ⟨fun i hi => List.mem_range.mp hi, ss, _, _, _, _, _, _, hR, rfl⟩ ?_ ?_)
    · rintro i ys ρ _ ⟨hi, ss, a, b, c, d, e, f, hR, rfl⟩
      have hi3 := hi i (by simp)
      have hi' : ∀ i ∈ ys, i < 3 := fun x hx => hi x (List.mem_cons_of_mem _ hx)
      have hsl : 0 < ss.length := List.length_pos_iff.mpr hR.ok.ne
      have hs1 := hR.len
      simp only [s_body, s_bindNm, s_setsC1, s_setsC0]
      generalize hb : (0 : Int) + (i : Int) = b0
      have e1 : (1 + b0) ≠ 0 := by omega
      have e2 : (1 + b0).natAbs < 1073741824 := by omega
      have e3 : (5 + b0) ≠ 0 := by omega
      have e4 : (5 + b0).natAbs < 1073741824 := by omega
      have hl0 : (0 : Int) < ss.length := by omega
      have k0 := fm0 (a := n.fdiv (1 + b0)) hl0
      have k1 := fm1 (a := n.fdiv (1 + b0)) hl0
      obtain ⟨k, hk⟩ : ∃ k : Nat, (n.fdiv (1 + b0)).fmod ss.length = k := ⟨_, (Int.toNat_of_nonneg k0).symm⟩
      have hkl : k < ss.length := by omega
      have j0 := fm0 (a := n.fdiv (5 + b0)) (b := m) (by omega)
      have j1 := fm1 (a := n.fdiv (5 + b0)) (b := m) (by omega)
      generalize hmk : 1 + (n.fdiv (5 + b0)).fmod m = mk
      have mk1 : 1 ≤ mk := by omega
      have mk6 : mk ≤ 6 := by omega
      refine wp_seq ?_
      unfold sPar2
      have p1 : Tw.e2 dMod (Tw.e2 dFdiv (eVar 3) (Tw.e2 dAdd (eC (.int 1)) (eVar 4))) (eB dLen (aCons (eVar 1) aNil)) (hid (List.set [.fz R0, .fz (.lst (ss.map eLS)), .fz (.int m), .fz (.int n), a, b, c, d, e, f] 4 (.fz (.int b0)))) = .ok (.int k) := by
        simp [dAdd_ii, dFdiv_ii e1 e2, dLen, dMod_ii (show (ss.length : Int) ≠ 0 by omega), hk]
      have p2 : Tw.e2 dAdd (eC (.int 1)) (Tw.e2 dMod (Tw.e2 dFdiv (eVar 3) (Tw.e2 dAdd (eC (.int 5)) (eVar 4))) (eVar 2)) (hid (List.set [.fz R0, .fz (.lst (ss.map eLS)), .fz (.int m), .fz (.int n), a, b, c, d, e, f] 4 (.fz (.int b0)))) = .ok (.int mk) := by
        simp [dAdd_ii, dFdiv_ii e3 e4, dMod_ii (show m ≠ 0 by omega), hmk]
      rw [p1, s_step1, p2, s_step1, s_cM2, s_cM2]
      show WP (sSeq _ _ [.fz R0, .fz (.lst (ss.map eLS)), .fz (.int m), .fz (.int n), .fz (.int b0), .fz (.int k), .fz (.int mk), d, e, f]) _ _
      obtain ⟨s, hs⟩ : ∃ s, ss[k]? = some s := ⟨_, List.getElem?_eq_getElem hkl⟩
      obtain ⟨w, r⟩ := s
      have hrr : Row r := hR.ok.row (w, r) (List.mem_of_getElem? hs)
      have hrl' := hrr.len
      refine wp_seq ?_
      unfold sBind
      have g1 : Tw.e2 dGet (eVar 1) (eVar 5) (hid [.fz R0, .fz (.lst (ss.map eLS)), .fz (.int m), .fz (.int n), .fz (.int b0), .fz (.int k), .fz (.int mk), d, e, f]) = .ok (eLS (w, r)) := by
        have : dGet (.lst (ss.map eLS)) (.int k) = .ok (eLS (w, r)) := by
          show R.of (atI (ss.map eLS) k) = _
          unfold atI ixN
          rw [if_pos (by omega), if_pos (by simp; omega)]
          simp [hs, R.of]
        simp [this]
      rw [g1, s_step1]
      simp only [eLS, s_bindTp, s_bindTs1, s_bindTs0, s_bindNm, Option.bind_some, Option.map_some, List.cons_append, List.nil_append, s_setsC1, s_setsC0]
      show WP (sIf _ _ _ [.fz R0, .fz (.lst (ss.map eLS)), .fz (.int m), .fz (.int n), .fz (.int b0), .fz (.int k), .fz (.int mk), .fz (.str (wd w)), .fz (eL r), f]) _ _
      refine wp_if (b := !w && (!decide (mk ∈ r) && !decide (-mk ∈ r))) ?_ (fun hc => ?_) (fun _ => wp_nil ⟨hi', ss, _, _, _, _, _, _, hR, rfl⟩)
      · have i1 : dInS true (.int mk) (eL r) = .ok (.bl (!decide (mk ∈ r))) := in_ints
        have i2 : dInS true (.int (-mk)) (eL r) = .ok (.bl (!decide (-mk ∈ r))) := in_ints
        simp only [s_tAn, s_tV, s_e1, s_e2, s_eVar, s_eC, s_frz1, s_f1, List.getElem?_cons_succ, List.getElem?_cons_zero, s_bind1, wd_rowE, s_nox1, s_asB, i1, s_neg, i2]
        cases w <;> cases decide (mk ∈ r) <;> cases decide (-mk ∈ r) <;> rfl
      · simp only [Bool.and_eq_true, Bool.not_eq_true', decide_eq_false_iff_not] at hc
        obtain ⟨hw, ha, hb'⟩ := hc
        have hw : w = false := hw
        subst hw
        have hrm := row_more hrr mk1 mk6 ha hb'
        have q1 : eSl (eVar 1) oNone (oSome (eVar 5)) (hid [.fz R0, .fz (.lst (ss.map eLS)), .fz (.int m), .fz (.int n), .fz (.int b0), .fz (.int k), .fz (.int mk), .fz (.str (wd false)), .fz (eL r), f]) = .ok (.lst ((ss.take k).map eLS)) := slL (f := eLS) rfl rfl
        have q2 : eSl (eVar 1) (oSome (Tw.e2 dAdd (eVar 5) (eC (.int 1)))) oNone (hid [.fz R0, .fz (.lst (ss.map eLS)), .fz (.int m), .fz (.int n), .fz (.int b0), .fz (.int k), .fz (.int mk), .fz (.str (wd false)), .fz (eL r), f]) = .ok (.lst ((ss.drop (k + 1)).map eLS)) :=
          slR (f := eLS) rfl (by simp [dAdd_ii]) (by omega)
        have q3 : dAdd (eL r) (.lst [.int mk]) = .ok (eL (r ++ [mk])) := by
          show dAdd (.lst (r.map D.int)) (.lst [.int mk]) = _
          rw [dAdd_lst (by simp; omega)]; simp [eL]
        have q4 : dAdd (.lst ((ss.take k).map eLS)) (.lst [.tup [.str (wd false), eL (r ++ [mk])]]) = .ok (.lst ((ss.take k ++ [((false, r ++ [mk]) : Stp)]).map eLS)) := by
          rw [dAdd_lst (by simp; omega)]; simp [eLS]
        have q5 : dAdd (.lst ((ss.take k ++ [((false, r ++ [mk]) : Stp)]).map eLS)) (.lst ((ss.drop (k + 1)).map eLS)) = .ok (.lst ((ss.take k ++ [((false, r ++ [mk]) : Stp)] ++ ss.drop (k + 1)).map eLS)) := by
          rw [dAdd_lst (by simp; omega)]; simp
        have q6 : dList [eL r] = .ok (eL r) := rfl
        refine wp_seq (wp_set (d := .lst ((ss.take k ++ [((false, r ++ [mk]) : Stp)] ++ ss.drop (k + 1)).map eLS)) ?_ ?_)
        · simp only [s_e2, q1, q2, s_bind1, s_eLst, s_eTup, s_eB, s_aCons, s_aNil]
          simp only [s_eVar, s_hid1, s_h1, List.getElem?_cons_succ, List.getElem?_cons_zero, s_bind1, s_map, q6, s_nox1, List.length_cons, List.length_nil, sz_of (show 0 + 1 ≤ 10000 by decide), sz_of (show 0 + 1 + 1 ≤ 10000 by decide), if_true, q3, q4, q5]
        show WP (sIf _ _ _ [.fz R0, .fz (.lst (ss.map eLS)), .fz (.int m), .fz (.int n), .fz (.int b0), .fz (.int k), .fz (.int mk), .fz (.str (wd false)), .fz (eL r), .fz (.lst ((ss.take k ++ [((false, r ++ [mk]) : Stp)] ++ ss.drop (k + 1)).map eLS))]) _ _
        generalize ho : ss.take k ++ [((false, r ++ [mk]) : Stp)] ++ ss.drop (k + 1) = o
        have hol : o.length = ss.length := by rw [← ho]; simp; omega
        have hor : ∀ s ∈ o, Row s.2 := fun s hs' => by
          rw [← ho] at hs'
          rcases List.mem_append.mp hs' with h | h
          · rcases List.mem_append.mp h with h | h
            · exact hR.ok.row s (List.mem_of_mem_take h)
            · rw [List.mem_singleton.mp h]; exact hrm
          · exact hR.ok.row s (List.mem_of_mem_drop h)
        have hwo := hwk o hor (by omega)
        refine wp_if (b := decide (atL (walk (rs.map told) (o.map tSt)).1 < 0)) ?_ (fun hc => ?_) (fun _ => wp_nil ⟨hi', ss, _, _, _, _, _, _, hR, rfl⟩)
        · have lt : dLt (.int (atL (walk (rs.map told) (o.map tSt)).1)) (.int 0) = .ok (.bl (decide (atL (walk (rs.map told) (o.map tSt)).1 < 0))) := rfl
          simp only [s_tV, s_e2, s_eCall, s_aCons, s_aNil, s_eVar, s_eC, s_frz1, s_f1, List.getElem?_cons_succ, List.getElem?_cons_zero, s_bind1, s_map, hwo, dGet_tup0, s_nox1, lt, s_asB]
        · have hn : (walk (rs.map told) (o.map tSt)).1 = none := atL_neg.mp (of_decide_eq_true hc)
          exact wp_set (d := .lst (o.map eLS)) rfl ⟨hi', o, _, _, _, _, _, _, ⟨⟨fun e => by rw [e] at hol; simp at hol; omega, hor, by omega⟩, by omega, hn⟩, rfl⟩
    · rintro ρ ⟨_, ss, a, b, c, d, e, f, hR, rfl⟩
      exact wp_ret (d := .lst (ss.map eLS)) rfl ⟨ss, hR, rfl⟩
  obtain ⟨d, e, ss', hR', rfl⟩ := wp_run (n := 10) (g := g__law_wider) (ds := [.lst (rs.map eL), .lst (ss.map eLS), .int m, .int n]) (Q := fun d => ∃ ss', RdR rs ss' ∧ d = .lst (ss'.map eLS)) w
  exact ⟨ss', hR', e⟩
theorem law_refused_is {rs : List (List Int)} {ss : List Stp} (hrow : ∀ r ∈ rs, Row r) (hsrow : ∀ s ∈ ss, Row s.2) (hl : rs.length ≤ 16) (hl2 : ss.length ≤ 100) : m__law_refused [.lst (rs.map eL), .lst (ss.map eLS)] = .ok (.int (atL (walk (rs.map told) (ss.map tSt)).1)) := by
  have okr := okR_L hrow
  have oks := okS_L hsrow
  have hh : (∀ k, (walk (rs.map told) (ss.map tSt)).1 = some k → m_lean [.lst (rs.map eL), .lst (ss.map eLS)] = .ex (nrX k)) ∧ ((walk (rs.map told) (ss.map tSt)).1 = none → ∃ d, m_lean [.lst (rs.map eL), .lst (ss.map eLS)] = .ok d) := by
    refine ⟨fun k hk => ?_, fun hk => ?_⟩
    · have h1 := lean_no okr oks (by unfold drL; simpa using hl) (by unfold dsL; simpa using hl2) (by rw [tDR_L, tDS_L]; exact hk)
      rw [eDR_L, eDS_L] at h1
      exact h1
    · have h1 := lean_is okr oks (by unfold drL; simpa using hl) (by unfold dsL; simpa using hl2) (by rw [tDR_L, tDS_L]; exact hk)
      rw [eDR_L, eDS_L] at h1
      exact ⟨_, h1⟩
  generalize (walk (rs.map told) (ss.map tSt)).1 = w at hh
  generalize D.lst (rs.map eL) = R0 at hh
  generalize D.lst (ss.map eLS) = S0 at hh
  have cl : eCall m_lean (aCons (eVar 0) (aCons (eVar 1) aNil)) (frz [.fz R0, .fz S0, .no]) = m_lean [R0, S0] := rfl
  unfold m__law_refused runD g__law_refused
  show outR (sSeq _ _ [.fz R0, .fz S0, .no]) = _
  cases w with
  | none =>
    obtain ⟨d1, h1⟩ := hh.2 rfl
    rw [sq_nx (tryE_ok (cl.trans h1))]
    rfl
  | some k =>
    have ex : sTryE tbX "NotRight" 2 (eCall m_lean (aCons (eVar 0) (aCons (eVar 1) aNil))) (fun x a o => (sRet (eIf (tV (eXIs tbX x a o "BadRoad" (eVar 2))) (Tw.e1 dNeg (eC (.int 9))) (eXF E_step x a o "step" (eVar 2))))) [.fz R0, .fz S0, .no] = .rt (.int k) [.fz R0, .fz S0, .no] := by
      refine tryE_ex (x := nrX k) (sups := ["NotRight", "SlipError"]) (cl.trans (hh.1 k rfl)) rfl rfl rfl fun a o => ?_
      have g1 : eVar 2 (frz [.fz R0, .fz S0, .fz (.exn a o [("step", .int k)])]) = .ok (.exn a o [("step", .int k)]) := rfl
      have i2 := xis (x := nrX k) (C' := "BadRoad") (sups := ["NotRight", "SlipError"]) g1 rfl
      have i4 := xfl (Cs := E_step) (x := nrX k) g1 rfl rfl
      show wipe 2 (sRet _ [.fz R0, .fz S0, .fz (.exn a o [("step", .int k)])]) = _
      unfold sRet
      have e1 : eIf (tV (eXIs tbX (nrX k) a o "BadRoad" (eVar 2))) (Tw.e1 dNeg (eC (.int 9))) (eXF E_step (nrX k) a o "step" (eVar 2)) (frz [.fz R0, .fz S0, .fz (.exn a o [("step", .int k)])]) = .ok (.int k) := by
        unfold eIf
        simp only [s_tV, i2, s_bind1, s_asB]
        exact i4
      rw [e1, s_step1]
      rfl
    unfold sSeq
    rw [ex]
    rfl
end Tw

/-! L6L: law k06. -/
namespace Tw
open PySem L2
/-- the rows of a road made lean -/
def lnD (rs : List (List Int)) (ss : List Stp) : List (List Int) := leanF (ss.map tSt) (enTh 0 (rs.map told))
def dsF (qs : List (List Int)) : DS := qs.map fun q => (eF q, ((false, q) : Stp))
section
variable {rs : List (List Int)} {ss : List Stp} (h : RRoad rs ss)
include h
theorem RRoad.lean : m_lean [.lst (rs.map eL), .lst (ss.map eLS)] = .ok (.lst ((lnD rs ss).map eF)) := by
  have h1 := lean_is h.okr h.oks (by unfold drL; simpa using h.len) (by unfold dsL; simpa using h.slen) (by rw [tDR_L, tDS_L]; exact h.right)
  rw [eDR_L, eDS_L, tDR_L, tDS_L] at h1
  exact h1
theorem RRoad.leanF : mF_lean [.lst (rs.map eL), .lst (ss.map eLS)] = .ok (.lst ((lnD rs ss).map eF)) := by
  have h1 := lean_isF h.okr h.oks (by unfold drL; simpa using h.len) (by unfold dsL; simpa using h.slen) (by rw [tDR_L, tDS_L]; exact h.right)
  rw [eDR_L, eDS_L, tDR_L, tDS_L] at h1
  exact h1
theorem RRoad.ln : LnR (enTh 0 (rs.map told)) (lnD rs ss) := lean_ln (u := enTh 0 (rs.map told)) (enTh_row (n := 0) h.rows) (enTh_row (n := 0) h.rows) (by rw [enTh_len]; have := h.len; have := h.slen; simp; omega) (by rw [enTh_len]; have := h.len; have := h.slen; simp; omega) h.steps h.walk.1 (RowsN.refl (enTh_row (n := 0) h.rows).rows)
theorem RRoad.lnlen : (lnD rs ss).length ≤ 100 := by
  unfold lnD
  rw [lean_len]
  have h1 := List.length_filter_le (fun s : Stp => !s.1) (ss.map tSt)
  have := h.slen
  simp at h1 ⊢
  omega
theorem RRoad.okF : OkS (dsF (lnD rs ss)) := ⟨fun p hp => by
  obtain ⟨q, _, rfl⟩ := List.mem_map.mp hp
  exact ⟨eT q, rfl, .inr rfl⟩, fun p hp => by
  obtain ⟨q, hq, rfl⟩ := List.mem_map.mp hp
  exact (ln_row h.ln q hq).1⟩
theorem RRoad.tF : tDS (dsF (lnD rs ss)) = (lnD rs ss).map fun q => ((false, q) : Stp) := by
  unfold tDS dsF
  rw [List.map_map]
  refine List.map_congr_left fun q hq => ?_
  show ((false, told q) : Stp) = (false, q)
  rw [(ln_row h.ln q hq).2]
theorem RRoad.eF' : eDS (dsF (lnD rs ss)) = .lst ((lnD rs ss).map eF) := by unfold eDS dsF; simp
theorem RRoad.lnwalk : (Tw.walk (rs.map told) ((lnD rs ss).map fun q => ((false, q) : Stp))).1 = none := by
  have h1 := ln_walk (k := 0) h.ln
  rw [enTh_len] at h1
  have h2 : lastE ((lnD rs ss).map fun q => ((false, q) : Stp)) = true := by
    have := lean_last (u := enTh 0 (rs.map told)) (of_decide_eq_true h.walk.2)
    have e : (lnD rs ss).getLast? = some [] := this
    unfold lastE
    rw [List.getLast?_map, e]; rfl
  unfold Tw.walk
  cases q : walkF ((lnD rs ss).map fun q => ((false, q) : Stp)) 0 (enTh 0 (rs.map told)) (rs.map told).length with
  | mk o t =>
    rw [q] at h1
    have h1 : o = none := h1
    subst h1
    simp [h2]
theorem RRoad.again : m_lean [.lst (rs.map eL), .lst ((lnD rs ss).map eF)] = .ok (.lst ((lnD rs ss).map eF)) := by
  have h1 := lean_is h.okr h.okF (by unfold drL; simpa using h.len) (by unfold dsF; simpa using h.lnlen) (by rw [tDR_L, h.tF]; exact h.lnwalk)
  rw [eDR_L, h.eF', tDR_L, h.tF, ln_again h.ln] at h1
  exact h1
theorem RRoad.judF : ∃ d, m_judged [.lst (rs.map eL), .lst ((lnD rs ss).map eF)] = .ok d ∧ dIsO tbC "Right" d = .ok (.bl true) := by
  have h1 := judged_is h.okr h.okF (by unfold drL; simpa using h.len) (by unfold dsF; simpa using h.lnlen)
  rw [eDR_L, h.eF', tDR_L, h.tF, jud_none.mpr h.lnwalk] at h1
  exact ⟨_, h1, rfl⟩
end
theorem nc_F {qs : List (List Int)} : nc 3 (.lst (qs.map eF)) = true := nc_map fun q _ => eF_nc 0 q
theorem law_is (ns : List Int) (hns : ns.length ≤ 63) : m_law [.scr ns] = .ok (.bl true) := by
  refine wp_is ?_
  unfold g_law
  obtain ⟨s, hs⟩ := dSum_is (cs := ns)
  have e63 : dSl (.scr ns) none (some 63) = .ok (eL ns) := scr_cut (k := 63) hns
  refine wp_seq (wp_set (d := .int (absI s)) ?_ ?_)
  · simp [eSl, oNone, oSome, asI, e63, hs, dAbs_is]
  generalize absI s = wh
  show WP (sSeq _ _ [.fz (.scr ns), .fz (.int wh), .no, .no, .no, .no, .no, .no, .no, .no, .no, .no, .no]) _ _
  refine wp_seq (wp_for (xs := List.range 4) (en := fun (i : Nat) => D.int ((0 : Int) + i))
    (I := fun ys ρ => (∀ i ∈ ys, i < 4) ∧ ∃ c2 c3 c4 c5 c6 c7 c8 c9 c10 : Cl, (ys.length < 4 → c8 = .ow (.lst [])) ∧ ρ = [.fz (.scr ns), .fz (.int wh), c2, c3, c4, c5, c6, c7, c8, c9, c10, .no, .no]) rfl ⟨fun i hi => List.mem_range.mp hi, _, _, _, _, _, _, _, _, _, fun h => absurd h (by decide), rfl⟩ ?_ ?_)
  rotate_left
  · rintro ρ ⟨_, c2, c3, c4, c5, c6, c7, c8, c9, c10, h8, rfl⟩
    rw [h8 (by decide)]
    exact wp_of_out (d := .bl true) (tail_is _ _ _ _ _ _ _ _ _ _ _ _) rfl (by intro h; cases h)
  rintro i ys ρ hzs ⟨hi3, c2, c3, c4, c5, c6, c7, c8, c9, c10, _, rfl⟩
  have hi := hi3 i (by simp)
  have hyl : ys.length < 4 := by
    obtain ⟨zs, hz⟩ := hzs
    have := congrArg List.length hz
    simp at this; omega
  simp only [s_body, s_bindNm, s_setsC1, s_setsC0]
  generalize hb : (0 : Int) + (i : Int) = b
  have hb0 : 0 ≤ b := by omega
  have hb3 : b < 4 := by omega
  obtain ⟨m, rs, hF, er⟩ := law_rows_is ns hns b
  refine wp_seq ?_
  unfold sBind
  have c1 : eCall m__law_rows (aCons (eVar 0) (aCons (eVar 2) aNil)) (hid (List.set [.fz (.scr ns), .fz (.int wh), c2, c3, c4, c5, c6, c7, c8, c9, c10, .no, .no] 2 (.fz (.int b)))) = .ok (.tup [.lst (rs.map eL), .int m]) := by simp [er]
  simp only [c1, s_step1, s_bindTp, s_bindTs1, s_bindTs0, s_bindNm, Option.bind_some, Option.map_some, List.cons_append, List.nil_append, s_setsC1, s_setsC0]
  show WP (sSeq _ _ [.fz (.scr ns), .fz (.int wh), .fz (.int b), .fz (.lst (rs.map eL)), .fz (.int m), c5, c6, c7, c8, c9, c10, .no, .no]) _ _
  obtain ⟨d, hd, ed⟩ := law_road_right hF (wh.fdiv (1 + b))
  have e1 : (1 + b) ≠ 0 := by omega
  have e2 : (1 + b).natAbs < 1073741824 := by omega
  have e3 : (3 + b) ≠ 0 := by omega
  have e4 : (3 + b).natAbs < 1073741824 := by omega
  refine wp_seq (wp_set (d := d) ?_ ?_)
  · simp [dAdd_ii, dFdiv_ii e1 e2, ed]
  show WP (sSeq _ _ [.fz (.scr ns), .fz (.int wh), .fz (.int b), .fz (.lst (rs.map eL)), .fz (.int m), .fz d, c6, c7, c8, c9, c10, .no, .no]) _ _
  have rest : ∀ (rs : List (List Int)) (ss : List Stp), Fm m rs → RdR rs ss → WP (sSeq (sSet 5 (eCall m__law_wider (aCons (eVar 3) (aCons (eVar 5) (aCons (eVar 4) (aCons (Tw.e2 dFdiv (eVar 1) (Tw.e2 dAdd (eC (.int 3)) (eVar 2))) aNil)))))) (sSeq (sFor (.nm 6) (iRg dRng1 (aCons (eC (.int 2)) aNil)) (sSeq (sSet 7 (eComp [11, 12] (.tp [(.nm 11), (.nm 12)]) (iSeq (eVar 5)) tTrue (eTup (aCons (eVar 11) (aCons (eB dList (aCons (eVar 12) aNil)) aNil))))) (sSeq (sFz [8] (sSetF 8 (eCall mF_lean (aCons (eVar 3) (aCons (eVar 7) aNil))))) (sSeq (sIf (tOr' (tNo (tV (eCall m__law_lean_right (aCons (eVar 3) (aCons (eVar 5) (aCons (eVar 8) aNil)))))) (tV (Tw.e2 dNe (eVar 7) (eComp [11, 12] (.tp [(.nm 11), (.nm 12)]) (iSeq (eVar 5)) tTrue (eTup (aCons (eVar 11) (aCons (eB dList (aCons (eVar 12) aNil)) aNil))))))) (sRet (eC (.bl false))) sNil) (sSeq (sIf (tOr' (tV (Tw.e2 dNe (eCall m_lean (aCons (eVar 3) (aCons (eVar 8) aNil))) (eVar 8))) (tNo (tV (Tw.e1 (dIsO tbC "Right") (eCall m_judged (aCons (eVar 3) (aCons (eVar 8) aNil))))))) (sRet (eC (.bl false))) sNil) (sClear 8)))))) (sSeq (sSet 9 (Tw.e2 dMod (Tw.e2 dFdiv (eVar 1) (eC (.int 7))) (eB dLen (aCons (eVar 5) aNil)))) (sFor (.nm 10) (iSeq (eTup (aCons (Tw.e2 dAdd (eSl (eVar 5) oNone (oSome (eVar 9))) (eSl (eVar 5) (oSome (Tw.e2 dAdd (eVar 9) (eC (.int 1)))) oNone)) (aCons (eSl (eVar 5) oNone (oSome (Tw.e1 dNeg (eC (.int 1))))) aNil)))) (sIf (tV (Tw.e2 dNe (eCall m__law_refused (aCons (eVar 3) (aCons (eVar 10) aNil))) (Tw.e2 dGet (eCall m__law_walked (aCons (eVar 3) (aCons (eVar 10) aNil))) (eC (.int 0))))) (sRet (eC (.bl false))) sNil))))
      [.fz (.scr ns), .fz (.int wh), .fz (.int b), .fz (.lst (rs.map eL)), .fz (.int m), .fz (.lst (ss.map eLS)), c6, c7, c8, c9, c10, .no, .no])
      (fun ρ => (∀ i ∈ ys, i < 4) ∧ ∃ c2 c3 c4 c5 c6 c7 c8 c9 c10 : Cl, (ys.length < 4 → c8 = .ow (.lst [])) ∧ ρ = [.fz (.scr ns), .fz (.int wh), c2, c3, c4, c5, c6, c7, c8, c9, c10, .no, .no]) (fun x => x = .bl true) := fun rs ss hF hR0 => by
    obtain ⟨ss, hR, ew⟩ := law_wider_is hF hR0 (wh.fdiv (3 + b))
    have hq := RRoad.of hF hR
    have hsl : 0 < ss.length := List.length_pos_iff.mpr hR.ok.ne
    have hs1 := hR.len
    refine wp_seq (wp_set (d := .lst (ss.map eLS)) ?_ ?_)
    · simp [dAdd_ii, dFdiv_ii e3 e4, ew]
    show WP (sSeq _ _ [.fz (.scr ns), .fz (.int wh), .fz (.int b), .fz (.lst (rs.map eL)), .fz (.int m), .fz (.lst (ss.map eLS)), c6, c7, c8, c9, c10, .no, .no]) _ _
    refine wp_seq (wp_for (xs := List.range 2) (en := fun (i : Nat) => D.int ((0 : Int) + i))
      (I := fun zs ρ => zs.length ≤ 2 ∧ ∃ c6 c7 c8 : Cl, (zs.length < 2 → c8 = .ow (.lst [])) ∧ ρ = [.fz (.scr ns), .fz (.int wh), .fz (.int b), .fz (.lst (rs.map eL)), .fz (.int m), .fz (.lst (ss.map eLS)), c6, c7, c8, c9, c10, .no, .no]) rfl ⟨by decide, _, _, _, fun h => absurd h (by decide), rfl⟩ ?_ ?_)
    · rintro j zs ρ _ ⟨hz, c6, c7, c8, _, rfl⟩
      simp only [List.length_cons] at hz
      simp only [s_body, s_bindNm, s_setsC1, s_setsC0]
      generalize (0 : Int) + (j : Int) = jb
      refine wp_seq (wp_set (d := .lst (ss.map eLS)) (handed_is (by omega) rfl (by decide) (by show (11 : Nat) < 13; decide) (by show (12 : Nat) < 13; decide)) ?_)
      show WP (sSeq _ _ [.fz (.scr ns), .fz (.int wh), .fz (.int b), .fz (.lst (rs.map eL)), .fz (.int m), .fz (.lst (ss.map eLS)), .fz (.int jb), .fz (.lst (ss.map eLS)), c8, c9, c10, .no, .no]) _ _
      have hh := hq.leanF
      have ha := hq.again
      have r1 : m__law_lean_right [.lst (rs.map eL), .lst (ss.map eLS), .lst ((lnD rs ss).map eF)] = .ok (.bl true) := lean_right_is hq
      obtain ⟨dj, j1, j2⟩ := hq.judF
      have n1 : dNe (.lst ((lnD rs ss).map eF)) (.lst ((lnD rs ss).map eF)) = .ok (.bl false) := dNe_self nc_F (by decide)
      have n2 : dNe (.lst (ss.map eLS)) (.lst (ss.map eLS)) = .ok (.bl false) := dNe_self nc_SL (by decide)
      generalize (lnD rs ss).map eF = Al at hh ha r1 j1 n1
      obtain ⟨c8', e8, no8⟩ : ∃ c8' : Cl, fzL [8] [Cl.fz (.scr ns), .fz (.int wh), .fz (.int b), .fz (.lst (rs.map eL)), .fz (.int m), .fz (.lst (ss.map eLS)), .fz (.int jb), .fz (.lst (ss.map eLS)), c8, c9, c10, .no, .no] = [Cl.fz (.scr ns), .fz (.int wh), .fz (.int b), .fz (.lst (rs.map eL)), .fz (.int m), .fz (.lst (ss.map eLS)), .fz (.int jb), .fz (.lst (ss.map eLS)), c8', c9, c10, .no, .no] ∧ ∀ d, c8' ≠ .ow d := by
        cases c8 <;> exact ⟨_, rfl, by intro d h; cases h⟩
      refine wp_seq ?_
      show WP (sSetF 8 (eCall mF_lean (aCons (eVar 3) (aCons (eVar 7) aNil))) (fzL [8] _)) _ _
      rw [e8]
      have p1 : eCall mF_lean (aCons (eVar 3) (aCons (eVar 7) aNil)) (hid [Cl.fz (.scr ns), .fz (.int wh), .fz (.int b), .fz (.lst (rs.map eL)), .fz (.int m), .fz (.lst (ss.map eLS)), .fz (.int jb), .fz (.lst (ss.map eLS)), c8', c9, c10, .no, .no]) = .ok (.lst Al) := hh
      have p2 : sSetF 8 (eCall mF_lean (aCons (eVar 3) (aCons (eVar 7) aNil))) [Cl.fz (.scr ns), .fz (.int wh), .fz (.int b), .fz (.lst (rs.map eL)), .fz (.int m), .fz (.lst (ss.map eLS)), .fz (.int jb), .fz (.lst (ss.map eLS)), c8', c9, c10, .no, .no] = .nx [Cl.fz (.scr ns), .fz (.int wh), .fz (.int b), .fz (.lst (rs.map eL)), .fz (.int m), .fz (.lst (ss.map eLS)), .fz (.int jb), .fz (.lst (ss.map eLS)), .ow (.lst Al), c9, c10, .no, .no] := by
        unfold sSetF
        rw [p1, s_step1]
        cases c8' with
        | ow d => exact absurd rfl (no8 d)
        | no => rfl
        | fz d => rfl
      rw [p2]
      show WP (sSeq _ _ [.fz (.scr ns), .fz (.int wh), .fz (.int b), .fz (.lst (rs.map eL)), .fz (.int m), .fz (.lst (ss.map eLS)), .fz (.int jb), .fz (.lst (ss.map eLS)), .ow (.lst Al), c9, c10, .no, .no]) _ _
      refine wp_seq (wp_if (b := false) ?_ (fun h => by cases h) fun _ => wp_nil ?_)
      · have hc : eComp [11, 12] (.tp [(.nm 11), (.nm 12)]) (iSeq (eVar 5)) tTrue (eTup (aCons (eVar 11) (aCons (eB dList (aCons (eVar 12) aNil)) aNil))) (frz [Cl.fz (.scr ns), .fz (.int wh), .fz (.int b), .fz (.lst (rs.map eL)), .fz (.int m), .fz (.lst (ss.map eLS)), .fz (.int jb), .fz (.lst (ss.map eLS)), .ow (.lst Al), c9, c10, .no, .no]) = .ok (.lst (ss.map eLS)) :=
          handed_is (by omega) rfl (by decide) (by show (11 : Nat) < 13; decide) (by show (12 : Nat) < 13; decide)
        simp only [s_tOr, s_tNo, s_tV, s_e2, hc]
        simp only [s_eCall, s_aCons, s_aNil, s_eVar, s_eC, s_frz1, s_f1, s_f2, List.getElem?_cons_succ, List.getElem?_cons_zero, s_bind1, s_map, r1, n2, s_nox1, s_asB]
        rfl
      refine wp_seq (wp_if (b := false) ?_ (fun h => by cases h) fun _ => wp_nil ?_)
      · simp only [s_tOr, s_tNo, s_tV, s_e1, s_e2, s_eCall, s_aCons, s_aNil, s_eVar, s_eC, s_frz1, s_f1, s_f2, List.getElem?_cons_succ, List.getElem?_cons_zero, s_bind1, s_map, ha, n1, j1, j2, s_nox1, s_asB]
        rfl
      exact ⟨by omega, _, _, _, fun _ => rfl, rfl⟩
    rintro ρ ⟨_, c6, c7, c8, h8, rfl⟩
    have h8 := h8 (by decide)
    subst h8
    have hl0 : (0 : Int) < ss.length := by omega
    have k0 := fm0 (a := wh.fdiv 7) hl0
    have k1 := fm1 (a := wh.fdiv 7) hl0
    obtain ⟨k, hk⟩ : ∃ k : Nat, (wh.fdiv 7).fmod ss.length = k := ⟨_, (Int.toNat_of_nonneg k0).symm⟩
    have hkl : k < ss.length := by omega
    refine wp_seq (wp_set (d := .int k) ?_ ?_)
    · simp [dFdiv_ii (j := 7) (by decide) (by decide), dLen, dMod_ii (show (ss.length : Int) ≠ 0 by omega), hk]
    show WP (sFor _ _ _ [.fz (.scr ns), .fz (.int wh), .fz (.int b), .fz (.lst (rs.map eL)), .fz (.int m), .fz (.lst (ss.map eLS)), c6, c7, .ow (.lst []), .fz (.int k), c10, .no, .no]) _ _
    have q1 : eSl (eVar 5) oNone (oSome (eVar 9)) (hid [.fz (.scr ns), .fz (.int wh), .fz (.int b), .fz (.lst (rs.map eL)), .fz (.int m), .fz (.lst (ss.map eLS)), c6, c7, .ow (.lst []), .fz (.int k), c10, .no, .no]) = .ok (.lst ((ss.take k).map eLS)) := slL (f := eLS) rfl rfl
    have q2 : eSl (eVar 5) (oSome (Tw.e2 dAdd (eVar 9) (eC (.int 1)))) oNone (hid [.fz (.scr ns), .fz (.int wh), .fz (.int b), .fz (.lst (rs.map eL)), .fz (.int m), .fz (.lst (ss.map eLS)), c6, c7, .ow (.lst []), .fz (.int k), c10, .no, .no]) = .ok (.lst ((ss.drop (k + 1)).map eLS)) :=
      slR (f := eLS) rfl (by simp [dAdd_ii]) (by omega)
    have q3 : eSl (eVar 5) oNone (oSome (Tw.e1 dNeg (eC (.int 1)))) (hid [.fz (.scr ns), .fz (.int wh), .fz (.int b), .fz (.lst (rs.map eL)), .fz (.int m), .fz (.lst (ss.map eLS)), c6, c7, .ow (.lst []), .fz (.int k), c10, .no, .no]) = .ok (.lst (ss.dropLast.map eLS)) := by
      have := lst_init (f := eLS) hsl
      simp [eSl, oNone, oSome, asI, this]
    have a1 : dAdd (.lst ((ss.take k).map eLS)) (.lst ((ss.drop (k + 1)).map eLS)) = .ok (.lst ((ss.take k ++ ss.drop (k + 1)).map eLS)) := by
      rw [dAdd_lst (by simp; omega)]; simp
    have rtake : ∀ s ∈ ss.take k, Row s.2 := fun s h => hq.srow s (List.mem_of_mem_take h)
    refine wp_for (xs := [ss.take k ++ ss.drop (k + 1), ss.dropLast]) (en := fun os => .lst (os.map eLS))
      (I := fun os ρ => (∀ o ∈ os, (∀ s ∈ o, Row s.2) ∧ o.length ≤ 100) ∧ ∃ c10 : Cl, ρ = [.fz (.scr ns), .fz (.int wh), .fz (.int b), .fz (.lst (rs.map eL)), .fz (.int m), .fz (.lst (ss.map eLS)), c6, c7, .ow (.lst []), .fz (.int k), c10, .no, .no]) ?_ ⟨?_, _, rfl⟩ ?_ ?_
    · simp only [s_iSeq, s_eTup, s_e2, q1, q2, q3, s_aCons, s_aNil, s_bind1, a1, s_nox1, s_map, List.length_cons, List.length_nil, sz_of (show 0 + 1 + 1 ≤ 10000 by decide), if_true]
      rfl
    · intro o ho
      simp only [List.mem_cons, List.not_mem_nil, or_false] at ho
      rcases ho with rfl | rfl
      · refine ⟨fun s h => ?_, by simp; omega⟩
        rcases List.mem_append.mp h with h | h
        · exact rtake s h
        · exact hq.srow s (List.mem_of_mem_drop h)
      · exact ⟨fun s h => hq.srow s (List.mem_of_mem_take (by rw [List.dropLast_eq_take] at h; exact h)), by simp; omega⟩
    · rintro o os ρ _ ⟨ho, c10, rfl⟩
      obtain ⟨hor, hol⟩ := ho o (by simp)
      simp only [s_body, s_bindNm, s_setsC1, s_setsC0]
      have lw := law_walked_is (okR_L hq.row) (okS_L hor) (by unfold drL dsL; simp; have := hq.len; omega)
      rw [eDR_L, eDS_L, tDR_L, tDS_L] at lw
      have lr := law_refused_is hq.row hor hq.len hol
      generalize (walk (rs.map told) (o.map tSt)) = w at lw lr
      have n0 : dNe (.int (atL w.1)) (.int (atL w.1)) = .ok (.bl false) := by rw [dNe_int]; simp
      show WP (sIf _ _ _ [.fz (.scr ns), .fz (.int wh), .fz (.int b), .fz (.lst (rs.map eL)), .fz (.int m), .fz (.lst (ss.map eLS)), c6, c7, .ow (.lst []), .fz (.int k), .fz (.lst (o.map eLS)), .no, .no]) _ _
      refine wp_if (b := false) ?_ (fun h => by cases h) fun _ => wp_nil ⟨fun x hx => ho x (List.mem_cons_of_mem _ hx), _, rfl⟩
      simp only [s_tV, s_e2, s_eCall, s_aCons, s_aNil, s_eVar, s_eC, s_frz1, s_f1, List.getElem?_cons_succ, List.getElem?_cons_zero, s_bind1, s_map, lr, lw, dGet_tup0, n0, s_nox1, s_asB]
    · rintro ρ ⟨_, c10, rfl⟩
      exact ⟨fun i hi => hi3 i (List.mem_cons_of_mem _ hi), _, _, _, _, _, _, _, _, _, fun _ => rfl, rfl⟩
  rcases hd with ⟨rfl, _⟩ | ⟨ss, ho, rfl⟩
  · refine wp_seq (wp_if (b := true) rfl (fun _ => ?_) fun h => by cases h)
    have hF2 := fm_more hF
    obtain ⟨ss, hR, es⟩ := law_road_there hF2 (wh.fdiv (1 + b))
    refine wp_seq (wp_set (d := .lst ((rs.take 14 ++ [[1], [-1]]).map eL)) ?_ ?_)
    · have a1 : dSl (.lst (rs.map eL)) none (some 14) = .ok (.lst ((rs.take 14).map eL)) := lst_cut (k := 14)
      have a2 : dAdd (.lst ((rs.take 14).map eL)) (.lst [.lst [.int 1], .lst [.int (-1)]]) = .ok (.lst ((rs.take 14 ++ [[1], [-1]]).map eL)) := by
        rw [dAdd_lst (by simp; omega)]; simp [eL]
      simp only [s_e2, eSl, oNone, oSome, s_eLst, s_aCons, s_aNil, s_eC, s_e1, s_eVar, s_hid1, s_h1, List.getElem?_cons_succ, List.getElem?_cons_zero, s_bind1, asI, s_map, a1, s_nox1, s_neg, List.length_nil, List.length_cons, sz_of (show 0 + 1 ≤ 10000 by decide), sz_of (show 0 + 1 + 1 ≤ 10000 by decide), if_true, a2]
    show WP (sSet _ _ [.fz (.scr ns), .fz (.int wh), .fz (.int b), .fz (.lst ((rs.take 14 ++ [[1], [-1]]).map eL)), .fz (.int m), .fz .non, c6, c7, c8, c9, c10, .no, .no]) _ _
    refine wp_set (d := .lst (ss.map eLS)) ?_ (rest _ ss hF2 hR)
    simp only [s_eCall, s_aCons, s_aNil, s_e2, s_eC, s_eVar, s_hid1, s_h1, List.getElem?_cons_succ, List.getElem?_cons_zero, s_bind1, s_map, dAdd_ii, dFdiv_ii e1 e2, s_nox1, es]
  · exact wp_seq (wp_if (b := false) rfl (fun h => by cases h) fun _ => wp_nil (rest rs ss hF ho))
end Tw

namespace Tw
open PySem L2
abbrev Ro : PySem.W.OpenRow := PySem.W.OpenLaw.row PySem.Challenge.rw_cutslip_k06_whole_lean
abbrev hkL : PySem.W.Hook := hookT 4 faL fnL ckL
def obL (s : PySem.W.SharedT) : AlT := obsT 4 faL fnL ckL (HandSHeadRun.getT s)
theorem obL_eq (s : PySem.W.SharedT) : obL s = hkL.obs s.abs := obsT_eq (HandSHeadRun.getT_eq s)
def looseL : List PySem.Str := (["_wall", "__name__", "opposites", "forced", "follows", "closure", "SlipError", "BadFormula", "BadRoad", "NotRight", "MOST_MARKS", "MOST_ROWS", "MOST_STEPS", "is_whole", "is_sign", "is_list", "is_row", "row_of", "is_step", "rows_of", "steps_of", "last_with", "without", "walked", "Answer", "Right", "Wrong", "judged", "right_steps", "lean"] : List PySem.Str) ++ (["_law_number", "_law_row", "_law_rows", "_law_told", "_law_forced", "_law_follows", "_law_walked", "_law_tree", "_law_road", "_law_lean_right", "_law_refused", "_law_wider"] : List PySem.Str)
set_option maxHeartbeats 0 in
theorem runL (w : World) : HandSHeadRun.RunEq Ro (PySem.W.view Ro.prog [49]) hkL obL 4000 looseL w := by
  intro os
  kernel_rfl
end Tw
open PySem PySem.W PySem.Calls PyProof.Rows in
theorem Tw.holds_of (hl : ∀ ns : List Int, ns.length ≤ 63 → Tw.m_law [.scr ns] = .ok (.bl true)) : PySem.Challenge.rw_cutslip_k06_whole_lean.Holds := by
  w_on; o_law
  refine HandSHeadRun.head_any (r := OpenLaw.row PySem.Challenge.rw_cutslip_k06_whole_lean) (q := view (OpenLaw.row PySem.Challenge.rw_cutslip_k06_whole_lean).prog [49]) (H := Tw.hkL) (ob := Tw.obL) (M := 4000) (loose := Tw.looseL) (d := HandSHeadRun.topDef (OpenLaw.row PySem.Challenge.rw_cutslip_k06_whole_lean).prog 49) (kwd := []) Tw.obL_eq
    (by kernel_rfl) (fun s => by kernel_rfl) Tw.runL (by kernel_rfl) (by kernel_rfl) (by kernel_rfl) (by rfl) (by first | assumption | decide +kernel) (by decide +kernel) ⟨rfl, rfl, rfl, rfl, rfl, by decide +kernel⟩ ?hw ?hc
  case hw => w_witness2
  case hc =>
    refine L2.walk_ofE (l := PySem.Challenge.rw_cutslip_k06_whole_lean) (n := 63) (k := 9) (x := "_law_script") (CX := Tw.CXa (PySem.Challenge.rw_cutslip_k06_whole_lean).prog) rfl (by decide) (by kernel_rfl) ⟨rfl, by decide, by decide⟩ ?F (Tw.exa_no _)
    intro w mg fa h Y G hmg0
    obtain ⟨K, KX, c, ck⟩ := Y
    have hmg : mg ("law" : PySem.Str) = some (.ref fa) := by
      have e : (HandSHeadRun.topDef (OpenLaw.row PySem.Challenge.rw_cutslip_k06_whole_lean).prog 49).name = ("law" : PySem.Str) := by kernel_rfl
      rw [← e]
      exact hmg0
    obtain ⟨fd, hb, hF⟩ := Tw.facts (P := (PySem.Challenge.rw_cutslip_k06_whole_lean).prog) (w := w) KX G hmg c ck
    exact ⟨K, fd, _, KX, hb, fun H a ns hn _ hS => Tw.law_sp (hl ns hn) hS, fun base _ _ => Tw.fn_cxa (hF base)⟩


theorem PySem.Challenge.cw_cutslip_k06_whole_lean_holds : PySem.Challenge.rw_cutslip_k06_whole_lean.Holds :=
  Tw.holds_of Tw.law_is
