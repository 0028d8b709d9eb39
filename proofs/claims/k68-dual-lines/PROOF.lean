import PyProof.Rows.All
import Wide.All
import OpenK.AllK
import Wide.FinOn
import HandS.ForMost
import HandS.ForExc
import HandS.Deep
import HandS.IsInst
import HandS.TupAny
import HandS.TupMul
import HandS.ExcOwn
import HandS.Flow
import HandS.Comp
import HandS.Zip
import HandS.Defaults
import HandS.Head0
import HandS.Head1
import HandS.Head2
import HandS.HeadEnd
import HandS.HeadHook1
import HandS.HeadHook2
import HandS.HeadHook3
import HandS.HeadHook4
import KE.GoesEnum
import KE.GoesZip
import KE.GoesMore
import HandS.Remove
import HandS.SetFor
import HandS.Strs
import HandS.Text
import KE.SortData
import HandS.SortKw
import HandS.HotCalls
import HandS.ExcIs
import PySem.Challenge.RW_spreadplanes_k68_dual_lines
set_option Elab.async false
set_option linter.all false
set_option maxRecDepth 100000
set_option maxHeartbeats 2000000
/-! DL: data without a heap over the hand layer. -/
namespace DL
open PySem PySem.Spec PyProof.Rows L2

abbrev D := PyData
/-- what a place holds: nothing known, data (never written again), a list of one's own, a bag of draws -/
inductive Slot where
  | un | sh (d : D) | own (ds : List D) | bag | scr (ns : List Int) | err (a : Addr) (x : Str)
abbrev Env' := List Slot
abbrev Ex := Str
abbrev AS := Addr → Prop

def Sub (Hs H : Hp) : Prop := ∀ a o, Hs a = some o → H a = some o
structure Stp (B : AS) (Hs H Hs' H' : Hp) : Prop where
  hs : Sub Hs Hs'
  new : ∀ a, Hs a = none → Hs' a ≠ none → H a = none
  kp : ∀ a o, H a = some o → ¬ B a → H' a = some o
  th : ∀ a, H a ≠ none → H' a ≠ none
/-- a number of less than 64 bits -/
abbrev Sml := { s : Int // s.natAbs < 18446744073709551616 }
structure WS (B : AS) (Hs H : Hp) : Prop where
  sub : Sub Hs H
  bag : ∀ a, B a → ∃ (g : Int) (s : Sml), H a = some (.lst [.int g, .int s.1])
  sep : ∀ a, B a → Hs a = none
theorem Sub.refl (H : Hp) : Sub H H := fun _ _ h => h
theorem Sub.trans {H H1 H2 : Hp} (a : Sub H H1) (b : Sub H1 H2) : Sub H H2 := fun x o h => b x o (a x o h)
theorem Stp.refl {B : AS} {Hs H : Hp} : Stp B Hs H Hs H := ⟨Sub.refl _, fun a h h' => absurd h h', fun _ _ h _ => h, fun _ h => h⟩
theorem Stp.trans {B : AS} {Hs H Hs1 H1 Hs2 H2 : Hp} (a : Stp B Hs H Hs1 H1) (b : Stp B Hs1 H1 Hs2 H2) : Stp B Hs H Hs2 H2 := by
  refine ⟨a.hs.trans b.hs, fun x h h' => ?_, fun x o h hb => b.kp x o (a.kp x o h hb) hb, fun x h => b.th x (a.th x h)⟩
  by_cases e : Hs1 x = none
  · have := b.new x e h'
    cases q : H x with
    | none => rfl
    | some o => exact absurd this (a.th x (by rw [q]; simp))
  · exact a.new x h e

/-! ### data that stand in the sealed heap -/
mutual
inductive Dq (K : PySem.W.Frag) (H : Hp) : V → D → Prop
  | non : Dq K H .non .none
  | bl (b : Bool) : Dq K H (.bl b) (.bool b)
  | int (i : Int) : Dq K H (.int i) (.int i)
  | str (x : Str) : Dq K H (.str x) (.str x)
  | lst {a : Addr} {xs : List V} {ds : List D} : H a = some (.lst xs) → DqAll K H xs ds → Dq K H (.ref a) (.list ds)
  | tup {a : Addr} {xs : List V} {ds : List D} : SqT K H a xs → DqAll K H xs ds → Dq K H (.ref a) (.tuple ds)
inductive DqAll (K : PySem.W.Frag) (H : Hp) : List V → List D → Prop
  | nil : DqAll K H [] []
  | cons {v : V} {vs : List V} {d : D} {ds : List D} : Dq K H v d → DqAll K H vs ds → DqAll K H (v :: vs) (d :: ds)
end
theorem sqT_mono {K : PySem.W.Frag} {Hs H : Hp} (s : Sub Hs H) {a : Addr} {xs : List V} (h : SqT K Hs a xs) : SqT K H a xs := by
  rcases h with (h | ⟨o, h⟩) | h
  · exact .inl (.inl (s _ _ h))
  · exact .inl (.inr ⟨o, s _ _ h⟩)
  · exact .inr h
theorem sqL_mono {K : PySem.W.Frag} {Hs H : Hp} (s : Sub Hs H) {a : Addr} {xs : List V} (h : SqL K Hs a xs) : SqL K H a xs := by
  rcases h with (h | ⟨o, h⟩) | h
  · exact .inl (.inl (s _ _ h))
  · exact .inl (.inr ⟨o, s _ _ h⟩)
  · exact .inr h
section
variable {K : PySem.W.Frag}
mutual
theorem dq_mono {Hs H : Hp} (s : Sub Hs H) : ∀ {v : V} {d : D}, Dq K Hs v d → Dq K H v d
  | _, _, .non => .non
  | _, _, .bl b => .bl b
  | _, _, .int i => .int i
  | _, _, .str x => .str x
  | _, _, .lst h a => .lst (s _ _ h) (dqAll_mono s a)
  | _, _, .tup h a => .tup (sqT_mono s h) (dqAll_mono s a)
theorem dqAll_mono {Hs H : Hp} (s : Sub Hs H) : ∀ {vs : List V} {ds : List D}, DqAll K Hs vs ds → DqAll K H vs ds
  | _, _, .nil => .nil
  | _, _, .cons h t => .cons (dq_mono s h) (dqAll_mono s t)
end
mutual
theorem Dq.dp {H : Hp} : ∀ {v : V} {d : D}, Dq K H v d → Dp K H v d
  | _, _, .non => .non
  | _, _, .bl b => .bl b
  | _, _, .int i => .int i
  | _, _, .str x => .str x
  | _, _, .lst h a => .lst (SqL.of h) (DqAll.dp a)
  | _, _, .tup h a => .tup h (DqAll.dp a)
theorem DqAll.dp {H : Hp} : ∀ {vs : List V} {ds : List D}, DqAll K H vs ds → DpAll K H vs ds
  | _, _, .nil => .nil
  | _, _, .cons h t => .cons (Dq.dp h) (DqAll.dp t)
end
theorem DqAll.length {H : Hp} : ∀ {vs : List V} {ds : List D}, DqAll K H vs ds → vs.length = ds.length
  | _, _, .nil => rfl
  | _, _, .cons _ t => congrArg (· + 1) (DqAll.length t)
theorem DqAll.get {H : Hp} : ∀ {vs : List V} {ds : List D} {i : Nat} {d : D}, DqAll K H vs ds → ds[i]? = some d → ∃ v, vs[i]? = some v ∧ Dq K H v d
  | _, _, _, _, .nil, h => by simp at h
  | _, _, 0, _, .cons h _, e => by simp at e; subst e; exact ⟨_, rfl, h⟩
  | _, _, i + 1, _, .cons _ t, e => by
    obtain ⟨v, h1, h2⟩ := DqAll.get (i := i) t (by simpa using e)
    exact ⟨v, by simpa using h1, h2⟩
theorem DqAll.getV {H : Hp} : ∀ {vs : List V} {ds : List D} {i : Nat} {v : V}, DqAll K H vs ds → vs[i]? = some v → ∃ d, ds[i]? = some d ∧ Dq K H v d
  | _, _, _, _, .nil, h => by simp at h
  | _, _, 0, _, .cons h _, e => by simp at e; subst e; exact ⟨_, rfl, h⟩
  | _, _, i + 1, _, .cons _ t, e => by
    obtain ⟨v, h1, h2⟩ := DqAll.getV (i := i) t (by simpa using e)
    exact ⟨v, by simpa using h1, h2⟩
theorem DqAll.append {H : Hp} : ∀ {vs ws : List V} {ds es : List D}, DqAll K H vs ds → DqAll K H ws es → DqAll K H (vs ++ ws) (ds ++ es)
  | _, _, _, _, .nil, h => h
  | _, _, _, _, .cons h t, h' => .cons h (DqAll.append t h')
theorem DqAll.take {H : Hp} : ∀ {vs : List V} {ds : List D} (n : Nat), DqAll K H vs ds → DqAll K H (vs.take n) (ds.take n)
  | _, _, 0, _ => .nil
  | _, _, _ + 1, .nil => .nil
  | _, _, n + 1, .cons h t => .cons h (DqAll.take n t)
theorem DqAll.drop {H : Hp} : ∀ {vs : List V} {ds : List D} (n : Nat), DqAll K H vs ds → DqAll K H (vs.drop n) (ds.drop n)
  | _, _, 0, h => h
  | _, _, _ + 1, .nil => .nil
  | _, _, n + 1, .cons _ t => DqAll.drop n t
theorem DqAll.set {H : Hp} {v : V} {d : D} (h : Dq K H v d) : ∀ {vs : List V} {ds : List D} (n : Nat), DqAll K H vs ds → DqAll K H (vs.set n v) (ds.set n d)
  | _, _, _, .nil => .nil
  | _, _, 0, .cons _ t => .cons h t
  | _, _, n + 1, .cons h' t => .cons h' (DqAll.set h n t)
theorem DqAll.reverse {H : Hp} : ∀ {vs : List V} {ds : List D}, DqAll K H vs ds → DqAll K H vs.reverse ds.reverse
  | _, _, .nil => .nil
  | _, _, .cons h t => by
    rw [List.reverse_cons, List.reverse_cons]
    exact DqAll.append (DqAll.reverse t) (.cons h .nil)
end

/-- a value v is what the place s says; fp: the addresses that it owns -/
def VR (K : PySem.W.Frag) (B : AS) (Hs H : Hp) (v : V) : Slot → List Addr → Prop
  | .un, _ => False
  | .sh d, fp => fp = [] ∧ Dq K Hs v d
  | .own ds, fp => ∃ p vs, v = .ref p ∧ fp = [p] ∧ H p = some (.lst vs) ∧ Hs p = none ∧ ¬ B p ∧ DqAll K Hs vs ds
  | .bag, fp => fp = [] ∧ ∃ p, v = .ref p ∧ B p
  | .scr ns, fp => fp = [] ∧ ∃ p, v = .ref p ∧ SqL K Hs p (ns.map V.int)
  | .err a _, fp => fp = [] ∧ v = .ref a
/-- what a place's data are -/
def dat : Slot → Option D
  | .sh d => some d
  | .own ds => some (.list ds)
  | _ => none

section
variable {K : PySem.W.Frag} {B : AS} {Hs H Hs' H' : Hp} {v : V} {s : Slot} {fp : List Addr}
theorem VR.fpok (h : VR K B Hs H v s fp) : ∀ a ∈ fp, Hs a = none ∧ ¬ B a ∧ H a ≠ none := by
  cases s with
  | un => exact h.elim
  | sh d => intro a ha; rw [h.1] at ha; cases ha
  | own ds =>
    obtain ⟨p, vs, rfl, rfl, h1, h2, h3, _⟩ := h
    intro a ha
    have e : a = p := by simpa using ha
    subst e
    exact ⟨h2, h3, by rw [h1]; simp⟩
  | bag => intro a ha; rw [h.1] at ha; cases ha
  | scr ns => intro a ha; rw [h.1] at ha; cases ha
  | err a x => intro a ha; rw [h.1] at ha; cases ha
theorem VR.nodup (h : VR K B Hs H v s fp) : fp.Nodup := by
  cases s with
  | un => exact h.elim
  | sh d => rw [h.1]; exact List.nodup_nil
  | own ds =>
    obtain ⟨p, vs, rfl, rfl, _⟩ := h
    simp
  | bag => rw [h.1]; exact List.nodup_nil
  | scr ns => rw [h.1]; exact List.nodup_nil
  | err a x => rw [h.1]; exact List.nodup_nil
/-- carried on: what is sealed grows, what it owns stays -/
theorem VR.carry (h : VR K B Hs H v s fp) (hs : Sub Hs Hs') (h1 : ∀ a ∈ fp, Hs' a = none) (h2 : ∀ a ∈ fp, ∀ o, H a = some o → H' a = some o) : VR K B Hs' H' v s fp := by
  cases s with
  | un => exact h.elim
  | sh d => exact ⟨h.1, dq_mono hs h.2⟩
  | own ds =>
    obtain ⟨p, vs, rfl, rfl, e1, e2, e3, e4⟩ := h
    exact ⟨p, vs, rfl, rfl, h2 p (by simp) _ e1, h1 p (by simp), e3, dqAll_mono hs e4⟩
  | bag => exact h
  | scr ns => obtain ⟨e, p, e1, e2⟩ := h; exact ⟨e, p, e1, sqL_mono hs e2⟩
  | err a x => exact h
theorem VR.stp (h : VR K B Hs H v s fp) (t : Stp B Hs H Hs' H') : VR K B Hs' H' v s fp := by
  refine h.carry t.hs (fun a ha => ?_) (fun a ha o e => t.kp a o e (h.fpok a ha).2.1)
  have q := h.fpok a ha
  cases e : Hs' a with
  | none => rfl
  | some o => exact absurd (t.new a q.1 (by rw [e]; simp)) q.2.2
/-- a new set of bags -/
theorem VR.bags {B' : AS} (h : VR K B Hs H v s fp) (hb : ∀ a, B a → B' a) (hn : ∀ a ∈ fp, ¬ B' a) : VR K B' Hs H v s fp := by
  cases s with
  | un => exact h.elim
  | sh d => exact h
  | own ds =>
    obtain ⟨p, vs, rfl, rfl, e1, e2, e3, e4⟩ := h
    exact ⟨p, vs, rfl, rfl, e1, e2, hn p (by simp), e4⟩
  | bag => obtain ⟨e, p, e1, e2⟩ := h; exact ⟨e, p, e1, hb p e2⟩
  | scr ns => exact h
  | err a x => exact h
/-- what it owns is sealed: data -/
theorem VR.close (w : WS B Hs H) (h : VR K B Hs H v s fp) {d : D} (e : dat s = some d) :
    ∃ Hs', Sub Hs Hs' ∧ WS B Hs' H ∧ Dq K Hs' v d ∧ (∀ a, Hs a = none → Hs' a ≠ none → a ∈ fp) := by
  cases s with
  | un => exact h.elim
  | sh d' =>
    cases e
    exact ⟨Hs, Sub.refl _, w, h.2, fun a h1 h2 => absurd h1 h2⟩
  | own ds =>
    cases e
    obtain ⟨p, vs, rfl, rfl, e1, e2, e3, e4⟩ := h
    have sb : Sub Hs (upd Hs p (.lst vs)) := fun a o q => by
      rw [upd_ne (ne_of_none q e2)]; exact q
    refine ⟨upd Hs p (.lst vs), sb, ⟨fun a o q => ?_, w.bag, fun a ha => ?_⟩, .lst upd_same (dqAll_mono sb e4), fun a h1 h2 => ?_⟩
    · by_cases x : a = p
      · subst x; rw [upd_same] at q; cases q; exact e1
      · rw [upd_ne x] at q; exact w.sub a o q
    · have x : a ≠ p := fun z => e3 (z ▸ ha)
      rw [upd_ne x]; exact w.sep a ha
    · by_cases x : a = p
      · simp [x]
      · rw [upd_ne x] at h2; exact absurd h1 h2
  | bag => cases e
  | scr ns => cases e
  | err a x => cases e
end

/-- the ground of a def's body: what stood at its entry -/
structure Gd where
  K : PySem.W.Frag
  H0 : Hp
  Hs0 : Hp
  B0 : AS
  cls : Ex → Value

def fset (fp : Nat → List Addr) (i : Nat) (q : List Addr) : Nat → List Addr := fun j => if j = i then q else fp j
theorem fset_same {fp : Nat → List Addr} {i : Nat} {q : List Addr} : fset fp i q i = q := if_pos rfl
theorem fset_ne {fp : Nat → List Addr} {i j : Nat} {q : List Addr} (h : ¬ j = i) : fset fp i q j = fp j := if_neg h
/-- the places of a def's body: Γ what they are; fp: what each owns -/
structure Rel (c : Gd) (Γ : Env') (σ : L2.St) (B : AS) (Hs H : Hp) : Prop where
  ws : WS B Hs H
  bb : ∀ a, c.B0 a → B a
  bn : ∀ a, B a → c.B0 a ∨ c.H0 a = none
  hs : Sub c.Hs0 Hs
  new : ∀ a, c.Hs0 a = none → Hs a ≠ none → c.H0 a = none
  kp : ∀ a o, c.H0 a = some o → ¬ c.B0 a → H a = some o
  th : ∀ a, c.H0 a ≠ none → H a ≠ none
  len : Γ.length = σ.length
  pl : ∃ fp : Nat → List Addr, (∀ i a, a ∈ fp i → c.H0 a = none ∧ H a ≠ none) ∧ (∀ i j a, a ∈ fp i → a ∈ fp j → i = j) ∧
    ∀ (i : Nat) (s : Slot), Γ[i]? = some s → s = .un ∨ ∃ v, σ[i]? = some (some v) ∧ VR c.K B Hs H v s (fp i)
section
variable {c : Gd} {Γ : Env'} {σ : L2.St} {B : AS} {Hs H Hs' H' : Hp}
/-- behind a step that leaves the places as they are -/
theorem Rel.step (r : Rel c Γ σ B Hs H) (t : Stp B Hs H Hs' H') (w : WS B Hs' H') : Rel c Γ σ B Hs' H' := by
  obtain ⟨fp, e1, e2, e3⟩ := r.pl
  refine ⟨w, r.bb, r.bn, r.hs.trans t.hs, fun a h1 h2 => ?_, fun a o h1 h2 => ?_, fun a h => t.th a (r.th a h), r.len, fp, fun i a ha => ⟨(e1 i a ha).1, t.th a (e1 i a ha).2⟩, e2, fun i s h1 => ?_⟩
  · by_cases e : Hs a = none
    · have := t.new a e h2
      cases q : c.H0 a with
      | none => rfl
      | some o => exact absurd this (r.th a (by rw [q]; simp))
    · exact r.new a h1 e
  · refine t.kp a o (r.kp a o h1 h2) fun hb => ?_
    rcases r.bn a hb with z | z
    · exact h2 z
    · rw [z] at h1; cases h1
  · rcases e3 i s h1 with z | ⟨v, z1, z2⟩
    · exact .inl z
    · exact .inr ⟨v, z1, z2.stp t⟩
/-- as one step from the entry -/
theorem Rel.whole (r : Rel c Γ σ B Hs H) : Stp c.B0 c.Hs0 c.H0 Hs H := ⟨r.hs, r.new, r.kp, r.th⟩
theorem Rel.ws0 (r : Rel c Γ σ B Hs H) : WS c.B0 Hs H := ⟨r.ws.sub, fun a h => r.ws.bag a (r.bb a h), fun a h => r.ws.sep a (r.bb a h)⟩
theorem Rel.get (r : Rel c Γ σ B Hs H) {i : Nat} {s : Slot} (h : Γ[i]? = some s) (hs : s ≠ .un) : ∃ v fp, σ[i]? = some (some v) ∧ VR c.K B Hs H v s fp := by
  obtain ⟨fp, e1, e2, e3⟩ := r.pl
  rcases e3 i s h with z | ⟨v, z1, z2⟩
  · exact absurd z hs
  · exact ⟨v, _, z1, z2⟩
/-- a place gets a new content, made behind the state that is told -/
theorem Rel.put (r : Rel c Γ σ B Hs H) (t : Stp B Hs H Hs' H') (w : WS B Hs' H') {i : Nat} {v : V} {s : Slot} {fq : List Addr} (q : VR c.K B Hs' H' v s fq) (nw : ∀ a ∈ fq, H a = none) (hi : i < Γ.length) :
    Rel c (Γ.set i s) (σ.set i (some v)) B Hs' H' := by
  have r' := r.step t w
  obtain ⟨fp, e1, e2, e3⟩ := r.pl
  have n0 : ∀ a ∈ fq, c.H0 a = none := fun a ha => by
    cases x : c.H0 a with
    | none => rfl
    | some o => exact absurd (nw a ha) (r.th a (by rw [x]; simp))
  refine ⟨w, r'.bb, r'.bn, r'.hs, r'.new, r'.kp, r'.th, by rw [List.length_set, List.length_set]; exact r.len, fset fp i fq, fun j a ha => ?_, fun j k a ha hb => ?_, fun j u h => ?_⟩
  · by_cases e : j = i
    · subst e; rw [fset_same] at ha; exact ⟨n0 a ha, (q.fpok a ha).2.2⟩
    · rw [fset_ne e] at ha; exact ⟨(e1 j a ha).1, t.th a (e1 j a ha).2⟩
  · by_cases e : j = i <;> by_cases e' : k = i
    · omega
    · rw [e, fset_same] at ha; rw [fset_ne e'] at hb
      exact absurd (nw a ha) (e1 k a hb).2
    · rw [fset_ne e] at ha; rw [e', fset_same] at hb
      exact absurd (nw a hb) (e1 j a ha).2
    · rw [fset_ne e] at ha; rw [fset_ne e'] at hb
      exact e2 j k a ha hb
  · by_cases e : j = i
    · subst e
      rw [List.getElem?_set_self hi] at h
      cases h
      refine .inr ⟨v, List.getElem?_set_self (by have := r.len; omega), ?_⟩
      rw [fset_same]
      exact q
    · rw [List.getElem?_set_ne (Ne.symm e)] at h
      rcases e3 j u h with z | ⟨x, z1, z2⟩
      · exact .inl z
      · refine .inr ⟨x, by rw [List.getElem?_set_ne (Ne.symm e)]; exact z1, ?_⟩
        rw [fset_ne e]
        exact z2.stp t
/-- what a place owns is changed: its one list -/
theorem Rel.mut (r : Rel c Γ σ B Hs H) {i : Nat} {ds es : List D} (h : Γ[i]? = some (.own ds)) :
    ∃ p vs, σ[i]? = some (some (.ref p)) ∧ H p = some (.lst vs) ∧ DqAll c.K Hs vs ds ∧ ∀ ws, DqAll c.K Hs ws es → Rel c (Γ.set i (.own es)) σ B Hs (upd H p (.lst ws)) := by
  obtain ⟨fp, e1, e2, e3⟩ := r.pl
  obtain ⟨hi, _⟩ := List.getElem?_eq_some_iff.mp h
  rcases e3 i _ h with z | ⟨v, z1, p, vs, rfl, z2, z3, z4, z5, z6⟩
  · cases z
  refine ⟨p, vs, z1, z3, z6, fun ws hw => ?_⟩
  have hp : p ∈ fp i := by rw [z2]; simp
  have n0 : c.H0 p = none := (e1 i p hp).1
  refine ⟨⟨fun a o x => ?_, fun a ha => ?_, r.ws.sep⟩, r.bb, r.bn, r.hs, r.new, fun a o x1 x2 => ?_, fun a x => ?_, by rw [List.length_set]; exact r.len, fp, fun j a ha => ⟨(e1 j a ha).1, ?_⟩, e2, fun j u hu => ?_⟩
  · rw [upd_ne (ne_of_none x z4)]; exact r.ws.sub a o x
  · obtain ⟨g, s, e⟩ := r.ws.bag a ha
    exact ⟨g, s, by rw [upd_ne (fun x : a = p => z5 (x ▸ ha))]; exact e⟩
  · rw [upd_ne (ne_of_none x1 n0)]; exact r.kp a o x1 x2
  · by_cases y : a = p
    · subst y; rw [upd_same]; simp
    · rw [upd_ne y]; exact r.th a x
  · by_cases y : a = p
    · subst y; rw [upd_same]; simp
    · rw [upd_ne y]; exact (e1 j a ha).2
  · by_cases e : j = i
    · subst e
      rw [List.getElem?_set_self hi] at hu
      cases hu
      exact .inr ⟨_, z1, p, ws, rfl, z2, upd_same, z4, z5, hw⟩
    · rw [List.getElem?_set_ne (Ne.symm e)] at hu
      rcases e3 j u hu with z | ⟨x, y1, y2⟩
      · exact .inl z
      · refine .inr ⟨x, y1, y2.carry (Sub.refl _) (fun a ha => (y2.fpok a ha).1) fun a ha o q => ?_⟩
        have : a ≠ p := fun z => e (e2 j i a ha (z ▸ hp))
        rw [upd_ne this]; exact q
/-- an owned list is sealed -/
theorem Rel.close (r : Rel c Γ σ B Hs H) {i : Nat} {ds : List D} (h : Γ[i]? = some (.own ds)) : ∃ Hs', Sub Hs Hs' ∧ Rel c (Γ.set i (.sh (.list ds))) σ B Hs' H := by
  obtain ⟨fp, e1, e2, e3⟩ := r.pl
  obtain ⟨hi, _⟩ := List.getElem?_eq_some_iff.mp h
  rcases e3 i _ h with z | ⟨v, z1, z2⟩
  · cases z
  obtain ⟨Hs', s1, w1, d1, n1⟩ := z2.close r.ws (d := .list ds) rfl
  refine ⟨Hs', s1, w1, r.bb, r.bn, r.hs.trans s1, fun a x1 x2 => ?_, r.kp, r.th, by rw [List.length_set]; exact r.len, fset fp i [], fun j a ha => ?_, fun j k a ha hb => ?_, fun j u hu => ?_⟩
  · by_cases y : Hs a = none
    · exact (e1 i a (n1 a y x2)).1
    · exact r.new a x1 y
  · by_cases e : j = i
    · rw [e, fset_same] at ha; cases ha
    · rw [fset_ne e] at ha; exact e1 j a ha
  · by_cases e : j = i
    · rw [e, fset_same] at ha; cases ha
    · by_cases e' : k = i
      · rw [e', fset_same] at hb; cases hb
      · rw [fset_ne e] at ha; rw [fset_ne e'] at hb
        exact e2 j k a ha hb
  · by_cases e : j = i
    · subst e
      rw [List.getElem?_set_self hi] at hu
      cases hu
      refine .inr ⟨v, z1, ?_⟩
      rw [fset_same]
      exact ⟨rfl, d1⟩
    · rw [List.getElem?_set_ne (Ne.symm e)] at hu
      rcases e3 j u hu with z | ⟨x, y1, y2⟩
      · exact .inl z
      · refine .inr ⟨x, y1, ?_⟩
        rw [fset_ne e]
        refine y2.carry s1 (fun a ha => ?_) fun _ _ _ q => q
        cases q : Hs' a with
        | none => rfl
        | some o => exact absurd (e2 j i a ha (n1 a (y2.fpok a ha).1 (by rw [q]; simp))) e
/-- places forgotten -/
theorem Rel.weak (r : Rel c Γ σ B Hs H) {Γ' : Env'} {σ' : L2.St} (hl : Γ'.length = σ'.length) (w : ∀ (i : Nat) (s : Slot), Γ'[i]? = some s → s = Slot.un ∨ (Γ[i]? = some s ∧ ∀ v, σ[i]? = some (some v) → σ'[i]? = some (some v))) : Rel c Γ' σ' B Hs H := by
  obtain ⟨fp, e1, e2, e3⟩ := r.pl
  refine ⟨r.ws, r.bb, r.bn, r.hs, r.new, r.kp, r.th, hl, fp, e1, e2, fun i s h => ?_⟩
  rcases w i s h with z | ⟨z1, z2⟩
  · exact .inl z
  · rcases e3 i s z1 with z | ⟨v, y1, y2⟩
    · exact .inl z
    · exact .inr ⟨v, z2 v y1, y2⟩
end

abbrev SK := Slot → Prop
abbrev EK := Ex → Prop
/-- an expression over data: the places, what is wanted of its value, of an exception -/
abbrev TD := Env' → SK → EK → Prop
abbrev TDt := Env' → (Bool → Prop) → EK → Prop
abbrev TDa := Env' → (List Slot → Prop) → EK → Prop
def Mono (t : TD) : Prop := ∀ (Γ : Env') (Q Q' : SK) (E E' : EK), (∀ s, Q s → Q' s) → (∀ x, E x → E' x) → t Γ Q E → t Γ Q' E'
def MonoT (t : TDt) : Prop := ∀ (Γ : Env') (Q Q' : Bool → Prop) (E E' : EK), (∀ s, Q s → Q' s) → (∀ x, E x → E' x) → t Γ Q E → t Γ Q' E'
def MonoA (t : TDa) : Prop := ∀ (Γ : Env') (Q Q' : List Slot → Prop) (E E' : EK), (∀ s, Q s → Q' s) → (∀ x, E x → E' x) → t Γ Q E → t Γ Q' E'

/-- own lists sealed -/
def nrm : Slot → Slot
  | .own ds => .sh (.list ds)
  | s => s
def asD (s : Slot) (k : D → Prop) : Prop := match s with
  | .sh d => k d
  | .own ds => k (.list ds)
  | _ => False
theorem asD_mono {s : Slot} {k k' : D → Prop} (h : ∀ d, k d → k' d) (q : asD s k) : asD s k' := by
  cases s with
  | un => exact q
  | sh d => exact h d q
  | own ds => exact h _ q
  | bag => exact q
  | scr ns => exact q
  | err a x => exact q
theorem asD_nrm {s : Slot} {k : D → Prop} (q : asD s k) : ∃ d, nrm s = .sh d ∧ k d := by
  cases s with
  | un => exact q.elim
  | sh d => exact ⟨d, rfl, q⟩
  | own ds => exact ⟨_, rfl, q⟩
  | bag => exact q.elim
  | scr ns => exact q.elim
  | err a x => exact q.elim
/-- the data of several places -/
def asDs : List Slot → (List D → Prop) → Prop
  | [], k => k []
  | s :: ss, k => asD s fun d => asDs ss fun ds => k (d :: ds)
theorem asDs_mono : ∀ {ss : List Slot} {k k' : List D → Prop}, (∀ d, k d → k' d) → asDs ss k → asDs ss k'
  | [], _, _, h, q => h _ q
  | _ :: ss, _, _, h, q => asD_mono (fun _ q => asDs_mono (fun _ q => h _ q) q) q

theorem Stp.close {B : AS} {Hs H Hs' H' Hs2 : Hp} (t : Stp B Hs H Hs' H') (s : Sub Hs' Hs2) (n : ∀ a, Hs' a = none → Hs2 a ≠ none → H a = none) : Stp B Hs H Hs2 H' :=
  ⟨t.hs.trans s, fun a h1 h2 => by
    by_cases e : Hs' a = none
    · exact n a e h2
    · exact t.new a h1 e, t.kp, t.th⟩
theorem Stp.none {B : AS} {Hs H Hs' H' : Hp} (t : Stp B Hs H Hs' H') {a : Addr} (h : H' a = none) : H a = none := by
  cases q : H a with
  | none => rfl
  | some o => exact absurd h (t.th a (by rw [q]; simp))

section
variable {K : PySem.W.Frag} {B : AS} {Hs H Hs' H' : Hp}
theorem VR.nrm {v : V} {s : Slot} {fp : List Addr} (w : WS B Hs H) (h : VR K B Hs H v s fp) :
    ∃ Hs', Sub Hs Hs' ∧ WS B Hs' H ∧ VR K B Hs' H v (DL.nrm s) [] ∧ (∀ a, Hs a = none → Hs' a ≠ none → a ∈ fp) := by
  cases s with
  | un => exact h.elim
  | sh d => exact ⟨Hs, Sub.refl _, w, ⟨rfl, h.2⟩, fun a h1 h2 => absurd h1 h2⟩
  | own ds =>
    obtain ⟨Hs', s1, w1, d1, n1⟩ := h.close w (d := .list ds) rfl
    exact ⟨Hs', s1, w1, ⟨rfl, d1⟩, n1⟩
  | bag => exact ⟨Hs, Sub.refl _, w, ⟨rfl, h.2⟩, fun a h1 h2 => absurd h1 h2⟩
  | scr ns => exact ⟨Hs, Sub.refl _, w, ⟨rfl, h.2⟩, fun a h1 h2 => absurd h1 h2⟩
  | err a x => exact ⟨Hs, Sub.refl _, w, ⟨rfl, h.2⟩, fun a h1 h2 => absurd h1 h2⟩
/-- several values -/
inductive VRs (K : PySem.W.Frag) (B : AS) (Hs H : Hp) : List V → List Slot → List Addr → Prop
  | nil : VRs K B Hs H [] [] []
  | cons {v vs s ss fp fq} : VR K B Hs H v s fp → VRs K B Hs H vs ss fq → (∀ a ∈ fp, a ∉ fq) → VRs K B Hs H (v :: vs) (s :: ss) (fp ++ fq)
theorem VRs.fpok : ∀ {vs : List V} {ss : List Slot} {fp : List Addr}, VRs K B Hs H vs ss fp → ∀ a ∈ fp, Hs a = none ∧ ¬ B a ∧ H a ≠ none
  | _, _, _, .nil, a, ha => by cases ha
  | _, _, _, .cons h t _, a, ha => by
    rcases List.mem_append.mp ha with z | z
    · exact h.fpok a z
    · exact VRs.fpok t a z
theorem VRs.stp : ∀ {vs : List V} {ss : List Slot} {fp : List Addr}, VRs K B Hs H vs ss fp → Stp B Hs H Hs' H' → VRs K B Hs' H' vs ss fp
  | _, _, _, .nil, _ => .nil
  | _, _, _, .cons h r d, t => .cons (h.stp t) (VRs.stp r t) d
theorem VRs.carry : ∀ {vs : List V} {ss : List Slot} {fp : List Addr}, VRs K B Hs H vs ss fp → Sub Hs Hs' → (∀ a ∈ fp, Hs' a = none) → (∀ a ∈ fp, ∀ o, H a = some o → H' a = some o) → VRs K B Hs' H' vs ss fp
  | _, _, _, .nil, _, _, _ => .nil
  | _, _, _, .cons h r d, s, n, k => .cons (h.carry s (fun a ha => n a (List.mem_append_left _ ha)) fun a ha => k a (List.mem_append_left _ ha)) (VRs.carry r s (fun a ha => n a (List.mem_append_right _ ha)) fun a ha => k a (List.mem_append_right _ ha)) d
theorem VRs.nrm : ∀ {vs : List V} {ss : List Slot} {fp : List Addr} {Hs : Hp}, WS B Hs H → VRs K B Hs H vs ss fp →
    ∃ Hs', Sub Hs Hs' ∧ WS B Hs' H ∧ VRs K B Hs' H vs (ss.map DL.nrm) [] ∧ (∀ a, Hs a = none → Hs' a ≠ none → a ∈ fp)
  | _, _, _, Hs, w, .nil => ⟨Hs, Sub.refl _, w, .nil, fun a h1 h2 => absurd h1 h2⟩
  | _, _, _, Hs, w, .cons (fp := fp) (fq := fq) h r d => by
    obtain ⟨Hs1, s1, w1, v1, n1⟩ := h.nrm w
    have r1 := r.carry (Hs' := Hs1) (H' := H) s1 (fun a ha => by
      cases q : Hs1 a with
      | none => rfl
      | some o => exact absurd ha (d a (n1 a (r.fpok a ha).1 (by rw [q]; simp)))) fun _ _ _ q => q
    obtain ⟨Hs2, s2, w2, v2, n2⟩ := VRs.nrm w1 r1
    refine ⟨Hs2, s1.trans s2, w2, ?_, fun a h1 h2 => ?_⟩
    · have := VRs.cons (fp := []) (v1.carry s2 (fun a ha => by cases ha) fun _ _ _ q => q) v2 (fun a ha => by cases ha)
      exact this
    · by_cases e : Hs1 a = none
      · exact List.mem_append_right _ (n2 a e h2)
      · exact List.mem_append_left _ (n1 a h1 e)
theorem VRs.data : ∀ {vs : List V} {ss : List Slot} {fp : List Addr}, VRs K B Hs H vs (ss.map DL.nrm) fp → ∀ {k : List D → Prop}, asDs ss k → ∃ ds, DqAll K Hs vs ds ∧ k ds
  | _, [], _, h, k, q => by
    cases h
    exact ⟨[], .nil, q⟩
  | _, s :: ss, _, h, k, q => by
    obtain ⟨d, e, q⟩ := asD_nrm q
    cases h with
    | cons h1 h2 _ =>
      rw [e] at h1
      obtain ⟨ds, h3, h4⟩ := VRs.data h2 q
      exact ⟨d :: ds, .cons h1.2 h3, h4⟩
theorem VRs.length : ∀ {vs : List V} {ss : List Slot} {fp : List Addr}, VRs K B Hs H vs ss fp → vs.length = ss.length
  | _, _, _, .nil => rfl
  | _, _, _, .cons _ t _ => congrArg (· + 1) (VRs.length t)
end

section
variable {c : Gd} {B : AS} {Hs H Hs1 H1 : Hp} {Q : VK} {s : Slot}
/-- behind an expression -/
def Aft (c : Gd) (B : AS) (Hs H : Hp) (Q : VK) : SK := fun s => ∀ (v : V) (Hs' H' : Hp) (fp : List Addr), Stp B Hs H Hs' H' → WS B Hs' H' → VR c.K B Hs' H' v s fp → (∀ a ∈ fp, H a = none) → Q v H'
def Exf (c : Gd) (W : WX) (σ : L2.St) (B : AS) (Hs H : Hp) : EK := fun x => ∀ (Hs' H' : Hp), Stp B Hs H Hs' H' → WS B Hs' H' → W (c.cls x) none σ H'
def AftT (B : AS) (Hs H : Hp) (Q : Bool → Hp → Prop) : Bool → Prop := fun b => ∀ (Hs' H' : Hp), Stp B Hs H Hs' H' → WS B Hs' H' → Q b H'
def AftA (c : Gd) (B : AS) (Hs H : Hp) (Q : List V → Hp → Prop) : List Slot → Prop := fun ss => ∀ (vs : List V) (Hs' H' : Hp) (fp : List Addr), Stp B Hs H Hs' H' → WS B Hs' H' → VRs c.K B Hs' H' vs ss fp → (∀ a ∈ fp, H a = none) → Q vs H'
theorem Aft.on (t : Stp B Hs H Hs1 H1) (q : Aft c B Hs H Q s) : Aft c B Hs1 H1 Q s := fun v Hs' H' fp t' w r n => q v Hs' H' fp (t.trans t') w r fun a ha => t.none (n a ha)
theorem Exf.on {W : WX} {σ : L2.St} {x : Ex} (t : Stp B Hs H Hs1 H1) (q : Exf c W σ B Hs H x) : Exf c W σ B Hs1 H1 x := fun Hs' H' t' w => q Hs' H' (t.trans t') w
theorem AftT.on {Q : Bool → Hp → Prop} {b : Bool} (t : Stp B Hs H Hs1 H1) (q : AftT B Hs H Q b) : AftT B Hs1 H1 Q b := fun Hs' H' t' w => q Hs' H' (t.trans t') w
theorem AftA.on {Q : List V → Hp → Prop} {ss : List Slot} (t : Stp B Hs H Hs1 H1) (q : AftA c B Hs H Q ss) : AftA c B Hs1 H1 Q ss := fun v Hs' H' fp t' w r n => q v Hs' H' fp (t.trans t') w r fun a ha => t.none (n a ha)
/-- a value without a footprint -/
theorem Aft.now (q : Aft c B Hs H Q s) {v : V} (w : WS B Hs H) (h : VR c.K B Hs H v s []) : Q v H := q v Hs H [] Stp.refl w h (fun a ha => by cases ha)
end

/-- the readings -/
def lE (c : Gd) (W : WX) (t : TD) : TE := fun σ H Q => ∃ (Γ : Env') (B : AS) (Hs : Hp), Rel c Γ σ B Hs H ∧ t Γ (Aft c B Hs H Q) (Exf c W σ B Hs H)
def lT (c : Gd) (W : WX) (t : TDt) : TT := fun σ H Q => ∃ (Γ : Env') (B : AS) (Hs : Hp), Rel c Γ σ B Hs H ∧ t Γ (AftT B Hs H Q) (Exf c W σ B Hs H)
def lA (c : Gd) (W : WX) (t : TDa) : TA := fun σ H Q => ∃ (Γ : Env') (B : AS) (Hs : Hp), Rel c Γ σ B Hs H ∧ t Γ (AftA c B Hs H Q) (Exf c W σ B Hs H)
structure DE (c : Gd) (X : Cx) (e : Expr) (t : TD) : Prop where
  mono : Mono t
  run : ∀ W, Takes X W → PE X e (lE c W t)
structure DT (c : Gd) (X : Cx) (e : Expr) (t : TDt) : Prop where
  mono : MonoT t
  run : ∀ W, Takes X W → PT X e (lT c W t)
structure DW (c : Gd) (X : Cx) (e : Expr) (t : TDt) : Prop where
  mono : MonoT t
  run : ∀ W, Takes X W → PW X e (lT c W t)
structure DA (c : Gd) (X : Cx) (es : List Expr) (t : TDa) : Prop where
  mono : MonoA t
  len : ∀ Γ Q E, t Γ Q E → t Γ (fun ss => ss.length = es.length ∧ Q ss) E
  run : ∀ W, Takes X W → PA X es (lA c W t)

theorem _root_.L2.PE.imp {X : Cx} {e : Expr} {t u : TE} (h : PE X e t) (i : ∀ σ H Q, u σ H Q → t σ H Q) : PE X e u := ⟨fun pins s σ H Q I q => h.run pins s σ H Q I (i _ _ _ q)⟩
theorem _root_.L2.PT.imp {X : Cx} {e : Expr} {t u : TT} (h : PT X e t) (i : ∀ σ H Q, u σ H Q → t σ H Q) : PT X e u := ⟨fun pins s σ H Q I q => h.run pins s σ H Q I (i _ _ _ q)⟩
theorem _root_.L2.PW.imp {X : Cx} {e : Expr} {t u : TT} (h : PW X e t) (i : ∀ σ H Q, u σ H Q → t σ H Q) : PW X e u := ⟨fun wh pins s σ H Q I q => h.run wh pins s σ H Q I (i _ _ _ q)⟩
theorem _root_.L2.PA.imp {X : Cx} {e : List Expr} {t u : TA} (h : PA X e t) (i : ∀ σ H Q, u σ H Q → t σ H Q) : PA X e u := ⟨fun pos pins s σ H Q I q => h.run pos pins s σ H Q I (i _ _ _ q)⟩

section
variable {c : Gd} {X : Cx} {pos : Pos}
/-! ### names, constants -/
def dVar (i : Nat) : TD := fun Γ Q _ => match Γ[i]? with
  | some (.sh d) => Q (.sh d)
  | some .bag => Q .bag
  | some (.scr ns) => Q (.scr ns)
  | some (.err a x) => Q (.err a x)
  | _ => False
theorem dVar_mono {i : Nat} : Mono (dVar i) := fun Γ Q Q' E E' h _ q => by
  unfold dVar at q ⊢
  split at q
  · exact h _ q
  · exact h _ q
  · exact h _ q
  · exact h _ q
  · exact q.elim
theorem de_var (i : Nat) {x : Str} {p : Pos} (hN : X.N[i]? = some x := by rfl) (hv : Vis X.env.scope x := by first | exact Or.inl rfl | exact Or.inr (Or.inl rfl) | exact Or.inr (Or.inr rfl)) (hd : (x == ("__debug__" : Str)) = false := by decide)
    (hcd : (x == ("__classdict__" : Str)) = false := by decide) : DE c X (.Name x p) (dVar i) := by
  refine ⟨dVar_mono, fun W tk => (pe_var hN hv hd hcd).imp fun σ H Q ⟨Γ, B, Hs, r, q⟩ => ?_⟩
  unfold dVar at q
  split at q
  · rename_i d e
    obtain ⟨v, fp, e1, e2⟩ := r.get e (by intro z; cases z)
    obtain ⟨rfl, e3⟩ := e2
    exact ⟨v, e1, q.now r.ws ⟨rfl, e3⟩⟩
  · rename_i e
    obtain ⟨v, fp, e1, e2⟩ := r.get e (by intro z; cases z)
    obtain ⟨rfl, e3⟩ := e2
    exact ⟨v, e1, q.now r.ws ⟨rfl, e3⟩⟩
  · rename_i ns e
    obtain ⟨v, fp, e1, e2⟩ := r.get e (by intro z; cases z)
    obtain ⟨rfl, e3⟩ := e2
    exact ⟨v, e1, q.now r.ws ⟨rfl, e3⟩⟩
  · rename_i a x e
    obtain ⟨v, fp, e1, e2⟩ := r.get e (by intro z; cases z)
    obtain ⟨rfl, e3⟩ := e2
    exact ⟨v, e1, q.now r.ws ⟨rfl, e3⟩⟩
  · exact q.elim
def dC (d : D) : TD := fun _ Q _ => Q (.sh d)
theorem dC_mono {d : D} : Mono (dC d) := fun _ _ _ _ _ h _ q => h _ q
theorem de_int {i : Int} {j : Nat} {p : Pos} : DE c X (.Constant (.int i) j p) (dC (.int i)) := ⟨dC_mono, fun W tk => pe_int.imp fun σ H Q ⟨Γ, B, Hs, r, q⟩ => q.now r.ws ⟨rfl, .int i⟩⟩
theorem de_bl {i : Bool} {j : Nat} {p : Pos} : DE c X (.Constant (.bool i) j p) (dC (.bool i)) := ⟨dC_mono, fun W tk => pe_bl.imp fun σ H Q ⟨Γ, B, Hs, r, q⟩ => q.now r.ws ⟨rfl, .bl i⟩⟩
theorem de_non {j : Nat} {p : Pos} : DE c X (.Constant .none j p) (dC .none) := ⟨dC_mono, fun W tk => pe_non.imp fun σ H Q ⟨Γ, B, Hs, r, q⟩ => q.now r.ws ⟨rfl, .non⟩⟩
theorem de_str {x : Str} {j : Nat} {p : Pos} : DE c X (.Constant (.str x) j p) (dC (.str x)) := ⟨dC_mono, fun W tk => pe_str.imp fun σ H Q ⟨Γ, B, Hs, r, q⟩ => q.now r.ws ⟨rfl, .str x⟩⟩
/-- a module's constant: a number, a text, a tuple of the written part -/
theorem de_glob {x : Str} {u : Value} {v : V} {d : D} {p : Pos} (hg : Gl X x) (hm : X.mg x = some u) (rv : RelV v u) (hd : ∀ H, Dq c.K H v d) (hdb : (x == ("__debug__" : Str)) = false := by decide) : DE c X (.Name x p) (dC d) :=
  ⟨dC_mono, fun W tk => (pe_glob hg hm rv hdb).imp fun σ H Q ⟨Γ, B, Hs, r, q⟩ => q.now r.ws ⟨rfl, hd Hs⟩⟩

/-! ### arguments -/
def dNil : TDa := fun _ Q _ => Q []
def dCons (ta : TD) (tr : TDa) : TDa := fun Γ Q E => ta Γ (fun s => tr Γ (fun ss => Q (s :: ss)) E) E
theorem da_nil : DA c X [] dNil := ⟨fun _ _ _ _ _ h _ q => h _ q, fun Γ Q E q => ⟨rfl, q⟩, fun W tk => pa_nil.imp fun σ H Q ⟨Γ, B, Hs, r, q⟩ => q [] Hs H [] Stp.refl r.ws .nil (fun a ha => by cases ha)⟩
theorem da_cons {e : Expr} {es : List Expr} {ta : TD} {tr : TDa} (ha : DE c X e ta) (hr : DA c X es tr) (hs : starEach (e :: es) X.env = (false, eval e X.env) :: starEach es X.env := by rfl) : DA c X (e :: es) (dCons ta tr) := by
  refine ⟨fun Γ Q Q' E E' h1 h2 q => ha.mono Γ _ _ _ _ (fun s q => hr.mono Γ _ _ _ _ (fun ss q => h1 _ q) h2 q) h2 q, fun Γ Q E q => ha.mono Γ _ _ _ _ (fun s q => hr.mono Γ _ _ _ _ (fun ss q => ⟨congrArg (· + 1) q.1, q.2⟩) (fun _ z => z) (hr.len Γ _ E q)) (fun _ z => z) q, fun W tk => (pa_cons (ha.run W tk) (hr.run W tk) hs).imp fun σ H Q ⟨Γ, B, Hs, r, q⟩ => ?_⟩
  refine ⟨Γ, B, Hs, r, ha.mono Γ _ _ _ _ (fun s q v Hs1 H1 fp t w vr nw => ?_) (fun _ z => z) q⟩
  refine ⟨Γ, B, Hs1, r.step t w, hr.mono Γ _ _ _ _ (fun ss q vs Hs2 H2 fq t2 w2 vr2 nw2 => ?_) (fun x z => z.on t) q⟩
  refine q (v :: vs) Hs2 H2 (fp ++ fq) (t.trans t2) w2 (.cons (vr.stp t2) vr2 fun a h1 h2 => (vr.fpok a h1).2.2 (nw2 a h2)) fun a h => ?_
  rcases List.mem_append.mp h with z | z
  · exact nw a z
  · exact t.none (nw2 a z)

/-! ### operators by data -/
/-- what a function of values, known by data, asks: the arguments' data, what is wanted -/
abbrev G2 := D → D → SK → Prop
def Mono2 (g : G2) : Prop := ∀ x y Q Q', (∀ s, Q s → Q' s) → g x y Q → g x y Q'
def rD (c : Gd) (g : G2) : R2 := fun x y H Q => ∃ (B : AS) (Hs : Hp) (dx dy : D), WS B Hs H ∧ Dq c.K Hs x dx ∧ Dq c.K Hs y dy ∧ g dx dy (Aft c B Hs H Q)
def dBin (g : G2) (ta tb : TD) : TD := fun Γ Q E => ta Γ (fun s => tb Γ (fun u => asD s fun x => asD u fun y => g x y Q) E) E
theorem dBin_mono {g : G2} {ta tb : TD} (hg : Mono2 g) (ha : Mono ta) (hb : Mono tb) : Mono (dBin g ta tb) := fun Γ Q Q' E E' h1 h2 q =>
  ha Γ _ _ _ _ (fun s q => hb Γ _ _ _ _ (fun u q => asD_mono (fun x q => asD_mono (fun y q => hg x y _ _ h1 q) q) q) h2 q) h2 q
/-- two values, behind one another, as data -/
theorem two {W : WX} {g : G2} {ta tb : TD} {σ : L2.St} {H : Hp} {Q : VK} (hg : Mono2 g) (ha : Mono ta) (hb : Mono tb) (h : lE c W (dBin g ta tb) σ H Q) :
    lE c W ta σ H fun x H1 => lE c W tb σ H1 fun y H2 => rD c g x y H2 Q := by
  obtain ⟨Γ, B, Hs, r, q⟩ := h
  refine ⟨Γ, B, Hs, r, ha Γ _ _ _ _ (fun s q v Hs1 H1 fp t w vr nw => ?_) (fun _ z => z) q⟩
  refine ⟨Γ, B, Hs1, r.step t w, hb Γ _ _ _ _ (fun u q v2 Hs2 H2 fq t2 w2 vr2 nw2 => ?_) (fun x z => z.on t) q⟩
  have vs : VRs c.K B Hs2 H2 [v, v2] [s, u] (fp ++ (fq ++ [])) := .cons (vr.stp t2) (.cons vr2 .nil fun a _ h => by cases h) fun a h1 h2 => (vr.fpok a h1).2.2 (nw2 a (by simpa using h2))
  obtain ⟨Hs3, s3, w3, v3, n3⟩ := vs.nrm w2
  have q' : asDs [s, u] fun ds => ∃ x y, ds = [x, y] ∧ g x y (Aft c B Hs H Q) := asD_mono (fun x q => asD_mono (fun y q => ⟨x, y, rfl, q⟩) q) q
  obtain ⟨ds, d1, x, y, rfl, q'⟩ := v3.data q'
  have t3 : Stp B Hs H Hs3 H2 := (t.trans t2).close s3 fun a h1 h2 => by
    rcases List.mem_append.mp (n3 a h1 h2) with z | z
    · exact nw a z
    · exact t.none (nw2 a (by simpa using z))
  cases d1 with
  | cons dx d1 =>
    cases d1 with
    | cons dy d1 =>
      exact ⟨B, Hs3, x, y, w3, dx, dy, hg x y _ _ (fun s z => z.on t3) q'⟩
theorem de_bin {op : Operator} {g : G2} {a b : Expr} {ta tb : TD} (ho : OpR X (binaryOp op) (rD c g)) (hg : Mono2 g) (ha : DE c X a ta) (hb : DE c X b tb) : DE c X (.BinOp a op b pos) (dBin g ta tb) :=
  ⟨dBin_mono hg ha.mono hb.mono, fun W tk => (pe_op ho (ha.run W tk) (hb.run W tk)).imp fun σ H Q h => two hg ha.mono hb.mono h⟩
theorem de_cmp {op : CmpOp} {g : G2} {a b : Expr} {ta tb : TD} (ho : OpR X (compareOp op) (rD c g)) (hg : Mono2 g) (ha : DE c X a ta) (hb : DE c X b tb) (hm : behindInMarks op b = false) : DE c X (.Compare a [op] [b] pos) (dBin g ta tb) :=
  ⟨dBin_mono hg ha.mono hb.mono, fun W tk => (pe_cmpR ho (ha.run W tk) (hb.run W tk) hm).imp fun σ H Q h => two hg ha.mono hb.mono h⟩
theorem de_ix {g : G2} {a b : Expr} {ta tb : TD} (ho : IxR X (rD c g)) (hg : Mono2 g) (ha : DE c X a ta) (hb : DE c X b tb) (hs : PlainIx b) : DE c X (.Subscript a b pos) (dBin g ta tb) :=
  ⟨dBin_mono hg ha.mono hb.mono, fun W tk => (pe_ix ho (ha.run W tk) (hb.run W tk) hs).imp fun σ H Q h => two hg ha.mono hb.mono h⟩
/-- a value's truth, where it is True or False -/
def bo (s : Slot) (k : Bool → Prop) : Prop := match s with
  | .sh (.bool b) => k b
  | _ => False
theorem bo_mono {s : Slot} {k k' : Bool → Prop} (h : ∀ b, k b → k' b) (q : bo s k) : bo s k' := by
  unfold bo at q ⊢
  split at q
  · exact h _ q
  · exact q.elim
theorem bo_sh {s : Slot} {k : Bool → Prop} (q : bo s k) : ∃ b, s = .sh (.bool b) ∧ k b := by
  unfold bo at q
  split at q
  · exact ⟨_, rfl, q⟩
  · exact q.elim
def dTest (t : TD) : TDt := fun Γ Q E => t Γ (fun s => bo s Q) E
theorem dTest_mono {t : TD} (h : Mono t) : MonoT (dTest t) := fun Γ Q Q' E E' h1 h2 q => h Γ _ _ _ _ (fun s q => bo_mono h1 q) h2 q
theorem test_of {W : WX} {t : TD} {σ : L2.St} {H : Hp} {Q : Bool → Hp → Prop} (ht : Mono t) (h : lT c W (dTest t) σ H Q) : lE c W t σ H fun x H' => ∃ k, x = .bl k ∧ Q k H' := by
  obtain ⟨Γ, B, Hs, r, q⟩ := h
  refine ⟨Γ, B, Hs, r, ht Γ _ _ _ _ (fun s q v Hs1 H1 fp t w vr nw => ?_) (fun _ z => z) q⟩
  obtain ⟨b, rfl, q⟩ := bo_sh q
  obtain ⟨_, d⟩ := vr
  cases d
  exact ⟨b, rfl, q Hs1 H1 t w⟩
theorem dt_cmp {op : CmpOp} {g : G2} {a b : Expr} {ta tb : TD} (ho : OpR X (compareOp op) (rD c g)) (hg : Mono2 g) (ha : DE c X a ta) (hb : DE c X b tb) (hm : behindInMarks op b = false) : DT c X (.Compare a [op] [b] pos) (dTest (dBin g ta tb)) :=
  ⟨dTest_mono (dBin_mono hg ha.mono hb.mono), fun W tk => (pt_cmpR ho (ha.run W tk) (hb.run W tk) hm).imp fun σ H Q h => two hg ha.mono hb.mono (by
    obtain ⟨Γ, B, Hs, r, q⟩ := test_of (dBin_mono hg ha.mono hb.mono) h
    exact ⟨Γ, B, Hs, r, q⟩)⟩
theorem dt_val {e : Expr} {t : TD} (h : DE c X e t) (he : ∀ whole, isTrue e X.env whole = (do let v ← whole; standAt e.pos; holding [v] (truthy v)) := by intro _; rfl) : DT c X e (dTest t) :=
  ⟨dTest_mono h.mono, fun W tk => (pt_val (h.run W tk) he).imp fun σ H Q z => test_of h.mono z⟩
end

section
variable {c : Gd} {X : Cx} {pos : Pos}
/-! ### and, or, not, if -/
def dAndV (ta tb : TD) : TD := fun Γ Q E => ta Γ (fun s => bo s fun k => if k = true then tb Γ Q E else Q (.sh (.bool false))) E
def dOrV (ta tb : TD) : TD := fun Γ Q E => ta Γ (fun s => bo s fun k => if k = true then Q (.sh (.bool true)) else tb Γ Q E) E
def dNotV (ta : TD) : TD := fun Γ Q E => ta Γ (fun s => bo s fun k => Q (.sh (.bool (!k)))) E
theorem ite_mono {p : Prop} [Decidable p] {A B A' B' : Prop} (h1 : A → A') (h2 : B → B') (h : if p then A else B) : if p then A' else B' := by
  by_cases e : p
  · rw [if_pos e] at h ⊢; exact h1 h
  · rw [if_neg e] at h ⊢; exact h2 h
theorem Aft.bool {B : AS} {Hs H Hs1 H1 : Hp} {Q : VK} {b : Bool} (q : Aft c B Hs H Q (.sh (.bool b))) (t : Stp B Hs H Hs1 H1) (w : WS B Hs1 H1) : Q (.bl b) H1 :=
  q _ Hs1 H1 [] t w ⟨rfl, .bl b⟩ (fun a ha => by cases ha)
theorem VR.bool {K : PySem.W.Frag} {B : AS} {Hs H : Hp} {v : V} {b : Bool} {fp : List Addr} (h : VR K B Hs H v (.sh (.bool b)) fp) : v = .bl b := by
  obtain ⟨_, d⟩ := h
  cases d
  rfl
theorem de_one {op} {a : Expr} {ta : TD} (ha : DE c X a ta) : DE c X (.BoolOp op [a] pos) ta := ⟨ha.mono, fun W tk => pe_one (ha.run W tk)⟩
theorem de_and {a b : Expr} {rest : List Expr} {ta tb : TD} (ha : DE c X a ta) (hb : DE c X (.BoolOp .And (b :: rest) pos) tb) : DE c X (.BoolOp .And (a :: b :: rest) pos) (dAndV ta tb) := by
  refine ⟨fun Γ Q Q' E E' h1 h2 q => ha.mono Γ _ _ _ _ (fun s q => bo_mono (fun k q => ite_mono (fun q => hb.mono Γ _ _ _ _ h1 h2 q) (fun q => h1 _ q) q) q) h2 q, fun W tk => (pe_and (ha.run W tk) (hb.run W tk)).imp fun σ H Q ⟨Γ, B, Hs, r, q⟩ => ?_⟩
  refine ⟨Γ, B, Hs, r, ha.mono Γ _ _ _ _ (fun s q v Hs1 H1 fp t w vr nw => ?_) (fun _ z => z) q⟩
  obtain ⟨k, e', q2⟩ := bo_sh q
  clear q
  have q := q2
  clear q2
  subst e'
  refine ⟨k, vr.bool, ?_⟩
  cases k with
  | true =>
    rw [if_pos rfl] at q ⊢
    exact ⟨Γ, B, Hs1, r.step t w, hb.mono Γ _ _ _ _ (fun s z => z.on t) (fun x z => z.on t) q⟩
  | false =>
    rw [if_neg Bool.false_ne_true] at q ⊢
    exact q.bool t w
theorem de_or {a b : Expr} {rest : List Expr} {ta tb : TD} (ha : DE c X a ta) (hb : DE c X (.BoolOp .Or (b :: rest) pos) tb) : DE c X (.BoolOp .Or (a :: b :: rest) pos) (dOrV ta tb) := by
  refine ⟨fun Γ Q Q' E E' h1 h2 q => ha.mono Γ _ _ _ _ (fun s q => bo_mono (fun k q => ite_mono (fun q => h1 _ q) (fun q => hb.mono Γ _ _ _ _ h1 h2 q) q) q) h2 q, fun W tk => (pe_or (ha.run W tk) (hb.run W tk)).imp fun σ H Q ⟨Γ, B, Hs, r, q⟩ => ?_⟩
  refine ⟨Γ, B, Hs, r, ha.mono Γ _ _ _ _ (fun s q v Hs1 H1 fp t w vr nw => ?_) (fun _ z => z) q⟩
  obtain ⟨k, e', q2⟩ := bo_sh q
  clear q
  have q := q2
  clear q2
  subst e'
  refine ⟨k, vr.bool, ?_⟩
  cases k with
  | true =>
    rw [if_pos rfl] at q ⊢
    exact q.bool t w
  | false =>
    rw [if_neg Bool.false_ne_true] at q ⊢
    exact ⟨Γ, B, Hs1, r.step t w, hb.mono Γ _ _ _ _ (fun s z => z.on t) (fun x z => z.on t) q⟩
theorem de_not {a : Expr} {ta : TD} (ha : DE c X a ta) : DE c X (.UnaryOp .Not a pos) (dNotV ta) := by
  refine ⟨fun Γ Q Q' E E' h1 h2 q => ha.mono Γ _ _ _ _ (fun s q => bo_mono (fun k q => h1 _ q) q) h2 q, fun W tk => (pe_not (ha.run W tk)).imp fun σ H Q ⟨Γ, B, Hs, r, q⟩ => ?_⟩
  refine ⟨Γ, B, Hs, r, ha.mono Γ _ _ _ _ (fun s q v Hs1 H1 fp t w vr nw => ?_) (fun _ z => z) q⟩
  obtain ⟨k, e', q2⟩ := bo_sh q
  clear q
  have q := q2
  clear q2
  subst e'
  exact ⟨k, vr.bool, q.bool t w⟩
def dIf (tc : TDt) (ta tb : TD) : TD := fun Γ Q E => tc Γ (fun k => if k = true then ta Γ Q E else tb Γ Q E) E
theorem de_if {t a b : Expr} {tc : TDt} {ta tb : TD} (hc : DT c X t tc) (ha : DE c X a ta) (hb : DE c X b tb) : DE c X (.IfExp t a b pos) (dIf tc ta tb) := by
  refine ⟨fun Γ Q Q' E E' h1 h2 q => hc.mono Γ _ _ _ _ (fun k q => ite_mono (fun q => ha.mono Γ _ _ _ _ h1 h2 q) (fun q => hb.mono Γ _ _ _ _ h1 h2 q) q) h2 q, fun W tk => (pe_ifExp (hc.run W tk) (ha.run W tk) (hb.run W tk)).imp fun σ H Q ⟨Γ, B, Hs, r, q⟩ => ?_⟩
  refine ⟨Γ, B, Hs, r, hc.mono Γ _ _ _ _ (fun k q Hs1 H1 t w => ?_) (fun _ z => z) q⟩
  cases k with
  | true =>
    rw [if_pos rfl] at q ⊢
    exact ⟨Γ, B, Hs1, r.step t w, ha.mono Γ _ _ _ _ (fun s z => z.on t) (fun x z => z.on t) q⟩
  | false =>
    rw [if_neg Bool.false_ne_true] at q ⊢
    exact ⟨Γ, B, Hs1, r.step t w, hb.mono Γ _ _ _ _ (fun s z => z.on t) (fun x z => z.on t) q⟩
/-! tests -/
def dAnd (ta tb : TDt) : TDt := fun Γ Q E => ta Γ (fun k => if k = true then tb Γ Q E else Q false) E
def dOr (ta tb : TDt) : TDt := fun Γ Q E => ta Γ (fun k => if k = true then Q true else tb Γ Q E) E
def dNot (ta : TDt) : TDt := fun Γ Q E => ta Γ (fun k => Q (!k)) E
theorem dw_and1 {a : Expr} {ta : TDt} (ha : DT c X a ta) : DW c X (.BoolOp .And [a] pos) ta := ⟨ha.mono, fun W tk => pw_and1 (ha.run W tk)⟩
theorem dw_or1 {a : Expr} {ta : TDt} (ha : DT c X a ta) : DW c X (.BoolOp .Or [a] pos) ta := ⟨ha.mono, fun W tk => pw_or1 (ha.run W tk)⟩
theorem dw_and {a b : Expr} {rest : List Expr} {ta tb : TDt} (ha : DT c X a ta) (hb : DW c X (.BoolOp .And (b :: rest) pos) tb) : DW c X (.BoolOp .And (a :: b :: rest) pos) (dAnd ta tb) := by
  refine ⟨fun Γ Q Q' E E' h1 h2 q => ha.mono Γ _ _ _ _ (fun k q => ite_mono (fun q => hb.mono Γ _ _ _ _ h1 h2 q) (fun q => h1 _ q) q) h2 q, fun W tk => (pw_and (ha.run W tk) (hb.run W tk)).imp fun σ H Q ⟨Γ, B, Hs, r, q⟩ => ?_⟩
  refine ⟨Γ, B, Hs, r, ha.mono Γ _ _ _ _ (fun k q Hs1 H1 t w => ?_) (fun _ z => z) q⟩
  cases k with
  | true =>
    rw [if_pos rfl] at q ⊢
    exact ⟨Γ, B, Hs1, r.step t w, hb.mono Γ _ _ _ _ (fun s z => z.on t) (fun x z => z.on t) q⟩
  | false =>
    rw [if_neg Bool.false_ne_true] at q ⊢
    exact q Hs1 H1 t w
theorem dw_or {a b : Expr} {rest : List Expr} {ta tb : TDt} (ha : DT c X a ta) (hb : DW c X (.BoolOp .Or (b :: rest) pos) tb) : DW c X (.BoolOp .Or (a :: b :: rest) pos) (dOr ta tb) := by
  refine ⟨fun Γ Q Q' E E' h1 h2 q => ha.mono Γ _ _ _ _ (fun k q => ite_mono (fun q => h1 _ q) (fun q => hb.mono Γ _ _ _ _ h1 h2 q) q) h2 q, fun W tk => (pw_or (ha.run W tk) (hb.run W tk)).imp fun σ H Q ⟨Γ, B, Hs, r, q⟩ => ?_⟩
  refine ⟨Γ, B, Hs, r, ha.mono Γ _ _ _ _ (fun k q Hs1 H1 t w => ?_) (fun _ z => z) q⟩
  cases k with
  | true =>
    rw [if_pos rfl] at q ⊢
    exact q Hs1 H1 t w
  | false =>
    rw [if_neg Bool.false_ne_true] at q ⊢
    exact ⟨Γ, B, Hs1, r.step t w, hb.mono Γ _ _ _ _ (fun s z => z.on t) (fun x z => z.on t) q⟩
theorem dt_w {e : Expr} {t : TDt} (h : DW c X e t) : DT c X e t := ⟨h.mono, fun W tk => (h.run W tk).pt⟩
theorem dt_not {a : Expr} {ta : TDt} (ha : DT c X a ta) : DT c X (.UnaryOp .Not a pos) (dNot ta) := by
  refine ⟨fun Γ Q Q' E E' h1 h2 q => ha.mono Γ _ _ _ _ (fun k q => h1 _ q) h2 q, fun W tk => (pt_not (ha.run W tk)).imp fun σ H Q ⟨Γ, B, Hs, r, q⟩ => ?_⟩
  exact ⟨Γ, B, Hs, r, ha.mono Γ _ _ _ _ (fun k q Hs1 H1 t w => q Hs1 H1 t w) (fun _ z => z) q⟩

/-! ### displays -/
def dTup (ta : TDa) : TD := fun Γ Q E => ta Γ (fun ss => ss.length ≤ 16777216 ∧ asDs ss fun ds => Q (.sh (.tuple ds))) E
def dLst (ta : TDa) : TD := fun Γ Q E => ta Γ (fun ss => ss.length ≤ 16777216 ∧ asDs ss fun ds => Q (.own ds)) E
theorem line_eq : (16777216 : Nat) = sizeLine := sizeLine_eq.symm
theorem de_tup {es : List Expr} {k : Nat} {ta : TDa} (h : DA c X es ta) : DE c X (.Tuple es k pos) (dTup ta) := by
  refine ⟨fun Γ Q Q' E E' h1 h2 q => h.mono Γ _ _ _ _ (fun ss q => ⟨q.1, asDs_mono (fun ds q => h1 _ q) q.2⟩) h2 q, fun W tk => (pe_tup (h.run W tk)).imp fun σ H Q ⟨Γ, B, Hs, r, q⟩ => ?_⟩
  refine ⟨Γ, B, Hs, r, h.mono Γ _ _ _ _ (fun ss q vs Hs1 H1 fp t w vr nw => ?_) (fun _ z => z) q⟩
  obtain ⟨ql, q⟩ := q
  obtain ⟨Hs2, s2, w2, v2, n2⟩ := vr.nrm w
  obtain ⟨ds, d2, q⟩ := v2.data q
  refine ⟨by rw [vr.length, ← line_eq]; exact ql, fun p hp => ?_⟩
  have hp2 : Hs2 p = none := by
    cases e : Hs2 p with
    | none => rfl
    | some o => have := w2.sub p o e; rw [hp] at this; cases this
  have sb : Sub Hs2 (upd Hs2 p (.tup vs)) := fun a o e => by rw [upd_ne (ne_of_none e hp2)]; exact e
  have t2 : Stp B Hs H Hs2 H1 := t.close s2 fun a h1 h2 => nw a (n2 a h1 h2)
  refine q _ (upd Hs2 p (.tup vs)) (upd H1 p (.tup vs)) [] ⟨t2.hs.trans sb, fun a h1 h2 => ?_, fun a o h1 h2 => ?_, fun a h1 => ?_⟩ ⟨fun a o e => ?_, fun a ha => ?_, fun a ha => ?_⟩ ⟨rfl, .tup (SqT.of upd_same) (dqAll_mono sb d2)⟩ (fun a ha => by cases ha)
  · by_cases e : a = p
    · subst e; exact t2.none hp
    · rw [upd_ne e] at h2; exact t2.new a h1 h2
  · have := t2.kp a o h1 h2
    rw [upd_ne (ne_of_none this hp)]; exact this
  · have := t2.th a h1
    by_cases e : a = p
    · subst e; rw [upd_same]; simp
    · rw [upd_ne e]; exact this
  · by_cases x : a = p
    · subst x; rw [upd_same] at e ⊢; exact e
    · rw [upd_ne x] at e ⊢; exact w2.sub a o e
  · obtain ⟨g, s, e⟩ := w2.bag a ha
    exact ⟨g, s, by rw [upd_ne (ne_of_none e hp)]; exact e⟩
  · obtain ⟨g, s, e⟩ := w2.bag a ha
    rw [upd_ne (ne_of_none e hp)]; exact w2.sep a ha
/-- a new list at p, the items data -/
theorem newList {B : AS} {Hs H : Hp} {p : Addr} {vs : List V} {ds : List D} (w : WS B Hs H) (d : DqAll c.K Hs vs ds) (hp : H p = none) :
    Stp B Hs H Hs (upd H p (.lst vs)) ∧ WS B Hs (upd H p (.lst vs)) ∧ VR c.K B Hs (upd H p (.lst vs)) (.ref p) (.own ds) [p] := by
  have hp2 : Hs p = none := by
    cases e : Hs p with
    | none => rfl
    | some o => have := w.sub p o e; rw [hp] at this; cases this
  have nb : ¬ B p := fun hb => by
    obtain ⟨g, s, e⟩ := w.bag p hb
    rw [hp] at e; cases e
  refine ⟨⟨Sub.refl _, fun a h1 h2 => absurd h1 h2, fun a o h1 h2 => by rw [upd_ne (ne_of_none h1 hp)]; exact h1, fun a h1 => ?_⟩, ⟨fun a o e => ?_, fun a ha => ?_, w.sep⟩, ⟨p, vs, rfl, rfl, upd_same, hp2, nb, d⟩⟩
  · by_cases e : a = p
    · subst e; exact absurd hp h1
    · rw [upd_ne e]; exact h1
  · rw [upd_ne (ne_of_none e hp2)]; exact w.sub a o e
  · obtain ⟨g, s, e⟩ := w.bag a ha
    exact ⟨g, s, by rw [upd_ne (ne_of_none e hp)]; exact e⟩
/-- a new tuple at p -/
theorem newTup {B : AS} {Hs H : Hp} {p : Addr} {vs : List V} {ds : List D} (w : WS B Hs H) (d : DqAll c.K Hs vs ds) (hp : H p = none) :
    ∃ Hs', Stp B Hs H Hs' (upd H p (.tup vs)) ∧ WS B Hs' (upd H p (.tup vs)) ∧ VR c.K B Hs' (upd H p (.tup vs)) (.ref p) (.sh (.tuple ds)) [] := by
  have hp2 : Hs p = none := by
    cases e : Hs p with
    | none => rfl
    | some o => have := w.sub p o e; rw [hp] at this; cases this
  have sb : Sub Hs (upd Hs p (.tup vs)) := fun a o e => by rw [upd_ne (ne_of_none e hp2)]; exact e
  refine ⟨upd Hs p (.tup vs), ⟨sb, fun a h1 h2 => ?_, fun a o h1 h2 => by rw [upd_ne (ne_of_none h1 hp)]; exact h1, fun a h1 => ?_⟩, ⟨fun a o e => ?_, fun a ha => ?_, fun a ha => ?_⟩, ⟨rfl, .tup (SqT.of upd_same) (dqAll_mono sb d)⟩⟩
  · by_cases e : a = p
    · subst e; exact hp
    · rw [upd_ne e] at h2; exact absurd h1 h2
  · by_cases e : a = p
    · subst e; exact absurd hp h1
    · rw [upd_ne e]; exact h1
  · by_cases x : a = p
    · subst x; rw [upd_same] at e ⊢; exact e
    · rw [upd_ne x] at e ⊢; exact w.sub a o e
  · obtain ⟨g, s, e⟩ := w.bag a ha
    exact ⟨g, s, by rw [upd_ne (ne_of_none e hp)]; exact e⟩
  · obtain ⟨g, s, e⟩ := w.bag a ha
    rw [upd_ne (ne_of_none e hp)]; exact w.sep a ha
/-- what is wanted of a new list, a new tuple -/
theorem Aft.lst {B : AS} {Hs H Hs1 H1 : Hp} {Q : VK} {p : Addr} {vs : List V} {ds : List D} (q : Aft c B Hs H Q (.own ds)) (t : Stp B Hs H Hs1 H1) (w : WS B Hs1 H1) (d : DqAll c.K Hs1 vs ds) (hp : H1 p = none) : Q (.ref p) (upd H1 p (.lst vs)) := by
  obtain ⟨t2, w2, v2⟩ := newList w d hp
  exact q _ _ _ _ (t.trans t2) w2 v2 fun a ha => by
    have e : a = p := by simpa using ha
    subst e; exact t.none hp
theorem Aft.tup {B : AS} {Hs H Hs1 H1 : Hp} {Q : VK} {p : Addr} {vs : List V} {ds : List D} (q : Aft c B Hs H Q (.sh (.tuple ds))) (t : Stp B Hs H Hs1 H1) (w : WS B Hs1 H1) (d : DqAll c.K Hs1 vs ds) (hp : H1 p = none) : Q (.ref p) (upd H1 p (.tup vs)) := by
  obtain ⟨Hs', t2, w2, v2⟩ := newTup w d hp
  exact q _ _ _ _ (t.trans t2) w2 v2 fun a ha => by cases ha
theorem Aft.dp {B : AS} {Hs H Hs1 H1 : Hp} {Q : VK} {v : V} {d : D} (q : Aft c B Hs H Q (.sh d)) (t : Stp B Hs H Hs1 H1) (w : WS B Hs1 H1) (h : Dq c.K Hs1 v d) : Q v H1 :=
  q _ _ _ _ t w ⟨rfl, h⟩ fun a ha => by cases ha
theorem de_lst {es : List Expr} {ta : TDa} (h : DA c X es ta) : DE c X (.List es pos) (dLst ta) := by
  refine ⟨fun Γ Q Q' E E' h1 h2 q => h.mono Γ _ _ _ _ (fun ss q => ⟨q.1, asDs_mono (fun ds q => h1 _ q) q.2⟩) h2 q, fun W tk => (pe_lst (h.run W tk)).imp fun σ H Q ⟨Γ, B, Hs, r, q⟩ => ?_⟩
  refine ⟨Γ, B, Hs, r, h.mono Γ _ _ _ _ (fun ss q vs Hs1 H1 fp t w vr nw => ?_) (fun _ z => z) q⟩
  obtain ⟨ql, q⟩ := q
  obtain ⟨Hs2, s2, w2, v2, n2⟩ := vr.nrm w
  obtain ⟨ds, d2, q⟩ := v2.data q
  exact ⟨by rw [vr.length, ← line_eq]; exact ql, fun p hp => q.lst (t.close s2 fun a h1 h2 => nw a (n2 a h1 h2)) w2 d2 hp⟩

/-! ### calls of built-ins by data -/
abbrev G1 := List D → SK → Prop
def Mono1 (g : G1) : Prop := ∀ ds Q Q', (∀ s, Q s → Q' s) → g ds Q → g ds Q'
def rC (c : Gd) (g : G1) : List V → Hp → VK → Prop := fun vs H Q => ∃ (B : AS) (Hs : Hp) (ds : List D), WS B Hs H ∧ DqAll c.K Hs vs ds ∧ g ds (Aft c B Hs H Q)
def dCB (g : G1) (ta : TDa) : TD := fun Γ Q E => ta Γ (fun ss => asDs ss fun ds => g ds Q) E
theorem dCB_mono {g : G1} {ta : TDa} (hg : Mono1 g) (ha : MonoA ta) : Mono (dCB g ta) := fun Γ Q Q' E E' h1 h2 q => ha Γ _ _ _ _ (fun ss q => asDs_mono (fun ds q => hg ds _ _ h1 q) q) h2 q
theorem args_of {W : WX} {g : G1} {ta : TDa} {σ : L2.St} {H : Hp} {Q : VK} (hg : Mono1 g) (ha : MonoA ta) (h : lE c W (dCB g ta) σ H Q) : lA c W ta σ H fun vs H1 => rC c g vs H1 Q := by
  obtain ⟨Γ, B, Hs, r, q⟩ := h
  refine ⟨Γ, B, Hs, r, ha Γ _ _ _ _ (fun ss q vs Hs1 H1 fp t w vr nw => ?_) (fun _ z => z) q⟩
  obtain ⟨Hs2, s2, w2, v2, n2⟩ := vr.nrm w
  obtain ⟨ds, d2, q⟩ := v2.data q
  exact ⟨B, Hs2, ds, w2, d2, hg ds _ _ (fun s z => z.on (t.close s2 fun a h1 h2 => nw a (n2 a h1 h2))) q⟩
theorem de_callB {x : Str} {id : String} {g : G1} {e : Expr} {es : List Expr} {ta : TDa} {p : Pos} (hc : CallR X (.builtin id) (rC c g)) (mg : Mono1 g) (hg : Gl X x) (hm : X.mg x = none) (hv : bootBuiltins x = some (.builtin id)) (ha : DA c X (e :: es) ta)
    (hn : x ≠ "__name__" := by decide) (hdb : (x == ("__debug__" : Str)) = false := by decide) (he : starEach (e :: es) X.env = (false, eval e X.env) :: starEach es X.env := by rfl) (hpl : (backTo pos (starEach es X.env)).any (·.1) = false := by rfl) :
    DE c X (.Call (.Name x p) (e :: es) [] pos) (dCB g ta) :=
  ⟨dCB_mono mg ha.mono, fun W tk => (pe_callB hc hg hm hv (ha.run W tk) hn hdb he hpl).imp fun σ H Q h => args_of mg ha.mono h⟩
theorem de_callTy {x : Str} {T : String} {g : G1} {e : Expr} {es : List Expr} {ta : TDa} {p : Pos} (hc : CallR X (.type T) (rC c g)) (mg : Mono1 g) (hg : Gl X x) (hm : X.mg x = none) (hv : bootBuiltins x = some (.type T)) (ha : DA c X (e :: es) ta)
    (hn : x ≠ "__name__" := by decide) (hdb : (x == ("__debug__" : Str)) = false := by decide) (he : starEach (e :: es) X.env = (false, eval e X.env) :: starEach es X.env := by rfl) (hpl : (backTo pos (starEach es X.env)).any (·.1) = false := by rfl) :
    DE c X (.Call (.Name x p) (e :: es) [] pos) (dCB g ta) :=
  ⟨dCB_mono mg ha.mono, fun W tk => (pe_callTy hc hg hm hv (ha.run W tk) hn hdb he hpl).imp fun σ H Q h => args_of mg ha.mono h⟩

/-! ### calls of defs -/
/-- a def over data: its arguments, what is wanted of what it gives, of an exception -/
abbrev Fd := List Slot → SK → EK → Prop
def MonoF (f : Fd) : Prop := ∀ ss Q Q' E E', (∀ s, Q s → Q' s) → (∀ x, E x → E' x) → f ss Q E → f ss Q' E'
/-- .. as a promise -/
def spF (K : PySem.W.Frag) (cls : Ex → Value) (n : Nat) (f : Fd) : Sp := fun vs H Q E => ∃ (B : AS) (Hs : Hp) (ss : List Slot), WS B Hs H ∧ VRs K B Hs H vs ss [] ∧ ss.length = n ∧
  f ss (fun s => ∀ (v : V) (Hs' H' : Hp) (fp : List Addr), Stp B Hs H Hs' H' → WS B Hs' H' → VR K B Hs' H' v s fp → (∀ a ∈ fp, H a = none) → Q v H')
    (fun x => ∀ (Hs' H' : Hp), Stp B Hs H Hs' H' → WS B Hs' H' → E (cls x) none H')
def dCall (f : Fd) (ta : TDa) : TD := fun Γ Q E => ta Γ (fun ss => f (ss.map nrm) Q E) E
theorem de_call {x : Str} {f : Fd} {k : Nat} {a : Addr} {fd : FuncData} {ps : List Str} {e : Expr} {es : List Expr} {ta : TDa} {p : Pos} {n : Nat} (F : FnOk X.prog X.w X.K X.mg X.base (L2.CX X.prog X.w) k a fd ps (spF c.K c.cls n f)) (mf : MonoF f)
    (hl : (e :: es).length = n) (hr : Room k X.A) (hg : Gl X x) (hm : X.mg x = some (.ref a)) (hk : PySem.W.keepIn X.K (.ref a) = true) (hb : Binds X.K fd ps [])
    (ha : DA c X (e :: es) ta) (hdb : (x == ("__debug__" : Str)) = false := by decide) (he : starEach (e :: es) X.env = (false, eval e X.env) :: starEach es X.env := by rfl) (hpl : (backTo pos (starEach es X.env)).any (·.1) = false := by rfl) :
    DE c X (.Call (.Name x p) (e :: es) [] pos) (dCall f ta) := by
  refine ⟨fun Γ Q Q' E E' h1 h2 q => ha.mono Γ _ _ _ _ (fun ss q => mf _ _ _ _ _ h1 h2 q) h2 q, fun W tk => (pe_callS F hr hg hm hk hb (fun σ => passAt tk σ) (ha.run W tk) hdb he hpl).imp fun σ H Q ⟨Γ, B, Hs, r, q⟩ => ?_⟩
  refine ⟨Γ, B, Hs, r, ha.mono Γ _ _ _ _ (fun ss q vs Hs1 H1 fp t w vr nw => ?_) (fun _ z => z) (ha.len _ _ _ q)⟩
  obtain ⟨l, q⟩ := q
  obtain ⟨Hs2, s2, w2, v2, n2⟩ := vr.nrm w
  have t2 : Stp B Hs H Hs2 H1 := t.close s2 fun a h1 h2 => nw a (n2 a h1 h2)
  exact ⟨B, Hs2, ss.map nrm, w2, v2, by rw [List.length_map, ← hl]; exact l, mf _ _ _ _ _ (fun s z => z.on t2) (fun x z => z.on t2) q⟩
end

/-- what is wanted behind a statement, over data -/
structure En where
  nx : Env' → Prop
  rt : SK
  ex : EK
  bk : Env' → Prop
  ct : Env' → Prop
abbrev TSd := En → Env' → Prop
structure En.Le (D D' : En) : Prop where
  nx : ∀ Γ, D.nx Γ → D'.nx Γ
  rt : ∀ s, D.rt s → D'.rt s
  ex : ∀ x, D.ex x → D'.ex x
  bk : ∀ Γ, D.bk Γ → D'.bk Γ
  ct : ∀ Γ, D.ct Γ → D'.ct Γ
def MonoS (t : TSd) : Prop := ∀ D D' Γ, En.Le D D' → t D Γ → t D' Γ

section
variable {c : Gd} {W : WX} {D : Ends} {Hs Hs' : Hp}
/-- the wishes of a statement at a state whose sealed heap is Hs -/
def aN (c : Gd) (nx : L2.St → Hp → Prop) (Hs : Hp) (Γ : Env') : Prop := ∀ (σ : L2.St) (B : AS) (Hs' H' : Hp), Sub Hs Hs' → Rel c Γ σ B Hs' H' → nx σ H'
def aR (c : Gd) (rt : VK) (s : Slot) : Prop := ∀ (Γ : Env') (σ : L2.St) (B : AS) (Hs' H' : Hp) (v : V) (fp : List Addr), Rel c Γ σ B Hs' H' → VR c.K B Hs' H' v s fp → (∀ a ∈ fp, c.H0 a = none) → rt v H'
def aX (c : Gd) (W : WX) (x : Ex) : Prop := ∀ (Γ : Env') (σ : L2.St) (B : AS) (Hs' H' : Hp), Rel c Γ σ B Hs' H' → W (c.cls x) none σ H'
def enAt (c : Gd) (W : WX) (D : Ends) (Hs : Hp) : En := ⟨aN c D.nx Hs, aR c D.rt, aX c W, aN c D.bk Hs, aN c D.ct Hs⟩
theorem aN.on {nx : L2.St → Hp → Prop} {Γ : Env'} (s : Sub Hs Hs') (q : aN c nx Hs Γ) : aN c nx Hs' Γ := fun σ B H1 H' t r => q σ B H1 H' (s.trans t) r
theorem enAt.on (s : Sub Hs Hs') : En.Le (enAt c W D Hs) (enAt c W D Hs') := ⟨fun _ q => q.on s, fun _ q => q, fun _ q => q, fun _ q => q.on s, fun _ q => q.on s⟩
theorem aX.exf {σ : L2.St} {B : AS} {H : Hp} {Γ : Env'} (r : Rel c Γ σ B Hs H) {x : Ex} (q : aX c W x) : Exf c W σ B Hs H x := fun Hs' H' t w => q Γ σ B Hs' H' (r.step t w)
end
def lS (c : Gd) (W : WX) (t : TSd) : TS := fun D σ H => ∃ (Γ : Env') (B : AS) (Hs : Hp), Rel c Γ σ B Hs H ∧ t (enAt c W D Hs) Γ
structure DS (c : Gd) (X : Cx) (st : Stmt) (t : TSd) : Prop where
  mono : MonoS t
  run : ∀ W, Takes X W → PS X st (lS c W t)
structure DSs (c : Gd) (X : Cx) (st : List Stmt) (t : TSd) : Prop where
  mono : MonoS t
  run : ∀ W, Takes X W → PSs X st (lS c W t)
theorem _root_.L2.PS.imp {X : Cx} {e : Stmt} {t u : TS} (h : PS X e t) (i : ∀ D σ H, u D σ H → t D σ H) : PS X e u := ⟨fun pins s σ H D I q => h.run pins s σ H D I (i _ _ _ q)⟩
theorem _root_.L2.PSs.imp {X : Cx} {e : List Stmt} {t u : TS} (h : PSs X e t) (i : ∀ D σ H, u D σ H → t D σ H) : PSs X e u := ⟨fun pins s σ H D I q => h.run pins s σ H D I (i _ _ _ q)⟩

section
variable {c : Gd} {X : Cx} {pos : Pos} {st : Stmt} {rest : List Stmt} {t u : TSd} {e : Expr} {te : TD}
def dNext : TSd := fun D Γ => D.nx Γ
def dSeq (t u : TSd) : TSd := fun D Γ => t { D with nx := u D } Γ
theorem dss_nil : DSs c X [] dNext := ⟨fun D D' Γ h q => h.nx _ q, fun W tk => pss_nil.imp fun D σ H ⟨Γ, B, Hs, r, q⟩ => q σ B Hs H (Sub.refl _) r⟩
theorem dss_one (h : DS c X st t) : DSs c X [st] t := ⟨h.mono, fun W tk => pss_one (h.run W tk)⟩
theorem dss_cons (h1 : DS c X st t) (h2 : DSs c X rest u) : DSs c X (st :: rest) (dSeq t u) := by
  refine ⟨fun D D' Γ l q => h1.mono { D with nx := u D } { D' with nx := u D' } Γ ⟨fun Γ q => h2.mono _ _ _ l q, l.rt, l.ex, l.bk, l.ct⟩ q, fun W tk => (pss_cons (h1.run W tk) (h2.run W tk)).imp fun D σ H ⟨Γ, B, Hs, r, q⟩ => ?_⟩
  exact ⟨Γ, B, Hs, r, h1.mono { enAt c W D Hs with nx := u (enAt c W D Hs) } (enAt c W { D with nx := lS c W u D } Hs) Γ ⟨fun Γ q σ' B' Hs' H' s r' => ⟨Γ, B', Hs', r', h2.mono _ _ _ (enAt.on s) q⟩, fun _ q => q, fun _ q => q, fun _ q => q, fun _ q => q⟩ q⟩
/-- ghost: an owned list at place i is sealed -/
def closeG (i : Nat) (Γ : Env') : Env' := match Γ[i]? with
  | some (.own ds) => Γ.set i (.sh (.list ds))
  | _ => Γ
def dClose (i : Nat) (t : TSd) : TSd := fun D Γ => t D (closeG i Γ)
theorem close_imp {i : Nat} (hm : MonoS t) {W : WX} {D : Ends} {σ : L2.St} {H : Hp} (h : lS c W (dClose i t) D σ H) : lS c W t D σ H := by
  obtain ⟨Γ, B, Hs, r, q⟩ := h
  unfold dClose closeG at q
  split at q
  · rename_i ds e
    obtain ⟨Hs', s, r'⟩ := r.close e
    exact ⟨_, B, Hs', r', hm _ _ _ (enAt.on s) q⟩
  · exact ⟨Γ, B, Hs, r, q⟩
theorem ds_close (i : Nat) (h : DS c X st t) : DS c X st (dClose i t) := ⟨fun D D' Γ l q => h.mono _ _ _ l q, fun W tk => (h.run W tk).imp fun D σ H q => close_imp h.mono q⟩
theorem dss_close (i : Nat) {sts : List Stmt} (h : DSs c X sts t) : DSs c X sts (dClose i t) := ⟨fun D D' Γ l q => h.mono _ _ _ l q, fun W tk => (h.run W tk).imp fun D σ H q => close_imp h.mono q⟩
/-- ghost: a list of one's own, of two numbers, is a bag from here on -/
def dBag (i : Nat) (t : TSd) : TSd := fun D Γ => ∃ (g : Int) (s : Sml), Γ[i]? = some (.own [.int g, .int s.1]) ∧ t D (Γ.set i .bag)
theorem Rel.toBag {Γ : Env'} {σ : L2.St} {B : AS} {Hs H : Hp} {i : Nat} {g : Int} {s : Sml} (r : Rel c Γ σ B Hs H) (h : Γ[i]? = some (.own [.int g, .int s.1])) : ∃ B', Rel c (Γ.set i .bag) σ B' Hs H := by
  obtain ⟨fp, e1, e2, e3⟩ := r.pl
  obtain ⟨hi, _⟩ := List.getElem?_eq_some_iff.mp h
  rcases e3 i _ h with z | ⟨v, z1, p, vs, rfl, z2, z3, z4, z5, z6⟩
  · cases z
  have hp : p ∈ fp i := by rw [z2]; simp
  have n0 : c.H0 p = none := (e1 i p hp).1
  have ev : vs = [.int g, .int s.1] := by
    cases z6 with
    | cons a b =>
      cases b with
      | cons a' b' =>
        cases b'
        cases a
        cases a'
        rfl
  subst ev
  refine ⟨fun a => B a ∨ a = p, ⟨r.ws.sub, fun a ha => ?_, fun a ha => ?_⟩, fun a ha => .inl (r.bb a ha), fun a ha => ?_, r.hs, r.new, r.kp, r.th, by rw [List.length_set]; exact r.len, fset fp i [], fun j a ha => ?_, fun j k a ha hb => ?_, fun j u hu => ?_⟩
  · rcases ha with ha | rfl
    · exact r.ws.bag a ha
    · exact ⟨g, s, z3⟩
  · rcases ha with ha | rfl
    · exact r.ws.sep a ha
    · exact z4
  · rcases ha with ha | rfl
    · exact r.bn a ha
    · exact .inr n0
  · by_cases e : j = i
    · rw [e, fset_same] at ha; cases ha
    · rw [fset_ne e] at ha; exact e1 j a ha
  · by_cases e : j = i
    · rw [e, fset_same] at ha; cases ha
    · by_cases e' : k = i
      · rw [e', fset_same] at hb; cases hb
      · rw [fset_ne e] at ha; rw [fset_ne e'] at hb
        exact e2 j k a ha hb
  · by_cases e : j = i
    · subst e
      rw [List.getElem?_set_self hi] at hu
      cases hu
      exact .inr ⟨_, z1, by rw [fset_same]; exact ⟨rfl, p, rfl, .inr rfl⟩⟩
    · rw [List.getElem?_set_ne (Ne.symm e)] at hu
      rcases e3 j u hu with z | ⟨x, y1, y2⟩
      · exact .inl z
      · refine .inr ⟨x, y1, ?_⟩
        rw [fset_ne e]
        refine y2.bags (fun a h => .inl h) fun a ha hb => ?_
        rcases hb with hb | rfl
        · exact (y2.fpok a ha).2.1 hb
        · exact e (e2 j i a ha hp)
theorem dss_bag (i : Nat) {sts : List Stmt} (h : DSs c X sts t) : DSs c X sts (dBag i t) :=
  ⟨fun D D' Γ l ⟨g, s, e, q⟩ => ⟨g, s, e, h.mono _ _ _ l q⟩, fun W tk => (h.run W tk).imp fun D σ H ⟨Γ, B, Hs, r, g, s, e, q⟩ => let ⟨B', r'⟩ := r.toBag e; ⟨_, B', Hs, r', q⟩⟩

theorem ds_pass : DS c X (.Pass pos) dNext := ⟨fun D D' Γ h q => h.nx _ q, fun W tk => ps_pass.imp fun D σ H ⟨Γ, B, Hs, r, q⟩ => q σ B Hs H (Sub.refl _) r⟩
def dBreak : TSd := fun D Γ => D.bk Γ
def dCont : TSd := fun D Γ => D.ct Γ
theorem ds_break : DS c X (.Break pos) dBreak := ⟨fun D D' Γ h q => h.bk _ q, fun W tk => ps_break.imp fun D σ H ⟨Γ, B, Hs, r, q⟩ => q σ B Hs H (Sub.refl _) r⟩
theorem ds_continue : DS c X (.Continue pos) dCont := ⟨fun D D' Γ h q => h.ct _ q, fun W tk => ps_continue.imp fun D σ H ⟨Γ, B, Hs, r, q⟩ => q σ B Hs H (Sub.refl _) r⟩
/-- an expression whose value is dropped -/
def dDrop (te : TD) : TSd := fun D Γ => te Γ (fun _ => D.nx Γ) D.ex
theorem ds_expr (he : DE c X e te) (hs : swapsWith e none pos.line X.env = pure false := by rfl) : DS c X (.Expr e pos) (dDrop te) :=
  ⟨fun D D' Γ l q => he.mono _ _ _ _ _ (fun _ q => l.nx _ q) l.ex q, fun W tk => (ps_expr (he.run W tk) hs).imp fun D σ H ⟨Γ, B, Hs, r, q⟩ =>
    ⟨Γ, B, Hs, r, he.mono _ _ _ _ _ (fun s q v Hs1 H1 fp t w vr nw => q σ B Hs1 H1 t.hs (r.step t w)) (fun x z => z.exf r) q⟩⟩
def dRet (te : TD) : TSd := fun D Γ => te Γ D.rt D.ex
theorem ds_ret (he : DE c X e te) : DS c X (.Return (some e) pos) (dRet te) :=
  ⟨fun D D' Γ l q => he.mono _ _ _ _ _ l.rt l.ex q, fun W tk => (ps_ret (he.run W tk)).imp fun D σ H ⟨Γ, B, Hs, r, q⟩ =>
    ⟨Γ, B, Hs, r, he.mono _ _ _ _ _ (fun s q v Hs1 H1 fp t w vr nw => q Γ σ B Hs1 H1 v fp (r.step t w) vr fun a ha => by
      cases x : c.H0 a with
      | none => rfl
      | some o => exact absurd (nw a ha) (r.th a (by rw [x]; simp))) (fun x z => z.exf r) q⟩⟩
def dRetN : TSd := fun D _ => D.rt (.sh .none)
theorem ds_retN : DS c X (.Return none pos) dRetN := ⟨fun D D' Γ l q => l.rt _ q, fun W tk => ps_retN.imp fun D σ H ⟨Γ, B, Hs, r, q⟩ => q Γ σ B Hs H _ [] r ⟨rfl, .non⟩ (fun a ha => by cases ha)⟩
/-- return x, x a list of one's own: it is handed out -/
def dRetO (i : Nat) : TSd := fun D Γ => match Γ[i]? with
  | some (.sh d) => D.rt (.sh d)
  | some (.own ds) => D.rt (.own ds)
  | _ => False
theorem ds_retO (i : Nat) {x : Str} {p : Pos} (hN : X.N[i]? = some x := by rfl) (hv : Vis X.env.scope x := by first | exact Or.inl rfl | exact Or.inr (Or.inl rfl) | exact Or.inr (Or.inr rfl)) (hd : (x == ("__debug__" : Str)) = false := by decide)
    (hcd : (x == ("__classdict__" : Str)) = false := by decide) : DS c X (.Return (some (.Name x p)) pos) (dRetO i) := by
  refine ⟨fun D D' Γ l q => ?_, fun W tk => (ps_ret (pe_var hN hv hd hcd)).imp fun D σ H ⟨Γ, B, Hs, r, q⟩ => ?_⟩
  · unfold dRetO at q ⊢
    split at q
    · exact l.rt _ q
    · exact l.rt _ q
    · exact q.elim
  · unfold dRetO at q
    split at q
    · rename_i d e
      obtain ⟨v, fp, e1, e2⟩ := r.get e (by intro z; cases z)
      obtain ⟨rfl, e3⟩ := e2
      exact ⟨v, e1, q Γ σ B Hs H v [] r ⟨rfl, e3⟩ (fun a ha => by cases ha)⟩
    · rename_i ds e
      obtain ⟨fp, f1, f2, f3⟩ := r.pl
      rcases f3 i _ e with z | ⟨v, z1, z2⟩
      · cases z
      · exact ⟨v, z1, q Γ σ B Hs H v (fp i) r z2 fun a ha => (f1 i a ha).1⟩
    · exact q.elim
def dIfS (tc : TDt) (t u : TSd) : TSd := fun D Γ => tc Γ (fun k => if k = true then t D Γ else u D Γ) D.ex
theorem ds_if {ce : Expr} {a b : List Stmt} {tc : TDt} (hc : DT c X ce tc) (ha : DSs c X a t) (hb : DSs c X b u) : DS c X (.If ce a b pos) (dIfS tc t u) := by
  refine ⟨fun D D' Γ l q => hc.mono _ _ _ _ _ (fun k q => ite_mono (fun q => ha.mono _ _ _ l q) (fun q => hb.mono _ _ _ l q) q) l.ex q, fun W tk => (ps_if (hc.run W tk) (ha.run W tk) (hb.run W tk)).imp fun D σ H ⟨Γ, B, Hs, r, q⟩ => ?_⟩
  refine ⟨Γ, B, Hs, r, hc.mono _ _ _ _ _ (fun k q Hs1 H1 t w => ?_) (fun x z => z.exf r) q⟩
  cases k with
  | true =>
    rw [if_pos rfl] at q ⊢
    exact ⟨Γ, B, Hs1, r.step t w, ha.mono _ _ _ (enAt.on t.hs) q⟩
  | false =>
    rw [if_neg Bool.false_ne_true] at q ⊢
    exact ⟨Γ, B, Hs1, r.step t w, hb.mono _ _ _ (enAt.on t.hs) q⟩
/-- x = e -/
def dSet (i : Nat) (te : TD) : TSd := fun D Γ => te Γ (fun s => i < Γ.length ∧ D.nx (Γ.set i s)) D.ex
theorem ds_set (i : Nat) {x : Str} {p : Pos} (hN : X.N.Nodup) (he : DE c X e te) (hi : X.N[i]? = some x := by rfl) (hx : Loc X.env.scope x := by first | exact .inl rfl | exact .inr rfl) (hs : swapsWith e (some (.Name x p)) pos.line X.env = pure false := by rfl)
    (hf : X.fn x = true ∨ X.env.scope.names.lookup x = some .local := by first | exact .inl rfl | exact .inr rfl) : DS c X (.Assign [.Name x p] e pos) (dSet i te) :=
  ⟨fun D D' Γ l q => he.mono _ _ _ _ _ (fun _ q => ⟨q.1, l.nx _ q.2⟩) l.ex q, fun W tk => (ps_set hN hi hx (he.run W tk) hs hf).imp fun D σ H ⟨Γ, B, Hs, r, q⟩ =>
    ⟨Γ, B, Hs, r, he.mono _ _ _ _ _ (fun s q v Hs1 H1 fp t w vr nw => q.2 _ B Hs1 H1 t.hs (r.put t w vr nw q.1)) (fun x z => z.exf r) q⟩⟩
/-! ### targets -/
abbrev TGd := D → Env' → (Env' → Prop) → Prop
abbrev TGds := List D → Env' → (Env' → Prop) → Prop
theorem wipe_get {σ : L2.St} : ∀ {vs : List Nat} (j : Nat), (wipe σ vs)[j]? = if j ∈ vs ∧ j < σ.length then some none else σ[j]?
  | [], j => by
    rw [if_neg (fun h => by cases h.1)]
    rfl
  | v :: vs, j => by
    show ((wipe σ vs).set v none)[j]? = _
    by_cases e : v = j
    · subst e
      by_cases h : v < σ.length
      · rw [List.getElem?_set_self (by rw [wipe_length]; exact h), if_pos ⟨by simp, h⟩]
      · rw [List.getElem?_eq_none (by rw [List.length_set, wipe_length]; omega), if_neg (fun q => h q.2), List.getElem?_eq_none (by omega)]
    · rw [List.getElem?_set_ne e, wipe_get j]
      by_cases h : j ∈ vs ∧ j < σ.length
      · rw [if_pos h, if_pos ⟨List.mem_cons_of_mem _ h.1, h.2⟩]
      · rw [if_neg h, if_neg]
        intro q
        rcases List.mem_cons.mp q.1 with z | z
        · exact e z.symm
        · exact h ⟨z, q.2⟩
theorem wipe_set {σ : L2.St} {vs : List Nat} {i : Nat} {x : Option V} (h : i ∈ vs) : wipe (σ.set i x) vs = wipe σ vs := by
  apply List.ext_getElem?
  intro j
  rw [wipe_get, wipe_get, List.length_set]
  by_cases q : j ∈ vs ∧ j < σ.length
  · rw [if_pos q, if_pos q]
  · rw [if_neg q, if_neg q]
    by_cases e : i = j
    · subst e
      have : ¬ i < σ.length := fun z => q ⟨h, z⟩
      rw [List.getElem?_eq_none (by rw [List.length_set]; omega), List.getElem?_eq_none (by omega)]
    · rw [List.getElem?_set_ne e]
/-- a target's reading; vs: the places that it may store to -/
def lG (c : Gd) (vs : List Nat) (g : TGd) : TG := fun v σ H Q => ∃ (Γ : Env') (B : AS) (Hs : Hp) (d : D), Rel c Γ σ B Hs H ∧ Dq c.K Hs v d ∧ g d Γ fun Γ' => ∀ σ', Rel c Γ' σ' B Hs H → wipe σ' vs = wipe σ vs → Q σ' H
def lGs (c : Gd) (vs : List Nat) (g : TGds) : TGs := fun ws σ H Q => ∃ (Γ : Env') (B : AS) (Hs : Hp) (ds : List D), Rel c Γ σ B Hs H ∧ DqAll c.K Hs ws ds ∧ g ds Γ fun Γ' => ∀ σ', Rel c Γ' σ' B Hs H → wipe σ' vs = wipe σ vs → Q σ' H
structure DG (c : Gd) (X : Cx) (tg : Expr) (pl : List Nat) (g : TGd) : Prop where
  mono : ∀ d Γ Q Q', (∀ Γ, Q Γ → Q' Γ) → g d Γ Q → g d Γ Q'
  run : ∀ vs, (∀ i ∈ pl, i ∈ vs) → PG X tg (lG c vs g)
structure DGs (c : Gd) (X : Cx) (tg : List Expr) (pl : List Nat) (g : TGds) : Prop where
  mono : ∀ d Γ Q Q', (∀ Γ, Q Γ → Q' Γ) → g d Γ Q → g d Γ Q'
  run : ∀ vs, (∀ i ∈ pl, i ∈ vs) → PGs X tg (lGs c vs g)
theorem _root_.L2.PG.imp {X : Cx} {e : Expr} {t u : TG} (h : PG X e t) (i : ∀ v σ H Q, u v σ H Q → t v σ H Q) : PG X e u := ⟨fun pins s σ H v w Q I rv q => h.run pins s σ H v w Q I rv (i _ _ _ _ q)⟩
theorem _root_.L2.PGs.imp {X : Cx} {e : List Expr} {t u : TGs} (h : PGs X e t) (i : ∀ v σ H Q, u v σ H Q → t v σ H Q) : PGs X e u := ⟨fun pins s σ H v w Q I rv q => h.run pins s σ H v w Q I rv (i _ _ _ _ q)⟩
def gN (i : Nat) : TGd := fun d Γ Q => i < Γ.length ∧ Q (Γ.set i (.sh d))
theorem dg_name (i : Nat) {x : Str} {p : Pos} (hN : X.N.Nodup) (hi : X.N[i]? = some x := by rfl) (hx : Loc X.env.scope x := by first | exact .inl rfl | exact .inr rfl)
    (hf : X.fn x = true ∨ X.env.scope.names.lookup x = some .local := by first | exact .inl rfl | exact .inr rfl) : DG c X (.Name x p) [i] (gN i) :=
  ⟨fun d Γ Q Q' h q => ⟨q.1, h _ q.2⟩, fun vs hv => (pg_name hN hi hx hf).imp fun v σ H Q ⟨Γ, B, Hs, d, r, dv, q⟩ => q.2 _ (r.put Stp.refl r.ws (s := .sh d) (fq := []) ⟨rfl, dv⟩ (fun a ha => by cases ha) q.1) (wipe_set (hv i (by simp)))⟩
def gsN : TGds := fun ds Γ Q => ds = [] ∧ Q Γ
def gsC (g : TGd) (gs : TGds) : TGds := fun ds Γ Q => match ds with
  | d :: ds => g d Γ fun Γ' => gs ds Γ' Q
  | [] => False
theorem dgs_nil : DGs c X [] [] gsN := ⟨fun d Γ Q Q' h q => ⟨q.1, h _ q.2⟩, fun vs hv => pgs_nil.imp fun v σ H Q ⟨Γ, B, Hs, ds, r, dv, q⟩ => by
  obtain ⟨rfl, q⟩ := q
  cases dv
  exact ⟨rfl, q σ r rfl⟩⟩
theorem dgs_cons {e : Expr} {es : List Expr} {g : TGd} {gs : TGds} {pl ql : List Nat} (h1 : DG c X e pl g) (h2 : DGs c X es ql gs) (hs : (assignEach (e :: es) X.env).map (·.2) = assign e X.env :: (assignEach es X.env).map (·.2) := by rfl) : DGs c X (e :: es) (pl ++ ql) (gsC g gs) := by
  refine ⟨fun ds Γ Q Q' h q => ?_, fun vs hv => (pgs_cons (h1.run vs fun i hi => hv i (List.mem_append_left _ hi)) (h2.run vs fun i hi => hv i (List.mem_append_right _ hi)) hs).imp fun ws σ H Q ⟨Γ, B, Hs, ds, r, dv, q⟩ => ?_⟩
  · cases ds with
    | nil => exact q
    | cons d ds => exact h1.mono _ _ _ _ (fun Γ q => h2.mono _ _ _ _ h q) q
  · cases ds with
    | nil => exact q.elim
    | cons d ds =>
      cases dv with
      | cons d1 d2 => exact ⟨_, _, rfl, Γ, B, Hs, d, r, d1, h1.mono _ _ _ _ (fun Γ' q σ' r' e' => ⟨Γ', B, Hs, ds, r', d2, h2.mono _ _ _ _ (fun Γ2 q σ2 r2 e2 => q σ2 r2 (e2.trans e')) q⟩) q⟩
def gT (n : Nat) (gs : TGds) : TGd := fun d Γ Q => match d with
  | .tuple ds => ds.length = n ∧ gs ds Γ Q
  | _ => False
theorem dg_tup {es : List Expr} {k n : Nat} {gs : TGds} {p : Pos} {pl : List Nat} (hc : X.calm = true) (h : DGs c X es pl gs) (hK : X.K = c.K := by rfl) (hn : (assignEach es X.env).length = n := by rfl) (hst : (assignEach es X.env).findIdx? (·.1) = none := by rfl) : DG c X (.Tuple es k p) pl (gT n gs) := by
  refine ⟨fun d Γ Q Q' hq q => ?_, fun vs hv => (pg_tup (n := n) hc (h.run vs hv) hn hst).imp fun v σ H Q ⟨Γ, B, Hs, d, r, dv, q⟩ => ?_⟩
  · unfold gT at q ⊢
    split at q
    · exact ⟨q.1, h.mono _ _ _ _ hq q.2⟩
    · exact q.elim
  · unfold gT at q
    split at q
    · rename_i ds
      cases dv with
      | tup h1 h2 => exact ⟨_, _, rfl, by rw [hK]; exact sqT_mono r.ws.sub h1, by rw [h2.length]; exact q.1, Γ, B, Hs, ds, r, h2, q.2⟩
    · exact q.elim
/-- target = e -/
def dAsg (te : TD) (g : TGd) : TSd := fun D Γ => te Γ (fun s => asD s fun d => g d Γ D.nx) D.ex
theorem ds_asg {tg : Expr} {g : TGd} {pl : List Nat} (he : DE c X e te) (hg : DG c X tg pl g) (hs : swapsWithSole [tg] e pos.line X.env = pure false := by rfl) (hw : swappedStores [tg] e X.env = pure none := by rfl)
    (h1 : (assignEach [tg] X.env).map (·.2) = [assign tg X.env] := by rfl) : DS c X (.Assign [tg] e pos) (dAsg te g) := by
  refine ⟨fun D D' Γ l q => he.mono _ _ _ _ _ (fun s q => asD_mono (fun d q => hg.mono _ _ _ _ l.nx q) q) l.ex q, fun W tk => (ps_asg (he.run W tk) (hg.run pl fun _ h => h) hs hw h1).imp fun D σ H ⟨Γ, B, Hs, r, q⟩ => ?_⟩
  refine ⟨Γ, B, Hs, r, he.mono _ _ _ _ _ (fun s q v Hs1 H1 fp t w vr nw => ?_) (fun x z => z.exf r) q⟩
  obtain ⟨Hs2, s2, w2, v2, n2⟩ := vr.nrm w
  obtain ⟨d, e, q⟩ := asD_nrm q
  rw [e] at v2
  have t2 : Stp B Hs H Hs2 H1 := t.close s2 fun a h1 h2 => nw a (n2 a h1 h2)
  exact ⟨Γ, B, Hs2, d, r.step t2 w2, v2.2, hg.mono _ _ _ _ (fun Γ' q σ' r' _ => q σ' B Hs2 H1 t2.hs r') q⟩
/-- x op= e (numbers) -/
def dAug (i : Nat) (g : G2) (te : TD) : TSd := fun D Γ => te Γ (fun s => asD s fun y => match Γ[i]? with
  | some (.sh x) => g x y (fun r => i < Γ.length ∧ D.nx (Γ.set i r))
  | _ => False) D.ex
end

/-! ### what is walked -/
abbrev TId := Env' → (List D → Prop) → EK → Prop
/-- the walk gives the data ds, from any state behind -/
def ItD (c : Gd) (J : It) (ds : List D) (Hs : Hp) : Prop := ∀ (i : Nat) (B : AS) (Hs2 H2 : Hp), Sub Hs Hs2 → WS B Hs2 H2 →
  (∀ d, ds[i]? = some d → J.go i H2 ∧ ∀ x H3, J.yld i H2 x H3 → ∃ Hs3, Stp B Hs2 H2 Hs3 H3 ∧ WS B Hs3 H3 ∧ Dq c.K Hs3 x d) ∧ (i = ds.length → J.stop i H2)
def lI (c : Gd) (W : WX) (t : TId) : TI := fun σ H R => ∃ (Γ : Env') (B : AS) (Hs : Hp), Rel c Γ σ B Hs H ∧
  t Γ (fun ds => ds.length ≤ 16777216 → ∀ (J : It) (Hs' H' : Hp), Stp B Hs H Hs' H' → WS B Hs' H' → ItD c J ds Hs' → R J H') (Exf c W σ B Hs H)
def MonoI (t : TId) : Prop := ∀ (Γ : Env') (Q Q' : List D → Prop) (E E' : EK), (∀ s, Q s → Q' s) → (∀ x, E x → E' x) → t Γ Q E → t Γ Q' E'
structure DI (c : Gd) (X : Cx) (tg iter : Expr) (t : TId) : Prop where
  mono : MonoI t
  run : ∀ W, Takes X W → PI X tg iter (lI c W t)
theorem _root_.L2.PI.imp {X : Cx} {tg e : Expr} {t u : TI} (h : PI X tg e t) (i : ∀ σ H R, u σ H R → t σ H R) : PI X tg e u := ⟨fun pins s σ H Q I q => h.run pins s σ H Q I (i _ _ _ q)⟩

section
variable {X : Cx} {tg : Expr}
/-- an expression that is walked, by what it gives -/
theorem pi_any {l : Expr} {tl : TE} (hl : PE X l tl) : PI X tg l (fun σ H R => tl σ H fun x H1 => (∃ a xs, x = .ref a ∧ SqL X.K H1 a xs ∧ (xs.length ≤ sizeLine → R (Itl X.K a) H1)) ∨ (∃ a xs, x = .ref a ∧ SqT X.K H1 a xs ∧ (xs.length ≤ sizeLine → R (Itt X.K a) H1)) ∨
    ∃ z, x = .str z ∧ R (Its z) H1) := by
  refine ⟨fun pins s σ H R I h => ?_⟩
  refine thn (hl.run pins s σ H _ I h) fun v s1 ⟨x, H1, I1, r1, q1⟩ => ?_
  rcases q1 with ⟨a, xs, e, hq, q⟩ | ⟨a, xs, e, hq, q⟩ | ⟨z, e, q⟩
  · subst e
    cases r1
    obtain ⟨its, rv, p, hz⟩ := I1.list hq
    refine wpAny_pyIter_list p.isList ?_
    refine ⟨s1.heap.objs.size, [s1.heap.objs.size], _, _, H1, rfl, I1.kept (t' := s1.toks) fun b o e => Heap.get?_push_of_some _ e, turn_list a _, ⟨_, Heap.get?_push_size _ rfl, rfl, rfl⟩, fun b hb => ?_, q hz⟩
    have e : b = s1.heap.objs.size := by simpa using hb
    subst e
    exact I1.fpOk (Nat.le_refl _) (I1.hok.fresh (Nat.le_refl _))
  · subst e
    cases r1
    obtain ⟨its, rv, p, hz⟩ := I1.tuple hq
    refine wpAny_pyIter_tuple (show s1.heap.IsTuple a its.toArray from p) ?_
    refine ⟨s1.heap.objs.size, [s1.heap.objs.size], _, _, H1, rfl, I1.kept (t' := s1.toks) fun b o e => Heap.get?_push_of_some _ e, turn_tuple a _, ⟨_, Heap.get?_push_size _ rfl, rfl, rfl⟩, fun b hb => ?_, q hz⟩
    have e : b = s1.heap.objs.size := by simpa using hb
    subst e
    exact I1.fpOk (Nat.le_refl _) (I1.hok.fresh (Nat.le_refl _))
  · subst e
    obtain ⟨t, rfl⟩ := r1
    cases ha : z.cps.all (· < 128)
    · exact wpAny_pyIter_wide ha (pi_one (tk := s1.toks) I1 _ (turn_str _ z t "str_iterator" (.inr rfl)) ⟨_, Heap.get?_push_size _ rfl, rfl, rfl⟩ q)
    · exact wpAny_pyIter_ascii ha (pi_one (tk := s1.toks) I1 _ (turn_str _ z t "str_ascii_iterator" (.inl rfl)) ⟨_, Heap.get?_push_size _ rfl, rfl, rfl⟩ q)
end
/-- the signs of a text -/
def signs (x : Str) : List D := x.cps.toList.map fun c => .str ⟨#[c]⟩
section
variable {c : Gd}
theorem itd_list {Hs : Hp} {a : Addr} {xs : List V} {ds : List D} (h : Hs a = some (.lst xs)) (d : DqAll c.K Hs xs ds) : ItD c (Itl c.K a) ds Hs := fun i B Hs2 H2 s w => by
  have h2 : SqL c.K H2 a xs := SqL.of (w.sub _ _ (s _ _ h))
  refine ⟨fun x hx => ?_, fun hl => ⟨xs, h2, by rw [d.length, hl]; exact Nat.le_refl _⟩⟩
  obtain ⟨v, hv, dv⟩ := d.get hx
  exact ⟨⟨xs, v, h2, hv⟩, fun y H3 hy => by
    obtain ⟨rfl, hy⟩ := hy
    have e : y = v := Option.some.inj ((hy xs h2).symm.trans hv)
    subst e
    exact ⟨Hs2, Stp.refl, w, dq_mono s dv⟩⟩
theorem itd_tup {Hs : Hp} {a : Addr} {xs : List V} {ds : List D} (h : SqT c.K Hs a xs) (d : DqAll c.K Hs xs ds) : ItD c (Itt c.K a) ds Hs := fun i B Hs2 H2 s w => by
  have h2 : SqT c.K H2 a xs := sqT_mono w.sub (sqT_mono s h)
  refine ⟨fun x hx => ?_, fun hl => ⟨xs, h2, by rw [d.length, hl]; exact Nat.le_refl _⟩⟩
  obtain ⟨v, hv, dv⟩ := d.get hx
  exact ⟨⟨xs, v, h2, hv⟩, fun y H3 hy => by
    obtain ⟨rfl, hy⟩ := hy
    have e : y = v := Option.some.inj ((hy xs h2).symm.trans hv)
    subst e
    exact ⟨Hs2, Stp.refl, w, dq_mono s dv⟩⟩
theorem itd_str {Hs : Hp} {x : Str} : ItD c (Its x) (signs x) Hs := fun i B Hs2 H2 s w => by
  have hl : (signs x).length = x.cps.size := by unfold signs; rw [List.length_map, Array.length_toList]
  refine ⟨fun y hy => ?_, fun h => show x.cps.size ≤ i by rw [← hl, h]; exact Nat.le_refl _⟩
  obtain ⟨hi, _⟩ := List.getElem?_eq_some_iff.mp hy
  refine ⟨show i < x.cps.size by rw [← hl]; exact hi, fun v H3 hv => ?_⟩
  obtain ⟨rfl, k, hk, rfl⟩ := hv
  refine ⟨Hs2, Stp.refl, w, ?_⟩
  unfold signs at hy
  rw [List.getElem?_map, Array.getElem?_toList, hk] at hy
  cases hy
  exact .str _
def dAny (te : TD) : TId := fun Γ Q E => te Γ (fun s => asD s fun d => match d with
  | .list ds => Q ds
  | .tuple ds => Q ds
  | .str x => x.length ≤ 16777216 ∧ Q (signs x)
  | _ => False) E
theorem di_any {X : Cx} {tg e : Expr} {te : TD} (h : DE c X e te) (hK : X.K = c.K := by rfl) : DI c X tg e (dAny te) := by
  refine ⟨fun Γ Q Q' E E' h1 h2 q => h.mono _ _ _ _ _ (fun s q => asD_mono (fun d q => ?_) q) h2 q, fun W tk => (pi_any (h.run W tk)).imp fun σ H R ⟨Γ, B, Hs, r, q⟩ => ?_⟩
  · split at q
    · exact h1 _ q
    · exact h1 _ q
    · exact ⟨q.1, h1 _ q.2⟩
    · exact q.elim
  · refine ⟨Γ, B, Hs, r, h.mono _ _ _ _ _ (fun s q v Hs1 H1 fp t w vr nw => ?_) (fun _ z => z) q⟩
    obtain ⟨Hs2, s2, w2, v2, n2⟩ := vr.nrm w
    obtain ⟨d, e, q⟩ := asD_nrm q
    rw [e] at v2
    have t2 : Stp B Hs H Hs2 H1 := t.close s2 fun a h1 h2 => nw a (n2 a h1 h2)
    split at q
    · rename_i ds
      obtain ⟨_, v2⟩ := v2
      cases v2 with
      | lst h1 h2 => exact .inl ⟨_, _, rfl, SqL.of (w2.sub _ _ h1), fun hl => q (by rw [← h2.length, line_eq]; exact hl) _ Hs2 H1 t2 w2 (by rw [hK]; exact itd_list h1 h2)⟩
    · rename_i ds
      obtain ⟨_, v2⟩ := v2
      cases v2 with
      | tup h1 h2 => exact .inr (.inl ⟨_, _, rfl, by rw [hK]; exact sqT_mono w2.sub h1, fun hl => q (by rw [← h2.length, line_eq]; exact hl) _ Hs2 H1 t2 w2 (by rw [hK]; exact itd_tup h1 h2)⟩)
    · rename_i x
      obtain ⟨_, v2⟩ := v2
      cases v2
      exact .inr (.inr ⟨x, rfl, q.2 (by unfold signs; rw [List.length_map, Array.length_toList]; exact q.1) _ Hs2 H1 t2 w2 itd_str⟩)
    · exact q.elim
/-! ### ranges -/
/-- lo, lo + 1, .., n of them -/
def rngs (lo : Int) (n : Nat) : List D := (List.range n).map fun (i : Nat) => PyData.int (lo + (i : Int))
theorem rngs_length {lo : Int} {n : Nat} : (rngs lo n).length = n := by unfold rngs; rw [List.length_map, List.length_range]
theorem rngs_get {lo : Int} {n i : Nat} {d : D} (h : (rngs lo n)[i]? = some d) : i < n ∧ d = .int (lo + (i : Int)) := by
  unfold rngs at h
  rw [List.getElem?_map] at h
  by_cases hi : i < n
  · rw [List.getElem?_range hi] at h
    cases h
    exact ⟨hi, rfl⟩
  · rw [List.getElem?_eq_none (by rw [List.length_range]; omega)] at h
    cases h
theorem itd_range {lo : Int} {n : Nat} {Hs : Hp} : ItD c (Itr lo n) (rngs lo n) Hs := fun i B Hs2 H2 s w => by
  refine ⟨fun d hd => ?_, fun h => show n ≤ i by rw [h, rngs_length]; exact Nat.le_refl _⟩
  obtain ⟨hi, rfl⟩ := rngs_get hd
  exact ⟨hi, fun x H3 hx => by
    obtain ⟨rfl, rfl⟩ := hx
    exact ⟨Hs2, Stp.refl, w, .int _⟩⟩
def dRng1 (ta : TD) : TId := fun Γ Q E => ta Γ (fun s => match s with
  | .sh (.int j) => (-16777216 ≤ j ∧ j ≤ 16777216) ∧ Q (rngs 0 j.toNat)
  | _ => False) E
def dRng2 (ta tb : TD) : TId := fun Γ Q E => ta Γ (fun s => tb Γ (fun u => match s, u with
  | .sh (.int i), .sh (.int j) => (-16777216 ≤ i ∧ i ≤ 16777216 ∧ -16777216 ≤ j ∧ j ≤ 16777216 ∧ j - i ≤ 16777216) ∧ Q (rngs i (j - i).toNat)
  | _, _ => False) E) E
theorem di_range1 {X : Cx} {tg a : Expr} {ta : TD} {p pos : Pos} (hg : Gl X "range") (hm : X.mg "range" = none) (ha : DE c X a ta) (hs : starEach [a] X.env = [(false, eval a X.env)] := by rfl) : DI c X tg (.Call (.Name "range" p) [a] [] pos) (dRng1 ta) := by
  have ha' : DA c X [a] (dCons ta dNil) := da_cons ha da_nil hs
  refine ⟨fun Γ Q Q' E E' h1 h2 q => ha.mono _ _ _ _ _ (fun s q => ?_) h2 q, fun W tk => (pi_range1 hg hm (ha'.run W tk) hs).imp fun σ H R ⟨Γ, B, Hs, r, q⟩ => ?_⟩
  · split at q
    · exact ⟨q.1, h1 _ q.2⟩
    · exact q.elim
  · refine ⟨Γ, B, Hs, r, ha.mono _ _ _ _ _ (fun s q vs Hs1 H1 fp t w vr nw => ?_) (fun _ z => z) q⟩
    split at q
    · rename_i j
      cases vr with
      | cons v1 v2 _ =>
        cases v2
        obtain ⟨_, d⟩ := v1
        cases d
        exact ⟨j, rfl, by omega, by omega, q.2 (by rw [rngs_length]; omega) _ Hs1 H1 t w itd_range⟩
    · exact q.elim
theorem di_range2 {X : Cx} {tg a b : Expr} {ta tb : TD} {p pos : Pos} (hg : Gl X "range") (hm : X.mg "range" = none) (ha : DE c X a ta) (hb : DE c X b tb) (hs : starEach [a, b] X.env = [(false, eval a X.env), (false, eval b X.env)] := by rfl) (hs2 : starEach [b] X.env = [(false, eval b X.env)] := by rfl) :
    DI c X tg (.Call (.Name "range" p) [a, b] [] pos) (dRng2 ta tb) := by
  have ha' : DA c X [a, b] (dCons ta (dCons tb dNil)) := da_cons ha (da_cons hb da_nil hs2) (by rw [hs, hs2])
  refine ⟨fun Γ Q Q' E E' h1 h2 q => ha.mono _ _ _ _ _ (fun s q => hb.mono _ _ _ _ _ (fun u q => ?_) h2 q) h2 q, fun W tk => (pi_range2 hg hm (ha'.run W tk) hs hs2).imp fun σ H R ⟨Γ, B, Hs, r, q⟩ => ?_⟩
  · split at q
    · exact ⟨q.1, h1 _ q.2⟩
    · exact q.elim
  · refine ⟨Γ, B, Hs, r, ha.mono _ _ _ _ _ (fun s q0 => hb.mono _ _ _ _ _ (fun u q vs Hs1 H1 fp t w vr nw => ?_) (fun _ z => z) q0) (fun _ z => z) q⟩
    split at q
    · rename_i i j
      cases vr with
      | cons v1 v2 _ =>
        cases v2 with
        | cons v2 v3 _ =>
          cases v3
          obtain ⟨_, d⟩ := v1
          obtain ⟨_, d'⟩ := v2
          cases d
          cases d'
          refine ⟨i, j, rfl, ⟨by omega, by omega, ?_, by omega⟩, q.2 (by rw [rngs_length]; omega) _ Hs1 H1 t w itd_range⟩
          omega
    · exact q.elim
end
/-! ### for -/
def forGo (g : TGd) (tb : TSd) (U : En) : List D → Env' → Prop
  | [], Γ => U.nx Γ
  | d :: ds, Γ => g d Γ fun Γ' => tb ⟨forGo g tb U ds, U.rt, U.ex, U.nx, forGo g tb U ds⟩ Γ'
def dFor (ti : TId) (g : TGd) (tb : TSd) : TSd := fun U Γ => ti Γ (fun ds => forGo g tb U ds Γ) U.ex
section
variable {c : Gd} {X : Cx} {pos : Pos}
theorem forGo_mono {g : TGd} {tb : TSd} (hg : ∀ d Γ Q Q', (∀ Γ, Q Γ → Q' Γ) → g d Γ Q → g d Γ Q') (hb : MonoS tb) {U U' : En} (l : En.Le U U') : ∀ (ds : List D) (Γ : Env'), forGo g tb U ds Γ → forGo g tb U' ds Γ
  | [], Γ, q => l.nx _ q
  | d :: ds, Γ, q => hg _ _ _ _ (fun Γ' q => hb ⟨forGo g tb U ds, U.rt, U.ex, U.nx, forGo g tb U ds⟩ ⟨forGo g tb U' ds, U'.rt, U'.ex, U'.nx, forGo g tb U' ds⟩ _ ⟨fun Γ q => forGo_mono hg hb l ds Γ q, l.rt, l.ex, l.nx, fun Γ q => forGo_mono hg hb l ds Γ q⟩ q) q
theorem ds_for {tg iter : Expr} {body : List Stmt} {ti : TId} {g : TGd} {tb : TSd} {pl : List Nat} (hp : PassesOwn (model X.prog X.w) X.A X.env X.xe) (hc : X.calm = true) (hi : DI c X tg iter ti) (hg : DG c X tg pl g) (hb : DSs c X body tb)
    (hs : ∀ x, foldedSetIterable iter X.env x = pure x := by intro _; rfl) : DS c X (.For tg iter body [] pos) (dFor ti g tb) := by
  refine ⟨fun D D' Γ l q => hi.mono _ _ _ _ _ (fun ds q => forGo_mono hg.mono hb.mono l ds Γ q) l.ex q, fun W tk => (ps_for hp hc (hi.run W tk) (hg.run pl fun _ h => h) (hb.run W tk) hs).imp fun D σ H ⟨Γ, B, Hs, r, q⟩ => ?_⟩
  refine ⟨Γ, B, Hs, r, hi.mono _ _ _ _ _ (fun ds q hlen J Hs1 H1 t w hJ => ?_) (fun x z => z.exf r) q⟩
  refine ⟨fun i m σ H => m = ds.length - i ∧ i ≤ ds.length ∧ ∃ (Γ : Env') (B : AS) (Hs2 : Hp), Rel c Γ σ B Hs2 H ∧ Sub Hs1 Hs2 ∧ forGo g tb (enAt c W D Hs1) (ds.drop i) Γ,
    ⟨ds.length, by simp, Nat.zero_le _, Γ, B, Hs1, r.step t w, Sub.refl _, forGo_mono hg.mono hb.mono (enAt.on t.hs) _ _ q⟩, ?_⟩
  rintro i m σ2 H2 ⟨rfl, hle, Γ2, B2, Hs2, r2, s2, q2⟩
  have hJ2 := hJ i B2 Hs2 H2 s2 r2.ws
  by_cases hlt : i < ds.length
  · rw [List.drop_eq_getElem_cons hlt] at q2
    obtain ⟨go, yl⟩ := hJ2.1 ds[i] (List.getElem?_eq_getElem hlt)
    refine .inr ⟨go, fun σ H => ∃ (Γ : Env') (B : AS) (Hs2 : Hp), Rel c Γ σ B Hs2 H ∧ Sub Hs1 Hs2 ∧ forGo g tb (enAt c W D Hs1) (ds.drop (i + 1)) Γ, fun σ' H' ⟨Γ', B', Hs', r', s', q'⟩ => ⟨ds.length - (i + 1), by omega, rfl, hlt, Γ', B', Hs', r', s', q'⟩, fun x H3 hx => ?_⟩
    obtain ⟨Hs3, t3, w3, d3⟩ := yl x H3 hx
    refine ⟨Γ2, B2, Hs3, ds[i], r2.step t3 w3, d3, hg.mono _ _ _ _ (fun Γ4 q4 σ4 r4 _ => ?_) q2⟩
    have s3 : Sub Hs1 Hs3 := s2.trans t3.hs
    refine ⟨Γ4, B2, Hs3, r4, hb.mono ⟨forGo g tb (enAt c W D Hs1) (ds.drop (i + 1)), aR c D.rt, aX c W, aN c D.nx Hs1, forGo g tb (enAt c W D Hs1) (ds.drop (i + 1))⟩ (enAt c W _ Hs3) _ ⟨fun Γ5 q5 σ5 B5 Hs5 H5 s5 r5 => ⟨Γ5, B5, Hs5, r5, s3.trans s5, q5⟩, fun s q => q, fun x q => q, fun Γ5 q5 => aN.on s3 q5, fun Γ5 q5 σ5 B5 Hs5 H5 s5 r5 => ⟨Γ5, B5, Hs5, r5, s3.trans s5, q5⟩⟩ q4⟩
  · have e : i = ds.length := by omega
    subst e
    rw [List.drop_length] at q2
    exact .inl ⟨hJ2.2 rfl, q2 σ2 B2 Hs2 H2 s2 r2⟩
/-! ### comprehensions -/
def wipeG (Γ : Env') : List Nat → Env'
  | [] => Γ
  | v :: vs => (wipeG Γ vs).set v .un
theorem wipeG_length (Γ : Env') : ∀ vs, (wipeG Γ vs).length = Γ.length
  | [] => rfl
  | v :: vs => by unfold wipeG; rw [List.length_set, wipeG_length Γ vs]
def lcGo (g : TGd) (tt : TDt) (te : TD) (Γ : Env') (Q : SK) (E : EK) : List D → List D → Prop
  | [], acc => Q (.own acc)
  | d :: ds, acc => g d Γ fun Γ' => tt Γ' (fun k => if k = true then te Γ' (fun s => asD s fun r => lcGo g tt te Γ Q E ds (acc ++ [r])) (fun _ => False) else lcGo g tt te Γ Q E ds acc) (fun _ => False)
def dLc (ti : TId) (g : TGd) (tt : TDt) (te : TD) (vs : List Nat) : TD := fun Γ Q E => ti Γ (fun ds => lcGo g tt te (wipeG Γ vs) Q E ds []) E
def dYes : TDt := fun _ Q _ => Q true
/-- no test, or one -/
structure DTs (c : Gd) (X : Cx) (es : List Expr) (t : TDt) : Prop where
  mono : MonoT t
  run : ∀ W, Takes X W → PTs X es (lT c W t)
theorem _root_.L2.PTs.imp {X : Cx} {e : List Expr} {t u : TT} (h : PTs X e t) (i : ∀ σ H Q, u σ H Q → t σ H Q) : PTs X e u := ⟨fun pins s σ H Q I q => h.run pins s σ H Q I (i _ _ _ q)⟩
theorem dts_nil : DTs c X [] dYes := ⟨fun _ _ _ _ _ h _ q => h _ q, fun W tk => pts_nil.imp fun σ H Q ⟨Γ, B, Hs, r, q⟩ => q Hs H Stp.refl r.ws⟩
theorem dts_one {e : Expr} {t : TDt} (h : DT c X e t) : DTs c X [e] t := ⟨h.mono, fun W tk => pts_one (h.run W tk)⟩
theorem lcGo_mono {g : TGd} {tt : TDt} {te : TD} {Γ : Env'} (hg : ∀ d Γ Q Q', (∀ Γ, Q Γ → Q' Γ) → g d Γ Q → g d Γ Q') (ht : MonoT tt) (he : Mono te) {Q Q' : SK} {E E' : EK} (h1 : ∀ s, Q s → Q' s) : ∀ (ds acc : List D), lcGo g tt te Γ Q E ds acc → lcGo g tt te Γ Q' E' ds acc
  | [], acc, q => h1 _ q
  | d :: ds, acc, q => hg _ _ _ _ (fun Γ' q => ht _ _ _ _ _ (fun k q => ite_mono (fun q => he _ _ _ _ _ (fun s q => asD_mono (fun r q => lcGo_mono hg ht he h1 ds _ q) q) (fun _ z => z) q) (fun q => lcGo_mono hg ht he h1 ds acc q) q) (fun _ z => z) q) q
theorem dLc_mono {ti : TId} {g : TGd} {tt : TDt} {te : TD} {vs : List Nat} (hi : MonoI ti) (hg : ∀ d Γ Q Q', (∀ Γ, Q Γ → Q' Γ) → g d Γ Q → g d Γ Q') (ht : MonoT tt) (he : Mono te) : Mono (dLc ti g tt te vs) :=
  fun Γ Q Q' E E' h1 h2 q => hi _ _ _ _ _ (fun ds q => lcGo_mono hg ht he h1 ds [] q) h2 q
/-- the comprehension's own places are forgotten within -/
theorem Rel.wipe {Γ : Env'} {σ : L2.St} {B : AS} {Hs H : Hp} (r : Rel c Γ σ B Hs H) : ∀ vs : List Nat, Rel c (wipeG Γ vs) (wipe σ vs) B Hs H
  | [] => r
  | v :: vs => by
    refine (Rel.wipe r vs).weak (by unfold wipeG; unfold L2.wipe; rw [List.length_set, List.length_set]; exact (Rel.wipe r vs).len) fun i s h => ?_
    unfold wipeG at h
    by_cases e : v = i
    · subst e
      obtain ⟨hi, e2⟩ := List.getElem?_eq_some_iff.mp h
      rw [List.getElem_set_self] at e2
      exact .inl e2.symm
    · rw [List.getElem?_set_ne e] at h
      exact .inr ⟨h, fun w hw => by
        show (List.set (L2.wipe σ vs) v none)[i]? = _
        rw [List.getElem?_set_ne e]; exact hw⟩
theorem wipe_wipe {σ : L2.St} {vs : List Nat} : wipe (wipe σ vs) vs = wipe σ vs := by
  apply List.ext_getElem?
  intro j
  rw [wipe_get, wipe_length]
  by_cases q : j ∈ vs ∧ j < σ.length
  · rw [if_pos q, wipe_get, if_pos q]
  · rw [if_neg q]
/-- the state of a comprehension: its list at L, made so far -/
structure LcSt (c : Gd) (B : AS) (Hs1 H1 : Hp) (L : Addr) (acc : List D) (Hs2 H2 : Hp) : Prop where
  t : Stp B Hs1 H1 Hs2 H2
  w : WS B Hs2 H2
  no : Hs2 L = none
  nb : ¬ B L
  at_ : ∃ vs, H2 L = some (.lst vs) ∧ DqAll c.K Hs2 vs acc
theorem LcSt.step {B : AS} {Hs1 H1 Hs2 H2 Hs3 H3 : Hp} {L : Addr} {acc : List D} (s : LcSt c B Hs1 H1 L acc Hs2 H2) (t : Stp B Hs2 H2 Hs3 H3) (w : WS B Hs3 H3) : LcSt c B Hs1 H1 L acc Hs3 H3 := by
  obtain ⟨vs, e, d⟩ := s.at_
  refine ⟨s.t.trans t, w, ?_, s.nb, vs, t.kp _ _ e s.nb, dqAll_mono t.hs d⟩
  cases q : Hs3 L with
  | none => rfl
  | some o => exact absurd (t.new L s.no (by rw [q]; simp)) (by rw [e]; simp)
theorem LcSt.put {B : AS} {Hs1 H1 Hs2 H2 Hs3 : Hp} {L : Addr} {acc : List D} {v : V} {d : D} {vs : List V} (s : LcSt c B Hs1 H1 L acc Hs2 H2) (h1 : H1 L = none) (sb : Sub Hs2 Hs3) (w3 : WS B Hs3 H2) (n3 : ∀ a, Hs2 a = none → Hs3 a ≠ none → H1 a = none ∧ a ≠ L)
    (e : H2 L = some (.lst vs)) (dv : DqAll c.K Hs3 vs acc) (d1 : Dq c.K Hs3 v d) : LcSt c B Hs1 H1 L (acc ++ [d]) Hs3 (upd H2 L (.lst (vs ++ [v]))) := by
  have no3 : Hs3 L = none := by
    cases q : Hs3 L with
    | none => rfl
    | some o => exact absurd rfl (n3 L s.no (by rw [q]; simp)).2
  refine ⟨⟨s.t.hs.trans sb, fun a x1 x2 => ?_, fun a o x1 x2 => ?_, fun a x => ?_⟩, ⟨fun a o x => ?_, fun a ha => ?_, w3.sep⟩, no3, s.nb, _, upd_same, dv.append (.cons d1 .nil)⟩
  · by_cases y : Hs2 a = none
    · exact (n3 a y x2).1
    · exact s.t.new a x1 y
  · rw [upd_ne (ne_of_none x1 h1)]; exact s.t.kp a o x1 x2
  · by_cases y : a = L
    · subst y; rw [upd_same]; simp
    · rw [upd_ne y]; exact s.t.th a x
  · rw [upd_ne (ne_of_none x no3)]; exact w3.sub a o x
  · obtain ⟨g, z, q⟩ := w3.bag a ha
    exact ⟨g, z, by rw [upd_ne (fun y : a = L => s.nb (y ▸ ha))]; exact q⟩
theorem lG_in {vs : List Nat} {g : TGd} {v : V} {σ : L2.St} {H : Hp} {Q : L2.St → Hp → Prop} (h : lG c vs g v σ H Q) : lG c vs g v σ H Q := h
/-- W of nothing -/
abbrev W0 : WX := fun _ _ _ _ => False
theorem lc_imp {W : WX} {ti : TId} {g : TGd} {tt : TDt} {te : TD} {vs : List Nat} {σ : L2.St} {H : Hp} {Q : VK} (mi : MonoI ti) (mg : ∀ d Γ Q Q', (∀ Γ, Q Γ → Q' Γ) → g d Γ Q → g d Γ Q') (mt : MonoT tt) (me : Mono te) (h : lE c W (dLc ti g tt te vs) σ H Q) :
    tLc (lI c W ti) (lG c vs g) (lT c W0 tt) (lE c W0 te) vs σ H Q := by
  obtain ⟨Γ, B, Hs, r, q⟩ := h
  refine ⟨Γ, B, Hs, r, mi _ _ _ _ _ (fun ds q hlen J Hs1 H1 t w hJ L hL => ?_) (fun x z => z) q⟩
  obtain ⟨t0, w0, v0⟩ := newList (c := c) (vs := []) (ds := []) w .nil hL
  obtain ⟨p0, vs0, e0, _, e1, e2, e3, e4⟩ := v0
  cases e0
  have st0 : LcSt c B Hs1 H1 L [] Hs1 (upd H1 L (.lst [])) := ⟨t0, w0, e2, e3, vs0, e1, e4⟩
  refine ⟨fun i m H2 => m = ds.length - i ∧ i ≤ ds.length ∧ ∃ (Hs2 : Hp) (acc : List D), LcSt c B Hs1 H1 L acc Hs2 H2 ∧ acc.length ≤ i ∧ lcGo g tt te (wipeG Γ vs) (Aft c B Hs H Q) (Exf c W σ B Hs H) (ds.drop i) acc,
    ⟨ds.length, by simp, Nat.zero_le _, Hs1, [], st0, Nat.le_refl _, q⟩, ?_⟩
  rintro i m H2 ⟨rfl, hle, Hs2, acc, st, ha, q2⟩
  have hJ2 := hJ i B Hs2 H2 st.t.hs st.w
  by_cases hlt : i < ds.length
  · rw [List.drop_eq_getElem_cons hlt] at q2
    obtain ⟨go, yl⟩ := hJ2.1 ds[i] (List.getElem?_eq_getElem hlt)
    refine .inr ⟨go, fun H2 => ∃ (Hs2 : Hp) (acc : List D), LcSt c B Hs1 H1 L acc Hs2 H2 ∧ acc.length ≤ i + 1 ∧ lcGo g tt te (wipeG Γ vs) (Aft c B Hs H Q) (Exf c W σ B Hs H) (ds.drop (i + 1)) acc, fun H' ⟨Hs', acc', s', l', q'⟩ => ⟨ds.length - (i + 1), by omega, rfl, hlt, Hs', acc', s', l', q'⟩, fun x H3 hx => ?_⟩
    obtain ⟨Hs3, t3, w3, d3⟩ := yl x H3 hx
    have st3 := st.step t3 w3
    refine ⟨_, B, Hs3, ds[i], (r.step (t.trans st3.t) w3).wipe _, d3, mg _ _ _ _ (fun Γ4 q4 σ4 r4 e4 => ⟨e4.trans wipe_wipe, ?_⟩) q2⟩
    refine ⟨Γ4, B, Hs3, r4, mt _ _ _ _ _ (fun k q5 Hs5 H5 t5 w5 => ?_) (fun x z => z.elim) q4⟩
    have st5 := st3.step t5 w5
    cases k with
    | false =>
      rw [if_neg Bool.false_ne_true] at q5
      exact iteF ⟨Hs5, acc, st5, by omega, q5⟩
    | true =>
      rw [if_pos rfl] at q5
      refine iteT ⟨Γ4, B, Hs5, r4.step t5 w5, me _ _ _ _ _ (fun s q6 v Hs6 H6 fp t6 w6 vr nw => ?_) (fun x z => z.elim) q5⟩
      have st6 := st5.step t6 w6
      obtain ⟨Hs7, s7, w7, v7, n7⟩ := vr.nrm w6
      obtain ⟨d, e, q7⟩ := asD_nrm q6
      rw [e] at v7
      obtain ⟨vs6, e6, d6⟩ := st6.at_
      obtain ⟨vs5, e5, d5⟩ := st5.at_
      refine ⟨vs6, e6, ?_, Hs7, acc ++ [d], st6.put hL s7 w7 (fun a x1 x2 => ?_) e6 (dqAll_mono s7 d6) v7.2, by rw [List.length_append]; simp; exact ha, q7⟩
      · rw [d6.length, ← line_eq]; omega
      · have h5 := nw a (n7 a x1 x2)
        refine ⟨st5.t.none h5, fun z => ?_⟩
        rw [z, e5] at h5; cases h5
  · have e : i = ds.length := by omega
    subst e
    rw [List.drop_length] at q2
    obtain ⟨vs2, e2', d2⟩ := st.at_
    refine .inl ⟨hJ2.2 rfl, q2 _ Hs2 H2 [L] (t.trans st.t) st.w ⟨L, vs2, rfl, rfl, e2', st.no, st.nb, d2⟩ fun a ha => ?_⟩
    have e : a = L := by simpa using ha
    subst e
    exact t.none hL
theorem de_lc {elt tg iter : Expr} {ifs : List Expr} {scope : Scope} {own : List (Str × Nat)} {ti : TId} {g : TGd} {tt : TDt} {te : TD} {pl : List Nat} (hc : X.calm = true) (hN : X.N.Nodup) (hi : DI c X tg iter ti) (ok : BlkOk X.N X.env.scope scope own)
    (hg : ∀ (s : Shared) (H : Hp) (C : Addr) (cl : List (Str × Addr)) (fp : List Addr), DG c (X.blk s H scope (compEnvC scope cl C X.env) fp) tg pl g) (ht : ∀ (s : Shared) (H : Hp) (C : Addr) (cl : List (Str × Addr)) (fp : List Addr), DTs c (X.blk s H scope (compEnvC scope cl C X.env) fp) ifs tt)
    (he : ∀ (s : Shared) (H : Hp) (C : Addr) (cl : List (Str × Addr)) (fp : List Addr), DE c (X.blk s H scope (compEnvC scope cl C X.env) fp) elt te) (hpl : ∀ i ∈ pl, i ∈ own.map (·.2)) (hs : ∀ x, foldedSetIterable iter X.env x = pure x := by intro _; rfl) :
    DE c X (.ListComp elt [⟨tg, iter, ifs, 0⟩] scope pos) (dLc ti g tt te (own.map (·.2))) := by
  have s0 : Shared := {}
  refine ⟨dLc_mono hi.mono (hg s0 (fun _ => none) 0 [] []).mono (ht s0 (fun _ => none) 0 [] []).mono (he s0 (fun _ => none) 0 [] []).mono, fun W tk => ?_⟩
  refine (pe_lc hc hN (hi.run W tk) ok (fun s H C cl fp => (hg s H C cl fp).run (own.map (·.2)) hpl) (fun s H C cl fp => (ht s H C cl fp).run W0 takes0) (fun s H C cl fp => (he s H C cl fp).run W0 takes0) hs).imp fun σ H Q h => lc_imp hi.mono (hg s0 (fun _ => none) 0 [] []).mono (ht s0 (fun _ => none) 0 [] []).mono (he s0 (fun _ => none) 0 [] []).mono h
end

section
variable {c : Gd} {X : Cx}
/-! ### operators -/
def gAdd : G2 := fun x y Q => match x, y with
  | .int a, .int b => Q (.sh (.int (a + b)))
  | .str a, .str b => a.length + b.length ≤ 16777216 ∧ Q (.sh (.str (a ++ b)))
  | .list a, .list b => a.length + b.length ≤ 16777216 ∧ Q (.own (a ++ b))
  | .tuple a, .tuple b => a.length + b.length ≤ 16777216 ∧ Q (.sh (.tuple (a ++ b)))
  | _, _ => False
theorem gAdd_mono : Mono2 gAdd := fun x y Q Q' h q => by
  unfold gAdd at q ⊢
  split at q
  · exact h _ q
  · exact ⟨q.1, h _ q.2⟩
  · exact ⟨q.1, h _ q.2⟩
  · exact ⟨q.1, h _ q.2⟩
  · exact q.elim
theorem opd_add (hK : X.K = c.K) : OpR X (binaryOp .Add) (rD c gAdd) := by
  intro pins s σ H x y v u Q I rx ry ⟨B, Hs, dx, dy, w, hx, hy, q⟩
  unfold gAdd at q
  split at q
  · cases hx
    cases hy
    exact op_add pins s σ H _ _ v u Q I rx ry ⟨_, _, rfl, rfl, q.dp Stp.refl w (.int _)⟩
  · cases hx
    cases hy
    exact op_add_str pins s σ H _ _ v u Q I rx ry ⟨_, _, rfl, rfl, by rw [← line_eq]; exact q.1, q.2.dp Stp.refl w (.str _)⟩
  · cases hx with
    | lst h1 h2 =>
      cases hy with
      | lst h3 h4 =>
        exact op_cat pins s σ H _ _ v u Q I rx ry ⟨_, _, _, _, rfl, rfl, w.sub _ _ h1, w.sub _ _ h3, by rw [← line_eq, h2.length, h4.length]; exact q.1, fun p hp => q.2.lst Stp.refl w (h2.append h4) hp⟩
  · cases hx with
    | tup h1 h2 =>
      cases hy with
      | tup h3 h4 =>
        refine op_catA pins s σ H _ _ v u Q I rx ry ⟨_, _, _, _, rfl, rfl, by rw [hK]; exact sqT_mono w.sub h1, by rw [hK]; exact sqT_mono w.sub h3, by rw [← line_eq, h2.length, h4.length]; exact q.1, fun e => ?_, fun e e' => ?_, fun e e' p hp => q.2.tup Stp.refl w (h2.append h4) hp⟩
        · subst e
          cases h2
          exact q.2.dp Stp.refl w (.tup h3 h4)
        · subst e'
          cases h4
          have := q.2
          rw [List.append_nil] at this
          exact this.dp Stp.refl w (.tup h1 h2)
  · exact q.elim
/-- two whole numbers -/
def gI (C : Int → Int → Prop) (f : Int → Int → Int) : G2 := fun x y Q => match x, y with
  | .int a, .int b => C a b ∧ Q (.sh (.int (f a b)))
  | _, _ => False
theorem gI_mono {C : Int → Int → Prop} {f : Int → Int → Int} : Mono2 (gI C f) := fun x y Q Q' h q => by
  unfold gI at q ⊢
  split at q
  · exact ⟨q.1, h _ q.2⟩
  · exact q.elim
theorem opd_int {C : Int → Int → Prop} {f : Int → Int → Int} {F : Value → Value → Sem Value} {r : R2} (h : OpR X F r) (hr : ∀ a b H Q, C a b → Q (.int (f a b)) H → r (.int a) (.int b) H Q) : OpR X F (rD c (gI C f)) := by
  intro pins s σ H x y v u Q I rx ry ⟨B, Hs, dx, dy, w, hx, hy, q⟩
  unfold gI at q
  split at q
  · cases hx
    cases hy
    exact h pins s σ H _ _ v u Q I rx ry (hr _ _ _ _ q.1 (q.2.dp Stp.refl w (.int _)))
  · exact q.elim
abbrev C0 : Int → Int → Prop := fun _ _ => True
abbrev gSub : G2 := gI C0 fun a b => a - b
theorem opd_sub : OpR X (binaryOp .Sub) (rD c gSub) := opd_int op_sub fun _ _ _ _ _ q => ⟨_, _, rfl, rfl, q⟩
abbrev gMod : G2 := gI (fun _ b => b ≠ 0) Int.fmod
theorem opd_mod : OpR X (binaryOp .Mod) (rD c gMod) := opd_int op_modN fun _ _ _ _ hc q => ⟨_, _, rfl, rfl, hc, q⟩
abbrev gDiv : G2 := gI CDivN Int.fdiv
theorem opd_div : OpR X (binaryOp .FloorDiv) (rD c gDiv) := opd_int op_fdivN fun _ _ _ _ hc q => ⟨_, _, rfl, rfl, hc, q⟩
abbrev gPow : G2 := gI CPow fun a b => a ^ b.toNat
theorem opd_pow : OpR X (binaryOp .Pow) (rD c gPow) := opd_int op_pow fun _ _ _ _ hc q => ⟨_, _, rfl, rfl, hc, q⟩
abbrev gShl : G2 := gI CPow fun a b => a * 2 ^ b.toNat
theorem opd_shl : OpR X (binaryOp .LShift) (rD c gShl) := opd_int op_shl fun _ _ _ _ hc q => ⟨_, _, rfl, rfl, hc, q⟩
abbrev gShr : G2 := gI (fun _ b => 0 ≤ b) fun a b => a / 2 ^ b.toNat
theorem opd_shr : OpR X (binaryOp .RShift) (rD c gShr) := opd_int op_shr fun _ _ _ _ hc q => ⟨_, _, rfl, rfl, hc, q⟩
abbrev gAnd : G2 := gI C0 Builtin.bitAnd
theorem opd_and : OpR X (binaryOp .BitAnd) (rD c gAnd) := opd_int op_and fun _ _ _ _ _ q => ⟨_, _, rfl, rfl, q⟩
abbrev gOr : G2 := gI C0 Builtin.bitOr
theorem opd_or : OpR X (binaryOp .BitOr) (rD c gOr) := opd_int op_or fun _ _ _ _ _ q => ⟨_, _, rfl, rfl, q⟩
abbrev gXor : G2 := gI C0 Builtin.bitXor
theorem opd_xor : OpR X (binaryOp .BitXor) (rD c gXor) := opd_int op_xor fun _ _ _ _ _ q => ⟨_, _, rfl, rfl, q⟩
/-- a * b: numbers; a list so often; a tuple so often -/
def rep (ds : List D) (k : Int) : List D := (List.replicate k.toNat ds).flatten
def gMul : G2 := fun x y Q => match x, y with
  | .int a, .int b => CMul a b ∧ Q (.sh (.int (a * b)))
  | .list a, .int k => (-(2 ^ 63) ≤ k ∧ k < 2 ^ 63 ∧ a.length * k.toNat ≤ 16777216) ∧ Q (.own (rep a k))
  | .tuple a, .int k => (a ≠ [] ∧ 2 ≤ k ∧ k ≤ 1000 ∧ a.length ≤ 1000) ∧ Q (.sh (.tuple (rep a k)))
  | _, _ => False
theorem gMul_mono : Mono2 gMul := fun x y Q Q' h q => by
  unfold gMul at q ⊢
  split at q
  · exact ⟨q.1, h _ q.2⟩
  · exact ⟨q.1, h _ q.2⟩
  · exact ⟨q.1, h _ q.2⟩
  · exact q.elim
theorem DqAll.rep {K : PySem.W.Frag} {H : Hp} {vs : List V} {ds : List D} (h : DqAll K H vs ds) : ∀ n : Nat, DqAll K H (List.replicate n vs).flatten (List.replicate n ds).flatten
  | 0 => .nil
  | n + 1 => by
    rw [List.replicate_succ, List.replicate_succ, List.flatten_cons, List.flatten_cons]
    exact h.append (DqAll.rep h n)
theorem opd_mul (hK : X.K = c.K) : OpR X (binaryOp .Mult) (rD c gMul) := by
  intro pins s σ H x y v u Q I rx ry ⟨B, Hs, dx, dy, w, hx, hy, q⟩
  unfold gMul at q
  split at q
  · cases hx
    cases hy
    exact op_mul pins s σ H _ _ v u Q I rx ry ⟨_, _, rfl, rfl, q.1, q.2.dp Stp.refl w (.int _)⟩
  · obtain ⟨⟨q1, q2, q3⟩, q⟩ := q
    cases hy
    cases hx with
    | lst h1 h2 =>
      exact op_rep pins s σ H _ _ v u Q I rx ry ⟨_, _, _, rfl, rfl, w.sub _ _ h1, q1, q2, by rw [← line_eq, h2.length]; exact q3, fun p hp => q.lst Stp.refl w (h2.rep _) hp⟩
  · obtain ⟨⟨q1, q2, q3, q4⟩, q⟩ := q
    cases hy
    cases hx with
    | tup h1 h2 =>
      refine op_repT pins s σ H _ _ v u Q I rx ry ⟨_, _, _, rfl, rfl, by rw [hK]; exact sqT_mono w.sub h1, fun e => ?_, q2, q3, by rw [h2.length]; exact q4, fun p hp => q.tup Stp.refl w (h2.rep _) hp⟩
      subst e
      cases h2
      exact q1 rfl
  · exact q.elim
theorem de_neg {a : Expr} {ta : TD} {pos : Pos} (ha : DE c X a ta) : DE c X (.UnaryOp .USub a pos) (fun Γ Q E => ta Γ (fun s => match s with
    | .sh (.int i) => Q (.sh (.int (-i)))
    | _ => False) E) := by
  refine ⟨fun Γ Q Q' E E' h1 h2 q => ha.mono _ _ _ _ _ (fun s q => ?_) h2 q, fun W tk => (pe_un un_neg (ha.run W tk)).imp fun σ H Q ⟨Γ, B, Hs, r, q⟩ => ?_⟩
  · split at q
    · exact h1 _ q
    · exact q.elim
  · refine ⟨Γ, B, Hs, r, ha.mono _ _ _ _ _ (fun s q v Hs1 H1 fp t w vr nw => ?_) (fun _ z => z) q⟩
    split at q
    · obtain ⟨_, d⟩ := vr
      cases d
      exact ⟨_, rfl, q.dp t w (.int _)⟩
    · exact q.elim
/-! ### comparisons -/
def gB (C : Int → Int → Bool) : G2 := fun x y Q => match x, y with
  | .int a, .int b => Q (.sh (.bool (C a b)))
  | _, _ => False
theorem gB_mono {C : Int → Int → Bool} : Mono2 (gB C) := fun x y Q Q' h q => by
  unfold gB at q ⊢
  split at q
  · exact h _ q
  · exact q.elim
theorem opd_b {C : Int → Int → Bool} {F : Value → Value → Sem Value} (h : OpR X F (rI0 fun i j => .bl (C i j))) : OpR X F (rD c (gB C)) := by
  intro pins s σ H x y v u Q I rx ry ⟨B, Hs, dx, dy, w, hx, hy, q⟩
  unfold gB at q
  split at q
  · cases hx
    cases hy
    exact h pins s σ H _ _ v u Q I rx ry ⟨_, _, rfl, rfl, q.dp Stp.refl w (.bl _)⟩
  · exact q.elim
abbrev gLt : G2 := gB fun a b => decide (a < b)
abbrev gLe : G2 := gB fun a b => decide (a ≤ b)
abbrev gGt : G2 := gB fun a b => decide (b < a)
abbrev gGe : G2 := gB fun a b => decide (b ≤ a)
theorem opd_lt : OpR X (compareOp .Lt) (rD c gLt) := opd_b op_lt
theorem opd_le : OpR X (compareOp .LtE) (rD c gLe) := opd_b op_le
theorem opd_gt : OpR X (compareOp .Gt) (rD c gGt) := opd_b op_gt
theorem opd_ge : OpR X (compareOp .GtE) (rD c gGe) := opd_b op_ge
/-- data that the rules of == take -/
abbrev Shp (d : D) : Prop := SeqAt.shaped d = true
def gEq (neg : Bool) : G2 := fun x y Q => Shp x ∧ Shp y ∧ Q (.sh (.bool (PyData.eqv x y != neg)))
theorem gEq_mono {neg : Bool} : Mono2 (gEq neg) := fun x y Q Q' h q => ⟨q.1, q.2.1, h _ q.2.2⟩
theorem opd_eq (hK : X.K = c.K) (hu : X.A.units + 64 < cLine) : OpR X (compareOp .Eq) (rD c (gEq false)) := by
  intro pins s σ H x y v u Q I rx ry ⟨B, Hs, dx, dy, w, hx, hy, q1, q2, q⟩
  refine op_eqD hu pins s σ H x y v u Q I rx ry ⟨dx, dy, by rw [hK]; exact (dq_mono w.sub hx).dp, by rw [hK]; exact (dq_mono w.sub hy).dp, q1, q2, ?_⟩
  rw [Bool.bne_false] at q
  exact q.dp Stp.refl w (.bl _)
theorem opd_ne (hK : X.K = c.K) (hu : X.A.units + 64 < cLine) : OpR X (compareOp .NotEq) (rD c (gEq true)) := by
  intro pins s σ H x y v u Q I rx ry ⟨B, Hs, dx, dy, w, hx, hy, q1, q2, q⟩
  refine op_neD hu pins s σ H x y v u Q I rx ry ⟨dx, dy, by rw [hK]; exact (dq_mono w.sub hx).dp, by rw [hK]; exact (dq_mono w.sub hy).dp, q1, q2, ?_⟩
  rw [Bool.bne_true] at q
  exact q.dp Stp.refl w (.bl _)
/-- x in y: a list, a tuple of data -/
def gIn (neg : Bool) : G2 := fun x y Q => match y with
  | .list ds => Shp x ∧ Shp (.list ds) ∧ Q (.sh (.bool ((ds.any fun z => PyData.eqv z x) != neg)))
  | _ => False
theorem gIn_mono {neg : Bool} : Mono2 (gIn neg) := fun x y Q Q' h q => by
  unfold gIn at q ⊢
  split at q
  · exact ⟨q.1, q.2.1, h _ q.2.2⟩
  · exact q.elim
theorem opd_in (hK : X.K = c.K) (hu : X.A.units + 65 < cLine) : OpR X (compareOp .In) (rD c (gIn false)) := by
  intro pins s σ H x y v u Q I rx ry ⟨B, Hs, dx, dy, w, hx, hy, q⟩
  unfold gIn at q
  split at q
  · obtain ⟨q1, q2, q⟩ := q
    refine op_inD hu pins s σ H x y v u Q I rx ry ⟨dx, _, by rw [hK]; exact (dq_mono w.sub hx).dp, by rw [hK]; exact (dq_mono w.sub hy).dp, q1, q2, ?_⟩
    rw [Bool.bne_false] at q
    exact q.dp Stp.refl w (.bl _)
  · exact q.elim
theorem opd_notIn (hK : X.K = c.K) (hu : X.A.units + 65 < cLine) : OpR X (compareOp .NotIn) (rD c (gIn true)) := by
  intro pins s σ H x y v u Q I rx ry ⟨B, Hs, dx, dy, w, hx, hy, q⟩
  unfold gIn at q
  split at q
  · obtain ⟨q1, q2, q⟩ := q
    refine op_notInD hu pins s σ H x y v u Q I rx ry ⟨dx, _, by rw [hK]; exact (dq_mono w.sub hx).dp, by rw [hK]; exact (dq_mono w.sub hy).dp, q1, q2, ?_⟩
    rw [Bool.bne_true] at q
    exact q.dp Stp.refl w (.bl _)
  · exact q.elim
/-- x in a written tuple of whole numbers, x one -/
def gInT (neg : Bool) : G2 := fun x y Q => match x, y with
  | .int i, .tuple ds => ∃ ns : List Int, ds = ns.map PyData.int ∧ Q (.sh (.bool ((ns.any fun z => z == i) != neg)))
  | _, _ => False
/-- is None -/
def gIsN (neg : Bool) : G2 := fun x y Q => match x, y with
  | .none, .none => Q (.sh (.bool (true != neg)))
  | _, .none => Q (.sh (.bool (false != neg)))
  | _, _ => False
theorem gIsN_mono {neg : Bool} : Mono2 (gIsN neg) := fun x y Q Q' h q => by
  unfold gIsN at q ⊢
  split at q
  · exact h _ q
  · exact h _ q
  · exact q.elim
theorem opd_isN : OpR X (compareOp .Is) (rD c (gIsN false)) := by
  intro pins s σ H x y v u Q I rx ry ⟨B, Hs, dx, dy, w, hx, hy, q⟩
  unfold gIsN at q
  split at q
  · cases hx
    cases hy
    exact op_isN pins s σ H _ _ v u Q I rx ry ⟨rfl, q.dp Stp.refl w (.bl _)⟩
  · rename_i hn
    cases hy
    refine op_isN pins s σ H _ _ v u Q I rx ry ⟨rfl, ?_⟩
    have e : decide (x = V.non) = false := by
      refine decide_eq_false fun e => ?_
      subst e
      cases hx
      exact hn rfl
    rw [e]
    exact q.dp Stp.refl w (.bl _)
  · exact q.elim
theorem opd_notN : OpR X (compareOp .IsNot) (rD c (gIsN true)) := by
  intro pins s σ H x y v u Q I rx ry ⟨B, Hs, dx, dy, w, hx, hy, q⟩
  unfold gIsN at q
  split at q
  · cases hx
    cases hy
    exact op_notN pins s σ H _ _ v u Q I rx ry ⟨rfl, q.dp Stp.refl w (.bl _)⟩
  · rename_i hn
    cases hy
    refine op_notN pins s σ H _ _ v u Q I rx ry ⟨rfl, ?_⟩
    have e : decide (x = V.non) = false := by
      refine decide_eq_false fun e => ?_
      subst e
      cases hx
      exact hn rfl
    rw [e]
    exact q.dp Stp.refl w (.bl _)
  · exact q.elim
/-! ### items, slices -/
def gIx : G2 := fun x y Q => match x, y with
  | .list ds, .int i => ∃ d, atI ds i = some d ∧ Q (.sh d)
  | .tuple ds, .int i => ∃ d, atI ds i = some d ∧ Q (.sh d)
  | .str z, .int i => z.length ≤ 16777216 ∧ ∃ k, atI z.cps.toList i = some k ∧ Q (.sh (.str ⟨#[k]⟩))
  | _, _ => False
theorem gIx_mono : Mono2 gIx := fun x y Q Q' h q => by
  unfold gIx at q ⊢
  split at q
  · obtain ⟨d, e, q⟩ := q
    exact ⟨d, e, h _ q⟩
  · obtain ⟨d, e, q⟩ := q
    exact ⟨d, e, h _ q⟩
  · obtain ⟨q0, d, e, q⟩ := q
    exact ⟨q0, d, e, h _ q⟩
  · exact q.elim
theorem DqAll.at {K : PySem.W.Frag} {H : Hp} {vs : List V} {ds : List D} {i : Int} {d : D} (h : DqAll K H vs ds) (e : atI ds i = some d) : ∃ v, atI vs i = some v ∧ Dq K H v d := by
  unfold atI at e ⊢
  rw [h.length]
  cases q : ixN ds.length i with
  | none => rw [q] at e; cases e
  | some j =>
    rw [q] at e
    exact h.get e
theorem ixd (hK : X.K = c.K) : IxR X (rD c gIx) := by
  intro value slice pins s σ H x y v u Q I rx ry ⟨B, Hs, dx, dy, w, hx, hy, q⟩ hs
  unfold gIx at q
  split at q
  · obtain ⟨d, e, q⟩ := q
    cases hy
    cases hx with
    | lst h1 h2 =>
      obtain ⟨z, e1, e2⟩ := h2.at e
      exact ix_list value slice pins s σ H _ _ v u Q I rx ry ⟨_, _, _, z, rfl, rfl, SqL.of (w.sub _ _ h1), e1, q.dp Stp.refl w e2⟩ hs
  · obtain ⟨d, e, q⟩ := q
    cases hy
    cases hx with
    | tup h1 h2 =>
      obtain ⟨z, e1, e2⟩ := h2.at e
      exact ix_tup value slice pins s σ H _ _ v u Q I rx ry ⟨_, _, _, z, rfl, rfl, by rw [hK]; exact sqT_mono w.sub h1, e1, q.dp Stp.refl w e2⟩ hs
  · obtain ⟨q0, k, e, q⟩ := q
    cases hy
    cases hx
    exact ix_str value slice pins s σ H _ _ v u Q I rx ry ⟨_, _, k, rfl, rfl, by rw [← line_eq]; exact q0, e, q.dp Stp.refl w (.str _)⟩ hs
  · exact q.elim
/-- what a slice cuts -/
def cutD (ds : List D) (lo hi : Option Int) : List D := (ds.drop (HT.sIx ds.length 0 lo)).take (HT.sIx ds.length ds.length hi - HT.sIx ds.length 0 lo)
theorem DqAll.cut {K : PySem.W.Frag} {H : Hp} {vs : List V} {ds : List D} (h : DqAll K H vs ds) (lo hi : Option Int) : DqAll K H (cutV vs lo hi) (cutD ds lo hi) := by
  unfold cutV cutD
  rw [h.length]
  exact (h.drop _).take _
theorem cut_all {n : Nat} {ds : List D} {lo hi : Option Int} (h : n = ds.length) (e1 : HT.sIx n 0 lo = 0) (e2 : HT.sIx n n hi = n) : cutD ds lo hi = ds := by
  subst h
  unfold cutD
  rw [e1, e2, Nat.sub_zero, List.drop_zero, List.take_length]
abbrev G3 := D → Option Int → Option Int → SK → Prop
def gSl : G3 := fun x lo hi Q => match x with
  | .list ds => Q (.own (cutD ds lo hi))
  | .tuple ds => Q (.sh (.tuple (cutD ds lo hi)))
  | .str z => z.length ≤ 16777216 ∧ Q (.sh (.str (cutS z lo hi)))
  | _ => False
theorem gSl_mono {x : D} {lo hi : Option Int} {Q Q' : SK} (h : ∀ s, Q s → Q' s) (q : gSl x lo hi Q) : gSl x lo hi Q' := by
  unfold gSl at q ⊢
  split at q
  · exact h _ q
  · exact h _ q
  · exact ⟨q.1, h _ q.2⟩
  · exact q.elim
abbrev TDo := Env' → (Option Int → Prop) → EK → Prop
def dNoP : TDo := fun _ Q _ => Q none
def dPt (t : TD) : TDo := fun Γ Q E => t Γ (fun s => match s with
  | .sh (.int i) => Q (some i)
  | _ => False) E
structure DO (c : Gd) (X : Cx) (e : Option Expr) (t : TDo) : Prop where
  mono : ∀ (Γ : Env') (Q Q' : Option Int → Prop) (E E' : EK), (∀ s, Q s → Q' s) → (∀ x, E x → E' x) → t Γ Q E → t Γ Q' E'
  run : ∀ W, Takes X W → PO X e (fun σ H Q => ∃ (Γ : Env') (B : AS) (Hs : Hp), Rel c Γ σ B Hs H ∧ t Γ (fun o => ∀ (Hs' H' : Hp), Stp B Hs H Hs' H' → WS B Hs' H' → Q o H') (Exf c W σ B Hs H))
theorem _root_.L2.PO.imp {X : Cx} {e : Option Expr} {t u : TO} (h : PO X e t) (i : ∀ σ H Q, u σ H Q → t σ H Q) : PO X e u := ⟨fun pins s σ H Q I q => h.run pins s σ H Q I (i _ _ _ q)⟩
theorem do_none : DO c X none dNoP := ⟨fun _ _ _ _ _ h _ q => h _ q, fun W tk => po_none.imp fun σ H Q ⟨Γ, B, Hs, r, q⟩ => q Hs H Stp.refl r.ws⟩
theorem do_some {e : Expr} {t : TD} (h : DE c X e t) : DO c X (some e) (dPt t) := by
  refine ⟨fun Γ Q Q' E E' h1 h2 q => h.mono _ _ _ _ _ (fun s q => ?_) h2 q, fun W tk => (po_some (h.run W tk)).imp fun σ H Q ⟨Γ, B, Hs, r, q⟩ => ?_⟩
  · split at q
    · exact h1 _ q
    · exact q.elim
  · refine ⟨Γ, B, Hs, r, h.mono _ _ _ _ _ (fun s q v Hs1 H1 fp t w vr nw => ?_) (fun _ z => z) q⟩
    split at q
    · obtain ⟨_, d⟩ := vr
      cases d
      exact ⟨_, rfl, q Hs1 H1 t w⟩
    · exact q.elim
def dSl (te : TD) (tl th : TDo) : TD := fun Γ Q E => te Γ (fun s => asD s fun x => tl Γ (fun lo => th Γ (fun hi => gSl x lo hi Q) E) E) E
theorem sl_any : SlR X (fun x lo hi H Q => rSlL X.K x lo hi H Q ∨ rSlA X.K x lo hi H Q ∨ rSlS x lo hi H Q) := sl_list.or (sl_tupA.or sl_str)
theorem de_slice {e : Expr} {lo hi : Option Expr} {te : TD} {tl th : TDo} {pos p2 : Pos} (he : DE c X e te) (hl : DO c X lo tl) (hh : DO c X hi th) (hK : X.K = c.K := by rfl) : DE c X (.Subscript e (.Slice lo hi none p2) pos) (dSl te tl th) := by
  refine ⟨fun Γ Q Q' E E' h1 h2 q => he.mono _ _ _ _ _ (fun s q => asD_mono (fun x q => hl.mono _ _ _ _ _ (fun lo q => hh.mono _ _ _ _ _ (fun hi q => gSl_mono h1 q) h2 q) h2 q) q) h2 q,
    fun W tk => (pe_slice sl_any (he.run W tk) (hl.run W tk) (hh.run W tk)).imp fun σ H Q ⟨Γ, B, Hs, r, q⟩ => ?_⟩
  refine ⟨Γ, B, Hs, r, he.mono _ _ _ _ _ (fun s q v Hs1 H1 fp t w vr nw => ?_) (fun _ z => z) q⟩
  obtain ⟨Hs2, s2, w2, v2, n2⟩ := vr.nrm w
  obtain ⟨d, e, q⟩ := asD_nrm q
  rw [e] at v2
  have t2 : Stp B Hs H Hs2 H1 := t.close s2 fun a h1 h2 => nw a (n2 a h1 h2)
  refine ⟨Γ, B, Hs2, r.step t2 w2, hl.mono _ _ _ _ _ (fun lo q Hs3 H3 t3 w3 => ?_) (fun x z => z.on t2) q⟩
  refine ⟨Γ, B, Hs3, r.step (t2.trans t3) w3, hh.mono _ _ _ _ _ (fun hi q Hs4 H4 t4 w4 => ?_) (fun x z => z.on (t2.trans t3)) q⟩
  have t5 := (t2.trans t3).trans t4
  have dv := dq_mono (t3.trans t4).hs v2.2
  unfold gSl at q
  split at q
  · cases dv with
    | lst h1 h2 => exact .inl ⟨_, _, rfl, SqL.of (w4.sub _ _ h1), fun p hp => q.lst t5 w4 (h2.cut _ _) hp⟩
  · cases dv with
    | tup h1 h2 =>
      refine .inr (.inl ⟨_, _, rfl, by rw [hK]; exact sqT_mono w4.sub h1, fun ⟨e1, e2⟩ => ?_, fun _ p hp => q.tup t5 w4 (h2.cut _ _) hp⟩)
      refine q.dp t5 w4 ?_
      rw [cut_all h2.length e1 e2]
      exact .tup h1 h2
  · cases dv
    exact .inr (.inr ⟨_, rfl, by rw [← line_eq]; exact q.1, q.2.dp t5 w4 (.str _)⟩)
  · exact q.elim
end

section
variable {c : Gd} {X : Cx}
/-! ### built-in functions by data -/
def g1 (f : D → SK → Prop) : G1 := fun ds Q => match ds with
  | [d] => f d Q
  | _ => False
theorem g1_mono {f : D → SK → Prop} (h : ∀ d Q Q', (∀ s, Q s → Q' s) → f d Q → f d Q') : Mono1 (g1 f) := fun ds Q Q' hq q => by
  unfold g1 at q ⊢
  split at q
  · exact h _ _ _ hq q
  · exact q.elim
/-- one argument -/
theorem callD1 {F : Value} {r : List V → Hp → VK → Prop} {f : D → SK → Prop} (h : CallR X F r) (hr : ∀ B Hs H Q v d, WS B Hs H → Dq c.K Hs v d → f d (Aft c B Hs H Q) → r [v] H Q) : CallR X F (rC c (g1 f)) := by
  intro pins s σ H vs us Q I rv ⟨B, Hs, ds, w, hd, q⟩
  unfold g1 at q
  split at q
  · cases hd with
    | cons h1 h2 =>
      cases h2
      exact h pins s σ H _ us Q I rv (hr _ _ _ _ _ _ w h1 q)
  · exact q.elim
def fLen (d : D) (Q : SK) : Prop := match d with
  | .list ds => Q (.sh (.int ds.length))
  | .tuple ds => Q (.sh (.int ds.length))
  | .str x => x.length ≤ 16777216 ∧ Q (.sh (.int x.length))
  | _ => False
theorem fLen_mono (d : D) (Q Q' : SK) (h : ∀ s, Q s → Q' s) (q : fLen d Q) : fLen d Q' := by
  unfold fLen at q ⊢
  split at q
  · exact h _ q
  · exact h _ q
  · exact ⟨q.1, h _ q.2⟩
  · exact q.elim
theorem cd_len (hK : X.K = c.K) : CallR X (.builtin "len") (rC c (g1 fLen)) := callD1 call_len fun B Hs H Q v d w hd q => by
  unfold fLen at q
  split at q
  · cases hd with
    | lst h1 h2 => exact ⟨_, _, rfl, .inl ⟨_, SqL.of (w.sub _ _ h1), rfl⟩, by rw [h2.length]; exact q.dp Stp.refl w (.int _)⟩
  · cases hd with
    | tup h1 h2 => exact ⟨_, _, rfl, .inr ⟨_, by rw [hK]; exact sqT_mono w.sub h1, rfl⟩, by rw [h2.length]; exact q.dp Stp.refl w (.int _)⟩
  · cases hd
    exact ⟨_, _, rfl, ⟨by rw [← line_eq]; exact q.1, rfl⟩, q.2.dp Stp.refl w (.int _)⟩
  · exact q.elim
def fSeq (f : List D → SK → Prop) (d : D) (Q : SK) : Prop := match d with
  | .list ds => f ds Q
  | .tuple ds => f ds Q
  | _ => False
theorem fSeq_mono {f : List D → SK → Prop} (hf : ∀ d Q Q', (∀ s, Q s → Q' s) → f d Q → f d Q') (d : D) (Q Q' : SK) (h : ∀ s, Q s → Q' s) (q : fSeq f d Q) : fSeq f d Q' := by
  unfold fSeq at q ⊢
  split at q
  · exact hf _ _ _ h q
  · exact hf _ _ _ h q
  · exact q.elim
def fTuple : D → SK → Prop := fSeq fun ds Q => Q (.sh (.tuple ds))
def fList : D → SK → Prop := fSeq fun ds Q => Q (.own ds)
theorem cd_tuple (hK : X.K = c.K) : CallR X (.type "tuple") (rC c (g1 fTuple)) := callD1 call_tuple_of fun B Hs H Q v d w hd q => by
  unfold fTuple fSeq at q
  split at q
  · cases hd with
    | lst h1 h2 => exact ⟨_, _, rfl, .inl ⟨SqL.of (w.sub _ _ h1), fun l hl => q.tup Stp.refl w h2 hl⟩⟩
  · cases hd with
    | tup h1 h2 => exact ⟨_, _, rfl, .inr ⟨by rw [hK]; exact sqT_mono w.sub h1, q.dp Stp.refl w (.tup h1 h2)⟩⟩
  · exact q.elim
theorem cd_list (hK : X.K = c.K) : CallR X (.type "list") (rC c (g1 fList)) := callD1 call_list_of fun B Hs H Q v d w hd q => by
  unfold fList fSeq at q
  split at q
  · cases hd with
    | lst h1 h2 => exact ⟨_, _, rfl, .inl (SqL.of (w.sub _ _ h1)), fun l hl => q.lst Stp.refl w h2 hl⟩
  · cases hd with
    | tup h1 h2 => exact ⟨_, _, rfl, .inr (by rw [hK]; exact sqT_mono w.sub h1), fun l hl => q.lst Stp.refl w h2 hl⟩
  · exact q.elim
/-- int(n), int(flag); str(n); abs(n) -/
def fInt (d : D) (Q : SK) : Prop := match d with
  | .int i => Q (.sh (.int i))
  | .bool b => Q (.sh (.int (if b then 1 else 0)))
  | _ => False
theorem fInt_mono (d : D) (Q Q' : SK) (h : ∀ s, Q s → Q' s) (q : fInt d Q) : fInt d Q' := by
  unfold fInt at q ⊢
  split at q
  · exact h _ q
  · exact h _ q
  · exact q.elim
theorem cd_int : CallR X (.type "int") (rC c (g1 fInt)) := callD1 call_int1 fun B Hs H Q v d w hd q => by
  unfold fInt at q
  split at q
  · cases hd
    exact .inl ⟨_, rfl, q.dp Stp.refl w (.int _)⟩
  · cases hd
    exact .inr ⟨_, rfl, q.dp Stp.refl w (.int _)⟩
  · exact q.elim
def fStrI (d : D) (Q : SK) : Prop := match d with
  | .int i => i.natAbs.log2 < 1920 ∧ Q (.sh (.str (toString i)))
  | _ => False
theorem fStrI_mono (d : D) (Q Q' : SK) (h : ∀ s, Q s → Q' s) (q : fStrI d Q) : fStrI d Q' := by
  unfold fStrI at q ⊢
  split at q
  · exact ⟨q.1, h _ q.2⟩
  · exact q.elim
theorem cd_strI : CallR X (.type "str") (rC c (g1 fStrI)) := callD1 call_str_int fun B Hs H Q v d w hd q => by
  unfold fStrI at q
  split at q
  · cases hd
    exact ⟨_, rfl, q.1, q.2.dp Stp.refl w (.str _)⟩
  · exact q.elim
def fAbs (d : D) (Q : SK) : Prop := match d with
  | .int i => Q (.sh (.int (if i < 0 then -i else i)))
  | _ => False
theorem fAbs_mono (d : D) (Q Q' : SK) (h : ∀ s, Q s → Q' s) (q : fAbs d Q) : fAbs d Q' := by
  unfold fAbs at q ⊢
  split at q
  · exact h _ q
  · exact q.elim
theorem cd_abs : CallR X (.builtin "abs") (rC c (g1 fAbs)) := callD1 call_abs fun B Hs H Q v d w hd q => by
  unfold fAbs at q
  split at q
  · cases hd
    exact ⟨_, rfl, q.dp Stp.refl w (.int _)⟩
  · exact q.elim
/-- the truths of a list -/
def bools : List D → Option (List Bool)
  | [] => some []
  | .bool b :: ds => (bools ds).map (b :: ·)
  | _ => none
theorem bools_vals {K : PySem.W.Frag} {H : Hp} : ∀ {vs : List V} {ds : List D} {bs : List Bool}, DqAll K H vs ds → bools ds = some bs → vs = bs.map V.bl
  | _, [], bs, .nil, e => by cases e; rfl
  | _, .bool b :: ds, bs, .cons h t, e => by
    unfold bools at e
    obtain ⟨cs, e1, e2⟩ := Option.map_eq_some_iff.mp e
    subst e2
    cases h
    rw [List.map_cons, bools_vals t e1]
def fBools (f : List Bool → Bool) (d : D) (Q : SK) : Prop := match d with
  | .list ds => ∃ bs, bools ds = some bs ∧ Q (.sh (.bool (f bs)))
  | _ => False
theorem fBools_mono {f : List Bool → Bool} (d : D) (Q Q' : SK) (h : ∀ s, Q s → Q' s) (q : fBools f d Q) : fBools f d Q' := by
  unfold fBools at q ⊢
  split at q
  · obtain ⟨bs, e, q⟩ := q
    exact ⟨bs, e, h _ q⟩
  · exact q.elim
theorem cd_all (hc : X.calm = true) : CallR X (.builtin "all") (rC c (g1 (fBools fun bs => bs.all id))) := callD1 (cr_all hc) fun B Hs H Q v d w hd q => by
  unfold fBools at q
  split at q
  · obtain ⟨bs, e, q⟩ := q
    cases hd with
    | lst h1 h2 => exact ⟨_, bs, rfl, SqL.of (by rw [← bools_vals h2 e]; exact w.sub _ _ h1), q.dp Stp.refl w (.bl _)⟩
  · exact q.elim
theorem cd_any (hc : X.calm = true) : CallR X (.builtin "any") (rC c (g1 (fBools fun bs => bs.any id))) := callD1 (cr_any hc) fun B Hs H Q v d w hd q => by
  unfold fBools at q
  split at q
  · obtain ⟨bs, e, q⟩ := q
    cases hd with
    | lst h1 h2 => exact ⟨_, bs, rfl, SqL.of (by rw [← bools_vals h2 e]; exact w.sub _ _ h1), q.dp Stp.refl w (.bl _)⟩
  · exact q.elim
/-- the numbers of a list -/
def intsOf : List D → Option (List Int)
  | [] => some []
  | .int b :: ds => (intsOf ds).map (b :: ·)
  | _ => none
theorem intsOf_vals {K : PySem.W.Frag} {H : Hp} : ∀ {vs : List V} {ds : List D} {bs : List Int}, DqAll K H vs ds → intsOf ds = some bs → vs = bs.map V.int
  | _, [], bs, .nil, e => by cases e; rfl
  | _, .int b :: ds, bs, .cons h t, e => by
    unfold intsOf at e
    obtain ⟨cs, e1, e2⟩ := Option.map_eq_some_iff.mp e
    subst e2
    cases h
    rw [List.map_cons, intsOf_vals t e1]
def fSum (d : D) (Q : SK) : Prop := match d with
  | .list ds => ∃ bs, intsOf ds = some bs ∧ Q (.sh (.int bs.sum))
  | _ => False
theorem fSum_mono (d : D) (Q Q' : SK) (h : ∀ s, Q s → Q' s) (q : fSum d Q) : fSum d Q' := by
  unfold fSum at q ⊢
  split at q
  · obtain ⟨bs, e, q⟩ := q
    exact ⟨bs, e, h _ q⟩
  · exact q.elim
theorem cd_sum (hc : X.calm = true) : CallR X (.builtin "sum") (rC c (g1 fSum)) := callD1 (cr_sum hc) fun B Hs H Q v d w hd q => by
  unfold fSum at q
  split at q
  · obtain ⟨bs, e, q⟩ := q
    cases hd with
    | lst h1 h2 => exact ⟨_, bs, rfl, SqL.of (by rw [← intsOf_vals h2 e]; exact w.sub _ _ h1), q.dp Stp.refl w (.int _)⟩
  · exact q.elim
/-- max(a, b), min(a, b) -/
def g2i (f : Int → Int → Int) : G1 := fun ds Q => match ds with
  | [.int a, .int b] => Q (.sh (.int (f a b)))
  | _ => False
theorem g2i_mono {f : Int → Int → Int} : Mono1 (g2i f) := fun ds Q Q' h q => by
  unfold g2i at q ⊢
  split at q
  · exact h _ q
  · exact q.elim
theorem cd_max2 (hc : X.calm = true) : CallR X (.builtin "max") (rC c (g2i fun i j => if j > i then j else i)) := by
  intro pins s σ H vs us Q I rv ⟨B, Hs, ds, w, hd, q⟩
  unfold g2i at q
  split at q
  · cases hd with
    | cons h1 h2 =>
      cases h2 with
      | cons h2 h3 =>
        cases h1
        cases h2
        cases h3
        exact call_max2 hc pins s σ H _ us Q I rv ⟨_, _, rfl, q.dp Stp.refl w (.int _)⟩
  · exact q.elim
theorem cd_min2 (hc : X.calm = true) : CallR X (.builtin "min") (rC c (g2i fun i j => if j < i then j else i)) := by
  intro pins s σ H vs us Q I rv ⟨B, Hs, ds, w, hd, q⟩
  unfold g2i at q
  split at q
  · cases hd with
    | cons h1 h2 =>
      cases h2 with
      | cons h2 h3 =>
        cases h1
        cases h2
        cases h3
        exact call_min2 hc pins s σ H _ us Q I rv ⟨_, _, rfl, q.dp Stp.refl w (.int _)⟩
  · exact q.elim
/-! ### isinstance(x, T), T a built-in type -/
def tyOf : D → String
  | .none => "NoneType"
  | .bool _ => "bool"
  | .int _ => "int"
  | .str _ => "str"
  | .list _ => "list"
  | .tuple _ => "tuple"
  | .dict _ => "dict"
theorem Dq.ty {K : PySem.W.Frag} {Hs H : Hp} {v : V} {d : D} (h : Dq K Hs v d) (sub : Sub Hs H) : TyX K H v (.type (tyOf d)) := by
  cases h with
  | non => exact .base .non
  | bl b => exact .base (.bl b)
  | int i => exact .base (.int i)
  | str x => exact .base (.str x)
  | lst h1 h2 => exact .base (.lst (sub _ _ h1))
  | tup h1 h2 =>
    rcases h1 with (h | ⟨o, h⟩) | ⟨o, its, n, h, hc, _⟩
    · exact .base (.tup (sub _ _ h))
    · exact .fTuple (sub _ _ h)
    · exact .kTuple h hc
/-- isinstance's answer, where the kit's decider gives one -/
def dIsi (T : String) (te : TD) : TD := fun Γ Q E => te Γ (fun s => asD s fun d => ∃ b, kitB (tyOf d) T = some b ∧ Q (.sh (.bool b))) E
theorem de_isi {T : String} {e : Expr} {te : TD} {x : Str} {p p2 pos : Pos} (he : DE c X e te) (hg : Gl X "isinstance") (hm : X.mg "isinstance" = none) (hg2 : Gl X x) (hm2 : X.mg x = none) (hv : bootBuiltins x = some (.type T)) (hK : X.K = c.K := by rfl) (hn : x ≠ "__name__" := by decide) (hd : (x == ("__debug__" : Str)) = false := by decide)
    (hs1 : starEach [e, .Name x p2] X.env = (false, eval e X.env) :: starEach [.Name x p2] X.env := by rfl) (hs2 : starEach [.Name x p2] X.env = [(false, eval (.Name x p2) X.env)] := by rfl) (hpl : (backTo pos (starEach [.Name x p2] X.env)).any (·.1) = false := by rfl) :
    DE c X (.Call (.Name "isinstance" p) [e, .Name x p2] [] pos) (dIsi T te) := by
  refine ⟨fun Γ Q Q' E E' h1 h2 q => he.mono _ _ _ _ _ (fun s q => asD_mono (fun d ⟨b, e, q⟩ => ⟨b, e, h1 _ q⟩) q) h2 q, fun W tk => ?_⟩
  have hT : PE X (.Name x p2) (tC (.ty T)) := pe_bltn hg2 hm2 hv rfl hn hd
  refine (pe_callB call_isi hg hm boot_isinstance (pa_cons (he.run W tk) (pa_cons hT pa_nil hs2) hs1) (by decide) (by decide) hs1 hpl).imp fun σ H Q ⟨Γ, B, Hs, r, q⟩ => ?_
  refine ⟨Γ, B, Hs, r, he.mono _ _ _ _ _ (fun s q v Hs1 H1 fp t w vr nw => ?_) (fun _ z => z) q⟩
  obtain ⟨Hs2, s2, w2, v2, n2⟩ := vr.nrm w
  obtain ⟨d, e, b, eb, q⟩ := asD_nrm q
  rw [e] at v2
  have t2 : Stp B Hs H Hs2 H1 := t.close s2 fun a h1 h2 => nw a (n2 a h1 h2)
  exact ⟨v, .ty T, _, _, b, rfl, .ty T, by rw [hK]; exact v2.2.ty w2.sub, kit_ty eb, q.dp t2 w2 (.bl b)⟩
/-! ### a list of one's own, changed -/
theorem own_tyV {K : PySem.W.Frag} {H : Hp} {p : Addr} {vs : List V} (h : H p = some (.lst vs)) : tyV K "list" (.ref p) H := .inl ⟨rfl, _, SqL.of h⟩
theorem Rel.closeVal {Γ : Env'} {σ : L2.St} {B : AS} {Hs H Hs1 H1 : Hp} {v : V} {s : Slot} {fp : List Addr} {k : D → Prop} (r : Rel c Γ σ B Hs H) (t : Stp B Hs H Hs1 H1) (w : WS B Hs1 H1) (vr : VR c.K B Hs1 H1 v s fp) (nw : ∀ a ∈ fp, H a = none) (q : asD s k) :
    ∃ d Hs2, Rel c Γ σ B Hs2 H1 ∧ Sub Hs Hs2 ∧ Dq c.K Hs2 v d ∧ k d := by
  obtain ⟨Hs2, s2, w2, v2, n2⟩ := vr.nrm w
  obtain ⟨d, e, q⟩ := asD_nrm q
  rw [e] at v2
  have t2 : Stp B Hs H Hs2 H1 := t.close s2 fun a h1 h2 => nw a (n2 a h1 h2)
  exact ⟨d, Hs2, r.step t2 w2, t2.hs, v2.2, q⟩
/-- a method that changes its list alone: g tells, of the list and the arguments, the list behind it -/
abbrev GM := List D → List D → (List D → Prop) → Prop
def dMeth (i : Nat) (g : GM) (ta : TDa) : TSd := fun U Γ => match Γ[i]? with
  | some (.own xs) => ta Γ (fun ss => asDs ss fun ds => g xs ds fun ys => U.nx (Γ.set i (.own ys))) U.ex
  | _ => False
def MonoM (g : GM) : Prop := ∀ xs ds Q Q', (∀ ys, Q ys → Q' ys) → g xs ds Q → g xs ds Q'
theorem dMeth_mono {i : Nat} {g : GM} {ta : TDa} (hg : MonoM g) (ha : MonoA ta) : MonoS (dMeth i g ta) := fun U U' Γ l q => by
  unfold dMeth at q ⊢
  split at q
  · exact ha _ _ _ _ _ (fun ss q => asDs_mono (fun ds q => hg _ _ _ _ (fun ys q => l.nx _ q) q) q) l.ex q
  · exact q.elim
/-- .. by the layer's rule r of the method -/
def MethOk (K : PySem.W.Frag) (r : V → List V → Hp → VK → Prop) (g : GM) : Prop := ∀ (Hs H : Hp) (p : Addr) (ws vs : List V) (xs ds : List D) (Q : VK) (R : List D → Prop), Sub Hs H → H p = some (.lst ws) → DqAll K Hs ws xs → DqAll K Hs vs ds → g xs ds R →
  (∀ zs ys v, DqAll K Hs zs ys → R ys → Q v (upd H p (.lst zs))) → r (.ref p) vs H Q
theorem meth_core {W : WX} {i : Nat} {g : GM} {ta : TDa} {r : V → List V → Hp → VK → Prop} {σ : L2.St} {H : Hp} {D : Ends} (hr : MethOk c.K r g) (hg : MonoM g) (ha : MonoA ta) (hl : ∀ Γ Q E, ta Γ Q E → ta Γ (fun ss => Q ss) E) (h : lS c W (dMeth i g ta) D σ H) :
    tDrop (tBM X.K "list" r (tVar i) (lA c W ta)) D σ H := by
  obtain ⟨Γ, B, Hs, rr, q⟩ := h
  unfold dMeth at q
  split at q
  · rename_i xs e
    obtain ⟨p, vs, e1, e2, e3, e4⟩ := rr.mut (es := xs) e
    refine ⟨.ref p, e1, own_tyV e2, Γ, B, Hs, rr, ha _ _ _ _ _ (fun ss q us Hs1 H1 fp t w vr nw => ?_) (fun x z => z.exf rr) q⟩
    obtain ⟨Hs2, s2, w2, v2, n2⟩ := vr.nrm w
    obtain ⟨ds, d2, q⟩ := v2.data q
    have t2 : Stp B Hs H Hs2 H1 := t.close s2 fun a h1 h2 => nw a (n2 a h1 h2)
    have r2 := rr.step t2 w2
    obtain ⟨p', vs', f1, f2, f3, f4⟩ := r2.mut (es := xs) e
    rw [e1] at f1
    cases f1
    refine hr Hs2 H1 p vs' us xs ds _ _ w2.sub f2 f3 d2 q fun zs ys v dz qy => ?_
    obtain ⟨p'', vs'', g1, g2, g3, g4⟩ := r2.mut (es := ys) e
    rw [e1] at g1
    cases g1
    exact qy σ B Hs2 _ t2.hs (g4 zs dz)
  · exact q.elim
theorem ds_meth (i : Nat) {x name : Str} {id : String} {g : GM} {r : V → List V → Hp → VK → Prop} {e : Expr} {es : List Expr} {ta : TDa} {p apos cpos pos : Pos} (slot : PySem.Slot "list" name id) (hty : typeOf (.builtin id) = pure (.type "method_descriptor")) (hm : MtR X id r) (hr : MethOk c.K r g) (hg : MonoM g)
    (ha : DA c X (e :: es) ta) (hN : X.N[i]? = some x := by rfl) (hv : Vis X.env.scope x := by first | exact Or.inl rfl | exact Or.inr (Or.inl rfl) | exact Or.inr (Or.inr rfl))
    (hd : (x == ("__debug__" : Str)) = false := by decide) (hcd : (x == ("__classdict__" : Str)) = false := by decide)
    (hbase : attributeBase (.Name x p) name X.env (eval (.Name x p) X.env) = eval (.Name x p) X.env := by rfl)
    (hfew : ((backTo cpos (starEach (e :: es) X.env)).all (fun x => !x.1) && (backToKw cpos (keywordEach [] X.env)).all (fun x => x.1.isSome) && decide ((e :: es).length + ([] : List Keyword).length + (if ([] : List Keyword).isEmpty then 0 else 1) < 30)) = true := by rfl)
    (hline : (apos.endLine == cpos.line) = true := by rfl) (hs : starEach (e :: es) X.env = (false, eval e X.env) :: starEach es X.env := by rfl) (hplain : (backTo cpos (starEach es X.env)).any (·.1) = false := by rfl)
    (hsw : swapsWith (.Call (.Attribute (.Name x p) name apos) (e :: es) [] cpos) none pos.line X.env = pure false := by rfl) :
    DS c X (.Expr (.Call (.Attribute (.Name x p) name apos) (e :: es) [] cpos) pos) (dMeth i g ta) :=
  ⟨dMeth_mono hg ha.mono, fun W tk => (ps_expr (pe_bm PySem.F.plainAttrs_list slot hty hm (pe_var hN hv hd hcd) (ha.run W tk) hbase hfew hline hs hplain) hsw).imp fun D σ H h => meth_core hr hg ha.mono (fun _ _ _ q => q) h⟩
def mAppend : GM := fun xs ds R => match ds with
  | [d] => xs.length < 16777216 ∧ R (xs ++ [d])
  | _ => False
theorem mAppend_mono : MonoM mAppend := fun xs ds Q Q' h q => by
  unfold mAppend at q ⊢
  split at q
  · exact ⟨q.1, h _ q.2⟩
  · exact q.elim
theorem mAppend_ok {K : PySem.W.Frag} : MethOk K rAppend mAppend := fun Hs H p ws vs xs ds Q R sub hp dw dv q h => by
  unfold mAppend at q
  split at q
  · cases dv with
    | cons h1 h2 =>
      cases h2
      exact ⟨p, ws, _, rfl, rfl, hp, by rw [dw.length, ← line_eq]; exact q.1, h _ _ _ (dw.append (.cons h1 .nil)) q.2⟩
  · exact q.elim
def mExtend : GM := fun xs ds R => match ds with
  | [.list zs] => xs.length + zs.length ≤ 16777216 ∧ R (xs ++ zs)
  | _ => False
theorem mExtend_mono : MonoM mExtend := fun xs ds Q Q' h q => by
  unfold mExtend at q ⊢
  split at q
  · exact ⟨q.1, h _ q.2⟩
  · exact q.elim
theorem mExtend_ok {K : PySem.W.Frag} : MethOk K rExtend mExtend := fun Hs H p ws vs xs ds Q R sub hp dw dv q h => by
  unfold mExtend at q
  split at q
  · cases dv with
    | cons h1 h2 =>
      cases h2
      cases h1 with
      | lst h3 h4 => exact ⟨p, _, ws, _, rfl, rfl, hp, sub _ _ h3, by rw [dw.length, h4.length, ← line_eq]; exact q.1, h _ _ _ (dw.append h4) q.2⟩
  · exact q.elim
end

/-- a def over data, from its body -/
def retS (Q : SK) : SK
  | .bag => False
  | .un => False
  | .sh d => Q (.sh d)
  | .own ds => Q (.own ds)
  | .scr ns => Q (.scr ns)
  | .err a x => Q (.err a x)
theorem retS_mono {Q Q' : SK} (h : ∀ s, Q s → Q' s) : ∀ s, retS Q s → retS Q' s
  | .bag, q => q
  | .un, q => q
  | .sh _, q => h _ q
  | .own _, q => h _ q
  | .scr _, q => h _ q
  | .err _ _, q => h _ q
def mkF (m : Nat) (t : TSd) : Fd := fun ss Q E => t ⟨fun _ => Q (.sh .none), retS Q, E, fun _ => False, fun _ => False⟩ (ss ++ List.replicate (m - ss.length) .un)
theorem mkF_mono {m : Nat} {t : TSd} (h : MonoS t) : MonoF (mkF m t) := fun ss Q Q' E E' h1 h2 q =>
  h ⟨fun _ => Q (.sh .none), retS Q, E, fun _ => False, fun _ => False⟩ ⟨fun _ => Q' (.sh .none), retS Q', E', fun _ => False, fun _ => False⟩ _ ⟨fun _ q => h1 _ q, retS_mono h1, h2, fun _ q => q, fun _ q => q⟩ q
theorem VR.down {K : PySem.W.Frag} {B B0 : AS} {Hs H : Hp} {v : V} {s : Slot} {fp : List Addr} {Q : SK} (hb : ∀ a, B0 a → B a) (h : VR K B Hs H v s fp) (q : retS Q s) : VR K B0 Hs H v s fp ∧ Q s := by
  cases s with
  | un => exact h.elim
  | sh d => exact ⟨h, q⟩
  | own ds =>
    obtain ⟨p, vs, e1, e2, e3, e4, e5, e6⟩ := h
    exact ⟨⟨p, vs, e1, e2, e3, e4, fun z => e5 (hb _ z), e6⟩, q⟩
  | bag => exact q.elim
  | scr ns => exact ⟨h, q⟩
  | err a x => exact ⟨h, q⟩
/-- where the classes of errors stand -/
def clsOf (K : PySem.W.Frag) : Ex → Value := fun x => .ref (He.ga K x)
theorem VRs.get {K : PySem.W.Frag} {B : AS} {Hs H : Hp} : ∀ {vs : List V} {ss : List Slot} {i : Nat} {s : Slot}, VRs K B Hs H vs ss [] → ss[i]? = some s → ∃ v, vs[i]? = some v ∧ VR K B Hs H v s []
  | _, [], i, s, h, e => by simp at e
  | vs, s' :: ss, i, s, h, e => by
    generalize hf : ([] : List Addr) = f at h
    cases h with
    | cons h1 h2 h3 =>
      rename_i v vs fp fq
      obtain ⟨e1, e2⟩ := List.append_eq_nil_iff.mp hf.symm
      subst e1 e2
      cases i with
      | zero => cases e; exact ⟨_, rfl, h1⟩
      | succ i => exact VRs.get (i := i) h2 e
theorem rel_start {K : PySem.W.Frag} {cls : Ex → Value} {B : AS} {Hs H : Hp} {vs : List V} {ss : List Slot} {N : List Str} (w : WS B Hs H) (r : VRs K B Hs H vs ss []) : Rel ⟨K, H, Hs, B, cls⟩ (ss ++ List.replicate (N.length - ss.length) .un) (L2.start N vs) B Hs H := by
  have hl := r.length
  refine ⟨w, fun _ h => h, fun _ h => .inl h, Sub.refl _, fun a h1 h2 => absurd h1 h2, fun _ _ h _ => h, fun _ h => h, ?_, fun _ => [], fun i a ha => absurd ha (by simp), fun i j a ha => absurd ha (by simp), fun i s h => ?_⟩
  · unfold L2.start
    rw [List.length_append, List.length_append, List.length_map, List.length_replicate, List.length_replicate, hl]
  · by_cases hi : i < ss.length
    · rw [List.getElem?_append_left hi] at h
      obtain ⟨v, e1, e2⟩ := r.get h
      refine .inr ⟨v, ?_, e2⟩
      unfold L2.start
      rw [List.getElem?_append_left (by rw [List.length_map, hl]; exact hi), List.getElem?_map, e1]
      rfl
    · rw [List.getElem?_append_right (by omega), List.getElem?_replicate] at h
      split at h
      · cases h; exact .inl rfl
      · cases h
section
variable {P : Program} {w : World} {K : PySem.W.Frag} {mg : Str → Option Value} {base : Heap} {x qual : Str} {params : Arguments} {body : List Stmt} {scope : Scope} {f : Addr} {fd : FuncData} {N ps : List Str} {k : Nat}
/-- a def keeps what its body over data says -/
theorem ok_def {t : TSd} {kws : List (Str × V)} {dvs : List V} (F : FunD K x qual params body scope dvs kws f fd) (S : FnScope N ps scope)
    (hb : ∀ (cdv : Value) (A : Around) (outer : List Env) (s : Shared) (H : Hp) (E : XK) (c : Gd), c.K = K → c.cls = clsOf K → Room k (A.deeper (envOfC qual scope s.heap.objs.size f cdv)) →
      PassesOwn (model P w) (A.deeper (envOfC qual scope s.heap.objs.size f cdv)) (envOfC qual scope s.heap.objs.size f cdv) (cxOf (L2.CX P w) P w K mg base N qual scope f cdv A outer s H E).xe →
      DSs c (cxOf (L2.CX P w) P w K mg base N qual scope f cdv A outer s H E) body t) : FnOk P w K mg base (L2.CX P w) (k + 1) f fd ps (spF K (clsOf K) ps.length (mkF N.length t)) := by
  refine F.ok S (fun vs H Q E h => ?_) (fun cdv A outer s H vs Q E hr h => ?_)
  · obtain ⟨B, Hs, ss, h1, h2, h3, h4⟩ := h
    rw [h2.length, h3]
  · obtain ⟨B, Hs, ss, h1, h2, h3, h4⟩ := h
    have D := hb cdv A outer s H E ⟨K, H, Hs, B, clsOf K⟩ rfl rfl hr (passes_of rfl)
    refine ⟨_, D.run (fun cls d σ H => E cls d H) (takes_of rfl rfl rfl rfl), _, B, Hs, rel_start h1 h2, ?_⟩
    refine D.mono ⟨fun _ => _, retS _, _, fun _ => False, fun _ => False⟩ _ _ ⟨fun Γ q σ B' Hs' H' sb r => ?_, fun s q Γ σ B' Hs' H' v fp r vr nw => ?_, fun x q Γ σ B' Hs' H' r => ?_, fun _ q => False.elim q, fun _ q => False.elim q⟩ h4
    · exact q .non Hs' H' [] r.whole r.ws0 ⟨rfl, .non⟩ (fun a ha => by cases ha)
    · obtain ⟨v2, q2⟩ := VR.down (Q := fun s => ∀ (v : V) (Hs' H' : Hp) (fp : List Addr), Stp B Hs H Hs' H' → WS B Hs' H' → VR K B Hs' H' v s fp → (∀ a ∈ fp, H a = none) → Q v H') r.bb vr q
      exact q2 v Hs' H' fp r.whole r.ws0 v2 nw
    · exact q Hs' H' r.whole r.ws0
end
/-! ### raise -/
/-- what is known of an own class of errors over ValueError, made with a text -/
structure XF (K : PySem.W.Frag) (mg : Str → Option Value) (x : Ex) : Prop where
  gx : mg x = some (.ref (He.ga K x))
  q : PySem.W.excIn K (He.ga K x) He.veBase "ValueError.__new__" = true
  kp : PySem.W.keepIn K (.ref (He.ga K x)) = true
  sb : PySem.W.subIn K (.ref (He.ga K x)) (.type "BaseException") = some true
  ty : PySem.W.typeIn K (.ref (He.ga K x)) = some (.type "type")
def dRaise (x : Ex) : TSd := fun U _ => U.ex x
theorem ds_raise {c : Gd} {X : Cx} {x m : Str} {j : Nat} {p p2 p3 pos : Pos} (F : XF X.K X.mg x) (hc : X.calm = true) (hcls : c.cls x = .ref (He.ga X.K x)) (hg : Gl X x) (hdb : (x == ("__debug__" : Str)) = false := by decide) :
    DS c X (.Raise (some (.Call (.Name x p) [.Constant (.str m) j p2] [] p3)) none pos) (dRaise x) :=
  ⟨fun U U' Γ l q => l.ex _ q, fun W tk => (ps_raise hc tk (pmk_own PySem.F.excBase_ValueError F.q F.gx F.kp (raises_own F.sb F.ty) hg hdb)).imp fun D σ H ⟨Γ, B, Hs, r, q⟩ => by
    have := q Γ σ B Hs H r
    rw [hcls] at this
    exact this⟩

/-! ### what enumerate, zip draw from -/
inductive Src where
  | lst (a : Addr) | tup (a : Addr) | txt (x : Str)
/-- the items that stand there -/
def Src.has (K : PySem.W.Frag) (H : Hp) : Src → List V → Prop
  | .lst a, xs => SqL K H a xs
  | .tup a, xs => SqT K H a xs
  | .txt x, xs => xs = x.cps.toList.map fun c => .str ⟨#[c]⟩
def Src.iter (it : Addr) (i : Nat) (h : Heap) : Src → Prop
  | .lst a => h.IsListIter it a i
  | .tup a => h.IsTupleIter it a i
  | .txt x => ∃ t, h.IsStrIter it (strIterType x) x t i
/-- the object that it leans on -/
def Src.on : Src → List Addr
  | .lst a => [a]
  | .tup a => [a]
  | .txt _ => []
section
variable {X : Cx} {pins : List (Addr × Obj)} {σ : L2.St} {H : Hp} {s : Shared}
theorem src_draws (I : Inv X pins σ H s) (hh : X.A.handled = none) {src : Src} {it : Addr} {i : Nat} {xs : List V} (hx : src.has X.K H xs) (hst : src.iter it i s.heap) (hne : it ∉ src.on) :
    ∃ (P : Nat → Value → Prop) (St : Nat → Heap → Prop), Draws X.prog X.w X.A.in1 it (it :: src.on) xs.length P St ∧ St i s.heap ∧ (∀ j h, St j h → src.iter it j h) ∧ ∀ j v, P j v → ∃ x, xs[j]? = some x ∧ RelV x v := by
  cases src with
  | lst a =>
    obtain ⟨its, rv, p, hz⟩ := I.list hx
    have e : its.toArray.size = xs.length := by rw [List.size_toArray, rv.length]
    have d := Draws.list (prog := X.prog) (w := X.w) (A := X.A.in1) hh it a (fun z => hne (by simp [Src.on, z])) its.toArray
    rw [e] at d
    refine ⟨_, _, d, ⟨hst, p.isList⟩, fun j h z => z.1, fun j v hv => ?_⟩
    have hv' : its[j]? = some v := by simpa using hv
    cases q : xs[j]? with
    | none => rw [rv.none_of q] at hv'; cases hv'
    | some x =>
      obtain ⟨u, h1, h2⟩ := rv.get q
      rw [h1] at hv'
      cases hv'
      exact ⟨x, rfl, h2⟩
  | tup a =>
    obtain ⟨its, rv, p, hz⟩ := I.tuple hx
    have e : its.toArray.size = xs.length := by rw [List.size_toArray, rv.length]
    have d := Draws.tuple (prog := X.prog) (w := X.w) (A := X.A.in1) hh it a (fun z => hne (by simp [Src.on, z])) its.toArray
    rw [e] at d
    refine ⟨_, _, d, ⟨hst, show s.heap.IsTuple a its.toArray from p⟩, fun j h z => z.1, fun j v hv => ?_⟩
    have hv' : its[j]? = some v := by simpa using hv
    cases q : xs[j]? with
    | none => rw [rv.none_of q] at hv'; cases hv'
    | some x =>
      obtain ⟨u, h1, h2⟩ := rv.get q
      rw [h1] at hv'
      cases hv'
      exact ⟨x, rfl, h2⟩
  | txt x =>
    obtain ⟨t, st⟩ := hst
    have e : xs.length = x.cps.size := by rw [show xs = _ from hx, List.length_map, Array.length_toList]
    have d := Draws.text (prog := X.prog) (w := X.w) (A := X.A.in1) hh it x t
    rw [← e] at d
    refine ⟨_, _, d, st, fun j h z => ⟨t, z⟩, fun j v hv => ?_⟩
    obtain ⟨k, u, h1, rfl⟩ := hv
    refine ⟨.str ⟨#[k]⟩, ?_, ⟨_, rfl⟩⟩
    rw [show xs = _ from hx, List.getElem?_map, Array.getElem?_toList, h1]
    rfl
theorem src_keep {src : Src} {it : Addr} {i : Nat} {h h' : Heap} (st : src.iter it i h) (k : ∀ o, h.get? it = some o → h'.get? it = some o) : src.iter it i h' := by
  cases src with
  | lst a => exact Heap.IsListIter.at st k
  | tup a => exact Heap.IsTupleIter.at st k
  | txt x =>
    obtain ⟨t, o, e, c, d⟩ := st
    exact ⟨t, o, k o e, c, d⟩
theorem src_obj {src : Src} {it : Addr} {i : Nat} {h : Heap} (st : src.iter it i h) : ∃ o, h.get? it = some o ∧ ∀ v, o.data ≠ .cell v := by
  cases src with
  | lst a => obtain ⟨o, e, _, d⟩ := st; exact ⟨o, e, fun v q => by rw [d] at q; cases q⟩
  | tup a => obtain ⟨o, e, _, d⟩ := st; exact ⟨o, e, fun v q => by rw [d] at q; cases q⟩
  | txt x => obtain ⟨t, o, e, _, d⟩ := st; exact ⟨o, e, fun v q => by rw [d] at q; cases q⟩
theorem src_inj (I : Inv X pins σ H s) {src : Src} {xs ys : List V} (h1 : src.has X.K H xs) (h2 : src.has X.K H ys) : xs = ys := by
  cases src with
  | lst a => exact I.list_inj h1 h2
  | tup a => exact I.tuple_inj h1 h2
  | txt x => exact (show xs = _ from h1).trans (show ys = _ from h2).symm
/-- the values of two such sources, in new pairs -/
def ItzS (K : PySem.W.Frag) (a b : Src) : It :=
  ⟨fun i H => ∃ (xs ys : List V) (x y : V), a.has K H xs ∧ b.has K H ys ∧ xs[i]? = some x ∧ ys[i]? = some y,
    fun i H v H' => ∃ T x y, v = .ref T ∧ H T = none ∧ H' = upd H T (.tup [x, y]) ∧ (∀ xs, a.has K H xs → xs[i]? = some x) ∧ ∀ ys, b.has K H ys → ys[i]? = some y,
    fun i H => ∃ xs ys : List V, a.has K H xs ∧ b.has K H ys ∧ i ≤ xs.length ∧ i ≤ ys.length ∧ (i = xs.length ∨ i = ys.length)⟩
/-- the iterators lie apart from one another and from what they walk -/
structure ZS (z TI TO i1 i2 : Addr) (a b : Src) : Prop where
  s : ZipSep2 z TI TO i1 i2 (i1 :: a.on) (i2 :: b.on)
  n1 : i1 ∉ a.on
  n2 : i2 ∉ b.on
  TOT : TO ≠ TI
  TOz : TO ≠ z
theorem turn_zipS {P : Program} {w : World} {K : PySem.W.Frag} {elts : List Expr} {kk : Nat} {tpos : Pos} {a b : Src} {z TI TO i1 i2 : Addr} (D : ZS z TI TO i1 i2 a b) :
    Turn P w K (.Tuple elts kk tpos) (ItzS K a b) [z, TI, TO, i1, i2] z (fun i h => IsZip h z TI TO .none ∧ IsTupOf2 h TI (.ref i1) (.ref i2) ∧ (∃ x y, IsTupOf2 h TO x y) ∧ a.iter i1 i h ∧ b.iter i2 i h) where
  mem := by simp
  obj := fun i h st c hc => by
    obtain ⟨hz, hTI, ⟨x, y, hTO⟩, s1, s2⟩ := st
    have e' : c = z ∨ c = TI ∨ c = TO ∨ c = i1 ∨ c = i2 := by simpa using hc
    rcases e' with q | q | q | q | q
    · rw [q]; exact ⟨_, hz, fun v q => nomatch q⟩
    · rw [q]; exact ⟨_, hTI, fun v q => nomatch q⟩
    · rw [q]; exact ⟨_, hTO, fun v q => nomatch q⟩
    · rw [q]; exact src_obj s1
    · rw [q]; exact src_obj s2
  keep := fun i h h' st k => by
    obtain ⟨hz, hTI, ⟨x, y, hTO⟩, h1, h2⟩ := st
    exact ⟨k z (by simp) _ hz, k TI (by simp) _ hTI, ⟨x, y, k TO (by simp) _ hTO⟩, src_keep h1 fun o q => k i1 (by simp) o q, src_keep h2 fun o q => k i2 (by simp) o q⟩
  item := by
    intro X hP hw hK hc i pins s σ H E I hf st hg
    subst hP hw hK
    obtain ⟨hz, hTI, ⟨x0, y0, hTO⟩, h1, h2⟩ := st
    obtain ⟨xs, ys, x, y, hqx, hqy, hx, hy⟩ := hg
    obtain ⟨P1, St1, D1, st1, k1, r1⟩ := src_draws I (I.ok.hd hc) hqx h1 D.n1
    obtain ⟨P2, St2, D2, st2, k2, r2⟩ := src_draws I (I.ok.hd hc) hqy h2 D.n2
    have hzl : z < s.heap.objs.size := Heap.lt_size hz
    have hx' : i < xs.length := (List.getElem?_eq_some_iff.mp hx).1
    have hy' : i < ys.length := (List.getElem?_eq_some_iff.mp hy).1
    refine wpAny_pyNext_zipD2_item D.s D1 D2 hz hTI hTO st1 st2 hx' hy' fun u u2 h' tk p1 p2 z' TO' s1' s2' hT hsz hk => ?_
    refine ⟨_, rfl, wpAny_letOwnedTupleGo_zip (s := { s with heap := h', toks := tk }) z' fun h'' z'' sb => ?_⟩
    obtain ⟨x', ex, ru⟩ := r1 i u p1
    obtain ⟨y', ey, ru2⟩ := r2 i u2 p2
    have hT2 : h''.get? s.heap.objs.size = some { cls := .type "tuple", data := .seq #[u, u2] } := (sb.2 _ (Nat.ne_of_gt hzl)).trans hT
    have new : ObjOk X.prog X.w (upd H s.heap.objs.size (.tup [x', y'])) h'' s.heap.objs.size (.tup [x', y']) :=
      ⟨by show 2 ≤ sizeLine; decide, [u, u2], .cons ru (.cons ru2 .nil), ⟨_, hT2, rfl, _, rfl⟩⟩
    have I1 : Inv X pins σ (upd H s.heap.objs.size (.tup [x', y'])) { s with heap := h'', toks := tk } :=
      I.turnedNew (t' := tk) (ch := [z, TI, TO, i1, i2]) (fun c o hb q => (sb.2 c (fun q' => hb (by simp [q']))).trans (hk c o (fun q' => hb (by simp [q'])) (fun q' => hb (by simp [q'])) (fun q' => hb (by simp [q'])) (fun q' => hb (by simp [q'])) q)) hf (Nat.le_refl _) new
    refine ⟨.ref s.heap.objs.size, _, I1, rfl, ⟨_, x', y', rfl, I.hok.fresh (Nat.le_refl _), rfl, fun l hl => by rw [src_inj I hl hqx]; exact ex, fun l hl => by rw [src_inj I hl hqy]; exact ey⟩, ⟨z'', ?_, ⟨u, u2, ?_⟩, ?_, ?_⟩, fun c hcm => ?_⟩
    · exact (sb.2 _ D.s.TIz).trans (hk _ _ D.s.TIz D.s.TITO D.s.TIi1 D.s.TIi2 hTI)
    · exact (sb.2 _ D.s.TOz).trans TO'
    · exact src_keep (k1 _ _ s1') fun o q => (sb.2 _ (Ne.symm D.s.zi1)).trans q
    · exact src_keep (k2 _ _ s2') fun o q => (sb.2 _ (Ne.symm D.s.zi2)).trans q
    · have hlt : c < s.heap.objs.size := by
        have e' : c = z ∨ c = TI ∨ c = TO ∨ c = i1 ∨ c = i2 := by simpa using hcm
        rcases e' with q | q | q | q | q
        · rw [q]; exact hzl
        · rw [q]; exact Heap.lt_size hTI
        · rw [q]; exact Heap.lt_size hTO
        · rw [q]; obtain ⟨_, e1, _⟩ := src_obj h1; exact Heap.lt_size e1
        · rw [q]; obtain ⟨_, e2, _⟩ := src_obj h2; exact Heap.lt_size e2
      rw [upd_ne (Nat.ne_of_lt hlt)]
      exact (hf c hcm).1
  done := by
    intro X hP hw hK hc i pins s σ H E I hf st hg
    subst hP hw hK
    obtain ⟨hz, hTI, ⟨x0, y0, hTO⟩, h1, h2⟩ := st
    obtain ⟨xs, ys, hqx, hqy, l1, l2, hend⟩ := hg
    obtain ⟨P1, St1, D1, st1, k1, r1⟩ := src_draws I (I.ok.hd hc) hqx h1 D.n1
    obtain ⟨P2, St2, D2, st2, k2, r2⟩ := src_draws I (I.ok.hd hc) hqy h2 D.n2
    exact wpAny_pyNext_zipD2_end D.s D1 D2 hz hTI hTO st1 st2 l1 l2 hend fun h' tk hk => ⟨rfl, I.turnedL (t' := tk) (ch := [z, TI, TO, i1, i2]) (fun c o hb q =>
      hk c o (fun q' => hb (by simp [q'])) (fun q' => hb (by simp [q'])) (fun q' => hb (by simp [q'])) (fun q' => hb (by simp [q'])) q) hf⟩
  self := fun A i s Q E st h => wpAny_pyIter_zip st.1 h
def Src.val : Src → V
  | .lst a => .ref a
  | .tup a => .ref a
  | .txt x => .str x
/-- how iter(..) of such a value begins -/
theorem src_begins (I : Inv X pins σ H s) {src : Src} {xs : List V} {u : Value} (hx : src.has X.K H xs) (ru : RelV src.val u) : ∃ (o : Obj) (B : Heap → Prop), Begins u o B ∧ B s.heap ∧ (∀ h it, h.get? it = some o → src.iter it 0 h) ∧ (∀ b ∈ src.on, b < s.heap.objs.size) := by
  cases src with
  | lst a =>
    obtain ⟨its, rv, p, hz⟩ := I.list hx
    cases ru
    exact ⟨_, _, begins_list a its.toArray, p.isList, fun h it e => ⟨_, e, rfl, rfl⟩, fun b hb => by
      have e : b = a := by simpa [Src.on] using hb
      rw [e]; exact p.lt⟩
  | tup a =>
    obtain ⟨its, rv, p, hz⟩ := I.tuple hx
    cases ru
    exact ⟨_, _, begins_tuple a its.toArray, (show s.heap.IsTuple a its.toArray from p), fun h it e => ⟨_, e, rfl, rfl⟩, fun b hb => by
      have e : b = a := by simpa [Src.on] using hb
      rw [e]; exact p.lt⟩
  | txt x =>
    obtain ⟨t, rfl⟩ := ru
    exact ⟨_, _, begins_text x t, True.intro, fun h it e => ⟨t, _, e, rfl, rfl⟩, fun b hb => by simp [Src.on] at hb⟩
/-- lists and tuples have a largest length -/
def Src.small (xs : List V) : Src → Prop
  | .txt _ => True
  | _ => xs.length ≤ sizeLine
theorem src_small (I : Inv X pins σ H s) {src : Src} {xs : List V} (hx : src.has X.K H xs) : src.small xs := by
  cases src with
  | lst a => obtain ⟨its, rv, p, hz⟩ := I.list hx; exact hz
  | tup a => obtain ⟨its, rv, p, hz⟩ := I.tuple hx; exact hz
  | txt x => exact True.intro
/-- zip(e, e2) -/
def iZipS (K : PySem.W.Frag) (ta : TA) : TI := fun σ H R => ta σ H fun vs H1 => ∃ (a b : Src) (xs ys : List V), vs = [a.val, b.val] ∧ a.has K H1 xs ∧ b.has K H1 ys ∧ (a.small xs → R (ItzS K a b) H1)
theorem pi_zipS {e e2 : Expr} {ta : TA} {p pos tpos : Pos} {elts : List Expr} {kk : Nat} (hg : Gl X "zip") (hm : X.mg "zip" = none) (ha : PA X [e, e2] ta)
    (hs : starEach [e, e2] X.env = (false, eval e X.env) :: starEach [e2] X.env := by rfl) (hpl : (backTo pos (starEach [e2] X.env)).any (·.1) = false := by rfl) :
    PI X (.Tuple elts kk tpos) (.Call (.Name "zip" p) [e, e2] [] pos) (iZipS X.K ta) := by
  refine ⟨fun pins s σ H R I h => ?_⟩
  refine Call_ (ld_blt I hg hm PyProof.Rows.boot_zip (PyProof.Rows.callWith_type1 (thn (ha.run pos pins s σ H _ I h) fun us s1 ⟨vs, H1, I1, r1, q1⟩ => ?_) hs hpl))
  obtain ⟨a, b, xs, ys, ex, hqx, hqy, q⟩ := q1
  subst ex
  cases r1 with
  | cons r rr =>
    cases rr with
    | cons r' rr =>
      cases rr
      obtain ⟨o1, B1, b1, c1, f1, l1⟩ := src_begins I1 hqx r
      obtain ⟨o2, B2, b2, c2, f2, l2⟩ := src_begins I1 hqy r'
      have fresh5 : ∀ c, c ∈ [s1.heap.objs.size + 4, s1.heap.objs.size + 2, s1.heap.objs.size + 3, s1.heap.objs.size, s1.heap.objs.size + 1] → FpOk X pins H1 c := fun c hcm => by
        have e' : c = s1.heap.objs.size + 4 ∨ c = s1.heap.objs.size + 2 ∨ c = s1.heap.objs.size + 3 ∨ c = s1.heap.objs.size ∨ c = s1.heap.objs.size + 1 := by simpa using hcm
        have hle : s1.heap.objs.size ≤ c := by
          rcases e' with z | z | z | z | z
          · rw [z]; exact Nat.le_add_right _ _
          · rw [z]; exact Nat.le_add_right _ _
          · rw [z]; exact Nat.le_add_right _ _
          · rw [z]; exact Nat.le_refl _
          · rw [z]; exact Nat.le_add_right _ _
        exact I1.fpOk hle (I1.hok.fresh hle)
      refine zip_begins2 b1 b2 c1 c2 fun h' hz hTI hTO h1 h2 hsz hk => wpAny_pyIter_zip hz ?_
      have I2 : Inv X pins σ H1 { s1 with heap := h' } := I1.kept (t' := s1.toks) hk
      have nn : ∀ {n : Nat} {l : List Addr}, (∀ b ∈ l, b < s1.heap.objs.size) → s1.heap.objs.size + n ∉ l := fun {n l} hl hm => absurd (hl _ hm) (Nat.not_lt.mpr (Nat.le_add_right _ _))
      exact ⟨s1.heap.objs.size + 4, [s1.heap.objs.size + 4, s1.heap.objs.size + 2, s1.heap.objs.size + 3, s1.heap.objs.size, s1.heap.objs.size + 1], _, _, H1, rfl, I2,
        turn_zipS ⟨zip_sep2 l1 l2, nn (n := 0) l1, nn l2, show (s1.heap.objs.size + 3 : Nat) ≠ s1.heap.objs.size + 2 by omega, show (s1.heap.objs.size + 3 : Nat) ≠ s1.heap.objs.size + 4 by omega⟩,
        ⟨hz, hTI, ⟨_, _, hTO⟩, f1 _ _ h1, f2 _ _ h2⟩, fresh5, q (src_small I1 hqx)⟩
/-! ### enumerate -/
def IteS (K : PySem.W.Frag) (a : Src) : It :=
  ⟨fun i H => ∃ (xs : List V) (x : V), a.has K H xs ∧ xs[i]? = some x,
    fun i H v H' => ∃ T x, v = .ref T ∧ H T = none ∧ H' = upd H T (.tup [.int (i : Nat), x]) ∧ ∀ xs, a.has K H xs → xs[i]? = some x,
    fun i H => ∃ xs : List V, a.has K H xs ∧ i = xs.length⟩
theorem turn_enumS {P : Program} {w : World} {K : PySem.W.Frag} {elts : List Expr} {kk : Nat} {tpos : Pos} {a : Src} {e it : Addr} (ne : e ≠ it) (ef : e ∉ a.on) (ni : it ∉ a.on) :
    Turn P w K (.Tuple elts kk tpos) (IteS K a) [e, it] e (fun i h => (∃ old, IsEnum h e it ((i : Nat) : Int) old) ∧ a.iter it i h) where
  mem := by simp
  obj := fun i h st b hb => by
    obtain ⟨⟨old, he⟩, s1⟩ := st
    have e' : b = e ∨ b = it := by simpa using hb
    rcases e' with z | z
    · rw [z]; exact ⟨_, he, fun v q => nomatch q⟩
    · rw [z]; exact src_obj s1
  keep := fun i h h' st k => let ⟨⟨old, he⟩, hi⟩ := st; ⟨⟨old, k e (by simp) _ he⟩, src_keep hi fun o q => k it (by simp) o q⟩
  item := by
    intro X hP hw hK hc i pins s σ H E I hf st hg
    subst hP hw hK
    obtain ⟨⟨old, he⟩, hit⟩ := st
    obtain ⟨xs, x, hq, hx⟩ := hg
    obtain ⟨P1, St1, D1, st1, k1, r1⟩ := src_draws I (I.ok.hd hc) hq hit ni
    have hel : e < s.heap.objs.size := Heap.lt_size he
    have hil : it < s.heap.objs.size := by obtain ⟨_, q, _⟩ := src_obj hit; exact Heap.lt_size q
    have hx' : i < xs.length := (List.getElem?_eq_some_iff.mp hx).1
    refine wpAny_pyNext_enum_itemC D1 he st1 hx' ne (fun z => (List.mem_cons.mp z).elim ne ef) fun u h' tk p1 ho s1' hT hsz hk => ?_
    refine ⟨_, rfl, wpAny_letOwnedTupleGo_enum (s := { s with heap := h', toks := tk + 1 }) ho fun h'' he' sb => ?_⟩
    obtain ⟨x', ex, ru⟩ := r1 i u p1
    have hT2 : h''.get? s.heap.objs.size = some { cls := .type "tuple", data := .seq #[.int i tk, u] } := (sb.2 _ (Nat.ne_of_gt hel)).trans hT
    have new : ObjOk X.prog X.w (upd H s.heap.objs.size (.tup [.int (i : Nat), x'])) h'' s.heap.objs.size (.tup [.int (i : Nat), x']) :=
      ⟨by show 2 ≤ sizeLine; decide, [.int i tk, u], .cons ⟨_, rfl⟩ (.cons ru .nil), ⟨_, hT2, rfl, _, rfl⟩⟩
    have I1 : Inv X pins σ (upd H s.heap.objs.size (.tup [.int (i : Nat), x'])) { s with heap := h'', toks := tk + 1 } :=
      I.turnedNew (t' := tk + 1) (ch := [e, it]) (fun b ob hb q => (sb.2 b (fun z => hb (by simp [z]))).trans (hk b ob (fun z => hb (by simp [z])) (fun z => hb (by simp [z])) q)) hf (Nat.le_refl _) new
    refine ⟨.ref s.heap.objs.size, _, I1, rfl, ⟨_, x', rfl, I.hok.fresh (Nat.le_refl _), rfl, fun l hl => by rw [src_inj I hl hq]; exact ex⟩, ⟨⟨u, ?_⟩, src_keep (k1 _ _ s1') fun o q => (sb.2 it (Ne.symm ne)).trans q⟩, fun b hb => ?_⟩
    · have e1 : ((i + 1 : Nat) : Int) = (i : Int) + 1 := by omega
      rw [e1]; exact he'
    · have hb' : b < s.heap.objs.size := by
        have e' : b = e ∨ b = it := by simpa using hb
        rcases e' with z | z
        · rw [z]; exact hel
        · rw [z]; exact hil
      rw [upd_ne (Nat.ne_of_lt hb')]
      exact (hf b hb).1
  done := by
    intro X hP hw hK hc i pins s σ H E I hf st hg
    subst hP hw hK
    obtain ⟨⟨old, he⟩, hit⟩ := st
    obtain ⟨xs, hq, rfl⟩ := hg
    obtain ⟨P1, St1, D1, st1, k1, r1⟩ := src_draws I (I.ok.hd hc) hq hit ni
    obtain ⟨f0, f1, f2, f3, f4, f5⟩ := hf it (by simp)
    exact wpAny_pyNext_enum_endD D1 he st1 fun h' eb => ⟨rfl, I.turned (t' := s.toks) (fun b o hb q => eb b o hb q) f0 f1 f3 f4 f5⟩
  self := fun A i s Q E st h => let ⟨⟨_, he⟩, _⟩ := st; wpAny_pyIter_enum he h
set_option maxHeartbeats 4000000 in
theorem meets_enumerate_newT (l : Addr) (items : Array Value) :
    Meets (Builtin.«enumerate.__new__» ⟨[.type "enumerate", .ref l], []⟩) (fun _ R s => s.heap.IsTuple l items ∧
      R (.ok (.ret (.ref (s.heap.push { cls := .type "tuple_iterator", data := .fields #[.ref l, .int 0 0] }).objs.size)))
        { s with heap := (s.heap.push { cls := .type "tuple_iterator", data := .fields #[.ref l, .int 0 0] }).push { cls := .type "enumerate", data := .fields #[.none, .bool false, .ref s.heap.objs.size, rawInt 0, .none, .none] } }) :=
  .of_wp fun prog w A R s h => by
    obtain ⟨hp, g, d, tk, os⟩ := s
    obtain ⟨h1, h⟩ := h
    have hsub := sub_enumerate
    have hit : ∀ (A : Around) (Q : Value → Shared → Prop) (E : Value → Shared → Prop), Q (.ref hp.objs.size) ⟨hp.push { cls := .type "tuple_iterator", data := .fields #[.ref l, .int 0 0] }, g, d, tk, os⟩ → wpAny (model prog w) A (pyIter (.ref l)) Q E ⟨hp, g, d, tk, os⟩ := fun A Q E q => wpAny_pyIter_tuple h1 q
    wp_walk
    refine wpAny_stack_any fun st => wpAny_pure ?_
    split
    · rename_i c _ _ _ _ _
      cases (c == Value.type "enumerate")
      · wp_walk using hit
        exact ⟨_, rfl, h⟩
      · wp_walk using hit
        exact ⟨_, rfl, h⟩
    · wp_walk using hit
      exact ⟨_, rfl, h⟩
theorem call_enumerate_tuple {prog : Program} {w : World} {A : Around} {E : Value → Shared → Prop} {s : Shared} {l : Addr} {items : Array Value} {Q : Value → Shared → Prop} (hL : s.heap.IsTuple l items)
    (h : ∀ h', IsEnum h' (s.heap.objs.size + 1) s.heap.objs.size 0 .none → h'.IsTupleIter s.heap.objs.size l 0 → h'.objs.size = s.heap.objs.size + 2 →
      (∀ b o, s.heap.get? b = some o → h'.get? b = some o) → Q (.ref (s.heap.objs.size + 1)) { s with heap := h' }) :
    wpAny (model prog w) A (call (.type "enumerate") [.ref l]) Q E s := by
  refine callType_new F.called_enumerate (by decide) (F.typeCall_enumerate_1 _) (F.newCall_enumerate_1 _) (fun obj => F.args_object_init_2 obj _) F.entry_enumerate_new
    (meets_enumerate_newT l items) ⟨hL, ?_⟩
  have hz : (s.heap.push { cls := .type "tuple_iterator", data := .fields #[.ref l, .int 0 0] }).objs.size = s.heap.objs.size + 1 := Heap.size_push ..
  show _ ∧ _
  rw [hz]
  have he : IsEnum ((s.heap.push { cls := .type "tuple_iterator", data := .fields #[.ref l, .int 0 0] }).push
      { cls := .type "enumerate", data := .fields #[.none, .bool false, .ref s.heap.objs.size, rawInt 0, .none, .none] }) (s.heap.objs.size + 1) s.heap.objs.size 0 .none := by
    have := Heap.get?_push_size (s.heap.push { cls := .type "tuple_iterator", data := .fields #[.ref l, .int 0 0] })
      (o := { cls := .type "enumerate", data := .fields #[.none, .bool false, .ref s.heap.objs.size, rawInt 0, .none, .none] }) rfl
    rw [hz] at this; exact this
  refine ⟨⟨_, he, rfl⟩, h _ he ⟨_, Heap.get?_push_of_some _ (Heap.get?_push_size _ rfl), rfl, rfl⟩ (by rw [Heap.size_push, hz]) fun b o x => Heap.get?_push_of_some _ (Heap.get?_push_of_some _ x)⟩
/-- enumerate(e): a list or a tuple -/
def iEnumS (K : PySem.W.Frag) (ta : TA) : TI := fun σ H R => ta σ H fun vs H1 => ∃ (a : Src) (xs : List V), vs = [a.val] ∧ (∀ x, a ≠ .txt x) ∧ a.has K H1 xs ∧ (xs.length ≤ sizeLine → R (IteS K a) H1)
theorem pi_enumS {e : Expr} {ta : TA} {p pos tpos : Pos} {elts : List Expr} {kk : Nat} (hg : Gl X "enumerate") (hm : X.mg "enumerate" = none) (ha : PA X [e] ta) (hs : starEach [e] X.env = [(false, eval e X.env)] := by rfl) :
    PI X (.Tuple elts kk tpos) (.Call (.Name "enumerate" p) [e] [] pos) (iEnumS X.K ta) := by
  refine ⟨fun pins s σ H R I h => ?_⟩
  refine Call_ (ld_blt I hg hm boot_enumerate (PyProof.Rows.callWith_type1 (thn (ha.run pos pins s σ H _ I h) fun us s1 ⟨vs, H1, I1, r1, q1⟩ => ?_) hs rfl))
  obtain ⟨a, xs, ex, nt, hq, q⟩ := q1
  subst ex
  cases r1 with
  | cons r rr =>
    cases rr
    have fin : ∀ (h' : Heap) (l : Addr), l < s1.heap.objs.size → a.on = [l] → IsEnum h' (s1.heap.objs.size + 1) s1.heap.objs.size 0 .none → a.iter s1.heap.objs.size 0 h' → (∀ b o, s1.heap.get? b = some o → h'.get? b = some o) → xs.length ≤ sizeLine →
        wpAny (model X.prog X.w) X.A (pyIter (.ref (s1.heap.objs.size + 1))) (PIE X pins σ (.Tuple elts kk tpos) R) X.xe { s1 with heap := h' } := fun h' l hl el he hit hk hz => by
      refine wpAny_pyIter_enum he ?_
      have I2 : Inv X pins σ H1 { s1 with heap := h' } := I1.kept (t' := s1.toks) hk
      have n1 : s1.heap.objs.size + 1 ∉ a.on := fun z => by
        rw [el] at z
        have e : s1.heap.objs.size + 1 = l := by simpa using z
        exact absurd hl (by rw [← e]; exact Nat.not_lt.mpr (Nat.le_succ _))
      have n2 : s1.heap.objs.size ∉ a.on := fun z => by
        rw [el] at z
        have e : s1.heap.objs.size = l := by simpa using z
        exact absurd hl (by rw [← e]; exact Nat.lt_irrefl _)
      refine ⟨s1.heap.objs.size + 1, [s1.heap.objs.size + 1, s1.heap.objs.size], _, _, H1, rfl, I2, turn_enumS (Nat.succ_ne_self _) n1 n2, ⟨⟨.none, he⟩, hit⟩, fun b hb => ?_, q hz⟩
      have e' : b = s1.heap.objs.size + 1 ∨ b = s1.heap.objs.size := by simpa using hb
      have hle : s1.heap.objs.size ≤ b := by
        rcases e' with z | z
        · rw [z]; exact Nat.le_add_right _ _
        · rw [z]; exact Nat.le_refl _
      exact I1.fpOk hle (I1.hok.fresh hle)
    cases a with
    | lst a =>
      cases r
      obtain ⟨its, rv, p', hz⟩ := I1.list hq
      exact call_enumerate_list p'.isList fun h' he hit hsz hk => fin h' a p'.lt rfl he hit hk hz
    | tup a =>
      cases r
      obtain ⟨its, rv, p', hz⟩ := I1.tuple hq
      exact call_enumerate_tuple (show s1.heap.IsTuple a its.toArray from p') fun h' he hit hsz hk => fin h' a p'.lt rfl he hit hk hz
    | txt x => exact absurd rfl (nt x)
end
/-! ### by data -/
section
variable {c : Gd} {X : Cx}
/-- what a datum gives, walked -/
def seqD (d : D) (k : List D → Prop) : Prop := match d with
  | .list ds => k ds
  | .tuple ds => k ds
  | .str x => x.length ≤ 16777216 ∧ k (signs x)
  | _ => False
theorem seqD_mono {d : D} {k k' : List D → Prop} (h : ∀ ds, k ds → k' ds) (q : seqD d k) : seqD d k' := by
  unfold seqD at q ⊢
  split at q
  · exact h _ q
  · exact h _ q
  · exact ⟨q.1, h _ q.2⟩
  · exact q.elim
theorem dq_src {Hs : Hp} {v : V} {d : D} {k : List D → Prop} (h : Dq c.K Hs v d) (q : seqD d k) : ∃ (a : Src) (xs : List V) (ds : List D), v = a.val ∧ (∀ H, Sub Hs H → a.has c.K H xs) ∧ DqAll c.K Hs xs ds ∧ k ds ∧ (a.small xs → ds.length ≤ 16777216) := by
  unfold seqD at q
  split at q
  · cases h with
    | lst h1 h2 =>
      rename_i a xs
      exact ⟨.lst a, xs, _, rfl, fun H s => SqL.of (s _ _ h1), h2, q, fun z => by rw [← h2.length, line_eq]; exact z⟩
  · cases h with
    | tup h1 h2 =>
      rename_i a xs
      exact ⟨.tup a, xs, _, rfl, fun H s => sqT_mono s h1, h2, q, fun z => by rw [← h2.length, line_eq]; exact z⟩
  · cases h
    rename_i x
    refine ⟨.txt x, _, _, rfl, fun H s => rfl, ?_, q.2, fun _ => by unfold signs; rw [List.length_map, Array.length_toList]; exact q.1⟩
    unfold signs
    generalize x.cps.toList = l
    induction l with
    | nil => exact .nil
    | cons a l ih => exact .cons (.str _) ih
  · exact q.elim
/-- pairs -/
def pairs (xs ys : List D) : List D := (xs.zip ys).map fun p => .tuple [p.1, p.2]
theorem pairs_length {xs ys : List D} : (pairs xs ys).length = min xs.length ys.length := by unfold pairs; rw [List.length_map, List.length_zip]
theorem pairs_get {xs ys : List D} {i : Nat} {d : D} (h : (pairs xs ys)[i]? = some d) : ∃ x y, xs[i]? = some x ∧ ys[i]? = some y ∧ d = .tuple [x, y] := by
  unfold pairs at h
  rw [List.getElem?_map] at h
  obtain ⟨p, h1, h2⟩ := Option.map_eq_some_iff.mp h
  rw [List.getElem?_zip_eq_some] at h1
  exact ⟨p.1, p.2, h1.1, h1.2, h2.symm⟩
theorem newPair {B : AS} {Hs H : Hp} {T : Addr} {v v2 : V} {d d2 : D} (w : WS B Hs H) (hT : H T = none) (h1 : Dq c.K Hs v d) (h2 : Dq c.K Hs v2 d2) : ∃ Hs', Stp B Hs H Hs' (upd H T (.tup [v, v2])) ∧ WS B Hs' (upd H T (.tup [v, v2])) ∧ Dq c.K Hs' (.ref T) (.tuple [d, d2]) := by
  obtain ⟨Hs', t, w', _, q⟩ := newTup w (.cons h1 (.cons h2 .nil)) hT
  exact ⟨Hs', t, w', q⟩
theorem itd_zip {Hs : Hp} {a b : Src} {xs ys : List V} {ds es : List D} (h1 : ∀ H, Sub Hs H → a.has c.K H xs) (h2 : ∀ H, Sub Hs H → b.has c.K H ys) (d1 : DqAll c.K Hs xs ds) (d2 : DqAll c.K Hs ys es) : ItD c (ItzS c.K a b) (pairs ds es) Hs := fun i B Hs2 H2 s w => by
  have k1 := h1 H2 (s.trans w.sub)
  have k2 := h2 H2 (s.trans w.sub)
  refine ⟨fun d hd => ?_, fun hl => ?_⟩
  · obtain ⟨x, y, e1, e2, rfl⟩ := pairs_get hd
    obtain ⟨v, f1, g1⟩ := d1.get e1
    obtain ⟨v2, f2, g2⟩ := d2.get e2
    refine ⟨⟨xs, ys, v, v2, k1, k2, f1, f2⟩, fun z H3 hz => ?_⟩
    obtain ⟨T, x', y', rfl, hT, rfl, q1, q2⟩ := hz
    have e3 : x' = v := Option.some.inj ((q1 xs k1).symm.trans f1)
    have e4 : y' = v2 := Option.some.inj ((q2 ys k2).symm.trans f2)
    subst e3 e4
    exact newPair w hT (dq_mono s g1) (dq_mono s g2)
  · rw [pairs_length] at hl
    exact ⟨xs, ys, k1, k2, by rw [d1.length]; omega, by rw [d2.length]; omega, by rw [d1.length, d2.length]; omega⟩
def dZip (ta tb : TD) : TId := fun Γ Q E => ta Γ (fun s => tb Γ (fun u => asD s fun x => asD u fun y => seqD x fun ds => seqD y fun es => Q (pairs ds es)) E) E
theorem di_zip {e e2 : Expr} {ta tb : TD} {p pos tpos : Pos} {elts : List Expr} {kk : Nat} (hg : Gl X "zip") (hm : X.mg "zip" = none) (ha : DE c X e ta) (hb : DE c X e2 tb) (hK : X.K = c.K := by rfl)
    (hs : starEach [e, e2] X.env = (false, eval e X.env) :: starEach [e2] X.env := by rfl) (hs2 : starEach [e2] X.env = [(false, eval e2 X.env)] := by rfl) (hpl : (backTo pos (starEach [e2] X.env)).any (·.1) = false := by rfl) :
    DI c X (.Tuple elts kk tpos) (.Call (.Name "zip" p) [e, e2] [] pos) (dZip ta tb) := by
  have ha' : DA c X [e, e2] (dCons ta (dCons tb dNil)) := da_cons ha (da_cons hb da_nil hs2) hs
  refine ⟨fun Γ Q Q' E E' h1 h2 q => ha.mono _ _ _ _ _ (fun s q => hb.mono _ _ _ _ _ (fun u q => asD_mono (fun x q => asD_mono (fun y q => seqD_mono (fun ds q => seqD_mono (fun es q => h1 _ q) q) q) q) q) h2 q) h2 q, fun W tk => (pi_zipS hg hm (ha'.run W tk) hs hpl).imp fun σ H R ⟨Γ, B, Hs, r, q⟩ => ?_⟩
  refine ⟨Γ, B, Hs, r, ha.mono _ _ _ _ _ (fun s q0 => hb.mono _ _ _ _ _ (fun u q vs Hs1 H1 fp t w vr nw => ?_) (fun _ z => z) q0) (fun _ z => z) q⟩
  obtain ⟨Hs2, s2, w2, v2, n2⟩ := vr.nrm w
  have t2 : Stp B Hs H Hs2 H1 := t.close s2 fun a h1 h2 => nw a (n2 a h1 h2)
  have q' : asDs [s, u] fun dd => ∃ x y, dd = [x, y] ∧ seqD x fun ds => seqD y fun es => (pairs ds es).length ≤ 16777216 → ∀ (J : It) (Hs' H' : Hp), Stp B Hs H Hs' H' → WS B Hs' H' → ItD c J (pairs ds es) Hs' → R J H' := asD_mono (fun x q => asD_mono (fun y q => ⟨x, y, rfl, q⟩) q) q
  obtain ⟨dd, d2, x, y, rfl, q'⟩ := v2.data q'
  cases d2 with
  | cons dx d2 =>
    cases d2 with
    | cons dy d2 =>
      cases d2
      obtain ⟨a, xs, ds, rfl, k1, k2, q', k3⟩ := dq_src dx q'
      obtain ⟨b, ys, es, rfl, l1, l2, q', l3⟩ := dq_src dy q'
      refine ⟨a, b, xs, ys, rfl, by rw [hK]; exact k1 H1 w2.sub, by rw [hK]; exact l1 H1 w2.sub, fun sm => ?_⟩
      rw [hK]
      exact q' (by rw [pairs_length]; have := k3 sm; omega) _ Hs2 H1 t2 w2 (itd_zip k1 l1 k2 l2)
/-- numbered -/
def numbered (ds : List D) : List D := pairs (rngs 0 ds.length) ds
theorem numbered_get {ds : List D} {i : Nat} {d : D} (h : (numbered ds)[i]? = some d) : ∃ x, ds[i]? = some x ∧ d = .tuple [.int (i : Int), x] := by
  obtain ⟨x, y, h1, h2, rfl⟩ := pairs_get h
  obtain ⟨_, rfl⟩ := rngs_get h1
  exact ⟨y, h2, by simp⟩
theorem itd_enum {Hs : Hp} {a : Src} {xs : List V} {ds : List D} (h1 : ∀ H, Sub Hs H → a.has c.K H xs) (d1 : DqAll c.K Hs xs ds) : ItD c (IteS c.K a) (numbered ds) Hs := fun i B Hs2 H2 s w => by
  have k1 := h1 H2 (s.trans w.sub)
  refine ⟨fun d hd => ?_, fun hl => ?_⟩
  · obtain ⟨x, e1, rfl⟩ := numbered_get hd
    obtain ⟨v, f1, g1⟩ := d1.get e1
    refine ⟨⟨xs, v, k1, f1⟩, fun z H3 hz => ?_⟩
    obtain ⟨T, x', rfl, hT, rfl, q1⟩ := hz
    have e3 : x' = v := Option.some.inj ((q1 xs k1).symm.trans f1)
    subst e3
    exact newPair w hT (.int _) (dq_mono s g1)
  · unfold numbered at hl
    rw [pairs_length, rngs_length, Nat.min_self] at hl
    exact ⟨xs, k1, by rw [d1.length]; exact hl⟩
def dEnum (ta : TD) : TId := fun Γ Q E => ta Γ (fun s => asD s fun x => match x with
  | .list ds => Q (numbered ds)
  | .tuple ds => Q (numbered ds)
  | _ => False) E
theorem di_enum {e : Expr} {ta : TD} {p pos tpos : Pos} {elts : List Expr} {kk : Nat} (hg : Gl X "enumerate") (hm : X.mg "enumerate" = none) (ha : DE c X e ta) (hK : X.K = c.K := by rfl) (hs : starEach [e] X.env = [(false, eval e X.env)] := by rfl) :
    DI c X (.Tuple elts kk tpos) (.Call (.Name "enumerate" p) [e] [] pos) (dEnum ta) := by
  have ha' : DA c X [e] (dCons ta dNil) := da_cons ha da_nil hs
  refine ⟨fun Γ Q Q' E E' h1 h2 q => ha.mono _ _ _ _ _ (fun s q => asD_mono (fun x q => ?_) q) h2 q, fun W tk => (pi_enumS hg hm (ha'.run W tk) hs).imp fun σ H R ⟨Γ, B, Hs, r, q⟩ => ?_⟩
  · split at q
    · exact h1 _ q
    · exact h1 _ q
    · exact q.elim
  refine ⟨Γ, B, Hs, r, ha.mono _ _ _ _ _ (fun s q vs Hs1 H1 fp t w vr nw => ?_) (fun _ z => z) q⟩
  obtain ⟨Hs2, s2, w2, v2, n2⟩ := vr.nrm w
  have t2 : Stp B Hs H Hs2 H1 := t.close s2 fun a h1 h2 => nw a (n2 a h1 h2)
  have q' : asDs [s] fun dd => ∃ x, dd = [x] ∧ (match x with
    | .list ds => (numbered ds).length ≤ 16777216 → ∀ (J : It) (Hs' H' : Hp), Stp B Hs H Hs' H' → WS B Hs' H' → ItD c J (numbered ds) Hs' → R J H'
    | .tuple ds => (numbered ds).length ≤ 16777216 → ∀ (J : It) (Hs' H' : Hp), Stp B Hs H Hs' H' → WS B Hs' H' → ItD c J (numbered ds) Hs' → R J H'
    | _ => False) := asD_mono (fun x q => ⟨x, rfl, q⟩) q
  clear q
  obtain ⟨dd, d2, x, rfl, q⟩ := v2.data q'
  cases d2 with
  | cons v2 d3 =>
    cases d3
    have ln : ∀ ds : List D, (numbered ds).length = ds.length := fun ds => by unfold numbered; rw [pairs_length, rngs_length, Nat.min_self]
    split at q
    · cases v2 with
      | lst h1 h2 =>
        rename_i a xs
        refine ⟨.lst a, xs, rfl, (fun x z => by cases z), SqL.of (w2.sub _ _ h1), fun sm => ?_⟩
        rw [hK]
        exact q (by rw [ln, ← h2.length, line_eq]; exact sm) _ Hs2 H1 t2 w2 (itd_enum (fun H s => SqL.of (s _ _ h1)) h2)
    · cases v2 with
      | tup h1 h2 =>
        rename_i a xs
        refine ⟨.tup a, xs, rfl, (fun x z => by cases z), (by rw [hK]; exact sqT_mono w2.sub h1), fun sm => ?_⟩
        rw [hK]
        exact q (by rw [ln, ← h2.length, line_eq]; exact sm) _ Hs2 H1 t2 w2 (itd_enum (fun H s => sqT_mono s h1) h2)
    · exact q.elim
end
end DL
/-! tuple * 0, tuple * 1; list.remove, list.count of items by data -/
namespace PySem.SeqAt
open AutoSeq1 (wpAny_loadPart')
open MeetsSeq MeetsSeq2 MeetsSeq3 SeqRoads2
theorem dl_remove_loop (l : Addr) (items : Array Value) (n : Nat) (x : Value) (e : Value → Bool) (j : Nat) (hj : j < items.size) (hit : e items[j] = true) (hs1 : items.size ≤ sizeLine) (k : Nat) :
    ∀ i : Nat, j - i = k → i ≤ j → (∀ m (hm : m < items.size), i ≤ m → m < j → e items[m] = false) → Meets (Builtin.«list.remove.loop» ⟨[.ref l, x, rawInt i], []⟩)
      (fun A R s => s.heap.get? l = some { cls := .type "list", dict := none, data := .seq items n, slots := #[] } ∧ (∀ y, y ∈ items → EqAt A.in1 s y x (e y)) ∧ R (.ok (.ret .none)) { s with heap := s.heap.update l (Obj.mapSeq fun xs => xs.eraseIdxIfInBounds j) }) := by
  induction k with
  | zero =>
    intro i hk hij hno prog w A R s h
    obtain ⟨hp, g, d, tk, os⟩ := s; obtain ⟨hl, he, h⟩ := h
    have hij' : i = j := by omega
    subst hij'
    wp_walk using wpAny_loadPart' hl
    have hi : items[((i : Nat) : Int).toNat]? = some items[i] := by simp [hj]
    rw [hi]
    refine wpAny_bind (he _ (Array.getElem_mem hj) prog w _ _ ?_)
    rw [hit]
    have hz' : (items.eraseIdxIfInBounds i).size ≤ sizeLine + 1 := Nat.le_trans (size_erased items _) (Nat.le_succ_of_le hs1)
    wp_walk using (wpAny_updateSeq hl rfl (hz := hs1) (_hz' := hz')), wpAny_loadPart' hl
    simpa using h
  | succ k ih =>
    intro i hk hij hno prog w A R s h
    obtain ⟨hp, g, d, tk, os⟩ := s; obtain ⟨hl, he, h⟩ := h
    have hlt : i < items.size := by omega
    wp_walk using wpAny_loadPart' hl
    have hi : items[((i : Nat) : Int).toNat]? = some items[i] := by simp [hlt]
    have hc : ((i : Int) + 1) = ((i + 1 : Nat) : Int) := by push_cast; rfl
    rw [hi]
    refine wpAny_bind (he _ (Array.getElem_mem hlt) prog w _ _ ?_)
    rw [hno i hlt (Nat.le_refl _) (by omega)]
    wp_walk
    rw [hc]
    exact ⟨plainId_quiet plain_remove_loop _, codeAny_builtin entry_remove_loop (by
      rw [Around.under_plainId plain_remove_loop _]
      exact ih (i + 1) (by omega) (by omega) (fun m hm h1 h2 => hno m hm (by omega) h2) prog w A R _ ⟨hl, he, h⟩)⟩
theorem dl_remove (l : Addr) (items : Array Value) (n : Nat) (x : Value) (e : Value → Bool) (j : Nat) (hj : j < items.size)
    (hit : e items[j] = true) (hno : ∀ m (hm : m < items.size), m < j → e items[m] = false) (hs1 : items.size ≤ sizeLine) :
    Meets (Builtin.«list.remove» ⟨[.ref l, x], []⟩)
      (fun A R s => s.heap.get? l = some { cls := .type "list", dict := none, data := .seq items n, slots := #[] } ∧ (∀ y, y ∈ items → EqAt A.in1 s y x (e y)) ∧ R (.ok (.ret .none)) { s with heap := s.heap.update l (Obj.mapSeq fun xs => xs.eraseIdxIfInBounds j) }) := by
  intro prog w A R s h
  obtain ⟨hp, g, d, tk, os⟩ := s; obtain ⟨hl, he, h⟩ := h
  wp_walk using wpAny_loadPart' hl
  exact ⟨plainId_quiet plain_remove_loop _, codeAny_builtin entry_remove_loop (by
    rw [Around.under_plainId plain_remove_loop _]
    exact dl_remove_loop l items n x e j hj hit hs1 _ 0 rfl (Nat.zero_le _) (fun m hm _ h2 => hno m hm h2) prog w A R _ ⟨hl, he, h⟩)⟩
end PySem.SeqAt
namespace DL
open PySem PySem.Spec PyProof.Rows L2

theorem tuple_mul1 (l : Addr) (items : Array Value) (n : Nat) (dd : Option Addr) (sl : Array (Option Value)) (x : Int) (u : Tok) (c0 : (decide (x < -(2 ^ 63)) || decide (x ≥ 2 ^ 63)) = false) (c1 : (items.isEmpty || x == 1) = true) :
    Meets (Builtin.«tuple.__mul__» ⟨[.ref l, .int x u], []⟩) (fun _ R s => s.heap.get? l = some { cls := .type "tuple", dict := dd, data := .seq items n, slots := sl } ∧ R (.ok (.ret (Value.ref l))) s) :=
  .of_wp fun prog w A R s h => by
    obtain ⟨hp, g, d, tk, os⟩ := s
    obtain ⟨hl, h⟩ := h
    have f1 := AutoSeq1.idx_int
    wp_walk using wpAny_loadPart' hl
    repeat (first
      | (refine wpAny_ite_false (decide_eq_false (by rw [c0]; exact Bool.false_ne_true)) ?_; wp_walk using wpAny_loadPart' hl)
      | (refine wpAny_ite_true (decide_eq_true c1) ?_; wp_walk using wpAny_loadPart' hl))
    exact ⟨_, rfl, h⟩
theorem tuple_mul0 (l : Addr) (items : Array Value) (n : Nat) (dd : Option Addr) (sl : Array (Option Value)) (x : Int) (u : Tok) (c0 : (decide (x < -(2 ^ 63)) || decide (x ≥ 2 ^ 63)) = false) (c1 : (items.isEmpty || x == 1) = false) (c2 : (decide (x ≤ 0) || items.isEmpty) = true) :
    Meets (Builtin.«tuple.__mul__» ⟨[.ref l, .int x u], []⟩) (fun _ R s => s.heap.get? l = some { cls := .type "tuple", dict := dd, data := .seq items n, slots := sl } ∧
      R (.ok (.ret (Value.ref s.heap.objs.size))) { s with heap := s.heap.push { cls := Value.type "tuple", data := Data.seq #[] }, toks := s.toks }) :=
  .of_wp fun prog w A R s h => by
    obtain ⟨hp, g, d, tk, os⟩ := s
    obtain ⟨hl, h⟩ := h
    have f1 := AutoSeq1.idx_int
    wp_walk using wpAny_loadPart' hl
    repeat (first
      | (refine wpAny_ite_false (decide_eq_false (by rw [c0]; exact Bool.false_ne_true)) ?_; wp_walk using wpAny_loadPart' hl)
      | (refine wpAny_ite_false (decide_eq_false (by rw [c1]; exact Bool.false_ne_true)) ?_; wp_walk using wpAny_loadPart' hl)
      | (refine wpAny_ite_true (decide_eq_true c2) ?_; wp_walk using wpAny_loadPart' hl))
    exact ⟨_, rfl, h⟩
def rRepT1 (K : PySem.W.Frag) : R2 := fun x y H Q => ∃ l k xs, x = .ref l ∧ y = .int k ∧ SqT K H l xs ∧ -(2 ^ 63) ≤ k ∧ k < 2 ^ 63 ∧ (xs = [] ∨ k = 1) ∧ Q (.ref l) H
def rRepT0 (K : PySem.W.Frag) : R2 := fun x y H Q => ∃ l k xs, x = .ref l ∧ y = .int k ∧ SqT K H l xs ∧ xs ≠ [] ∧ -(2 ^ 63) ≤ k ∧ k ≤ 0 ∧ ∀ p, H p = none → Q (.ref p) (upd H p (.tup []))
section
variable {X : Cx}
theorem op_repT1 : OpR X (binaryOp .Mult) (rRepT1 X.K) := by
  intro pins s σ H x y v u Q I rx ry h
  obtain ⟨l, k, xs, rfl, rfl, hT, h1, h2, hk, q⟩ := h
  cases rx
  obtain ⟨t, rfl⟩ := ry
  obtain ⟨its, r, ⟨⟨cls, dd, data, sl⟩, ho, hc, n, hd⟩, hs⟩ := I.tuple hT
  simp only at hc hd
  subst hc hd
  have c0 : (decide (k < -(2 ^ 63)) || decide (k ≥ 2 ^ 63)) = false := by
    rw [decide_eq_false (by omega), decide_eq_false (by omega)] <;> rfl
  have c1 : (its.toArray.isEmpty || k == 1) = true := by
    rcases hk with rfl | rfl
    · cases r; rfl
    · simp
  exact wpAny_binaryOp_repeat_ref (T := "tuple") (U := "int") (by decide) ⟨_, ho, rfl⟩ (fun s' => typeIs_int s' k t) noFill_tuple_mul F.fills_int_mul F.slot_int_rmul repeat_tuple F.slot_int_index.lookup
    (call_meets F.slot_int_rmul (typeIs_int s k t) F.entry_int_rmul (F.args_int_rmul_2 _ _) (int_rmul_tuple k t l its.toArray n dd sl)
      ⟨ho, rfl, ⟨_, ho, rfl⟩, call_meets F.slot_tuple_mul ⟨_, ho, rfl⟩ F.entry_tuple_mul (F.args_tuple_mul_2 _ _) (tuple_mul1 l its.toArray n dd sl k t c0 c1) ⟨ho, .ref l, H, I, rfl, q⟩⟩)
theorem op_repT0 : OpR X (binaryOp .Mult) (rRepT0 X.K) := by
  intro pins s σ H x y v u Q I rx ry h
  obtain ⟨l, k, xs, rfl, rfl, hT, hne, h1, h2, q⟩ := h
  cases rx
  obtain ⟨t, rfl⟩ := ry
  obtain ⟨its, r, ⟨⟨cls, dd, data, sl⟩, ho, hc, n, hd⟩, hs⟩ := I.tuple hT
  simp only at hc hd
  subst hc hd
  have c0 : (decide (k < -(2 ^ 63)) || decide (k ≥ 2 ^ 63)) = false := by
    rw [decide_eq_false (by omega), decide_eq_false (by omega)] <;> rfl
  have hi : its.toArray.isEmpty = false := by
    cases r with
    | nil => exact absurd rfl hne
    | cons a b => rfl
  have c1 : (its.toArray.isEmpty || k == 1) = false := by
    rw [hi, Bool.false_or]
    exact beq_eq_false_iff_ne.mpr (by omega)
  have c2 : (decide (k ≤ 0) || its.toArray.isEmpty) = true := by
    rw [decide_eq_true h2]; rfl
  refine wpAny_binaryOp_repeat_ref (T := "tuple") (U := "int") (by decide) ⟨_, ho, rfl⟩ (fun s' => typeIs_int s' k t) noFill_tuple_mul F.fills_int_mul F.slot_int_rmul repeat_tuple F.slot_int_index.lookup
    (call_meets F.slot_int_rmul (typeIs_int s k t) F.entry_int_rmul (F.args_int_rmul_2 _ _) (int_rmul_tuple k t l its.toArray n dd sl)
      ⟨ho, rfl, ⟨_, ho, rfl⟩, call_meets F.slot_tuple_mul ⟨_, ho, rfl⟩ F.entry_tuple_mul (F.args_tuple_mul_2 _ _) (tuple_mul0 l its.toArray n dd sl k t c0 c1 c2) ⟨ho, ?_⟩⟩)
  refine ⟨.ref s.heap.objs.size, _, I.laid (t' := s.toks) (o := .tup []) (fun b ob q => Heap.get?_push_of_some _ q) (Nat.le_refl _) ?_, rfl, q _ (I.hok.fresh (Nat.le_refl _))⟩
  exact ⟨Nat.zero_le _, [], .nil, IsTup.new _ _⟩
/-- l.remove(x) by data: the first equal one goes -/
def rRemD (K : PySem.W.Frag) : V → List V → Hp → VK → Prop := fun x xs H Q => ∃ (a : Addr) (ws : List V) (y : V) (d : PyData) (ds : List PyData) (j : Nat) (z : PyData), x = V.ref a ∧ xs = [y] ∧ H a = some (.lst ws) ∧ DpAll K H ws ds ∧ Dp K H y d ∧
  SeqAt.shaped (.list ds) = true ∧ SeqAt.shaped d = true ∧ ds[j]? = some z ∧ PyData.eqv z d = true ∧ (∀ (m : Nat) (z' : PyData), m < j → ds[m]? = some z' → PyData.eqv z' d = false) ∧ Q .non (upd H a (.lst (ws.eraseIdx j)))
theorem mt_removeD (hu : X.A.units + 65 < cLine) : MtR X "list.remove" (rRemD X.K) := by
  intro pins s σ H x xs v us Q I rx rxs h
  obtain ⟨a, ws, y, d, ds, j, z, rfl, rfl, hH, ha, hy, sl, sd, hz, hzj, hno, q⟩ := h
  cases rx
  obtain ⟨uy, rfl, ry⟩ := rxs.one
  obtain ⟨bs, r1⟩ := Dp.reads I d y uy hy ry
  have hxs : PyData.canLayAll0 ds = true := SeqAt.canLay_of_shaped sl
  have hroom : X.A.units + 1 + min (PyData.depthAll ds) d.depth < cLine := room_in_shaped sd hu
  obtain ⟨zz, its, n, rv, hl, ho⟩ := I.lstM hH
  obtain ⟨as, h4⟩ := Dp.readsAll I ds _ its ha rv
  have hn : its.length = ds.length := SeqAt.ReadsAll.length ds its as h4
  have hmap : its.map (SeqAt.readOf s.heap) = ds := SeqAt.readsAll_map ds its as hxs h4
  obtain ⟨hjd, _⟩ := List.getElem?_eq_some_iff.mp hz
  have hjl : j < its.length := by omega
  have hj : j < its.toArray.size := by simpa using hjl
  have at_ : ∀ (m : Nat) (hm : m < its.toArray.size) (z' : PyData), ds[m]? = some z' → SeqAt.readOf s.heap its.toArray[m] = z' := by
    intro m hm z' hz'
    have hml : m < its.length := by simpa using hm
    rw [← hmap, List.getElem?_map, List.getElem?_eq_getElem hml] at hz'
    have e1 : SeqAt.readOf s.heap its[m] = z' := Option.some.inj (show some (SeqAt.readOf s.heap its[m]) = some z' from hz')
    simpa using e1
  refine call_meets PySem.F.slot_list_remove ⟨_, ho, rfl⟩ PySem.F.entry_list_remove (PySem.F.args_list_remove_2 _ _)
    (SeqAt.dl_remove a its.toArray n uy (fun u => PyData.eqv (SeqAt.readOf s.heap u) d) j hj ?_ ?_ (by rw [List.size_toArray, ← hl]; exact zz)) ⟨ho, SeqAt.items_eqAt (vs := its.toArray) (show ReadsAll s.heap its.toArray.toList ds as from h4) r1 hxs (SeqAt.canLay_of_shaped sd) hroom, ?_⟩
  · show PyData.eqv (SeqAt.readOf s.heap its.toArray[j]) d = true
    rw [at_ j hj z hz]
    exact hzj
  · intro m hm hmj
    have hmd : m < ds.length := by omega
    have hz' : ds[m]? = some ds[m] := List.getElem?_eq_getElem hmd
    show PyData.eqv (SeqAt.readOf s.heap its.toArray[m]) d = false
    rw [at_ m hm _ hz']
    exact hno m _ hmj hz'
  · refine ⟨.non, _, I.lset (its' := its.eraseIdx j) (t' := s.toks) hH ho ?_ (rv.eraseIdx j) ?_, rfl, q⟩
    · show its.toArray.eraseIdxIfInBounds j = (its.eraseIdx j).toArray
      rw [List.eraseIdxIfInBounds_toArray]
    · have z2 := List.length_eraseIdx_le (l := ws) (i := j)
      omega
/-- l.count(x) by data -/
def rCountD (K : PySem.W.Frag) : V → List V → Hp → VK → Prop := fun x xs H Q => ∃ (a : Addr) (y : V) (d : PyData) (ds : List PyData), x = V.ref a ∧ xs = [y] ∧ Dp K H (V.ref a) (.list ds) ∧ Dp K H y d ∧
  SeqAt.shaped (.list ds) = true ∧ SeqAt.shaped d = true ∧ Q (.int (ds.countP fun z => PyData.eqv z d : Nat)) H
theorem mt_countD (hu : X.A.units + 65 < cLine) : MtR X "list.count" (rCountD X.K) := by
  intro pins s σ H x xs v us Q I rx rxs h
  obtain ⟨a, y, d, ds, rfl, rfl, hl, hy, sl, sd, q⟩ := h
  cases rx
  obtain ⟨uy, rfl, ry⟩ := rxs.one
  obtain ⟨bs, r1⟩ := Dp.reads I d y uy hy ry
  have hxs : PyData.canLayAll0 ds = true := SeqAt.canLay_of_shaped sl
  have hroom : X.A.units + 1 + min (PyData.depthAll ds) d.depth < cLine := room_in_shaped sd hu
  cases hl with
  | lst hs ha =>
    obtain ⟨its, rv, ⟨⟨cls, dd, data, sls⟩, n, ho, hc, hdn, hdt⟩, hlen⟩ := I.list hs
    simp only at hc hdt
    subst hc hdt
    obtain ⟨as, h4⟩ := Dp.readsAll I ds _ its ha rv
    have hmap : its.map (SeqAt.readOf s.heap) = ds := SeqAt.readsAll_map ds its as hxs h4
    refine call_meets PySem.F.slot_list_count ⟨_, ho, rfl⟩ PySem.F.entry_list_count (PySem.F.args_list_count_2 _ _)
      (SeqAt.list_countAt a its.toArray n dd sls uy (fun u => PyData.eqv (SeqAt.readOf s.heap u) d)) ⟨ho, SeqAt.items_eqAt (vs := its.toArray) (show ReadsAll s.heap its.toArray.toList ds as from h4) r1 hxs (SeqAt.canLay_of_shaped sd) hroom, ?_⟩
    have e : List.countP (fun u => PyData.eqv (SeqAt.readOf s.heap u) d) its.toArray.toList = List.countP (fun z => PyData.eqv z d) ds := by
      rw [← hmap, List.countP_map]
      rfl
    show EP X pins σ Q (Value.int ((its.toArray.toList.countP fun u => PyData.eqv (SeqAt.readOf s.heap u) d : Nat) : Int) s.toks) _
    rw [e]
    exact ⟨.int _, H, I.tok _, ⟨_, rfl⟩, q⟩
end

section
variable {c : Gd} {X : Cx}
/-! ### a * b with short tuples -/
def gMulT : G2 := fun x y Q => match x, y with
  | .int a, .int b => CMul a b ∧ Q (.sh (.int (a * b)))
  | .list a, .int k => (-(2 ^ 63) ≤ k ∧ k < 2 ^ 63 ∧ a.length * k.toNat ≤ 16777216) ∧ Q (.own (rep a k))
  | .tuple a, .int k => (-(2 ^ 63) ≤ k ∧ k ≤ 1000 ∧ a.length ≤ 1000) ∧ Q (.sh (.tuple (rep a k)))
  | _, _ => False
theorem gMulT_mono : Mono2 gMulT := fun x y Q Q' h q => by
  unfold gMulT at q ⊢
  split at q
  · exact ⟨q.1, h _ q.2⟩
  · exact ⟨q.1, h _ q.2⟩
  · exact ⟨q.1, h _ q.2⟩
  · exact q.elim
theorem rep_one {a : List D} : rep a 1 = a := by
  unfold rep
  simp
theorem rep_nil {k : Int} : rep [] k = [] := by
  unfold rep
  rw [List.flatten_replicate_nil]
theorem rep_zero {a : List D} {k : Int} (h : k ≤ 0) : rep a k = [] := by
  unfold rep
  rw [Int.toNat_of_nonpos h]
  rfl
theorem opd_mulT (hK : X.K = c.K) : OpR X (binaryOp .Mult) (rD c gMulT) := by
  intro pins s σ H x y v u Q I rx ry ⟨B, Hs, dx, dy, w, hx, hy, q⟩
  unfold gMulT at q
  split at q
  · exact opd_mul hK pins s σ H x y v u Q I rx ry ⟨B, Hs, _, _, w, hx, hy, q⟩
  · exact opd_mul hK pins s σ H x y v u Q I rx ry ⟨B, Hs, _, _, w, hx, hy, q⟩
  · obtain ⟨⟨q1, q2, q3⟩, q⟩ := q
    rename_i a k
    by_cases e1 : a = [] ∨ k = 1
    · have er : rep a k = a := by
        rcases e1 with rfl | rfl
        · exact rep_nil
        · exact rep_one
      rw [er] at q
      cases hy
      cases hx with
      | tup h1 h2 =>
        refine op_repT1 pins s σ H _ _ v u Q I rx ry ⟨_, _, _, rfl, rfl, by rw [hK]; exact sqT_mono w.sub h1, q1, by omega, ?_, q.dp Stp.refl w (.tup h1 h2)⟩
        rcases e1 with rfl | e1
        · cases h2; exact .inl rfl
        · exact .inr e1
    · have e2 : a ≠ [] := fun z => e1 (.inl z)
      have e3 : k ≠ 1 := fun z => e1 (.inr z)
      by_cases e4 : k ≤ 0
      · rw [rep_zero e4] at q
        cases hy
        cases hx with
        | tup h1 h2 =>
          refine op_repT0 pins s σ H _ _ v u Q I rx ry ⟨_, _, _, rfl, rfl, by rw [hK]; exact sqT_mono w.sub h1, fun e => ?_, q1, e4, fun p hp => q.tup Stp.refl w .nil hp⟩
          subst e
          cases h2
          exact e2 rfl
      · exact opd_mul hK pins s σ H x y v u Q I rx ry ⟨B, Hs, _, _, w, hx, hy, ⟨e2, by omega, q2, q3⟩, q⟩
  · exact q.elim
/-! ### x in (..), items flat -/
def flatD : D → Bool
  | .none => true
  | .bool _ => true
  | .int _ => true
  | .str _ => true
  | _ => false
theorem flat_of {K : PySem.W.Frag} {H : Hp} {v : V} {d : D} (h : Dq K H v d) (f : flatD d = true) : flatV v = true := by
  cases h <;> first | rfl | exact absurd f (by unfold flatD; exact Bool.false_ne_true)
theorem eqV_of {K : PySem.W.Frag} {H : Hp} {v w : V} {d e : D} (h : Dq K H v d) (h' : Dq K H w e) (f : flatD d = true) (f' : flatD e = true) : eqV v w = PyData.eqv d e := by
  cases h <;> cases h' <;> first | rfl | (unfold eqV PyData.eqv; rfl) | exact absurd f (by unfold flatD; exact Bool.false_ne_true) | exact absurd f' (by unfold flatD; exact Bool.false_ne_true)
theorem flats_of {K : PySem.W.Frag} {H : Hp} : ∀ {vs : List V} {ds : List D}, DqAll K H vs ds → ds.all flatD = true → vs.all flatV = true
  | _, _, .nil, _ => rfl
  | _, _, .cons h t, f => by
    rw [List.all_cons, Bool.and_eq_true] at f ⊢
    exact ⟨flat_of h f.1, flats_of t f.2⟩
theorem inV_of {K : PySem.W.Frag} {H : Hp} {w : V} {e : D} (h' : Dq K H w e) (f' : flatD e = true) : ∀ {vs : List V} {ds : List D}, DqAll K H vs ds → ds.all flatD = true → inV w vs = ds.any fun z => PyData.eqv z e
  | _, _, .nil, _ => rfl
  | _, _, .cons h t, f => by
    rw [List.all_cons, Bool.and_eq_true] at f
    have ih := inV_of h' f' t f.2
    unfold inV at ih ⊢
    rw [List.any_cons, List.any_cons, eqV_of h h' f.1 f', ih]
/-- x in y: a list of data; a tuple of flat items -/
def gInA (neg : Bool) : G2 := fun x y Q => match y with
  | .list ds => Shp x ∧ Shp (.list ds) ∧ Q (.sh (.bool ((ds.any fun z => PyData.eqv z x) != neg)))
  | .tuple ds => flatD x = true ∧ ds.all flatD = true ∧ Q (.sh (.bool ((ds.any fun z => PyData.eqv z x) != neg)))
  | _ => False
theorem gInA_mono {neg : Bool} : Mono2 (gInA neg) := fun x y Q Q' h q => by
  unfold gInA at q ⊢
  split at q
  · exact ⟨q.1, q.2.1, h _ q.2.2⟩
  · exact ⟨q.1, q.2.1, h _ q.2.2⟩
  · exact q.elim
theorem opd_inA (hK : X.K = c.K) (hu : X.A.units + 65 < cLine) : OpR X (compareOp .In) (rD c (gInA false)) := by
  intro pins s σ H x y v u Q I rx ry ⟨B, Hs, dx, dy, w, hx, hy, q⟩
  unfold gInA at q
  split at q
  · exact opd_in hK hu pins s σ H x y v u Q I rx ry ⟨B, Hs, _, _, w, hx, hy, q⟩
  · obtain ⟨q1, q2, q⟩ := q
    cases hy with
    | tup h1 h2 =>
      refine op_in_seq pins s σ H _ _ v u Q I rx ry ⟨_, _, rfl, .inr (by rw [hK]; exact sqT_mono w.sub h1), flat_of hx q1, flats_of h2 q2, ?_⟩
      rw [if_neg Bool.false_ne_true, inV_of hx q1 h2 q2]
      rw [Bool.bne_false] at q
      exact q.dp Stp.refl w (.bl _)
  · exact q.elim
theorem opd_notInA (hK : X.K = c.K) (hu : X.A.units + 65 < cLine) : OpR X (compareOp .NotIn) (rD c (gInA true)) := by
  intro pins s σ H x y v u Q I rx ry ⟨B, Hs, dx, dy, w, hx, hy, q⟩
  unfold gInA at q
  split at q
  · exact opd_notIn hK hu pins s σ H x y v u Q I rx ry ⟨B, Hs, _, _, w, hx, hy, q⟩
  · obtain ⟨q1, q2, q⟩ := q
    cases hy with
    | tup h1 h2 =>
      refine op_notIn_seq pins s σ H _ _ v u Q I rx ry ⟨_, _, rfl, .inr (by rw [hK]; exact sqT_mono w.sub h1), flat_of hx q1, flats_of h2 q2, ?_⟩
      rw [if_pos rfl, inV_of hx q1 h2 q2]
      rw [Bool.bne_true] at q
      exact q.dp Stp.refl w (.bl _)
  · exact q.elim
/-! ### a op b op c -/
def dChain (g g' : G2) (ta tb tc : TD) : TD := fun Γ Q E => ta Γ (fun s => tb Γ (fun u => asD s fun x => asD u fun y => g x y fun r => bo r fun k => if k = true then tc Γ (fun z => asD z fun w => g' y w Q) E else Q (.sh (.bool false))) E) E
theorem dChain_mono {g g' : G2} {ta tb tc : TD} (hg : Mono2 g) (hg' : Mono2 g') (ha : Mono ta) (hb : Mono tb) (hc : Mono tc) : Mono (dChain g g' ta tb tc) := fun Γ Q Q' E E' h1 h2 q =>
  ha Γ _ _ _ _ (fun s q => hb Γ _ _ _ _ (fun u q => asD_mono (fun x q => asD_mono (fun y q => hg x y _ _ (fun r q => bo_mono (fun k q => ite_mono (fun q => hc Γ _ _ _ _ (fun z q => asD_mono (fun w q => hg' y w _ _ h1 q) q) h2 q) (fun q => h1 _ q) q) q) q) q) q) h2 q) h2 q
theorem chain_of {W : WX} {g g' : G2} {ta tb tc : TD} {σ : L2.St} {H : Hp} {Q : VK} (hg : Mono2 g) (hg' : Mono2 g') (ha : Mono ta) (hb : Mono tb) (hc : Mono tc) (h : lE c W (dChain g g' ta tb tc) σ H Q) :
    tChain (rD c g) (rD c g') (lE c W ta) (lE c W tb) (lE c W tc) σ H Q := by
  obtain ⟨Γ, B, Hs, r, q⟩ := h
  refine ⟨Γ, B, Hs, r, ha Γ _ _ _ _ (fun s q v Hs1 H1 fp t w vr nw => ?_) (fun _ z => z) q⟩
  refine ⟨Γ, B, Hs1, r.step t w, hb Γ _ _ _ _ (fun u q v2 Hs2 H2 fq t2 w2 vr2 nw2 => ?_) (fun x z => z.on t) q⟩
  have vs : VRs c.K B Hs2 H2 [v, v2] [s, u] (fp ++ (fq ++ [])) := .cons (vr.stp t2) (.cons vr2 .nil fun a _ h => by cases h) fun a h1 h2 => (vr.fpok a h1).2.2 (nw2 a (by simpa using h2))
  obtain ⟨Hs3, s3, w3, v3, n3⟩ := vs.nrm w2
  have q' := show asDs [s, u] fun ds => ∃ x y, ds = [x, y] ∧ g x y fun r => bo r fun k => if k = true then tc Γ (fun z => asD z fun w => g' y w (Aft c B Hs H Q)) (Exf c W σ B Hs H) else Aft c B Hs H Q (.sh (.bool false)) from asD_mono (fun x q => asD_mono (fun y q => ⟨x, y, rfl, q⟩) q) q
  obtain ⟨ds, d1, x, y, rfl, q'⟩ := v3.data q'
  have t3 : Stp B Hs H Hs3 H2 := (t.trans t2).close s3 fun a h1 h2 => by
    rcases List.mem_append.mp (n3 a h1 h2) with z | z
    · exact nw a z
    · exact t.none (nw2 a (by simpa using z))
  cases d1 with
  | cons dx d1 =>
    cases d1 with
    | cons dy d1 =>
      refine ⟨B, Hs3, x, y, w3, dx, dy, hg x y _ _ (fun rr z v4 Hs4 H4 f4 t4 w4 vr4 nw4 => ?_) q'⟩
      obtain ⟨k, e', z2⟩ := bo_sh z
      clear z
      have z := z2
      clear z2
      subst e'
      refine ⟨k, vr4.bool, ?_⟩
      have t34 := t3.trans t4
      cases k with
      | false =>
        rw [if_neg Bool.false_ne_true] at z ⊢
        exact z.bool t34 w4
      | true =>
        rw [if_pos rfl] at z ⊢
        refine ⟨Γ, B, Hs4, r.step t34 w4, hc Γ _ _ _ _ (fun s5 q v5 Hs5 H5 f5 t5 w5 vr5 nw5 => ?_) (fun x z => z.on t34) z⟩
        obtain ⟨Hs6, s6, w6, v6, n6⟩ := vr5.nrm w5
        obtain ⟨d6, e6, q⟩ := asD_nrm q
        rw [e6] at v6
        have t6 : Stp B Hs4 H4 Hs6 H5 := t5.close s6 fun a h1 h2 => nw5 a (n6 a h1 h2)
        exact ⟨B, Hs6, y, d6, w6, dq_mono (t4.trans t6).hs dy, v6.2, hg' _ _ _ _ (fun s z => z.on (t34.trans t6)) q⟩
theorem de_chain {op op' : CmpOp} {g g' : G2} {a b e : Expr} {ta tb tc : TD} {pos : Pos} (ho : OpR X (compareOp op) (rD c g)) (ho' : OpR X (compareOp op') (rD c g')) (hg : Mono2 g) (hg' : Mono2 g') (ha : DE c X a ta) (hb : DE c X b tb) (hc : DE c X e tc)
    (hm : lastMarks [op, op'] [b, e] = false := by with_unfolding_all rfl) : DE c X (.Compare a [op, op'] [b, e] pos) (dChain g g' ta tb tc) :=
  ⟨dChain_mono hg hg' ha.mono hb.mono hc.mono, fun W tk => (pe_chain ho ho' (ha.run W tk) (hb.run W tk) (hc.run W tk) hm).imp fun σ H Q h => chain_of hg hg' ha.mono hb.mono hc.mono h⟩
theorem dt_chain {op op' : CmpOp} {g g' : G2} {a b e : Expr} {ta tb tc : TD} {pos : Pos} (ho : OpR X (compareOp op) (rD c g)) (ho' : OpR X (compareOp op') (rD c g')) (hg : Mono2 g) (hg' : Mono2 g') (ha : DE c X a ta) (hb : DE c X b tb) (hc : DE c X e tc)
    (hm : lastMarks [op, op'] [b, e] = false := by with_unfolding_all rfl) : DT c X (.Compare a [op, op'] [b, e] pos) (dTest (dChain g g' ta tb tc)) :=
  ⟨dTest_mono (dChain_mono hg hg' ha.mono hb.mono hc.mono), fun W tk => (pt_chain ho ho' (ha.run W tk) (hb.run W tk) (hc.run W tk) hm).imp fun σ H Q h => chain_of hg hg' ha.mono hb.mono hc.mono (test_of (dChain_mono hg hg' ha.mono hb.mono hc.mono) h)⟩
/-! ### methods that give a value -/
def TyD (T : String) : D → Prop
  | .list _ => T = "list"
  | .str _ => T = "str"
  | _ => False
abbrev GV := D → List D → SK → Prop
def MonoV (g : GV) : Prop := ∀ d ds Q Q', (∀ s, Q s → Q' s) → g d ds Q → g d ds Q'
def dMv (T : String) (g : GV) (to : TD) (ta : TDa) : TD := fun Γ Q E => to Γ (fun s => asD s fun d => TyD T d ∧ ta Γ (fun ss => asDs ss fun ds => g d ds Q) E) E
theorem Dq.tyD {K : PySem.W.Frag} {Hs H : Hp} {T : String} {v : V} {d : D} (h : Dq K Hs v d) (sub : Sub Hs H) (t : TyD T d) : tyV K T v H := by
  cases h with
  | str x => exact t
  | lst h1 h2 => exact .inl ⟨t, _, SqL.of (sub _ _ h1)⟩
  | _ => exact t.elim
theorem de_mv {T id : String} {name : Str} {g : GV} {r : V → List V → Hp → VK → Prop} {o e : Expr} {es : List Expr} {to : TD} {ta : TDa} {apos cpos : Pos} (pa : PlainAttrs T) (slot : PySem.Slot T name id) (hty : typeOf (.builtin id) = pure (.type "method_descriptor")) (hm : MtR X id r) (hg : MonoV g)
    (hr : ∀ (B : AS) (Hs H : Hp) (Q : VK) (v : V) (vs : List V) (d : D) (ds : List D), WS B Hs H → Dq c.K Hs v d → DqAll c.K Hs vs ds → g d ds (Aft c B Hs H Q) → r v vs H Q)
    (ho : DE c X o to) (ha : DA c X (e :: es) ta) (hK : X.K = c.K := by rfl) (hbase : attributeBase o name X.env (eval o X.env) = eval o X.env := by rfl)
    (hfew : ((backTo cpos (starEach (e :: es) X.env)).all (fun x => !x.1) && (backToKw cpos (keywordEach [] X.env)).all (fun x => x.1.isSome)
      && decide ((e :: es).length + ([] : List Keyword).length + (if ([] : List Keyword).isEmpty then 0 else 1) < 30)) = true := by rfl)
    (hline : (apos.endLine == cpos.line) = true := by rfl) (hs : starEach (e :: es) X.env = (false, eval e X.env) :: starEach es X.env := by rfl) (hplain : (backTo cpos (starEach es X.env)).any (·.1) = false := by rfl) :
    DE c X (.Call (.Attribute o name apos) (e :: es) [] cpos) (dMv T g to ta) := by
  refine ⟨fun Γ Q Q' E E' h1 h2 q => ho.mono _ _ _ _ _ (fun s q => asD_mono (fun d q => ⟨q.1, ha.mono _ _ _ _ _ (fun ss q => asDs_mono (fun ds q => hg _ _ _ _ h1 q) q) h2 q.2⟩) q) h2 q,
    fun W tk => (pe_bm pa slot hty hm (ho.run W tk) (ha.run W tk) hbase hfew hline hs hplain).imp fun σ H Q ⟨Γ, B, Hs, rr, q⟩ => ?_⟩
  refine ⟨Γ, B, Hs, rr, ho.mono _ _ _ _ _ (fun s q v Hs1 H1 fp t w vr nw => ?_) (fun _ z => z) q⟩
  obtain ⟨Hs2, s2, w2, v2, n2⟩ := vr.nrm w
  obtain ⟨d, e, ty, q⟩ := asD_nrm q
  rw [e] at v2
  have t2 : Stp B Hs H Hs2 H1 := t.close s2 fun a h1 h2 => nw a (n2 a h1 h2)
  refine ⟨by rw [hK]; exact v2.2.tyD w2.sub ty, Γ, B, Hs2, rr.step t2 w2, ha.mono _ _ _ _ _ (fun ss q us Hs3 H3 fq t3 w3 vr3 nw3 => ?_) (fun x z => z.on t2) q⟩
  obtain ⟨Hs4, s4, w4, v4, n4⟩ := vr3.nrm w3
  obtain ⟨ds, d4, q⟩ := v4.data q
  have t4 : Stp B Hs2 H1 Hs4 H3 := t3.close s4 fun a h1 h2 => nw3 a (n4 a h1 h2)
  exact hr B Hs4 H3 Q v us d ds w4 (dq_mono t4.hs v2.2) d4 (hg _ _ _ _ (fun s z => z.on (t2.trans t4)) q)
/-- l.count(x), l.index(x) -/
def vCount : GV := fun d ds Q => match d, ds with
  | .list xs, [x] => Shp (.list xs) ∧ Shp x ∧ Q (.sh (.int (xs.countP fun z => PyData.eqv z x)))
  | _, _ => False
theorem vCount_mono : MonoV vCount := fun d ds Q Q' h q => by
  unfold vCount at q ⊢
  split at q
  · exact ⟨q.1, q.2.1, h _ q.2.2⟩
  · exact q.elim
theorem vCount_ok (hK : X.K = c.K) (B : AS) (Hs H : Hp) (Q : VK) (v : V) (vs : List V) (d : D) (ds : List D) (w : WS B Hs H) (h : Dq c.K Hs v d) (h' : DqAll c.K Hs vs ds) (q : vCount d ds (Aft c B Hs H Q)) : rCountD X.K v vs H Q := by
  unfold vCount at q
  split at q
  · cases h' with
    | cons h1 h2 =>
      cases h2
      have e1 := (dq_mono w.sub h).dp
      have e2 := (dq_mono w.sub h1).dp
      cases h with
      | lst a1 a2 => exact ⟨_, _, _, _, rfl, rfl, by rw [hK]; exact e1, by rw [hK]; exact e2, q.1, q.2.1, q.2.2.dp Stp.refl w (.int _)⟩
  · exact q.elim
def vIndex : GV := fun d ds Q => match d, ds with
  | .list xs, [x] => Shp (.list xs) ∧ Shp x ∧ ∃ j, xs.findIdx? (fun z => PyData.eqv z x) = some j ∧ Q (.sh (.int (j : Nat)))
  | _, _ => False
theorem vIndex_mono : MonoV vIndex := fun d ds Q Q' h q => by
  unfold vIndex at q ⊢
  split at q
  · obtain ⟨q1, q2, j, e, q⟩ := q
    exact ⟨q1, q2, j, e, h _ q⟩
  · exact q.elim
theorem find_at {xs : List D} {x : D} {j : Nat} (h : xs.findIdx? (fun z => PyData.eqv z x) = some j) : ∃ z, xs[j]? = some z ∧ PyData.eqv z x = true ∧ ∀ (m : Nat) (z' : D), m < j → xs[m]? = some z' → PyData.eqv z' x = false := by
  rw [List.findIdx?_eq_some_iff_getElem] at h
  obtain ⟨h1, h2, h3⟩ := h
  refine ⟨xs[j], List.getElem?_eq_getElem h1, h2, fun m z' hm e => ?_⟩
  have hm' : m < xs.length := by omega
  rw [List.getElem?_eq_getElem hm'] at e
  cases e
  have := h3 m hm
  simpa using this
theorem vIndex_ok (hK : X.K = c.K) (B : AS) (Hs H : Hp) (Q : VK) (v : V) (vs : List V) (d : D) (ds : List D) (w : WS B Hs H) (h : Dq c.K Hs v d) (h' : DqAll c.K Hs vs ds) (q : vIndex d ds (Aft c B Hs H Q)) : rIndexD X.K v vs H Q := by
  unfold vIndex at q
  split at q
  · obtain ⟨q1, q2, j, e, q⟩ := q
    obtain ⟨z, f1, f2, f3⟩ := find_at e
    cases h' with
    | cons h1 h2 =>
      cases h2
      have e1 := (dq_mono w.sub h).dp
      have e2 := (dq_mono w.sub h1).dp
      cases h with
      | lst a1 a2 => exact ⟨_, _, _, _, j, z, rfl, rfl, by rw [hK]; exact e1, by rw [hK]; exact e2, q1, q2, f1, f2, f3, q.dp Stp.refl w (.int _)⟩
  · exact q.elim
/-- x.split(y): new texts -/
theorem strs_dq {K : PySem.W.Frag} {H : Hp} : ∀ ys : List Str, DqAll K H (ys.map V.str) (ys.map PyData.str)
  | [] => .nil
  | y :: ys => .cons (.str y) (strs_dq ys)
def vSplit : GV := fun d ds Q => match d, ds with
  | .str a, [.str b] => (b.length == 0) = false ∧ a.length + 2 ≤ 16777216 ∧ Q (.own ((Txt.split a b).map PyData.str))
  | _, _ => False
theorem vSplit_mono : MonoV vSplit := fun d ds Q Q' h q => by
  unfold vSplit at q ⊢
  split at q
  · exact ⟨q.1, q.2.1, h _ q.2.2⟩
  · exact q.elim
theorem vSplit_ok (B : AS) (Hs H : Hp) (Q : VK) (v : V) (vs : List V) (d : D) (ds : List D) (w : WS B Hs H) (h : Dq c.K Hs v d) (h' : DqAll c.K Hs vs ds) (q : vSplit d ds (Aft c B Hs H Q)) :
    ∃ a b, v = .str a ∧ vs = [.str b] ∧ (b.length == 0) = false ∧ a.length + 2 ≤ sizeLine ∧ rNewStrs (Txt.split a b) H Q := by
  unfold vSplit at q
  split at q
  · cases h
    cases h' with
    | cons h1 h2 =>
      cases h1
      cases h2
      exact ⟨_, _, rfl, rfl, q.1, by rw [← line_eq]; exact q.2.1, fun p hp => q.2.2.lst Stp.refl w (strs_dq _) hp⟩
  · exact q.elim
/-- the texts of a list -/
def strsOf : List D → Option (List Str)
  | [] => some []
  | .str b :: ds => (strsOf ds).map (b :: ·)
  | _ => none
theorem strsOf_vals {K : PySem.W.Frag} {H : Hp} : ∀ {vs : List V} {ds : List D} {bs : List Str}, DqAll K H vs ds → strsOf ds = some bs → vs = bs.map V.str
  | _, [], bs, .nil, e => by cases e; rfl
  | _, .str b :: ds, bs, .cons h t, e => by
    unfold strsOf at e
    obtain ⟨cs, e1, e2⟩ := Option.map_eq_some_iff.mp e
    subst e2
    cases h
    rw [List.map_cons, strsOf_vals t e1]
def vJoin : GV := fun d ds Q => match d, ds with
  | .str a, [.list xs] => ∃ ys, strsOf xs = some ys ∧ (ys.map (·.length)).sum + ys.length * a.length ≤ 16777216 ∧ Q (.sh (.str (Txt.join a ys)))
  | .str a, [.tuple xs] => ∃ ys, strsOf xs = some ys ∧ (ys.map (·.length)).sum + ys.length * a.length ≤ 16777216 ∧ Q (.sh (.str (Txt.join a ys)))
  | _, _ => False
theorem vJoin_mono : MonoV vJoin := fun d ds Q Q' h q => by
  unfold vJoin at q ⊢
  split at q
  · obtain ⟨ys, e, e2, q⟩ := q
    exact ⟨ys, e, e2, h _ q⟩
  · obtain ⟨ys, e, e2, q⟩ := q
    exact ⟨ys, e, e2, h _ q⟩
  · exact q.elim
theorem vJoin_ok (hK : X.K = c.K) (B : AS) (Hs H : Hp) (Q : VK) (v : V) (vs : List V) (d : D) (ds : List D) (w : WS B Hs H) (h : Dq c.K Hs v d) (h' : DqAll c.K Hs vs ds) (q : vJoin d ds (Aft c B Hs H Q)) :
    ∃ a p, ∃ ys : List Str, v = .str a ∧ vs = [.ref p] ∧ (SqL X.K H p (ys.map V.str) ∨ SqT X.K H p (ys.map V.str)) ∧ (ys.map (·.length)).sum + ys.length * a.length ≤ 16777216 ∧ Q (.str (Txt.join a ys)) H := by
  unfold vJoin at q
  split at q
  · obtain ⟨ys, e, e2, q⟩ := q
    cases h
    cases h' with
    | cons h1 h2 =>
      cases h2
      cases h1 with
      | lst a1 a2 => exact ⟨_, _, ys, rfl, rfl, .inl (by rw [← strsOf_vals a2 e]; exact SqL.of (w.sub _ _ a1)), e2, q.dp Stp.refl w (.str _)⟩
  · obtain ⟨ys, e, e2, q⟩ := q
    cases h
    cases h' with
    | cons h1 h2 =>
      cases h2
      cases h1 with
      | tup a1 a2 => exact ⟨_, _, ys, rfl, rfl, .inr (by rw [← strsOf_vals a2 e, hK]; exact sqT_mono w.sub a1), e2, q.dp Stp.refl w (.str _)⟩
  · exact q.elim
/-! ### l.remove(x); l[i] = x -/
def mRemove : GM := fun xs ds R => match ds with
  | [x] => Shp (.list xs) ∧ Shp x ∧ ∃ j, xs.findIdx? (fun z => PyData.eqv z x) = some j ∧ R (xs.eraseIdx j)
  | _ => False
theorem mRemove_mono : MonoM mRemove := fun xs ds Q Q' h q => by
  unfold mRemove at q ⊢
  split at q
  · obtain ⟨q1, q2, j, e, q⟩ := q
    exact ⟨q1, q2, j, e, h _ q⟩
  · exact q.elim
theorem DqAll.eraseIdx {K : PySem.W.Frag} {H : Hp} : ∀ {vs : List V} {ds : List D} (j : Nat), DqAll K H vs ds → DqAll K H (vs.eraseIdx j) (ds.eraseIdx j)
  | _, _, _, .nil => .nil
  | _, _, 0, .cons _ t => t
  | _, _, j + 1, .cons h t => .cons h (DqAll.eraseIdx j t)
theorem mRemove_ok {K : PySem.W.Frag} : MethOk K (rRemD K) mRemove := fun Hs H p ws vs xs ds Q R sub hp dw dv q h => by
  unfold mRemove at q
  split at q
  · obtain ⟨q1, q2, j, e, q⟩ := q
    obtain ⟨z, f1, f2, f3⟩ := find_at e
    cases dv with
    | cons h1 h2 =>
      cases h2
      exact ⟨p, ws, _, _, xs, j, z, rfl, rfl, hp, (dqAll_mono sub dw).dp, (dq_mono sub h1).dp, q1, q2, f1, f2, f3, h _ _ _ (dw.eraseIdx j) q⟩
  · exact q.elim
def dSix (i : Nat) (te ti : TD) : TSd := fun U Γ => te Γ (fun s => asD s fun d => match Γ[i]? with
  | some (.own ds) => ti Γ (fun z => match z with
    | .sh (.int k) => ∃ j, ixN ds.length k = some j ∧ U.nx (Γ.set i (.own (ds.set j d)))
    | _ => False) (fun _ => False)
  | _ => False) U.ex
theorem dSix_mono {i : Nat} {te ti : TD} (he : Mono te) (hi : Mono ti) : MonoS (dSix i te ti) := fun U U' Γ l q => he _ _ _ _ _ (fun s q => asD_mono (fun d q => by
    split at q
    · exact hi _ _ _ _ _ (fun z q => by
        split at q
        · obtain ⟨j, e, q⟩ := q
          exact ⟨j, e, l.nx _ q⟩
        · exact q.elim) (fun _ z => z) q
    · exact q.elim) q) l.ex q
theorem ds_six (i : Nat) {x : Str} {e ie : Expr} {te ti : TD} {p p2 pos : Pos} (he : DE c X e te) (hi : DE c X ie ti) (hN : X.N[i]? = some x := by rfl) (hv : Vis X.env.scope x := by first | exact Or.inl rfl | exact Or.inr (Or.inl rfl) | exact Or.inr (Or.inr rfl))
    (hd : (x == ("__debug__" : Str)) = false := by decide) (hcd : (x == ("__classdict__" : Str)) = false := by decide)
    (ha : ∀ v, assign (.Subscript (.Name x p) ie p2) X.env v = (do
      let ov ← holding [v] (eval (.Name x p) X.env)
      let iv ← holding [v, ov] (eval ie X.env)
      standAt p2
      holding [v, ov, iv] (setItem ov iv v)
      release [v, ov, iv] []) := by intro _; rfl)
    (hs : swapsWithSole [.Subscript (.Name x p) ie p2] e pos.line X.env = pure false := by rfl) (hw : swappedStores [.Subscript (.Name x p) ie p2] e X.env = pure none := by rfl)
    (h1 : (assignEach [.Subscript (.Name x p) ie p2] X.env).map (·.2) = [assign (.Subscript (.Name x p) ie p2) X.env] := by rfl) : DS c X (.Assign [.Subscript (.Name x p) ie p2] e pos) (dSix i te ti) := by
  have tk0 : Takes X (fun _ _ _ _ => False) := fun u s' ⟨_, _, _, _, _, _, _, _, _, _, _, _, _, _, _, _, w⟩ => w.elim
  refine ⟨dSix_mono he.mono hi.mono, fun W tk => (ps_asg (he.run W tk) (pg_sub (pe_var hN hv hd hcd) (hi.run _ tk0) set_list ha) hs hw h1).imp fun D σ H ⟨Γ, B, Hs, r, q⟩ => ?_⟩
  refine ⟨Γ, B, Hs, r, he.mono _ _ _ _ _ (fun s q v Hs1 H1 fp t w vr nw => ?_) (fun x z => z.exf r) q⟩
  obtain ⟨d, Hs2, r2, sb2, dv, q⟩ := r.closeVal t w vr nw q
  split at q
  · rename_i ds e
    obtain ⟨p, vs, e1, e2, e3, e4⟩ := r2.mut (es := ds) e
    refine ⟨.ref p, e1, Γ, B, Hs2, r2, hi.mono _ _ _ _ _ (fun z q v3 Hs3 H3 f3 t3 w3 vr3 nw3 => ?_) (fun x z => z.elim) q⟩
    split at q
    · obtain ⟨j, ej, q⟩ := q
      obtain ⟨_, dd⟩ := vr3
      cases dd
      have r3 := r2.step t3 w3
      obtain ⟨p', vs', f1, f2, f3, f4⟩ := r3.mut (es := ds.set j d) e
      rw [e1] at f1
      cases f1
      exact ⟨p, vs', _, j, rfl, rfl, f2, by rw [f3.length]; exact ej, q σ B Hs3 _ (sb2.trans t3.hs) (f4 _ (f3.set (dq_mono t3.hs dv) j))⟩
    · exact q.elim
  · exact q.elim
end
end DL
namespace DL
open PySem PySem.Spec PyProof.Rows L2 PySem.W

section
variable {c : Gd} {X : Cx}
/-! ### sorted -/
def srt (rev : Bool) (ds : List D) : List D := ds.mergeSort (dataLe rev fun d => d)
def gSort (rev : Bool) : G1 := fun ds Q => match ds with
  | [.list xs] => AllAlike xs ∧ Sortable xs ∧ (∀ d ∈ xs, d.depth ≤ 64) ∧ Q (.own (srt rev xs))
  | _ => False
theorem gSort_mono {rev : Bool} : Mono1 (gSort rev) := fun ds Q Q' hq q => by
  unfold gSort at q ⊢
  split at q
  · exact ⟨q.1, q.2.1, q.2.2.1, hq _ q.2.2.2⟩
  · exact q.elim
/-- what the items stand for, place by place -/
theorem srt_each {K : PySem.W.Frag} {Hs : Hp} : ∀ {xs : List V} {ds : List D} {us : List Value}, DqAll K Hs xs ds → Vals xs us → EachIs (fun (u : Value) (p : V × D) => RelV p.1 u ∧ Dq K Hs p.1 p.2) us (xs.zip ds)
  | _, _, _, .nil, .nil => .nil
  | _, _, _, .cons h t, .cons r rr => .cons ⟨r, h⟩ (srt_each t rr)
theorem each_back {K : PySem.W.Frag} {Hs : Hp} : ∀ {us : List Value} {ps : List (V × D)}, EachIs (fun (u : Value) (p : V × D) => RelV p.1 u ∧ Dq K Hs p.1 p.2) us ps → Vals (ps.map (·.1)) us ∧ DqAll K Hs (ps.map (·.1)) (ps.map (·.2))
  | _, _, .nil => ⟨.nil, .nil⟩
  | _, _, .cons h t => ⟨.cons h.1 (each_back t).1, .cons h.2 (each_back t).2⟩
theorem zip_snd {K : PySem.W.Frag} {Hs : Hp} : ∀ {xs : List V} {ds : List D}, DqAll K Hs xs ds → (xs.zip ds).map (·.2) = ds
  | _, _, .nil => rfl
  | _, _, .cons h t => by rw [List.zip_cons_cons, List.map_cons, zip_snd t]
theorem srt_map {rev : Bool} (ps : List (V × D)) : (ps.mergeSort (dataLe rev fun p => p.2)).map (·.2) = srt rev (ps.map (·.2)) := by
  unfold srt
  exact List.map_mergeSort (fun a _ b _ => rfl)
theorem sort_run {rev : Bool} {kw : List (Str × Value)} {B : AS} {Hs : Hp} {pins : List (Addr × Obj)} {s : Shared} {σ : L2.St} {H : Hp} {Q : VK} {v : V} {us : List Value} {xs : List D} (hK : X.K = c.K) (I : Inv X pins σ H s) (rv : Vals [v] us) (w : WS B Hs H) (hd : Dq c.K Hs v (.list xs))
    (h1 : AllAlike xs) (h2 : Sortable xs) (h3 : ∀ d ∈ xs, d.depth ≤ 64) (q : Aft c B Hs H Q (.own (srt rev xs)))
    (run : ∀ (a : Addr) (its : List Value) (bs : List (V × D)) (Q' : Value → Shared → Prop), s.heap.IsList a its.toArray → EachIs (fun (u : Value) (p : V × D) => RelV p.1 u ∧ Dq c.K Hs p.1 p.2) its bs → EachIs (fun (u : Value) (p : V × D) => ∃ as, Reads s.heap u p.2 as) its bs →
      AllAlike (bs.map (·.2)) → Sortable (bs.map (·.2)) → bs.length ≤ sizeLine → (∀ b ∈ bs, b.2.depth ≤ 64) → (∀ out, out.length = bs.length → EachIs (fun (u : Value) (p : V × D) => RelV p.1 u ∧ Dq c.K Hs p.1 p.2) out (bs.mergeSort (dataLe rev fun p => p.2)) → Q' (.ref (s.heap.objs.size + 1)) { s with heap := sortedAll s.heap its (List.toArray out) }) →
      wpAny (model X.prog X.w) X.A (call (.builtin "sorted") [.ref a] kw) Q' X.xe s) :
    wpAny (model X.prog X.w) X.A (call (.builtin "sorted") us kw) (EP X pins σ Q) X.xe s := by
  cases hd with
  | lst e1 e2 =>
    rename_i a ws
    rw [Vals.ref1 rv]
    obtain ⟨its, r, hl, hz⟩ := I.list (SqL.of (K := X.K) (w.sub _ _ e1))
    have ez : (ws.zip xs).map (·.2) = xs := zip_snd e2
    have dp : DpAll X.K H ws xs := by rw [hK]; exact (dqAll_mono w.sub e2).dp
    obtain ⟨as, h4⟩ := Dp.readsAll I xs ws its dp r
    have er : EachIs (fun (u : Value) (p : V × D) => ∃ as, Reads s.heap u p.2 as) its (ws.zip xs) := readsAll_each (fun p : V × D => p.2) (by rw [ez]; exact h4)
    have hlen : (ws.zip xs).length = ws.length := by
      rw [List.length_zip, e2.length, Nat.min_self]
    refine run a its (ws.zip xs) _ hl.isList (srt_each e2 r) er (by rw [ez]; exact h1) (by rw [ez]; exact h2) (by rw [hlen]; exact hz) (fun b hb => h3 _ (List.of_mem_zip hb).2) fun out hlo eo => ?_
    obtain ⟨k1, k2⟩ := each_back eo
    rw [srt_map, ez] at k2
    obtain ⟨ep, he'⟩ := PyProof.Rows.sortedAll_at s.heap its out.toArray
    have hlen2 : ((List.mergeSort (ws.zip xs) (dataLe rev fun p => p.2)).map (·.1)).length ≤ sizeLine := by
      rw [List.length_map, List.length_mergeSort, hlen]
      exact hz
    exact ⟨.ref _, upd H (s.heap.objs.size + 1) (.lst _), I.laid (t' := s.toks) (fun _ _ => PyProof.Rows.sortedAll_old) (Nat.le_succ _) ⟨hlen2, out, ep, k1, he'⟩, rfl, q.lst Stp.refl w k2 (I.hok.fresh (Nat.le_succ _))⟩
theorem cd_sorted (hK : X.K = c.K) (hu : X.A.units + 66 < cLine) : CallR X (.builtin "sorted") (rC c (gSort false)) := by
  intro pins s σ H vs us Q I rv ⟨B, Hs, ds, w, hd, q⟩
  unfold gSort at q
  split at q
  · obtain ⟨h1, h2, h3, q⟩ := q
    cases hd with
    | cons d1 d2 =>
      cases d2
      exact sort_run (kw := []) hK I rv w d1 h1 h2 h3 q fun a its bs Q' hl e er hal hk hz hdp h => sorted_data hl e er hal hk hz (fun b hb => by have := hdp b hb; omega) h
  · exact q.elim
def rCK (c : Gd) (zs0 : List V) (g : G1) : List V → List V → Hp → VK → Prop := fun vs zs H Q => zs = zs0 ∧ rC c g vs H Q
theorem cd_sortedRev (hK : X.K = c.K) (hu : X.A.units + 66 < cLine) : CallRK X (.builtin "sorted") [Str.ofString "reverse"] (rCK c [.bl true] (gSort true)) := by
  intro pins s σ H vs zs us ws Q I rv rz ⟨ez, B, Hs, ds, w, hd, q⟩
  subst ez
  obtain ⟨w1, rfl, e1⟩ := vals1 rz
  obtain rfl : w1 = Value.bool true := e1
  unfold gSort at q
  split at q
  · obtain ⟨h1, h2, h3, q⟩ := q
    cases hd with
    | cons d1 d2 =>
      cases d2
      exact sort_run (kw := [(Str.ofString "reverse", Value.bool true)]) hK I rv w d1 h1 h2 h3 q fun a its bs Q' hl e er hal hk hz hdp h => sorted_rev_data hl e er hal hk hz (fun b hb => by have := hdp b hb; omega) h
  · exact q.elim
theorem de_sortedRev {e : Expr} {te : TD} {p pos kpos p2 : Pos} {j : Nat} (hu : X.A.units + 66 < cLine) (hg : Gl X "sorted") (hm : X.mg "sorted" = none) (he : DE c X e te) (hK : X.K = c.K := by rfl) (hv : bootBuiltins "sorted" = some (.builtin "sorted") := by first | rfl | decide)
    (hs : starEach [e] X.env = (false, eval e X.env) :: starEach [] X.env := by rfl)
    (h1 : backTo pos (starEach [e] X.env) = (false, eval e X.env) :: backTo pos (starEach [] X.env) := by rfl) (hpl : (backTo pos (starEach [e] X.env)).any (·.1) = false := by rfl)
    (hall : (backToKw pos (keywordEach [⟨some (Str.ofString "reverse"), .Constant (.bool true) j p2, kpos⟩] X.env)).all (·.1.isSome) = true := by rfl) (hnone : (backToKw pos (keywordEach [⟨some (Str.ofString "reverse"), .Constant (.bool true) j p2, kpos⟩] X.env)).any (·.1.isNone) = false := by rfl)
    (hks : (backToKw pos (keywordEach [⟨some (Str.ofString "reverse"), .Constant (.bool true) j p2, kpos⟩] X.env)).filterMap (·.1) = [Str.ofString "reverse"] := by rfl) :
    DE c X (.Call (.Name "sorted" p) [e] [⟨some (Str.ofString "reverse"), .Constant (.bool true) j p2, kpos⟩] pos) (dCB (gSort true) (dCons te dNil)) := by
  have ha : DA c X [e] (dCons te dNil) := da_cons he da_nil hs
  refine ⟨dCB_mono gSort_mono ha.mono, fun W tk => (pe_callBK (cd_sortedRev hK hu) hg hm hv (ha.run W tk) (pk_cons pe_bl pk_nil) (by decide) (by decide) h1 hpl hall hnone hks).imp fun σ H Q h => ?_⟩
  have h' := args_of gSort_mono ha.mono h
  obtain ⟨Γ, B, Hs, r, q⟩ := h'
  refine ⟨Γ, B, Hs, r, ha.mono _ _ _ _ _ (fun ss q vs Hs1 H1 fp t w vr nw => ?_) (fun _ z => z) q⟩
  exact ⟨rfl, q vs Hs1 H1 fp t w vr nw⟩
end
end DL
/-! try: .. except SpreadError as e: ..; what a def does that is given the error -/
namespace DL
open PySem PySem.Spec PyProof.Rows L2

abbrev noX : WX := fun _ _ _ _ => False
theorem takes_no {X : Cx} : Takes X noX := fun u s' ⟨_, _, _, _, _, _, _, _, _, _, _, _, _, _, _, _, w⟩ => w.elim
/-- what is known of the own classes of errors -/
structure XI (K : PySem.W.Frag) (root : Str) (errs : List Ex) : Prop where
  is : ∀ x ∈ errs, ∀ y ∈ errs, PySem.W.kitOne K (.ref (He.ga K x)) (.ref (He.ga K y)) = some (x == y)
  ve : ∀ x ∈ errs, PySem.W.kitOne K (.ref (He.ga K x)) (.type "ValueError") = some true
  ex : ∀ x ∈ errs, ExcC K (He.ga K x)
  up : ∀ x ∈ errs, PySem.W.exmOne K (.ref (He.ga K x)) (.ref (He.ga K root)) = some true
/-- what such a def promises -/
structure FnE (P : Program) (w : World) (K : PySem.W.Frag) (mg : Str → Option Value) (base : Heap) (errs : List Ex) (k : Nat) (f : Addr) (fd : FuncData) (ps : List Str) (F : Addr → Ex → Fd) : Prop where
  len : ps.length = 1
  run : ∀ (A : Around) (outer : List Env) (s : Shared) (H : Hp) (args : Args) (a : Addr) (oe : Obj) (x : Ex) (B : AS) (Hs : Hp) (Q : VK), x ∈ errs → L2H.RoomH k A → Zc (.ref (He.ga K x)) none oe → (∃ vs, oe.data = .fields vs) → L2H.PinOk outer H s (a, oe) → Env0 P w K mg base A outer s H →
    BindsTo s fd args (ps.zip [.ref a]) → WS B Hs H → F a x [.err a x] (fun s => ∀ (v : V) (Hs' H' : Hp) (fp : List Addr), Stp B Hs H Hs' H' → WS B Hs' H' → VR K B Hs' H' v s fp → (∀ a ∈ fp, H a = none) → Q v H') (fun _ => False) →
    codeAny (model P w) A (.call (.ref f) args) (CR (L2.CX P w) outer P w H s Q (fun _ _ _ => False)) s
section
variable {P : Program} {w : World} {K : PySem.W.Frag} {mg : Str → Option Value} {base : Heap} {x qual : Str} {params : Arguments} {body : List Stmt} {scope : Scope} {f : Addr} {fd : FuncData} {N ps : List Str} {k : Nat} {errs : List Ex}
theorem ok_defE {t : Addr → Ex → TSd} {kws : List (Str × V)} {dvs : List V} (F : FunD K x qual params body scope dvs kws f fd) (S : FnScope N ps scope) (hp : ps.length = 1)
    (hb : ∀ (cdv : Value) (A : Around) (outer : List Env) (s : Shared) (H : Hp) (c : Gd) (a : Addr) (oe : Obj) (x : Ex), c.K = K → c.cls = clsOf K → L2H.RoomH k (A.deeper (envOfC qual scope s.heap.objs.size f cdv)) → x ∈ errs → Zc (.ref (He.ga K x)) none oe → (∃ vs, oe.data = .fields vs) →
      DSs c (L2H.cxH (L2.CX P w) P w K mg base N qual scope f cdv A outer s H (fun _ _ _ => False) (a, oe)) body (t a x)) : FnE P w K mg base errs (k + 1) f fd ps (fun a x => mkF N.length (t a x)) := by
  obtain ⟨oc, od, dV, kV, doc, pm, an, cdv, ct, osl, rfl, lk, hcd, _, _⟩ := F.ex
  refine ⟨hp, fun A outer s H args a oe x B Hs Q hx hr hz hf hpin e0 hbi ws hq => ?_⟩
  have KX : K.In s.heap := e0.mod.kin.keeps fun b o e => (e0.bs b o e).1
  have lim : s.heap.NoLimit := e0.mod.nolimit.keeps fun b o e => (e0.bs b o e).1
  have hkind : ∀ y ∈ ps.zip [Value.ref a], scope.names.lookup y.1 = some .local ∨ (scope.names.lookup y.1 = some .cell ∧ ((cellsFrom (s.heap.objs.size + 1) scope.names []).lookup y.1).isSome = true) := fun ⟨n, v⟩ hy => by
    rcases S.par n (List.of_mem_zip hy).1 with q | q
    · exact .inl q
    · exact .inr ⟨q, PySem.W.cellsFrom_some _ _ _ (.inl q)⟩
  refine codeAny_call_function hr.depth (KX _ _ lk) rfl S.co S.gen rfl (PySem.W.codeRec_of KX hcd) (hbi _ _ _ _ ?_)
  refine wpAny_newFunctionEnv_cells S.kind hkind fun env he s1 xx => ?_
  subst he
  refine ⟨lim.keeps xx.toInCall.keep, codeAny_func ?_⟩
  have rv : Vals [V.ref a] [Value.ref a] := .cons rfl .nil
  have I : Inv (L2H.cxH (L2.CX P w) P w K mg base N qual scope f cdv A outer s H (fun _ _ _ => False) (a, oe)) [] (L2.start N [.ref a]) H s1 := L2H.inv_startH S hpin e0 (by rw [hp]; rfl) rv xx
  have DD := hb cdv A outer s H ⟨K, H, Hs, B, clsOf K⟩ a oe x rfl rfl (hr.deeper _) hx hz hf
  have vrs : VRs K B Hs H [V.ref a] [.err a x] [] := .cons (fp := []) (fq := []) ⟨rfl, rfl⟩ .nil (fun a ha => by cases ha)
  have hq2 : lS ⟨K, H, Hs, B, clsOf K⟩ noX (t a x) { nx := fun _ H' => Q .non H', rt := Q } (L2.start N [.ref a]) H := by
    refine ⟨_, B, Hs, rel_start ws vrs, ?_⟩
    refine DD.mono ⟨fun _ => _, retS _, _, fun _ => False, fun _ => False⟩ _ _ ⟨fun Γ q σ B' Hs' H' sb r => ?_, fun s q Γ σ B' Hs' H' v fp r vr nw => ?_, fun x q => q.elim, fun _ q => False.elim q, fun _ q => False.elim q⟩ hq
    · exact q .non Hs' H' [] r.whole r.ws0 ⟨rfl, .non⟩ (fun a ha => by cases ha)
    · obtain ⟨v2, q2⟩ := VR.down (Q := fun s => ∀ (v : V) (Hs' H' : Hp) (fp : List Addr), Stp B Hs H Hs' H' → WS B Hs' H' → VR K B Hs' H' v s fp → (∀ a ∈ fp, H a = none) → Q v H') r.bb vr q
      exact q2 v Hs' H' fp r.whole r.ws0 v2 nw
  refine wpAny_mono ((DD.run noX takes_no).run [] s1 (L2.start N [.ref a]) H _ I hq2) (fun fl s' hs => ?_) fun e s' hs => hs
  have fin : ∀ {σ' : L2.St} {H' : Hp} {v : V} {u : Value}, Inv (L2H.cxH (L2.CX P w) P w K mg base N qual scope f cdv A outer s H (fun _ _ _ => False) (a, oe)) [] σ' H' s' → RelV v u → Q v H' → CE outer P w H s Q u s' :=
    fun {σ' H' v u} J rv q => ⟨v, H', J.os, J.bare, J.base, J.hok, rv, q⟩
  cases fl with
  | ret u =>
    obtain ⟨v, σ', H', J, rv, q⟩ := hs
    exact fin J rv q
  | next =>
    obtain ⟨σ', H', J, q⟩ := hs
    exact fin (v := V.non) (u := Value.none) J rfl q
  | brk =>
    obtain ⟨_, _, _, q⟩ := hs
    exact False.elim q
  | cont =>
    obtain ⟨_, _, _, q⟩ := hs
    exact False.elim q
end
section
variable {c : Gd} {X : Cx} {errs : List Ex} {root : Str}
/-- isinstance, of the error that the context holds -/
theorem call_isP {a D : Addr} {oe : Obj} (C : ExcC X.K D) (hz : Zc (.ref D) none oe) (hf : ∃ vs, oe.data = .fields vs) (hp : (a, oe) ∈ X.pn) : CallR X (.builtin "isinstance") (rIsE X.K D a) := by
  intro pins s σ H xs us Q I r h
  obtain ⟨c, cv, b, rfl, hcv, e, q⟩ := h
  cases r with
  | cons rx rr =>
    cases rr with
    | cons rt rr =>
      cases rr
      cases rx
      have ec := hcv _ rt
      subst ec
      obtain ⟨hget, _⟩ := I.pin (a, oe) (List.mem_append_left _ hp)
      obtain ⟨vs, hv⟩ := hf
      have J : PySem.W.InstAt s.heap a oe D none := by
        obtain ⟨oc, od, oda, osl⟩ := oe
        obtain ⟨h1, h2⟩ := hz
        dsimp only at h1 h2 hv
        subst h1 h2 hv
        exact ⟨hget, rfl, rfl, trivial⟩
      exact PySem.W.kia_one (PySem.W.handS_kitx_exc C.hg C.hk C.hs C.hd C.ha C.hn C.ht C.hm) I.kIn J e (fun z => nomatch z) fun tk => ⟨.bl b, H, I.kept (t' := tk) fun _ _ z => z, rfl, q⟩
def dIsE (i : Nat) (a : Addr) (x : Ex) (b : Bool) : TD := fun Γ Q _ => Γ[i]? = some (.err a x) ∧ Q (.sh (.bool b))
theorem de_isE_core (i : Nat) {a : Addr} {oe : Obj} {x : Ex} {b : Bool} {n y : Str} {cy : V} {cv : Value} {p p2 p3 pos : Pos} (hp : (a, oe) ∈ X.pn) (hz : Zc (.ref (He.ga X.K x)) none oe) (hf : ∃ vs, oe.data = .fields vs) (C : ExcC X.K (He.ga X.K x)) (hy : PE X (.Name y p3) (tC cy)) (hcv : ∀ u, RelV cy u → u = cv)
    (hk : PySem.W.kitOne X.K (.ref (He.ga X.K x)) cv = some b) (hg : Gl X "isinstance") (hm : X.mg "isinstance" = none)
    (hN : X.N[i]? = some n := by rfl) (hv : Vis X.env.scope n := by first | exact Or.inl rfl | exact Or.inr (Or.inl rfl) | exact Or.inr (Or.inr rfl)) (hd : (n == ("__debug__" : Str)) = false := by decide) (hcd : (n == ("__classdict__" : Str)) = false := by decide)
    (hs1 : starEach [.Name n p2, .Name y p3] X.env = (false, eval (.Name n p2) X.env) :: starEach [.Name y p3] X.env := by rfl) (hs2 : starEach [.Name y p3] X.env = [(false, eval (.Name y p3) X.env)] := by rfl) (hpl : (backTo pos (starEach [.Name y p3] X.env)).any (·.1) = false := by rfl) :
    DE c X (.Call (.Name "isinstance" p) [.Name n p2, .Name y p3] [] pos) (dIsE i a x b) := by
  refine ⟨fun Γ Q Q' E E' h1 h2 q => ⟨q.1, h1 _ q.2⟩, fun W tk => ?_⟩
  refine (pe_callB (call_isP C hz hf hp) hg hm boot_isinstance (pa_cons (pe_var hN hv hd hcd) (pa_cons hy pa_nil hs2) hs1) (by decide) (by decide) hs1 hpl).imp fun σ H Q ⟨Γ, B, Hs, r, e, q⟩ => ?_
  obtain ⟨v, fp, e1, e2⟩ := r.get e (by intro z; cases z)
  obtain ⟨_, rfl⟩ := e2
  exact ⟨.ref a, e1, cy, cv, b, rfl, hcv, hk, q.now r.ws ⟨rfl, .bl b⟩⟩
/-- .. by an own class y, by ValueError -/
theorem de_isE (i : Nat) {a : Addr} {oe : Obj} {x : Ex} {n y : Str} {p p2 p3 pos : Pos} (xi : XI X.K root errs) (hx : x ∈ errs) (hy : y ∈ errs) (hp : (a, oe) ∈ X.pn) (hz : Zc (.ref (He.ga X.K x)) none oe) (hf : ∃ vs, oe.data = .fields vs) (hgy : Gl X y) (hmy : X.mg y = some (.ref (He.ga X.K y)))
    (hg : Gl X "isinstance") (hm : X.mg "isinstance" = none) (hdy : (y == ("__debug__" : Str)) = false := by decide)
    (hN : X.N[i]? = some n := by rfl) (hv : Vis X.env.scope n := by first | exact Or.inl rfl | exact Or.inr (Or.inl rfl) | exact Or.inr (Or.inr rfl)) (hd : (n == ("__debug__" : Str)) = false := by decide) (hcd : (n == ("__classdict__" : Str)) = false := by decide)
    (hs1 : starEach [.Name n p2, .Name y p3] X.env = (false, eval (.Name n p2) X.env) :: starEach [.Name y p3] X.env := by rfl) (hs2 : starEach [.Name y p3] X.env = [(false, eval (.Name y p3) X.env)] := by rfl) (hpl : (backTo pos (starEach [.Name y p3] X.env)).any (·.1) = false := by rfl) :
    DE c X (.Call (.Name "isinstance" p) [.Name n p2, .Name y p3] [] pos) (dIsE i a x (x == y)) :=
  de_isE_core i (cy := .ref (He.ga X.K y)) hp hz hf (xi.ex x hx) (pe_glob hgy hmy rfl hdy) (fun u r => r) (xi.is x hx y hy) hg hm hN hv hd hcd hs1 hs2 hpl
theorem de_isVE (i : Nat) {a : Addr} {oe : Obj} {x : Ex} {n : Str} {p p2 p3 pos : Pos} (xi : XI X.K root errs) (hx : x ∈ errs) (hp : (a, oe) ∈ X.pn) (hz : Zc (.ref (He.ga X.K x)) none oe) (hf : ∃ vs, oe.data = .fields vs) (hgy : Gl X "ValueError") (hmy : X.mg "ValueError" = none)
    (hg : Gl X "isinstance") (hm : X.mg "isinstance" = none) (hv0 : bootBuiltins "ValueError" = some (.type "ValueError") := by first | rfl | decide)
    (hN : X.N[i]? = some n := by rfl) (hv : Vis X.env.scope n := by first | exact Or.inl rfl | exact Or.inr (Or.inl rfl) | exact Or.inr (Or.inr rfl)) (hd : (n == ("__debug__" : Str)) = false := by decide) (hcd : (n == ("__classdict__" : Str)) = false := by decide)
    (hs1 : starEach [.Name n p2, .Name "ValueError" p3] X.env = (false, eval (.Name n p2) X.env) :: starEach [.Name "ValueError" p3] X.env := by rfl) (hs2 : starEach [.Name "ValueError" p3] X.env = [(false, eval (.Name "ValueError" p3) X.env)] := by rfl) (hpl : (backTo pos (starEach [.Name "ValueError" p3] X.env)).any (·.1) = false := by rfl) :
    DE c X (.Call (.Name "isinstance" p) [.Name n p2, .Name "ValueError" p3] [] pos) (dIsE i a x true) :=
  de_isE_core i (cy := .ty "ValueError") hp hz hf (xi.ex x hx) (pe_bltn hgy hmy hv0 rfl (by decide) (by decide)) (fun u r => r) (xi.ve x hx) hg hm hN hv hd hcd hs1 hs2 hpl
/-- the call of such a def, in the suite -/
def dCallE (i : Nat) (a : Addr) (x : Ex) (F : Addr → Ex → Fd) : TD := fun Γ Q _ => Γ[i]? = some (.err a x) ∧ F a x [.err a x] Q fun _ => False
theorem de_callE (i : Nat) {a : Addr} {oe : Obj} {x : Ex} {F : Addr → Ex → Fd} {k : Nat} {f : Addr} {fd : FuncData} {ps : List Str} {n y : Str} {p p2 pos : Pos} (FE : FnE X.prog X.w X.K X.mg X.base errs k f fd ps F) (mf : MonoF (F a x)) (hx : x ∈ errs) (hr : L2H.RoomH k X.A) (hp : (a, oe) ∈ X.pn) (hz : Zc (.ref (He.ga X.K x)) none oe) (hf : ∃ vs, oe.data = .fields vs)
    (hg : Gl X y) (hm : X.mg y = some (.ref f)) (hk : PySem.W.keepIn X.K (.ref f) = true) (hb : Binds X.K fd ps []) (hK : X.K = c.K := by rfl) (hdb : (y == ("__debug__" : Str)) = false := by decide)
    (hN : X.N[i]? = some n := by rfl) (hv : Vis X.env.scope n := by first | exact Or.inl rfl | exact Or.inr (Or.inl rfl) | exact Or.inr (Or.inr rfl)) (hd : (n == ("__debug__" : Str)) = false := by decide) (hcd : (n == ("__classdict__" : Str)) = false := by decide)
    (hs1 : starEach [.Name n p2] X.env = (false, eval (.Name n p2) X.env) :: starEach [] X.env := by rfl) (hpl : (backTo pos (starEach [] X.env)).any (·.1) = false := by rfl) :
    DE c X (.Call (.Name y p) [.Name n p2] [] pos) (dCallE i a x F) := by
  refine ⟨fun Γ Q Q' E E' h1 h2 q => ⟨q.1, mf _ _ _ _ _ h1 (fun _ z => z) q.2⟩, fun W tk => ⟨fun pins s σ H Q I ⟨Γ, B, Hs, r, e, q⟩ => ?_⟩⟩
  refine wpAny_Call_Name_kw (ld_glob I hg hm ?_ hdb)
  have ha : PA X [.Name n p2] (tCons (tVar i) tNil) := pa_cons (pe_var hN hv hd hcd) pa_nil hs1
  obtain ⟨v, fp, e1, e2⟩ := r.get e (by intro z; cases z)
  obtain ⟨_, rfl⟩ := e2
  refine PySem.W.callWith_K (h₀ := X.base) I.ok.mod.kin hk (thn (ha.run pos pins s σ H (fun vs H' => vs = [.ref a] ∧ H' = H) I ⟨_, e1, rfl, rfl⟩) fun us s1 ⟨vs, H1, I1, rr, ev, eH⟩ => ?_) hs1 hpl
  subst ev
  rw [eH] at I1
  refine ⟨I1.kIn, ?_⟩
  have eu : us = [Value.ref a] := by
    cases rr with
    | cons r0 rt =>
      cases rt
      rw [show _ = Value.ref a from r0]
  subst eu
  have b := hb s1 [Value.ref a] I1.kIn (by rw [List.append_nil, FE.len]; rfl)
  rw [List.append_nil] at b
  have P1 := I1.pin (a, oe) (List.mem_append_left _ hp)
  have hpin : L2H.PinOk X.stack H s1 (a, oe) := ⟨P1.1, P1.2.1, fun hm => (List.mem_cons.mp (I1.stkSub a hm)).elim P1.2.2.1 P1.2.2.2.1, P1.2.2.2.2⟩
  refine wpAny_call (codeAny_mono (FE.run X.A X.stack s1 H ⟨[.ref a], []⟩ a oe x B Hs Q hx hr hz hf hpin I1.env0 b r.ws (mf _ _ _ _ _ (fun s z => by rw [hK]; exact z) (fun _ z => z) q)) fun r s' hq => ?_)
  cases r with
  | error e => exact passAt (takes_no) σ pins H s1 e s' I1 hq
  | ok fl =>
    cases fl with
    | ret u => exact I1.after hq
    | next => exact False.elim hq
    | brk => exact False.elim hq
    | cont => exact False.elim hq
/-- try: .. except root as n: .. -/
def sufEn (U : En) : En := ⟨fun _ => False, U.rt, fun _ => False, fun _ => False, fun _ => False⟩
def tryEn (i n : Nat) (errs : List Ex) (ts : Addr → Ex → TSd) (U : En) : En := ⟨U.nx, U.rt, fun x => x ∈ errs ∧ ∀ a, ts a x (sufEn U) ((List.replicate n Slot.un).set i (.err a x)), U.bk, U.ct⟩
def dTry (i n : Nat) (errs : List Ex) (t : TSd) (ts : Addr → Ex → TSd) : TSd := fun U Γ => t (tryEn i n errs ts U) Γ
theorem sufEn_le {U U' : En} (l : ∀ s, U.rt s → U'.rt s) : En.Le (sufEn U) (sufEn U') := ⟨fun _ z => z, l, fun _ z => z, fun _ z => z, fun _ z => z⟩
theorem dTry_mono {i n : Nat} {t : TSd} {ts : Addr → Ex → TSd} (h : MonoS t) (hs : ∀ a x, MonoS (ts a x)) : MonoS (dTry i n errs t ts) := fun U U' Γ l q =>
  h (tryEn i n errs ts U) (tryEn i n errs ts U') Γ ⟨l.nx, l.rt, fun x q => ⟨q.1, fun a => hs a x _ _ _ (sufEn_le l.rt) (q.2 a)⟩, l.bk, l.ct⟩ q
theorem ds_try (i : Nat) {n : Nat} {nm : Str} {body suite : List Stmt} {b₀ : Stmt} {np pos' pos : Pos} {t : TSd} {ts : Addr → Ex → TSd} (xi : XI X.K root errs) (hcls : ∀ x, c.cls x = .ref (He.ga X.K x)) (hc : Names X root (.ref (He.ga X.K root))) (hN : X.N.Nodup)
    (mt : MonoS t) (mts : ∀ a x, MonoS (ts a x))
    (hb : ∀ (pn : List (Addr × Obj)) (xe : Value → Shared → Prop), PassesOwn (model X.prog X.w) X.A X.env xe → DSs c (X.tr pn xe) body t)
    (hsu : ∀ (a : Addr) (oe : Obj) (x : Ex) (pn : List (Addr × Obj)), x ∈ errs → Zc (.ref (He.ga X.K x)) none oe → (∃ vs, oe.data = .fields vs) → DSs c (X.suite a ((a, oe) :: pn)) (b₀ :: suite) (ts a x))
    (hs : X.stack = X.env :: X.outer := by rfl) (hf : X.env.frame = some X.env.locals := by rfl) (hn : X.N.length = n := by rfl) (hi : X.N[i]? = some nm := by rfl) (hln : X.env.kindOf nm = some .local := by rfl) :
    DS c X (.Try body [.ExceptHandler (some (.Name root np)) (some nm) (b₀ :: suite) pos'] [] [] pos) (dTry i n errs t ts) := by
  refine ⟨dTry_mono mt mts, fun W tk => ?_⟩
  refine (ps_try_as hs hf hN hi hln hc takes_no (tb := fun W => lS c W t) (ts := fun a cls d D σ H => σ.length = X.N.length → ∃ x, x ∈ errs ∧ cls = .ref (He.ga X.K x) ∧ d = none ∧ lS c noX (ts a x) D σ H) (fun W pn xe tk' hpo => (hb pn xe hpo).run W tk') (fun a oe cls d pn hz hfi => ⟨fun pins s σ H D I h => ?_⟩)).imp fun D σ H ⟨Γ, B, Hs, r, q⟩ => ?_
  · obtain ⟨x, hx, e1, e2, h2⟩ := h I.len
    subst e1 e2
    exact ((hsu a oe x pn hx hz hfi).run noX takes_no).run pins s σ H D I h2
  · refine ⟨Γ, B, Hs, r, mt (tryEn i n errs ts (enAt c W D Hs)) _ _ ⟨fun _ z => z, fun _ z => z, fun x z => ?_, fun _ z => z, fun _ z => z⟩ q⟩
    intro Γ' σ' B' Hs' H' r'
    refine ⟨true, by rw [hcls]; exact xi.up x z.1, fun _ a na hl => ⟨x, z.1, hcls x, rfl, (List.replicate n Slot.un).set i (.err a x), B', Hs', ?_, ?_⟩, fun z => absurd z (by decide)⟩
    · have hlen : (List.replicate n Slot.un).length = σ'.length := by
        rw [List.length_set] at hl
        rw [List.length_replicate, hl, hn]
      have r2 : Rel c (List.replicate n Slot.un) σ' B' Hs' H' := r'.weak hlen fun j s h => by
        rw [List.getElem?_replicate] at h
        split at h
        · cases h; exact .inl rfl
        · cases h
      have hin : i < (List.replicate n Slot.un).length := by
        rw [List.length_replicate, ← hn]
        exact (List.getElem?_eq_some_iff.mp hi).1
      exact r2.put Stp.refl r2.ws (s := .err a x) (fq := []) ⟨rfl, rfl⟩ (fun a ha => by cases ha) hin
    · exact mts a x (sufEn (enAt c W D Hs)) _ _ ⟨fun _ z => False.elim z, fun s z => z, fun _ z => False.elim z, fun _ z => False.elim z, fun _ z => False.elim z⟩ (z.2 a)
end
end DL
/-! a bag of draws, a script -/
namespace DL
open PySem PySem.Spec PyProof.Rows L2

section
variable {c : Gd} {X : Cx}
theorem VR.atB {B : AS} {Hs H : Hp} {v : V} {fp : List Addr} (w : WS B Hs H) (h : VR c.K B Hs H v .bag fp) : ∃ (p : Addr) (g : Int) (s : Sml), v = .ref p ∧ B p ∧ H p = some (.lst [.int g, .int s.1]) := by
  obtain ⟨_, p, rfl, hb⟩ := h
  obtain ⟨g, s, e⟩ := w.bag p hb
  exact ⟨p, g, s, rfl, hb, e⟩
/-- bag[0], bag[1] -/
def dBag0 (i : Nat) : TD := fun Γ Q _ => Γ[i]? = some .bag ∧ ∀ g : Int, Q (.sh (.int g))
def dBag1 (i : Nat) : TD := fun Γ Q _ => Γ[i]? = some .bag ∧ ∀ g : Int, g.natAbs < 18446744073709551616 → Q (.sh (.int g))
theorem de_bag0 (i : Nat) {x : Str} {j : Nat} {p p2 pos : Pos} (hN : X.N[i]? = some x := by rfl) (hv : Vis X.env.scope x := by first | exact Or.inl rfl | exact Or.inr (Or.inl rfl) | exact Or.inr (Or.inr rfl)) (hd : (x == ("__debug__" : Str)) = false := by decide)
    (hcd : (x == ("__classdict__" : Str)) = false := by decide) : DE c X (.Subscript (.Name x p) (.Constant (.int 0) j p2) pos) (dBag0 i) := by
  refine ⟨fun Γ Q Q' E E' h1 h2 q => ⟨q.1, fun g => h1 _ (q.2 g)⟩, fun W tk => (pe_ix ix_list (pe_var hN hv hd hcd) pe_int (fun _ _ => rfl)).imp fun σ H Q ⟨Γ, B, Hs, r, e, q⟩ => ?_⟩
  obtain ⟨v, fp, e1, e2⟩ := r.get e (by intro z; cases z)
  obtain ⟨p, g, s, rfl, hb, hp⟩ := e2.atB r.ws
  exact ⟨.ref p, e1, p, _, _, .int g, rfl, rfl, SqL.of hp, rfl, (q g).now r.ws ⟨rfl, .int g⟩⟩
theorem de_bag1 (i : Nat) {x : Str} {j : Nat} {p p2 pos : Pos} (hN : X.N[i]? = some x := by rfl) (hv : Vis X.env.scope x := by first | exact Or.inl rfl | exact Or.inr (Or.inl rfl) | exact Or.inr (Or.inr rfl)) (hd : (x == ("__debug__" : Str)) = false := by decide)
    (hcd : (x == ("__classdict__" : Str)) = false := by decide) : DE c X (.Subscript (.Name x p) (.Constant (.int 1) j p2) pos) (dBag1 i) := by
  refine ⟨fun Γ Q Q' E E' h1 h2 q => ⟨q.1, fun g hg => h1 _ (q.2 g hg)⟩, fun W tk => (pe_ix ix_list (pe_var hN hv hd hcd) pe_int (fun _ _ => rfl)).imp fun σ H Q ⟨Γ, B, Hs, r, e, q⟩ => ?_⟩
  obtain ⟨v, fp, e1, e2⟩ := r.get e (by intro z; cases z)
  obtain ⟨p, g, s, rfl, hb, hp⟩ := e2.atB r.ws
  exact ⟨.ref p, e1, p, _, _, .int s.1, rfl, rfl, SqL.of hp, rfl, (q s.1 s.2).now r.ws ⟨rfl, .int s.1⟩⟩
/-- a bag's number is written -/
theorem Rel.bagUp {Γ : Env'} {σ : L2.St} {B : AS} {Hs H : Hp} {p : Addr} {g0 g : Int} {s0 s : Sml} (r : Rel c Γ σ B Hs H) (hb : B p) (hp : H p = some (.lst [.int g0, .int s0.1])) : Rel c Γ σ B Hs (upd H p (.lst [.int g, .int s.1])) := by
  have hn := r.ws.sep p hb
  refine r.step ⟨Sub.refl _, fun a h1 h2 => absurd h1 h2, fun a o h1 h2 => ?_, fun a h1 => ?_⟩ ⟨fun a o h1 => ?_, fun a ha => ?_, r.ws.sep⟩
  · rw [upd_ne (fun z => h2 (by rw [z]; exact hb))]
    exact h1
  · by_cases e : a = p
    · subst e; rw [upd_same]; simp
    · rw [upd_ne e]; exact h1
  · rw [upd_ne (ne_of_none h1 hn)]
    exact r.ws.sub a o h1
  · by_cases e : a = p
    · subst e; exact ⟨g, s, upd_same⟩
    · rw [upd_ne e]; exact r.ws.bag a ha
def dBagS0 (i : Nat) (te : TD) : TSd := fun U Γ => te Γ (fun s => match s with
  | .sh (.int n) => Γ[i]? = some .bag ∧ U.nx Γ
  | _ => False) U.ex
def dBagS1 (i : Nat) (te : TD) : TSd := fun U Γ => te Γ (fun s => match s with
  | .sh (.int n) => n.natAbs < 18446744073709551616 ∧ Γ[i]? = some .bag ∧ U.nx Γ
  | _ => False) U.ex
theorem dBagS0_mono {i : Nat} {te : TD} (he : Mono te) : MonoS (dBagS0 i te) := fun U U' Γ l q => he _ _ _ _ _ (fun s q => by
  split at q
  · exact ⟨q.1, l.nx _ q.2⟩
  · exact q.elim) l.ex q
theorem dBagS1_mono {i : Nat} {te : TD} (he : Mono te) : MonoS (dBagS1 i te) := fun U U' Γ l q => he _ _ _ _ _ (fun s q => by
  split at q
  · exact ⟨q.1, q.2.1, l.nx _ q.2.2⟩
  · exact q.elim) l.ex q
theorem ds_bagS0 (i : Nat) {x : Str} {e : Expr} {te : TD} {j : Nat} {p p2 p3 pos : Pos} (he : DE c X e te) (hN : X.N[i]? = some x := by rfl) (hv : Vis X.env.scope x := by first | exact Or.inl rfl | exact Or.inr (Or.inl rfl) | exact Or.inr (Or.inr rfl))
    (hd : (x == ("__debug__" : Str)) = false := by decide) (hcd : (x == ("__classdict__" : Str)) = false := by decide)
    (ha : ∀ v, assign (.Subscript (.Name x p) (.Constant (.int 0) j p3) p2) X.env v = (do
      let ov ← holding [v] (eval (.Name x p) X.env)
      let iv ← holding [v, ov] (eval (.Constant (.int 0) j p3) X.env)
      standAt p2
      holding [v, ov, iv] (setItem ov iv v)
      release [v, ov, iv] []) := by intro _; rfl)
    (hs : swapsWithSole [.Subscript (.Name x p) (.Constant (.int 0) j p3) p2] e pos.line X.env = pure false := by rfl) (hw : swappedStores [.Subscript (.Name x p) (.Constant (.int 0) j p3) p2] e X.env = pure none := by rfl)
    (h1 : (assignEach [.Subscript (.Name x p) (.Constant (.int 0) j p3) p2] X.env).map (·.2) = [assign (.Subscript (.Name x p) (.Constant (.int 0) j p3) p2) X.env] := by rfl) : DS c X (.Assign [.Subscript (.Name x p) (.Constant (.int 0) j p3) p2] e pos) (dBagS0 i te) := by
  refine ⟨dBagS0_mono he.mono, fun W tk => (ps_asg (he.run W tk) (pg_sub (pe_var hN hv hd hcd) pe_int set_list ha) hs hw h1).imp fun D σ H ⟨Γ, B, Hs, r, q⟩ => ?_⟩
  refine ⟨Γ, B, Hs, r, he.mono _ _ _ _ _ (fun s q v Hs1 H1 fp t w vr nw => ?_) (fun x z => z.exf r) q⟩
  split at q
  · obtain ⟨eg, q⟩ := q
    obtain ⟨_, dd⟩ := vr
    cases dd
    have r2 := r.step t w
    obtain ⟨v2, fp2, e1, e2⟩ := r2.get eg (by intro z; cases z)
    obtain ⟨p, g, s, rfl, hb, hp⟩ := e2.atB r2.ws
    exact ⟨.ref p, e1, p, _, _, 0, rfl, rfl, hp, rfl, q σ B Hs1 _ t.hs (r2.bagUp hb hp)⟩
  · exact q.elim
theorem ds_bagS1 (i : Nat) {x : Str} {e : Expr} {te : TD} {j : Nat} {p p2 p3 pos : Pos} (he : DE c X e te) (hN : X.N[i]? = some x := by rfl) (hv : Vis X.env.scope x := by first | exact Or.inl rfl | exact Or.inr (Or.inl rfl) | exact Or.inr (Or.inr rfl))
    (hd : (x == ("__debug__" : Str)) = false := by decide) (hcd : (x == ("__classdict__" : Str)) = false := by decide)
    (ha : ∀ v, assign (.Subscript (.Name x p) (.Constant (.int 1) j p3) p2) X.env v = (do
      let ov ← holding [v] (eval (.Name x p) X.env)
      let iv ← holding [v, ov] (eval (.Constant (.int 1) j p3) X.env)
      standAt p2
      holding [v, ov, iv] (setItem ov iv v)
      release [v, ov, iv] []) := by intro _; rfl)
    (hs : swapsWithSole [.Subscript (.Name x p) (.Constant (.int 1) j p3) p2] e pos.line X.env = pure false := by rfl) (hw : swappedStores [.Subscript (.Name x p) (.Constant (.int 1) j p3) p2] e X.env = pure none := by rfl)
    (h1 : (assignEach [.Subscript (.Name x p) (.Constant (.int 1) j p3) p2] X.env).map (·.2) = [assign (.Subscript (.Name x p) (.Constant (.int 1) j p3) p2) X.env] := by rfl) : DS c X (.Assign [.Subscript (.Name x p) (.Constant (.int 1) j p3) p2] e pos) (dBagS1 i te) := by
  refine ⟨dBagS1_mono he.mono, fun W tk => (ps_asg (he.run W tk) (pg_sub (pe_var hN hv hd hcd) pe_int set_list ha) hs hw h1).imp fun D σ H ⟨Γ, B, Hs, r, q⟩ => ?_⟩
  refine ⟨Γ, B, Hs, r, he.mono _ _ _ _ _ (fun s q v Hs1 H1 fp t w vr nw => ?_) (fun x z => z.exf r) q⟩
  split at q
  · rename_i n
    obtain ⟨hn, eg, q⟩ := q
    obtain ⟨_, dd⟩ := vr
    cases dd
    have r2 := r.step t w
    obtain ⟨v2, fp2, e1, e2⟩ := r2.get eg (by intro z; cases z)
    obtain ⟨p, g, s, rfl, hb, hp⟩ := e2.atB r2.ws
    exact ⟨.ref p, e1, p, _, _, 1, rfl, rfl, hp, rfl, q σ B Hs1 _ t.hs (r2.bagUp (s := ⟨n, hn⟩) hb hp)⟩
  · exact q.elim
/-! the script -/
theorem VR.atS {B : AS} {Hs H : Hp} {v : V} {ns : List Int} {fp : List Addr} (hK : X.K = c.K) (w : WS B Hs H) (h : VR c.K B Hs H v (.scr ns) fp) : ∃ p, v = .ref p ∧ SqL X.K H p (ns.map V.int) := by
  obtain ⟨_, p, rfl, e⟩ := h
  exact ⟨p, rfl, by rw [hK]; exact sqL_mono w.sub e⟩
def dScLen (i : Nat) : TD := fun Γ Q _ => ∃ ns, Γ[i]? = some (.scr ns) ∧ Q (.sh (.int (ns.length : Nat)))
theorem de_scLen (i : Nat) {x : Str} {p p2 pos : Pos} (hK : X.K = c.K) (hg : Gl X "len") (hm : X.mg "len" = none) (hN : X.N[i]? = some x := by rfl) (hv : Vis X.env.scope x := by first | exact Or.inl rfl | exact Or.inr (Or.inl rfl) | exact Or.inr (Or.inr rfl)) (hd : (x == ("__debug__" : Str)) = false := by decide)
    (hcd : (x == ("__classdict__" : Str)) = false := by decide) (hs : starEach [.Name x p2] X.env = (false, eval (.Name x p2) X.env) :: starEach [] X.env := by rfl) (hpl : (backTo pos (starEach [] X.env)).any (·.1) = false := by rfl) : DE c X (.Call (.Name "len" p) [.Name x p2] [] pos) (dScLen i) := by
  refine ⟨fun Γ Q Q' E E' h1 h2 ⟨ns, e, q⟩ => ⟨ns, e, h1 _ q⟩, fun W tk => (pe_callB call_len hg hm boot_len (pa_cons (pe_var hN hv hd hcd) pa_nil hs) (by decide) (by decide) hs hpl).imp fun σ H Q ⟨Γ, B, Hs, r, ns, e, q⟩ => ?_⟩
  obtain ⟨v, fp, e1, e2⟩ := r.get e (by intro z; cases z)
  obtain ⟨p, rfl, hp⟩ := e2.atS (X := X) hK r.ws
  exact ⟨.ref p, e1, .ref p, _, rfl, .inl ⟨_, hp, rfl⟩, by rw [List.length_map]; exact q.now r.ws ⟨rfl, .int _⟩⟩
def dScIx (i : Nat) (te : TD) : TD := fun Γ Q E => ∃ ns, Γ[i]? = some (.scr ns) ∧ te Γ (fun s => match s with
  | .sh (.int k) => ∃ n, atI ns k = some n ∧ Q (.sh (.int n))
  | _ => False) E
theorem atI_map {α β : Type} (f : α → β) {xs : List α} {i : Int} {x : α} (h : atI xs i = some x) : atI (xs.map f) i = some (f x) := by
  unfold atI at h ⊢
  rw [List.length_map]
  cases e : ixN xs.length i with
  | none => rw [e] at h; cases h
  | some j =>
    rw [e] at h
    show (xs.map f)[j]? = _
    rw [List.getElem?_map, show xs[j]? = some x from h]
    rfl
theorem de_scIx (i : Nat) {x : Str} {e : Expr} {te : TD} {p pos : Pos} (hK : X.K = c.K) (he : DE c X e te) (hpi : PlainIx e) (hN : X.N[i]? = some x := by rfl) (hv : Vis X.env.scope x := by first | exact Or.inl rfl | exact Or.inr (Or.inl rfl) | exact Or.inr (Or.inr rfl)) (hd : (x == ("__debug__" : Str)) = false := by decide)
    (hcd : (x == ("__classdict__" : Str)) = false := by decide) : DE c X (.Subscript (.Name x p) e pos) (dScIx i te) := by
  refine ⟨fun Γ Q Q' E E' h1 h2 ⟨ns, e0, q⟩ => ⟨ns, e0, he.mono _ _ _ _ _ (fun s q => ?_) h2 q⟩, fun W tk => (pe_ix ix_list (pe_var hN hv hd hcd) (he.run W tk) hpi).imp fun σ H Q ⟨Γ, B, Hs, r, ns, e0, q⟩ => ?_⟩
  · split at q
    · obtain ⟨n, e2, q⟩ := q
      exact ⟨n, e2, h1 _ q⟩
    · exact q.elim
  · obtain ⟨v, fp, e1, e2⟩ := r.get e0 (by intro z; cases z)
    refine ⟨v, e1, Γ, B, Hs, r, he.mono _ _ _ _ _ (fun s q y Hs1 H1 fp1 t w vr nw => ?_) (fun _ z => z) q⟩
    split at q
    · obtain ⟨n, f2, q⟩ := q
      obtain ⟨_, dd⟩ := vr
      cases dd
      obtain ⟨p, rfl, hp⟩ := (e2.stp t).atS (X := X) hK w
      exact ⟨p, _, _, .int n, rfl, rfl, hp, atI_map V.int f2, q.dp t w (.int n)⟩
    · exact q.elim
end
end DL
/-! own lists looked at; what a row tells -/
namespace DL
open PySem PySem.Spec PyProof.Rows L2

/-! no list within -/
mutual
def lf : D → Bool
  | .none => true
  | .bool _ => true
  | .int _ => true
  | .str _ => true
  | .list _ => false
  | .tuple ds => lfs ds
  | .dict _ => false
def lfs : List D → Bool
  | [] => true
  | d :: ds => lf d && lfs ds
end
def LF : Slot → Prop
  | .sh d => lf d = true
  | .own ds => lfs ds = true
  | .bag => True
  | .err _ _ => True
  | _ => False
def del (Hs : Hp) (p : Addr) : Hp := fun a => if a = p then none else Hs a
theorem del_ne {Hs : Hp} {a p : Addr} (h : a ≠ p) : del Hs p a = Hs a := if_neg h
theorem del_same {Hs : Hp} {p : Addr} : del Hs p p = none := if_pos rfl
section
variable {K : PySem.W.Frag} {Hs : Hp} {p : Addr} {ws : List V}
theorem sqT_del (hp : Hs p = some (.lst ws)) {a : Addr} {xs : List V} (h : SqT K Hs a xs) : SqT K (del Hs p) a xs := by
  rcases h with (h | ⟨o, h⟩) | h
  · exact .inl (.inl (by rw [del_ne (fun z => by rw [z, hp] at h; cases h)]; exact h))
  · exact .inl (.inr ⟨o, by rw [del_ne (fun z => by rw [z, hp] at h; cases h)]; exact h⟩)
  · exact .inr h
mutual
theorem dq_del (hp : Hs p = some (.lst ws)) : ∀ {v : V} {d : D}, lf d = true → Dq K Hs v d → Dq K (del Hs p) v d
  | _, _, _, .non => .non
  | _, _, _, .bl b => .bl b
  | _, _, _, .int i => .int i
  | _, _, _, .str x => .str x
  | _, _, h, .lst _ _ => by unfold lf at h; cases h
  | _, _, h, .tup h1 h2 => by
    unfold lf at h
    exact .tup (sqT_del hp h1) (dqAll_del hp h h2)
theorem dqAll_del (hp : Hs p = some (.lst ws)) : ∀ {vs : List V} {ds : List D}, lfs ds = true → DqAll K Hs vs ds → DqAll K (del Hs p) vs ds
  | _, _, _, .nil => .nil
  | _, _, h, .cons h1 h2 => by
    unfold lfs at h
    rw [Bool.and_eq_true] at h
    exact .cons (dq_del hp h.1 h1) (dqAll_del hp h.2 h2)
end
theorem VR.del {B : AS} {H : Hp} {v : V} {s : Slot} {fp : List Addr} (hp : Hs p = some (.lst ws)) (l : LF s) (h : VR K B Hs H v s fp) : VR K B (DL.del Hs p) H v s fp := by
  cases s with
  | un => exact h.elim
  | sh d => exact ⟨h.1, dq_del hp l h.2⟩
  | own ds =>
    obtain ⟨q, vs, e1, e2, e3, e4, e5, e6⟩ := h
    refine ⟨q, vs, e1, e2, e3, ?_, e5, dqAll_del hp l e6⟩
    by_cases z : q = p
    · rw [z]; exact del_same
    · rw [del_ne z]; exact e4
  | bag => exact h
  | scr ns => exact l.elim
  | err a x => exact h
end
section
variable {c : Gd} {X : Cx}
/-- back from a look at an own list -/
theorem peek_back {B : AS} {Hs H Hs2 H2 : Hp} {p : Addr} {vs : List V} (hn : Hs p = none) (hp : H p = some (.lst vs)) (t : Stp B (upd Hs p (.lst vs)) H Hs2 H2) (w : WS B Hs2 H2) : Stp B Hs H (del Hs2 p) H2 ∧ WS B (del Hs2 p) H2 ∧ Hs2 p = some (.lst vs) := by
  have e2 : Hs2 p = some (.lst vs) := t.hs p _ upd_same
  refine ⟨⟨fun a o h => ?_, fun a h1 h2 => ?_, t.kp, t.th⟩, ⟨fun a o h => ?_, w.bag, fun a ha => ?_⟩, e2⟩
  · have ne : a ≠ p := fun z => by rw [z, hn] at h; cases h
    rw [del_ne ne]
    exact t.hs a o (by rw [upd_ne ne]; exact h)
  · by_cases ne : a = p
    · rw [ne, del_same] at h2; exact absurd rfl h2
    · rw [del_ne ne] at h2
      exact t.new a (by rw [upd_ne ne]; exact h1) h2
  · by_cases ne : a = p
    · rw [ne, del_same] at h; cases h
    · rw [del_ne ne] at h
      exact w.sub a o h
  · by_cases ne : a = p
    · rw [ne]; exact del_same
    · rw [del_ne ne]; exact w.sep a ha
theorem Rel.peek {Γ : Env'} {σ : L2.St} {B : AS} {Hs H : Hp} (r : Rel c Γ σ B Hs H) {i : Nat} {ds : List D} (h : Γ[i]? = some (.own ds)) : ∃ p vs, Hs p = none ∧ H p = some (.lst vs) ∧ Rel c (Γ.set i (.sh (.list ds))) σ B (upd Hs p (.lst vs)) H := by
  obtain ⟨fp, e1, e2, e3⟩ := r.pl
  obtain ⟨hi, _⟩ := List.getElem?_eq_some_iff.mp h
  rcases e3 i _ h with z | ⟨v, z1, p, vs, rfl, z2, z3, z4, z5, z6⟩
  · cases z
  have hp : p ∈ fp i := by rw [z2]; simp
  have n0 : c.H0 p = none := (e1 i p hp).1
  have sb : Sub Hs (upd Hs p (.lst vs)) := fun a o q => by rw [upd_ne (ne_of_none q z4)]; exact q
  refine ⟨p, vs, z4, z3, ⟨fun a o q => ?_, r.ws.bag, fun a ha => ?_⟩, r.bb, r.bn, r.hs.trans sb, fun a x1 x2 => ?_, r.kp, r.th, by rw [List.length_set]; exact r.len, fset fp i [], fun j a ha => ?_, fun j k a ha hb => ?_, fun j u hu => ?_⟩
  · by_cases x : a = p
    · subst x; rw [upd_same] at q; cases q; exact z3
    · rw [upd_ne x] at q; exact r.ws.sub a o q
  · have x : a ≠ p := fun z => z5 (z ▸ ha)
    rw [upd_ne x]; exact r.ws.sep a ha
  · by_cases x : a = p
    · rw [x]; exact n0
    · rw [upd_ne x] at x2; exact r.new a x1 x2
  · by_cases e : j = i
    · rw [e, fset_same] at ha; cases ha
    · rw [fset_ne e] at ha; exact e1 j a ha
  · by_cases e : j = i
    · rw [e, fset_same] at ha; cases ha
    · by_cases e' : k = i
      · rw [e', fset_same] at hb; cases hb
      · rw [fset_ne e] at ha; rw [fset_ne e'] at hb
        exact e2 j k a ha hb
  · by_cases e : j = i
    · subst e
      rw [List.getElem?_set_self hi] at hu
      cases hu
      refine .inr ⟨_, z1, ?_⟩
      rw [fset_same]
      exact ⟨rfl, .lst upd_same (dqAll_mono sb z6)⟩
    · rw [List.getElem?_set_ne (Ne.symm e)] at hu
      rcases e3 j u hu with z | ⟨x, y1, y2⟩
      · exact .inl z
      · refine .inr ⟨x, y1, ?_⟩
        rw [fset_ne e]
        refine y2.carry sb (fun a ha => ?_) fun _ _ _ q => q
        have : a ≠ p := fun z => e (e2 j i a ha (z ▸ hp))
        rw [upd_ne this]
        exact (y2.fpok a ha).1
def dPeek (i : Nat) (te : TD) : TD := fun Γ Q E => match Γ[i]? with
  | some (.own ds) => te (Γ.set i (.sh (.list ds))) (fun s => LF s ∧ Q s) E
  | _ => te Γ Q E
theorem peek_imp {i : Nat} {te : TD} {W : WX} {σ : L2.St} {H : Hp} {Q : VK} (hm : Mono te) (h : lE c W (dPeek i te) σ H Q) : lE c W te σ H Q := by
  obtain ⟨Γ, B, Hs, r, q⟩ := h
  unfold dPeek at q
  split at q
  · rename_i ds e
    obtain ⟨p, vs, hn, hp, r2⟩ := r.peek e
    refine ⟨_, B, _, r2, hm _ _ _ _ _ (fun s z v Hs2 H2 fp t w vr nw => ?_) (fun x z Hs2 H2 t w => ?_) q⟩
    · obtain ⟨t2, w2, e2⟩ := peek_back hn hp t w
      exact z.2 v _ H2 fp t2 w2 (vr.del e2 z.1) nw
    · obtain ⟨t2, w2, e2⟩ := peek_back hn hp t w
      exact z _ H2 t2 w2
  · exact ⟨Γ, B, Hs, r, q⟩
theorem peek_mono {i : Nat} {te : TD} (h : Mono te) : Mono (dPeek i te) := fun Γ Q Q' E E' h1 h2 q => by
  unfold dPeek at q ⊢
  split at q
  · exact h _ _ _ _ _ (fun s z => ⟨z.1, h1 _ z.2⟩) h2 q
  · exact h _ _ _ _ _ h1 h2 q
theorem de_peek (i : Nat) {e : Expr} {te : TD} (h : DE c X e te) : DE c X e (dPeek i te) := ⟨peek_mono h.mono, fun W tk => (h.run W tk).imp fun σ H Q q => peek_imp h.mono q⟩
def peeks : List Nat → TD → TD
  | [], te => te
  | i :: is, te => dPeek i (peeks is te)
theorem peeks_mono {te : TD} (h : Mono te) : ∀ is, Mono (peeks is te)
  | [] => h
  | i :: is => peek_mono (peeks_mono h is)
theorem peeks_imp {te : TD} {W : WX} {σ : L2.St} {H : Hp} {Q : VK} (hm : Mono te) : ∀ is, lE c W (peeks is te) σ H Q → lE c W te σ H Q
  | [], h => h
  | i :: is, h => peeks_imp hm is (peek_imp (peeks_mono hm is) h)
/-- y = [..], y a local: the store within the comprehension's end -/
theorem ds_setLc (i : Nat) (pk : List Nat) {y : Str} {py : Pos} {elt tg iter : Expr} {ifs : List Expr} {scope : Scope} {own : List (Str × Nat)} {pos spos : Pos} {ti : TId} {g : TGd} {tt : TDt} {te : TD} {pl : List Nat} (hc : X.calm = true) (hN : X.N.Nodup) (hi : DI c X tg iter ti) (ok : BlkOk X.N X.env.scope scope own)
    (hg : ∀ (s : Shared) (H : Hp) (C : Addr) (cl : List (Str × Addr)) (fp : List Addr), DG c (X.blk s H scope (compEnvC scope cl C X.env) fp) tg pl g) (ht : ∀ (s : Shared) (H : Hp) (C : Addr) (cl : List (Str × Addr)) (fp : List Addr), DTs c (X.blk s H scope (compEnvC scope cl C X.env) fp) ifs tt)
    (he : ∀ (s : Shared) (H : Hp) (C : Addr) (cl : List (Str × Addr)) (fp : List Addr), DE c (X.blk s H scope (compEnvC scope cl C X.env) fp) elt te) (hpl : ∀ i ∈ pl, i ∈ own.map (·.2)) (hy : X.N[i]? = some y := by rfl) (hyl : X.env.scope.names.lookup y = some .local := by rfl) (hk : X.env.scope.kind = .function := by rfl)
    (hl : (py.line == pos.line) = true := by rfl) (ha : (scope.names.any fun (n, k) => n == y && (k == .local || k == .cell)) = false := by rfl) (hs : ∀ x, foldedSetIterable iter X.env x = pure x := by intro _; rfl) :
    DS c X (.Assign [.Name y py] (.ListComp elt [⟨tg, iter, ifs, 0⟩] scope pos) spos) (dSet i (peeks pk (dLc ti g tt te (own.map (·.2))))) := by
  have s0 : Shared := {}
  have mm := dLc_mono (vs := own.map (·.2)) hi.mono (hg s0 (fun _ => none) 0 [] []).mono (ht s0 (fun _ => none) 0 [] []).mono (he s0 (fun _ => none) 0 [] []).mono
  have mp := peeks_mono mm pk
  refine ⟨fun D D' Γ l q => mp _ _ _ _ _ (fun _ q => ⟨q.1, l.nx _ q.2⟩) l.ex q, fun W tk => ?_⟩
  refine (ps_setLc hc hN hy hyl (sw_true hk hyl hl ha) (hi.run W tk) ok (fun s H C cl fp => (hg s H C cl fp).run (own.map (·.2)) hpl) (fun s H C cl fp => (ht s H C cl fp).run W0 takes0) (fun s H C cl fp => (he s H C cl fp).run W0 takes0) hs).imp fun D σ H ⟨Γ, B, Hs, r, q⟩ => ?_
  refine lc_imp hi.mono (hg s0 (fun _ => none) 0 [] []).mono (ht s0 (fun _ => none) 0 [] []).mono (he s0 (fun _ => none) 0 [] []).mono (peeks_imp mm pk ⟨Γ, B, Hs, r, mp _ _ _ _ _ (fun s q v Hs1 H1 fp t w vr nw => ?_) (fun x z => z.exf r) q⟩)
  exact q.2 _ B Hs1 H1 t.hs (r.put t w vr nw q.1)
def dPeekT (i : Nat) (tc : TDt) : TDt := fun Γ Q E => match Γ[i]? with
  | some (.own ds) => tc (Γ.set i (.sh (.list ds))) Q E
  | _ => tc Γ Q E
theorem dt_peek (i : Nat) {e : Expr} {tc : TDt} (h : DT c X e tc) : DT c X e (dPeekT i tc) := by
  refine ⟨fun Γ Q Q' E E' h1 h2 q => ?_, fun W tk => (h.run W tk).imp fun σ H Q ⟨Γ, B, Hs, r, q⟩ => ?_⟩
  · unfold dPeekT at q ⊢
    split at q
    · exact h.mono _ _ _ _ _ h1 h2 q
    · exact h.mono _ _ _ _ _ h1 h2 q
  · unfold dPeekT at q
    split at q
    · rename_i ds e
      obtain ⟨p, vs, hn, hp, r2⟩ := r.peek e
      refine ⟨_, B, _, r2, h.mono _ _ _ _ _ (fun s z Hs2 H2 t w => ?_) (fun x z Hs2 H2 t w => ?_) q⟩
      · obtain ⟨t2, w2, e2⟩ := peek_back hn hp t w
        exact z _ H2 t2 w2
      · obtain ⟨t2, w2, e2⟩ := peek_back hn hp t w
        exact z _ H2 t2 w2
    · exact ⟨Γ, B, Hs, r, q⟩
end
/-! ### what a row tells -/
/-- a written constant: numbers, truths, texts, None, tuples of these -/
def rdK (K : PySem.W.Frag) : Nat → Value → Option D
  | _, .none => some .none
  | _, .bool b => some (.bool b)
  | _, .int i _ => some (.int i)
  | _, .str x _ => some (.str x)
  | n + 1, .ref a => match K.lookup a with
    | some ⟨.type c, _, .seq its _, _⟩ => if c = "tuple" ∧ its.size ≤ 16777216 then (its.toList.mapM (rdK K n)).map PyData.tuple else none
    | _ => none
  | _, _ => none
mutual
/-- the same datum -/
def eqD : D → D → Bool
  | .none, .none => true
  | .bool a, .bool b => a == b
  | .int a, .int b => decide (a = b)
  | .str a, .str b => a == b
  | .tuple a, .tuple b => eqDs a b
  | .list a, .list b => eqDs a b
  | _, _ => false
def eqDs : List D → List D → Bool
  | [], [] => true
  | a :: as, b :: bs => eqD a b && eqDs as bs
  | _, _ => false
end
mutual
theorem eqD_ok : ∀ {a b : D}, eqD a b = true → a = b
  | .none, .none, _ => rfl
  | .bool a, .bool b, h => by unfold eqD at h; rw [beq_iff_eq.mp h]
  | .int a, .int b, h => by unfold eqD at h; rw [of_decide_eq_true h]
  | .str a, .str b, h => by unfold eqD at h; rw [beq_iff_eq.mp h]
  | .tuple a, .tuple b, h => by unfold eqD at h; rw [eqDs_ok h]
  | .list a, .list b, h => by unfold eqD at h; rw [eqDs_ok h]
  | .none, .bool _, h | .none, .int _, h | .none, .str _, h | .none, .list _, h | .none, .tuple _, h | .none, .dict _, h => by unfold eqD at h; cases h
  | .bool _, .none, h | .bool _, .int _, h | .bool _, .str _, h | .bool _, .list _, h | .bool _, .tuple _, h | .bool _, .dict _, h => by unfold eqD at h; cases h
  | .int _, .none, h | .int _, .bool _, h | .int _, .str _, h | .int _, .list _, h | .int _, .tuple _, h | .int _, .dict _, h => by unfold eqD at h; cases h
  | .str _, .none, h | .str _, .bool _, h | .str _, .int _, h | .str _, .list _, h | .str _, .tuple _, h | .str _, .dict _, h => by unfold eqD at h; cases h
  | .list _, .none, h | .list _, .bool _, h | .list _, .int _, h | .list _, .str _, h | .list _, .tuple _, h | .list _, .dict _, h => by unfold eqD at h; cases h
  | .tuple _, .none, h | .tuple _, .bool _, h | .tuple _, .int _, h | .tuple _, .str _, h | .tuple _, .list _, h | .tuple _, .dict _, h => by unfold eqD at h; cases h
  | .dict _, .none, h | .dict _, .bool _, h | .dict _, .int _, h | .dict _, .str _, h | .dict _, .list _, h | .dict _, .tuple _, h | .dict _, .dict _, h => by unfold eqD at h; cases h
theorem eqDs_ok : ∀ {a b : List D}, eqDs a b = true → a = b
  | [], [], _ => rfl
  | a :: as, b :: bs, h => by
    unfold eqDs at h
    rw [Bool.and_eq_true] at h
    rw [eqD_ok h.1, eqDs_ok h.2]
  | [], _ :: _, h => by unfold eqDs at h; cases h
  | _ :: _, [], h => by unfold eqDs at h; cases h
end
theorem rdK_ok {K : PySem.W.Frag} : ∀ {n : Nat} {u : Value} {d : D}, rdK K n u = some d → ∃ v, RelV v u ∧ ∀ H, Dq K H v d := by
  intro n
  induction n with
  | zero =>
    intro u d h
    cases u <;> first
      | (unfold rdK at h; cases h; first | exact ⟨.non, rfl, fun _ => .non⟩ | exact ⟨.bl _, rfl, fun _ => .bl _⟩ | exact ⟨.int _, ⟨_, rfl⟩, fun _ => .int _⟩ | exact ⟨.str _, ⟨_, rfl⟩, fun _ => .str _⟩)
      | (unfold rdK at h; cases h)
  | succ n ih =>
    intro u d h
    have all : ∀ {us : List Value} {ds : List D}, us.mapM (rdK K n) = some ds → ∃ vs, Vals vs us ∧ ∀ H, DqAll K H vs ds := by
      intro us
      induction us with
      | nil =>
        intro ds e
        rw [List.mapM_nil] at e
        cases e
        exact ⟨[], .nil, fun _ => .nil⟩
      | cons u us ihs =>
        intro ds e
        rw [List.mapM_cons] at e
        cases q : rdK K n u with
        | none => rw [q] at e; cases e
        | some d1 =>
          rw [q] at e
          cases q2 : us.mapM (rdK K n) with
          | none => rw [q2] at e; cases e
          | some ds1 =>
            rw [q2] at e
            cases e
            obtain ⟨v, r1, d2⟩ := ih q
            obtain ⟨vs, r2, d3⟩ := ihs q2
            exact ⟨v :: vs, .cons r1 r2, fun H => .cons (d2 H) (d3 H)⟩
    cases u with
    | ref a =>
      unfold rdK at h
      split at h
      · rename_i c dd its n' sl lk
        split at h
        · rename_i hc
          obtain ⟨hc1, hc2⟩ := hc
          subst hc1
          obtain ⟨ds, e1, e2⟩ := Option.map_eq_some_iff.mp h
          subst e2
          obtain ⟨vs, r, dq⟩ := all e1
          exact ⟨.ref a, rfl, fun H => .tup (.inr ⟨_, its, n', lk, rfl, rfl, by rw [← line_eq]; exact hc2, r⟩) (dq H)⟩
        · cases h
      · cases h
    | none => unfold rdK at h; cases h; exact ⟨.non, rfl, fun _ => .non⟩
    | bool b => unfold rdK at h; cases h; exact ⟨.bl _, rfl, fun _ => .bl _⟩
    | int i t => unfold rdK at h; cases h; exact ⟨.int _, ⟨_, rfl⟩, fun _ => .int _⟩
    | str x t => unfold rdK at h; cases h; exact ⟨.str _, ⟨_, rfl⟩, fun _ => .str _⟩
    | _ => unfold rdK at h; cases h
def kstB (K : PySem.W.Frag) (x : Str) (d : D) : Bool := match PySem.W.nsIn K mainGlobals x with
  | some (some u) => (match rdK K 4 u with
    | some e => eqD e d
    | none => false)
  | _ => false
/-- the global x is the constant d -/
def Kst (K : PySem.W.Frag) (mg : Str → Option Value) (x : Str) (d : D) : Prop := ∃ u v, mg x = some u ∧ RelV v u ∧ ∀ H, Dq K H v d
theorem kst_ok {K : PySem.W.Frag} {h : Heap} {mg : Str → Option Value} (X : K.In h) (G : h.Ns mainGlobals mg) {x : Str} {d : D} (c : kstB K x d = true) : Kst K mg x d := by
  unfold kstB at c
  split at c
  · rename_i u e
    split at c
    · rename_i e' q
      have := eqD_ok c
      subst this
      obtain ⟨v, r, dq⟩ := rdK_ok q
      exact ⟨u, v, PySem.W.mg_of X G e, r, dq⟩
    · cases c
  · cases c
theorem de_kst {c : Gd} {X : Cx} {x : Str} {d : D} {p : Pos} (hk : Kst X.K X.mg x d) (hg : Gl X x) (hK : X.K = c.K := by rfl) (hdb : (x == ("__debug__" : Str)) = false := by decide) : DE c X (.Name x p) (dC d) := by
  obtain ⟨u, v, hm, r, dq⟩ := hk
  exact de_glob hg hm r (fun H => by rw [← hK]; exact dq H) hdb
/-- the classes of errors -/
def xiB (K : PySem.W.Frag) (root : Str) (errs : List Str) : Bool :=
  (errs.all fun x => errs.all fun y => decide (PySem.W.kitOne K (.ref (He.ga K x)) (.ref (He.ga K y)) = some (x == y))) &&
  ((errs.all fun x => decide (PySem.W.kitOne K (.ref (He.ga K x)) (.type "ValueError") = some true)) &&
  ((errs.all fun x => decide (PySem.W.findIn K (.ref (He.ga K x)) "__getattribute__" = some (some (.builtin "BaseException.__getattribute__"))) && (decide (PySem.W.findIn K (.ref (He.ga K x)) "__getattr__" = some none) &&
    (decide (PySem.W.subIn K (.ref (He.ga K x)) (.type "BaseException") = some true) && (PySem.W.hasDictIn K (He.ga K x) && (decide (PySem.W.findIn K (.ref (He.ga K x)) "__class__" = some (some (.builtin "object.__class__"))) &&
    (decide (PySem.W.specialIn K (.builtin "object.__class__") "__get__" = some (some (.builtin "getset_descriptor.__get__"))) && (decide (PySem.W.takesIn K (.builtin "object.__class__") = some true) && decide (PySem.W.mroIn K (He.ga K x) (.type "object") = some true)))))))) &&
  (errs.all fun x => decide (PySem.W.exmOne K (.ref (He.ga K x)) (.ref (He.ga K root)) = some true))))
theorem xi_ok {K : PySem.W.Frag} {root : Str} {errs : List Str} (h : xiB K root errs = true) : XI K root errs := by
  unfold xiB at h
  simp only [Bool.and_eq_true, List.all_eq_true, decide_eq_true_eq] at h
  obtain ⟨h1, h2, h3, h4⟩ := h
  exact ⟨h1, h2, fun x hx => let ⟨a, b, c, d, e, f, g, i⟩ := h3 x hx; ⟨a, b, c, d, e, f, g, i⟩, h4⟩
theorem room_u {k : Nat} {A : Around} (r : Room k A) : A.units + 66 < cLine := by have := r.un; omega
theorem room_uH {k : Nat} {A : Around} (r : L2H.RoomH k A) : A.units + 66 < cLine := by have := r.un; omega
theorem room_65 {n : Nat} (h : n + 66 < cLine) : n + 65 < cLine := by omega
theorem room_64 {n : Nat} (h : n + 66 < cLine) : n + 64 < cLine := by omega
theorem xf_ok {K : PySem.W.Frag} {h : Heap} {mg : Str → Option Value} (X : K.In h) (G : h.Ns mainGlobals mg) {x : Str} (c1 : (He.Fa.glo x).ok K = true) (c : (He.Fa.exc x).ok K = true) : XF K mg x := by
  obtain ⟨h1, h2⟩ := He.ba c
  obtain ⟨h3, h4⟩ := He.ba h2
  obtain ⟨h5, h6⟩ := He.ba h4
  exact ⟨He.glo_ok X G c1, h1, h3, of_decide_eq_true h5, of_decide_eq_true h6⟩
end DL
/-! every reading over data grows with what is wanted -/
namespace DL
open PySem PySem.Spec PyProof.Rows L2

def MonoG (g : TGd) : Prop := ∀ d Γ Q Q', (∀ Γ, Q Γ → Q' Γ) → g d Γ Q → g d Γ Q'
def MonoGs (g : TGds) : Prop := ∀ d Γ Q Q', (∀ Γ, Q Γ → Q' Γ) → g d Γ Q → g d Γ Q'
section
variable {ta tb te to : TD} {tc td tt : TDt} {aa : TDa} {t u : TSd} {i : Nat}
theorem m_nil : MonoA dNil := fun _ _ _ _ _ h _ q => h _ q
theorem m_cons (ha : Mono ta) (hr : MonoA aa) : MonoA (dCons ta aa) := fun Γ Q Q' E E' h1 h2 q => ha _ _ _ _ _ (fun s q => hr _ _ _ _ _ (fun ss q => h1 _ q) h2 q) h2 q
theorem m_andV (ha : Mono ta) (hb : Mono tb) : Mono (dAndV ta tb) := fun Γ Q Q' E E' h1 h2 q => ha _ _ _ _ _ (fun s q => bo_mono (fun k q => ite_mono (fun q => hb _ _ _ _ _ h1 h2 q) (fun q => h1 _ q) q) q) h2 q
theorem m_orV (ha : Mono ta) (hb : Mono tb) : Mono (dOrV ta tb) := fun Γ Q Q' E E' h1 h2 q => ha _ _ _ _ _ (fun s q => bo_mono (fun k q => ite_mono (fun q => h1 _ q) (fun q => hb _ _ _ _ _ h1 h2 q) q) q) h2 q
theorem m_notV (ha : Mono ta) : Mono (dNotV ta) := fun Γ Q Q' E E' h1 h2 q => ha _ _ _ _ _ (fun s q => bo_mono (fun k q => h1 _ q) q) h2 q
theorem m_if (hc : MonoT tc) (ha : Mono ta) (hb : Mono tb) : Mono (dIf tc ta tb) := fun Γ Q Q' E E' h1 h2 q => hc _ _ _ _ _ (fun k q => ite_mono (fun q => ha _ _ _ _ _ h1 h2 q) (fun q => hb _ _ _ _ _ h1 h2 q) q) h2 q
theorem m_and (ha : MonoT tc) (hb : MonoT td) : MonoT (dAnd tc td) := fun Γ Q Q' E E' h1 h2 q => ha _ _ _ _ _ (fun k q => ite_mono (fun q => hb _ _ _ _ _ h1 h2 q) (fun q => h1 _ q) q) h2 q
theorem m_or (ha : MonoT tc) (hb : MonoT td) : MonoT (dOr tc td) := fun Γ Q Q' E E' h1 h2 q => ha _ _ _ _ _ (fun k q => ite_mono (fun q => h1 _ q) (fun q => hb _ _ _ _ _ h1 h2 q) q) h2 q
theorem m_not (ha : MonoT tc) : MonoT (dNot tc) := fun Γ Q Q' E E' h1 h2 q => ha _ _ _ _ _ (fun k q => h1 _ q) h2 q
theorem m_tup (h : MonoA aa) : Mono (dTup aa) := fun Γ Q Q' E E' h1 h2 q => h _ _ _ _ _ (fun ss q => ⟨q.1, asDs_mono (fun ds q => h1 _ q) q.2⟩) h2 q
theorem m_lst (h : MonoA aa) : Mono (dLst aa) := fun Γ Q Q' E E' h1 h2 q => h _ _ _ _ _ (fun ss q => ⟨q.1, asDs_mono (fun ds q => h1 _ q) q.2⟩) h2 q
theorem m_call {f : Fd} (mf : MonoF f) (ha : MonoA aa) : Mono (dCall f aa) := fun Γ Q Q' E E' h1 h2 q => ha _ _ _ _ _ (fun ss q => mf _ _ _ _ _ h1 h2 q) h2 q
theorem m_isi {T : String} (he : Mono te) : Mono (dIsi T te) := fun Γ Q Q' E E' h1 h2 q => he _ _ _ _ _ (fun s q => asD_mono (fun d ⟨b, e, q⟩ => ⟨b, e, h1 _ q⟩) q) h2 q
def dNeg (ta : TD) : TD := fun Γ Q E => ta Γ (fun s => match s with
    | .sh (.int i) => Q (.sh (.int (-i)))
    | _ => False) E
theorem de_negD {c : Gd} {X : Cx} {a : Expr} {pos : Pos} (ha : DE c X a ta) : DE c X (.UnaryOp .USub a pos) (dNeg ta) := de_neg ha
theorem m_neg (ha : Mono ta) : Mono (dNeg ta) := fun Γ Q Q' E E' h1 h2 q => ha _ _ _ _ _ (fun s q => by
  split at q
  · exact h1 _ q
  · exact q.elim) h2 q
abbrev MonoO (t : TDo) : Prop := ∀ (Γ : Env') (Q Q' : Option Int → Prop) (E E' : EK), (∀ s, Q s → Q' s) → (∀ x, E x → E' x) → t Γ Q E → t Γ Q' E'
theorem m_noP : MonoO dNoP := fun _ _ _ _ _ h _ q => h _ q
theorem m_pt (h : Mono ta) : MonoO (dPt ta) := fun Γ Q Q' E E' h1 h2 q => h _ _ _ _ _ (fun s q => by
  split at q
  · exact h1 _ q
  · exact q.elim) h2 q
theorem m_sl {tl th : TDo} (he : Mono te) (hl : MonoO tl) (hh : MonoO th) : Mono (dSl te tl th) := fun Γ Q Q' E E' h1 h2 q => he _ _ _ _ _ (fun s q => asD_mono (fun x q => hl _ _ _ _ _ (fun lo q => hh _ _ _ _ _ (fun hi q => gSl_mono h1 q) h2 q) h2 q) q) h2 q
theorem m_yes : MonoT dYes := fun _ _ _ _ _ h _ q => h _ q
theorem m_any (h : Mono te) : MonoI (dAny te) := fun Γ Q Q' E E' h1 h2 q => h _ _ _ _ _ (fun s q => asD_mono (fun d q => by
  split at q
  · exact h1 _ q
  · exact h1 _ q
  · exact ⟨q.1, h1 _ q.2⟩
  · exact q.elim) q) h2 q
theorem m_rng1 (h : Mono ta) : MonoI (dRng1 ta) := fun Γ Q Q' E E' h1 h2 q => h _ _ _ _ _ (fun s q => by
  split at q
  · exact ⟨q.1, h1 _ q.2⟩
  · exact q.elim) h2 q
theorem m_rng2 (ha : Mono ta) (hb : Mono tb) : MonoI (dRng2 ta tb) := fun Γ Q Q' E E' h1 h2 q => ha _ _ _ _ _ (fun s q => hb _ _ _ _ _ (fun u q => by
  split at q
  · exact ⟨q.1, h1 _ q.2⟩
  · exact q.elim) h2 q) h2 q
theorem m_zip (ha : Mono ta) (hb : Mono tb) : MonoI (dZip ta tb) := fun Γ Q Q' E E' h1 h2 q => ha _ _ _ _ _ (fun s q => hb _ _ _ _ _ (fun u q => asD_mono (fun x q => asD_mono (fun y q => seqD_mono (fun ds q => seqD_mono (fun es q => h1 _ q) q) q) q) q) h2 q) h2 q
theorem m_enum (ha : Mono ta) : MonoI (dEnum ta) := fun Γ Q Q' E E' h1 h2 q => ha _ _ _ _ _ (fun s q => asD_mono (fun x q => by
  split at q
  · exact h1 _ q
  · exact h1 _ q
  · exact q.elim) q) h2 q
theorem m_peek (h : Mono te) : Mono (dPeek i te) := fun Γ Q Q' E E' h1 h2 q => by
  unfold dPeek at q ⊢
  split at q
  · exact h _ _ _ _ _ (fun s z => ⟨z.1, h1 _ z.2⟩) h2 q
  · exact h _ _ _ _ _ h1 h2 q
theorem m_peeks (is : List Nat) (h : Mono te) : Mono (peeks is te) := peeks_mono h is
theorem m_peekT (h : MonoT tc) : MonoT (dPeekT i tc) := fun Γ Q Q' E E' h1 h2 q => by
  unfold dPeekT at q ⊢
  split at q
  · exact h _ _ _ _ _ h1 h2 q
  · exact h _ _ _ _ _ h1 h2 q
theorem m_mv {T : String} {g : GV} (hg : MonoV g) (ho : Mono to) (ha : MonoA aa) : Mono (dMv T g to aa) := fun Γ Q Q' E E' h1 h2 q => ho _ _ _ _ _ (fun s q => asD_mono (fun d q => ⟨q.1, ha _ _ _ _ _ (fun ss q => asDs_mono (fun ds q => hg _ _ _ _ h1 q) q) h2 q.2⟩) q) h2 q
theorem m_bag0 : Mono (dBag0 i) := fun Γ Q Q' E E' h1 h2 q => ⟨q.1, fun g => h1 _ (q.2 g)⟩
theorem m_bag1 : Mono (dBag1 i) := fun Γ Q Q' E E' h1 h2 q => ⟨q.1, fun g hg => h1 _ (q.2 g hg)⟩
theorem m_scLen : Mono (dScLen i) := fun Γ Q Q' E E' h1 h2 ⟨ns, e, q⟩ => ⟨ns, e, h1 _ q⟩
theorem m_scIx (he : Mono te) : Mono (dScIx i te) := fun Γ Q Q' E E' h1 h2 ⟨ns, e0, q⟩ => ⟨ns, e0, he _ _ _ _ _ (fun s q => by
  split at q
  · obtain ⟨n, e2, q⟩ := q
    exact ⟨n, e2, h1 _ q⟩
  · exact q.elim) h2 q⟩
theorem m_isE {a : Addr} {x : Ex} {b : Bool} : Mono (dIsE i a x b) := fun Γ Q Q' E E' h1 h2 q => ⟨q.1, h1 _ q.2⟩
theorem m_callE {a : Addr} {x : Ex} {F : Addr → Ex → Fd} (mf : MonoF (F a x)) : Mono (dCallE i a x F) := fun Γ Q Q' E E' h1 h2 q => ⟨q.1, mf _ _ _ _ _ h1 (fun _ z => z) q.2⟩
/-! statements -/
theorem m_next : MonoS dNext := fun D D' Γ h q => h.nx _ q
theorem m_seq (h1 : MonoS t) (h2 : MonoS u) : MonoS (dSeq t u) := fun D D' Γ l q => h1 { D with nx := u D } { D' with nx := u D' } Γ ⟨fun Γ q => h2 _ _ _ l q, l.rt, l.ex, l.bk, l.ct⟩ q
theorem m_close (h : MonoS t) : MonoS (dClose i t) := fun D D' Γ l q => h _ _ _ l q
theorem m_bag (h : MonoS t) : MonoS (dBag i t) := fun D D' Γ l ⟨g, s, e, q⟩ => ⟨g, s, e, h _ _ _ l q⟩
theorem m_break : MonoS dBreak := fun D D' Γ h q => h.bk _ q
theorem m_cont : MonoS dCont := fun D D' Γ h q => h.ct _ q
theorem m_drop (h : Mono te) : MonoS (dDrop te) := fun D D' Γ l q => h _ _ _ _ _ (fun _ q => l.nx _ q) l.ex q
theorem m_ret (h : Mono te) : MonoS (dRet te) := fun D D' Γ l q => h _ _ _ _ _ l.rt l.ex q
theorem m_retN : MonoS dRetN := fun D D' Γ l q => l.rt _ q
theorem m_retO : MonoS (dRetO i) := fun D D' Γ l q => by
  unfold dRetO at q ⊢
  split at q
  · exact l.rt _ q
  · exact l.rt _ q
  · exact q.elim
theorem m_ifS (hc : MonoT tc) (ha : MonoS t) (hb : MonoS u) : MonoS (dIfS tc t u) := fun D D' Γ l q => hc _ _ _ _ _ (fun k q => ite_mono (fun q => ha _ _ _ l q) (fun q => hb _ _ _ l q) q) l.ex q
theorem m_set (h : Mono te) : MonoS (dSet i te) := fun D D' Γ l q => h _ _ _ _ _ (fun _ q => ⟨q.1, l.nx _ q.2⟩) l.ex q
theorem m_gN : MonoG (gN i) := fun d Γ Q Q' h q => ⟨q.1, h _ q.2⟩
theorem m_gsN : MonoGs gsN := fun d Γ Q Q' h q => ⟨q.1, h _ q.2⟩
theorem m_gsC {g : TGd} {gs : TGds} (h1 : MonoG g) (h2 : MonoGs gs) : MonoGs (gsC g gs) := fun ds Γ Q Q' h q => by
  cases ds with
  | nil => exact q
  | cons d ds => exact h1 _ _ _ _ (fun Γ q => h2 _ _ _ _ h q) q
theorem m_gT {n : Nat} {gs : TGds} (h : MonoGs gs) : MonoG (gT n gs) := fun d Γ Q Q' hq q => by
  unfold gT at q ⊢
  split at q
  · exact ⟨q.1, h _ _ _ _ hq q.2⟩
  · exact q.elim
theorem m_asg {g : TGd} (he : Mono te) (hg : MonoG g) : MonoS (dAsg te g) := fun D D' Γ l q => he _ _ _ _ _ (fun s q => asD_mono (fun d q => hg _ _ _ _ l.nx q) q) l.ex q
theorem m_for {ti : TId} {g : TGd} (hi : MonoI ti) (hg : MonoG g) (hb : MonoS t) : MonoS (dFor ti g t) := fun D D' Γ l q => hi _ _ _ _ _ (fun ds q => forGo_mono hg hb l ds Γ q) l.ex q
theorem m_lc {ti : TId} {g : TGd} {vs : List Nat} (hi : MonoI ti) (hg : MonoG g) (ht : MonoT tt) (he : Mono te) : Mono (dLc ti g tt te vs) := dLc_mono hi hg ht he
theorem m_raise {x : Ex} : MonoS (dRaise x) := fun U U' Γ l q => l.ex _ q
end
theorem fTuple_mono (d : D) (Q Q' : SK) (h : ∀ s, Q s → Q' s) (q : fTuple d Q) : fTuple d Q' := fSeq_mono (f := fun ds Q => Q (.sh (.tuple ds))) (fun ds Q Q' h q => h _ q) d Q Q' h q
theorem fList_mono (d : D) (Q Q' : SK) (h : ∀ s, Q s → Q' s) (q : fList d Q) : fList d Q' := fSeq_mono (f := fun ds Q => Q (.own ds)) (fun ds Q Q' h q => h _ q) d Q Q' h q
end DL
/-! the law's end -/
namespace DL
open PySem PySem.Spec PyProof.Rows L2
theorem walk_ofW {l : PySem.W.OpenLaw} {n k : Nat} {q : Program} {loose : List Str} {XP : (Str → Option Value) → Heap → Prop} {YP : World → Heap → Prop} {d : DefRec} {T : World → CXT} {x : Str}
    (hn : l.most = some n) (hn2 : n ≤ sizeLine) (hdf : d.params.defaults = []) (hr : Room k callerA)
    (F : ∀ (w : World) (mg : Str → Option Value) (fa : Addr) (h : Heap), YP w h → h.Ns mainGlobals mg → mg d.name = some (.ref fa) →
      ∃ (K : PySem.W.Frag) (fd : FuncData) (sp : Sp), K.In h ∧ (∀ (s : Shared) (u : Value), BindsTo s fd ⟨[u], []⟩ [(x, u)]) ∧
        (∀ (H : Hp) (a : Addr) (ns : List Int), ns.length ≤ n → Only H → SqL K H a (ns.map V.int) → sp [.ref a] H (fun v _ => v = .bl true) fun _ _ _ => False) ∧
        ∀ base : Heap, K.In base → base.Ns mainGlobals mg → FnOk l.prog w K mg base (T w) k fa fd [x] sp)
    (hT : ∀ (w : World) (H : Hp) (s : Shared) (e : Value) (s' : Shared), T w [] H s (fun _ _ _ => False) e s' → False) :
    PySem.W.WalkO q loose XP YP l.row.toRowW d [] (fun f vs => PySem.call f vs) := by
  refine Att.attach_call hn hdf fun w s₀ s₁ mg mb fa o pm cd doc a vs ns G Y ho hd hcd hmg hobj hints hlen hg => ?_
  obtain ⟨K, fd, sp, KX, hb, hsp, hF⟩ := F w mg fa _ Y G.T.g hmg
  exact law_call KX G.T.g G.T.b G.T.builtins G.T.nolimit hg hobj hints (Nat.le_trans hlen hn2) hr hF hb (fun H hO hS => hsp H a ns hlen hO hS) fun H e s' z => hT w H s₁ e s' z
theorem cx_no {P : Program} {w : World} (H : Hp) (s : Shared) (e : Value) (s' : Shared) (h : L2.CX P w [] H s (fun _ _ _ => False) e s') : False := by
  obtain ⟨_, _, _, _, _, _, _, _, _, _, _, _, z⟩ := h
  exact z
theorem law_start {K : PySem.W.Frag} {F : Fd} {H : Hp} {a : Addr} {ns : List Int} (mf : MonoF F) (hS : SqL K H a (ns.map V.int)) (h : F [.scr ns] (fun s => s = .sh (.bool true)) fun _ => False) :
    spF K (clsOf K) 1 F [.ref a] H (fun v _ => v = .bl true) fun _ _ _ => False := by
  refine ⟨fun _ => False, H, [.scr ns], ⟨Sub.refl _, fun _ z => z.elim, fun _ z => z.elim⟩, .cons (fp := []) (fq := []) ⟨rfl, a, rfl, hS⟩ .nil (fun _ z => by cases z), rfl, ?_⟩
  refine mf _ _ _ _ _ (fun s e v Hs' H' fp t w vr nw => ?_) (fun _ z => z.elim) h
  rw [e] at vr
  exact vr.bool
end DL
/-! the readings at known data, one by one: for simp -/
namespace DL
open PySem PySem.Spec PyProof.Rows L2
theorem nr {α : Sort _} {a b : α} (h : a = b) : a = b := h
section
variable {d e : D} {ds es : List D} {k : D → Prop} {kl : List D → Prop} {Q : SK} {E : EK} {Γ : Env'} {i : Nat} {a b : Int} {x y : Str} {ta tb te : TD} {aa : TDa} {U : En} {neg : Bool}
theorem s_asD1 : asD (.sh d) k = k d := nr rfl
theorem s_asD2 : asD (.own ds) k = k (.list ds) := nr rfl
theorem s_asDs0 {k : List D → Prop} : asDs [] k = k [] := nr rfl
theorem s_asDs1 {s : Slot} {ss : List Slot} {k : List D → Prop} : asDs (s :: ss) k = asD s fun d => asDs ss fun ds => k (d :: ds) := nr rfl
theorem s_nrm1 : nrm (.sh d) = .sh d := nr rfl
theorem s_nrm2 : nrm (.own ds) = .sh (.list ds) := nr rfl
theorem s_nrm3 : nrm .bag = .bag := nr rfl
theorem s_nrm4 {ns : List Int} : nrm (.scr ns) = .scr ns := nr rfl
theorem s_nrm5 {p : Addr} : nrm (.err p x) = .err p x := nr rfl
theorem s_bo {c : Bool} {k : Bool → Prop} : bo (.sh (.bool c)) k = k c := nr rfl
theorem s_ret1 : retS Q (.sh d) = Q (.sh d) := nr rfl
theorem s_ret2 : retS Q (.own ds) = Q (.own ds) := nr rfl
theorem s_add1 : gAdd (.int a) (.int b) Q = Q (.sh (.int (a + b))) := nr rfl
theorem s_add2 : gAdd (.str x) (.str y) Q = (x.length + y.length ≤ 16777216 ∧ Q (.sh (.str (x ++ y)))) := nr rfl
theorem s_add3 : gAdd (.list ds) (.list es) Q = (ds.length + es.length ≤ 16777216 ∧ Q (.own (ds ++ es))) := nr rfl
theorem s_add4 : gAdd (.tuple ds) (.tuple es) Q = (ds.length + es.length ≤ 16777216 ∧ Q (.sh (.tuple (ds ++ es)))) := nr rfl
theorem s_gI {C : Int → Int → Prop} {f : Int → Int → Int} : gI C f (.int a) (.int b) Q = (C a b ∧ Q (.sh (.int (f a b)))) := nr rfl
theorem s_mul1 : gMulT (.int a) (.int b) Q = (CMul a b ∧ Q (.sh (.int (a * b)))) := nr rfl
theorem s_mul2 : gMulT (.list ds) (.int a) Q = ((-(2 ^ 63) ≤ a ∧ a < 2 ^ 63 ∧ ds.length * a.toNat ≤ 16777216) ∧ Q (.own (rep ds a))) := nr rfl
theorem s_mul3 : gMulT (.tuple ds) (.int a) Q = ((-(2 ^ 63) ≤ a ∧ a ≤ 1000 ∧ ds.length ≤ 1000) ∧ Q (.sh (.tuple (rep ds a)))) := nr rfl
theorem s_gB {C : Int → Int → Bool} : gB C (.int a) (.int b) Q = Q (.sh (.bool (C a b))) := nr rfl
theorem s_in1 : gInA neg d (.list ds) Q = (Shp d ∧ Shp (.list ds) ∧ Q (.sh (.bool ((ds.any fun z => PyData.eqv z d) != neg)))) := nr rfl
theorem s_in2 : gInA neg d (.tuple ds) Q = (flatD d = true ∧ ds.all flatD = true ∧ Q (.sh (.bool ((ds.any fun z => PyData.eqv z d) != neg)))) := nr rfl
theorem s_is1 : gIsN neg .none .none Q = Q (.sh (.bool (true != neg))) := nr rfl
theorem s_is2 : gIsN neg (.int a) .none Q = Q (.sh (.bool (false != neg))) := nr rfl
theorem s_is3 : gIsN neg (.str x) .none Q = Q (.sh (.bool (false != neg))) := nr rfl
theorem s_is4 : gIsN neg (.list ds) .none Q = Q (.sh (.bool (false != neg))) := nr rfl
theorem s_is5 : gIsN neg (.tuple ds) .none Q = Q (.sh (.bool (false != neg))) := nr rfl
theorem s_is6 {c : Bool} : gIsN neg (.bool c) .none Q = Q (.sh (.bool (false != neg))) := nr rfl
theorem s_ix1 : gIx (.list ds) (.int a) Q = ∃ d, atI ds a = some d ∧ Q (.sh d) := nr rfl
theorem s_ix2 : gIx (.tuple ds) (.int a) Q = ∃ d, atI ds a = some d ∧ Q (.sh d) := nr rfl
theorem s_ix3 : gIx (.str x) (.int a) Q = (x.length ≤ 16777216 ∧ ∃ k, atI x.cps.toList a = some k ∧ Q (.sh (.str ⟨#[k]⟩))) := nr rfl
theorem s_g1 {f : D → SK → Prop} : g1 f [d] Q = f d Q := nr rfl
theorem s_g2 {f : Int → Int → Int} : g2i f [.int a, .int b] Q = Q (.sh (.int (f a b))) := nr rfl
theorem s_len1 : fLen (.list ds) Q = Q (.sh (.int ds.length)) := nr rfl
theorem s_len2 : fLen (.tuple ds) Q = Q (.sh (.int ds.length)) := nr rfl
theorem s_len3 : fLen (.str x) Q = (x.length ≤ 16777216 ∧ Q (.sh (.int x.length))) := nr rfl
theorem s_tup1 : fTuple (.list ds) Q = Q (.sh (.tuple ds)) := nr rfl
theorem s_tup2 : fTuple (.tuple ds) Q = Q (.sh (.tuple ds)) := nr rfl
theorem s_lst1 : fList (.list ds) Q = Q (.own ds) := nr rfl
theorem s_lst2 : fList (.tuple ds) Q = Q (.own ds) := nr rfl
theorem s_abs : fAbs (.int a) Q = Q (.sh (.int (if a < 0 then -a else a))) := nr rfl
theorem s_int1 : fInt (.int a) Q = Q (.sh (.int a)) := nr rfl
theorem s_int2 {c : Bool} : fInt (.bool c) Q = Q (.sh (.int (if c then 1 else 0))) := nr rfl
theorem s_stri : fStrI (.int a) Q = (a.natAbs.log2 < 1920 ∧ Q (.sh (.str (toString a)))) := nr rfl
theorem s_bools {f : List Bool → Bool} : fBools f (.list ds) Q = ∃ bs, bools ds = some bs ∧ Q (.sh (.bool (f bs))) := nr rfl
theorem s_sum : fSum (.list ds) Q = ∃ bs, intsOf ds = some bs ∧ Q (.sh (.int bs.sum)) := nr rfl
theorem s_sort {r : Bool} : gSort r [.list ds] Q = (PySem.W.AllAlike ds ∧ PySem.W.Sortable ds ∧ (∀ d ∈ ds, d.depth ≤ 64) ∧ Q (.own (srt r ds))) := nr rfl
theorem s_seq1 : seqD (.list ds) kl = kl ds := nr rfl
theorem s_seq2 : seqD (.tuple ds) kl = kl ds := nr rfl
theorem s_seq3 : seqD (.str x) kl = (x.length ≤ 16777216 ∧ kl (signs x)) := nr rfl
def anyD (d : D) (Q : List D → Prop) : Prop := match d with
  | .list ds => Q ds
  | .tuple ds => Q ds
  | .str x => x.length ≤ 16777216 ∧ Q (signs x)
  | _ => False
theorem s_any : dAny te Γ kl E = te Γ (fun s => asD s fun d => anyD d kl) E := nr rfl
theorem s_any1 : anyD (.list ds) kl = kl ds := nr rfl
theorem s_any2 : anyD (.tuple ds) kl = kl ds := nr rfl
theorem s_any3 : anyD (.str x) kl = (x.length ≤ 16777216 ∧ kl (signs x)) := nr rfl
def rngA (s : Slot) (Q : List D → Prop) : Prop := match s with
  | .sh (.int j) => (-16777216 ≤ j ∧ j ≤ 16777216) ∧ Q (rngs 0 j.toNat)
  | _ => False
theorem s_rng1 : dRng1 ta Γ kl E = ta Γ (fun s => rngA s kl) E := nr rfl
theorem s_rng2 : rngA (.sh (.int a)) kl = ((-16777216 ≤ a ∧ a ≤ 16777216) ∧ kl (rngs 0 a.toNat)) := nr rfl
def rngB (s u : Slot) (Q : List D → Prop) : Prop := match s, u with
  | .sh (.int i), .sh (.int j) => (-16777216 ≤ i ∧ i ≤ 16777216 ∧ -16777216 ≤ j ∧ j ≤ 16777216 ∧ j - i ≤ 16777216) ∧ Q (rngs i (j - i).toNat)
  | _, _ => False
theorem s_rng3 : dRng2 ta tb Γ kl E = ta Γ (fun s => tb Γ (fun u => rngB s u kl) E) E := nr rfl
theorem s_rng4 : rngB (.sh (.int a)) (.sh (.int b)) kl = ((-16777216 ≤ a ∧ a ≤ 16777216 ∧ -16777216 ≤ b ∧ b ≤ 16777216 ∧ b - a ≤ 16777216) ∧ kl (rngs a (b - a).toNat)) := nr rfl
def enD (d : D) (Q : List D → Prop) : Prop := match d with
  | .list ds => Q (numbered ds)
  | .tuple ds => Q (numbered ds)
  | _ => False
theorem s_enum : dEnum ta Γ kl E = ta Γ (fun s => asD s fun x => enD x kl) E := nr rfl
theorem s_enum1 : enD (.list ds) kl = kl (numbered ds) := nr rfl
theorem s_enum2 : enD (.tuple ds) kl = kl (numbered ds) := nr rfl
theorem s_gN {N : Env' → Prop} : gN i d Γ N = (i < Γ.length ∧ N (Γ.set i (.sh d))) := nr rfl
theorem s_gsN {N : Env' → Prop} : gsN [] Γ N = N Γ := by unfold gsN; simp
theorem s_gsC {g : TGd} {gs : TGds} {N : Env' → Prop} : gsC g gs (d :: ds) Γ N = g d Γ fun Γ' => gs ds Γ' N := nr rfl
theorem s_gT {n : Nat} {gs : TGds} {N : Env' → Prop} : gT n gs (.tuple ds) Γ N = (ds.length = n ∧ gs ds Γ N) := nr rfl
def varD (o : Option Slot) (Q : SK) : Prop := match o with
  | some (.sh d) => Q (.sh d)
  | some .bag => Q .bag
  | some (.scr ns) => Q (.scr ns)
  | some (.err a x) => Q (.err a x)
  | _ => False
theorem s_var : dVar i Γ Q E = varD Γ[i]? Q := nr rfl
theorem s_var1 : varD (some (.sh d)) Q = Q (.sh d) := nr rfl
theorem s_var2 : varD (some .bag) Q = Q .bag := nr rfl
theorem s_var3 {ns : List Int} : varD (some (.scr ns)) Q = Q (.scr ns) := nr rfl
theorem s_var4 {p : Addr} : varD (some (.err p x)) Q = Q (.err p x) := nr rfl
def methD (o : Option Slot) (k : List D → Prop) : Prop := match o with
  | some (.own xs) => k xs
  | _ => False
theorem s_meth {g : GM} : dMeth i g aa U Γ = methD Γ[i]? fun xs => aa Γ (fun ss => asDs ss fun ds => g xs ds fun ys => U.nx (Γ.set i (.own ys))) U.ex := nr rfl
theorem s_meth1 : methD (some (.own ds)) kl = kl ds := nr rfl
def closeD (o : Option Slot) (i : Nat) (Γ : Env') : Env' := match o with
  | some (.own ds) => Γ.set i (.sh (.list ds))
  | _ => Γ
theorem s_close {t : TSd} : dClose i t U Γ = t U (closeD Γ[i]? i Γ) := nr rfl
theorem s_close1 : closeD (some (.own ds)) i Γ = Γ.set i (.sh (.list ds)) := nr rfl
theorem s_close2 : closeD (some (.sh d)) i Γ = Γ := nr rfl
theorem s_close3 : closeD (some .un) i Γ = Γ := nr rfl
def sixD (o : Option Slot) (k : List D → Prop) : Prop := match o with
  | some (.own xs) => k xs
  | _ => False
def sixI (z : Slot) (k : Int → Prop) : Prop := match z with
  | .sh (.int j) => k j
  | _ => False
theorem s_six : dSix i te ta U Γ = te Γ (fun s => asD s fun d => sixD Γ[i]? fun ds => ta Γ (fun z => sixI z fun k => ∃ j, ixN ds.length k = some j ∧ U.nx (Γ.set i (.own (ds.set j d)))) fun _ => False) U.ex := nr rfl
theorem s_six1 : sixD (some (.own ds)) kl = kl ds := nr rfl
theorem s_six2 {k : Int → Prop} : sixI (.sh (.int a)) k = k a := nr rfl
def retOD (o : Option Slot) (Q : SK) : Prop := match o with
  | some (.sh d) => Q (.sh d)
  | some (.own ds) => Q (.own ds)
  | _ => False
theorem s_retO : dRetO i U Γ = retOD Γ[i]? U.rt := nr rfl
theorem s_retO1 : retOD (some (.sh d)) Q = Q (.sh d) := nr rfl
theorem s_retO2 : retOD (some (.own ds)) Q = Q (.own ds) := nr rfl
theorem s_peek1 (h : Γ[i]? = some (.own ds)) : dPeek i te Γ Q E = te (Γ.set i (.sh (.list ds))) (fun s => LF s ∧ Q s) E := by unfold dPeek; rw [h]
theorem s_peekT1 {tc : TDt} {Q : Bool → Prop} (h : Γ[i]? = some (.own ds)) : dPeekT i tc Γ Q E = tc (Γ.set i (.sh (.list ds))) Q E := by unfold dPeekT; rw [h]
theorem s_peeks0 : peeks [] te = te := nr rfl
theorem s_peeks1 {is : List Nat} : peeks (i :: is) te = dPeek i (peeks is te) := nr rfl
theorem s_wipe0 : wipeG Γ [] = Γ := nr rfl
theorem s_wipe1 {is : List Nat} : wipeG Γ (i :: is) = (wipeG Γ is).set i .un := nr rfl
theorem s_lf1 : LF (.sh d) = (lf d = true) := nr rfl
theorem s_lf2 : LF (.own ds) = (lfs ds = true) := nr rfl
theorem s_app {R : List D → Prop} : mAppend ds [d] R = (ds.length < 16777216 ∧ R (ds ++ [d])) := nr rfl
theorem s_ext {R : List D → Prop} : mExtend ds [.list es] R = (ds.length + es.length ≤ 16777216 ∧ R (ds ++ es)) := nr rfl
theorem s_rem {R : List D → Prop} : mRemove ds [d] R = (Shp (.list ds) ∧ Shp d ∧ ∃ j, ds.findIdx? (fun z => PyData.eqv z d) = some j ∧ R (ds.eraseIdx j)) := nr rfl
theorem s_cnt : vCount (.list ds) [d] Q = (Shp (.list ds) ∧ Shp d ∧ Q (.sh (.int (ds.countP fun z => PyData.eqv z d)))) := nr rfl
theorem s_idx : vIndex (.list ds) [d] Q = (Shp (.list ds) ∧ Shp d ∧ ∃ j, ds.findIdx? (fun z => PyData.eqv z d) = some j ∧ Q (.sh (.int (j : Nat)))) := nr rfl
theorem s_spl : vSplit (.str x) [.str y] Q = ((y.length == 0) = false ∧ x.length + 2 ≤ 16777216 ∧ Q (.own ((Txt.split x y).map PyData.str))) := nr rfl
theorem s_ty1 {T : String} : TyD T (.list ds) = (T = "list") := nr rfl
theorem s_ty2 {T : String} : TyD T (.str x) = (T = "str") := nr rfl
end
section
variable {ta tb te tc to : TD} {tt tu : TDt} {aa : TDa} {t u : TSd} {U : En} {Γ : Env'} {Q : SK} {E : EK} {i : Nat} {Qb : Bool → Prop} {Qa : List Slot → Prop} {g g' : G2} {d e : D} {x : Ex}
theorem s_dSeq : dSeq t u U Γ = t ⟨u U, U.rt, U.ex, U.bk, U.ct⟩ Γ := nr rfl
theorem s_dIfS : dIfS tt t u U Γ = tt Γ (fun k => if k = true then t U Γ else u U Γ) U.ex := nr rfl
theorem s_dTest : dTest te Γ Qb E = te Γ (fun s => bo s Qb) E := nr rfl
theorem s_dBin : dBin g ta tb Γ Q E = ta Γ (fun s => tb Γ (fun u => asD s fun x => asD u fun y => g x y Q) E) E := nr rfl
theorem s_dC : dC d Γ Q E = Q (.sh d) := nr rfl
theorem s_gEq {neg : Bool} : gEq neg d e Q = (Shp d ∧ Shp e ∧ Q (.sh (.bool (PyData.eqv d e != neg)))) := nr rfl
theorem s_dRet : dRet te U Γ = te Γ U.rt U.ex := nr rfl
theorem s_dNext : dNext U Γ = U.nx Γ := nr rfl
theorem s_dRetN : dRetN U Γ = U.rt (.sh .none) := nr rfl
theorem s_dSet : dSet i te U Γ = te Γ (fun s => i < Γ.length ∧ U.nx (Γ.set i s)) U.ex := nr rfl
theorem s_dCons : dCons ta aa Γ Qa E = ta Γ (fun s => aa Γ (fun ss => Qa (s :: ss)) E) E := nr rfl
theorem s_dNil : dNil Γ Qa E = Qa [] := nr rfl
theorem s_dCB {g : G1} : dCB g aa Γ Q E = aa Γ (fun ss => asDs ss fun ds => g ds Q) E := nr rfl
theorem s_dCall {f : Fd} : dCall f aa Γ Q E = aa Γ (fun ss => f (ss.map nrm) Q E) E := nr rfl
theorem s_dLc {ti : TId} {gg : TGd} {vs : List Nat} : dLc ti gg tt te vs Γ Q E = ti Γ (fun ds => lcGo gg tt te (wipeG Γ vs) Q E ds []) E := nr rfl
theorem s_dYes : dYes Γ Qb E = Qb true := nr rfl
theorem s_dTup : dTup aa Γ Q E = aa Γ (fun ss => ss.length ≤ 16777216 ∧ asDs ss fun ds => Q (.sh (.tuple ds))) E := nr rfl
theorem s_dLst : dLst aa Γ Q E = aa Γ (fun ss => ss.length ≤ 16777216 ∧ asDs ss fun ds => Q (.own ds)) E := nr rfl
theorem s_dFor {ti : TId} {gg : TGd} : dFor ti gg t U Γ = ti Γ (fun ds => forGo gg t U ds Γ) U.ex := nr rfl
theorem s_dChain : dChain g g' ta tb tc Γ Q E = ta Γ (fun s => tb Γ (fun u => asD s fun x => asD u fun y => g x y fun r => bo r fun k => if k = true then tc Γ (fun z => asD z fun w => g' y w Q) E else Q (.sh (.bool false))) E) E := nr rfl
theorem s_dAndV : dAndV ta tb Γ Q E = ta Γ (fun s => bo s fun k => if k = true then tb Γ Q E else Q (.sh (.bool false))) E := nr rfl
theorem s_dOrV : dOrV ta tb Γ Q E = ta Γ (fun s => bo s fun k => if k = true then Q (.sh (.bool true)) else tb Γ Q E) E := nr rfl
theorem s_dNotV : dNotV ta Γ Q E = ta Γ (fun s => bo s fun k => Q (.sh (.bool (!k)))) E := nr rfl
theorem s_dAnd : dAnd tt tu Γ Qb E = tt Γ (fun k => if k = true then tu Γ Qb E else Qb false) E := nr rfl
theorem s_dOr : dOr tt tu Γ Qb E = tt Γ (fun k => if k = true then Qb true else tu Γ Qb E) E := nr rfl
theorem s_dNot : dNot tt Γ Qb E = tt Γ (fun k => Qb (!k)) E := nr rfl
theorem s_dIf : dIf tt ta tb Γ Q E = tt Γ (fun k => if k = true then ta Γ Q E else tb Γ Q E) E := nr rfl
theorem s_dRaise : dRaise x U Γ = U.ex x := nr rfl
theorem s_dAsg {gg : TGd} : dAsg te gg U Γ = te Γ (fun s => asD s fun d => gg d Γ U.nx) U.ex := nr rfl
theorem s_dDrop : dDrop te U Γ = te Γ (fun _ => U.nx Γ) U.ex := nr rfl
theorem s_dMv {T : String} {v : GV} : dMv T v to aa Γ Q E = to Γ (fun s => asD s fun d => TyD T d ∧ aa Γ (fun ss => asDs ss fun ds => v d ds Q) E) E := nr rfl
theorem s_dIsi {T : String} : dIsi T te Γ Q E = te Γ (fun s => asD s fun d => ∃ b, kitB (tyOf d) T = some b ∧ Q (.sh (.bool b))) E := nr rfl
theorem s_dZip {Ql : List D → Prop} : dZip ta tb Γ Ql E = ta Γ (fun s => tb Γ (fun u => asD s fun x => asD u fun y => seqD x fun ds => seqD y fun es => Ql (pairs ds es)) E) E := nr rfl
end
end DL
set_option maxHeartbeats 4000000
namespace DL
open PySem PySem.Spec PyProof.Rows L2
def errs : List Str := ["NoField", "NoOver", "NoLine", "NoSix", "NoTurning", "NoThree", "NoRegulus", "NoPartial", "NoSpread", "NoSet", "NoFrame", "NoFigure", "NoPlane", "TooGreat", "TooMany", "NoPaper", "NoText", "NoSaying", "NoName"]
/-! _law_bag(_law_script, _law_at): 0=_law_script 1=_law_at 2=_law_cell 3=_law_great 4=_law_primes -/
def den__law_bag : TSd :=
  (dSeq (dSet 2 (dC (.int 0))) (dSeq (dIfS (dTest (dBin gLt (dVar 1) (dScLen 0))) (dSet 2 (dScIx 0 (dVar 1))) dNext) (dSeq (dSet 3 (dC (.int 0))) (dSeq
  (dIfS (dTest (dBin gGe (dCB (g1 fAbs) (dCons (dVar 2) dNil)) (dBin gPow (dC (.int 10)) (dC (.int 18))))) (dSet 3 (dCB (g1 fAbs) (dCons (dVar 2) dNil)))
  dNext) (dSeq (dSet 4 (dLst (dCons (dC (.int 2147483629)) (dCons (dC (.int 2147483587)) (dCons (dC (.int 2147483579)) (dCons (dC (.int 2147483563)) (dCons
  (dC (.int 2147483549)) (dCons (dC (.int 2147483543)) (dCons (dC (.int 2147483497)) (dCons (dC (.int 2147483489)) dNil)))))))))) (dClose 4 (dRet (dLst
  (dCons (dVar 3) (dCons (dBin gMod (dBin gPow (dBin gAdd (dBin gAdd (dBin gMod (dVar 2) (dC (.int 2147483647))) (dBin gMulT (dC (.int 104729)) (dVar 1)))
  (dC (.int 7))) (dC (.int 5))) (dBin gIx (dVar 4) (dBin gMod (dVar 1) (dC (.int 8))))) dNil))))))))))
def F__law_bag : Fd := mkF 5 den__law_bag
theorem E__law_bag {s0 s1 : Slot} {Q : SK} {E : EK} : F__law_bag [s0, s1] Q E = den__law_bag ⟨fun _ => Q (.sh .none), retS Q, E, fun _ => False, fun _ => False⟩ [s0, s1, .un, .un, .un] := rfl
theorem mono__law_bag : MonoF F__law_bag := mkF_mono (t := den__law_bag)
  (m_seq (m_set dC_mono) (m_seq (m_ifS (dTest_mono (dBin_mono gB_mono dVar_mono m_scLen)) (m_set (m_scIx dVar_mono)) m_next) (m_seq (m_set dC_mono) (m_seq
  (m_ifS (dTest_mono (dBin_mono gB_mono (dCB_mono (g1_mono fAbs_mono) (m_cons dVar_mono m_nil)) (dBin_mono gI_mono dC_mono dC_mono))) (m_set (dCB_mono (g1_mono
  fAbs_mono) (m_cons dVar_mono m_nil))) m_next) (m_seq (m_set (m_lst (m_cons dC_mono (m_cons dC_mono (m_cons dC_mono (m_cons dC_mono (m_cons dC_mono (m_cons
  dC_mono (m_cons dC_mono (m_cons dC_mono m_nil)))))))))) (m_close (m_ret (m_lst (m_cons dVar_mono (m_cons (dBin_mono gI_mono (dBin_mono gI_mono (dBin_mono
  gAdd_mono (dBin_mono gAdd_mono (dBin_mono gI_mono dVar_mono dC_mono) (dBin_mono gMulT_mono dC_mono dVar_mono)) dC_mono) dC_mono) (dBin_mono gIx_mono dVar_mono
  (dBin_mono gI_mono dVar_mono dC_mono))) m_nil))))))))))
/-! _law_take(_law_bag_here, _law_many): 0=_law_bag_here 1=_law_many 2=_law_digit -/
def den__law_take : TSd :=
  (dSeq (dIfS (dTest (dBin gGt (dBag0 0) (dC (.int 0)))) (dSeq (dSet 2 (dBin gMod (dBag0 0) (dVar 1))) (dSeq (dBagS0 0 (dBin gDiv (dBag0 0) (dVar 1))) (dRet
  (dVar 2)))) dNext) (dSeq (dBagS1 0 (dBin gMod (dBin gAdd (dBin gMulT (dBag1 0) (dC (.int 48271))) (dC (.int 11))) (dC (.int 2147483647)))) (dRet (dBin
  gMod (dBin gMod (dBin gPow (dBin gDiv (dBag1 0) (dC (.int 8))) (dC (.int 3))) (dC (.int 2147483629))) (dVar 1)))))
def F__law_take : Fd := mkF 3 den__law_take
theorem E__law_take {s0 s1 : Slot} {Q : SK} {E : EK} : F__law_take [s0, s1] Q E = den__law_take ⟨fun _ => Q (.sh .none), retS Q, E, fun _ => False, fun _ => False⟩ [s0, s1, .un] := rfl
theorem mono__law_take : MonoF F__law_take := mkF_mono (t := den__law_take)
  (m_seq (m_ifS (dTest_mono (dBin_mono gB_mono m_bag0 dC_mono)) (m_seq (m_set (dBin_mono gI_mono m_bag0 dVar_mono)) (m_seq (dBagS0_mono (dBin_mono gI_mono
  m_bag0 dVar_mono)) (m_ret dVar_mono))) m_next) (m_seq (dBagS1_mono (dBin_mono gI_mono (dBin_mono gAdd_mono (dBin_mono gMulT_mono m_bag1 dC_mono) dC_mono)
  dC_mono)) (m_ret (dBin_mono gI_mono (dBin_mono gI_mono (dBin_mono gI_mono (dBin_mono gI_mono m_bag1 dC_mono) dC_mono) dC_mono) dVar_mono))))
/-! _law_times(_law_q, _law_a, _law_b): 0=_law_q 1=_law_a 2=_law_b -/
def den__law_times : TSd :=
  (dSeq (dIfS (dTest (dBin (gEq true) (dVar 0) (dC (.int 4)))) (dRet (dBin gMod (dBin gMulT (dVar 1) (dVar 2)) (dVar 0))) dNext) (dSeq (dIfS (dOr (dTest
  (dBin (gEq false) (dVar 1) (dC (.int 0)))) (dTest (dBin (gEq false) (dVar 2) (dC (.int 0))))) (dRet (dC (.int 0))) dNext) (dRet (dBin gAdd (dC (.int 1))
  (dBin gMod (dBin gSub (dBin gAdd (dVar 1) (dVar 2)) (dC (.int 2))) (dC (.int 3)))))))
def F__law_times : Fd := mkF 3 den__law_times
theorem E__law_times {s0 s1 s2 : Slot} {Q : SK} {E : EK} : F__law_times [s0, s1, s2] Q E = den__law_times ⟨fun _ => Q (.sh .none), retS Q, E, fun _ => False, fun _ => False⟩ [s0, s1, s2] := rfl
theorem mono__law_times : MonoF F__law_times := mkF_mono (t := den__law_times)
  (m_seq (m_ifS (dTest_mono (dBin_mono gEq_mono dVar_mono dC_mono)) (m_ret (dBin_mono gI_mono (dBin_mono gMulT_mono dVar_mono dVar_mono) dVar_mono)) m_next)
  (m_seq (m_ifS (m_or (dTest_mono (dBin_mono gEq_mono dVar_mono dC_mono)) (dTest_mono (dBin_mono gEq_mono dVar_mono dC_mono))) (m_ret dC_mono) m_next) (m_ret
  (dBin_mono gAdd_mono dC_mono (dBin_mono gI_mono (dBin_mono gI_mono (dBin_mono gAdd_mono dVar_mono dVar_mono) dC_mono) dC_mono)))))
/-! _law_often(_law_q, _law_often_here, _law_row): 0=_law_q 1=_law_often_here 2=_law_row 3=_law_a -/
def den__law_often : TSd :=
  (dRet (dCB (g1 fTuple) (dCons (dLc (dAny (dVar 2)) (gN 3) dYes (dCall F__law_times (dCons (dVar 0) (dCons (dVar 1) (dCons (dVar 3) dNil)))) [3]) dNil)))
def F__law_often : Fd := mkF 4 den__law_often
theorem E__law_often {s0 s1 s2 : Slot} {Q : SK} {E : EK} : F__law_often [s0, s1, s2] Q E = den__law_often ⟨fun _ => Q (.sh .none), retS Q, E, fun _ => False, fun _ => False⟩ [s0, s1, s2, .un] := rfl
theorem mono__law_often : MonoF F__law_often := mkF_mono (t := den__law_often)
  (m_ret (dCB_mono (g1_mono fTuple_mono) (m_cons (m_lc (m_any dVar_mono) m_gN m_yes (m_call mono__law_times (m_cons dVar_mono (m_cons dVar_mono (m_cons
  dVar_mono m_nil))))) m_nil)))
/-! _law_back(_law_q, _law_a): 0=_law_q 1=_law_a 2=_law_b -/
def den__law_back : TSd :=
  (dRet (dBin gIx (dLc (dRng2 (dC (.int 1)) (dVar 0)) (gN 2) (dTest (dBin (gEq false) (dCall F__law_times (dCons (dVar 0) (dCons (dVar 1) (dCons (dVar 2)
  dNil)))) (dC (.int 1)))) (dVar 2) [2]) (dC (.int 0))))
def F__law_back : Fd := mkF 3 den__law_back
theorem E__law_back {s0 s1 : Slot} {Q : SK} {E : EK} : F__law_back [s0, s1] Q E = den__law_back ⟨fun _ => Q (.sh .none), retS Q, E, fun _ => False, fun _ => False⟩ [s0, s1, .un] := rfl
theorem mono__law_back : MonoF F__law_back := mkF_mono (t := den__law_back)
  (m_ret (dBin_mono gIx_mono (m_lc (m_rng2 dC_mono dVar_mono) m_gN (dTest_mono (dBin_mono gEq_mono (m_call mono__law_times (m_cons dVar_mono (m_cons dVar_mono
  (m_cons dVar_mono m_nil)))) dC_mono)) dVar_mono) dC_mono))
/-! _law_plus(_law_q, _law_a, _law_b): 0=_law_q 1=_law_a 2=_law_b -/
def den__law_plus : TSd :=
  (dSeq (dIfS (dTest (dBin (gEq false) (dVar 0) (dC (.int 4)))) (dRet (dBin gXor (dVar 1) (dVar 2))) dNext) (dRet (dBin gMod (dBin gAdd (dVar 1) (dVar 2))
  (dVar 0))))
def F__law_plus : Fd := mkF 3 den__law_plus
theorem E__law_plus {s0 s1 s2 : Slot} {Q : SK} {E : EK} : F__law_plus [s0, s1, s2] Q E = den__law_plus ⟨fun _ => Q (.sh .none), retS Q, E, fun _ => False, fun _ => False⟩ [s0, s1, s2] := rfl
theorem mono__law_plus : MonoF F__law_plus := mkF_mono (t := den__law_plus)
  (m_seq (m_ifS (dTest_mono (dBin_mono gEq_mono dVar_mono dC_mono)) (m_ret (dBin_mono gI_mono dVar_mono dVar_mono)) m_next) (m_ret (dBin_mono gI_mono (dBin_mono
  gAdd_mono dVar_mono dVar_mono) dVar_mono)))
/-! _law_more(_law_q, _law_row, _law_often_here, _law_other): 0=_law_q 1=_law_row 2=_law_often_here 3=_law_other 4=_law_a 5=_law_b -/
def den__law_more : TSd :=
  (dRet (dCB (g1 fTuple) (dCons (dLc (dZip (dVar 1) (dVar 3)) (gT 2 (gsC (gN 4) (gsC (gN 5) gsN))) dYes (dCall F__law_plus (dCons (dVar 0) (dCons (dVar
  4) (dCons (dCall F__law_times (dCons (dVar 0) (dCons (dVar 2) (dCons (dVar 5) dNil)))) dNil)))) [4, 5]) dNil)))
def F__law_more : Fd := mkF 6 den__law_more
theorem E__law_more {s0 s1 s2 s3 : Slot} {Q : SK} {E : EK} : F__law_more [s0, s1, s2, s3] Q E = den__law_more ⟨fun _ => Q (.sh .none), retS Q, E, fun _ => False, fun _ => False⟩ [s0, s1, s2, s3, .un, .un] := rfl
theorem mono__law_more : MonoF F__law_more := mkF_mono (t := den__law_more)
  (m_ret (dCB_mono (g1_mono fTuple_mono) (m_cons (m_lc (m_zip dVar_mono dVar_mono) (m_gT (m_gsC m_gN (m_gsC m_gN m_gsN))) m_yes (m_call mono__law_plus (m_cons
  dVar_mono (m_cons dVar_mono (m_cons (m_call mono__law_times (m_cons dVar_mono (m_cons dVar_mono (m_cons dVar_mono m_nil)))) m_nil))))) m_nil)))
/-! _law_minus(_law_q, _law_a, _law_b): 0=_law_q 1=_law_a 2=_law_b -/
def den__law_minus : TSd :=
  (dSeq (dIfS (dTest (dBin (gEq false) (dVar 0) (dC (.int 4)))) (dRet (dBin gXor (dVar 1) (dVar 2))) dNext) (dRet (dBin gMod (dBin gSub (dVar 1) (dVar 2))
  (dVar 0))))
def F__law_minus : Fd := mkF 3 den__law_minus
theorem E__law_minus {s0 s1 s2 : Slot} {Q : SK} {E : EK} : F__law_minus [s0, s1, s2] Q E = den__law_minus ⟨fun _ => Q (.sh .none), retS Q, E, fun _ => False, fun _ => False⟩ [s0, s1, s2] := rfl
theorem mono__law_minus : MonoF F__law_minus := mkF_mono (t := den__law_minus)
  (m_seq (m_ifS (dTest_mono (dBin_mono gEq_mono dVar_mono dC_mono)) (m_ret (dBin_mono gI_mono dVar_mono dVar_mono)) m_next) (m_ret (dBin_mono gI_mono (dBin_mono
  gI_mono dVar_mono dVar_mono) dVar_mono)))
/-! _law_lowest(_law_q, _law_rows): 0=_law_q 1=_law_rows 2=_law_left 3=_law_found 4=_law_at 5=_law_some 6=_law_row 7=_law_lead -/
def den__law_lowest : TSd :=
  (dSeq (dSet 2 (peeks [] (dLc (dAny (dVar 1)) (gN 6) dYes (dCB (g1 fTuple) (dCons (dVar 6) dNil)) [6]))) (dSeq (dSet 3 (dLst dNil)) (dSeq (dFor (dRng1
  (dIf (dTest (dBin (gEq true) (dVar 1) (dLst dNil))) (dCB (g1 fLen) (dCons (dBin gIx (dVar 1) (dC (.int 0))) dNil)) (dC (.int 0)))) (gN 4) (dSeq (dSet
  5 (peeks [2] (dLc (dAny (dVar 2)) (gN 6) (dTest (dBin (gEq true) (dBin gIx (dVar 6) (dVar 4)) (dC (.int 0)))) (dVar 6) [6]))) (dClose 5 (dIfS (dTest (dBin
  (gEq true) (dVar 5) (dLst dNil))) (dSeq (dClose 5 (dSet 7 (dCall F__law_often (dCons (dVar 0) (dCons (dCall F__law_back (dCons (dVar 0) (dCons (dBin gIx
  (dBin gIx (dVar 5) (dC (.int 0))) (dVar 4)) dNil))) (dCons (dBin gIx (dVar 5) (dC (.int 0))) dNil)))))) (dSeq (dClose 5 (dMeth 2 mRemove (dCons (dBin
  gIx (dVar 5) (dC (.int 0))) dNil))) (dSeq (dClose 2 (dSet 2 (peeks [] (dLc (dAny (dVar 2)) (gN 6) dYes (dCall F__law_more (dCons (dVar 0) (dCons (dVar
  6) (dCons (dCall F__law_minus (dCons (dVar 0) (dCons (dC (.int 0)) (dCons (dBin gIx (dVar 6) (dVar 4)) dNil)))) (dCons (dVar 7) dNil))))) [6])))) (dClose
  3 (dSet 3 (dBin gAdd (dLc (dAny (dVar 3)) (gN 6) dYes (dCall F__law_more (dCons (dVar 0) (dCons (dVar 6) (dCons (dCall F__law_minus (dCons (dVar 0) (dCons
  (dC (.int 0)) (dCons (dBin gIx (dVar 6) (dVar 4)) dNil)))) (dCons (dVar 7) dNil))))) [6]) (dLst (dCons (dVar 7) dNil)))))))) dNext)))) (dRetO 3))))
def F__law_lowest : Fd := mkF 8 den__law_lowest
theorem E__law_lowest {s0 s1 : Slot} {Q : SK} {E : EK} : F__law_lowest [s0, s1] Q E = den__law_lowest ⟨fun _ => Q (.sh .none), retS Q, E, fun _ => False, fun _ => False⟩ [s0, s1, .un, .un, .un, .un, .un, .un] := rfl
theorem mono__law_lowest : MonoF F__law_lowest := mkF_mono (t := den__law_lowest)
  (m_seq (m_set (m_peeks [] (m_lc (m_any dVar_mono) m_gN m_yes (dCB_mono (g1_mono fTuple_mono) (m_cons dVar_mono m_nil))))) (m_seq (m_set (m_lst m_nil))
  (m_seq (m_for (m_rng1 (m_if (dTest_mono (dBin_mono gEq_mono dVar_mono (m_lst m_nil))) (dCB_mono (g1_mono fLen_mono) (m_cons (dBin_mono gIx_mono dVar_mono
  dC_mono) m_nil)) dC_mono)) m_gN (m_seq (m_set (m_peeks [2] (m_lc (m_any dVar_mono) m_gN (dTest_mono (dBin_mono gEq_mono (dBin_mono gIx_mono dVar_mono
  dVar_mono) dC_mono)) dVar_mono))) (m_close (m_ifS (dTest_mono (dBin_mono gEq_mono dVar_mono (m_lst m_nil))) (m_seq (m_close (m_set (m_call mono__law_often
  (m_cons dVar_mono (m_cons (m_call mono__law_back (m_cons dVar_mono (m_cons (dBin_mono gIx_mono (dBin_mono gIx_mono dVar_mono dC_mono) dVar_mono) m_nil)))
  (m_cons (dBin_mono gIx_mono dVar_mono dC_mono) m_nil)))))) (m_seq (m_close (dMeth_mono mRemove_mono (m_cons (dBin_mono gIx_mono dVar_mono dC_mono) m_nil)))
  (m_seq (m_close (m_set (m_peeks [] (m_lc (m_any dVar_mono) m_gN m_yes (m_call mono__law_more (m_cons dVar_mono (m_cons dVar_mono (m_cons (m_call mono__law_minus
  (m_cons dVar_mono (m_cons dC_mono (m_cons (dBin_mono gIx_mono dVar_mono dVar_mono) m_nil)))) (m_cons dVar_mono m_nil))))))))) (m_close (m_set (dBin_mono
  gAdd_mono (m_lc (m_any dVar_mono) m_gN m_yes (m_call mono__law_more (m_cons dVar_mono (m_cons dVar_mono (m_cons (m_call mono__law_minus (m_cons dVar_mono
  (m_cons dC_mono (m_cons (dBin_mono gIx_mono dVar_mono dVar_mono) m_nil)))) (m_cons dVar_mono m_nil)))))) (m_lst (m_cons dVar_mono m_nil)))))))) m_next))))
  m_retO)))
/-! _law_line(_law_q, _law_row, _law_other): 0=_law_q 1=_law_row 2=_law_other 3=_law_found -/
def den__law_line : TSd :=
  (dSeq (dSet 3 (dCall F__law_lowest (dCons (dVar 0) (dCons (dLst (dCons (dVar 1) (dCons (dVar 2) dNil))) dNil)))) (dClose 3 (dRet (dIf (dTest (dBin (gEq
  false) (dCB (g1 fLen) (dCons (dVar 3) dNil)) (dC (.int 2)))) (dCB (g1 fTuple) (dCons (dVar 3) dNil)) (dC .none)))))
def F__law_line : Fd := mkF 4 den__law_line
theorem E__law_line {s0 s1 s2 : Slot} {Q : SK} {E : EK} : F__law_line [s0, s1, s2] Q E = den__law_line ⟨fun _ => Q (.sh .none), retS Q, E, fun _ => False, fun _ => False⟩ [s0, s1, s2, .un] := rfl
theorem mono__law_line : MonoF F__law_line := mkF_mono (t := den__law_line)
  (m_seq (m_set (m_call mono__law_lowest (m_cons dVar_mono (m_cons (m_lst (m_cons dVar_mono (m_cons dVar_mono m_nil))) m_nil)))) (m_close (m_ret (m_if (dTest_mono
  (dBin_mono gEq_mono (dCB_mono (g1_mono fLen_mono) (m_cons dVar_mono m_nil)) dC_mono)) (dCB_mono (g1_mono fTuple_mono) (m_cons dVar_mono m_nil)) dC_mono))))
/-! _law_drawn_line(_law_q, _law_bag_here): 0=_law_q 1=_law_bag_here 2=_law_at 3=_law_some 4=_law_found 5=_law_turn 6=_law_place -/
def den__law_drawn_line : TSd :=
  (dSeq (dSet 2 (dCall F__law_take (dCons (dVar 1) (dCons (dC (.int 3)) dNil)))) (dSeq (dSet 3 (peeks [] (dLc (dRng1 (dC (.int 2))) (gN 5) dYes (dBin gAdd
  (dBin gMulT (dTup (dCons (dC (.int 0)) dNil)) (dVar 2)) (dCB (g1 fTuple) (dCons (dLc (dRng1 (dBin gSub (dC (.int 4)) (dVar 2))) (gN 6) dYes (dCall F__law_take
  (dCons (dVar 1) (dCons (dVar 0) dNil))) [6]) dNil))) [5]))) (dSeq (dClose 3 (dSet 4 (dCall F__law_line (dCons (dVar 0) (dCons (dBin gIx (dVar 3) (dC (.int
  0))) (dCons (dBin gIx (dVar 3) (dC (.int 1))) dNil)))))) (dSeq (dIfS (dTest (dBin (gIsN false) (dVar 4) (dC .none))) (dSet 4 (dTup (dCons (dTup (dCons
  (dC (.int 1)) (dCons (dC (.int 0)) (dCons (dC (.int 0)) (dCons (dCall F__law_take (dCons (dVar 1) (dCons (dVar 0) dNil))) dNil))))) (dCons (dTup (dCons
  (dC (.int 0)) (dCons (dC (.int 1)) (dCons (dCall F__law_take (dCons (dVar 1) (dCons (dVar 0) dNil))) (dCons (dC (.int 0)) dNil))))) dNil)))) dNext) (dRet
  (dVar 4))))))
def F__law_drawn_line : Fd := mkF 7 den__law_drawn_line
theorem E__law_drawn_line {s0 s1 : Slot} {Q : SK} {E : EK} : F__law_drawn_line [s0, s1] Q E = den__law_drawn_line ⟨fun _ => Q (.sh .none), retS Q, E, fun _ => False, fun _ => False⟩ [s0, s1, .un, .un, .un, .un, .un] := rfl
theorem mono__law_drawn_line : MonoF F__law_drawn_line := mkF_mono (t := den__law_drawn_line)
  (m_seq (m_set (m_call mono__law_take (m_cons dVar_mono (m_cons dC_mono m_nil)))) (m_seq (m_set (m_peeks [] (m_lc (m_rng1 dC_mono) m_gN m_yes (dBin_mono
  gAdd_mono (dBin_mono gMulT_mono (m_tup (m_cons dC_mono m_nil)) dVar_mono) (dCB_mono (g1_mono fTuple_mono) (m_cons (m_lc (m_rng1 (dBin_mono gI_mono dC_mono
  dVar_mono)) m_gN m_yes (m_call mono__law_take (m_cons dVar_mono (m_cons dVar_mono m_nil)))) m_nil)))))) (m_seq (m_close (m_set (m_call mono__law_line
  (m_cons dVar_mono (m_cons (dBin_mono gIx_mono dVar_mono dC_mono) (m_cons (dBin_mono gIx_mono dVar_mono dC_mono) m_nil)))))) (m_seq (m_ifS (dTest_mono
  (dBin_mono gIsN_mono dVar_mono dC_mono)) (m_set (m_tup (m_cons (m_tup (m_cons dC_mono (m_cons dC_mono (m_cons dC_mono (m_cons (m_call mono__law_take (m_cons
  dVar_mono (m_cons dVar_mono m_nil))) m_nil))))) (m_cons (m_tup (m_cons dC_mono (m_cons dC_mono (m_cons (m_call mono__law_take (m_cons dVar_mono (m_cons
  dVar_mono m_nil))) (m_cons dC_mono m_nil))))) m_nil)))) m_next) (m_ret dVar_mono)))))
/-! _law_all_points(_law_q): 0=_law_q 1=_law_found 2=_law_first 3=_law_some 4=_law_place 5=_law_longer 6=_law_row 7=_law_number -/
def den__law_all_points : TSd :=
  (dSeq (dSet 1 (dLst dNil)) (dSeq (dFor (dRng1 (dC (.int 4))) (gN 2) (dSeq (dSet 3 (dLst (dCons (dBin gAdd (dBin gMulT (dTup (dCons (dC (.int 0)) dNil))
  (dVar 2)) (dTup (dCons (dC (.int 1)) dNil))) dNil))) (dSeq (dFor (dRng1 (dBin gSub (dC (.int 3)) (dVar 2))) (gN 4) (dSeq (dSet 5 (dLst dNil)) (dSeq (dClose
  3 (dFor (dAny (dVar 3)) (gN 6) (dMeth 5 mExtend (dCons (dLc (dRng1 (dVar 0)) (gN 7) dYes (dBin gAdd (dVar 6) (dTup (dCons (dVar 7) dNil))) [7]) dNil))))
  (dClose 5 (dSet 3 (dVar 5)))))) (dClose 3 (dMeth 1 mExtend (dCons (dVar 3) dNil)))))) (dClose 1 (dRet (dCB (gSort false) (dCons (dVar 1) dNil))))))
def F__law_all_points : Fd := mkF 8 den__law_all_points
theorem E__law_all_points {s0 : Slot} {Q : SK} {E : EK} : F__law_all_points [s0] Q E = den__law_all_points ⟨fun _ => Q (.sh .none), retS Q, E, fun _ => False, fun _ => False⟩ [s0, .un, .un, .un, .un, .un, .un, .un] := rfl
theorem mono__law_all_points : MonoF F__law_all_points := mkF_mono (t := den__law_all_points)
  (m_seq (m_set (m_lst m_nil)) (m_seq (m_for (m_rng1 dC_mono) m_gN (m_seq (m_set (m_lst (m_cons (dBin_mono gAdd_mono (dBin_mono gMulT_mono (m_tup (m_cons
  dC_mono m_nil)) dVar_mono) (m_tup (m_cons dC_mono m_nil))) m_nil))) (m_seq (m_for (m_rng1 (dBin_mono gI_mono dC_mono dVar_mono)) m_gN (m_seq (m_set (m_lst
  m_nil)) (m_seq (m_close (m_for (m_any dVar_mono) m_gN (dMeth_mono mExtend_mono (m_cons (m_lc (m_rng1 dVar_mono) m_gN m_yes (dBin_mono gAdd_mono dVar_mono
  (m_tup (m_cons dVar_mono m_nil)))) m_nil)))) (m_close (m_set dVar_mono))))) (m_close (dMeth_mono mExtend_mono (m_cons dVar_mono m_nil)))))) (m_close (m_ret
  (dCB_mono gSort_mono (m_cons dVar_mono m_nil))))))
/-! _law_dual(_law_q, _law_line_here): 0=_law_q 1=_law_line_here 2=_law_found 3=_law_point 4=_law_sums 5=_law_row 6=_law_some 7=_law_a 8=_law_b -/
def den__law_dual : TSd :=
  (dSeq (dSet 2 (dLst dNil)) (dSeq (dFor (dAny (dCall F__law_all_points (dCons (dVar 0) dNil))) (gN 3) (dSeq (dSet 4 (dLst dNil)) (dSeq (dFor (dAny (dVar
  1)) (gN 5) (dSeq (dSet 6 (dC (.int 0))) (dSeq (dFor (dZip (dVar 3) (dVar 5)) (gT 2 (gsC (gN 7) (gsC (gN 8) gsN))) (dSet 6 (dCall F__law_plus (dCons (dVar
  0) (dCons (dVar 6) (dCons (dCall F__law_times (dCons (dVar 0) (dCons (dVar 7) (dCons (dVar 8) dNil)))) dNil)))))) (dMeth 4 mAppend (dCons (dVar 6) dNil)))))
  (dClose 4 (dIfS (dTest (dBin (gEq false) (dVar 4) (dLst (dCons (dC (.int 0)) (dCons (dC (.int 0)) dNil))))) (dMeth 2 mAppend (dCons (dVar 3) dNil)) dNext)))))
  (dClose 2 (dRet (dCall F__law_line (dCons (dVar 0) (dCons (dBin gIx (dVar 2) (dC (.int 0))) (dCons (dBin gIx (dVar 2) (dC (.int 1))) dNil))))))))
def F__law_dual : Fd := mkF 9 den__law_dual
theorem E__law_dual {s0 s1 : Slot} {Q : SK} {E : EK} : F__law_dual [s0, s1] Q E = den__law_dual ⟨fun _ => Q (.sh .none), retS Q, E, fun _ => False, fun _ => False⟩ [s0, s1, .un, .un, .un, .un, .un, .un, .un] := rfl
theorem mono__law_dual : MonoF F__law_dual := mkF_mono (t := den__law_dual)
  (m_seq (m_set (m_lst m_nil)) (m_seq (m_for (m_any (m_call mono__law_all_points (m_cons dVar_mono m_nil))) m_gN (m_seq (m_set (m_lst m_nil)) (m_seq (m_for
  (m_any dVar_mono) m_gN (m_seq (m_set dC_mono) (m_seq (m_for (m_zip dVar_mono dVar_mono) (m_gT (m_gsC m_gN (m_gsC m_gN m_gsN))) (m_set (m_call mono__law_plus
  (m_cons dVar_mono (m_cons dVar_mono (m_cons (m_call mono__law_times (m_cons dVar_mono (m_cons dVar_mono (m_cons dVar_mono m_nil)))) m_nil)))))) (dMeth_mono
  mAppend_mono (m_cons dVar_mono m_nil))))) (m_close (m_ifS (dTest_mono (dBin_mono gEq_mono dVar_mono (m_lst (m_cons dC_mono (m_cons dC_mono m_nil)))))
  (dMeth_mono mAppend_mono (m_cons dVar_mono m_nil)) m_next))))) (m_close (m_ret (m_call mono__law_line (m_cons dVar_mono (m_cons (dBin_mono gIx_mono dVar_mono
  dC_mono) (m_cons (dBin_mono gIx_mono dVar_mono dC_mono) m_nil))))))))
/-! is_whole(thing): 0=thing -/
def den_is_whole : TSd :=
  (dRet (dAndV (dIsi "int" (dVar 0)) (dNotV (dIsi "bool" (dVar 0)))))
def F_is_whole : Fd := mkF 1 den_is_whole
theorem E_is_whole {s0 : Slot} {Q : SK} {E : EK} : F_is_whole [s0] Q E = den_is_whole ⟨fun _ => Q (.sh .none), retS Q, E, fun _ => False, fun _ => False⟩ [s0] := rfl
theorem mono_is_whole : MonoF F_is_whole := mkF_mono (t := den_is_whole)
  (m_ret (m_andV (m_isi dVar_mono) (m_notV (m_isi dVar_mono))))
/-! look_field(q): 0=q -/
def den_look_field : TSd :=
  (dIfS (dOr (dNot (dTest (dCall F_is_whole (dCons (dVar 0) dNil)))) (dTest (dBin (gInA true) (dVar 0) (dC (.tuple [(.int 2), (.int 3), (.int 4), (.int
  5)]))))) (dRaise "NoField") dNext)
def F_look_field : Fd := mkF 1 den_look_field
theorem E_look_field {s0 : Slot} {Q : SK} {E : EK} : F_look_field [s0] Q E = den_look_field ⟨fun _ => Q (.sh .none), retS Q, E, fun _ => False, fun _ => False⟩ [s0] := rfl
theorem mono_look_field : MonoF F_look_field := mkF_mono (t := den_look_field)
  (m_ifS (m_or (m_not (dTest_mono (m_call mono_is_whole (m_cons dVar_mono m_nil)))) (dTest_mono (dBin_mono gInA_mono dVar_mono dC_mono))) m_raise m_next)
/-! product_known(q, a, b): 0=q 1=a 2=b 3=found 4=place -/
def den_product_known : TSd :=
  (dSeq (dIfS (dTest (dBin (gEq true) (dVar 0) (dC (.int 4)))) (dRet (dBin gMod (dBin gMulT (dVar 1) (dVar 2)) (dVar 0))) dNext) (dSeq (dSet 3 (dC (.int
  0))) (dSeq (dFor (dRng1 (dC (.int 2))) (gN 4) (dIfS (dTest (dBin (gEq false) (dBin gAnd (dBin gShr (dVar 2) (dVar 4)) (dC (.int 1))) (dC (.int 1)))) (dSet
  3 (dBin gXor (dVar 3) (dBin gShl (dVar 1) (dVar 4)))) dNext)) (dSeq (dIfS (dTest (dBin gGt (dVar 3) (dC (.int 3)))) (dSet 3 (dBin gXor (dVar 3) (dC (.int
  7)))) dNext) (dRet (dVar 3))))))
def F_product_known : Fd := mkF 5 den_product_known
theorem E_product_known {s0 s1 s2 : Slot} {Q : SK} {E : EK} : F_product_known [s0, s1, s2] Q E = den_product_known ⟨fun _ => Q (.sh .none), retS Q, E, fun _ => False, fun _ => False⟩ [s0, s1, s2, .un, .un] := rfl
theorem mono_product_known : MonoF F_product_known := mkF_mono (t := den_product_known)
  (m_seq (m_ifS (dTest_mono (dBin_mono gEq_mono dVar_mono dC_mono)) (m_ret (dBin_mono gI_mono (dBin_mono gMulT_mono dVar_mono dVar_mono) dVar_mono)) m_next)
  (m_seq (m_set dC_mono) (m_seq (m_for (m_rng1 dC_mono) m_gN (m_ifS (dTest_mono (dBin_mono gEq_mono (dBin_mono gI_mono (dBin_mono gI_mono dVar_mono dVar_mono)
  dC_mono) dC_mono)) (m_set (dBin_mono gI_mono dVar_mono (dBin_mono gI_mono dVar_mono dVar_mono))) m_next)) (m_seq (m_ifS (dTest_mono (dBin_mono gB_mono
  dVar_mono dC_mono)) (m_set (dBin_mono gI_mono dVar_mono dC_mono)) m_next) (m_ret dVar_mono)))))
/-! row_times(q, often, row): 0=q 1=often 2=row 3=a -/
def den_row_times : TSd :=
  (dRet (dCB (g1 fTuple) (dCons (dLc (dAny (dVar 2)) (gN 3) dYes (dCall F_product_known (dCons (dVar 0) (dCons (dVar 1) (dCons (dVar 3) dNil)))) [3]) dNil)))
def F_row_times : Fd := mkF 4 den_row_times
theorem E_row_times {s0 s1 s2 : Slot} {Q : SK} {E : EK} : F_row_times [s0, s1, s2] Q E = den_row_times ⟨fun _ => Q (.sh .none), retS Q, E, fun _ => False, fun _ => False⟩ [s0, s1, s2, .un] := rfl
theorem mono_row_times : MonoF F_row_times := mkF_mono (t := den_row_times)
  (m_ret (dCB_mono (g1_mono fTuple_mono) (m_cons (m_lc (m_any dVar_mono) m_gN m_yes (m_call mono_product_known (m_cons dVar_mono (m_cons dVar_mono (m_cons
  dVar_mono m_nil))))) m_nil)))
/-! back_known(q, a): 0=q 1=a 2=b -/
def den_back_known : TSd :=
  (dRet (dBin gIx (dLc (dRng1 (dVar 0)) (gN 2) (dTest (dBin (gEq false) (dCall F_product_known (dCons (dVar 0) (dCons (dVar 1) (dCons (dVar 2) dNil))))
  (dC (.int 1)))) (dVar 2) [2]) (dC (.int 0))))
def F_back_known : Fd := mkF 3 den_back_known
theorem E_back_known {s0 s1 : Slot} {Q : SK} {E : EK} : F_back_known [s0, s1] Q E = den_back_known ⟨fun _ => Q (.sh .none), retS Q, E, fun _ => False, fun _ => False⟩ [s0, s1, .un] := rfl
theorem mono_back_known : MonoF F_back_known := mkF_mono (t := den_back_known)
  (m_ret (dBin_mono gIx_mono (m_lc (m_rng1 dVar_mono) m_gN (dTest_mono (dBin_mono gEq_mono (m_call mono_product_known (m_cons dVar_mono (m_cons dVar_mono
  (m_cons dVar_mono m_nil)))) dC_mono)) dVar_mono) dC_mono))
/-! lead_of(row): 0=row 1=place 2=number -/
def den_lead_of : TSd :=
  (dSeq (dFor (dEnum (dVar 0)) (gT 2 (gsC (gN 1) (gsC (gN 2) gsN))) (dIfS (dTest (dBin (gEq true) (dVar 2) (dC (.int 0)))) (dRet (dVar 1)) dNext)) (dRet
  (dC .none)))
def F_lead_of : Fd := mkF 3 den_lead_of
theorem E_lead_of {s0 : Slot} {Q : SK} {E : EK} : F_lead_of [s0] Q E = den_lead_of ⟨fun _ => Q (.sh .none), retS Q, E, fun _ => False, fun _ => False⟩ [s0, .un, .un] := rfl
theorem mono_lead_of : MonoF F_lead_of := mkF_mono (t := den_lead_of)
  (m_seq (m_for (m_enum dVar_mono) (m_gT (m_gsC m_gN (m_gsC m_gN m_gsN))) (m_ifS (dTest_mono (dBin_mono gEq_mono dVar_mono dC_mono)) (m_ret dVar_mono) m_next))
  (m_ret dC_mono))
/-! scaled(q, row): 0=q 1=row -/
def den_scaled : TSd :=
  (dRet (dCall F_row_times (dCons (dVar 0) (dCons (dCall F_back_known (dCons (dVar 0) (dCons (dBin gIx (dVar 1) (dCall F_lead_of (dCons (dVar 1) dNil)))
  dNil))) (dCons (dVar 1) dNil)))))
def F_scaled : Fd := mkF 2 den_scaled
theorem E_scaled {s0 s1 : Slot} {Q : SK} {E : EK} : F_scaled [s0, s1] Q E = den_scaled ⟨fun _ => Q (.sh .none), retS Q, E, fun _ => False, fun _ => False⟩ [s0, s1] := rfl
theorem mono_scaled : MonoF F_scaled := mkF_mono (t := den_scaled)
  (m_ret (m_call mono_row_times (m_cons dVar_mono (m_cons (m_call mono_back_known (m_cons dVar_mono (m_cons (dBin_mono gIx_mono dVar_mono (m_call mono_lead_of
  (m_cons dVar_mono m_nil))) m_nil))) (m_cons dVar_mono m_nil)))))
/-! difference_known(q, a, b): 0=q 1=a 2=b -/
def den_difference_known : TSd :=
  (dSeq (dIfS (dTest (dBin (gEq false) (dVar 0) (dC (.int 4)))) (dRet (dBin gXor (dVar 1) (dVar 2))) dNext) (dRet (dBin gMod (dBin gSub (dVar 1) (dVar 2))
  (dVar 0))))
def F_difference_known : Fd := mkF 3 den_difference_known
theorem E_difference_known {s0 s1 s2 : Slot} {Q : SK} {E : EK} : F_difference_known [s0, s1, s2] Q E = den_difference_known ⟨fun _ => Q (.sh .none), retS Q, E, fun _ => False, fun _ => False⟩ [s0, s1, s2] := rfl
theorem mono_difference_known : MonoF F_difference_known := mkF_mono (t := den_difference_known)
  (m_seq (m_ifS (dTest_mono (dBin_mono gEq_mono dVar_mono dC_mono)) (m_ret (dBin_mono gI_mono dVar_mono dVar_mono)) m_next) (m_ret (dBin_mono gI_mono (dBin_mono
  gI_mono dVar_mono dVar_mono) dVar_mono)))
/-! row_less(q, row, often, far): 0=q 1=row 2=often 3=far 4=a 5=b -/
def den_row_less : TSd :=
  (dRet (dCB (g1 fTuple) (dCons (dLc (dZip (dVar 1) (dVar 3)) (gT 2 (gsC (gN 4) (gsC (gN 5) gsN))) dYes (dCall F_difference_known (dCons (dVar 0) (dCons
  (dVar 4) (dCons (dCall F_product_known (dCons (dVar 0) (dCons (dVar 2) (dCons (dVar 5) dNil)))) dNil)))) [4, 5]) dNil)))
def F_row_less : Fd := mkF 6 den_row_less
theorem E_row_less {s0 s1 s2 s3 : Slot} {Q : SK} {E : EK} : F_row_less [s0, s1, s2, s3] Q E = den_row_less ⟨fun _ => Q (.sh .none), retS Q, E, fun _ => False, fun _ => False⟩ [s0, s1, s2, s3, .un, .un] := rfl
theorem mono_row_less : MonoF F_row_less := mkF_mono (t := den_row_less)
  (m_ret (dCB_mono (g1_mono fTuple_mono) (m_cons (m_lc (m_zip dVar_mono dVar_mono) (m_gT (m_gsC m_gN (m_gsC m_gN m_gsN))) m_yes (m_call mono_difference_known
  (m_cons dVar_mono (m_cons dVar_mono (m_cons (m_call mono_product_known (m_cons dVar_mono (m_cons dVar_mono (m_cons dVar_mono m_nil)))) m_nil))))) m_nil)))
/-! with_one(q, found, row): 0=q 1=found 2=row 3=one 4=place -/
def den_with_one : TSd :=
  (dSeq (dFor (dAny (dVar 1)) (gN 3) (dSet 2 (dCall F_row_less (dCons (dVar 0) (dCons (dVar 2) (dCons (dBin gIx (dVar 2) (dCall F_lead_of (dCons (dVar 3)
  dNil))) (dCons (dVar 3) dNil))))))) (dSeq (dIfS (dTest (dBin (gIsN false) (dCall F_lead_of (dCons (dVar 2) dNil)) (dC .none))) (dRet (dVar 1)) dNext)
  (dSeq (dSet 2 (dCall F_scaled (dCons (dVar 0) (dCons (dVar 2) dNil)))) (dSeq (dSet 4 (dCall F_lead_of (dCons (dVar 2) dNil))) (dRet (dCB (gSort true)
  (dCons (dBin gAdd (dLc (dAny (dVar 1)) (gN 3) dYes (dCall F_row_less (dCons (dVar 0) (dCons (dVar 3) (dCons (dBin gIx (dVar 3) (dVar 4)) (dCons (dVar
  2) dNil))))) [3]) (dLst (dCons (dVar 2) dNil))) dNil)))))))
def F_with_one : Fd := mkF 5 den_with_one
theorem E_with_one {s0 s1 s2 : Slot} {Q : SK} {E : EK} : F_with_one [s0, s1, s2] Q E = den_with_one ⟨fun _ => Q (.sh .none), retS Q, E, fun _ => False, fun _ => False⟩ [s0, s1, s2, .un, .un] := rfl
theorem mono_with_one : MonoF F_with_one := mkF_mono (t := den_with_one)
  (m_seq (m_for (m_any dVar_mono) m_gN (m_set (m_call mono_row_less (m_cons dVar_mono (m_cons dVar_mono (m_cons (dBin_mono gIx_mono dVar_mono (m_call mono_lead_of
  (m_cons dVar_mono m_nil))) (m_cons dVar_mono m_nil))))))) (m_seq (m_ifS (dTest_mono (dBin_mono gIsN_mono (m_call mono_lead_of (m_cons dVar_mono m_nil))
  dC_mono)) (m_ret dVar_mono) m_next) (m_seq (m_set (m_call mono_scaled (m_cons dVar_mono (m_cons dVar_mono m_nil)))) (m_seq (m_set (m_call mono_lead_of
  (m_cons dVar_mono m_nil))) (m_ret (dCB_mono gSort_mono (m_cons (dBin_mono gAdd_mono (m_lc (m_any dVar_mono) m_gN m_yes (m_call mono_row_less (m_cons dVar_mono
  (m_cons dVar_mono (m_cons (dBin_mono gIx_mono dVar_mono dVar_mono) (m_cons dVar_mono m_nil)))))) (m_lst (m_cons dVar_mono m_nil))) m_nil)))))))
/-! lowest_known(q, rows): 0=q 1=rows 2=found 3=row -/
def den_lowest_known : TSd :=
  (dSeq (dSet 2 (dLst dNil)) (dSeq (dFor (dAny (dVar 1)) (gN 3) (dClose 2 (dSet 2 (dCall F_with_one (dCons (dVar 0) (dCons (dVar 2) (dCons (dCB (g1 fTuple)
  (dCons (dVar 3) dNil)) dNil))))))) (dRetO 2)))
def F_lowest_known : Fd := mkF 4 den_lowest_known
theorem E_lowest_known {s0 s1 : Slot} {Q : SK} {E : EK} : F_lowest_known [s0, s1] Q E = den_lowest_known ⟨fun _ => Q (.sh .none), retS Q, E, fun _ => False, fun _ => False⟩ [s0, s1, .un, .un] := rfl
theorem mono_lowest_known : MonoF F_lowest_known := mkF_mono (t := den_lowest_known)
  (m_seq (m_set (m_lst m_nil)) (m_seq (m_for (m_any dVar_mono) m_gN (m_close (m_set (m_call mono_with_one (m_cons dVar_mono (m_cons dVar_mono (m_cons (dCB_mono
  (g1_mono fTuple_mono) (m_cons dVar_mono m_nil)) m_nil))))))) m_retO))
/-! null_rows(q, rows, many): 0=q 1=rows 2=many 3=lows 4=leads 5=found 6=free 7=row 8=lead 9=low -/
def den_null_rows : TSd :=
  (dSeq (dSet 3 (dCall F_lowest_known (dCons (dVar 0) (dCons (dVar 1) dNil)))) (dSeq (dClose 3 (dSet 4 (peeks [] (dLc (dAny (dVar 3)) (gN 7) dYes (dCall
  F_lead_of (dCons (dVar 7) dNil)) [7])))) (dSeq (dSet 5 (dLst dNil)) (dSeq (dFor (dRng1 (dVar 2)) (gN 6) (dClose 4 (dIfS (dTest (dBin (gInA true) (dVar
  6) (dVar 4))) (dSeq (dSet 7 (dBin gMulT (dLst (dCons (dC (.int 0)) dNil)) (dVar 2))) (dSeq (dSix 7 (dC (.int 1)) (dVar 6)) (dSeq (dClose 4 (dClose 3 (dFor
  (dZip (dVar 4) (dVar 3)) (gT 2 (gsC (gN 8) (gsC (gN 9) gsN))) (dSix 7 (dCall F_difference_known (dCons (dVar 0) (dCons (dC (.int 0)) (dCons (dBin gIx
  (dVar 9) (dVar 6)) dNil)))) (dVar 8))))) (dClose 7 (dMeth 5 mAppend (dCons (dCB (g1 fTuple) (dCons (dVar 7) dNil)) dNil)))))) dNext))) (dRetO 5)))))
def F_null_rows : Fd := mkF 10 den_null_rows
theorem E_null_rows {s0 s1 s2 : Slot} {Q : SK} {E : EK} : F_null_rows [s0, s1, s2] Q E = den_null_rows ⟨fun _ => Q (.sh .none), retS Q, E, fun _ => False, fun _ => False⟩ [s0, s1, s2, .un, .un, .un, .un, .un, .un, .un] := rfl
theorem mono_null_rows : MonoF F_null_rows := mkF_mono (t := den_null_rows)
  (m_seq (m_set (m_call mono_lowest_known (m_cons dVar_mono (m_cons dVar_mono m_nil)))) (m_seq (m_close (m_set (m_peeks [] (m_lc (m_any dVar_mono) m_gN
  m_yes (m_call mono_lead_of (m_cons dVar_mono m_nil)))))) (m_seq (m_set (m_lst m_nil)) (m_seq (m_for (m_rng1 dVar_mono) m_gN (m_close (m_ifS (dTest_mono
  (dBin_mono gInA_mono dVar_mono dVar_mono)) (m_seq (m_set (dBin_mono gMulT_mono (m_lst (m_cons dC_mono m_nil)) dVar_mono)) (m_seq (dSix_mono dC_mono dVar_mono)
  (m_seq (m_close (m_close (m_for (m_zip dVar_mono dVar_mono) (m_gT (m_gsC m_gN (m_gsC m_gN m_gsN))) (dSix_mono (m_call mono_difference_known (m_cons dVar_mono
  (m_cons dC_mono (m_cons (dBin_mono gIx_mono dVar_mono dVar_mono) m_nil)))) dVar_mono)))) (m_close (dMeth_mono mAppend_mono (m_cons (dCB_mono (g1_mono
  fTuple_mono) (m_cons dVar_mono m_nil)) m_nil)))))) m_next))) m_retO))))
/-! rows_across(q, rows): 0=q 1=rows -/
def den_rows_across : TSd :=
  (dRet (dCB (g1 fTuple) (dCons (dCall F_lowest_known (dCons (dVar 0) (dCons (dCall F_null_rows (dCons (dVar 0) (dCons (dVar 1) (dCons (dC (.int 4)) dNil))))
  dNil))) dNil)))
def F_rows_across : Fd := mkF 2 den_rows_across
theorem E_rows_across {s0 s1 : Slot} {Q : SK} {E : EK} : F_rows_across [s0, s1] Q E = den_rows_across ⟨fun _ => Q (.sh .none), retS Q, E, fun _ => False, fun _ => False⟩ [s0, s1] := rfl
theorem mono_rows_across : MonoF F_rows_across := mkF_mono (t := den_rows_across)
  (m_ret (dCB_mono (g1_mono fTuple_mono) (m_cons (m_call mono_lowest_known (m_cons dVar_mono (m_cons (m_call mono_null_rows (m_cons dVar_mono (m_cons dVar_mono
  (m_cons dC_mono m_nil)))) m_nil))) m_nil)))
/-! dual_line(q, line): 0=q 1=line -/
def den_dual_line : TSd :=
  (dSeq (dDrop (dCall F_look_field (dCons (dVar 0) dNil))) (dRet (dCall F_rows_across (dCons (dVar 0) (dCons (dVar 1) dNil)))))
def F_dual_line : Fd := mkF 2 den_dual_line
theorem E_dual_line {s0 s1 : Slot} {Q : SK} {E : EK} : F_dual_line [s0, s1] Q E = den_dual_line ⟨fun _ => Q (.sh .none), retS Q, E, fun _ => False, fun _ => False⟩ [s0, s1] := rfl
theorem mono_dual_line : MonoF F_dual_line := mkF_mono (t := den_dual_line)
  (m_seq (m_drop (m_call mono_look_field (m_cons dVar_mono m_nil))) (m_ret (m_call mono_rows_across (m_cons dVar_mono (m_cons dVar_mono m_nil)))))
/-! _law_which(_law_e): 0=_law_e 1=_law_told 2=_law_names -/
def den__law_which (a : Addr) (x : Ex) : TSd :=
  (dSeq (dSet 1 (dLst (dCons (dIsE 0 a x (x == ("NoField" : Str))) (dCons (dIsE 0 a x (x == ("NoOver" : Str))) (dCons (dIsE 0 a x (x == ("NoLine" : Str)))
  dNil))))) (dSeq (dClose 1 (dSet 1 (dBin gAdd (dVar 1) (dLst (dCons (dIsE 0 a x (x == ("NoSix" : Str))) (dCons (dIsE 0 a x (x == ("NoTurning" : Str)))
  (dCons (dIsE 0 a x (x == ("NoThree" : Str))) dNil))))))) (dSeq (dClose 1 (dSet 1 (dBin gAdd (dVar 1) (dLst (dCons (dIsE 0 a x (x == ("NoRegulus" : Str)))
  (dCons (dIsE 0 a x (x == ("NoPartial" : Str))) (dCons (dIsE 0 a x (x == ("NoSpread" : Str))) dNil))))))) (dSeq (dClose 1 (dSet 1 (dBin gAdd (dVar 1) (dLst
  (dCons (dIsE 0 a x (x == ("NoSet" : Str))) (dCons (dIsE 0 a x (x == ("NoFrame" : Str))) (dCons (dIsE 0 a x (x == ("NoFigure" : Str))) dNil))))))) (dSeq
  (dClose 1 (dSet 1 (dBin gAdd (dVar 1) (dLst (dCons (dIsE 0 a x (x == ("NoPlane" : Str))) (dCons (dIsE 0 a x (x == ("TooGreat" : Str))) (dCons (dIsE 0
  a x (x == ("TooMany" : Str))) dNil))))))) (dSeq (dClose 1 (dSet 1 (dBin gAdd (dVar 1) (dLst (dCons (dIsE 0 a x (x == ("NoPaper" : Str))) (dCons (dIsE
  0 a x (x == ("NoText" : Str))) (dCons (dIsE 0 a x (x == ("NoSaying" : Str))) (dCons (dIsE 0 a x (x == ("NoName" : Str))) dNil)))))))) (dSeq (dSet 2 (dC
  (.str "NoField NoOver NoLine NoSix NoTurning NoThree NoRegulus NoPartial NoSpread NoSet NoFrame NoFigure"))) (dSeq (dSet 2 (dBin gAdd (dVar 2) (dC (.str
  " NoPlane TooGreat TooMany NoPaper NoText NoSaying NoName")))) (dSeq (dClose 1 (dIfS (dOr (dTest (dBin (gEq true) (dMv "list" vCount (dVar 1) (dCons (dC
  (.bool true)) dNil)) (dC (.int 1)))) (dNot (dTest (dIsE 0 a x true)))) (dRet (dC (.str "other"))) dNext)) (dClose 1 (dRet (dBin gIx (dMv "str" vSplit
  (dVar 2) (dCons (dC (.str " ")) dNil)) (dMv "list" vIndex (dVar 1) (dCons (dC (.bool true)) dNil))))))))))))))
def F__law_which : Addr → Ex → Fd := fun a x => mkF 3 (den__law_which a x)
theorem mono__law_which (a : Addr) (x : Ex) : MonoF (F__law_which a x) := mkF_mono (t := den__law_which a x)
  (m_seq (m_set (m_lst (m_cons m_isE (m_cons m_isE (m_cons m_isE m_nil))))) (m_seq (m_close (m_set (dBin_mono gAdd_mono dVar_mono (m_lst (m_cons m_isE (m_cons
  m_isE (m_cons m_isE m_nil))))))) (m_seq (m_close (m_set (dBin_mono gAdd_mono dVar_mono (m_lst (m_cons m_isE (m_cons m_isE (m_cons m_isE m_nil))))))) (m_seq
  (m_close (m_set (dBin_mono gAdd_mono dVar_mono (m_lst (m_cons m_isE (m_cons m_isE (m_cons m_isE m_nil))))))) (m_seq (m_close (m_set (dBin_mono gAdd_mono
  dVar_mono (m_lst (m_cons m_isE (m_cons m_isE (m_cons m_isE m_nil))))))) (m_seq (m_close (m_set (dBin_mono gAdd_mono dVar_mono (m_lst (m_cons m_isE (m_cons
  m_isE (m_cons m_isE (m_cons m_isE m_nil)))))))) (m_seq (m_set dC_mono) (m_seq (m_set (dBin_mono gAdd_mono dVar_mono dC_mono)) (m_seq (m_close (m_ifS (m_or
  (dTest_mono (dBin_mono gEq_mono (m_mv vCount_mono dVar_mono (m_cons dC_mono m_nil)) dC_mono)) (m_not (dTest_mono m_isE))) (m_ret dC_mono) m_next)) (m_close
  (m_ret (dBin_mono gIx_mono (m_mv vSplit_mono dVar_mono (m_cons dC_mono m_nil)) (m_mv vIndex_mono dVar_mono (m_cons dC_mono m_nil))))))))))))))
/-! _law_said(_law_q, _law_line_here): 0=_law_q 1=_law_line_here 2=_law_e -/
def den__law_said : TSd :=
  (dTry 2 3 errs (dRet (dCall F_dual_line (dCons (dVar 0) (dCons (dVar 1) dNil)))) (fun a x => (dRet (dCallE 2 a x F__law_which))))
def F__law_said : Fd := mkF 3 den__law_said
theorem E__law_said {s0 s1 : Slot} {Q : SK} {E : EK} : F__law_said [s0, s1] Q E = den__law_said ⟨fun _ => Q (.sh .none), retS Q, E, fun _ => False, fun _ => False⟩ [s0, s1, .un] := rfl
theorem mono__law_said : MonoF F__law_said := mkF_mono (t := den__law_said)
  (dTry_mono (m_ret (m_call mono_dual_line (m_cons dVar_mono (m_cons dVar_mono m_nil)))) (fun a x => (m_ret (m_callE (mono__law_which a x)))))
/-! _law_no_field(_law_bag_here): 0=_law_bag_here -/
def den__law_no_field : TSd :=
  (dRet (dBin gIx (dLst (dCons (dC (.int 0)) (dCons (dC (.int 1)) (dCons (dC (.int 6)) (dCons (dNeg (dC (.int 2))) (dCons (dC (.bool true)) (dCons (dC .none)
  (dCons (dC (.str "3")) (dCons (dLst (dCons (dC (.int 2)) dNil)) (dCons (dTup (dCons (dC (.int 3)) dNil)) (dCons (dBin gPow (dC (.int 10)) (dC (.int 40)))
  (dCons (dC (.bool false)) (dCons (dC (.str "")) dNil))))))))))))) (dCall F__law_take (dCons (dVar 0) (dCons (dC (.int 12)) dNil)))))
def F__law_no_field : Fd := mkF 1 den__law_no_field
theorem E__law_no_field {s0 : Slot} {Q : SK} {E : EK} : F__law_no_field [s0] Q E = den__law_no_field ⟨fun _ => Q (.sh .none), retS Q, E, fun _ => False, fun _ => False⟩ [s0] := rfl
theorem mono__law_no_field : MonoF F__law_no_field := mkF_mono (t := den__law_no_field)
  (m_ret (dBin_mono gIx_mono (m_lst (m_cons dC_mono (m_cons dC_mono (m_cons dC_mono (m_cons (m_neg dC_mono) (m_cons dC_mono (m_cons dC_mono (m_cons dC_mono
  (m_cons (m_lst (m_cons dC_mono m_nil)) (m_cons (m_tup (m_cons dC_mono m_nil)) (m_cons (dBin_mono gI_mono dC_mono dC_mono) (m_cons dC_mono (m_cons dC_mono
  m_nil))))))))))))) (m_call mono__law_take (m_cons dVar_mono (m_cons dC_mono m_nil)))))
/-! _law_whole(_law_thing): 0=_law_thing -/
def den__law_whole : TSd :=
  (dRet (dAndV (dIsi "int" (dVar 0)) (dNotV (dIsi "bool" (dVar 0)))))
def F__law_whole : Fd := mkF 1 den__law_whole
theorem E__law_whole {s0 : Slot} {Q : SK} {E : EK} : F__law_whole [s0] Q E = den__law_whole ⟨fun _ => Q (.sh .none), retS Q, E, fun _ => False, fun _ => False⟩ [s0] := rfl
theorem mono__law_whole : MonoF F__law_whole := mkF_mono (t := den__law_whole)
  (m_ret (m_andV (m_isi dVar_mono) (m_notV (m_isi dVar_mono))))
/-! _law_is_row(_law_q, _law_thing, _law_many): 0=_law_q 1=_law_thing 2=_law_many 3=_law_one -/
def den__law_is_row : TSd :=
  (dSeq (dIfS (dOr (dNot (dTest (dIsi "tuple" (dVar 1)))) (dTest (dBin (gEq true) (dCB (g1 fLen) (dCons (dVar 1) dNil)) (dVar 2)))) (dRet (dC (.bool false)))
  dNext) (dRet (dCB (g1 (fBools fun bs => bs.all id)) (dCons (dLc (dAny (dVar 1)) (gN 3) dYes (dAndV (dCall F__law_whole (dCons (dVar 3) dNil)) (dChain
  gLe gLt (dC (.int 0)) (dVar 3) (dVar 0))) [3]) dNil))))
def F__law_is_row : Fd := mkF 4 den__law_is_row
theorem E__law_is_row {s0 s1 s2 : Slot} {Q : SK} {E : EK} : F__law_is_row [s0, s1, s2] Q E = den__law_is_row ⟨fun _ => Q (.sh .none), retS Q, E, fun _ => False, fun _ => False⟩ [s0, s1, s2, .un] := rfl
theorem mono__law_is_row : MonoF F__law_is_row := mkF_mono (t := den__law_is_row)
  (m_seq (m_ifS (m_or (m_not (dTest_mono (m_isi dVar_mono))) (dTest_mono (dBin_mono gEq_mono (dCB_mono (g1_mono fLen_mono) (m_cons dVar_mono m_nil)) dVar_mono)))
  (m_ret dC_mono) m_next) (m_ret (dCB_mono (g1_mono fBools_mono) (m_cons (m_lc (m_any dVar_mono) m_gN m_yes (m_andV (m_call mono__law_whole (m_cons dVar_mono
  m_nil)) (dChain_mono gB_mono gB_mono dC_mono dVar_mono dVar_mono))) m_nil))))
/-! _law_is_line(_law_q, _law_thing): 0=_law_q 1=_law_thing 2=_law_row -/
def den__law_is_line : TSd :=
  (dSeq (dIfS (dOr (dNot (dTest (dIsi "tuple" (dVar 1)))) (dOr (dTest (dBin (gEq true) (dCB (g1 fLen) (dCons (dVar 1) dNil)) (dC (.int 2)))) (dNot (dTest
  (dCB (g1 (fBools fun bs => bs.all id)) (dCons (dLc (dAny (dVar 1)) (gN 2) dYes (dCall F__law_is_row (dCons (dVar 0) (dCons (dVar 2) (dCons (dC (.int 4))
  dNil)))) [2]) dNil)))))) (dRet (dC (.bool false))) dNext) (dRet (dBin (gEq false) (dCall F__law_lowest (dCons (dVar 0) (dCons (dCB (g1 fList) (dCons (dVar
  1) dNil)) dNil))) (dCB (g1 fList) (dCons (dVar 1) dNil)))))
def F__law_is_line : Fd := mkF 3 den__law_is_line
theorem E__law_is_line {s0 s1 : Slot} {Q : SK} {E : EK} : F__law_is_line [s0, s1] Q E = den__law_is_line ⟨fun _ => Q (.sh .none), retS Q, E, fun _ => False, fun _ => False⟩ [s0, s1, .un] := rfl
theorem mono__law_is_line : MonoF F__law_is_line := mkF_mono (t := den__law_is_line)
  (m_seq (m_ifS (m_or (m_not (dTest_mono (m_isi dVar_mono))) (m_or (dTest_mono (dBin_mono gEq_mono (dCB_mono (g1_mono fLen_mono) (m_cons dVar_mono m_nil))
  dC_mono)) (m_not (dTest_mono (dCB_mono (g1_mono fBools_mono) (m_cons (m_lc (m_any dVar_mono) m_gN m_yes (m_call mono__law_is_row (m_cons dVar_mono (m_cons
  dVar_mono (m_cons dC_mono m_nil))))) m_nil)))))) (m_ret dC_mono) m_next) (m_ret (dBin_mono gEq_mono (m_call mono__law_lowest (m_cons dVar_mono (m_cons
  (dCB_mono (g1_mono fList_mono) (m_cons dVar_mono m_nil)) m_nil))) (dCB_mono (g1_mono fList_mono) (m_cons dVar_mono m_nil)))))
/-! law(_law_script): 0=_law_script 1=_law_at 2=_law_bag_here 3=_law_q 4=_law_turn 5=_law_line_here 6=_law_due 7=_law_told -/
def den_law : TSd :=
  (dSeq (dFor (dRng1 (dCB (g2i fun i j => if j > i then j else i) (dCons (dC (.int 3)) (dCons (dCB (g2i fun i j => if j < i then j else i) (dCons (dC (.int
  4)) (dCons (dScLen 0) dNil))) dNil)))) (gN 1) (dSeq (dSet 2 (dCall F__law_bag (dCons (dVar 0) (dCons (dVar 1) dNil)))) (dBag 2 (dSeq (dSet 3 (dBin gAdd
  (dC (.int 2)) (dCall F__law_take (dCons (dVar 2) (dCons (dC (.int 4)) dNil))))) (dSeq (dFor (dRng1 (dC (.int 4))) (gN 4) (dSeq (dSet 5 (dCall F__law_drawn_line
  (dCons (dVar 3) (dCons (dVar 2) dNil)))) (dSeq (dSet 6 (dCall F__law_dual (dCons (dVar 3) (dCons (dVar 5) dNil)))) (dSeq (dSet 7 (dCall F__law_said (dCons
  (dVar 3) (dCons (dVar 5) dNil)))) (dIfS (dOr (dNot (dTest (dCall F__law_is_line (dCons (dVar 3) (dCons (dVar 7) dNil))))) (dOr (dTest (dBin (gEq true)
  (dVar 7) (dVar 6))) (dTest (dBin (gEq true) (dCall F__law_said (dCons (dVar 3) (dCons (dVar 7) dNil))) (dVar 5))))) (dRet (dC (.bool false))) dNext)))))
  (dIfS (dTest (dBin (gEq true) (dCall F__law_said (dCons (dCall F__law_no_field (dCons (dVar 2) dNil)) (dCons (dTup (dCons (dTup (dCons (dC (.int 1)) (dCons
  (dC (.int 0)) (dCons (dC (.int 0)) (dCons (dC (.int 0)) dNil))))) (dCons (dTup (dCons (dC (.int 0)) (dCons (dC (.int 1)) (dCons (dC (.int 0)) (dCons (dC
  (.int 0)) dNil))))) dNil))) dNil))) (dC (.str "NoField")))) (dRet (dC (.bool false))) dNext)))))) (dRet (dC (.bool true))))
def F_law : Fd := mkF 8 den_law
theorem E_law {s0 : Slot} {Q : SK} {E : EK} : F_law [s0] Q E = den_law ⟨fun _ => Q (.sh .none), retS Q, E, fun _ => False, fun _ => False⟩ [s0, .un, .un, .un, .un, .un, .un, .un] := rfl
theorem mono_law : MonoF F_law := mkF_mono (t := den_law)
  (m_seq (m_for (m_rng1 (dCB_mono g2i_mono (m_cons dC_mono (m_cons (dCB_mono g2i_mono (m_cons dC_mono (m_cons m_scLen m_nil))) m_nil)))) m_gN (m_seq (m_set
  (m_call mono__law_bag (m_cons dVar_mono (m_cons dVar_mono m_nil)))) (m_bag (m_seq (m_set (dBin_mono gAdd_mono dC_mono (m_call mono__law_take (m_cons dVar_mono
  (m_cons dC_mono m_nil))))) (m_seq (m_for (m_rng1 dC_mono) m_gN (m_seq (m_set (m_call mono__law_drawn_line (m_cons dVar_mono (m_cons dVar_mono m_nil))))
  (m_seq (m_set (m_call mono__law_dual (m_cons dVar_mono (m_cons dVar_mono m_nil)))) (m_seq (m_set (m_call mono__law_said (m_cons dVar_mono (m_cons dVar_mono
  m_nil)))) (m_ifS (m_or (m_not (dTest_mono (m_call mono__law_is_line (m_cons dVar_mono (m_cons dVar_mono m_nil))))) (m_or (dTest_mono (dBin_mono gEq_mono
  dVar_mono dVar_mono)) (dTest_mono (dBin_mono gEq_mono (m_call mono__law_said (m_cons dVar_mono (m_cons dVar_mono m_nil))) dVar_mono)))) (m_ret dC_mono)
  m_next))))) (m_ifS (dTest_mono (dBin_mono gEq_mono (m_call mono__law_said (m_cons (m_call mono__law_no_field (m_cons dVar_mono m_nil)) (m_cons (m_tup
  (m_cons (m_tup (m_cons dC_mono (m_cons dC_mono (m_cons dC_mono (m_cons dC_mono m_nil))))) (m_cons (m_tup (m_cons dC_mono (m_cons dC_mono (m_cons dC_mono
  (m_cons dC_mono m_nil))))) m_nil))) m_nil))) dC_mono)) (m_ret dC_mono) m_next)))))) (m_ret dC_mono))
end DL
set_option maxHeartbeats 2000000
namespace DL
open PySem PySem.Spec PyProof.Rows L2
theorem shp_int (i : Int) : Shp (.int i) := rfl
theorem shp_bool (i : Bool) : Shp (.bool i) := rfl
theorem shp_none : Shp .none := rfl
theorem cmul_small {a b : Nat} (h : a < 1000) : CMul (a : Int) (b : Int) := by
  unfold CMul
  refine .inl ⟨?_, ?_⟩
  · have : (0 : Int) < 2 ^ 64 := by decide
    omega
  · have : (1000 : Int) < 2 ^ 64 := by decide
    omega
/-! ### numbers of a field -/
def G (q : Nat) : Prop := q = 2 ∨ q = 3 ∨ q = 4 ∨ q = 5
def ad (q a b : Nat) : Nat := if q = 4 then a ^^^ b else (a + b) % q
def sb (q a b : Nat) : Nat := if q = 4 then a ^^^ b else (a + (q - b)) % q
def ml (q a b : Nat) : Nat := if q = 4 then (if a = 0 ∨ b = 0 then 0 else 1 + (a + b - 2) % 3) else a * b % q
def iv (q a : Nat) : Nat := if q = 4 then (if a = 2 then 3 else if a = 3 then 2 else a) else if q = 5 then (if a = 2 then 3 else if a = 3 then 2 else a) else a
theorem G.pos {q : Nat} (g : G q) : 2 ≤ q ∧ q ≤ 5 := by unfold G at g; omega
theorem lt4 {a : Nat} (h : a < 4) : a = 0 ∨ a = 1 ∨ a = 2 ∨ a = 3 := by omega
theorem xor4 {a b : Nat} (ha : a < 4) (hb : b < 4) : Builtin.bitXor (a : Int) (b : Int) = ((a ^^^ b : Nat) : Int) := by
  rcases lt4 ha with rfl | rfl | rfl | rfl <;> rcases lt4 hb with rfl | rfl | rfl | rfl <;> decide
theorem fmod_nat (a b : Nat) : Int.fmod (a : Int) (b : Int) = ((a % b : Nat) : Int) := by
  rw [Int.fmod_eq_emod_of_nonneg _ (by omega)]; rfl
theorem p_plus {q a b : Nat} {Q : SK} {E : EK} (g : G q) (ha : a < q) (hb : b < q) (h : Q (.sh (.int (ad q a b : Nat)))) : F__law_plus [.sh (.int q), .sh (.int a), .sh (.int b)] Q E := by
  have := g.pos
  simp [E__law_plus, den__law_plus, mkF, dSeq, dIfS, dTest, dBin, dVar, dC, asD, asDs, bo, gEq, gAdd, gMod, gXor, gI, gSub, gMulT, gPow, gDiv, gShl, gShr, gAnd, gOr, gB, gLt, gLe, gGt, gGe, gInA, gIsN, gIx, dRet, dNext, dRetO, dRetN, retS, dSet, dCons, dNil, dCB, g1, g2i, fLen, fTuple, fList, fSeq, fAbs, fInt, fStrI, dCall, nrm, dLc, wipeG, dAny, dRng1, dRng2, dZip, dEnum, seqD, gN, gsN, gsC, gT, dYes, dTup, dLst, dFor, dMeth, mAppend, mExtend, mRemove, dClose, closeG, dIsi, tyOf, dChain, dAndV, dOrV, dNotV, dAnd, dOr, dNot, dIf, dNeg, dRaise, dPeek, dPeekT, peeks, LF, lf, lfs, dMv, TyD, vCount, vIndex, vSplit, vJoin, dBagS0, dBagS1, dBag0, dBag1, dSix, dAsg, dDrop, dSl, dPt, dNoP, gSl, gSort, fBools, fSum, Shp, shp_int, shp_bool, shp_none, PyData.eqv]
  unfold ad at h
  split
  · rename_i e
    have e : q = 4 := by omega
    subst e
    rw [if_pos rfl] at h
    rw [xor4 ha hb]; exact h
  · rename_i e
    have e : ¬ q = 4 := by omega
    rw [if_neg e] at h
    refine ⟨by omega, ?_⟩
    rw [show (a : Int) + (b : Int) = ((a + b : Nat) : Int) by omega, fmod_nat]; exact h
theorem sb_int {q a b : Nat} (ha : a < q) (hb : b < q) : Int.fmod ((a : Int) - (b : Int)) (q : Int) = (((a + (q - b)) % q : Nat) : Int) := by
  rw [Int.fmod_eq_emod_of_nonneg _ (by omega)]
  have e : (a : Int) - (b : Int) = ((a + (q - b) : Nat) : Int) - q := by omega
  rw [e, Int.sub_emod_right]
  rfl
theorem p_minus {q a b : Nat} {Q : SK} {E : EK} (g : G q) (ha : a < q) (hb : b < q) (h : Q (.sh (.int (sb q a b : Nat)))) : F__law_minus [.sh (.int q), .sh (.int a), .sh (.int b)] Q E := by
  have := g.pos
  simp [E__law_minus, den__law_minus, mkF, dSeq, dIfS, dTest, dBin, dVar, dC, asD, asDs, bo, gEq, gAdd, gMod, gXor, gI, gSub, gMulT, gPow, gDiv, gShl, gShr, gAnd, gOr, gB, gLt, gLe, gGt, gGe, gInA, gIsN, gIx, dRet, dNext, dRetO, dRetN, retS, dSet, dCons, dNil, dCB, g1, g2i, fLen, fTuple, fList, fSeq, fAbs, fInt, fStrI, dCall, nrm, dLc, wipeG, dAny, dRng1, dRng2, dZip, dEnum, seqD, gN, gsN, gsC, gT, dYes, dTup, dLst, dFor, dMeth, mAppend, mExtend, mRemove, dClose, closeG, dIsi, tyOf, dChain, dAndV, dOrV, dNotV, dAnd, dOr, dNot, dIf, dNeg, dRaise, dPeek, dPeekT, peeks, LF, lf, lfs, dMv, TyD, vCount, vIndex, vSplit, vJoin, dBagS0, dBagS1, dBag0, dBag1, dSix, dAsg, dDrop, dSl, dPt, dNoP, gSl, gSort, fBools, fSum, Shp, shp_int, shp_bool, shp_none, PyData.eqv]
  unfold sb at h
  split
  · rename_i e
    have e : q = 4 := by omega
    subst e
    rw [if_pos rfl] at h
    rw [xor4 ha hb]; exact h
  · rename_i e
    have e : ¬ q = 4 := by omega
    rw [if_neg e] at h
    refine ⟨by omega, ?_⟩
    rw [sb_int ha hb]; exact h
theorem p_diff {q a b : Nat} {Q : SK} {E : EK} (g : G q) (ha : a < q) (hb : b < q) (h : Q (.sh (.int (sb q a b : Nat)))) : F_difference_known [.sh (.int q), .sh (.int a), .sh (.int b)] Q E := by
  have := g.pos
  simp [E_difference_known, den_difference_known, mkF, dSeq, dIfS, dTest, dBin, dVar, dC, asD, asDs, bo, gEq, gAdd, gMod, gXor, gI, gSub, gMulT, gPow, gDiv, gShl, gShr, gAnd, gOr, gB, gLt, gLe, gGt, gGe, gInA, gIsN, gIx, dRet, dNext, dRetO, dRetN, retS, dSet, dCons, dNil, dCB, g1, g2i, fLen, fTuple, fList, fSeq, fAbs, fInt, fStrI, dCall, nrm, dLc, wipeG, dAny, dRng1, dRng2, dZip, dEnum, seqD, gN, gsN, gsC, gT, dYes, dTup, dLst, dFor, dMeth, mAppend, mExtend, mRemove, dClose, closeG, dIsi, tyOf, dChain, dAndV, dOrV, dNotV, dAnd, dOr, dNot, dIf, dNeg, dRaise, dPeek, dPeekT, peeks, LF, lf, lfs, dMv, TyD, vCount, vIndex, vSplit, vJoin, dBagS0, dBagS1, dBag0, dBag1, dSix, dAsg, dDrop, dSl, dPt, dNoP, gSl, gSort, fBools, fSum, Shp, shp_int, shp_bool, shp_none, PyData.eqv]
  unfold sb at h
  split
  · rename_i e
    have e : q = 4 := by omega
    subst e
    rw [if_pos rfl] at h
    rw [xor4 ha hb]; exact h
  · rename_i e
    have e : ¬ q = 4 := by omega
    rw [if_neg e] at h
    refine ⟨by omega, ?_⟩
    rw [sb_int ha hb]; exact h
theorem p_times {q a b : Nat} {Q : SK} {E : EK} (g : G q) (ha : a < q) (hb : b < q) (h : Q (.sh (.int (ml q a b : Nat)))) : F__law_times [.sh (.int q), .sh (.int a), .sh (.int b)] Q E := by
  have := g.pos
  by_cases e : q = 4
  · subst e
    rcases lt4 ha with rfl | rfl | rfl | rfl <;> rcases lt4 hb with rfl | rfl | rfl | rfl <;> (simp [E__law_times, den__law_times, mkF, dSeq, dIfS, dTest, dBin, dVar, dC, asD, asDs, bo, gEq, gAdd, gMod, gXor, gI, gSub, gMulT, gPow, gDiv, gShl, gShr, gAnd, gOr, gB, gLt, gLe, gGt, gGe, gInA, gIsN, gIx, dRet, dNext, dRetO, dRetN, retS, dSet, dCons, dNil, dCB, g1, g2i, fLen, fTuple, fList, fSeq, fAbs, fInt, fStrI, dCall, nrm, dLc, wipeG, dAny, dRng1, dRng2, dZip, dEnum, seqD, gN, gsN, gsC, gT, dYes, dTup, dLst, dFor, dMeth, mAppend, mExtend, mRemove, dClose, closeG, dIsi, tyOf, dChain, dAndV, dOrV, dNotV, dAnd, dOr, dNot, dIf, dNeg, dRaise, dPeek, dPeekT, peeks, LF, lf, lfs, dMv, TyD, vCount, vIndex, vSplit, vJoin, dBagS0, dBagS1, dBag0, dBag1, dSix, dAsg, dDrop, dSl, dPt, dNoP, gSl, gSort, fBools, fSum, Shp, shp_int, shp_bool, shp_none, PyData.eqv]; exact h)
  · simp [E__law_times, den__law_times, mkF, dSeq, dIfS, dTest, dBin, dVar, dC, asD, asDs, bo, gEq, gAdd, gMod, gXor, gI, gSub, gMulT, gPow, gDiv, gShl, gShr, gAnd, gOr, gB, gLt, gLe, gGt, gGe, gInA, gIsN, gIx, dRet, dNext, dRetO, dRetN, retS, dSet, dCons, dNil, dCB, g1, g2i, fLen, fTuple, fList, fSeq, fAbs, fInt, fStrI, dCall, nrm, dLc, wipeG, dAny, dRng1, dRng2, dZip, dEnum, seqD, gN, gsN, gsC, gT, dYes, dTup, dLst, dFor, dMeth, mAppend, mExtend, mRemove, dClose, closeG, dIsi, tyOf, dChain, dAndV, dOrV, dNotV, dAnd, dOr, dNot, dIf, dNeg, dRaise, dPeek, dPeekT, peeks, LF, lf, lfs, dMv, TyD, vCount, vIndex, vSplit, vJoin, dBagS0, dBagS1, dBag0, dBag1, dSix, dAsg, dDrop, dSl, dPt, dNoP, gSl, gSort, fBools, fSum, Shp, shp_int, shp_bool, shp_none, PyData.eqv]
    unfold ml at h
    rw [if_neg e] at h
    have e2 : ¬ (q : Int) = 4 := by omega
    rw [if_neg e2]
    refine ⟨cmul_small (by omega), by omega, ?_⟩
    rw [show (a : Int) * (b : Int) = ((a * b : Nat) : Int) by rw [Int.natCast_mul], fmod_nat]; exact h
theorem p_prod {q a b : Nat} {Q : SK} {E : EK} (g : G q) (ha : a < q) (hb : b < q) (h : Q (.sh (.int (ml q a b : Nat)))) : F_product_known [.sh (.int q), .sh (.int a), .sh (.int b)] Q E := by
  have := g.pos
  by_cases e : q = 4
  · subst e
    rcases lt4 ha with rfl | rfl | rfl | rfl <;> rcases lt4 hb with rfl | rfl | rfl | rfl <;> (simp [E_product_known, den_product_known, mkF, dSeq, dIfS, dTest, dBin, dVar, dC, asD, asDs, bo, gEq, gAdd, gMod, gXor, gI, gSub, gMulT, gPow, gDiv, gShl, gShr, gAnd, gOr, gB, gLt, gLe, gGt, gGe, gInA, gIsN, gIx, dRet, dNext, dRetO, dRetN, retS, dSet, dCons, dNil, dCB, g1, g2i, fLen, fTuple, fList, fSeq, fAbs, fInt, fStrI, dCall, nrm, dLc, wipeG, dAny, dRng1, dRng2, dZip, dEnum, seqD, gN, gsN, gsC, gT, dYes, dTup, dLst, dFor, dMeth, mAppend, mExtend, mRemove, dClose, closeG, dIsi, tyOf, dChain, dAndV, dOrV, dNotV, dAnd, dOr, dNot, dIf, dNeg, dRaise, dPeek, dPeekT, peeks, LF, lf, lfs, dMv, TyD, vCount, vIndex, vSplit, vJoin, dBagS0, dBagS1, dBag0, dBag1, dSix, dAsg, dDrop, dSl, dPt, dNoP, gSl, gSort, fBools, fSum, Shp, shp_int, shp_bool, shp_none, PyData.eqv, rngs, forGo, List.range, List.range.loop, CPow]; first | done | exact h)
  · simp [E_product_known, den_product_known, mkF, dSeq, dIfS, dTest, dBin, dVar, dC, asD, asDs, bo, gEq, gAdd, gMod, gXor, gI, gSub, gMulT, gPow, gDiv, gShl, gShr, gAnd, gOr, gB, gLt, gLe, gGt, gGe, gInA, gIsN, gIx, dRet, dNext, dRetO, dRetN, retS, dSet, dCons, dNil, dCB, g1, g2i, fLen, fTuple, fList, fSeq, fAbs, fInt, fStrI, dCall, nrm, dLc, wipeG, dAny, dRng1, dRng2, dZip, dEnum, seqD, gN, gsN, gsC, gT, dYes, dTup, dLst, dFor, dMeth, mAppend, mExtend, mRemove, dClose, closeG, dIsi, tyOf, dChain, dAndV, dOrV, dNotV, dAnd, dOr, dNot, dIf, dNeg, dRaise, dPeek, dPeekT, peeks, LF, lf, lfs, dMv, TyD, vCount, vIndex, vSplit, vJoin, dBagS0, dBagS1, dBag0, dBag1, dSix, dAsg, dDrop, dSl, dPt, dNoP, gSl, gSort, fBools, fSum, Shp, shp_int, shp_bool, shp_none, PyData.eqv]
    unfold ml at h
    rw [if_neg e] at h
    have e2 : ¬ (q : Int) = 4 := by omega
    rw [if_neg e2]
    refine ⟨cmul_small (by omega), by omega, ?_⟩
    rw [show (a : Int) * (b : Int) = ((a * b : Nat) : Int) by rw [Int.natCast_mul], fmod_nat]; exact h
/-! ### walks over lists that stand for something -/
theorem lc_fm {α : Type} {g : TGd} {tt : TDt} {te : TD} {Γ : Env'} {Q : SK} {E : EK} (enc : α → D) (p : α → Bool) (f : α → D) : ∀ (xs : List α) (acc : List D)
    (step : ∀ x ∈ xs, ∀ (R : D → Prop) (N : Prop), (if p x = true then R (f x) else N) → g (enc x) Γ fun Γ' => tt Γ' (fun k => if k = true then te Γ' (fun s => asD s R) (fun _ => False) else N) (fun _ => False))
    (h : Q (.own (acc ++ (xs.filter p).map f))), lcGo g tt te Γ Q E (xs.map enc) acc
  | [], acc, step, h => by simpa [lcGo] using h
  | x :: xs, acc, step, h => by
    refine step x (by simp) (fun r => lcGo g tt te Γ Q E (xs.map enc) (acc ++ [r])) (lcGo g tt te Γ Q E (xs.map enc) acc) ?_
    cases e : p x with
    | true =>
      rw [if_pos rfl]
      refine lc_fm enc p f xs _ (fun y hy => step y (List.mem_cons_of_mem _ hy)) ?_
      rw [List.filter_cons_of_pos e] at h
      simpa using h
    | false =>
      rw [if_neg Bool.false_ne_true]
      refine lc_fm enc p f xs _ (fun y hy => step y (List.mem_cons_of_mem _ hy)) ?_
      rw [List.filter_cons_of_neg (by rw [e]; exact Bool.false_ne_true)] at h
      exact h
theorem lc_map {α : Type} {g : TGd} {te : TD} {Γ : Env'} {Q : SK} {E : EK} (enc : α → D) (f : α → D) (xs : List α)
    (step : ∀ x ∈ xs, ∀ (R : D → Prop), R (f x) → g (enc x) Γ fun Γ' => te Γ' (fun s => asD s R) (fun _ => False))
    (h : Q (.own (xs.map f))) : lcGo g dYes te Γ Q E (xs.map enc) [] := by
  refine lc_fm enc (fun _ => true) f xs [] (fun x hx R N q => ?_) (by rw [List.nil_append, List.filter_eq_self.mpr (fun _ _ => rfl)]; exact h)
  simp only [dYes, if_true]
  exact step x hx R (by simpa using q)
/-- for over such a list, a state b that P ties to the places -/
theorem for_st {α β : Type} {g : TGd} {tb : TSd} {U : En} (enc : α → D) (P : β → Env' → Prop) (f : β → α → β) : ∀ (xs : List α) (b : β) (Γ : Env')
    (step : ∀ (b : β) (x : α) (Γ : Env'), x ∈ xs → P b Γ → ∀ N : Env' → Prop, (∀ Γ', P (f b x) Γ' → N Γ') → g (enc x) Γ fun Γ' => tb ⟨N, U.rt, U.ex, U.nx, N⟩ Γ')
    (h0 : P b Γ) (h : ∀ Γ', P (xs.foldl f b) Γ' → U.nx Γ'), forGo g tb U (xs.map enc) Γ
  | [], b, Γ, step, h0, h => h Γ h0
  | x :: xs, b, Γ, step, h0, h => step b x Γ (by simp) h0 _ fun Γ' p => for_st enc P f xs (f b x) Γ' (fun b y Γ hy => step b y Γ (List.mem_cons_of_mem _ hy)) p h
/-- .. the same step by step, told by an index: b changes as R says -/
theorem for_iv {α : Type} {g : TGd} {tb : TSd} {U : En} (enc : α → D) (P : Env' → Prop) : ∀ (xs : List α) (Γ : Env')
    (step : ∀ (x : α) (Γ : Env'), x ∈ xs → P Γ → ∀ N : Env' → Prop, (∀ Γ', P Γ' → N Γ') → g (enc x) Γ fun Γ' => tb ⟨N, U.rt, U.ex, U.nx, N⟩ Γ')
    (h0 : P Γ) (h : ∀ Γ', P Γ' → U.nx Γ'), forGo g tb U (xs.map enc) Γ := fun xs Γ step h0 h => for_st (β := Unit) enc (fun _ => P) (fun _ _ => ()) xs () Γ (fun _ x Γ hx p N hN => step x Γ hx p N hN) h0 h
/-! ### rows -/
def eI (n : Nat) : D := .int n
def eR (r : List Nat) : D := .tuple (r.map eI)
structure Rw (q n : Nat) (r : List Nat) : Prop where
  len : r.length = n
  lt : ∀ x ∈ r, x < q
theorem ad_lt {q a b : Nat} (g : G q) (ha : a < q) (hb : b < q) : ad q a b < q := by
  have := g.pos
  unfold ad
  split
  · rename_i e; subst e
    rcases lt4 ha with rfl | rfl | rfl | rfl <;> rcases lt4 hb with rfl | rfl | rfl | rfl <;> decide
  · exact Nat.mod_lt _ (by omega)
theorem sb_lt {q a b : Nat} (g : G q) (ha : a < q) (hb : b < q) : sb q a b < q := by
  have := g.pos
  unfold sb
  split
  · rename_i e; subst e
    rcases lt4 ha with rfl | rfl | rfl | rfl <;> rcases lt4 hb with rfl | rfl | rfl | rfl <;> decide
  · exact Nat.mod_lt _ (by omega)
theorem ml_lt {q a b : Nat} (g : G q) (ha : a < q) (hb : b < q) : ml q a b < q := by
  have := g.pos
  unfold ml
  split
  · rename_i e; subst e
    split <;> omega
  · exact Nat.mod_lt _ (by omega)
theorem iv_lt {q a : Nat} (g : G q) (ha : a < q) : iv q a < q := by
  have := g.pos
  unfold iv
  (repeat' split) <;> omega
def sc (q c : Nat) (r : List Nat) : List Nat := r.map (ml q c)
def mo (q c : Nat) (r s : List Nat) : List Nat := List.zipWith (fun a b => ad q a (ml q c b)) r s
def le (q c : Nat) (r s : List Nat) : List Nat := List.zipWith (fun a b => sb q a (ml q c b)) r s
theorem sc_rw {q c n : Nat} {r : List Nat} (g : G q) (hc : c < q) (h : Rw q n r) : Rw q n (sc q c r) := by
  refine ⟨by unfold sc; rw [List.length_map]; exact h.len, fun x hx => ?_⟩
  obtain ⟨y, hy, rfl⟩ := List.mem_map.mp hx
  exact ml_lt g hc (h.lt y hy)
theorem zw_mem {α β γ : Type} {f : α → β → γ} {l : List α} {m : List β} {z : γ} (h : z ∈ List.zipWith f l m) : ∃ x y, x ∈ l ∧ y ∈ m ∧ z = f x y := by
  induction l generalizing m with
  | nil => simp at h
  | cons a l ih =>
    cases m with
    | nil => simp at h
    | cons b m =>
      rw [List.zipWith_cons_cons, List.mem_cons] at h
      rcases h with rfl | h
      · exact ⟨a, b, by simp, by simp, rfl⟩
      · obtain ⟨x, y, h1, h2, h3⟩ := ih h
        exact ⟨x, y, List.mem_cons_of_mem _ h1, List.mem_cons_of_mem _ h2, h3⟩
theorem mo_rw {q c n : Nat} {r s : List Nat} (g : G q) (hc : c < q) (h : Rw q n r) (h' : Rw q n s) : Rw q n (mo q c r s) := by
  refine ⟨by unfold mo; rw [List.length_zipWith, h.len, h'.len, Nat.min_self], fun x hx => ?_⟩
  obtain ⟨y, z, hy, hz, rfl⟩ := zw_mem hx
  exact ad_lt g (h.lt y hy) (ml_lt g hc (h'.lt z hz))
theorem le_rw {q c n : Nat} {r s : List Nat} (g : G q) (hc : c < q) (h : Rw q n r) (h' : Rw q n s) : Rw q n (le q c r s) := by
  refine ⟨by unfold le; rw [List.length_zipWith, h.len, h'.len, Nat.min_self], fun x hx => ?_⟩
  obtain ⟨y, z, hy, hz, rfl⟩ := zw_mem hx
  exact sb_lt g (h.lt y hy) (ml_lt g hc (h'.lt z hz))
theorem p_often {q c n : Nat} {r : List Nat} {Q : SK} {E : EK} (g : G q) (hc : c < q) (h : Rw q n r) (hq : Q (.sh (eR (sc q c r)))) : F__law_often [.sh (.int q), .sh (.int c), .sh (eR r)] Q E := by
  simp only [E__law_often, den__law_often, eR, gSub, gMod, gDiv, gPow, gShl, gShr, gAnd, gOr, gXor, gLt, gLe, gGt, gGe, C0, s_asD1, s_asD2, s_asDs0, s_asDs1, s_nrm1, s_nrm2, s_nrm3, s_nrm4, s_nrm5, s_bo, s_ret1, s_ret2, s_add1, s_add2, s_add3, s_add4, s_gI, s_mul1, s_mul2, s_mul3, s_gB, s_in1, s_in2, s_is1, s_is2, s_is3, s_is4, s_is5, s_is6, s_ix1, s_ix2, s_ix3, s_g1, s_g2, s_len1, s_len2, s_len3, s_tup1, s_tup2, s_lst1, s_lst2, s_abs, s_int1, s_int2, s_stri, s_bools, s_sum, s_sort, s_seq1, s_seq2, s_seq3, s_any, s_any1, s_any2, s_any3, s_rng1, s_rng2, s_rng3, s_rng4, s_enum, s_enum1, s_enum2, s_gN, s_gsN, s_gsC, s_gT, s_var, s_var1, s_var2, s_var3, s_var4, s_meth, s_meth1, s_close, s_close1, s_close2, s_close3, s_six, s_six1, s_six2, s_retO, s_retO1, s_retO2, s_peek1, s_peekT1, s_peeks0, s_peeks1, s_wipe0, s_wipe1, s_lf1, s_lf2, s_app, s_ext, s_rem, s_cnt, s_idx, s_spl, s_ty1, s_ty2, s_dSeq, s_dIfS, s_dTest, s_dBin, s_dC, s_gEq, s_dRet, s_dNext, s_dRetN, s_dSet, s_dCons, s_dNil, s_dCB, s_dCall, s_dLc, s_dYes, s_dTup, s_dLst, s_dFor, s_dChain, s_dAndV, s_dOrV, s_dNotV, s_dAnd, s_dOr, s_dNot, s_dIf, s_dRaise, s_dAsg, s_dDrop, s_dMv, s_dIsi, s_dZip, Shp, shp_int, shp_bool, shp_none, PyData.eqv, List.length_cons, List.length_nil, List.replicate, List.cons_append, List.nil_append, List.getElem?_cons_zero, List.getElem?_cons_succ, List.append_nil, List.set_cons_zero, List.set_cons_succ, List.map_cons, List.map_nil, Nat.reduceAdd, Nat.reduceSub, Nat.zero_add, Nat.reduceLT, true_and, and_true, if_true, ite_true, ite_false, Bool.false_eq_true, bne_self_eq_false, Bool.bne_false, Bool.bne_true, Nat.sub_self, Nat.reduceLeDiff, Nat.zero_le, Nat.lt_add_one]
  refine lc_map eI (fun x => eI (ml q c x)) r (fun x hx R hR => ?_) ?_
  · simp only [eI, gSub, gMod, gDiv, gPow, gShl, gShr, gAnd, gOr, gXor, gLt, gLe, gGt, gGe, C0, s_asD1, s_asD2, s_asDs0, s_asDs1, s_nrm1, s_nrm2, s_nrm3, s_nrm4, s_nrm5, s_bo, s_ret1, s_ret2, s_add1, s_add2, s_add3, s_add4, s_gI, s_mul1, s_mul2, s_mul3, s_gB, s_in1, s_in2, s_is1, s_is2, s_is3, s_is4, s_is5, s_is6, s_ix1, s_ix2, s_ix3, s_g1, s_g2, s_len1, s_len2, s_len3, s_tup1, s_tup2, s_lst1, s_lst2, s_abs, s_int1, s_int2, s_stri, s_bools, s_sum, s_sort, s_seq1, s_seq2, s_seq3, s_any, s_any1, s_any2, s_any3, s_rng1, s_rng2, s_rng3, s_rng4, s_enum, s_enum1, s_enum2, s_gN, s_gsN, s_gsC, s_gT, s_var, s_var1, s_var2, s_var3, s_var4, s_meth, s_meth1, s_close, s_close1, s_close2, s_close3, s_six, s_six1, s_six2, s_retO, s_retO1, s_retO2, s_peek1, s_peekT1, s_peeks0, s_peeks1, s_wipe0, s_wipe1, s_lf1, s_lf2, s_app, s_ext, s_rem, s_cnt, s_idx, s_spl, s_ty1, s_ty2, s_dSeq, s_dIfS, s_dTest, s_dBin, s_dC, s_gEq, s_dRet, s_dNext, s_dRetN, s_dSet, s_dCons, s_dNil, s_dCB, s_dCall, s_dLc, s_dYes, s_dTup, s_dLst, s_dFor, s_dChain, s_dAndV, s_dOrV, s_dNotV, s_dAnd, s_dOr, s_dNot, s_dIf, s_dRaise, s_dAsg, s_dDrop, s_dMv, s_dIsi, s_dZip, Shp, shp_int, shp_bool, shp_none, PyData.eqv, List.length_cons, List.length_nil, List.replicate, List.cons_append, List.nil_append, List.getElem?_cons_zero, List.getElem?_cons_succ, List.append_nil, List.set_cons_zero, List.set_cons_succ, List.map_cons, List.map_nil, Nat.reduceAdd, Nat.reduceSub, Nat.zero_add, Nat.reduceLT, true_and, and_true, if_true, ite_true, ite_false, Bool.false_eq_true, bne_self_eq_false, Bool.bne_false, Bool.bne_true, Nat.sub_self, Nat.reduceLeDiff, Nat.zero_le, Nat.lt_add_one]
    exact p_times g hc (h.lt x hx) hR
  · simp only [gSub, gMod, gDiv, gPow, gShl, gShr, gAnd, gOr, gXor, gLt, gLe, gGt, gGe, C0, s_asD1, s_asD2, s_asDs0, s_asDs1, s_nrm1, s_nrm2, s_nrm3, s_nrm4, s_nrm5, s_bo, s_ret1, s_ret2, s_add1, s_add2, s_add3, s_add4, s_gI, s_mul1, s_mul2, s_mul3, s_gB, s_in1, s_in2, s_is1, s_is2, s_is3, s_is4, s_is5, s_is6, s_ix1, s_ix2, s_ix3, s_g1, s_g2, s_len1, s_len2, s_len3, s_tup1, s_tup2, s_lst1, s_lst2, s_abs, s_int1, s_int2, s_stri, s_bools, s_sum, s_sort, s_seq1, s_seq2, s_seq3, s_any, s_any1, s_any2, s_any3, s_rng1, s_rng2, s_rng3, s_rng4, s_enum, s_enum1, s_enum2, s_gN, s_gsN, s_gsC, s_gT, s_var, s_var1, s_var2, s_var3, s_var4, s_meth, s_meth1, s_close, s_close1, s_close2, s_close3, s_six, s_six1, s_six2, s_retO, s_retO1, s_retO2, s_peek1, s_peekT1, s_peeks0, s_peeks1, s_wipe0, s_wipe1, s_lf1, s_lf2, s_app, s_ext, s_rem, s_cnt, s_idx, s_spl, s_ty1, s_ty2, s_dSeq, s_dIfS, s_dTest, s_dBin, s_dC, s_gEq, s_dRet, s_dNext, s_dRetN, s_dSet, s_dCons, s_dNil, s_dCB, s_dCall, s_dLc, s_dYes, s_dTup, s_dLst, s_dFor, s_dChain, s_dAndV, s_dOrV, s_dNotV, s_dAnd, s_dOr, s_dNot, s_dIf, s_dRaise, s_dAsg, s_dDrop, s_dMv, s_dIsi, s_dZip, Shp, shp_int, shp_bool, shp_none, PyData.eqv, List.length_cons, List.length_nil, List.replicate, List.cons_append, List.nil_append, List.getElem?_cons_zero, List.getElem?_cons_succ, List.append_nil, List.set_cons_zero, List.set_cons_succ, List.map_cons, List.map_nil, Nat.reduceAdd, Nat.reduceSub, Nat.zero_add, Nat.reduceLT, true_and, and_true, if_true, ite_true, ite_false, Bool.false_eq_true, bne_self_eq_false, Bool.bne_false, Bool.bne_true, Nat.sub_self, Nat.reduceLeDiff, Nat.zero_le, Nat.lt_add_one]
    rw [eR, sc, List.map_map] at hq
    exact hq
theorem p_rowtimes {q c n : Nat} {r : List Nat} {Q : SK} {E : EK} (g : G q) (hc : c < q) (h : Rw q n r) (hq : Q (.sh (eR (sc q c r)))) : F_row_times [.sh (.int q), .sh (.int c), .sh (eR r)] Q E := by
  simp only [E_row_times, den_row_times, eR, gSub, gMod, gDiv, gPow, gShl, gShr, gAnd, gOr, gXor, gLt, gLe, gGt, gGe, C0, s_asD1, s_asD2, s_asDs0, s_asDs1, s_nrm1, s_nrm2, s_nrm3, s_nrm4, s_nrm5, s_bo, s_ret1, s_ret2, s_add1, s_add2, s_add3, s_add4, s_gI, s_mul1, s_mul2, s_mul3, s_gB, s_in1, s_in2, s_is1, s_is2, s_is3, s_is4, s_is5, s_is6, s_ix1, s_ix2, s_ix3, s_g1, s_g2, s_len1, s_len2, s_len3, s_tup1, s_tup2, s_lst1, s_lst2, s_abs, s_int1, s_int2, s_stri, s_bools, s_sum, s_sort, s_seq1, s_seq2, s_seq3, s_any, s_any1, s_any2, s_any3, s_rng1, s_rng2, s_rng3, s_rng4, s_enum, s_enum1, s_enum2, s_gN, s_gsN, s_gsC, s_gT, s_var, s_var1, s_var2, s_var3, s_var4, s_meth, s_meth1, s_close, s_close1, s_close2, s_close3, s_six, s_six1, s_six2, s_retO, s_retO1, s_retO2, s_peek1, s_peekT1, s_peeks0, s_peeks1, s_wipe0, s_wipe1, s_lf1, s_lf2, s_app, s_ext, s_rem, s_cnt, s_idx, s_spl, s_ty1, s_ty2, s_dSeq, s_dIfS, s_dTest, s_dBin, s_dC, s_gEq, s_dRet, s_dNext, s_dRetN, s_dSet, s_dCons, s_dNil, s_dCB, s_dCall, s_dLc, s_dYes, s_dTup, s_dLst, s_dFor, s_dChain, s_dAndV, s_dOrV, s_dNotV, s_dAnd, s_dOr, s_dNot, s_dIf, s_dRaise, s_dAsg, s_dDrop, s_dMv, s_dIsi, s_dZip, Shp, shp_int, shp_bool, shp_none, PyData.eqv, List.length_cons, List.length_nil, List.replicate, List.cons_append, List.nil_append, List.getElem?_cons_zero, List.getElem?_cons_succ, List.append_nil, List.set_cons_zero, List.set_cons_succ, List.map_cons, List.map_nil, Nat.reduceAdd, Nat.reduceSub, Nat.zero_add, Nat.reduceLT, true_and, and_true, if_true, ite_true, ite_false, Bool.false_eq_true, bne_self_eq_false, Bool.bne_false, Bool.bne_true, Nat.sub_self, Nat.reduceLeDiff, Nat.zero_le, Nat.lt_add_one]
  refine lc_map eI (fun x => eI (ml q c x)) r (fun x hx R hR => ?_) ?_
  · simp only [eI, gSub, gMod, gDiv, gPow, gShl, gShr, gAnd, gOr, gXor, gLt, gLe, gGt, gGe, C0, s_asD1, s_asD2, s_asDs0, s_asDs1, s_nrm1, s_nrm2, s_nrm3, s_nrm4, s_nrm5, s_bo, s_ret1, s_ret2, s_add1, s_add2, s_add3, s_add4, s_gI, s_mul1, s_mul2, s_mul3, s_gB, s_in1, s_in2, s_is1, s_is2, s_is3, s_is4, s_is5, s_is6, s_ix1, s_ix2, s_ix3, s_g1, s_g2, s_len1, s_len2, s_len3, s_tup1, s_tup2, s_lst1, s_lst2, s_abs, s_int1, s_int2, s_stri, s_bools, s_sum, s_sort, s_seq1, s_seq2, s_seq3, s_any, s_any1, s_any2, s_any3, s_rng1, s_rng2, s_rng3, s_rng4, s_enum, s_enum1, s_enum2, s_gN, s_gsN, s_gsC, s_gT, s_var, s_var1, s_var2, s_var3, s_var4, s_meth, s_meth1, s_close, s_close1, s_close2, s_close3, s_six, s_six1, s_six2, s_retO, s_retO1, s_retO2, s_peek1, s_peekT1, s_peeks0, s_peeks1, s_wipe0, s_wipe1, s_lf1, s_lf2, s_app, s_ext, s_rem, s_cnt, s_idx, s_spl, s_ty1, s_ty2, s_dSeq, s_dIfS, s_dTest, s_dBin, s_dC, s_gEq, s_dRet, s_dNext, s_dRetN, s_dSet, s_dCons, s_dNil, s_dCB, s_dCall, s_dLc, s_dYes, s_dTup, s_dLst, s_dFor, s_dChain, s_dAndV, s_dOrV, s_dNotV, s_dAnd, s_dOr, s_dNot, s_dIf, s_dRaise, s_dAsg, s_dDrop, s_dMv, s_dIsi, s_dZip, Shp, shp_int, shp_bool, shp_none, PyData.eqv, List.length_cons, List.length_nil, List.replicate, List.cons_append, List.nil_append, List.getElem?_cons_zero, List.getElem?_cons_succ, List.append_nil, List.set_cons_zero, List.set_cons_succ, List.map_cons, List.map_nil, Nat.reduceAdd, Nat.reduceSub, Nat.zero_add, Nat.reduceLT, true_and, and_true, if_true, ite_true, ite_false, Bool.false_eq_true, bne_self_eq_false, Bool.bne_false, Bool.bne_true, Nat.sub_self, Nat.reduceLeDiff, Nat.zero_le, Nat.lt_add_one]
    exact p_prod g hc (h.lt x hx) hR
  · simp only [gSub, gMod, gDiv, gPow, gShl, gShr, gAnd, gOr, gXor, gLt, gLe, gGt, gGe, C0, s_asD1, s_asD2, s_asDs0, s_asDs1, s_nrm1, s_nrm2, s_nrm3, s_nrm4, s_nrm5, s_bo, s_ret1, s_ret2, s_add1, s_add2, s_add3, s_add4, s_gI, s_mul1, s_mul2, s_mul3, s_gB, s_in1, s_in2, s_is1, s_is2, s_is3, s_is4, s_is5, s_is6, s_ix1, s_ix2, s_ix3, s_g1, s_g2, s_len1, s_len2, s_len3, s_tup1, s_tup2, s_lst1, s_lst2, s_abs, s_int1, s_int2, s_stri, s_bools, s_sum, s_sort, s_seq1, s_seq2, s_seq3, s_any, s_any1, s_any2, s_any3, s_rng1, s_rng2, s_rng3, s_rng4, s_enum, s_enum1, s_enum2, s_gN, s_gsN, s_gsC, s_gT, s_var, s_var1, s_var2, s_var3, s_var4, s_meth, s_meth1, s_close, s_close1, s_close2, s_close3, s_six, s_six1, s_six2, s_retO, s_retO1, s_retO2, s_peek1, s_peekT1, s_peeks0, s_peeks1, s_wipe0, s_wipe1, s_lf1, s_lf2, s_app, s_ext, s_rem, s_cnt, s_idx, s_spl, s_ty1, s_ty2, s_dSeq, s_dIfS, s_dTest, s_dBin, s_dC, s_gEq, s_dRet, s_dNext, s_dRetN, s_dSet, s_dCons, s_dNil, s_dCB, s_dCall, s_dLc, s_dYes, s_dTup, s_dLst, s_dFor, s_dChain, s_dAndV, s_dOrV, s_dNotV, s_dAnd, s_dOr, s_dNot, s_dIf, s_dRaise, s_dAsg, s_dDrop, s_dMv, s_dIsi, s_dZip, Shp, shp_int, shp_bool, shp_none, PyData.eqv, List.length_cons, List.length_nil, List.replicate, List.cons_append, List.nil_append, List.getElem?_cons_zero, List.getElem?_cons_succ, List.append_nil, List.set_cons_zero, List.set_cons_succ, List.map_cons, List.map_nil, Nat.reduceAdd, Nat.reduceSub, Nat.zero_add, Nat.reduceLT, true_and, and_true, if_true, ite_true, ite_false, Bool.false_eq_true, bne_self_eq_false, Bool.bne_false, Bool.bne_true, Nat.sub_self, Nat.reduceLeDiff, Nat.zero_le, Nat.lt_add_one]
    rw [eR, sc, List.map_map] at hq
    exact hq
def e2 (p : Nat × Nat) : D := .tuple [eI p.1, eI p.2]
theorem pairs_enc (r s : List Nat) : pairs (r.map eI) (s.map eI) = (r.zip s).map e2 := by
  unfold pairs
  rw [List.zip_map, List.map_map]
  rfl
theorem p_more {q c n : Nat} {r s : List Nat} {Q : SK} {E : EK} (g : G q) (hc : c < q) (h : Rw q n r) (h' : Rw q n s) (hq : Q (.sh (eR (mo q c r s)))) : F__law_more [.sh (.int q), .sh (eR r), .sh (.int c), .sh (eR s)] Q E := by
  simp only [E__law_more, den__law_more, eR, gSub, gMod, gDiv, gPow, gShl, gShr, gAnd, gOr, gXor, gLt, gLe, gGt, gGe, C0, s_asD1, s_asD2, s_asDs0, s_asDs1, s_nrm1, s_nrm2, s_nrm3, s_nrm4, s_nrm5, s_bo, s_ret1, s_ret2, s_add1, s_add2, s_add3, s_add4, s_gI, s_mul1, s_mul2, s_mul3, s_gB, s_in1, s_in2, s_is1, s_is2, s_is3, s_is4, s_is5, s_is6, s_ix1, s_ix2, s_ix3, s_g1, s_g2, s_len1, s_len2, s_len3, s_tup1, s_tup2, s_lst1, s_lst2, s_abs, s_int1, s_int2, s_stri, s_bools, s_sum, s_sort, s_seq1, s_seq2, s_seq3, s_any, s_any1, s_any2, s_any3, s_rng1, s_rng2, s_rng3, s_rng4, s_enum, s_enum1, s_enum2, s_gN, s_gsN, s_gsC, s_gT, s_var, s_var1, s_var2, s_var3, s_var4, s_meth, s_meth1, s_close, s_close1, s_close2, s_close3, s_six, s_six1, s_six2, s_retO, s_retO1, s_retO2, s_peek1, s_peekT1, s_peeks0, s_peeks1, s_wipe0, s_wipe1, s_lf1, s_lf2, s_app, s_ext, s_rem, s_cnt, s_idx, s_spl, s_ty1, s_ty2, s_dSeq, s_dIfS, s_dTest, s_dBin, s_dC, s_gEq, s_dRet, s_dNext, s_dRetN, s_dSet, s_dCons, s_dNil, s_dCB, s_dCall, s_dLc, s_dYes, s_dTup, s_dLst, s_dFor, s_dChain, s_dAndV, s_dOrV, s_dNotV, s_dAnd, s_dOr, s_dNot, s_dIf, s_dRaise, s_dAsg, s_dDrop, s_dMv, s_dIsi, s_dZip, Shp, shp_int, shp_bool, shp_none, PyData.eqv, List.length_cons, List.length_nil, List.replicate, List.cons_append, List.nil_append, List.getElem?_cons_zero, List.getElem?_cons_succ, List.append_nil, List.set_cons_zero, List.set_cons_succ, List.map_cons, List.map_nil, Nat.reduceAdd, Nat.reduceSub, Nat.zero_add, Nat.reduceLT, true_and, and_true, if_true, ite_true, ite_false, Bool.false_eq_true, bne_self_eq_false, Bool.bne_false, Bool.bne_true, Nat.sub_self, Nat.reduceLeDiff, Nat.zero_le, Nat.lt_add_one]
  rw [pairs_enc]
  refine lc_map e2 (fun p => eI (ad q p.1 (ml q c p.2))) (r.zip s) (fun p hp R hR => ?_) ?_
  · obtain ⟨h1, h2⟩ := List.of_mem_zip (a := p.1) (b := p.2) hp
    simp only [e2, eI, gSub, gMod, gDiv, gPow, gShl, gShr, gAnd, gOr, gXor, gLt, gLe, gGt, gGe, C0, s_asD1, s_asD2, s_asDs0, s_asDs1, s_nrm1, s_nrm2, s_nrm3, s_nrm4, s_nrm5, s_bo, s_ret1, s_ret2, s_add1, s_add2, s_add3, s_add4, s_gI, s_mul1, s_mul2, s_mul3, s_gB, s_in1, s_in2, s_is1, s_is2, s_is3, s_is4, s_is5, s_is6, s_ix1, s_ix2, s_ix3, s_g1, s_g2, s_len1, s_len2, s_len3, s_tup1, s_tup2, s_lst1, s_lst2, s_abs, s_int1, s_int2, s_stri, s_bools, s_sum, s_sort, s_seq1, s_seq2, s_seq3, s_any, s_any1, s_any2, s_any3, s_rng1, s_rng2, s_rng3, s_rng4, s_enum, s_enum1, s_enum2, s_gN, s_gsN, s_gsC, s_gT, s_var, s_var1, s_var2, s_var3, s_var4, s_meth, s_meth1, s_close, s_close1, s_close2, s_close3, s_six, s_six1, s_six2, s_retO, s_retO1, s_retO2, s_peek1, s_peekT1, s_peeks0, s_peeks1, s_wipe0, s_wipe1, s_lf1, s_lf2, s_app, s_ext, s_rem, s_cnt, s_idx, s_spl, s_ty1, s_ty2, s_dSeq, s_dIfS, s_dTest, s_dBin, s_dC, s_gEq, s_dRet, s_dNext, s_dRetN, s_dSet, s_dCons, s_dNil, s_dCB, s_dCall, s_dLc, s_dYes, s_dTup, s_dLst, s_dFor, s_dChain, s_dAndV, s_dOrV, s_dNotV, s_dAnd, s_dOr, s_dNot, s_dIf, s_dRaise, s_dAsg, s_dDrop, s_dMv, s_dIsi, s_dZip, Shp, shp_int, shp_bool, shp_none, PyData.eqv, List.length_cons, List.length_nil, List.replicate, List.cons_append, List.nil_append, List.getElem?_cons_zero, List.getElem?_cons_succ, List.append_nil, List.set_cons_zero, List.set_cons_succ, List.map_cons, List.map_nil, Nat.reduceAdd, Nat.reduceSub, Nat.zero_add, Nat.reduceLT, true_and, and_true, if_true, ite_true, ite_false, Bool.false_eq_true, bne_self_eq_false, Bool.bne_false, Bool.bne_true, Nat.sub_self, Nat.reduceLeDiff, Nat.zero_le, Nat.lt_add_one]
    refine p_times g hc (h'.lt _ h2) ?_
    simp only [gSub, gMod, gDiv, gPow, gShl, gShr, gAnd, gOr, gXor, gLt, gLe, gGt, gGe, C0, s_asD1, s_asD2, s_asDs0, s_asDs1, s_nrm1, s_nrm2, s_nrm3, s_nrm4, s_nrm5, s_bo, s_ret1, s_ret2, s_add1, s_add2, s_add3, s_add4, s_gI, s_mul1, s_mul2, s_mul3, s_gB, s_in1, s_in2, s_is1, s_is2, s_is3, s_is4, s_is5, s_is6, s_ix1, s_ix2, s_ix3, s_g1, s_g2, s_len1, s_len2, s_len3, s_tup1, s_tup2, s_lst1, s_lst2, s_abs, s_int1, s_int2, s_stri, s_bools, s_sum, s_sort, s_seq1, s_seq2, s_seq3, s_any, s_any1, s_any2, s_any3, s_rng1, s_rng2, s_rng3, s_rng4, s_enum, s_enum1, s_enum2, s_gN, s_gsN, s_gsC, s_gT, s_var, s_var1, s_var2, s_var3, s_var4, s_meth, s_meth1, s_close, s_close1, s_close2, s_close3, s_six, s_six1, s_six2, s_retO, s_retO1, s_retO2, s_peek1, s_peekT1, s_peeks0, s_peeks1, s_wipe0, s_wipe1, s_lf1, s_lf2, s_app, s_ext, s_rem, s_cnt, s_idx, s_spl, s_ty1, s_ty2, s_dSeq, s_dIfS, s_dTest, s_dBin, s_dC, s_gEq, s_dRet, s_dNext, s_dRetN, s_dSet, s_dCons, s_dNil, s_dCB, s_dCall, s_dLc, s_dYes, s_dTup, s_dLst, s_dFor, s_dChain, s_dAndV, s_dOrV, s_dNotV, s_dAnd, s_dOr, s_dNot, s_dIf, s_dRaise, s_dAsg, s_dDrop, s_dMv, s_dIsi, s_dZip, Shp, shp_int, shp_bool, shp_none, PyData.eqv, List.length_cons, List.length_nil, List.replicate, List.cons_append, List.nil_append, List.getElem?_cons_zero, List.getElem?_cons_succ, List.append_nil, List.set_cons_zero, List.set_cons_succ, List.map_cons, List.map_nil, Nat.reduceAdd, Nat.reduceSub, Nat.zero_add, Nat.reduceLT, true_and, and_true, if_true, ite_true, ite_false, Bool.false_eq_true, bne_self_eq_false, Bool.bne_false, Bool.bne_true, Nat.sub_self, Nat.reduceLeDiff, Nat.zero_le, Nat.lt_add_one]
    exact p_plus g (h.lt _ h1) (ml_lt g hc (h'.lt _ h2)) hR
  · simp only [gSub, gMod, gDiv, gPow, gShl, gShr, gAnd, gOr, gXor, gLt, gLe, gGt, gGe, C0, s_asD1, s_asD2, s_asDs0, s_asDs1, s_nrm1, s_nrm2, s_nrm3, s_nrm4, s_nrm5, s_bo, s_ret1, s_ret2, s_add1, s_add2, s_add3, s_add4, s_gI, s_mul1, s_mul2, s_mul3, s_gB, s_in1, s_in2, s_is1, s_is2, s_is3, s_is4, s_is5, s_is6, s_ix1, s_ix2, s_ix3, s_g1, s_g2, s_len1, s_len2, s_len3, s_tup1, s_tup2, s_lst1, s_lst2, s_abs, s_int1, s_int2, s_stri, s_bools, s_sum, s_sort, s_seq1, s_seq2, s_seq3, s_any, s_any1, s_any2, s_any3, s_rng1, s_rng2, s_rng3, s_rng4, s_enum, s_enum1, s_enum2, s_gN, s_gsN, s_gsC, s_gT, s_var, s_var1, s_var2, s_var3, s_var4, s_meth, s_meth1, s_close, s_close1, s_close2, s_close3, s_six, s_six1, s_six2, s_retO, s_retO1, s_retO2, s_peek1, s_peekT1, s_peeks0, s_peeks1, s_wipe0, s_wipe1, s_lf1, s_lf2, s_app, s_ext, s_rem, s_cnt, s_idx, s_spl, s_ty1, s_ty2, s_dSeq, s_dIfS, s_dTest, s_dBin, s_dC, s_gEq, s_dRet, s_dNext, s_dRetN, s_dSet, s_dCons, s_dNil, s_dCB, s_dCall, s_dLc, s_dYes, s_dTup, s_dLst, s_dFor, s_dChain, s_dAndV, s_dOrV, s_dNotV, s_dAnd, s_dOr, s_dNot, s_dIf, s_dRaise, s_dAsg, s_dDrop, s_dMv, s_dIsi, s_dZip, Shp, shp_int, shp_bool, shp_none, PyData.eqv, List.length_cons, List.length_nil, List.replicate, List.cons_append, List.nil_append, List.getElem?_cons_zero, List.getElem?_cons_succ, List.append_nil, List.set_cons_zero, List.set_cons_succ, List.map_cons, List.map_nil, Nat.reduceAdd, Nat.reduceSub, Nat.zero_add, Nat.reduceLT, true_and, and_true, if_true, ite_true, ite_false, Bool.false_eq_true, bne_self_eq_false, Bool.bne_false, Bool.bne_true, Nat.sub_self, Nat.reduceLeDiff, Nat.zero_le, Nat.lt_add_one]
    have e : List.map (fun p => eI (ad q p.1 (ml q c p.2))) (r.zip s) = (mo q c r s).map eI := by
      unfold mo
      rw [← List.map_uncurry_zip_eq_zipWith, List.map_map] <;> rfl
    rw [e]
    exact hq
theorem p_rowless {q c n : Nat} {r s : List Nat} {Q : SK} {E : EK} (g : G q) (hc : c < q) (h : Rw q n r) (h' : Rw q n s) (hq : Q (.sh (eR (le q c r s)))) : F_row_less [.sh (.int q), .sh (eR r), .sh (.int c), .sh (eR s)] Q E := by
  simp only [E_row_less, den_row_less, eR, gSub, gMod, gDiv, gPow, gShl, gShr, gAnd, gOr, gXor, gLt, gLe, gGt, gGe, C0, s_asD1, s_asD2, s_asDs0, s_asDs1, s_nrm1, s_nrm2, s_nrm3, s_nrm4, s_nrm5, s_bo, s_ret1, s_ret2, s_add1, s_add2, s_add3, s_add4, s_gI, s_mul1, s_mul2, s_mul3, s_gB, s_in1, s_in2, s_is1, s_is2, s_is3, s_is4, s_is5, s_is6, s_ix1, s_ix2, s_ix3, s_g1, s_g2, s_len1, s_len2, s_len3, s_tup1, s_tup2, s_lst1, s_lst2, s_abs, s_int1, s_int2, s_stri, s_bools, s_sum, s_sort, s_seq1, s_seq2, s_seq3, s_any, s_any1, s_any2, s_any3, s_rng1, s_rng2, s_rng3, s_rng4, s_enum, s_enum1, s_enum2, s_gN, s_gsN, s_gsC, s_gT, s_var, s_var1, s_var2, s_var3, s_var4, s_meth, s_meth1, s_close, s_close1, s_close2, s_close3, s_six, s_six1, s_six2, s_retO, s_retO1, s_retO2, s_peek1, s_peekT1, s_peeks0, s_peeks1, s_wipe0, s_wipe1, s_lf1, s_lf2, s_app, s_ext, s_rem, s_cnt, s_idx, s_spl, s_ty1, s_ty2, s_dSeq, s_dIfS, s_dTest, s_dBin, s_dC, s_gEq, s_dRet, s_dNext, s_dRetN, s_dSet, s_dCons, s_dNil, s_dCB, s_dCall, s_dLc, s_dYes, s_dTup, s_dLst, s_dFor, s_dChain, s_dAndV, s_dOrV, s_dNotV, s_dAnd, s_dOr, s_dNot, s_dIf, s_dRaise, s_dAsg, s_dDrop, s_dMv, s_dIsi, s_dZip, Shp, shp_int, shp_bool, shp_none, PyData.eqv, List.length_cons, List.length_nil, List.replicate, List.cons_append, List.nil_append, List.getElem?_cons_zero, List.getElem?_cons_succ, List.append_nil, List.set_cons_zero, List.set_cons_succ, List.map_cons, List.map_nil, Nat.reduceAdd, Nat.reduceSub, Nat.zero_add, Nat.reduceLT, true_and, and_true, if_true, ite_true, ite_false, Bool.false_eq_true, bne_self_eq_false, Bool.bne_false, Bool.bne_true, Nat.sub_self, Nat.reduceLeDiff, Nat.zero_le, Nat.lt_add_one]
  rw [pairs_enc]
  refine lc_map e2 (fun p => eI (sb q p.1 (ml q c p.2))) (r.zip s) (fun p hp R hR => ?_) ?_
  · obtain ⟨h1, h2⟩ := List.of_mem_zip (a := p.1) (b := p.2) hp
    simp only [e2, eI, gSub, gMod, gDiv, gPow, gShl, gShr, gAnd, gOr, gXor, gLt, gLe, gGt, gGe, C0, s_asD1, s_asD2, s_asDs0, s_asDs1, s_nrm1, s_nrm2, s_nrm3, s_nrm4, s_nrm5, s_bo, s_ret1, s_ret2, s_add1, s_add2, s_add3, s_add4, s_gI, s_mul1, s_mul2, s_mul3, s_gB, s_in1, s_in2, s_is1, s_is2, s_is3, s_is4, s_is5, s_is6, s_ix1, s_ix2, s_ix3, s_g1, s_g2, s_len1, s_len2, s_len3, s_tup1, s_tup2, s_lst1, s_lst2, s_abs, s_int1, s_int2, s_stri, s_bools, s_sum, s_sort, s_seq1, s_seq2, s_seq3, s_any, s_any1, s_any2, s_any3, s_rng1, s_rng2, s_rng3, s_rng4, s_enum, s_enum1, s_enum2, s_gN, s_gsN, s_gsC, s_gT, s_var, s_var1, s_var2, s_var3, s_var4, s_meth, s_meth1, s_close, s_close1, s_close2, s_close3, s_six, s_six1, s_six2, s_retO, s_retO1, s_retO2, s_peek1, s_peekT1, s_peeks0, s_peeks1, s_wipe0, s_wipe1, s_lf1, s_lf2, s_app, s_ext, s_rem, s_cnt, s_idx, s_spl, s_ty1, s_ty2, s_dSeq, s_dIfS, s_dTest, s_dBin, s_dC, s_gEq, s_dRet, s_dNext, s_dRetN, s_dSet, s_dCons, s_dNil, s_dCB, s_dCall, s_dLc, s_dYes, s_dTup, s_dLst, s_dFor, s_dChain, s_dAndV, s_dOrV, s_dNotV, s_dAnd, s_dOr, s_dNot, s_dIf, s_dRaise, s_dAsg, s_dDrop, s_dMv, s_dIsi, s_dZip, Shp, shp_int, shp_bool, shp_none, PyData.eqv, List.length_cons, List.length_nil, List.replicate, List.cons_append, List.nil_append, List.getElem?_cons_zero, List.getElem?_cons_succ, List.append_nil, List.set_cons_zero, List.set_cons_succ, List.map_cons, List.map_nil, Nat.reduceAdd, Nat.reduceSub, Nat.zero_add, Nat.reduceLT, true_and, and_true, if_true, ite_true, ite_false, Bool.false_eq_true, bne_self_eq_false, Bool.bne_false, Bool.bne_true, Nat.sub_self, Nat.reduceLeDiff, Nat.zero_le, Nat.lt_add_one]
    refine p_prod g hc (h'.lt _ h2) ?_
    simp only [gSub, gMod, gDiv, gPow, gShl, gShr, gAnd, gOr, gXor, gLt, gLe, gGt, gGe, C0, s_asD1, s_asD2, s_asDs0, s_asDs1, s_nrm1, s_nrm2, s_nrm3, s_nrm4, s_nrm5, s_bo, s_ret1, s_ret2, s_add1, s_add2, s_add3, s_add4, s_gI, s_mul1, s_mul2, s_mul3, s_gB, s_in1, s_in2, s_is1, s_is2, s_is3, s_is4, s_is5, s_is6, s_ix1, s_ix2, s_ix3, s_g1, s_g2, s_len1, s_len2, s_len3, s_tup1, s_tup2, s_lst1, s_lst2, s_abs, s_int1, s_int2, s_stri, s_bools, s_sum, s_sort, s_seq1, s_seq2, s_seq3, s_any, s_any1, s_any2, s_any3, s_rng1, s_rng2, s_rng3, s_rng4, s_enum, s_enum1, s_enum2, s_gN, s_gsN, s_gsC, s_gT, s_var, s_var1, s_var2, s_var3, s_var4, s_meth, s_meth1, s_close, s_close1, s_close2, s_close3, s_six, s_six1, s_six2, s_retO, s_retO1, s_retO2, s_peek1, s_peekT1, s_peeks0, s_peeks1, s_wipe0, s_wipe1, s_lf1, s_lf2, s_app, s_ext, s_rem, s_cnt, s_idx, s_spl, s_ty1, s_ty2, s_dSeq, s_dIfS, s_dTest, s_dBin, s_dC, s_gEq, s_dRet, s_dNext, s_dRetN, s_dSet, s_dCons, s_dNil, s_dCB, s_dCall, s_dLc, s_dYes, s_dTup, s_dLst, s_dFor, s_dChain, s_dAndV, s_dOrV, s_dNotV, s_dAnd, s_dOr, s_dNot, s_dIf, s_dRaise, s_dAsg, s_dDrop, s_dMv, s_dIsi, s_dZip, Shp, shp_int, shp_bool, shp_none, PyData.eqv, List.length_cons, List.length_nil, List.replicate, List.cons_append, List.nil_append, List.getElem?_cons_zero, List.getElem?_cons_succ, List.append_nil, List.set_cons_zero, List.set_cons_succ, List.map_cons, List.map_nil, Nat.reduceAdd, Nat.reduceSub, Nat.zero_add, Nat.reduceLT, true_and, and_true, if_true, ite_true, ite_false, Bool.false_eq_true, bne_self_eq_false, Bool.bne_false, Bool.bne_true, Nat.sub_self, Nat.reduceLeDiff, Nat.zero_le, Nat.lt_add_one]
    exact p_diff g (h.lt _ h1) (ml_lt g hc (h'.lt _ h2)) hR
  · simp only [gSub, gMod, gDiv, gPow, gShl, gShr, gAnd, gOr, gXor, gLt, gLe, gGt, gGe, C0, s_asD1, s_asD2, s_asDs0, s_asDs1, s_nrm1, s_nrm2, s_nrm3, s_nrm4, s_nrm5, s_bo, s_ret1, s_ret2, s_add1, s_add2, s_add3, s_add4, s_gI, s_mul1, s_mul2, s_mul3, s_gB, s_in1, s_in2, s_is1, s_is2, s_is3, s_is4, s_is5, s_is6, s_ix1, s_ix2, s_ix3, s_g1, s_g2, s_len1, s_len2, s_len3, s_tup1, s_tup2, s_lst1, s_lst2, s_abs, s_int1, s_int2, s_stri, s_bools, s_sum, s_sort, s_seq1, s_seq2, s_seq3, s_any, s_any1, s_any2, s_any3, s_rng1, s_rng2, s_rng3, s_rng4, s_enum, s_enum1, s_enum2, s_gN, s_gsN, s_gsC, s_gT, s_var, s_var1, s_var2, s_var3, s_var4, s_meth, s_meth1, s_close, s_close1, s_close2, s_close3, s_six, s_six1, s_six2, s_retO, s_retO1, s_retO2, s_peek1, s_peekT1, s_peeks0, s_peeks1, s_wipe0, s_wipe1, s_lf1, s_lf2, s_app, s_ext, s_rem, s_cnt, s_idx, s_spl, s_ty1, s_ty2, s_dSeq, s_dIfS, s_dTest, s_dBin, s_dC, s_gEq, s_dRet, s_dNext, s_dRetN, s_dSet, s_dCons, s_dNil, s_dCB, s_dCall, s_dLc, s_dYes, s_dTup, s_dLst, s_dFor, s_dChain, s_dAndV, s_dOrV, s_dNotV, s_dAnd, s_dOr, s_dNot, s_dIf, s_dRaise, s_dAsg, s_dDrop, s_dMv, s_dIsi, s_dZip, Shp, shp_int, shp_bool, shp_none, PyData.eqv, List.length_cons, List.length_nil, List.replicate, List.cons_append, List.nil_append, List.getElem?_cons_zero, List.getElem?_cons_succ, List.append_nil, List.set_cons_zero, List.set_cons_succ, List.map_cons, List.map_nil, Nat.reduceAdd, Nat.reduceSub, Nat.zero_add, Nat.reduceLT, true_and, and_true, if_true, ite_true, ite_false, Bool.false_eq_true, bne_self_eq_false, Bool.bne_false, Bool.bne_true, Nat.sub_self, Nat.reduceLeDiff, Nat.zero_le, Nat.lt_add_one]
    have e : List.map (fun p => eI (sb q p.1 (ml q c p.2))) (r.zip s) = (le q c r s).map eI := by
      unfold le
      rw [← List.map_uncurry_zip_eq_zipWith, List.map_map] <;> rfl
    rw [e]
    exact hq
theorem beq_nat (a b : Nat) : (((a : Int) == (b : Int)) = (a == b)) := by
  by_cases h : a = b
  · subst h; simp
  · have h2 : ¬ (a : Int) = (b : Int) := by omega
    rw [beq_eq_false_iff_ne.mpr h, beq_eq_false_iff_ne.mpr h2]
theorem at0 {α : Type} (x : α) (l : List α) : atI (x :: l) 0 = some x := by simp [atI, ixN]
theorem iv_find {q a : Nat} (g : G q) (h0 : a ≠ 0) (ha : a < q) : ∃ l, ((List.range (q - 1)).filter fun x => ml q a (1 + x) == 1).map (fun x => eI (1 + x)) = eI (iv q a) :: l := by
  rcases g with rfl | rfl | rfl | rfl
  · have : a = 1 := by omega
    subst this; exact ⟨[], rfl⟩
  · have : a = 1 ∨ a = 2 := by omega
    rcases this with rfl | rfl <;> exact ⟨[], rfl⟩
  · have : a = 1 ∨ a = 2 ∨ a = 3 := by omega
    rcases this with rfl | rfl | rfl <;> exact ⟨[], rfl⟩
  · have : a = 1 ∨ a = 2 ∨ a = 3 ∨ a = 4 := by omega
    rcases this with rfl | rfl | rfl | rfl <;> exact ⟨[], rfl⟩
theorem iv_find0 {q a : Nat} (g : G q) (h0 : a ≠ 0) (ha : a < q) : ∃ l, ((List.range q).filter fun x => ml q a x == 1).map eI = eI (iv q a) :: l := by
  rcases g with rfl | rfl | rfl | rfl
  · have : a = 1 := by omega
    subst this; exact ⟨[], rfl⟩
  · have : a = 1 ∨ a = 2 := by omega
    rcases this with rfl | rfl <;> exact ⟨[], rfl⟩
  · have : a = 1 ∨ a = 2 ∨ a = 3 := by omega
    rcases this with rfl | rfl | rfl <;> exact ⟨[], rfl⟩
  · have : a = 1 ∨ a = 2 ∨ a = 3 ∨ a = 4 := by omega
    rcases this with rfl | rfl | rfl | rfl <;> exact ⟨[], rfl⟩
theorem p_back {q a : Nat} {Q : SK} {E : EK} (g : G q) (h0 : a ≠ 0) (ha : a < q) (hq : Q (.sh (eI (iv q a)))) : F__law_back [.sh (.int q), .sh (.int a)] Q E := by
  have := g.pos
  simp only [E__law_back, den__law_back, gSub, gMod, gDiv, gPow, gShl, gShr, gAnd, gOr, gXor, gLt, gLe, gGt, gGe, C0, s_asD1, s_asD2, s_asDs0, s_asDs1, s_nrm1, s_nrm2, s_nrm3, s_nrm4, s_nrm5, s_bo, s_ret1, s_ret2, s_add1, s_add2, s_add3, s_add4, s_gI, s_mul1, s_mul2, s_mul3, s_gB, s_in1, s_in2, s_is1, s_is2, s_is3, s_is4, s_is5, s_is6, s_ix1, s_ix2, s_ix3, s_g1, s_g2, s_len1, s_len2, s_len3, s_tup1, s_tup2, s_lst1, s_lst2, s_abs, s_int1, s_int2, s_stri, s_bools, s_sum, s_sort, s_seq1, s_seq2, s_seq3, s_any, s_any1, s_any2, s_any3, s_rng1, s_rng2, s_rng3, s_rng4, s_enum, s_enum1, s_enum2, s_gN, s_gsN, s_gsC, s_gT, s_var, s_var1, s_var2, s_var3, s_var4, s_meth, s_meth1, s_close, s_close1, s_close2, s_close3, s_six, s_six1, s_six2, s_retO, s_retO1, s_retO2, s_peek1, s_peekT1, s_peeks0, s_peeks1, s_wipe0, s_wipe1, s_lf1, s_lf2, s_app, s_ext, s_rem, s_cnt, s_idx, s_spl, s_ty1, s_ty2, s_dSeq, s_dIfS, s_dTest, s_dBin, s_dC, s_gEq, s_dRet, s_dNext, s_dRetN, s_dSet, s_dCons, s_dNil, s_dCB, s_dCall, s_dLc, s_dYes, s_dTup, s_dLst, s_dFor, s_dChain, s_dAndV, s_dOrV, s_dNotV, s_dAnd, s_dOr, s_dNot, s_dIf, s_dRaise, s_dAsg, s_dDrop, s_dMv, s_dIsi, s_dZip, Shp, shp_int, shp_bool, shp_none, PyData.eqv, List.length_cons, List.length_nil, List.replicate, List.cons_append, List.nil_append, List.getElem?_cons_zero, List.getElem?_cons_succ, List.append_nil, List.set_cons_zero, List.set_cons_succ, List.map_cons, List.map_nil, Nat.reduceAdd, Nat.reduceSub, Nat.zero_add, Nat.reduceLT, true_and, and_true, if_true, ite_true, ite_false, Bool.false_eq_true, bne_self_eq_false, Bool.bne_false, Bool.bne_true, Nat.sub_self, Nat.reduceLeDiff, Nat.zero_le, Nat.lt_add_one]
  refine ⟨by omega, ?_⟩
  have e : ((q : Int) - 1).toNat = q - 1 := by omega
  rw [e]
  unfold rngs
  refine lc_fm (fun i : Nat => PyData.int (1 + (i : Int))) (fun x => ml q a (1 + x) == 1) (fun x => eI (1 + x)) (List.range (q - 1)) [] (fun x hx R N hR => ?_) ?_
  · have hx' := List.mem_range.mp hx
    simp only [gSub, gMod, gDiv, gPow, gShl, gShr, gAnd, gOr, gXor, gLt, gLe, gGt, gGe, C0, s_asD1, s_asD2, s_asDs0, s_asDs1, s_nrm1, s_nrm2, s_nrm3, s_nrm4, s_nrm5, s_bo, s_ret1, s_ret2, s_add1, s_add2, s_add3, s_add4, s_gI, s_mul1, s_mul2, s_mul3, s_gB, s_in1, s_in2, s_is1, s_is2, s_is3, s_is4, s_is5, s_is6, s_ix1, s_ix2, s_ix3, s_g1, s_g2, s_len1, s_len2, s_len3, s_tup1, s_tup2, s_lst1, s_lst2, s_abs, s_int1, s_int2, s_stri, s_bools, s_sum, s_sort, s_seq1, s_seq2, s_seq3, s_any, s_any1, s_any2, s_any3, s_rng1, s_rng2, s_rng3, s_rng4, s_enum, s_enum1, s_enum2, s_gN, s_gsN, s_gsC, s_gT, s_var, s_var1, s_var2, s_var3, s_var4, s_meth, s_meth1, s_close, s_close1, s_close2, s_close3, s_six, s_six1, s_six2, s_retO, s_retO1, s_retO2, s_peek1, s_peekT1, s_peeks0, s_peeks1, s_wipe0, s_wipe1, s_lf1, s_lf2, s_app, s_ext, s_rem, s_cnt, s_idx, s_spl, s_ty1, s_ty2, s_dSeq, s_dIfS, s_dTest, s_dBin, s_dC, s_gEq, s_dRet, s_dNext, s_dRetN, s_dSet, s_dCons, s_dNil, s_dCB, s_dCall, s_dLc, s_dYes, s_dTup, s_dLst, s_dFor, s_dChain, s_dAndV, s_dOrV, s_dNotV, s_dAnd, s_dOr, s_dNot, s_dIf, s_dRaise, s_dAsg, s_dDrop, s_dMv, s_dIsi, s_dZip, Shp, shp_int, shp_bool, shp_none, PyData.eqv, List.length_cons, List.length_nil, List.replicate, List.cons_append, List.nil_append, List.getElem?_cons_zero, List.getElem?_cons_succ, List.append_nil, List.set_cons_zero, List.set_cons_succ, List.map_cons, List.map_nil, Nat.reduceAdd, Nat.reduceSub, Nat.zero_add, Nat.reduceLT, true_and, and_true, if_true, ite_true, ite_false, Bool.false_eq_true, bne_self_eq_false, Bool.bne_false, Bool.bne_true, Nat.sub_self, Nat.reduceLeDiff, Nat.zero_le, Nat.lt_add_one]
    have e1 : (1 : Int) + (x : Int) = ((1 + x : Nat) : Int) := by omega
    rw [e1]
    refine p_times g ha (by omega) ?_
    simp only [gSub, gMod, gDiv, gPow, gShl, gShr, gAnd, gOr, gXor, gLt, gLe, gGt, gGe, C0, s_asD1, s_asD2, s_asDs0, s_asDs1, s_nrm1, s_nrm2, s_nrm3, s_nrm4, s_nrm5, s_bo, s_ret1, s_ret2, s_add1, s_add2, s_add3, s_add4, s_gI, s_mul1, s_mul2, s_mul3, s_gB, s_in1, s_in2, s_is1, s_is2, s_is3, s_is4, s_is5, s_is6, s_ix1, s_ix2, s_ix3, s_g1, s_g2, s_len1, s_len2, s_len3, s_tup1, s_tup2, s_lst1, s_lst2, s_abs, s_int1, s_int2, s_stri, s_bools, s_sum, s_sort, s_seq1, s_seq2, s_seq3, s_any, s_any1, s_any2, s_any3, s_rng1, s_rng2, s_rng3, s_rng4, s_enum, s_enum1, s_enum2, s_gN, s_gsN, s_gsC, s_gT, s_var, s_var1, s_var2, s_var3, s_var4, s_meth, s_meth1, s_close, s_close1, s_close2, s_close3, s_six, s_six1, s_six2, s_retO, s_retO1, s_retO2, s_peek1, s_peekT1, s_peeks0, s_peeks1, s_wipe0, s_wipe1, s_lf1, s_lf2, s_app, s_ext, s_rem, s_cnt, s_idx, s_spl, s_ty1, s_ty2, s_dSeq, s_dIfS, s_dTest, s_dBin, s_dC, s_gEq, s_dRet, s_dNext, s_dRetN, s_dSet, s_dCons, s_dNil, s_dCB, s_dCall, s_dLc, s_dYes, s_dTup, s_dLst, s_dFor, s_dChain, s_dAndV, s_dOrV, s_dNotV, s_dAnd, s_dOr, s_dNot, s_dIf, s_dRaise, s_dAsg, s_dDrop, s_dMv, s_dIsi, s_dZip, Shp, shp_int, shp_bool, shp_none, PyData.eqv, List.length_cons, List.length_nil, List.replicate, List.cons_append, List.nil_append, List.getElem?_cons_zero, List.getElem?_cons_succ, List.append_nil, List.set_cons_zero, List.set_cons_succ, List.map_cons, List.map_nil, Nat.reduceAdd, Nat.reduceSub, Nat.zero_add, Nat.reduceLT, true_and, and_true, if_true, ite_true, ite_false, Bool.false_eq_true, bne_self_eq_false, Bool.bne_false, Bool.bne_true, Nat.sub_self, Nat.reduceLeDiff, Nat.zero_le, Nat.lt_add_one]
    have e2 : (((ml q a (1 + x) : Nat) : Int) == 1) = (ml q a (1 + x) == 1) := beq_nat _ 1
    simp only [e2]
    exact hR
  · obtain ⟨l, e2⟩ := iv_find g h0 ha
    rw [e2]
    simp only [gSub, gMod, gDiv, gPow, gShl, gShr, gAnd, gOr, gXor, gLt, gLe, gGt, gGe, C0, s_asD1, s_asD2, s_asDs0, s_asDs1, s_nrm1, s_nrm2, s_nrm3, s_nrm4, s_nrm5, s_bo, s_ret1, s_ret2, s_add1, s_add2, s_add3, s_add4, s_gI, s_mul1, s_mul2, s_mul3, s_gB, s_in1, s_in2, s_is1, s_is2, s_is3, s_is4, s_is5, s_is6, s_ix1, s_ix2, s_ix3, s_g1, s_g2, s_len1, s_len2, s_len3, s_tup1, s_tup2, s_lst1, s_lst2, s_abs, s_int1, s_int2, s_stri, s_bools, s_sum, s_sort, s_seq1, s_seq2, s_seq3, s_any, s_any1, s_any2, s_any3, s_rng1, s_rng2, s_rng3, s_rng4, s_enum, s_enum1, s_enum2, s_gN, s_gsN, s_gsC, s_gT, s_var, s_var1, s_var2, s_var3, s_var4, s_meth, s_meth1, s_close, s_close1, s_close2, s_close3, s_six, s_six1, s_six2, s_retO, s_retO1, s_retO2, s_peek1, s_peekT1, s_peeks0, s_peeks1, s_wipe0, s_wipe1, s_lf1, s_lf2, s_app, s_ext, s_rem, s_cnt, s_idx, s_spl, s_ty1, s_ty2, s_dSeq, s_dIfS, s_dTest, s_dBin, s_dC, s_gEq, s_dRet, s_dNext, s_dRetN, s_dSet, s_dCons, s_dNil, s_dCB, s_dCall, s_dLc, s_dYes, s_dTup, s_dLst, s_dFor, s_dChain, s_dAndV, s_dOrV, s_dNotV, s_dAnd, s_dOr, s_dNot, s_dIf, s_dRaise, s_dAsg, s_dDrop, s_dMv, s_dIsi, s_dZip, Shp, shp_int, shp_bool, shp_none, PyData.eqv, List.length_cons, List.length_nil, List.replicate, List.cons_append, List.nil_append, List.getElem?_cons_zero, List.getElem?_cons_succ, List.append_nil, List.set_cons_zero, List.set_cons_succ, List.map_cons, List.map_nil, Nat.reduceAdd, Nat.reduceSub, Nat.zero_add, Nat.reduceLT, true_and, and_true, if_true, ite_true, ite_false, Bool.false_eq_true, bne_self_eq_false, Bool.bne_false, Bool.bne_true, Nat.sub_self, Nat.reduceLeDiff, Nat.zero_le, Nat.lt_add_one]
    exact ⟨_, at0 _ _, hq⟩
theorem p_backk {q a : Nat} {Q : SK} {E : EK} (g : G q) (h0 : a ≠ 0) (ha : a < q) (hq : Q (.sh (eI (iv q a)))) : F_back_known [.sh (.int q), .sh (.int a)] Q E := by
  have := g.pos
  simp only [E_back_known, den_back_known, gSub, gMod, gDiv, gPow, gShl, gShr, gAnd, gOr, gXor, gLt, gLe, gGt, gGe, C0, s_asD1, s_asD2, s_asDs0, s_asDs1, s_nrm1, s_nrm2, s_nrm3, s_nrm4, s_nrm5, s_bo, s_ret1, s_ret2, s_add1, s_add2, s_add3, s_add4, s_gI, s_mul1, s_mul2, s_mul3, s_gB, s_in1, s_in2, s_is1, s_is2, s_is3, s_is4, s_is5, s_is6, s_ix1, s_ix2, s_ix3, s_g1, s_g2, s_len1, s_len2, s_len3, s_tup1, s_tup2, s_lst1, s_lst2, s_abs, s_int1, s_int2, s_stri, s_bools, s_sum, s_sort, s_seq1, s_seq2, s_seq3, s_any, s_any1, s_any2, s_any3, s_rng1, s_rng2, s_rng3, s_rng4, s_enum, s_enum1, s_enum2, s_gN, s_gsN, s_gsC, s_gT, s_var, s_var1, s_var2, s_var3, s_var4, s_meth, s_meth1, s_close, s_close1, s_close2, s_close3, s_six, s_six1, s_six2, s_retO, s_retO1, s_retO2, s_peek1, s_peekT1, s_peeks0, s_peeks1, s_wipe0, s_wipe1, s_lf1, s_lf2, s_app, s_ext, s_rem, s_cnt, s_idx, s_spl, s_ty1, s_ty2, s_dSeq, s_dIfS, s_dTest, s_dBin, s_dC, s_gEq, s_dRet, s_dNext, s_dRetN, s_dSet, s_dCons, s_dNil, s_dCB, s_dCall, s_dLc, s_dYes, s_dTup, s_dLst, s_dFor, s_dChain, s_dAndV, s_dOrV, s_dNotV, s_dAnd, s_dOr, s_dNot, s_dIf, s_dRaise, s_dAsg, s_dDrop, s_dMv, s_dIsi, s_dZip, Shp, shp_int, shp_bool, shp_none, PyData.eqv, List.length_cons, List.length_nil, List.replicate, List.cons_append, List.nil_append, List.getElem?_cons_zero, List.getElem?_cons_succ, List.append_nil, List.set_cons_zero, List.set_cons_succ, List.map_cons, List.map_nil, Nat.reduceAdd, Nat.reduceSub, Nat.zero_add, Nat.reduceLT, true_and, and_true, if_true, ite_true, ite_false, Bool.false_eq_true, bne_self_eq_false, Bool.bne_false, Bool.bne_true, Nat.sub_self, Nat.reduceLeDiff, Nat.zero_le, Nat.lt_add_one]
  refine ⟨by omega, ?_⟩
  rw [Int.toNat_natCast]
  unfold rngs
  refine lc_fm (fun i : Nat => PyData.int (0 + (i : Int))) (fun x => ml q a x == 1) eI (List.range q) [] (fun x hx R N hR => ?_) ?_
  · have hx' := List.mem_range.mp hx
    simp only [gSub, gMod, gDiv, gPow, gShl, gShr, gAnd, gOr, gXor, gLt, gLe, gGt, gGe, C0, s_asD1, s_asD2, s_asDs0, s_asDs1, s_nrm1, s_nrm2, s_nrm3, s_nrm4, s_nrm5, s_bo, s_ret1, s_ret2, s_add1, s_add2, s_add3, s_add4, s_gI, s_mul1, s_mul2, s_mul3, s_gB, s_in1, s_in2, s_is1, s_is2, s_is3, s_is4, s_is5, s_is6, s_ix1, s_ix2, s_ix3, s_g1, s_g2, s_len1, s_len2, s_len3, s_tup1, s_tup2, s_lst1, s_lst2, s_abs, s_int1, s_int2, s_stri, s_bools, s_sum, s_sort, s_seq1, s_seq2, s_seq3, s_any, s_any1, s_any2, s_any3, s_rng1, s_rng2, s_rng3, s_rng4, s_enum, s_enum1, s_enum2, s_gN, s_gsN, s_gsC, s_gT, s_var, s_var1, s_var2, s_var3, s_var4, s_meth, s_meth1, s_close, s_close1, s_close2, s_close3, s_six, s_six1, s_six2, s_retO, s_retO1, s_retO2, s_peek1, s_peekT1, s_peeks0, s_peeks1, s_wipe0, s_wipe1, s_lf1, s_lf2, s_app, s_ext, s_rem, s_cnt, s_idx, s_spl, s_ty1, s_ty2, s_dSeq, s_dIfS, s_dTest, s_dBin, s_dC, s_gEq, s_dRet, s_dNext, s_dRetN, s_dSet, s_dCons, s_dNil, s_dCB, s_dCall, s_dLc, s_dYes, s_dTup, s_dLst, s_dFor, s_dChain, s_dAndV, s_dOrV, s_dNotV, s_dAnd, s_dOr, s_dNot, s_dIf, s_dRaise, s_dAsg, s_dDrop, s_dMv, s_dIsi, s_dZip, Shp, shp_int, shp_bool, shp_none, PyData.eqv, List.length_cons, List.length_nil, List.replicate, List.cons_append, List.nil_append, List.getElem?_cons_zero, List.getElem?_cons_succ, List.append_nil, List.set_cons_zero, List.set_cons_succ, List.map_cons, List.map_nil, Nat.reduceAdd, Nat.reduceSub, Nat.zero_add, Nat.reduceLT, true_and, and_true, if_true, ite_true, ite_false, Bool.false_eq_true, bne_self_eq_false, Bool.bne_false, Bool.bne_true, Nat.sub_self, Nat.reduceLeDiff, Nat.zero_le, Nat.lt_add_one, Int.zero_add]
    refine p_prod g ha hx' ?_
    simp only [gSub, gMod, gDiv, gPow, gShl, gShr, gAnd, gOr, gXor, gLt, gLe, gGt, gGe, C0, s_asD1, s_asD2, s_asDs0, s_asDs1, s_nrm1, s_nrm2, s_nrm3, s_nrm4, s_nrm5, s_bo, s_ret1, s_ret2, s_add1, s_add2, s_add3, s_add4, s_gI, s_mul1, s_mul2, s_mul3, s_gB, s_in1, s_in2, s_is1, s_is2, s_is3, s_is4, s_is5, s_is6, s_ix1, s_ix2, s_ix3, s_g1, s_g2, s_len1, s_len2, s_len3, s_tup1, s_tup2, s_lst1, s_lst2, s_abs, s_int1, s_int2, s_stri, s_bools, s_sum, s_sort, s_seq1, s_seq2, s_seq3, s_any, s_any1, s_any2, s_any3, s_rng1, s_rng2, s_rng3, s_rng4, s_enum, s_enum1, s_enum2, s_gN, s_gsN, s_gsC, s_gT, s_var, s_var1, s_var2, s_var3, s_var4, s_meth, s_meth1, s_close, s_close1, s_close2, s_close3, s_six, s_six1, s_six2, s_retO, s_retO1, s_retO2, s_peek1, s_peekT1, s_peeks0, s_peeks1, s_wipe0, s_wipe1, s_lf1, s_lf2, s_app, s_ext, s_rem, s_cnt, s_idx, s_spl, s_ty1, s_ty2, s_dSeq, s_dIfS, s_dTest, s_dBin, s_dC, s_gEq, s_dRet, s_dNext, s_dRetN, s_dSet, s_dCons, s_dNil, s_dCB, s_dCall, s_dLc, s_dYes, s_dTup, s_dLst, s_dFor, s_dChain, s_dAndV, s_dOrV, s_dNotV, s_dAnd, s_dOr, s_dNot, s_dIf, s_dRaise, s_dAsg, s_dDrop, s_dMv, s_dIsi, s_dZip, Shp, shp_int, shp_bool, shp_none, PyData.eqv, List.length_cons, List.length_nil, List.replicate, List.cons_append, List.nil_append, List.getElem?_cons_zero, List.getElem?_cons_succ, List.append_nil, List.set_cons_zero, List.set_cons_succ, List.map_cons, List.map_nil, Nat.reduceAdd, Nat.reduceSub, Nat.zero_add, Nat.reduceLT, true_and, and_true, if_true, ite_true, ite_false, Bool.false_eq_true, bne_self_eq_false, Bool.bne_false, Bool.bne_true, Nat.sub_self, Nat.reduceLeDiff, Nat.zero_le, Nat.lt_add_one]
    have e2 : (((ml q a x : Nat) : Int) == 1) = (ml q a x == 1) := beq_nat _ 1
    simp only [e2]
    exact hR
  · obtain ⟨l, e2⟩ := iv_find0 g h0 ha
    rw [List.nil_append, e2]
    simp only [gSub, gMod, gDiv, gPow, gShl, gShr, gAnd, gOr, gXor, gLt, gLe, gGt, gGe, C0, s_asD1, s_asD2, s_asDs0, s_asDs1, s_nrm1, s_nrm2, s_nrm3, s_nrm4, s_nrm5, s_bo, s_ret1, s_ret2, s_add1, s_add2, s_add3, s_add4, s_gI, s_mul1, s_mul2, s_mul3, s_gB, s_in1, s_in2, s_is1, s_is2, s_is3, s_is4, s_is5, s_is6, s_ix1, s_ix2, s_ix3, s_g1, s_g2, s_len1, s_len2, s_len3, s_tup1, s_tup2, s_lst1, s_lst2, s_abs, s_int1, s_int2, s_stri, s_bools, s_sum, s_sort, s_seq1, s_seq2, s_seq3, s_any, s_any1, s_any2, s_any3, s_rng1, s_rng2, s_rng3, s_rng4, s_enum, s_enum1, s_enum2, s_gN, s_gsN, s_gsC, s_gT, s_var, s_var1, s_var2, s_var3, s_var4, s_meth, s_meth1, s_close, s_close1, s_close2, s_close3, s_six, s_six1, s_six2, s_retO, s_retO1, s_retO2, s_peek1, s_peekT1, s_peeks0, s_peeks1, s_wipe0, s_wipe1, s_lf1, s_lf2, s_app, s_ext, s_rem, s_cnt, s_idx, s_spl, s_ty1, s_ty2, s_dSeq, s_dIfS, s_dTest, s_dBin, s_dC, s_gEq, s_dRet, s_dNext, s_dRetN, s_dSet, s_dCons, s_dNil, s_dCB, s_dCall, s_dLc, s_dYes, s_dTup, s_dLst, s_dFor, s_dChain, s_dAndV, s_dOrV, s_dNotV, s_dAnd, s_dOr, s_dNot, s_dIf, s_dRaise, s_dAsg, s_dDrop, s_dMv, s_dIsi, s_dZip, Shp, shp_int, shp_bool, shp_none, PyData.eqv, List.length_cons, List.length_nil, List.replicate, List.cons_append, List.nil_append, List.getElem?_cons_zero, List.getElem?_cons_succ, List.append_nil, List.set_cons_zero, List.set_cons_succ, List.map_cons, List.map_nil, Nat.reduceAdd, Nat.reduceSub, Nat.zero_add, Nat.reduceLT, true_and, and_true, if_true, ite_true, ite_false, Bool.false_eq_true, bne_self_eq_false, Bool.bne_false, Bool.bne_true, Nat.sub_self, Nat.reduceLeDiff, Nat.zero_le, Nat.lt_add_one]
    exact ⟨_, at0 _ _, hq⟩
/-! the first place of another number than 0 -/
def ldO (r : List Nat) : Option Nat := r.findIdx? fun x => x != 0
def eO : Option Nat → D
  | some i => eI i
  | none => .none
theorem num_enc (r : List Nat) : numbered (r.map eI) = (r.zipIdx).map fun p => .tuple [eI p.2, eI p.1] := by
  apply List.ext_getElem?
  intro i
  by_cases h : i < r.length
  · have e1 : (numbered (r.map eI))[i]? = some (.tuple [eI i, eI r[i]]) := by
      unfold numbered pairs
      have hz : ((rngs 0 (r.map eI).length).zip (r.map eI))[i]? = some (.int (0 + (i : Int)), eI r[i]) := by
        rw [List.getElem?_zip_eq_some]
        refine ⟨?_, ?_⟩
        · unfold rngs
          rw [List.getElem?_map, List.length_map, List.getElem?_range h]
          rfl
        · rw [List.getElem?_map, List.getElem?_eq_getElem h]
          rfl
      rw [List.getElem?_map, hz]
      simp [eI]
    rw [e1, List.getElem?_map, List.getElem?_zipIdx, List.getElem?_eq_getElem h]
    simp
  · have e1 : (numbered (r.map eI)).length = r.length := by unfold numbered; rw [pairs_length, rngs_length, List.length_map, Nat.min_self]
    rw [List.getElem?_eq_none (by omega), List.getElem?_eq_none (by rw [List.length_map, List.length_zipIdx]; omega)]
theorem p_lead {r : List Nat} {Q : SK} {E : EK} (hq : Q (.sh (eO (ldO r)))) : F_lead_of [.sh (eR r)] Q E := by
  simp only [E_lead_of, den_lead_of, eR, gSub, gMod, gDiv, gPow, gShl, gShr, gAnd, gOr, gXor, gLt, gLe, gGt, gGe, C0, s_asD1, s_asD2, s_asDs0, s_asDs1, s_nrm1, s_nrm2, s_nrm3, s_nrm4, s_nrm5, s_bo, s_ret1, s_ret2, s_add1, s_add2, s_add3, s_add4, s_gI, s_mul1, s_mul2, s_mul3, s_gB, s_in1, s_in2, s_is1, s_is2, s_is3, s_is4, s_is5, s_is6, s_ix1, s_ix2, s_ix3, s_g1, s_g2, s_len1, s_len2, s_len3, s_tup1, s_tup2, s_lst1, s_lst2, s_abs, s_int1, s_int2, s_stri, s_bools, s_sum, s_sort, s_seq1, s_seq2, s_seq3, s_any, s_any1, s_any2, s_any3, s_rng1, s_rng2, s_rng3, s_rng4, s_enum, s_enum1, s_enum2, s_gN, s_gsN, s_gsC, s_gT, s_var, s_var1, s_var2, s_var3, s_var4, s_meth, s_meth1, s_close, s_close1, s_close2, s_close3, s_six, s_six1, s_six2, s_retO, s_retO1, s_retO2, s_peek1, s_peekT1, s_peeks0, s_peeks1, s_wipe0, s_wipe1, s_lf1, s_lf2, s_app, s_ext, s_rem, s_cnt, s_idx, s_spl, s_ty1, s_ty2, s_dSeq, s_dIfS, s_dTest, s_dBin, s_dC, s_gEq, s_dRet, s_dNext, s_dRetN, s_dSet, s_dCons, s_dNil, s_dCB, s_dCall, s_dLc, s_dYes, s_dTup, s_dLst, s_dFor, s_dChain, s_dAndV, s_dOrV, s_dNotV, s_dAnd, s_dOr, s_dNot, s_dIf, s_dRaise, s_dAsg, s_dDrop, s_dMv, s_dIsi, s_dZip, Shp, shp_int, shp_bool, shp_none, PyData.eqv, List.length_cons, List.length_nil, List.replicate, List.cons_append, List.nil_append, List.getElem?_cons_zero, List.getElem?_cons_succ, List.append_nil, List.set_cons_zero, List.set_cons_succ, List.map_cons, List.map_nil, Nat.reduceAdd, Nat.reduceSub, Nat.zero_add, Nat.reduceLT, true_and, and_true, if_true, ite_true, ite_false, Bool.false_eq_true, bne_self_eq_false, Bool.bne_false, Bool.bne_true, Nat.sub_self, Nat.reduceLeDiff, Nat.zero_le, Nat.lt_add_one]
  rw [num_enc]
  have key : ∀ (r : List Nat) (k : Nat) (a b c : Slot) (U : En), (∀ i, ldO r = some i → U.rt (.sh (eI (i + k)))) → (ldO r = none → ∀ a b c, U.nx [a, b, c]) →
      forGo (gT 2 (gsC (gN 1) (gsC (gN 2) gsN))) (dIfS (dTest (dBin (gEq true) (dVar 2) (dC (.int 0)))) (dRet (dVar 1)) dNext) U ((r.zipIdx k).map fun p => .tuple [eI p.2, eI p.1]) [a, b, c] := by
    intro r
    induction r with
    | nil => intro k a b c U h1 h2; exact h2 rfl _ _ _
    | cons x r ih =>
      intro k a b c U h1 h2
      simp only [List.zipIdx_cons, List.map_cons, forGo, eI, gSub, gMod, gDiv, gPow, gShl, gShr, gAnd, gOr, gXor, gLt, gLe, gGt, gGe, C0, s_asD1, s_asD2, s_asDs0, s_asDs1, s_nrm1, s_nrm2, s_nrm3, s_nrm4, s_nrm5, s_bo, s_ret1, s_ret2, s_add1, s_add2, s_add3, s_add4, s_gI, s_mul1, s_mul2, s_mul3, s_gB, s_in1, s_in2, s_is1, s_is2, s_is3, s_is4, s_is5, s_is6, s_ix1, s_ix2, s_ix3, s_g1, s_g2, s_len1, s_len2, s_len3, s_tup1, s_tup2, s_lst1, s_lst2, s_abs, s_int1, s_int2, s_stri, s_bools, s_sum, s_sort, s_seq1, s_seq2, s_seq3, s_any, s_any1, s_any2, s_any3, s_rng1, s_rng2, s_rng3, s_rng4, s_enum, s_enum1, s_enum2, s_gN, s_gsN, s_gsC, s_gT, s_var, s_var1, s_var2, s_var3, s_var4, s_meth, s_meth1, s_close, s_close1, s_close2, s_close3, s_six, s_six1, s_six2, s_retO, s_retO1, s_retO2, s_peek1, s_peekT1, s_peeks0, s_peeks1, s_wipe0, s_wipe1, s_lf1, s_lf2, s_app, s_ext, s_rem, s_cnt, s_idx, s_spl, s_ty1, s_ty2, s_dSeq, s_dIfS, s_dTest, s_dBin, s_dC, s_gEq, s_dRet, s_dNext, s_dRetN, s_dSet, s_dCons, s_dNil, s_dCB, s_dCall, s_dLc, s_dYes, s_dTup, s_dLst, s_dFor, s_dChain, s_dAndV, s_dOrV, s_dNotV, s_dAnd, s_dOr, s_dNot, s_dIf, s_dRaise, s_dAsg, s_dDrop, s_dMv, s_dIsi, s_dZip, Shp, shp_int, shp_bool, shp_none, PyData.eqv, List.length_cons, List.length_nil, List.replicate, List.cons_append, List.nil_append, List.getElem?_cons_zero, List.getElem?_cons_succ, List.append_nil, List.set_cons_zero, List.set_cons_succ, List.map_cons, List.map_nil, Nat.reduceAdd, Nat.reduceSub, Nat.zero_add, Nat.reduceLT, true_and, and_true, if_true, ite_true, ite_false, Bool.false_eq_true, bne_self_eq_false, Bool.bne_false, Bool.bne_true, Nat.sub_self, Nat.reduceLeDiff, Nat.zero_le, Nat.lt_add_one]
      have e0 : ((x : Int) == 0) = (x == 0) := beq_nat x 0
      simp only [e0]
      by_cases hx : x = 0
      · subst hx
        simp only [beq_self_eq_true, gSub, gMod, gDiv, gPow, gShl, gShr, gAnd, gOr, gXor, gLt, gLe, gGt, gGe, C0, s_asD1, s_asD2, s_asDs0, s_asDs1, s_nrm1, s_nrm2, s_nrm3, s_nrm4, s_nrm5, s_bo, s_ret1, s_ret2, s_add1, s_add2, s_add3, s_add4, s_gI, s_mul1, s_mul2, s_mul3, s_gB, s_in1, s_in2, s_is1, s_is2, s_is3, s_is4, s_is5, s_is6, s_ix1, s_ix2, s_ix3, s_g1, s_g2, s_len1, s_len2, s_len3, s_tup1, s_tup2, s_lst1, s_lst2, s_abs, s_int1, s_int2, s_stri, s_bools, s_sum, s_sort, s_seq1, s_seq2, s_seq3, s_any, s_any1, s_any2, s_any3, s_rng1, s_rng2, s_rng3, s_rng4, s_enum, s_enum1, s_enum2, s_gN, s_gsN, s_gsC, s_gT, s_var, s_var1, s_var2, s_var3, s_var4, s_meth, s_meth1, s_close, s_close1, s_close2, s_close3, s_six, s_six1, s_six2, s_retO, s_retO1, s_retO2, s_peek1, s_peekT1, s_peeks0, s_peeks1, s_wipe0, s_wipe1, s_lf1, s_lf2, s_app, s_ext, s_rem, s_cnt, s_idx, s_spl, s_ty1, s_ty2, s_dSeq, s_dIfS, s_dTest, s_dBin, s_dC, s_gEq, s_dRet, s_dNext, s_dRetN, s_dSet, s_dCons, s_dNil, s_dCB, s_dCall, s_dLc, s_dYes, s_dTup, s_dLst, s_dFor, s_dChain, s_dAndV, s_dOrV, s_dNotV, s_dAnd, s_dOr, s_dNot, s_dIf, s_dRaise, s_dAsg, s_dDrop, s_dMv, s_dIsi, s_dZip, Shp, shp_int, shp_bool, shp_none, PyData.eqv, List.length_cons, List.length_nil, List.replicate, List.cons_append, List.nil_append, List.getElem?_cons_zero, List.getElem?_cons_succ, List.append_nil, List.set_cons_zero, List.set_cons_succ, List.map_cons, List.map_nil, Nat.reduceAdd, Nat.reduceSub, Nat.zero_add, Nat.reduceLT, true_and, and_true, if_true, ite_true, ite_false, Bool.false_eq_true, bne_self_eq_false, Bool.bne_false, Bool.bne_true, Nat.sub_self, Nat.reduceLeDiff, Nat.zero_le, Nat.lt_add_one]
        refine ih (k + 1) _ _ _ U (fun i hi => ?_) (fun hn => ?_)
        · have : ldO (0 :: r) = some (i + 1) := by unfold ldO at hi ⊢; rw [List.findIdx?_cons, hi]; rfl
          have := h1 _ this
          rw [show i + (k + 1) = i + 1 + k by omega]
          exact this
        · refine h2 ?_
          unfold ldO at hn ⊢
          rw [List.findIdx?_cons, hn]; rfl
      · have hb : (x == 0) = false := beq_eq_false_iff_ne.mpr hx
        simp only [hb, gSub, gMod, gDiv, gPow, gShl, gShr, gAnd, gOr, gXor, gLt, gLe, gGt, gGe, C0, s_asD1, s_asD2, s_asDs0, s_asDs1, s_nrm1, s_nrm2, s_nrm3, s_nrm4, s_nrm5, s_bo, s_ret1, s_ret2, s_add1, s_add2, s_add3, s_add4, s_gI, s_mul1, s_mul2, s_mul3, s_gB, s_in1, s_in2, s_is1, s_is2, s_is3, s_is4, s_is5, s_is6, s_ix1, s_ix2, s_ix3, s_g1, s_g2, s_len1, s_len2, s_len3, s_tup1, s_tup2, s_lst1, s_lst2, s_abs, s_int1, s_int2, s_stri, s_bools, s_sum, s_sort, s_seq1, s_seq2, s_seq3, s_any, s_any1, s_any2, s_any3, s_rng1, s_rng2, s_rng3, s_rng4, s_enum, s_enum1, s_enum2, s_gN, s_gsN, s_gsC, s_gT, s_var, s_var1, s_var2, s_var3, s_var4, s_meth, s_meth1, s_close, s_close1, s_close2, s_close3, s_six, s_six1, s_six2, s_retO, s_retO1, s_retO2, s_peek1, s_peekT1, s_peeks0, s_peeks1, s_wipe0, s_wipe1, s_lf1, s_lf2, s_app, s_ext, s_rem, s_cnt, s_idx, s_spl, s_ty1, s_ty2, s_dSeq, s_dIfS, s_dTest, s_dBin, s_dC, s_gEq, s_dRet, s_dNext, s_dRetN, s_dSet, s_dCons, s_dNil, s_dCB, s_dCall, s_dLc, s_dYes, s_dTup, s_dLst, s_dFor, s_dChain, s_dAndV, s_dOrV, s_dNotV, s_dAnd, s_dOr, s_dNot, s_dIf, s_dRaise, s_dAsg, s_dDrop, s_dMv, s_dIsi, s_dZip, Shp, shp_int, shp_bool, shp_none, PyData.eqv, List.length_cons, List.length_nil, List.replicate, List.cons_append, List.nil_append, List.getElem?_cons_zero, List.getElem?_cons_succ, List.append_nil, List.set_cons_zero, List.set_cons_succ, List.map_cons, List.map_nil, Nat.reduceAdd, Nat.reduceSub, Nat.zero_add, Nat.reduceLT, true_and, and_true, if_true, ite_true, ite_false, Bool.false_eq_true, bne_self_eq_false, Bool.bne_false, Bool.bne_true, Nat.sub_self, Nat.reduceLeDiff, Nat.zero_le, Nat.lt_add_one]
        have : ldO (x :: r) = some 0 := by
          unfold ldO
          rw [List.findIdx?_cons]
          simp [hx]
        have := h1 0 this
        rw [Nat.zero_add] at this
        exact this
  refine key r 0 _ _ _ _ (fun i hi => ?_) (fun hn a b c => ?_)
  · rw [hi] at hq
    exact hq
  · rw [hn] at hq
    simp only [gSub, gMod, gDiv, gPow, gShl, gShr, gAnd, gOr, gXor, gLt, gLe, gGt, gGe, C0, s_asD1, s_asD2, s_asDs0, s_asDs1, s_nrm1, s_nrm2, s_nrm3, s_nrm4, s_nrm5, s_bo, s_ret1, s_ret2, s_add1, s_add2, s_add3, s_add4, s_gI, s_mul1, s_mul2, s_mul3, s_gB, s_in1, s_in2, s_is1, s_is2, s_is3, s_is4, s_is5, s_is6, s_ix1, s_ix2, s_ix3, s_g1, s_g2, s_len1, s_len2, s_len3, s_tup1, s_tup2, s_lst1, s_lst2, s_abs, s_int1, s_int2, s_stri, s_bools, s_sum, s_sort, s_seq1, s_seq2, s_seq3, s_any, s_any1, s_any2, s_any3, s_rng1, s_rng2, s_rng3, s_rng4, s_enum, s_enum1, s_enum2, s_gN, s_gsN, s_gsC, s_gT, s_var, s_var1, s_var2, s_var3, s_var4, s_meth, s_meth1, s_close, s_close1, s_close2, s_close3, s_six, s_six1, s_six2, s_retO, s_retO1, s_retO2, s_peek1, s_peekT1, s_peeks0, s_peeks1, s_wipe0, s_wipe1, s_lf1, s_lf2, s_app, s_ext, s_rem, s_cnt, s_idx, s_spl, s_ty1, s_ty2, s_dSeq, s_dIfS, s_dTest, s_dBin, s_dC, s_gEq, s_dRet, s_dNext, s_dRetN, s_dSet, s_dCons, s_dNil, s_dCB, s_dCall, s_dLc, s_dYes, s_dTup, s_dLst, s_dFor, s_dChain, s_dAndV, s_dOrV, s_dNotV, s_dAnd, s_dOr, s_dNot, s_dIf, s_dRaise, s_dAsg, s_dDrop, s_dMv, s_dIsi, s_dZip, Shp, shp_int, shp_bool, shp_none, PyData.eqv, List.length_cons, List.length_nil, List.replicate, List.cons_append, List.nil_append, List.getElem?_cons_zero, List.getElem?_cons_succ, List.append_nil, List.set_cons_zero, List.set_cons_succ, List.map_cons, List.map_nil, Nat.reduceAdd, Nat.reduceSub, Nat.zero_add, Nat.reduceLT, true_and, and_true, if_true, ite_true, ite_false, Bool.false_eq_true, bne_self_eq_false, Bool.bne_false, Bool.bne_true, Nat.sub_self, Nat.reduceLeDiff, Nat.zero_le, Nat.lt_add_one]
    exact hq
/-! ### shapes -/
def ShN (n : Nat) (d : D) : Prop := PyData.canLay0 d = true ∧ PyData.depth d ≤ n
theorem shN_all {n : Nat} : ∀ {ds : List D}, (∀ d ∈ ds, ShN n d) → PyData.canLayAll0 ds = true ∧ PyData.depthAll ds ≤ n
  | [], _ => ⟨by simp [PyData.canLayAll0], by simp [PyData.depthAll]⟩
  | d :: ds, h => by
    obtain ⟨h1, h2⟩ := h d (by simp)
    obtain ⟨h3, h4⟩ := shN_all (ds := ds) fun e he => h e (List.mem_cons_of_mem _ he)
    exact ⟨by simp [PyData.canLayAll0, h1, h3], by simp only [PyData.depthAll]; omega⟩
theorem shN_int {i : Int} : ShN 0 (.int i) := ⟨by simp [PyData.canLay0], by simp [PyData.depth]⟩
theorem shN_tup {n : Nat} {ds : List D} (h : ∀ d ∈ ds, ShN n d) : ShN (n + 1) (.tuple ds) := by
  obtain ⟨h1, h2⟩ := shN_all h
  exact ⟨by simp only [PyData.canLay0]; exact h1, by simp only [PyData.depth]; omega⟩
theorem shN_lst {n : Nat} {ds : List D} (h : ∀ d ∈ ds, ShN n d) : ShN (n + 1) (.list ds) := by
  obtain ⟨h1, h2⟩ := shN_all h
  exact ⟨by simp only [PyData.canLay0]; exact h1, by simp only [PyData.depth]; omega⟩
theorem ShN.shp {n : Nat} {d : D} (h : ShN n d) (hn : n ≤ 64) : Shp d := by
  show (PyData.canLay0 d && decide (PyData.depth d ≤ 64)) = true
  rw [h.1, decide_eq_true (by have := h.2; omega)]
  rfl
theorem shN_row {r : List Nat} : ShN 1 (eR r) := shN_tup fun d hd => by
  obtain ⟨x, _, rfl⟩ := List.mem_map.mp hd
  exact shN_int
theorem shN_rows {l : List (List Nat)} : ShN 2 (.list (l.map eR)) := shN_lst fun d hd => by
  obtain ⟨x, _, rfl⟩ := List.mem_map.mp hd
  exact shN_row
theorem shN_rowsT {l : List (List Nat)} : ShN 2 (.tuple (l.map eR)) := shN_tup fun d hd => by
  obtain ⟨x, _, rfl⟩ := List.mem_map.mp hd
  exact shN_row
theorem shp_row {r : List Nat} : Shp (eR r) := shN_row.shp (by decide)
theorem shp_rows {l : List (List Nat)} : Shp (.list (l.map eR)) := shN_rows.shp (by decide)
theorem shp_rowsT {l : List (List Nat)} : Shp (.tuple (l.map eR)) := shN_rowsT.shp (by decide)
theorem shp_nil : Shp (.list []) := (shN_lst (n := 0) fun d hd => by cases hd).shp (by decide)
theorem eqv_ints : ∀ r s : List Nat, PyData.eqvAll (r.map eI) (s.map eI) = decide (r = s)
  | [], [] => by simp [PyData.eqvAll]
  | [], _ :: _ => by simp [PyData.eqvAll]
  | _ :: _, [] => by simp [PyData.eqvAll]
  | a :: r, b :: s => by
    simp only [List.map_cons, PyData.eqvAll, eqv_ints r s]
    have e : PyData.eqv (eI a) (eI b) = (a == b) := by unfold eI; simp only [PyData.eqv]; exact beq_nat a b
    rw [e]
    by_cases h : a = b
    · subst h; simp
    · simp [h]
theorem eqv_row (r s : List Nat) : PyData.eqv (eR r) (eR s) = decide (r = s) := by
  unfold eR
  simp only [PyData.eqv]
  exact eqv_ints r s
theorem eqv_rowsA : ∀ l m : List (List Nat), PyData.eqvAll (l.map eR) (m.map eR) = decide (l = m)
  | [], [] => by simp [PyData.eqvAll]
  | [], _ :: _ => by simp [PyData.eqvAll]
  | _ :: _, [] => by simp [PyData.eqvAll]
  | a :: r, b :: s => by
    simp only [List.map_cons, PyData.eqvAll, eqv_rowsA r s, eqv_row]
    by_cases h : a = b
    · subst h; simp
    · simp [h]
theorem eqv_rows (l m : List (List Nat)) : PyData.eqv (.list (l.map eR)) (.list (m.map eR)) = decide (l = m) := by
  simp only [PyData.eqv]
  exact eqv_rowsA l m
theorem eqv_rowsT (l m : List (List Nat)) : PyData.eqv (.tuple (l.map eR)) (.tuple (m.map eR)) = decide (l = m) := by
  simp only [PyData.eqv]
  exact eqv_rowsA l m
theorem lfs_rows : ∀ l : List (List Nat), lfs (l.map eR) = true
  | [] => rfl
  | r :: l => by
    simp only [List.map_cons, lfs, lfs_rows l, Bool.and_true]
    unfold eR
    simp only [lf]
    induction r with
    | nil => rfl
    | cons a r ih => simp only [List.map_cons, lfs, ih, Bool.and_true]; rfl
/-! items -/
theorem atI_nat {α : Type} {xs : List α} {i : Nat} {x : α} (h : xs[i]? = some x) : atI xs (i : Int) = some x := by
  have hi := (List.getElem?_eq_some_iff.mp h).1
  unfold atI ixN
  rw [if_pos (by omega), if_pos (by omega)]
  simpa using h
theorem at_row {r : List Nat} {i : Nat} (h : i < r.length) : atI (r.map eI) (i : Int) = some (eI (r.getD i 0)) := by
  refine atI_nat ?_
  rw [List.getElem?_map, List.getElem?_eq_getElem h]
  simp [h]
theorem getD_lt {q n i : Nat} {r : List Nat} (h : Rw q n r) (hi : i < n) : r.getD i 0 < q := by
  have : i < r.length := by rw [h.len]; exact hi
  rw [List.getD_eq_getElem?_getD, List.getElem?_eq_getElem this]
  exact h.lt _ (List.getElem_mem this)
/-! ### the lowest form, as a law tells it -/
abbrev St2 := List (List Nat) × List (List Nat)
def bring (q at_ : Nat) (ld r : List Nat) : List Nat := mo q (sb q 0 (r.getD at_ 0)) r ld
def stepB (q : Nat) (s : St2) (at_ : Nat) : St2 :=
  match s.1.filter (fun r => r.getD at_ 0 != 0) with
  | [] => s
  | p :: _ => ((s.1.erase p).map (bring q at_ (sc q (iv q (p.getD at_ 0)) p)), s.2.map (bring q at_ (sc q (iv q (p.getD at_ 0)) p)) ++ [sc q (iv q (p.getD at_ 0)) p])
def lowB (q n : Nat) (rows : List (List Nat)) : List (List Nat) := ((List.range n).foldl (stepB q) (rows, [])).2
def RwS (q n : Nat) (l : List (List Nat)) : Prop := ∀ r ∈ l, Rw q n r
theorem bring_rw {q n at_ : Nat} {ld r : List Nat} (g : G q) (ha : at_ < n) (h : Rw q n r) (h' : Rw q n ld) : Rw q n (bring q at_ ld r) :=
  mo_rw g (sb_lt g (by have := g.pos; omega) (getD_lt h ha)) h h'
theorem stepB_rw {q n at_ : Nat} {s : St2} (g : G q) (ha : at_ < n) (h1 : RwS q n s.1) (h2 : RwS q n s.2) : RwS q n (stepB q s at_).1 ∧ RwS q n (stepB q s at_).2 := by
  unfold stepB
  split
  · exact ⟨h1, h2⟩
  · rename_i p t e
    have hp : p ∈ s.1.filter (fun r => r.getD at_ 0 != 0) := by rw [e]; simp
    have hpr := h1 p (List.mem_filter.mp hp).1
    have hl := sc_rw g (iv_lt g (getD_lt hpr ha)) hpr
    refine ⟨fun r hr => ?_, fun r hr => ?_⟩
    · obtain ⟨x, hx, rfl⟩ := List.mem_map.mp hr
      exact bring_rw g ha (h1 x (List.mem_of_mem_erase hx)) hl
    · rcases List.mem_append.mp hr with hr | hr
      · obtain ⟨x, hx, rfl⟩ := List.mem_map.mp hr
        exact bring_rw g ha (h2 x hx) hl
      · rw [List.mem_singleton.mp hr]; exact hl
theorem lowB_rw {q n : Nat} {rows : List (List Nat)} (g : G q) (h : RwS q n rows) : RwS q n (lowB q n rows) := by
  unfold lowB
  have key : ∀ (l : List Nat) (s : St2), (∀ a ∈ l, a < n) → RwS q n s.1 → RwS q n s.2 → RwS q n (l.foldl (stepB q) s).2 := by
    intro l
    induction l with
    | nil => intro s _ _ h2; exact h2
    | cons a l ih =>
      intro s ha h1 h2
      obtain ⟨k1, k2⟩ := stepB_rw g (ha a (by simp)) h1 h2
      exact ih _ (fun b hb => ha b (List.mem_cons_of_mem _ hb)) k1 k2
  exact key _ _ (fun a ha => List.mem_range.mp ha) h (fun r hr => by cases hr)
theorem find_row {l : List (List Nat)} {p : List Nat} (h : p ∈ l) : ∃ j, (l.map eR).findIdx? (fun z => PyData.eqv z (eR p)) = some j ∧ (l.map eR).eraseIdx j = (l.erase p).map eR := by
  induction l with
  | nil => cases h
  | cons a l ih =>
    by_cases e : a = p
    · subst e
      refine ⟨0, ?_, ?_⟩
      · rw [List.map_cons, List.findIdx?_cons, eqv_row]; simp
      · simp
    · have hp : p ∈ l := by
        rcases List.mem_cons.mp h with z | z
        · exact absurd z.symm e
        · exact z
      obtain ⟨j, h1, h2⟩ := ih hp
      refine ⟨j + 1, ?_, ?_⟩
      · rw [List.map_cons, List.findIdx?_cons, eqv_row, decide_eq_false e, h1]; rfl
      · rw [List.map_cons, List.eraseIdx_cons_succ, h2, List.erase_cons_tail (by simpa using e)]; rfl
theorem eqvA_nil (l : List (List Nat)) : PyData.eqvAll (l.map eR) [] = decide (l = []) := by
  have := eqv_rowsA l []
  rwa [List.map_nil] at this
theorem p_bring {q n at_ : Nat} {ld r : List Nat} {Γ : Env'} {R : D → Prop} (g : G q) (ha : at_ < n) (h : Rw q n r) (h' : Rw q n ld) (e0 : Γ[0]? = some (.sh (.int q))) (e4 : Γ[4]? = some (.sh (.int (at_ : Nat)))) (e6 : Γ[6]? = some (.sh (eR r))) (e7 : Γ[7]? = some (.sh (eR ld)))
    (hR : R (eR (bring q at_ ld r))) :
    dCall F__law_more (dCons (dVar 0) (dCons (dVar 6) (dCons (dCall F__law_minus (dCons (dVar 0) (dCons (dC (.int 0)) (dCons (dBin gIx (dVar 6) (dVar 4)) dNil)))) (dCons (dVar 7) dNil)))) Γ (fun s => asD s R) (fun _ => False) := by
  have h0 : 0 < q := by have := g.pos; omega
  try simp only [gSub, gMod, gDiv, gPow, gShl, gShr, gAnd, gOr, gXor, gLt, gLe, gGt, gGe, C0, s_asD1, s_asD2, s_asDs0, s_asDs1, s_nrm1, s_nrm2, s_nrm3, s_nrm4, s_nrm5, s_bo, s_ret1, s_ret2, s_add1, s_add2, s_add3, s_add4, s_gI, s_mul1, s_mul2, s_mul3, s_gB, s_in1, s_in2, s_is1, s_is2, s_is3, s_is4, s_is5, s_is6, s_ix1, s_ix2, s_ix3, s_g1, s_g2, s_len1, s_len2, s_len3, s_tup1, s_tup2, s_lst1, s_lst2, s_abs, s_int1, s_int2, s_stri, s_bools, s_sum, s_sort, s_seq1, s_seq2, s_seq3, s_any, s_any1, s_any2, s_any3, s_rng1, s_rng2, s_rng3, s_rng4, s_enum, s_enum1, s_enum2, s_gN, s_gsN, s_gsC, s_gT, s_var, s_var1, s_var2, s_var3, s_var4, s_meth, s_meth1, s_close, s_close1, s_close2, s_close3, s_six, s_six1, s_six2, s_retO, s_retO1, s_retO2, s_peek1, s_peekT1, s_peeks0, s_peeks1, s_wipe0, s_wipe1, s_lf1, s_lf2, s_app, s_ext, s_rem, s_cnt, s_idx, s_spl, s_ty1, s_ty2, s_dSeq, s_dIfS, s_dTest, s_dBin, s_dC, s_gEq, s_dRet, s_dNext, s_dRetN, s_dSet, s_dCons, s_dNil, s_dCB, s_dCall, s_dLc, s_dYes, s_dTup, s_dLst, s_dFor, s_dChain, s_dAndV, s_dOrV, s_dNotV, s_dAnd, s_dOr, s_dNot, s_dIf, s_dRaise, s_dAsg, s_dDrop, s_dMv, s_dIsi, s_dZip, Shp, shp_int, shp_bool, shp_none, PyData.eqv, List.length_cons, List.length_nil, List.replicate, List.cons_append, List.nil_append, List.getElem?_cons_zero, List.getElem?_cons_succ, List.append_nil, List.set_cons_zero, List.set_cons_succ, List.map_cons, List.map_nil, Nat.reduceAdd, Nat.reduceSub, Nat.zero_add, Nat.reduceLT, true_and, and_true, if_true, ite_true, ite_false, Bool.false_eq_true, bne_self_eq_false, Bool.bne_false, Bool.bne_true, Nat.sub_self, Nat.reduceLeDiff, Nat.zero_le, Nat.lt_add_one, e0, e4, e6, e7, eR]
  refine ⟨_, at_row (by rw [h.len]; exact ha), ?_⟩
  try simp only [gSub, gMod, gDiv, gPow, gShl, gShr, gAnd, gOr, gXor, gLt, gLe, gGt, gGe, C0, s_asD1, s_asD2, s_asDs0, s_asDs1, s_nrm1, s_nrm2, s_nrm3, s_nrm4, s_nrm5, s_bo, s_ret1, s_ret2, s_add1, s_add2, s_add3, s_add4, s_gI, s_mul1, s_mul2, s_mul3, s_gB, s_in1, s_in2, s_is1, s_is2, s_is3, s_is4, s_is5, s_is6, s_ix1, s_ix2, s_ix3, s_g1, s_g2, s_len1, s_len2, s_len3, s_tup1, s_tup2, s_lst1, s_lst2, s_abs, s_int1, s_int2, s_stri, s_bools, s_sum, s_sort, s_seq1, s_seq2, s_seq3, s_any, s_any1, s_any2, s_any3, s_rng1, s_rng2, s_rng3, s_rng4, s_enum, s_enum1, s_enum2, s_gN, s_gsN, s_gsC, s_gT, s_var, s_var1, s_var2, s_var3, s_var4, s_meth, s_meth1, s_close, s_close1, s_close2, s_close3, s_six, s_six1, s_six2, s_retO, s_retO1, s_retO2, s_peek1, s_peekT1, s_peeks0, s_peeks1, s_wipe0, s_wipe1, s_lf1, s_lf2, s_app, s_ext, s_rem, s_cnt, s_idx, s_spl, s_ty1, s_ty2, s_dSeq, s_dIfS, s_dTest, s_dBin, s_dC, s_gEq, s_dRet, s_dNext, s_dRetN, s_dSet, s_dCons, s_dNil, s_dCB, s_dCall, s_dLc, s_dYes, s_dTup, s_dLst, s_dFor, s_dChain, s_dAndV, s_dOrV, s_dNotV, s_dAnd, s_dOr, s_dNot, s_dIf, s_dRaise, s_dAsg, s_dDrop, s_dMv, s_dIsi, s_dZip, Shp, shp_int, shp_bool, shp_none, PyData.eqv, List.length_cons, List.length_nil, List.replicate, List.cons_append, List.nil_append, List.getElem?_cons_zero, List.getElem?_cons_succ, List.append_nil, List.set_cons_zero, List.set_cons_succ, List.map_cons, List.map_nil, Nat.reduceAdd, Nat.reduceSub, Nat.zero_add, Nat.reduceLT, true_and, and_true, if_true, ite_true, ite_false, Bool.false_eq_true, bne_self_eq_false, Bool.bne_false, Bool.bne_true, Nat.sub_self, Nat.reduceLeDiff, Nat.zero_le, Nat.lt_add_one, eI]
  have z : (PyData.int 0) = PyData.int ((0 : Nat) : Int) := rfl
  rw [z]
  refine p_minus g h0 (getD_lt h ha) ?_
  try simp only [gSub, gMod, gDiv, gPow, gShl, gShr, gAnd, gOr, gXor, gLt, gLe, gGt, gGe, C0, s_asD1, s_asD2, s_asDs0, s_asDs1, s_nrm1, s_nrm2, s_nrm3, s_nrm4, s_nrm5, s_bo, s_ret1, s_ret2, s_add1, s_add2, s_add3, s_add4, s_gI, s_mul1, s_mul2, s_mul3, s_gB, s_in1, s_in2, s_is1, s_is2, s_is3, s_is4, s_is5, s_is6, s_ix1, s_ix2, s_ix3, s_g1, s_g2, s_len1, s_len2, s_len3, s_tup1, s_tup2, s_lst1, s_lst2, s_abs, s_int1, s_int2, s_stri, s_bools, s_sum, s_sort, s_seq1, s_seq2, s_seq3, s_any, s_any1, s_any2, s_any3, s_rng1, s_rng2, s_rng3, s_rng4, s_enum, s_enum1, s_enum2, s_gN, s_gsN, s_gsC, s_gT, s_var, s_var1, s_var2, s_var3, s_var4, s_meth, s_meth1, s_close, s_close1, s_close2, s_close3, s_six, s_six1, s_six2, s_retO, s_retO1, s_retO2, s_peek1, s_peekT1, s_peeks0, s_peeks1, s_wipe0, s_wipe1, s_lf1, s_lf2, s_app, s_ext, s_rem, s_cnt, s_idx, s_spl, s_ty1, s_ty2, s_dSeq, s_dIfS, s_dTest, s_dBin, s_dC, s_gEq, s_dRet, s_dNext, s_dRetN, s_dSet, s_dCons, s_dNil, s_dCB, s_dCall, s_dLc, s_dYes, s_dTup, s_dLst, s_dFor, s_dChain, s_dAndV, s_dOrV, s_dNotV, s_dAnd, s_dOr, s_dNot, s_dIf, s_dRaise, s_dAsg, s_dDrop, s_dMv, s_dIsi, s_dZip, Shp, shp_int, shp_bool, shp_none, PyData.eqv, List.length_cons, List.length_nil, List.replicate, List.cons_append, List.nil_append, List.getElem?_cons_zero, List.getElem?_cons_succ, List.append_nil, List.set_cons_zero, List.set_cons_succ, List.map_cons, List.map_nil, Nat.reduceAdd, Nat.reduceSub, Nat.zero_add, Nat.reduceLT, true_and, and_true, if_true, ite_true, ite_false, Bool.false_eq_true, bne_self_eq_false, Bool.bne_false, Bool.bne_true, Nat.sub_self, Nat.reduceLeDiff, Nat.zero_le, Nat.lt_add_one]
  exact p_more g (sb_lt g h0 (getD_lt h ha)) h h' hR
theorem p_lowB {q n : Nat} {rows : List (List Nat)} {Q : SK} {E : EK} (g : G q) (h : RwS q n rows) (hne : rows ≠ []) (hl : rows.length ≤ 1000) (hn : n ≤ 1000) (hq : Q (.own ((lowB q n rows).map eR))) :
    F__law_lowest [.sh (.int q), .sh (.list (rows.map eR))] Q E := by
  have h0 : 0 < q := by have := g.pos; omega
  unfold F__law_lowest mkF den__law_lowest
  try simp only [gSub, gMod, gDiv, gPow, gShl, gShr, gAnd, gOr, gXor, gLt, gLe, gGt, gGe, C0, s_asD1, s_asD2, s_asDs0, s_asDs1, s_nrm1, s_nrm2, s_nrm3, s_nrm4, s_nrm5, s_bo, s_ret1, s_ret2, s_add1, s_add2, s_add3, s_add4, s_gI, s_mul1, s_mul2, s_mul3, s_gB, s_in1, s_in2, s_is1, s_is2, s_is3, s_is4, s_is5, s_is6, s_ix1, s_ix2, s_ix3, s_g1, s_g2, s_len1, s_len2, s_len3, s_tup1, s_tup2, s_lst1, s_lst2, s_abs, s_int1, s_int2, s_stri, s_bools, s_sum, s_sort, s_seq1, s_seq2, s_seq3, s_any, s_any1, s_any2, s_any3, s_rng1, s_rng2, s_rng3, s_rng4, s_enum, s_enum1, s_enum2, s_gN, s_gsN, s_gsC, s_gT, s_var, s_var1, s_var2, s_var3, s_var4, s_meth, s_meth1, s_close, s_close1, s_close2, s_close3, s_six, s_six1, s_six2, s_retO, s_retO1, s_retO2, s_peek1, s_peekT1, s_peeks0, s_peeks1, s_wipe0, s_wipe1, s_lf1, s_lf2, s_app, s_ext, s_rem, s_cnt, s_idx, s_spl, s_ty1, s_ty2, s_dSeq, s_dIfS, s_dTest, s_dBin, s_dC, s_gEq, s_dRet, s_dNext, s_dRetN, s_dSet, s_dCons, s_dNil, s_dCB, s_dCall, s_dLc, s_dYes, s_dTup, s_dLst, s_dFor, s_dChain, s_dAndV, s_dOrV, s_dNotV, s_dAnd, s_dOr, s_dNot, s_dIf, s_dRaise, s_dAsg, s_dDrop, s_dMv, s_dIsi, s_dZip, Shp, shp_int, shp_bool, shp_none, PyData.eqv, List.length_cons, List.length_nil, List.replicate, List.cons_append, List.nil_append, List.getElem?_cons_zero, List.getElem?_cons_succ, List.append_nil, List.set_cons_zero, List.set_cons_succ, List.map_cons, List.map_nil, Nat.reduceAdd, Nat.reduceSub, Nat.zero_add, Nat.reduceLT, true_and, and_true, if_true, ite_true, ite_false, Bool.false_eq_true, bne_self_eq_false, Bool.bne_false, Bool.bne_true, Nat.sub_self, Nat.reduceLeDiff, Nat.zero_le, Nat.lt_add_one]
  refine lc_map eR eR rows (fun x hx R hR => ?_) ?_
  · try simp only [gSub, gMod, gDiv, gPow, gShl, gShr, gAnd, gOr, gXor, gLt, gLe, gGt, gGe, C0, s_asD1, s_asD2, s_asDs0, s_asDs1, s_nrm1, s_nrm2, s_nrm3, s_nrm4, s_nrm5, s_bo, s_ret1, s_ret2, s_add1, s_add2, s_add3, s_add4, s_gI, s_mul1, s_mul2, s_mul3, s_gB, s_in1, s_in2, s_is1, s_is2, s_is3, s_is4, s_is5, s_is6, s_ix1, s_ix2, s_ix3, s_g1, s_g2, s_len1, s_len2, s_len3, s_tup1, s_tup2, s_lst1, s_lst2, s_abs, s_int1, s_int2, s_stri, s_bools, s_sum, s_sort, s_seq1, s_seq2, s_seq3, s_any, s_any1, s_any2, s_any3, s_rng1, s_rng2, s_rng3, s_rng4, s_enum, s_enum1, s_enum2, s_gN, s_gsN, s_gsC, s_gT, s_var, s_var1, s_var2, s_var3, s_var4, s_meth, s_meth1, s_close, s_close1, s_close2, s_close3, s_six, s_six1, s_six2, s_retO, s_retO1, s_retO2, s_peek1, s_peekT1, s_peeks0, s_peeks1, s_wipe0, s_wipe1, s_lf1, s_lf2, s_app, s_ext, s_rem, s_cnt, s_idx, s_spl, s_ty1, s_ty2, s_dSeq, s_dIfS, s_dTest, s_dBin, s_dC, s_gEq, s_dRet, s_dNext, s_dRetN, s_dSet, s_dCons, s_dNil, s_dCB, s_dCall, s_dLc, s_dYes, s_dTup, s_dLst, s_dFor, s_dChain, s_dAndV, s_dOrV, s_dNotV, s_dAnd, s_dOr, s_dNot, s_dIf, s_dRaise, s_dAsg, s_dDrop, s_dMv, s_dIsi, s_dZip, Shp, shp_int, shp_bool, shp_none, PyData.eqv, List.length_cons, List.length_nil, List.replicate, List.cons_append, List.nil_append, List.getElem?_cons_zero, List.getElem?_cons_succ, List.append_nil, List.set_cons_zero, List.set_cons_succ, List.map_cons, List.map_nil, Nat.reduceAdd, Nat.reduceSub, Nat.zero_add, Nat.reduceLT, true_and, and_true, if_true, ite_true, ite_false, Bool.false_eq_true, bne_self_eq_false, Bool.bne_false, Bool.bne_true, Nat.sub_self, Nat.reduceLeDiff, Nat.zero_le, Nat.lt_add_one, eR]
    exact hR
  try simp only [gSub, gMod, gDiv, gPow, gShl, gShr, gAnd, gOr, gXor, gLt, gLe, gGt, gGe, C0, s_asD1, s_asD2, s_asDs0, s_asDs1, s_nrm1, s_nrm2, s_nrm3, s_nrm4, s_nrm5, s_bo, s_ret1, s_ret2, s_add1, s_add2, s_add3, s_add4, s_gI, s_mul1, s_mul2, s_mul3, s_gB, s_in1, s_in2, s_is1, s_is2, s_is3, s_is4, s_is5, s_is6, s_ix1, s_ix2, s_ix3, s_g1, s_g2, s_len1, s_len2, s_len3, s_tup1, s_tup2, s_lst1, s_lst2, s_abs, s_int1, s_int2, s_stri, s_bools, s_sum, s_sort, s_seq1, s_seq2, s_seq3, s_any, s_any1, s_any2, s_any3, s_rng1, s_rng2, s_rng3, s_rng4, s_enum, s_enum1, s_enum2, s_gN, s_gsN, s_gsC, s_gT, s_var, s_var1, s_var2, s_var3, s_var4, s_meth, s_meth1, s_close, s_close1, s_close2, s_close3, s_six, s_six1, s_six2, s_retO, s_retO1, s_retO2, s_peek1, s_peekT1, s_peeks0, s_peeks1, s_wipe0, s_wipe1, s_lf1, s_lf2, s_app, s_ext, s_rem, s_cnt, s_idx, s_spl, s_ty1, s_ty2, s_dSeq, s_dIfS, s_dTest, s_dBin, s_dC, s_gEq, s_dRet, s_dNext, s_dRetN, s_dSet, s_dCons, s_dNil, s_dCB, s_dCall, s_dLc, s_dYes, s_dTup, s_dLst, s_dFor, s_dChain, s_dAndV, s_dOrV, s_dNotV, s_dAnd, s_dOr, s_dNot, s_dIf, s_dRaise, s_dAsg, s_dDrop, s_dMv, s_dIsi, s_dZip, Shp, shp_int, shp_bool, shp_none, PyData.eqv, List.length_cons, List.length_nil, List.replicate, List.cons_append, List.nil_append, List.getElem?_cons_zero, List.getElem?_cons_succ, List.append_nil, List.set_cons_zero, List.set_cons_succ, List.map_cons, List.map_nil, Nat.reduceAdd, Nat.reduceSub, Nat.zero_add, Nat.reduceLT, true_and, and_true, if_true, ite_true, ite_false, Bool.false_eq_true, bne_self_eq_false, Bool.bne_false, Bool.bne_true, Nat.sub_self, Nat.reduceLeDiff, Nat.zero_le, Nat.lt_add_one]
  refine ⟨shp_rows, shp_nil, ?_⟩
  simp only [eqvA_nil, decide_eq_false hne, Bool.not_false, gSub, gMod, gDiv, gPow, gShl, gShr, gAnd, gOr, gXor, gLt, gLe, gGt, gGe, C0, s_asD1, s_asD2, s_asDs0, s_asDs1, s_nrm1, s_nrm2, s_nrm3, s_nrm4, s_nrm5, s_bo, s_ret1, s_ret2, s_add1, s_add2, s_add3, s_add4, s_gI, s_mul1, s_mul2, s_mul3, s_gB, s_in1, s_in2, s_is1, s_is2, s_is3, s_is4, s_is5, s_is6, s_ix1, s_ix2, s_ix3, s_g1, s_g2, s_len1, s_len2, s_len3, s_tup1, s_tup2, s_lst1, s_lst2, s_abs, s_int1, s_int2, s_stri, s_bools, s_sum, s_sort, s_seq1, s_seq2, s_seq3, s_any, s_any1, s_any2, s_any3, s_rng1, s_rng2, s_rng3, s_rng4, s_enum, s_enum1, s_enum2, s_gN, s_gsN, s_gsC, s_gT, s_var, s_var1, s_var2, s_var3, s_var4, s_meth, s_meth1, s_close, s_close1, s_close2, s_close3, s_six, s_six1, s_six2, s_retO, s_retO1, s_retO2, s_peek1, s_peekT1, s_peeks0, s_peeks1, s_wipe0, s_wipe1, s_lf1, s_lf2, s_app, s_ext, s_rem, s_cnt, s_idx, s_spl, s_ty1, s_ty2, s_dSeq, s_dIfS, s_dTest, s_dBin, s_dC, s_gEq, s_dRet, s_dNext, s_dRetN, s_dSet, s_dCons, s_dNil, s_dCB, s_dCall, s_dLc, s_dYes, s_dTup, s_dLst, s_dFor, s_dChain, s_dAndV, s_dOrV, s_dNotV, s_dAnd, s_dOr, s_dNot, s_dIf, s_dRaise, s_dAsg, s_dDrop, s_dMv, s_dIsi, s_dZip, Shp, shp_int, shp_bool, shp_none, PyData.eqv, List.length_cons, List.length_nil, List.replicate, List.cons_append, List.nil_append, List.getElem?_cons_zero, List.getElem?_cons_succ, List.append_nil, List.set_cons_zero, List.set_cons_succ, List.map_cons, List.map_nil, Nat.reduceAdd, Nat.reduceSub, Nat.zero_add, Nat.reduceLT, true_and, and_true, if_true, ite_true, ite_false, Bool.false_eq_true, bne_self_eq_false, Bool.bne_false, Bool.bne_true, Nat.sub_self, Nat.reduceLeDiff, Nat.zero_le, Nat.lt_add_one]
  obtain ⟨r0, rt, er⟩ : ∃ r0 rt, rows = r0 :: rt := by
    cases rows with
    | nil => exact absurd rfl hne
    | cons a b => exact ⟨a, b, rfl⟩
  refine ⟨eR r0, by rw [er, List.map_cons]; exact at0 _ _, ?_⟩
  have hlen0 : (r0.map eI).length = n := by rw [List.length_map]; exact (h r0 (by rw [er]; simp)).len
  try simp only [gSub, gMod, gDiv, gPow, gShl, gShr, gAnd, gOr, gXor, gLt, gLe, gGt, gGe, C0, s_asD1, s_asD2, s_asDs0, s_asDs1, s_nrm1, s_nrm2, s_nrm3, s_nrm4, s_nrm5, s_bo, s_ret1, s_ret2, s_add1, s_add2, s_add3, s_add4, s_gI, s_mul1, s_mul2, s_mul3, s_gB, s_in1, s_in2, s_is1, s_is2, s_is3, s_is4, s_is5, s_is6, s_ix1, s_ix2, s_ix3, s_g1, s_g2, s_len1, s_len2, s_len3, s_tup1, s_tup2, s_lst1, s_lst2, s_abs, s_int1, s_int2, s_stri, s_bools, s_sum, s_sort, s_seq1, s_seq2, s_seq3, s_any, s_any1, s_any2, s_any3, s_rng1, s_rng2, s_rng3, s_rng4, s_enum, s_enum1, s_enum2, s_gN, s_gsN, s_gsC, s_gT, s_var, s_var1, s_var2, s_var3, s_var4, s_meth, s_meth1, s_close, s_close1, s_close2, s_close3, s_six, s_six1, s_six2, s_retO, s_retO1, s_retO2, s_peek1, s_peekT1, s_peeks0, s_peeks1, s_wipe0, s_wipe1, s_lf1, s_lf2, s_app, s_ext, s_rem, s_cnt, s_idx, s_spl, s_ty1, s_ty2, s_dSeq, s_dIfS, s_dTest, s_dBin, s_dC, s_gEq, s_dRet, s_dNext, s_dRetN, s_dSet, s_dCons, s_dNil, s_dCB, s_dCall, s_dLc, s_dYes, s_dTup, s_dLst, s_dFor, s_dChain, s_dAndV, s_dOrV, s_dNotV, s_dAnd, s_dOr, s_dNot, s_dIf, s_dRaise, s_dAsg, s_dDrop, s_dMv, s_dIsi, s_dZip, Shp, shp_int, shp_bool, shp_none, PyData.eqv, List.length_cons, List.length_nil, List.replicate, List.cons_append, List.nil_append, List.getElem?_cons_zero, List.getElem?_cons_succ, List.append_nil, List.set_cons_zero, List.set_cons_succ, List.map_cons, List.map_nil, Nat.reduceAdd, Nat.reduceSub, Nat.zero_add, Nat.reduceLT, true_and, and_true, if_true, ite_true, ite_false, Bool.false_eq_true, bne_self_eq_false, Bool.bne_false, Bool.bne_true, Nat.sub_self, Nat.reduceLeDiff, Nat.zero_le, Nat.lt_add_one, eR, hlen0]
  refine ⟨by omega, ?_⟩
  rw [Int.toNat_natCast]
  unfold rngs
  refine for_st (β := St2) (fun i : Nat => PyData.int (0 + (i : Int))) (fun s Γ => (∃ a4 a5 a6 a7, Γ = [.sh (.int q), .sh (.list (rows.map eR)), .own (s.1.map eR), .own (s.2.map eR), a4, a5, a6, a7]) ∧ RwS q n s.1 ∧ RwS q n s.2 ∧ s.1.length + s.2.length ≤ 1000)
    (stepB q) (List.range n) (rows, []) _ (fun s x Γ hx hP N hN => ?_) ⟨⟨_, _, _, _, rfl⟩, h, (fun r hr => by cases hr), by simpa using hl⟩ fun Γ' hP => ?_
  · obtain ⟨⟨a4, a5, a6, a7, rfl⟩, h1, h2, h3⟩ := hP
    have hx' := List.mem_range.mp hx
    try simp only [gSub, gMod, gDiv, gPow, gShl, gShr, gAnd, gOr, gXor, gLt, gLe, gGt, gGe, C0, s_asD1, s_asD2, s_asDs0, s_asDs1, s_nrm1, s_nrm2, s_nrm3, s_nrm4, s_nrm5, s_bo, s_ret1, s_ret2, s_add1, s_add2, s_add3, s_add4, s_gI, s_mul1, s_mul2, s_mul3, s_gB, s_in1, s_in2, s_is1, s_is2, s_is3, s_is4, s_is5, s_is6, s_ix1, s_ix2, s_ix3, s_g1, s_g2, s_len1, s_len2, s_len3, s_tup1, s_tup2, s_lst1, s_lst2, s_abs, s_int1, s_int2, s_stri, s_bools, s_sum, s_sort, s_seq1, s_seq2, s_seq3, s_any, s_any1, s_any2, s_any3, s_rng1, s_rng2, s_rng3, s_rng4, s_enum, s_enum1, s_enum2, s_gN, s_gsN, s_gsC, s_gT, s_var, s_var1, s_var2, s_var3, s_var4, s_meth, s_meth1, s_close, s_close1, s_close2, s_close3, s_six, s_six1, s_six2, s_retO, s_retO1, s_retO2, s_peek1, s_peekT1, s_peeks0, s_peeks1, s_wipe0, s_wipe1, s_lf1, s_lf2, s_app, s_ext, s_rem, s_cnt, s_idx, s_spl, s_ty1, s_ty2, s_dSeq, s_dIfS, s_dTest, s_dBin, s_dC, s_gEq, s_dRet, s_dNext, s_dRetN, s_dSet, s_dCons, s_dNil, s_dCB, s_dCall, s_dLc, s_dYes, s_dTup, s_dLst, s_dFor, s_dChain, s_dAndV, s_dOrV, s_dNotV, s_dAnd, s_dOr, s_dNot, s_dIf, s_dRaise, s_dAsg, s_dDrop, s_dMv, s_dIsi, s_dZip, Shp, shp_int, shp_bool, shp_none, PyData.eqv, List.length_cons, List.length_nil, List.replicate, List.cons_append, List.nil_append, List.getElem?_cons_zero, List.getElem?_cons_succ, List.append_nil, List.set_cons_zero, List.set_cons_succ, List.map_cons, List.map_nil, Nat.reduceAdd, Nat.reduceSub, Nat.zero_add, Nat.reduceLT, true_and, and_true, if_true, ite_true, ite_false, Bool.false_eq_true, bne_self_eq_false, Bool.bne_false, Bool.bne_true, Nat.sub_self, Nat.reduceLeDiff, Nat.zero_le, Nat.lt_add_one, Int.zero_add]
    refine lc_fm eR (fun r => r.getD x 0 != 0) eR s.1 [] (fun r hr R N' hR => ?_) ?_
    · try simp only [gSub, gMod, gDiv, gPow, gShl, gShr, gAnd, gOr, gXor, gLt, gLe, gGt, gGe, C0, s_asD1, s_asD2, s_asDs0, s_asDs1, s_nrm1, s_nrm2, s_nrm3, s_nrm4, s_nrm5, s_bo, s_ret1, s_ret2, s_add1, s_add2, s_add3, s_add4, s_gI, s_mul1, s_mul2, s_mul3, s_gB, s_in1, s_in2, s_is1, s_is2, s_is3, s_is4, s_is5, s_is6, s_ix1, s_ix2, s_ix3, s_g1, s_g2, s_len1, s_len2, s_len3, s_tup1, s_tup2, s_lst1, s_lst2, s_abs, s_int1, s_int2, s_stri, s_bools, s_sum, s_sort, s_seq1, s_seq2, s_seq3, s_any, s_any1, s_any2, s_any3, s_rng1, s_rng2, s_rng3, s_rng4, s_enum, s_enum1, s_enum2, s_gN, s_gsN, s_gsC, s_gT, s_var, s_var1, s_var2, s_var3, s_var4, s_meth, s_meth1, s_close, s_close1, s_close2, s_close3, s_six, s_six1, s_six2, s_retO, s_retO1, s_retO2, s_peek1, s_peekT1, s_peeks0, s_peeks1, s_wipe0, s_wipe1, s_lf1, s_lf2, s_app, s_ext, s_rem, s_cnt, s_idx, s_spl, s_ty1, s_ty2, s_dSeq, s_dIfS, s_dTest, s_dBin, s_dC, s_gEq, s_dRet, s_dNext, s_dRetN, s_dSet, s_dCons, s_dNil, s_dCB, s_dCall, s_dLc, s_dYes, s_dTup, s_dLst, s_dFor, s_dChain, s_dAndV, s_dOrV, s_dNotV, s_dAnd, s_dOr, s_dNot, s_dIf, s_dRaise, s_dAsg, s_dDrop, s_dMv, s_dIsi, s_dZip, Shp, shp_int, shp_bool, shp_none, PyData.eqv, List.length_cons, List.length_nil, List.replicate, List.cons_append, List.nil_append, List.getElem?_cons_zero, List.getElem?_cons_succ, List.append_nil, List.set_cons_zero, List.set_cons_succ, List.map_cons, List.map_nil, Nat.reduceAdd, Nat.reduceSub, Nat.zero_add, Nat.reduceLT, true_and, and_true, if_true, ite_true, ite_false, Bool.false_eq_true, bne_self_eq_false, Bool.bne_false, Bool.bne_true, Nat.sub_self, Nat.reduceLeDiff, Nat.zero_le, Nat.lt_add_one, eR]
      refine ⟨_, at_row (by rw [(h1 r hr).len]; exact hx'), ?_⟩
      try simp only [gSub, gMod, gDiv, gPow, gShl, gShr, gAnd, gOr, gXor, gLt, gLe, gGt, gGe, C0, s_asD1, s_asD2, s_asDs0, s_asDs1, s_nrm1, s_nrm2, s_nrm3, s_nrm4, s_nrm5, s_bo, s_ret1, s_ret2, s_add1, s_add2, s_add3, s_add4, s_gI, s_mul1, s_mul2, s_mul3, s_gB, s_in1, s_in2, s_is1, s_is2, s_is3, s_is4, s_is5, s_is6, s_ix1, s_ix2, s_ix3, s_g1, s_g2, s_len1, s_len2, s_len3, s_tup1, s_tup2, s_lst1, s_lst2, s_abs, s_int1, s_int2, s_stri, s_bools, s_sum, s_sort, s_seq1, s_seq2, s_seq3, s_any, s_any1, s_any2, s_any3, s_rng1, s_rng2, s_rng3, s_rng4, s_enum, s_enum1, s_enum2, s_gN, s_gsN, s_gsC, s_gT, s_var, s_var1, s_var2, s_var3, s_var4, s_meth, s_meth1, s_close, s_close1, s_close2, s_close3, s_six, s_six1, s_six2, s_retO, s_retO1, s_retO2, s_peek1, s_peekT1, s_peeks0, s_peeks1, s_wipe0, s_wipe1, s_lf1, s_lf2, s_app, s_ext, s_rem, s_cnt, s_idx, s_spl, s_ty1, s_ty2, s_dSeq, s_dIfS, s_dTest, s_dBin, s_dC, s_gEq, s_dRet, s_dNext, s_dRetN, s_dSet, s_dCons, s_dNil, s_dCB, s_dCall, s_dLc, s_dYes, s_dTup, s_dLst, s_dFor, s_dChain, s_dAndV, s_dOrV, s_dNotV, s_dAnd, s_dOr, s_dNot, s_dIf, s_dRaise, s_dAsg, s_dDrop, s_dMv, s_dIsi, s_dZip, Shp, shp_int, shp_bool, shp_none, PyData.eqv, List.length_cons, List.length_nil, List.replicate, List.cons_append, List.nil_append, List.getElem?_cons_zero, List.getElem?_cons_succ, List.append_nil, List.set_cons_zero, List.set_cons_succ, List.map_cons, List.map_nil, Nat.reduceAdd, Nat.reduceSub, Nat.zero_add, Nat.reduceLT, true_and, and_true, if_true, ite_true, ite_false, Bool.false_eq_true, bne_self_eq_false, Bool.bne_false, Bool.bne_true, Nat.sub_self, Nat.reduceLeDiff, Nat.zero_le, Nat.lt_add_one, eI]
      have e2 : (((r.getD x 0 : Nat) : Int) == 0) = (r.getD x 0 == 0) := beq_nat _ 0
      simp only [e2]
      exact hR
    simp only [List.nil_append]
    refine ⟨lfs_rows _, ?_⟩
    try simp only [gSub, gMod, gDiv, gPow, gShl, gShr, gAnd, gOr, gXor, gLt, gLe, gGt, gGe, C0, s_asD1, s_asD2, s_asDs0, s_asDs1, s_nrm1, s_nrm2, s_nrm3, s_nrm4, s_nrm5, s_bo, s_ret1, s_ret2, s_add1, s_add2, s_add3, s_add4, s_gI, s_mul1, s_mul2, s_mul3, s_gB, s_in1, s_in2, s_is1, s_is2, s_is3, s_is4, s_is5, s_is6, s_ix1, s_ix2, s_ix3, s_g1, s_g2, s_len1, s_len2, s_len3, s_tup1, s_tup2, s_lst1, s_lst2, s_abs, s_int1, s_int2, s_stri, s_bools, s_sum, s_sort, s_seq1, s_seq2, s_seq3, s_any, s_any1, s_any2, s_any3, s_rng1, s_rng2, s_rng3, s_rng4, s_enum, s_enum1, s_enum2, s_gN, s_gsN, s_gsC, s_gT, s_var, s_var1, s_var2, s_var3, s_var4, s_meth, s_meth1, s_close, s_close1, s_close2, s_close3, s_six, s_six1, s_six2, s_retO, s_retO1, s_retO2, s_peek1, s_peekT1, s_peeks0, s_peeks1, s_wipe0, s_wipe1, s_lf1, s_lf2, s_app, s_ext, s_rem, s_cnt, s_idx, s_spl, s_ty1, s_ty2, s_dSeq, s_dIfS, s_dTest, s_dBin, s_dC, s_gEq, s_dRet, s_dNext, s_dRetN, s_dSet, s_dCons, s_dNil, s_dCB, s_dCall, s_dLc, s_dYes, s_dTup, s_dLst, s_dFor, s_dChain, s_dAndV, s_dOrV, s_dNotV, s_dAnd, s_dOr, s_dNot, s_dIf, s_dRaise, s_dAsg, s_dDrop, s_dMv, s_dIsi, s_dZip, Shp, shp_int, shp_bool, shp_none, PyData.eqv, List.length_cons, List.length_nil, List.replicate, List.cons_append, List.nil_append, List.getElem?_cons_zero, List.getElem?_cons_succ, List.append_nil, List.set_cons_zero, List.set_cons_succ, List.map_cons, List.map_nil, Nat.reduceAdd, Nat.reduceSub, Nat.zero_add, Nat.reduceLT, true_and, and_true, if_true, ite_true, ite_false, Bool.false_eq_true, bne_self_eq_false, Bool.bne_false, Bool.bne_true, Nat.sub_self, Nat.reduceLeDiff, Nat.zero_le, Nat.lt_add_one]
    refine ⟨shp_rows, shp_nil, ?_⟩
    simp only [eqvA_nil]
    cases ef : s.1.filter (fun r => r.getD x 0 != 0) with
    | nil =>
      simp only [decide_true, gSub, gMod, gDiv, gPow, gShl, gShr, gAnd, gOr, gXor, gLt, gLe, gGt, gGe, C0, s_asD1, s_asD2, s_asDs0, s_asDs1, s_nrm1, s_nrm2, s_nrm3, s_nrm4, s_nrm5, s_bo, s_ret1, s_ret2, s_add1, s_add2, s_add3, s_add4, s_gI, s_mul1, s_mul2, s_mul3, s_gB, s_in1, s_in2, s_is1, s_is2, s_is3, s_is4, s_is5, s_is6, s_ix1, s_ix2, s_ix3, s_g1, s_g2, s_len1, s_len2, s_len3, s_tup1, s_tup2, s_lst1, s_lst2, s_abs, s_int1, s_int2, s_stri, s_bools, s_sum, s_sort, s_seq1, s_seq2, s_seq3, s_any, s_any1, s_any2, s_any3, s_rng1, s_rng2, s_rng3, s_rng4, s_enum, s_enum1, s_enum2, s_gN, s_gsN, s_gsC, s_gT, s_var, s_var1, s_var2, s_var3, s_var4, s_meth, s_meth1, s_close, s_close1, s_close2, s_close3, s_six, s_six1, s_six2, s_retO, s_retO1, s_retO2, s_peek1, s_peekT1, s_peeks0, s_peeks1, s_wipe0, s_wipe1, s_lf1, s_lf2, s_app, s_ext, s_rem, s_cnt, s_idx, s_spl, s_ty1, s_ty2, s_dSeq, s_dIfS, s_dTest, s_dBin, s_dC, s_gEq, s_dRet, s_dNext, s_dRetN, s_dSet, s_dCons, s_dNil, s_dCB, s_dCall, s_dLc, s_dYes, s_dTup, s_dLst, s_dFor, s_dChain, s_dAndV, s_dOrV, s_dNotV, s_dAnd, s_dOr, s_dNot, s_dIf, s_dRaise, s_dAsg, s_dDrop, s_dMv, s_dIsi, s_dZip, Shp, shp_int, shp_bool, shp_none, PyData.eqv, List.length_cons, List.length_nil, List.replicate, List.cons_append, List.nil_append, List.getElem?_cons_zero, List.getElem?_cons_succ, List.append_nil, List.set_cons_zero, List.set_cons_succ, List.map_cons, List.map_nil, Nat.reduceAdd, Nat.reduceSub, Nat.zero_add, Nat.reduceLT, true_and, and_true, if_true, ite_true, ite_false, Bool.false_eq_true, bne_self_eq_false, Bool.bne_false, Bool.bne_true, Nat.sub_self, Nat.reduceLeDiff, Nat.zero_le, Nat.lt_add_one]
      have es : stepB q s x = s := by unfold stepB; rw [ef]
      exact hN _ ⟨⟨_, _, _, _, by rw [es]⟩, by rw [es]; exact h1, by rw [es]; exact h2, by rw [es]; exact h3⟩
    | cons p t =>
      have hp : p ∈ s.1 ∧ p.getD x 0 ≠ 0 := by
        have : p ∈ s.1.filter (fun r => r.getD x 0 != 0) := by rw [ef]; simp
        have := List.mem_filter.mp this
        exact ⟨this.1, by simpa using this.2⟩
      have hpr := h1 p hp.1
      have hld := sc_rw g (iv_lt g (getD_lt hpr hx')) hpr
      have dn : decide ((p :: t) = []) = false := by simp
      simp only [dn, gSub, gMod, gDiv, gPow, gShl, gShr, gAnd, gOr, gXor, gLt, gLe, gGt, gGe, C0, s_asD1, s_asD2, s_asDs0, s_asDs1, s_nrm1, s_nrm2, s_nrm3, s_nrm4, s_nrm5, s_bo, s_ret1, s_ret2, s_add1, s_add2, s_add3, s_add4, s_gI, s_mul1, s_mul2, s_mul3, s_gB, s_in1, s_in2, s_is1, s_is2, s_is3, s_is4, s_is5, s_is6, s_ix1, s_ix2, s_ix3, s_g1, s_g2, s_len1, s_len2, s_len3, s_tup1, s_tup2, s_lst1, s_lst2, s_abs, s_int1, s_int2, s_stri, s_bools, s_sum, s_sort, s_seq1, s_seq2, s_seq3, s_any, s_any1, s_any2, s_any3, s_rng1, s_rng2, s_rng3, s_rng4, s_enum, s_enum1, s_enum2, s_gN, s_gsN, s_gsC, s_gT, s_var, s_var1, s_var2, s_var3, s_var4, s_meth, s_meth1, s_close, s_close1, s_close2, s_close3, s_six, s_six1, s_six2, s_retO, s_retO1, s_retO2, s_peek1, s_peekT1, s_peeks0, s_peeks1, s_wipe0, s_wipe1, s_lf1, s_lf2, s_app, s_ext, s_rem, s_cnt, s_idx, s_spl, s_ty1, s_ty2, s_dSeq, s_dIfS, s_dTest, s_dBin, s_dC, s_gEq, s_dRet, s_dNext, s_dRetN, s_dSet, s_dCons, s_dNil, s_dCB, s_dCall, s_dLc, s_dYes, s_dTup, s_dLst, s_dFor, s_dChain, s_dAndV, s_dOrV, s_dNotV, s_dAnd, s_dOr, s_dNot, s_dIf, s_dRaise, s_dAsg, s_dDrop, s_dMv, s_dIsi, s_dZip, Shp, shp_int, shp_bool, shp_none, PyData.eqv, List.length_cons, List.length_nil, List.replicate, List.cons_append, List.nil_append, List.getElem?_cons_zero, List.getElem?_cons_succ, List.append_nil, List.set_cons_zero, List.set_cons_succ, List.map_cons, List.map_nil, Nat.reduceAdd, Nat.reduceSub, Nat.zero_add, Nat.reduceLT, true_and, and_true, if_true, ite_true, ite_false, Bool.false_eq_true, bne_self_eq_false, Bool.bne_false, Bool.bne_true, Nat.sub_self, Nat.reduceLeDiff, Nat.zero_le, Nat.lt_add_one]
      refine ⟨eR p, at0 _ _, ?_⟩
      try simp only [gSub, gMod, gDiv, gPow, gShl, gShr, gAnd, gOr, gXor, gLt, gLe, gGt, gGe, C0, s_asD1, s_asD2, s_asDs0, s_asDs1, s_nrm1, s_nrm2, s_nrm3, s_nrm4, s_nrm5, s_bo, s_ret1, s_ret2, s_add1, s_add2, s_add3, s_add4, s_gI, s_mul1, s_mul2, s_mul3, s_gB, s_in1, s_in2, s_is1, s_is2, s_is3, s_is4, s_is5, s_is6, s_ix1, s_ix2, s_ix3, s_g1, s_g2, s_len1, s_len2, s_len3, s_tup1, s_tup2, s_lst1, s_lst2, s_abs, s_int1, s_int2, s_stri, s_bools, s_sum, s_sort, s_seq1, s_seq2, s_seq3, s_any, s_any1, s_any2, s_any3, s_rng1, s_rng2, s_rng3, s_rng4, s_enum, s_enum1, s_enum2, s_gN, s_gsN, s_gsC, s_gT, s_var, s_var1, s_var2, s_var3, s_var4, s_meth, s_meth1, s_close, s_close1, s_close2, s_close3, s_six, s_six1, s_six2, s_retO, s_retO1, s_retO2, s_peek1, s_peekT1, s_peeks0, s_peeks1, s_wipe0, s_wipe1, s_lf1, s_lf2, s_app, s_ext, s_rem, s_cnt, s_idx, s_spl, s_ty1, s_ty2, s_dSeq, s_dIfS, s_dTest, s_dBin, s_dC, s_gEq, s_dRet, s_dNext, s_dRetN, s_dSet, s_dCons, s_dNil, s_dCB, s_dCall, s_dLc, s_dYes, s_dTup, s_dLst, s_dFor, s_dChain, s_dAndV, s_dOrV, s_dNotV, s_dAnd, s_dOr, s_dNot, s_dIf, s_dRaise, s_dAsg, s_dDrop, s_dMv, s_dIsi, s_dZip, Shp, shp_int, shp_bool, shp_none, PyData.eqv, List.length_cons, List.length_nil, List.replicate, List.cons_append, List.nil_append, List.getElem?_cons_zero, List.getElem?_cons_succ, List.append_nil, List.set_cons_zero, List.set_cons_succ, List.map_cons, List.map_nil, Nat.reduceAdd, Nat.reduceSub, Nat.zero_add, Nat.reduceLT, true_and, and_true, if_true, ite_true, ite_false, Bool.false_eq_true, bne_self_eq_false, Bool.bne_false, Bool.bne_true, Nat.sub_self, Nat.reduceLeDiff, Nat.zero_le, Nat.lt_add_one, eR]
      refine ⟨_, at_row (by rw [hpr.len]; exact hx'), ?_⟩
      try simp only [gSub, gMod, gDiv, gPow, gShl, gShr, gAnd, gOr, gXor, gLt, gLe, gGt, gGe, C0, s_asD1, s_asD2, s_asDs0, s_asDs1, s_nrm1, s_nrm2, s_nrm3, s_nrm4, s_nrm5, s_bo, s_ret1, s_ret2, s_add1, s_add2, s_add3, s_add4, s_gI, s_mul1, s_mul2, s_mul3, s_gB, s_in1, s_in2, s_is1, s_is2, s_is3, s_is4, s_is5, s_is6, s_ix1, s_ix2, s_ix3, s_g1, s_g2, s_len1, s_len2, s_len3, s_tup1, s_tup2, s_lst1, s_lst2, s_abs, s_int1, s_int2, s_stri, s_bools, s_sum, s_sort, s_seq1, s_seq2, s_seq3, s_any, s_any1, s_any2, s_any3, s_rng1, s_rng2, s_rng3, s_rng4, s_enum, s_enum1, s_enum2, s_gN, s_gsN, s_gsC, s_gT, s_var, s_var1, s_var2, s_var3, s_var4, s_meth, s_meth1, s_close, s_close1, s_close2, s_close3, s_six, s_six1, s_six2, s_retO, s_retO1, s_retO2, s_peek1, s_peekT1, s_peeks0, s_peeks1, s_wipe0, s_wipe1, s_lf1, s_lf2, s_app, s_ext, s_rem, s_cnt, s_idx, s_spl, s_ty1, s_ty2, s_dSeq, s_dIfS, s_dTest, s_dBin, s_dC, s_gEq, s_dRet, s_dNext, s_dRetN, s_dSet, s_dCons, s_dNil, s_dCB, s_dCall, s_dLc, s_dYes, s_dTup, s_dLst, s_dFor, s_dChain, s_dAndV, s_dOrV, s_dNotV, s_dAnd, s_dOr, s_dNot, s_dIf, s_dRaise, s_dAsg, s_dDrop, s_dMv, s_dIsi, s_dZip, Shp, shp_int, shp_bool, shp_none, PyData.eqv, List.length_cons, List.length_nil, List.replicate, List.cons_append, List.nil_append, List.getElem?_cons_zero, List.getElem?_cons_succ, List.append_nil, List.set_cons_zero, List.set_cons_succ, List.map_cons, List.map_nil, Nat.reduceAdd, Nat.reduceSub, Nat.zero_add, Nat.reduceLT, true_and, and_true, if_true, ite_true, ite_false, Bool.false_eq_true, bne_self_eq_false, Bool.bne_false, Bool.bne_true, Nat.sub_self, Nat.reduceLeDiff, Nat.zero_le, Nat.lt_add_one]
      refine p_back g hp.2 (getD_lt hpr hx') ?_
      try simp only [gSub, gMod, gDiv, gPow, gShl, gShr, gAnd, gOr, gXor, gLt, gLe, gGt, gGe, C0, s_asD1, s_asD2, s_asDs0, s_asDs1, s_nrm1, s_nrm2, s_nrm3, s_nrm4, s_nrm5, s_bo, s_ret1, s_ret2, s_add1, s_add2, s_add3, s_add4, s_gI, s_mul1, s_mul2, s_mul3, s_gB, s_in1, s_in2, s_is1, s_is2, s_is3, s_is4, s_is5, s_is6, s_ix1, s_ix2, s_ix3, s_g1, s_g2, s_len1, s_len2, s_len3, s_tup1, s_tup2, s_lst1, s_lst2, s_abs, s_int1, s_int2, s_stri, s_bools, s_sum, s_sort, s_seq1, s_seq2, s_seq3, s_any, s_any1, s_any2, s_any3, s_rng1, s_rng2, s_rng3, s_rng4, s_enum, s_enum1, s_enum2, s_gN, s_gsN, s_gsC, s_gT, s_var, s_var1, s_var2, s_var3, s_var4, s_meth, s_meth1, s_close, s_close1, s_close2, s_close3, s_six, s_six1, s_six2, s_retO, s_retO1, s_retO2, s_peek1, s_peekT1, s_peeks0, s_peeks1, s_wipe0, s_wipe1, s_lf1, s_lf2, s_app, s_ext, s_rem, s_cnt, s_idx, s_spl, s_ty1, s_ty2, s_dSeq, s_dIfS, s_dTest, s_dBin, s_dC, s_gEq, s_dRet, s_dNext, s_dRetN, s_dSet, s_dCons, s_dNil, s_dCB, s_dCall, s_dLc, s_dYes, s_dTup, s_dLst, s_dFor, s_dChain, s_dAndV, s_dOrV, s_dNotV, s_dAnd, s_dOr, s_dNot, s_dIf, s_dRaise, s_dAsg, s_dDrop, s_dMv, s_dIsi, s_dZip, Shp, shp_int, shp_bool, shp_none, PyData.eqv, List.length_cons, List.length_nil, List.replicate, List.cons_append, List.nil_append, List.getElem?_cons_zero, List.getElem?_cons_succ, List.append_nil, List.set_cons_zero, List.set_cons_succ, List.map_cons, List.map_nil, Nat.reduceAdd, Nat.reduceSub, Nat.zero_add, Nat.reduceLT, true_and, and_true, if_true, ite_true, ite_false, Bool.false_eq_true, bne_self_eq_false, Bool.bne_false, Bool.bne_true, Nat.sub_self, Nat.reduceLeDiff, Nat.zero_le, Nat.lt_add_one, eI]
      refine ⟨eR p, at0 _ _, ?_⟩
      try simp only [gSub, gMod, gDiv, gPow, gShl, gShr, gAnd, gOr, gXor, gLt, gLe, gGt, gGe, C0, s_asD1, s_asD2, s_asDs0, s_asDs1, s_nrm1, s_nrm2, s_nrm3, s_nrm4, s_nrm5, s_bo, s_ret1, s_ret2, s_add1, s_add2, s_add3, s_add4, s_gI, s_mul1, s_mul2, s_mul3, s_gB, s_in1, s_in2, s_is1, s_is2, s_is3, s_is4, s_is5, s_is6, s_ix1, s_ix2, s_ix3, s_g1, s_g2, s_len1, s_len2, s_len3, s_tup1, s_tup2, s_lst1, s_lst2, s_abs, s_int1, s_int2, s_stri, s_bools, s_sum, s_sort, s_seq1, s_seq2, s_seq3, s_any, s_any1, s_any2, s_any3, s_rng1, s_rng2, s_rng3, s_rng4, s_enum, s_enum1, s_enum2, s_gN, s_gsN, s_gsC, s_gT, s_var, s_var1, s_var2, s_var3, s_var4, s_meth, s_meth1, s_close, s_close1, s_close2, s_close3, s_six, s_six1, s_six2, s_retO, s_retO1, s_retO2, s_peek1, s_peekT1, s_peeks0, s_peeks1, s_wipe0, s_wipe1, s_lf1, s_lf2, s_app, s_ext, s_rem, s_cnt, s_idx, s_spl, s_ty1, s_ty2, s_dSeq, s_dIfS, s_dTest, s_dBin, s_dC, s_gEq, s_dRet, s_dNext, s_dRetN, s_dSet, s_dCons, s_dNil, s_dCB, s_dCall, s_dLc, s_dYes, s_dTup, s_dLst, s_dFor, s_dChain, s_dAndV, s_dOrV, s_dNotV, s_dAnd, s_dOr, s_dNot, s_dIf, s_dRaise, s_dAsg, s_dDrop, s_dMv, s_dIsi, s_dZip, Shp, shp_int, shp_bool, shp_none, PyData.eqv, List.length_cons, List.length_nil, List.replicate, List.cons_append, List.nil_append, List.getElem?_cons_zero, List.getElem?_cons_succ, List.append_nil, List.set_cons_zero, List.set_cons_succ, List.map_cons, List.map_nil, Nat.reduceAdd, Nat.reduceSub, Nat.zero_add, Nat.reduceLT, true_and, and_true, if_true, ite_true, ite_false, Bool.false_eq_true, bne_self_eq_false, Bool.bne_false, Bool.bne_true, Nat.sub_self, Nat.reduceLeDiff, Nat.zero_le, Nat.lt_add_one]
      refine p_often g (iv_lt g (getD_lt hpr hx')) hpr ?_
      try simp only [gSub, gMod, gDiv, gPow, gShl, gShr, gAnd, gOr, gXor, gLt, gLe, gGt, gGe, C0, s_asD1, s_asD2, s_asDs0, s_asDs1, s_nrm1, s_nrm2, s_nrm3, s_nrm4, s_nrm5, s_bo, s_ret1, s_ret2, s_add1, s_add2, s_add3, s_add4, s_gI, s_mul1, s_mul2, s_mul3, s_gB, s_in1, s_in2, s_is1, s_is2, s_is3, s_is4, s_is5, s_is6, s_ix1, s_ix2, s_ix3, s_g1, s_g2, s_len1, s_len2, s_len3, s_tup1, s_tup2, s_lst1, s_lst2, s_abs, s_int1, s_int2, s_stri, s_bools, s_sum, s_sort, s_seq1, s_seq2, s_seq3, s_any, s_any1, s_any2, s_any3, s_rng1, s_rng2, s_rng3, s_rng4, s_enum, s_enum1, s_enum2, s_gN, s_gsN, s_gsC, s_gT, s_var, s_var1, s_var2, s_var3, s_var4, s_meth, s_meth1, s_close, s_close1, s_close2, s_close3, s_six, s_six1, s_six2, s_retO, s_retO1, s_retO2, s_peek1, s_peekT1, s_peeks0, s_peeks1, s_wipe0, s_wipe1, s_lf1, s_lf2, s_app, s_ext, s_rem, s_cnt, s_idx, s_spl, s_ty1, s_ty2, s_dSeq, s_dIfS, s_dTest, s_dBin, s_dC, s_gEq, s_dRet, s_dNext, s_dRetN, s_dSet, s_dCons, s_dNil, s_dCB, s_dCall, s_dLc, s_dYes, s_dTup, s_dLst, s_dFor, s_dChain, s_dAndV, s_dOrV, s_dNotV, s_dAnd, s_dOr, s_dNot, s_dIf, s_dRaise, s_dAsg, s_dDrop, s_dMv, s_dIsi, s_dZip, Shp, shp_int, shp_bool, shp_none, PyData.eqv, List.length_cons, List.length_nil, List.replicate, List.cons_append, List.nil_append, List.getElem?_cons_zero, List.getElem?_cons_succ, List.append_nil, List.set_cons_zero, List.set_cons_succ, List.map_cons, List.map_nil, Nat.reduceAdd, Nat.reduceSub, Nat.zero_add, Nat.reduceLT, true_and, and_true, if_true, ite_true, ite_false, Bool.false_eq_true, bne_self_eq_false, Bool.bne_false, Bool.bne_true, Nat.sub_self, Nat.reduceLeDiff, Nat.zero_le, Nat.lt_add_one]
      refine ⟨eR p, at0 _ _, ?_⟩
      try simp only [gSub, gMod, gDiv, gPow, gShl, gShr, gAnd, gOr, gXor, gLt, gLe, gGt, gGe, C0, s_asD1, s_asD2, s_asDs0, s_asDs1, s_nrm1, s_nrm2, s_nrm3, s_nrm4, s_nrm5, s_bo, s_ret1, s_ret2, s_add1, s_add2, s_add3, s_add4, s_gI, s_mul1, s_mul2, s_mul3, s_gB, s_in1, s_in2, s_is1, s_is2, s_is3, s_is4, s_is5, s_is6, s_ix1, s_ix2, s_ix3, s_g1, s_g2, s_len1, s_len2, s_len3, s_tup1, s_tup2, s_lst1, s_lst2, s_abs, s_int1, s_int2, s_stri, s_bools, s_sum, s_sort, s_seq1, s_seq2, s_seq3, s_any, s_any1, s_any2, s_any3, s_rng1, s_rng2, s_rng3, s_rng4, s_enum, s_enum1, s_enum2, s_gN, s_gsN, s_gsC, s_gT, s_var, s_var1, s_var2, s_var3, s_var4, s_meth, s_meth1, s_close, s_close1, s_close2, s_close3, s_six, s_six1, s_six2, s_retO, s_retO1, s_retO2, s_peek1, s_peekT1, s_peeks0, s_peeks1, s_wipe0, s_wipe1, s_lf1, s_lf2, s_app, s_ext, s_rem, s_cnt, s_idx, s_spl, s_ty1, s_ty2, s_dSeq, s_dIfS, s_dTest, s_dBin, s_dC, s_gEq, s_dRet, s_dNext, s_dRetN, s_dSet, s_dCons, s_dNil, s_dCB, s_dCall, s_dLc, s_dYes, s_dTup, s_dLst, s_dFor, s_dChain, s_dAndV, s_dOrV, s_dNotV, s_dAnd, s_dOr, s_dNot, s_dIf, s_dRaise, s_dAsg, s_dDrop, s_dMv, s_dIsi, s_dZip, Shp, shp_int, shp_bool, shp_none, PyData.eqv, List.length_cons, List.length_nil, List.replicate, List.cons_append, List.nil_append, List.getElem?_cons_zero, List.getElem?_cons_succ, List.append_nil, List.set_cons_zero, List.set_cons_succ, List.map_cons, List.map_nil, Nat.reduceAdd, Nat.reduceSub, Nat.zero_add, Nat.reduceLT, true_and, and_true, if_true, ite_true, ite_false, Bool.false_eq_true, bne_self_eq_false, Bool.bne_false, Bool.bne_true, Nat.sub_self, Nat.reduceLeDiff, Nat.zero_le, Nat.lt_add_one]
      obtain ⟨j, f1, f2⟩ := find_row hp.1
      refine ⟨shp_rows, shp_row, j, f1, ?_⟩
      rw [f2]
      try simp only [gSub, gMod, gDiv, gPow, gShl, gShr, gAnd, gOr, gXor, gLt, gLe, gGt, gGe, C0, s_asD1, s_asD2, s_asDs0, s_asDs1, s_nrm1, s_nrm2, s_nrm3, s_nrm4, s_nrm5, s_bo, s_ret1, s_ret2, s_add1, s_add2, s_add3, s_add4, s_gI, s_mul1, s_mul2, s_mul3, s_gB, s_in1, s_in2, s_is1, s_is2, s_is3, s_is4, s_is5, s_is6, s_ix1, s_ix2, s_ix3, s_g1, s_g2, s_len1, s_len2, s_len3, s_tup1, s_tup2, s_lst1, s_lst2, s_abs, s_int1, s_int2, s_stri, s_bools, s_sum, s_sort, s_seq1, s_seq2, s_seq3, s_any, s_any1, s_any2, s_any3, s_rng1, s_rng2, s_rng3, s_rng4, s_enum, s_enum1, s_enum2, s_gN, s_gsN, s_gsC, s_gT, s_var, s_var1, s_var2, s_var3, s_var4, s_meth, s_meth1, s_close, s_close1, s_close2, s_close3, s_six, s_six1, s_six2, s_retO, s_retO1, s_retO2, s_peek1, s_peekT1, s_peeks0, s_peeks1, s_wipe0, s_wipe1, s_lf1, s_lf2, s_app, s_ext, s_rem, s_cnt, s_idx, s_spl, s_ty1, s_ty2, s_dSeq, s_dIfS, s_dTest, s_dBin, s_dC, s_gEq, s_dRet, s_dNext, s_dRetN, s_dSet, s_dCons, s_dNil, s_dCB, s_dCall, s_dLc, s_dYes, s_dTup, s_dLst, s_dFor, s_dChain, s_dAndV, s_dOrV, s_dNotV, s_dAnd, s_dOr, s_dNot, s_dIf, s_dRaise, s_dAsg, s_dDrop, s_dMv, s_dIsi, s_dZip, Shp, shp_int, shp_bool, shp_none, PyData.eqv, List.length_cons, List.length_nil, List.replicate, List.cons_append, List.nil_append, List.getElem?_cons_zero, List.getElem?_cons_succ, List.append_nil, List.set_cons_zero, List.set_cons_succ, List.map_cons, List.map_nil, Nat.reduceAdd, Nat.reduceSub, Nat.zero_add, Nat.reduceLT, true_and, and_true, if_true, ite_true, ite_false, Bool.false_eq_true, bne_self_eq_false, Bool.bne_false, Bool.bne_true, Nat.sub_self, Nat.reduceLeDiff, Nat.zero_le, Nat.lt_add_one]
      refine lc_map eR (fun r => eR (bring q x (sc q (iv q (p.getD x 0)) p) r)) (s.1.erase p) (fun r hr R hR => ?_) ?_
      · exact ⟨by simp, p_bring g hx' (h1 r (List.mem_of_mem_erase hr)) hld (by rfl) (by rfl) (by rfl) (by rfl) hR⟩
      try simp only [gSub, gMod, gDiv, gPow, gShl, gShr, gAnd, gOr, gXor, gLt, gLe, gGt, gGe, C0, s_asD1, s_asD2, s_asDs0, s_asDs1, s_nrm1, s_nrm2, s_nrm3, s_nrm4, s_nrm5, s_bo, s_ret1, s_ret2, s_add1, s_add2, s_add3, s_add4, s_gI, s_mul1, s_mul2, s_mul3, s_gB, s_in1, s_in2, s_is1, s_is2, s_is3, s_is4, s_is5, s_is6, s_ix1, s_ix2, s_ix3, s_g1, s_g2, s_len1, s_len2, s_len3, s_tup1, s_tup2, s_lst1, s_lst2, s_abs, s_int1, s_int2, s_stri, s_bools, s_sum, s_sort, s_seq1, s_seq2, s_seq3, s_any, s_any1, s_any2, s_any3, s_rng1, s_rng2, s_rng3, s_rng4, s_enum, s_enum1, s_enum2, s_gN, s_gsN, s_gsC, s_gT, s_var, s_var1, s_var2, s_var3, s_var4, s_meth, s_meth1, s_close, s_close1, s_close2, s_close3, s_six, s_six1, s_six2, s_retO, s_retO1, s_retO2, s_peek1, s_peekT1, s_peeks0, s_peeks1, s_wipe0, s_wipe1, s_lf1, s_lf2, s_app, s_ext, s_rem, s_cnt, s_idx, s_spl, s_ty1, s_ty2, s_dSeq, s_dIfS, s_dTest, s_dBin, s_dC, s_gEq, s_dRet, s_dNext, s_dRetN, s_dSet, s_dCons, s_dNil, s_dCB, s_dCall, s_dLc, s_dYes, s_dTup, s_dLst, s_dFor, s_dChain, s_dAndV, s_dOrV, s_dNotV, s_dAnd, s_dOr, s_dNot, s_dIf, s_dRaise, s_dAsg, s_dDrop, s_dMv, s_dIsi, s_dZip, Shp, shp_int, shp_bool, shp_none, PyData.eqv, List.length_cons, List.length_nil, List.replicate, List.cons_append, List.nil_append, List.getElem?_cons_zero, List.getElem?_cons_succ, List.append_nil, List.set_cons_zero, List.set_cons_succ, List.map_cons, List.map_nil, Nat.reduceAdd, Nat.reduceSub, Nat.zero_add, Nat.reduceLT, true_and, and_true, if_true, ite_true, ite_false, Bool.false_eq_true, bne_self_eq_false, Bool.bne_false, Bool.bne_true, Nat.sub_self, Nat.reduceLeDiff, Nat.zero_le, Nat.lt_add_one]
      refine lc_map eR (fun r => eR (bring q x (sc q (iv q (p.getD x 0)) p) r)) s.2 (fun r hr R hR => ?_) ?_
      · exact ⟨by simp, p_bring g hx' (h2 r hr) hld (by rfl) (by rfl) (by rfl) (by rfl) hR⟩
      try simp only [gSub, gMod, gDiv, gPow, gShl, gShr, gAnd, gOr, gXor, gLt, gLe, gGt, gGe, C0, s_asD1, s_asD2, s_asDs0, s_asDs1, s_nrm1, s_nrm2, s_nrm3, s_nrm4, s_nrm5, s_bo, s_ret1, s_ret2, s_add1, s_add2, s_add3, s_add4, s_gI, s_mul1, s_mul2, s_mul3, s_gB, s_in1, s_in2, s_is1, s_is2, s_is3, s_is4, s_is5, s_is6, s_ix1, s_ix2, s_ix3, s_g1, s_g2, s_len1, s_len2, s_len3, s_tup1, s_tup2, s_lst1, s_lst2, s_abs, s_int1, s_int2, s_stri, s_bools, s_sum, s_sort, s_seq1, s_seq2, s_seq3, s_any, s_any1, s_any2, s_any3, s_rng1, s_rng2, s_rng3, s_rng4, s_enum, s_enum1, s_enum2, s_gN, s_gsN, s_gsC, s_gT, s_var, s_var1, s_var2, s_var3, s_var4, s_meth, s_meth1, s_close, s_close1, s_close2, s_close3, s_six, s_six1, s_six2, s_retO, s_retO1, s_retO2, s_peek1, s_peekT1, s_peeks0, s_peeks1, s_wipe0, s_wipe1, s_lf1, s_lf2, s_app, s_ext, s_rem, s_cnt, s_idx, s_spl, s_ty1, s_ty2, s_dSeq, s_dIfS, s_dTest, s_dBin, s_dC, s_gEq, s_dRet, s_dNext, s_dRetN, s_dSet, s_dCons, s_dNil, s_dCB, s_dCall, s_dLc, s_dYes, s_dTup, s_dLst, s_dFor, s_dChain, s_dAndV, s_dOrV, s_dNotV, s_dAnd, s_dOr, s_dNot, s_dIf, s_dRaise, s_dAsg, s_dDrop, s_dMv, s_dIsi, s_dZip, Shp, shp_int, shp_bool, shp_none, PyData.eqv, List.length_cons, List.length_nil, List.replicate, List.cons_append, List.nil_append, List.getElem?_cons_zero, List.getElem?_cons_succ, List.append_nil, List.set_cons_zero, List.set_cons_succ, List.map_cons, List.map_nil, Nat.reduceAdd, Nat.reduceSub, Nat.zero_add, Nat.reduceLT, true_and, and_true, if_true, ite_true, ite_false, Bool.false_eq_true, bne_self_eq_false, Bool.bne_false, Bool.bne_true, Nat.sub_self, Nat.reduceLeDiff, Nat.zero_le, Nat.lt_add_one]
      have es : stepB q s x = ((s.1.erase p).map (bring q x (sc q (iv q (p.getD x 0)) p)), s.2.map (bring q x (sc q (iv q (p.getD x 0)) p)) ++ [sc q (iv q (p.getD x 0)) p]) := by unfold stepB; rw [ef]
      obtain ⟨k1, k2⟩ := stepB_rw g hx' h1 h2
      refine ⟨by rw [List.length_map]; omega, hN _ ⟨?_, k1, k2, ?_⟩⟩
      · rw [es]
        simp only [List.map_map, List.map_append, List.map_cons, List.map_nil]
        exact ⟨_, _, _, _, rfl⟩
      · rw [es]
        have := List.length_erase_of_mem hp.1
        have := List.length_pos_of_mem hp.1
        simp only [List.length_map, List.length_append, List.length_cons, List.length_nil]
        omega
  · obtain ⟨⟨a4, a5, a6, a7, rfl⟩, _⟩ := hP
    try simp only [gSub, gMod, gDiv, gPow, gShl, gShr, gAnd, gOr, gXor, gLt, gLe, gGt, gGe, C0, s_asD1, s_asD2, s_asDs0, s_asDs1, s_nrm1, s_nrm2, s_nrm3, s_nrm4, s_nrm5, s_bo, s_ret1, s_ret2, s_add1, s_add2, s_add3, s_add4, s_gI, s_mul1, s_mul2, s_mul3, s_gB, s_in1, s_in2, s_is1, s_is2, s_is3, s_is4, s_is5, s_is6, s_ix1, s_ix2, s_ix3, s_g1, s_g2, s_len1, s_len2, s_len3, s_tup1, s_tup2, s_lst1, s_lst2, s_abs, s_int1, s_int2, s_stri, s_bools, s_sum, s_sort, s_seq1, s_seq2, s_seq3, s_any, s_any1, s_any2, s_any3, s_rng1, s_rng2, s_rng3, s_rng4, s_enum, s_enum1, s_enum2, s_gN, s_gsN, s_gsC, s_gT, s_var, s_var1, s_var2, s_var3, s_var4, s_meth, s_meth1, s_close, s_close1, s_close2, s_close3, s_six, s_six1, s_six2, s_retO, s_retO1, s_retO2, s_peek1, s_peekT1, s_peeks0, s_peeks1, s_wipe0, s_wipe1, s_lf1, s_lf2, s_app, s_ext, s_rem, s_cnt, s_idx, s_spl, s_ty1, s_ty2, s_dSeq, s_dIfS, s_dTest, s_dBin, s_dC, s_gEq, s_dRet, s_dNext, s_dRetN, s_dSet, s_dCons, s_dNil, s_dCB, s_dCall, s_dLc, s_dYes, s_dTup, s_dLst, s_dFor, s_dChain, s_dAndV, s_dOrV, s_dNotV, s_dAnd, s_dOr, s_dNot, s_dIf, s_dRaise, s_dAsg, s_dDrop, s_dMv, s_dIsi, s_dZip, Shp, shp_int, shp_bool, shp_none, PyData.eqv, List.length_cons, List.length_nil, List.replicate, List.cons_append, List.nil_append, List.getElem?_cons_zero, List.getElem?_cons_succ, List.append_nil, List.set_cons_zero, List.set_cons_succ, List.map_cons, List.map_nil, Nat.reduceAdd, Nat.reduceSub, Nat.zero_add, Nat.reduceLT, true_and, and_true, if_true, ite_true, ite_false, Bool.false_eq_true, bne_self_eq_false, Bool.bne_false, Bool.bne_true, Nat.sub_self, Nat.reduceLeDiff, Nat.zero_le, Nat.lt_add_one]
    exact hq
end DL
namespace DL
open PySem PySem.Spec PyProof.Rows L2 PySem.W
/-! ### rows in their order -/
def rlt : List Nat → List Nat → Bool
  | [], [] => false
  | [], _ :: _ => true
  | _ :: _, [] => false
  | a :: r, b :: s => if a = b then rlt r s else decide (a < b)
theorem rlt_irr : ∀ r : List Nat, rlt r r = false
  | [] => rfl
  | a :: r => by simp [rlt, rlt_irr r]
theorem rlt_asym : ∀ {r s : List Nat}, rlt r s = true → rlt s r = false
  | [], [], h => by simp [rlt] at h
  | [], _ :: _, _ => rfl
  | _ :: _, [], h => by simp [rlt] at h
  | a :: r, b :: s, h => by
    unfold rlt at h ⊢
    by_cases e : a = b
    · subst e
      rw [if_pos rfl] at h ⊢
      exact rlt_asym h
    · rw [if_neg e] at h
      rw [if_neg (Ne.symm e)]
      have := of_decide_eq_true h
      exact decide_eq_false (by omega)
theorem rlt_tri : ∀ {r s : List Nat}, rlt r s = false → rlt s r = false → r = s
  | [], [], _, _ => rfl
  | [], _ :: _, h, _ => by simp [rlt] at h
  | _ :: _, [], _, h => by simp [rlt] at h
  | a :: r, b :: s, h1, h2 => by
    unfold rlt at h1 h2
    by_cases e : a = b
    · subst e
      rw [if_pos rfl] at h1 h2
      rw [rlt_tri h1 h2]
    · rw [if_neg e] at h1
      rw [if_neg (Ne.symm e)] at h2
      have a1 := of_decide_eq_false h1
      have a2 := of_decide_eq_false h2
      omega
theorem rlt_tr : ∀ {r s t : List Nat}, rlt r s = true → rlt s t = true → rlt r t = true
  | [], _, [], h1, h2 => by
    rename_i s
    cases s <;> simp [rlt] at h1 h2
  | [], _, _ :: _, _, _ => rfl
  | _ :: _, [], _, h1, _ => by simp [rlt] at h1
  | _ :: _, _ :: _, [], _, h2 => by simp [rlt] at h2
  | a :: r, b :: s, c :: t, h1, h2 => by
    unfold rlt at h1 h2 ⊢
    by_cases e : a = b
    · subst e
      rw [if_pos rfl] at h1
      by_cases e2 : a = c
      · subst e2
        rw [if_pos rfl] at h2 ⊢
        exact rlt_tr h1 h2
      · rw [if_neg e2] at h2 ⊢
        exact h2
    · rw [if_neg e] at h1
      have a1 := of_decide_eq_true h1
      by_cases e2 : b = c
      · subst e2
        rw [if_neg e]
        exact h1
      · rw [if_neg e2] at h2
        have a2 := of_decide_eq_true h2
        rw [if_neg (by omega)]
        exact decide_eq_true (by omega)
/-- not behind -/
def rle (r s : List Nat) : Bool := !rlt s r
theorem rle_total (r s : List Nat) : (rle r s || rle s r) = true := by
  unfold rle
  cases h : rlt s r with
  | false => rfl
  | true => rw [rlt_asym h]; rfl
theorem rle_anti {r s : List Nat} (h1 : rle r s = true) (h2 : rle s r = true) : r = s := by
  unfold rle at h1 h2
  rw [Bool.not_eq_true'] at h1 h2
  exact rlt_tri h2 h1
theorem rle_trans {r s t : List Nat} (h1 : rle r s = true) (h2 : rle s t = true) : rle r t = true := by
  unfold rle at *
  rw [Bool.not_eq_true'] at *
  cases h : rlt t r with
  | false => rfl
  | true =>
    cases h3 : rlt r s with
    | true => rw [rlt_tr h h3] at h2; cases h2
    | false =>
      have := rlt_tri h3 h1
      subst this
      rw [h] at h2; cases h2
theorem lt_int1 (a b : Int) : dataLt (.int a) (.int b) = decide (a < b) := by
  have := PySem.W.dataLt_ii a 0 b 0
  have e := PySem.W.dataLt_ints [a] [b]
  simp only [List.map_cons, List.map_nil] at e
  show PyProof.Rows.lexLt itemOrd [.inl a] [.inl b] = _
  simp [PyProof.Rows.lexLt, itemOrd, itemLt]
theorem alike_rows : ∀ (r s : List Nat), alikeAll (r.map eI) (s.map eI) = true
  | [], [] => rfl
  | [], _ :: _ => rfl
  | _ :: _, [] => rfl
  | a :: r, b :: s => by
    simp only [List.map_cons, alikeAll, alike_rows r s, Bool.and_true]
    rfl
theorem lt_rows : ∀ r s : List Nat, PyProof.Rows.lexLt itemOrd (keyToksAll (r.map eI)) (keyToksAll (s.map eI)) = rlt r s
  | [], [] => by simp [keyToksAll, PyProof.Rows.lexLt, itemOrd, itemLt, rlt]
  | [], _ :: _ => by simp [keyToksAll, PyProof.Rows.lexLt, itemOrd, itemLt, rlt]
  | _ :: _, [] => by simp [keyToksAll, PyProof.Rows.lexLt, itemOrd, itemLt, rlt]
  | a :: r, b :: s => by
    rw [List.map_cons, List.map_cons, PySem.W.dataLt_cons (by rfl), lt_rows r s]
    have e : PyData.eqv (eI a) (eI b) = (a == b) := by unfold eI; simp only [PyData.eqv]; exact beq_nat a b
    rw [e]
    have er : rlt (a :: r) (b :: s) = if a = b then rlt r s else decide (a < b) := by rw [rlt]
    rw [er]
    by_cases h : a = b
    · subst h; simp
    · have hb : (a == b) = false := beq_eq_false_iff_ne.mpr h
      rw [hb, if_neg h, if_neg Bool.false_ne_true]
      unfold eI
      rw [lt_int1]
      by_cases h2 : a < b
      · rw [decide_eq_true h2, decide_eq_true (by omega)]
      · rw [decide_eq_false h2, decide_eq_false (by omega)]
theorem dlt_row (r s : List Nat) : dataLt (eR r) (eR s) = rlt r s := lt_rows r s
theorem perm_sorted {α : Type} {le : α → α → Bool} (tr : ∀ a b c, le a b = true → le b c = true → le a c = true) (to : ∀ a b, (le a b || le b a) = true) (an : ∀ a b, le a b = true → le b a = true → a = b) {l m : List α} (h : l.Perm m) (hm : m.Pairwise fun a b => le a b = true) : l.mergeSort le = m :=
  List.Perm.eq_of_pairwise (le := fun a b => le a b = true) (fun a b _ _ => an a b) (List.pairwise_mergeSort tr to l) hm ((List.mergeSort_perm l le).trans h)
/-- rows put in their order -/
theorem srt_rows (l : List (List Nat)) : srt false (l.map eR) = (l.mergeSort rle).map eR := by
  unfold srt
  refine (List.map_mergeSort (r := rle) (fun a _ b _ => ?_)).symm
  rw [PySem.W.dataLe_eq]
  show rle a b = !dataLt (eR b) (eR a)
  rw [dlt_row]
  rfl
theorem srt_rowsR (l : List (List Nat)) : srt true (l.map eR) = (l.mergeSort fun a b => rle b a).map eR := by
  unfold srt
  refine (List.map_mergeSort (r := fun a b => rle b a) (fun a _ b _ => ?_)).symm
  rw [PySem.W.dataLe_eq]
  show rle b a = !dataLt (eR a) (eR b)
  rw [dlt_row]
  rfl
theorem sort_up {l m : List (List Nat)} (h : l.Perm m) (hm : m.Pairwise fun a b => rle a b = true) : l.mergeSort rle = m := perm_sorted (le := rle) (fun _ _ _ h1 h2 => rle_trans h1 h2) rle_total (fun _ _ h1 h2 => rle_anti h1 h2) h hm
theorem sort_down {l m : List (List Nat)} (h : l.Perm m) (hm : m.Pairwise fun a b => rle b a = true) : l.mergeSort (fun a b => rle b a) = m :=
  perm_sorted (le := fun a b => rle b a) (fun _ _ _ h1 h2 => rle_trans h2 h1) (fun a b => rle_total b a) (fun _ _ h1 h2 => rle_anti h2 h1) h hm
/-! a row put in, downwards -/
def insD (r : List Nat) : List (List Nat) → List (List Nat)
  | [] => [r]
  | s :: l => if rle s r = true then r :: s :: l else s :: insD r l
def sortD (l : List (List Nat)) : List (List Nat) := l.foldr insD []
theorem insD_perm (r : List Nat) : ∀ l, (insD r l).Perm (r :: l)
  | [] => List.Perm.refl _
  | s :: l => by
    unfold insD
    split
    · exact List.Perm.refl _
    · exact ((insD_perm r l).cons s).trans (List.Perm.swap r s l)
theorem insD_sorted {r : List Nat} : ∀ {l : List (List Nat)}, l.Pairwise (fun a b => rle b a = true) → (insD r l).Pairwise fun a b => rle b a = true
  | [], _ => List.pairwise_singleton _ _
  | s :: l, h => by
    obtain ⟨h1, h2⟩ := List.pairwise_cons.mp h
    unfold insD
    split
    · rename_i e
      refine List.pairwise_cons.mpr ⟨fun x hx => ?_, h⟩
      rcases List.mem_cons.mp hx with rfl | hx
      · exact e
      · exact rle_trans (h1 x hx) e
    · rename_i e
      refine List.pairwise_cons.mpr ⟨fun x hx => ?_, insD_sorted h2⟩
      rcases List.mem_cons.mp ((insD_perm r l).mem_iff.mp hx) with rfl | hx
      · have := rle_total s x
        rw [Bool.or_eq_true] at this
        rcases this with z | z
        · exact absurd z e
        · exact z
      · exact h1 x hx
theorem sortD_perm : ∀ l, (sortD l).Perm l
  | [] => List.Perm.refl _
  | r :: l => (insD_perm r _).trans ((sortD_perm l).cons r)
theorem sortD_sorted : ∀ l, (sortD l).Pairwise fun a b => rle b a = true
  | [] => List.Pairwise.nil
  | r :: l => insD_sorted (sortD_sorted l)
theorem srtD_rows (l : List (List Nat)) : srt true (l.map eR) = (sortD l).map eR := by
  rw [srt_rowsR, sort_down (sortD_perm l).symm (sortD_sorted l)]
def sortU (l : List (List Nat)) : List (List Nat) := (sortD l).reverse
theorem srtU_rows (l : List (List Nat)) : srt false (l.map eR) = (sortU l).map eR := by
  rw [srt_rows, sort_up (m := sortU l) ((sortD_perm l).symm.trans (List.reverse_perm _).symm) (by unfold sortU; rw [List.pairwise_reverse]; exact sortD_sorted l)]
/-! ### the field's rules -/
theorem sb_zero {q a : Nat} (g : G q) (h : a < q) : sb q a 0 = a := by
  rcases g with rfl | rfl | rfl | rfl <;> (revert a h; decide)
theorem ml_zr {q a : Nat} (g : G q) (h : a < q) : ml q a 0 = 0 := by
  rcases g with rfl | rfl | rfl | rfl <;> (revert a h; decide)
theorem ml_zl {q a : Nat} (g : G q) (h : a < q) : ml q 0 a = 0 := by
  rcases g with rfl | rfl | rfl | rfl <;> (revert a h; decide)
theorem ml_one {q a : Nat} (g : G q) (h : a < q) : ml q a 1 = a := by
  rcases g with rfl | rfl | rfl | rfl <;> (revert a h; decide)
theorem sb_self {q a : Nat} (g : G q) (h : a < q) : sb q a a = 0 := by
  rcases g with rfl | rfl | rfl | rfl <;> (revert a h; decide)
theorem ml_iv {q a : Nat} (g : G q) (h : a < q) (h0 : a ≠ 0) : ml q (iv q a) a = 1 := by
  rcases g with rfl | rfl | rfl | rfl
  · exact (by decide : ∀ a, a < 2 → a ≠ 0 → ml 2 (iv 2 a) a = 1) a h h0
  · exact (by decide : ∀ a, a < 3 → a ≠ 0 → ml 3 (iv 3 a) a = 1) a h h0
  · exact (by decide : ∀ a, a < 4 → a ≠ 0 → ml 4 (iv 4 a) a = 1) a h h0
  · exact (by decide : ∀ a, a < 5 → a ≠ 0 → ml 5 (iv 5 a) a = 1) a h h0
theorem ad_neg {q a : Nat} (g : G q) (h : a < q) : ad q a (sb q 0 a) = 0 := by
  rcases g with rfl | rfl | rfl | rfl <;> (revert a h; decide)
theorem ad_zero {q a : Nat} (g : G q) (h : a < q) : ad q a 0 = a := by
  rcases g with rfl | rfl | rfl | rfl <;> (revert a h; decide)
/-! ### entries -/
theorem zw_getD {f : Nat → Nat → Nat} {r s : List Nat} {j : Nat} (h1 : j < r.length) (h2 : j < s.length) : (List.zipWith f r s).getD j 0 = f (r.getD j 0) (s.getD j 0) := by
  have h3 : j < (List.zipWith f r s).length := by rw [List.length_zipWith]; omega
  rw [List.getD_eq_getElem?_getD, List.getD_eq_getElem?_getD, List.getD_eq_getElem?_getD, List.getElem?_eq_getElem h3, List.getElem?_eq_getElem h1, List.getElem?_eq_getElem h2, List.getElem_zipWith]
  rfl
section
variable {q n : Nat} {r s : List Nat}
theorem le_at {c j : Nat} (h : Rw q n r) (h' : Rw q n s) (hj : j < n) : (le q c r s).getD j 0 = sb q (r.getD j 0) (ml q c (s.getD j 0)) := zw_getD (by rw [h.len]; exact hj) (by rw [h'.len]; exact hj)
theorem mo_at {c j : Nat} (h : Rw q n r) (h' : Rw q n s) (hj : j < n) : (mo q c r s).getD j 0 = ad q (r.getD j 0) (ml q c (s.getD j 0)) := zw_getD (by rw [h.len]; exact hj) (by rw [h'.len]; exact hj)
theorem sc_at {c j : Nat} (h : Rw q n r) (hj : j < n) : (sc q c r).getD j 0 = ml q c (r.getD j 0) := by
  have h1 : j < r.length := by rw [h.len]; exact hj
  unfold sc
  rw [List.getD_eq_getElem?_getD, List.getD_eq_getElem?_getD, List.getElem?_map, List.getElem?_eq_getElem h1]
  rfl
/-! ### leads -/
/-- the lead stands at p -/
structure Ld (r : List Nat) (p : Nat) : Prop where
  lt : p < r.length
  ne : r.getD p 0 ≠ 0
  z : ∀ j, j < p → r.getD j 0 = 0
theorem ldO_iff {p : Nat} : ldO r = some p ↔ Ld r p := by
  unfold ldO
  rw [List.findIdx?_eq_some_iff_getElem]
  constructor
  · rintro ⟨h1, h2, h3⟩
    refine ⟨h1, ?_, fun j hj => ?_⟩
    · rw [List.getD_eq_getElem?_getD, List.getElem?_eq_getElem h1]
      simpa using h2
    · have := h3 j hj
      rw [List.getD_eq_getElem?_getD, List.getElem?_eq_getElem (by omega)]
      simpa using this
  · rintro ⟨h1, h2, h3⟩
    refine ⟨h1, ?_, fun j hj => ?_⟩
    · rw [List.getD_eq_getElem?_getD, List.getElem?_eq_getElem h1] at h2
      simpa using h2
    · have := h3 j hj
      rw [List.getD_eq_getElem?_getD, List.getElem?_eq_getElem (by omega)] at this
      simpa using this
theorem ldO_none (h : ldO r = none) : ∀ j, r.getD j 0 = 0 := by
  intro j
  unfold ldO at h
  rw [List.findIdx?_eq_none_iff] at h
  by_cases hj : j < r.length
  · have := h r[j] (List.getElem_mem hj)
    rw [List.getD_eq_getElem?_getD, List.getElem?_eq_getElem hj]
    simpa using this
  · rw [List.getD_eq_getElem?_getD, List.getElem?_eq_none (by omega)]
    rfl
/-- reduced against one another: each one's lead is a 1, none of the others has a number there -/
def Off (r s : List Nat) : Prop := (∀ p, Ld r p → s.getD p 0 = 0) ∧ ∀ p, Ld s p → r.getD p 0 = 0
structure Red (q n : Nat) (l : List (List Nat)) : Prop where
  rw_ : RwS q n l
  ld : ∀ r ∈ l, ∃ p, Ld r p ∧ r.getD p 0 = 1
  off : l.Pairwise Off
theorem Off.symm (h : Off r s) : Off s r := ⟨h.2, h.1⟩
theorem Red.nil : Red q n [] := ⟨(fun r hr => by cases hr), (fun r hr => by cases hr), List.Pairwise.nil⟩
theorem Red.perm {l m : List (List Nat)} (h : Red q n l) (p : m.Perm l) : Red q n m := ⟨fun r hr => h.rw_ r (p.mem_iff.mp hr), fun r hr => h.ld r (p.mem_iff.mp hr), (p.pairwise_iff fun {a b} h => Off.symm h).mpr h.off⟩
theorem Ld.uniq {p p' : Nat} (h : Ld r p) (h' : Ld r p') : p = p' := by
  rcases Nat.lt_trichotomy p p' with z | z | z
  · exact absurd (h'.z p z) h.ne
  · exact z
  · exact absurd (h.z p' z) h'.ne
/-! ### one more row -/
def redA (q : Nat) (found : List (List Nat)) (row : List Nat) : List Nat := found.foldl (fun row one => le q (row.getD ((ldO one).getD 0) 0) row one) row
def putA (q : Nat) (found : List (List Nat)) (r2 : List Nat) (p : Nat) : List (List Nat) := found.map (fun one => le q (one.getD p 0) one r2) ++ [r2]
def withA (q : Nat) (found : List (List Nat)) (row : List Nat) : List (List Nat) :=
  match ldO (redA q found row) with
  | none => found
  | some p => sortD (putA q found (sc q (iv q ((redA q found row).getD p 0)) (redA q found row)) p)
def lowA (q : Nat) (rows : List (List Nat)) : List (List Nat) := rows.foldl (withA q) []
theorem le_id {c : Nat} (g : G q) (h : Rw q n r) (h' : Rw q n s) (hc : c = 0) : le q c r s = r := by
  subst hc
  apply List.ext_getElem
  · unfold le; rw [List.length_zipWith, h.len, h'.len, Nat.min_self]
  · intro i h1 h2
    have e := le_at (c := 0) (j := i) h h' (by rw [← h.len]; exact h2)
    rw [ml_zl g (getD_lt h' (by rw [← h.len]; exact h2)), sb_zero g (getD_lt h (by rw [← h.len]; exact h2))] at e
    rw [List.getD_eq_getElem?_getD, List.getD_eq_getElem?_getD, List.getElem?_eq_getElem h1, List.getElem?_eq_getElem h2] at e
    exact e
theorem redA_ok (g : G q) : ∀ {found : List (List Nat)} {row : List Nat} {done : List (List Nat)}, Red q n (done ++ found) → Rw q n row → (∀ one ∈ done, ∀ p, Ld one p → row.getD p 0 = 0) →
    Rw q n (redA q found row) ∧ ∀ one ∈ done ++ found, ∀ p, Ld one p → (redA q found row).getD p 0 = 0
  | [], row, done, hR, hr, hd => by
    rw [List.append_nil]
    exact ⟨hr, hd⟩
  | one :: found, row, done, hR, hr, hd => by
    have ho : Rw q n one := hR.rw_ one (by simp)
    obtain ⟨p0, l0, l1⟩ := hR.ld one (by simp)
    have e0 : ldO one = some p0 := ldO_iff.mpr l0
    have hp0 : p0 < n := by rw [← ho.len]; exact l0.lt
    have hc : row.getD p0 0 < q := getD_lt hr hp0
    have hr' : Rw q n (le q (row.getD p0 0) row one) := le_rw g hc hr ho
    have off := List.pairwise_append.mp hR.off
    have step := redA_ok (found := found) (row := le q (row.getD p0 0) row one) (done := done ++ [one]) g (by rw [List.append_assoc]; exact hR) hr' (fun o hm p lp => by
      rcases List.mem_append.mp hm with hm | hm
      · have hpn : p < n := by rw [← (hR.rw_ o (List.mem_append_left _ hm)).len]; exact lp.lt
        have z1 : one.getD p 0 = 0 := (off.2.2 o hm one (by simp)).1 p lp
        rw [le_at hr ho hpn, z1, ml_zr g hc, hd o hm p lp, sb_zero g (by have := g.pos; omega)]
      · rw [List.mem_singleton.mp hm] at lp
        have e := l0.uniq lp
        subst e
        rw [le_at hr ho hp0, l1, ml_one g hc, sb_self g hc])
    have e1 : redA q (one :: found) row = redA q found (le q (row.getD p0 0) row one) := by
      unfold redA
      rw [List.foldl_cons, e0]
      rfl
    rw [e1]
    refine ⟨step.1, fun o hm => step.2 o ?_⟩
    rw [List.append_assoc]
    exact hm
/-- a scaled row -/
theorem sc_ld {p : Nat} (g : G q) (h : Rw q n r) (l : Ld r p) : Ld (sc q (iv q (r.getD p 0)) r) p ∧ (sc q (iv q (r.getD p 0)) r).getD p 0 = 1 := by
  have hp : p < n := by rw [← h.len]; exact l.lt
  have hc := iv_lt g (getD_lt h hp)
  have e1 : (sc q (iv q (r.getD p 0)) r).getD p 0 = 1 := by rw [sc_at h hp, ml_iv g (getD_lt h hp) l.ne]
  refine ⟨⟨by rw [(sc_rw g hc h).len]; exact hp, by rw [e1]; decide, fun j hj => ?_⟩, e1⟩
  rw [sc_at h (by omega), l.z j hj, ml_zr g hc]
theorem put_ld {p p1 : Nat} {one r2 : List Nat} (g : G q) (h : Rw q n one) (h2 : Rw q n r2) (l1 : Ld one p1) (e1 : one.getD p1 0 = 1) (l2 : Ld r2 p) (z : r2.getD p1 0 = 0) (e2 : r2.getD p 0 = 1) :
    Ld (le q (one.getD p 0) one r2) p1 ∧ (le q (one.getD p 0) one r2).getD p1 0 = 1 ∧ (le q (one.getD p 0) one r2).getD p 0 = 0 := by
  have hp : p < n := by rw [← h2.len]; exact l2.lt
  have hp1 : p1 < n := by rw [← h.len]; exact l1.lt
  have hc := getD_lt h hp
  have k1 : (le q (one.getD p 0) one r2).getD p1 0 = 1 := by rw [le_at h h2 hp1, z, ml_zr g hc, e1, sb_zero g (by have := g.pos; omega)]
  have k2 : (le q (one.getD p 0) one r2).getD p 0 = 0 := by rw [le_at h h2 hp, e2, ml_one g hc, sb_self g hc]
  refine ⟨⟨by rw [(le_rw g hc h h2).len]; exact hp1, by rw [k1]; decide, fun j hj => ?_⟩, k1, k2⟩
  have z0 : (0 : Nat) < q := by have := g.pos; omega
  rw [le_at h h2 (by omega), l1.z j hj]
  by_cases hpj : p ≤ j
  · rw [l1.z p (by omega), ml_zl g (getD_lt h2 (by omega)), sb_zero g z0]
  · rw [l2.z j (by omega), ml_zr g hc, sb_zero g z0]
theorem withA_red {found : List (List Nat)} {row : List Nat} (g : G q) (hR : Red q n found) (hr : Rw q n row) : Red q n (withA q found row) := by
  obtain ⟨k1, k2⟩ := redA_ok (done := []) g hR hr (fun o h => by cases h)
  unfold withA
  split
  · exact hR
  · rename_i p e
    have lp := ldO_iff.mp e
    obtain ⟨s1, s2⟩ := sc_ld g k1 lp
    have hpn : p < n := by rw [← k1.len]; exact lp.lt
    have hc := iv_lt g (getD_lt k1 hpn)
    have h2 := sc_rw g hc k1
    have zz : ∀ one ∈ found, ∀ p1, Ld one p1 → (sc q (iv q ((redA q found row).getD p 0)) (redA q found row)).getD p1 0 = 0 := fun one ho p1 l1 => by
      have hp1 : p1 < n := by rw [← (hR.rw_ one ho).len]; exact l1.lt
      rw [sc_at k1 hp1, k2 one ho p1 l1, ml_zr g hc]
    refine Red.perm ?_ (sortD_perm _)
    refine ⟨fun r hr => ?_, fun r hr => ?_, ?_⟩
    · rcases List.mem_append.mp hr with hr | hr
      · obtain ⟨one, ho, rfl⟩ := List.mem_map.mp hr
        exact le_rw g (getD_lt (hR.rw_ one ho) hpn) (hR.rw_ one ho) h2
      · rw [List.mem_singleton.mp hr]; exact h2
    · rcases List.mem_append.mp hr with hr | hr
      · obtain ⟨one, ho, rfl⟩ := List.mem_map.mp hr
        obtain ⟨p1, l1, e1⟩ := hR.ld one ho
        obtain ⟨a1, a2, _⟩ := put_ld g (hR.rw_ one ho) h2 l1 e1 s1 (zz one ho p1 l1) s2
        exact ⟨p1, a1, a2⟩
      · rw [List.mem_singleton.mp hr]; exact ⟨p, s1, s2⟩
    · refine List.pairwise_append.mpr ⟨?_, List.pairwise_singleton _ _, fun x hx y hy => ?_⟩
      · rw [List.pairwise_map]
        refine hR.off.imp_of_mem fun {a b} ha hb hab => ?_
        obtain ⟨pa, la, ea⟩ := hR.ld a ha
        obtain ⟨pb, lb, eb⟩ := hR.ld b hb
        obtain ⟨a1, _, _⟩ := put_ld g (hR.rw_ a ha) h2 la ea s1 (zz a ha pa la) s2
        obtain ⟨b1, _, _⟩ := put_ld g (hR.rw_ b hb) h2 lb eb s1 (zz b hb pb lb) s2
        have z0 : (0 : Nat) < q := by have := g.pos; omega
        refine ⟨fun p' l' => ?_, fun p' l' => ?_⟩
        · have e' := l'.uniq a1
          subst e'
          have hpn' : p' < n := by rw [← (hR.rw_ a ha).len]; exact la.lt
          rw [le_at (hR.rw_ b hb) h2 hpn', zz a ha p' la, ml_zr g (getD_lt (hR.rw_ b hb) hpn), hab.1 p' la, sb_zero g z0]
        · have e' := l'.uniq b1
          subst e'
          have hpn' : p' < n := by rw [← (hR.rw_ b hb).len]; exact lb.lt
          rw [le_at (hR.rw_ a ha) h2 hpn', zz b hb p' lb, ml_zr g (getD_lt (hR.rw_ a ha) hpn), hab.2 p' lb, sb_zero g z0]
      · rw [List.mem_singleton.mp hy]
        obtain ⟨one, ho, rfl⟩ := List.mem_map.mp hx
        obtain ⟨p1, l1, e1⟩ := hR.ld one ho
        obtain ⟨a1, a2, a3⟩ := put_ld g (hR.rw_ one ho) h2 l1 e1 s1 (zz one ho p1 l1) s2
        exact ⟨fun p' l' => by rw [l'.uniq a1]; exact zz one ho p1 l1, fun p' l' => by rw [l'.uniq s1]; exact a3⟩
theorem lowA_red {rows : List (List Nat)} (g : G q) (h : RwS q n rows) : Red q n (lowA q rows) := by
  have key : ∀ (rows found : List (List Nat)), Red q n found → RwS q n rows → Red q n (rows.foldl (withA q) found) := by
    intro rows
    induction rows with
    | nil => intro f hf _; exact hf
    | cons r rows ih => intro f hf hr; exact ih _ (withA_red g hf (hr r (by simp))) fun x hx => hr x (List.mem_cons_of_mem _ hx)
  exact key rows [] Red.nil h
end
theorem alike_all (l : List (List Nat)) : PySem.W.AllAlike (l.map eR) := fun d hd d' hd' => by
  obtain ⟨r, _, rfl⟩ := List.mem_map.mp hd
  obtain ⟨s, _, rfl⟩ := List.mem_map.mp hd'
  exact alike_rows r s
theorem sortable_all {q n : Nat} {l : List (List Nat)} (h : RwS q n l) (hn : 0 < n) : PySem.W.Sortable (l.map eR) := .inl fun d hd => by
  obtain ⟨r, hr, rfl⟩ := List.mem_map.mp hd
  have := (h r hr).len
  cases r with
  | nil => rw [List.length_nil] at this; omega
  | cons a r => exact ⟨_, _, rfl⟩
theorem depth_all (l : List (List Nat)) : ∀ d ∈ l.map eR, d.depth ≤ 64 := fun d hd => by
  obtain ⟨r, _, rfl⟩ := List.mem_map.mp hd
  have := (shN_row (r := r)).2
  omega
theorem p_scaled {q n p : Nat} {r : List Nat} {Q : SK} {E : EK} (g : G q) (h : Rw q n r) (l : Ld r p) (hq : Q (.sh (eR (sc q (iv q (r.getD p 0)) r)))) : F_scaled [.sh (.int q), .sh (eR r)] Q E := by
  have hp : p < n := by rw [← h.len]; exact l.lt
  simp only [E_scaled, den_scaled, eR, gSub, gMod, gDiv, gPow, gShl, gShr, gAnd, gOr, gXor, gLt, gLe, gGt, gGe, C0, s_asD1, s_asD2, s_asDs0, s_asDs1, s_nrm1, s_nrm2, s_nrm3, s_nrm4, s_nrm5, s_bo, s_ret1, s_ret2, s_add1, s_add2, s_add3, s_add4, s_gI, s_mul1, s_mul2, s_mul3, s_gB, s_in1, s_in2, s_is1, s_is2, s_is3, s_is4, s_is5, s_is6, s_ix1, s_ix2, s_ix3, s_g1, s_g2, s_len1, s_len2, s_len3, s_tup1, s_tup2, s_lst1, s_lst2, s_abs, s_int1, s_int2, s_stri, s_bools, s_sum, s_sort, s_seq1, s_seq2, s_seq3, s_any, s_any1, s_any2, s_any3, s_rng1, s_rng2, s_rng3, s_rng4, s_enum, s_enum1, s_enum2, s_gN, s_gsN, s_gsC, s_gT, s_var, s_var1, s_var2, s_var3, s_var4, s_meth, s_meth1, s_close, s_close1, s_close2, s_close3, s_six, s_six1, s_six2, s_retO, s_retO1, s_retO2, s_peek1, s_peekT1, s_peeks0, s_peeks1, s_wipe0, s_wipe1, s_lf1, s_lf2, s_app, s_ext, s_rem, s_cnt, s_idx, s_spl, s_ty1, s_ty2, s_dSeq, s_dIfS, s_dTest, s_dBin, s_dC, s_gEq, s_dRet, s_dNext, s_dRetN, s_dSet, s_dCons, s_dNil, s_dCB, s_dCall, s_dLc, s_dYes, s_dTup, s_dLst, s_dFor, s_dChain, s_dAndV, s_dOrV, s_dNotV, s_dAnd, s_dOr, s_dNot, s_dIf, s_dRaise, s_dAsg, s_dDrop, s_dMv, s_dIsi, s_dZip, Shp, shp_int, shp_bool, shp_none, PyData.eqv, List.length_cons, List.length_nil, List.replicate, List.cons_append, List.nil_append, List.getElem?_cons_zero, List.getElem?_cons_succ, List.append_nil, List.set_cons_zero, List.set_cons_succ, List.map_cons, List.map_nil, Nat.reduceAdd, Nat.reduceSub, Nat.zero_add, Nat.reduceLT, true_and, and_true, if_true, ite_true, ite_false, Bool.false_eq_true, bne_self_eq_false, Bool.bne_false, Bool.bne_true, Nat.sub_self, Nat.reduceLeDiff, Nat.zero_le, Nat.lt_add_one]
  refine p_lead ?_
  rw [ldO_iff.mpr l]
  simp only [eO, eI, eR, gSub, gMod, gDiv, gPow, gShl, gShr, gAnd, gOr, gXor, gLt, gLe, gGt, gGe, C0, s_asD1, s_asD2, s_asDs0, s_asDs1, s_nrm1, s_nrm2, s_nrm3, s_nrm4, s_nrm5, s_bo, s_ret1, s_ret2, s_add1, s_add2, s_add3, s_add4, s_gI, s_mul1, s_mul2, s_mul3, s_gB, s_in1, s_in2, s_is1, s_is2, s_is3, s_is4, s_is5, s_is6, s_ix1, s_ix2, s_ix3, s_g1, s_g2, s_len1, s_len2, s_len3, s_tup1, s_tup2, s_lst1, s_lst2, s_abs, s_int1, s_int2, s_stri, s_bools, s_sum, s_sort, s_seq1, s_seq2, s_seq3, s_any, s_any1, s_any2, s_any3, s_rng1, s_rng2, s_rng3, s_rng4, s_enum, s_enum1, s_enum2, s_gN, s_gsN, s_gsC, s_gT, s_var, s_var1, s_var2, s_var3, s_var4, s_meth, s_meth1, s_close, s_close1, s_close2, s_close3, s_six, s_six1, s_six2, s_retO, s_retO1, s_retO2, s_peek1, s_peekT1, s_peeks0, s_peeks1, s_wipe0, s_wipe1, s_lf1, s_lf2, s_app, s_ext, s_rem, s_cnt, s_idx, s_spl, s_ty1, s_ty2, s_dSeq, s_dIfS, s_dTest, s_dBin, s_dC, s_gEq, s_dRet, s_dNext, s_dRetN, s_dSet, s_dCons, s_dNil, s_dCB, s_dCall, s_dLc, s_dYes, s_dTup, s_dLst, s_dFor, s_dChain, s_dAndV, s_dOrV, s_dNotV, s_dAnd, s_dOr, s_dNot, s_dIf, s_dRaise, s_dAsg, s_dDrop, s_dMv, s_dIsi, s_dZip, Shp, shp_int, shp_bool, shp_none, PyData.eqv, List.length_cons, List.length_nil, List.replicate, List.cons_append, List.nil_append, List.getElem?_cons_zero, List.getElem?_cons_succ, List.append_nil, List.set_cons_zero, List.set_cons_succ, List.map_cons, List.map_nil, Nat.reduceAdd, Nat.reduceSub, Nat.zero_add, Nat.reduceLT, true_and, and_true, if_true, ite_true, ite_false, Bool.false_eq_true, bne_self_eq_false, Bool.bne_false, Bool.bne_true, Nat.sub_self, Nat.reduceLeDiff, Nat.zero_le, Nat.lt_add_one]
  refine ⟨_, at_row (by rw [h.len]; exact hp), ?_⟩
  try simp only [gSub, gMod, gDiv, gPow, gShl, gShr, gAnd, gOr, gXor, gLt, gLe, gGt, gGe, C0, s_asD1, s_asD2, s_asDs0, s_asDs1, s_nrm1, s_nrm2, s_nrm3, s_nrm4, s_nrm5, s_bo, s_ret1, s_ret2, s_add1, s_add2, s_add3, s_add4, s_gI, s_mul1, s_mul2, s_mul3, s_gB, s_in1, s_in2, s_is1, s_is2, s_is3, s_is4, s_is5, s_is6, s_ix1, s_ix2, s_ix3, s_g1, s_g2, s_len1, s_len2, s_len3, s_tup1, s_tup2, s_lst1, s_lst2, s_abs, s_int1, s_int2, s_stri, s_bools, s_sum, s_sort, s_seq1, s_seq2, s_seq3, s_any, s_any1, s_any2, s_any3, s_rng1, s_rng2, s_rng3, s_rng4, s_enum, s_enum1, s_enum2, s_gN, s_gsN, s_gsC, s_gT, s_var, s_var1, s_var2, s_var3, s_var4, s_meth, s_meth1, s_close, s_close1, s_close2, s_close3, s_six, s_six1, s_six2, s_retO, s_retO1, s_retO2, s_peek1, s_peekT1, s_peeks0, s_peeks1, s_wipe0, s_wipe1, s_lf1, s_lf2, s_app, s_ext, s_rem, s_cnt, s_idx, s_spl, s_ty1, s_ty2, s_dSeq, s_dIfS, s_dTest, s_dBin, s_dC, s_gEq, s_dRet, s_dNext, s_dRetN, s_dSet, s_dCons, s_dNil, s_dCB, s_dCall, s_dLc, s_dYes, s_dTup, s_dLst, s_dFor, s_dChain, s_dAndV, s_dOrV, s_dNotV, s_dAnd, s_dOr, s_dNot, s_dIf, s_dRaise, s_dAsg, s_dDrop, s_dMv, s_dIsi, s_dZip, Shp, shp_int, shp_bool, shp_none, PyData.eqv, List.length_cons, List.length_nil, List.replicate, List.cons_append, List.nil_append, List.getElem?_cons_zero, List.getElem?_cons_succ, List.append_nil, List.set_cons_zero, List.set_cons_succ, List.map_cons, List.map_nil, Nat.reduceAdd, Nat.reduceSub, Nat.zero_add, Nat.reduceLT, true_and, and_true, if_true, ite_true, ite_false, Bool.false_eq_true, bne_self_eq_false, Bool.bne_false, Bool.bne_true, Nat.sub_self, Nat.reduceLeDiff, Nat.zero_le, Nat.lt_add_one]
  refine p_backk g l.ne (getD_lt h hp) ?_
  simp only [gSub, gMod, gDiv, gPow, gShl, gShr, gAnd, gOr, gXor, gLt, gLe, gGt, gGe, C0, s_asD1, s_asD2, s_asDs0, s_asDs1, s_nrm1, s_nrm2, s_nrm3, s_nrm4, s_nrm5, s_bo, s_ret1, s_ret2, s_add1, s_add2, s_add3, s_add4, s_gI, s_mul1, s_mul2, s_mul3, s_gB, s_in1, s_in2, s_is1, s_is2, s_is3, s_is4, s_is5, s_is6, s_ix1, s_ix2, s_ix3, s_g1, s_g2, s_len1, s_len2, s_len3, s_tup1, s_tup2, s_lst1, s_lst2, s_abs, s_int1, s_int2, s_stri, s_bools, s_sum, s_sort, s_seq1, s_seq2, s_seq3, s_any, s_any1, s_any2, s_any3, s_rng1, s_rng2, s_rng3, s_rng4, s_enum, s_enum1, s_enum2, s_gN, s_gsN, s_gsC, s_gT, s_var, s_var1, s_var2, s_var3, s_var4, s_meth, s_meth1, s_close, s_close1, s_close2, s_close3, s_six, s_six1, s_six2, s_retO, s_retO1, s_retO2, s_peek1, s_peekT1, s_peeks0, s_peeks1, s_wipe0, s_wipe1, s_lf1, s_lf2, s_app, s_ext, s_rem, s_cnt, s_idx, s_spl, s_ty1, s_ty2, s_dSeq, s_dIfS, s_dTest, s_dBin, s_dC, s_gEq, s_dRet, s_dNext, s_dRetN, s_dSet, s_dCons, s_dNil, s_dCB, s_dCall, s_dLc, s_dYes, s_dTup, s_dLst, s_dFor, s_dChain, s_dAndV, s_dOrV, s_dNotV, s_dAnd, s_dOr, s_dNot, s_dIf, s_dRaise, s_dAsg, s_dDrop, s_dMv, s_dIsi, s_dZip, Shp, shp_int, shp_bool, shp_none, PyData.eqv, List.length_cons, List.length_nil, List.replicate, List.cons_append, List.nil_append, List.getElem?_cons_zero, List.getElem?_cons_succ, List.append_nil, List.set_cons_zero, List.set_cons_succ, List.map_cons, List.map_nil, Nat.reduceAdd, Nat.reduceSub, Nat.zero_add, Nat.reduceLT, true_and, and_true, if_true, ite_true, ite_false, Bool.false_eq_true, bne_self_eq_false, Bool.bne_false, Bool.bne_true, Nat.sub_self, Nat.reduceLeDiff, Nat.zero_le, Nat.lt_add_one, eI]
  exact p_rowtimes g (iv_lt g (getD_lt h hp)) h hq
theorem p_withone {q n : Nat} {found : List (List Nat)} {row : List Nat} {Q : SK} {E : EK} (g : G q) (hR : Red q n found) (hr : Rw q n row) (hl : found.length ≤ 1000) (h1 : Q (.sh (.list ((withA q found row).map eR)))) (h2 : Q (.own ((withA q found row).map eR))) :
    F_with_one [.sh (.int q), .sh (.list (found.map eR)), .sh (eR row)] Q E := by
  simp only [E_with_one, den_with_one, eR, gSub, gMod, gDiv, gPow, gShl, gShr, gAnd, gOr, gXor, gLt, gLe, gGt, gGe, C0, s_asD1, s_asD2, s_asDs0, s_asDs1, s_nrm1, s_nrm2, s_nrm3, s_nrm4, s_nrm5, s_bo, s_ret1, s_ret2, s_add1, s_add2, s_add3, s_add4, s_gI, s_mul1, s_mul2, s_mul3, s_gB, s_in1, s_in2, s_is1, s_is2, s_is3, s_is4, s_is5, s_is6, s_ix1, s_ix2, s_ix3, s_g1, s_g2, s_len1, s_len2, s_len3, s_tup1, s_tup2, s_lst1, s_lst2, s_abs, s_int1, s_int2, s_stri, s_bools, s_sum, s_sort, s_seq1, s_seq2, s_seq3, s_any, s_any1, s_any2, s_any3, s_rng1, s_rng2, s_rng3, s_rng4, s_enum, s_enum1, s_enum2, s_gN, s_gsN, s_gsC, s_gT, s_var, s_var1, s_var2, s_var3, s_var4, s_meth, s_meth1, s_close, s_close1, s_close2, s_close3, s_six, s_six1, s_six2, s_retO, s_retO1, s_retO2, s_peek1, s_peekT1, s_peeks0, s_peeks1, s_wipe0, s_wipe1, s_lf1, s_lf2, s_app, s_ext, s_rem, s_cnt, s_idx, s_spl, s_ty1, s_ty2, s_dSeq, s_dIfS, s_dTest, s_dBin, s_dC, s_gEq, s_dRet, s_dNext, s_dRetN, s_dSet, s_dCons, s_dNil, s_dCB, s_dCall, s_dLc, s_dYes, s_dTup, s_dLst, s_dFor, s_dChain, s_dAndV, s_dOrV, s_dNotV, s_dAnd, s_dOr, s_dNot, s_dIf, s_dRaise, s_dAsg, s_dDrop, s_dMv, s_dIsi, s_dZip, Shp, shp_int, shp_bool, shp_none, PyData.eqv, List.length_cons, List.length_nil, List.replicate, List.cons_append, List.nil_append, List.getElem?_cons_zero, List.getElem?_cons_succ, List.append_nil, List.set_cons_zero, List.set_cons_succ, List.map_cons, List.map_nil, Nat.reduceAdd, Nat.reduceSub, Nat.zero_add, Nat.reduceLT, true_and, and_true, if_true, ite_true, ite_false, Bool.false_eq_true, bne_self_eq_false, Bool.bne_false, Bool.bne_true, Nat.sub_self, Nat.reduceLeDiff, Nat.zero_le, Nat.lt_add_one]
  have kr := redA_ok (done := []) g hR hr (fun o h => by cases h)
  refine for_st (β := List Nat) eR (fun r Γ => (∃ a3 a4, Γ = [.sh (.int q), .sh (.list (found.map eR)), .sh (eR r), a3, a4]) ∧ Rw q n r)
    (fun row one => le q (row.getD ((ldO one).getD 0) 0) row one) found row _ (fun r one Γ hx hP N hN => ?_) ⟨⟨_, _, rfl⟩, hr⟩ fun Γ' hP => ?_
  · obtain ⟨⟨a3, a4, rfl⟩, hrr⟩ := hP
    obtain ⟨p, lp, e1⟩ := hR.ld one hx
    have ho := hR.rw_ one hx
    have hp : p < n := by rw [← ho.len]; exact lp.lt
    try simp only [eR, gSub, gMod, gDiv, gPow, gShl, gShr, gAnd, gOr, gXor, gLt, gLe, gGt, gGe, C0, s_asD1, s_asD2, s_asDs0, s_asDs1, s_nrm1, s_nrm2, s_nrm3, s_nrm4, s_nrm5, s_bo, s_ret1, s_ret2, s_add1, s_add2, s_add3, s_add4, s_gI, s_mul1, s_mul2, s_mul3, s_gB, s_in1, s_in2, s_is1, s_is2, s_is3, s_is4, s_is5, s_is6, s_ix1, s_ix2, s_ix3, s_g1, s_g2, s_len1, s_len2, s_len3, s_tup1, s_tup2, s_lst1, s_lst2, s_abs, s_int1, s_int2, s_stri, s_bools, s_sum, s_sort, s_seq1, s_seq2, s_seq3, s_any, s_any1, s_any2, s_any3, s_rng1, s_rng2, s_rng3, s_rng4, s_enum, s_enum1, s_enum2, s_gN, s_gsN, s_gsC, s_gT, s_var, s_var1, s_var2, s_var3, s_var4, s_meth, s_meth1, s_close, s_close1, s_close2, s_close3, s_six, s_six1, s_six2, s_retO, s_retO1, s_retO2, s_peek1, s_peekT1, s_peeks0, s_peeks1, s_wipe0, s_wipe1, s_lf1, s_lf2, s_app, s_ext, s_rem, s_cnt, s_idx, s_spl, s_ty1, s_ty2, s_dSeq, s_dIfS, s_dTest, s_dBin, s_dC, s_gEq, s_dRet, s_dNext, s_dRetN, s_dSet, s_dCons, s_dNil, s_dCB, s_dCall, s_dLc, s_dYes, s_dTup, s_dLst, s_dFor, s_dChain, s_dAndV, s_dOrV, s_dNotV, s_dAnd, s_dOr, s_dNot, s_dIf, s_dRaise, s_dAsg, s_dDrop, s_dMv, s_dIsi, s_dZip, Shp, shp_int, shp_bool, shp_none, PyData.eqv, List.length_cons, List.length_nil, List.replicate, List.cons_append, List.nil_append, List.getElem?_cons_zero, List.getElem?_cons_succ, List.append_nil, List.set_cons_zero, List.set_cons_succ, List.map_cons, List.map_nil, Nat.reduceAdd, Nat.reduceSub, Nat.zero_add, Nat.reduceLT, true_and, and_true, if_true, ite_true, ite_false, Bool.false_eq_true, bne_self_eq_false, Bool.bne_false, Bool.bne_true, Nat.sub_self, Nat.reduceLeDiff, Nat.zero_le, Nat.lt_add_one]
    refine p_lead ?_
    rw [ldO_iff.mpr lp]
    simp only [eO, eI, eR, gSub, gMod, gDiv, gPow, gShl, gShr, gAnd, gOr, gXor, gLt, gLe, gGt, gGe, C0, s_asD1, s_asD2, s_asDs0, s_asDs1, s_nrm1, s_nrm2, s_nrm3, s_nrm4, s_nrm5, s_bo, s_ret1, s_ret2, s_add1, s_add2, s_add3, s_add4, s_gI, s_mul1, s_mul2, s_mul3, s_gB, s_in1, s_in2, s_is1, s_is2, s_is3, s_is4, s_is5, s_is6, s_ix1, s_ix2, s_ix3, s_g1, s_g2, s_len1, s_len2, s_len3, s_tup1, s_tup2, s_lst1, s_lst2, s_abs, s_int1, s_int2, s_stri, s_bools, s_sum, s_sort, s_seq1, s_seq2, s_seq3, s_any, s_any1, s_any2, s_any3, s_rng1, s_rng2, s_rng3, s_rng4, s_enum, s_enum1, s_enum2, s_gN, s_gsN, s_gsC, s_gT, s_var, s_var1, s_var2, s_var3, s_var4, s_meth, s_meth1, s_close, s_close1, s_close2, s_close3, s_six, s_six1, s_six2, s_retO, s_retO1, s_retO2, s_peek1, s_peekT1, s_peeks0, s_peeks1, s_wipe0, s_wipe1, s_lf1, s_lf2, s_app, s_ext, s_rem, s_cnt, s_idx, s_spl, s_ty1, s_ty2, s_dSeq, s_dIfS, s_dTest, s_dBin, s_dC, s_gEq, s_dRet, s_dNext, s_dRetN, s_dSet, s_dCons, s_dNil, s_dCB, s_dCall, s_dLc, s_dYes, s_dTup, s_dLst, s_dFor, s_dChain, s_dAndV, s_dOrV, s_dNotV, s_dAnd, s_dOr, s_dNot, s_dIf, s_dRaise, s_dAsg, s_dDrop, s_dMv, s_dIsi, s_dZip, Shp, shp_int, shp_bool, shp_none, PyData.eqv, List.length_cons, List.length_nil, List.replicate, List.cons_append, List.nil_append, List.getElem?_cons_zero, List.getElem?_cons_succ, List.append_nil, List.set_cons_zero, List.set_cons_succ, List.map_cons, List.map_nil, Nat.reduceAdd, Nat.reduceSub, Nat.zero_add, Nat.reduceLT, true_and, and_true, if_true, ite_true, ite_false, Bool.false_eq_true, bne_self_eq_false, Bool.bne_false, Bool.bne_true, Nat.sub_self, Nat.reduceLeDiff, Nat.zero_le, Nat.lt_add_one]
    refine ⟨_, at_row (by rw [hrr.len]; exact hp), ?_⟩
    simp only [gSub, gMod, gDiv, gPow, gShl, gShr, gAnd, gOr, gXor, gLt, gLe, gGt, gGe, C0, s_asD1, s_asD2, s_asDs0, s_asDs1, s_nrm1, s_nrm2, s_nrm3, s_nrm4, s_nrm5, s_bo, s_ret1, s_ret2, s_add1, s_add2, s_add3, s_add4, s_gI, s_mul1, s_mul2, s_mul3, s_gB, s_in1, s_in2, s_is1, s_is2, s_is3, s_is4, s_is5, s_is6, s_ix1, s_ix2, s_ix3, s_g1, s_g2, s_len1, s_len2, s_len3, s_tup1, s_tup2, s_lst1, s_lst2, s_abs, s_int1, s_int2, s_stri, s_bools, s_sum, s_sort, s_seq1, s_seq2, s_seq3, s_any, s_any1, s_any2, s_any3, s_rng1, s_rng2, s_rng3, s_rng4, s_enum, s_enum1, s_enum2, s_gN, s_gsN, s_gsC, s_gT, s_var, s_var1, s_var2, s_var3, s_var4, s_meth, s_meth1, s_close, s_close1, s_close2, s_close3, s_six, s_six1, s_six2, s_retO, s_retO1, s_retO2, s_peek1, s_peekT1, s_peeks0, s_peeks1, s_wipe0, s_wipe1, s_lf1, s_lf2, s_app, s_ext, s_rem, s_cnt, s_idx, s_spl, s_ty1, s_ty2, s_dSeq, s_dIfS, s_dTest, s_dBin, s_dC, s_gEq, s_dRet, s_dNext, s_dRetN, s_dSet, s_dCons, s_dNil, s_dCB, s_dCall, s_dLc, s_dYes, s_dTup, s_dLst, s_dFor, s_dChain, s_dAndV, s_dOrV, s_dNotV, s_dAnd, s_dOr, s_dNot, s_dIf, s_dRaise, s_dAsg, s_dDrop, s_dMv, s_dIsi, s_dZip, Shp, shp_int, shp_bool, shp_none, PyData.eqv, List.length_cons, List.length_nil, List.replicate, List.cons_append, List.nil_append, List.getElem?_cons_zero, List.getElem?_cons_succ, List.append_nil, List.set_cons_zero, List.set_cons_succ, List.map_cons, List.map_nil, Nat.reduceAdd, Nat.reduceSub, Nat.zero_add, Nat.reduceLT, true_and, and_true, if_true, ite_true, ite_false, Bool.false_eq_true, bne_self_eq_false, Bool.bne_false, Bool.bne_true, Nat.sub_self, Nat.reduceLeDiff, Nat.zero_le, Nat.lt_add_one, eI]
    refine p_rowless g (getD_lt hrr hp) hrr ho ?_
    try simp only [gSub, gMod, gDiv, gPow, gShl, gShr, gAnd, gOr, gXor, gLt, gLe, gGt, gGe, C0, s_asD1, s_asD2, s_asDs0, s_asDs1, s_nrm1, s_nrm2, s_nrm3, s_nrm4, s_nrm5, s_bo, s_ret1, s_ret2, s_add1, s_add2, s_add3, s_add4, s_gI, s_mul1, s_mul2, s_mul3, s_gB, s_in1, s_in2, s_is1, s_is2, s_is3, s_is4, s_is5, s_is6, s_ix1, s_ix2, s_ix3, s_g1, s_g2, s_len1, s_len2, s_len3, s_tup1, s_tup2, s_lst1, s_lst2, s_abs, s_int1, s_int2, s_stri, s_bools, s_sum, s_sort, s_seq1, s_seq2, s_seq3, s_any, s_any1, s_any2, s_any3, s_rng1, s_rng2, s_rng3, s_rng4, s_enum, s_enum1, s_enum2, s_gN, s_gsN, s_gsC, s_gT, s_var, s_var1, s_var2, s_var3, s_var4, s_meth, s_meth1, s_close, s_close1, s_close2, s_close3, s_six, s_six1, s_six2, s_retO, s_retO1, s_retO2, s_peek1, s_peekT1, s_peeks0, s_peeks1, s_wipe0, s_wipe1, s_lf1, s_lf2, s_app, s_ext, s_rem, s_cnt, s_idx, s_spl, s_ty1, s_ty2, s_dSeq, s_dIfS, s_dTest, s_dBin, s_dC, s_gEq, s_dRet, s_dNext, s_dRetN, s_dSet, s_dCons, s_dNil, s_dCB, s_dCall, s_dLc, s_dYes, s_dTup, s_dLst, s_dFor, s_dChain, s_dAndV, s_dOrV, s_dNotV, s_dAnd, s_dOr, s_dNot, s_dIf, s_dRaise, s_dAsg, s_dDrop, s_dMv, s_dIsi, s_dZip, Shp, shp_int, shp_bool, shp_none, PyData.eqv, List.length_cons, List.length_nil, List.replicate, List.cons_append, List.nil_append, List.getElem?_cons_zero, List.getElem?_cons_succ, List.append_nil, List.set_cons_zero, List.set_cons_succ, List.map_cons, List.map_nil, Nat.reduceAdd, Nat.reduceSub, Nat.zero_add, Nat.reduceLT, true_and, and_true, if_true, ite_true, ite_false, Bool.false_eq_true, bne_self_eq_false, Bool.bne_false, Bool.bne_true, Nat.sub_self, Nat.reduceLeDiff, Nat.zero_le, Nat.lt_add_one]
    have key : le q (r.getD ((ldO one).getD 0) 0) r one = le q (r.getD p 0) r one := by rw [ldO_iff.mpr lp]; rfl
    exact hN _ ⟨⟨_, _, by rw [key]⟩, by rw [key]; exact le_rw g (getD_lt hrr hp) hrr ho⟩
  · obtain ⟨⟨a3, a4, rfl⟩, hrr⟩ := hP
    have er : found.foldl (fun row one => le q (row.getD ((ldO one).getD 0) 0) row one) row = redA q found row := rfl
    rw [er]
    try simp only [eR, gSub, gMod, gDiv, gPow, gShl, gShr, gAnd, gOr, gXor, gLt, gLe, gGt, gGe, C0, s_asD1, s_asD2, s_asDs0, s_asDs1, s_nrm1, s_nrm2, s_nrm3, s_nrm4, s_nrm5, s_bo, s_ret1, s_ret2, s_add1, s_add2, s_add3, s_add4, s_gI, s_mul1, s_mul2, s_mul3, s_gB, s_in1, s_in2, s_is1, s_is2, s_is3, s_is4, s_is5, s_is6, s_ix1, s_ix2, s_ix3, s_g1, s_g2, s_len1, s_len2, s_len3, s_tup1, s_tup2, s_lst1, s_lst2, s_abs, s_int1, s_int2, s_stri, s_bools, s_sum, s_sort, s_seq1, s_seq2, s_seq3, s_any, s_any1, s_any2, s_any3, s_rng1, s_rng2, s_rng3, s_rng4, s_enum, s_enum1, s_enum2, s_gN, s_gsN, s_gsC, s_gT, s_var, s_var1, s_var2, s_var3, s_var4, s_meth, s_meth1, s_close, s_close1, s_close2, s_close3, s_six, s_six1, s_six2, s_retO, s_retO1, s_retO2, s_peek1, s_peekT1, s_peeks0, s_peeks1, s_wipe0, s_wipe1, s_lf1, s_lf2, s_app, s_ext, s_rem, s_cnt, s_idx, s_spl, s_ty1, s_ty2, s_dSeq, s_dIfS, s_dTest, s_dBin, s_dC, s_gEq, s_dRet, s_dNext, s_dRetN, s_dSet, s_dCons, s_dNil, s_dCB, s_dCall, s_dLc, s_dYes, s_dTup, s_dLst, s_dFor, s_dChain, s_dAndV, s_dOrV, s_dNotV, s_dAnd, s_dOr, s_dNot, s_dIf, s_dRaise, s_dAsg, s_dDrop, s_dMv, s_dIsi, s_dZip, Shp, shp_int, shp_bool, shp_none, PyData.eqv, List.length_cons, List.length_nil, List.replicate, List.cons_append, List.nil_append, List.getElem?_cons_zero, List.getElem?_cons_succ, List.append_nil, List.set_cons_zero, List.set_cons_succ, List.map_cons, List.map_nil, Nat.reduceAdd, Nat.reduceSub, Nat.zero_add, Nat.reduceLT, true_and, and_true, if_true, ite_true, ite_false, Bool.false_eq_true, bne_self_eq_false, Bool.bne_false, Bool.bne_true, Nat.sub_self, Nat.reduceLeDiff, Nat.zero_le, Nat.lt_add_one]
    refine p_lead ?_
    unfold withA at h1 h2
    cases e : ldO (redA q found row) with
    | none =>
      rw [e] at h1
      try simp only [eO, gSub, gMod, gDiv, gPow, gShl, gShr, gAnd, gOr, gXor, gLt, gLe, gGt, gGe, C0, s_asD1, s_asD2, s_asDs0, s_asDs1, s_nrm1, s_nrm2, s_nrm3, s_nrm4, s_nrm5, s_bo, s_ret1, s_ret2, s_add1, s_add2, s_add3, s_add4, s_gI, s_mul1, s_mul2, s_mul3, s_gB, s_in1, s_in2, s_is1, s_is2, s_is3, s_is4, s_is5, s_is6, s_ix1, s_ix2, s_ix3, s_g1, s_g2, s_len1, s_len2, s_len3, s_tup1, s_tup2, s_lst1, s_lst2, s_abs, s_int1, s_int2, s_stri, s_bools, s_sum, s_sort, s_seq1, s_seq2, s_seq3, s_any, s_any1, s_any2, s_any3, s_rng1, s_rng2, s_rng3, s_rng4, s_enum, s_enum1, s_enum2, s_gN, s_gsN, s_gsC, s_gT, s_var, s_var1, s_var2, s_var3, s_var4, s_meth, s_meth1, s_close, s_close1, s_close2, s_close3, s_six, s_six1, s_six2, s_retO, s_retO1, s_retO2, s_peek1, s_peekT1, s_peeks0, s_peeks1, s_wipe0, s_wipe1, s_lf1, s_lf2, s_app, s_ext, s_rem, s_cnt, s_idx, s_spl, s_ty1, s_ty2, s_dSeq, s_dIfS, s_dTest, s_dBin, s_dC, s_gEq, s_dRet, s_dNext, s_dRetN, s_dSet, s_dCons, s_dNil, s_dCB, s_dCall, s_dLc, s_dYes, s_dTup, s_dLst, s_dFor, s_dChain, s_dAndV, s_dOrV, s_dNotV, s_dAnd, s_dOr, s_dNot, s_dIf, s_dRaise, s_dAsg, s_dDrop, s_dMv, s_dIsi, s_dZip, Shp, shp_int, shp_bool, shp_none, PyData.eqv, List.length_cons, List.length_nil, List.replicate, List.cons_append, List.nil_append, List.getElem?_cons_zero, List.getElem?_cons_succ, List.append_nil, List.set_cons_zero, List.set_cons_succ, List.map_cons, List.map_nil, Nat.reduceAdd, Nat.reduceSub, Nat.zero_add, Nat.reduceLT, true_and, and_true, if_true, ite_true, ite_false, Bool.false_eq_true, bne_self_eq_false, Bool.bne_false, Bool.bne_true, Nat.sub_self, Nat.reduceLeDiff, Nat.zero_le, Nat.lt_add_one]
      exact h1
    | some p =>
      rw [e] at h2
      have lp := ldO_iff.mp e
      have hpn : p < n := by rw [← kr.1.len]; exact lp.lt
      obtain ⟨s1, s2⟩ := sc_ld g kr.1 lp
      have hs := sc_rw g (iv_lt g (getD_lt kr.1 hpn)) kr.1
      try simp only [eO, eI, eR, gSub, gMod, gDiv, gPow, gShl, gShr, gAnd, gOr, gXor, gLt, gLe, gGt, gGe, C0, s_asD1, s_asD2, s_asDs0, s_asDs1, s_nrm1, s_nrm2, s_nrm3, s_nrm4, s_nrm5, s_bo, s_ret1, s_ret2, s_add1, s_add2, s_add3, s_add4, s_gI, s_mul1, s_mul2, s_mul3, s_gB, s_in1, s_in2, s_is1, s_is2, s_is3, s_is4, s_is5, s_is6, s_ix1, s_ix2, s_ix3, s_g1, s_g2, s_len1, s_len2, s_len3, s_tup1, s_tup2, s_lst1, s_lst2, s_abs, s_int1, s_int2, s_stri, s_bools, s_sum, s_sort, s_seq1, s_seq2, s_seq3, s_any, s_any1, s_any2, s_any3, s_rng1, s_rng2, s_rng3, s_rng4, s_enum, s_enum1, s_enum2, s_gN, s_gsN, s_gsC, s_gT, s_var, s_var1, s_var2, s_var3, s_var4, s_meth, s_meth1, s_close, s_close1, s_close2, s_close3, s_six, s_six1, s_six2, s_retO, s_retO1, s_retO2, s_peek1, s_peekT1, s_peeks0, s_peeks1, s_wipe0, s_wipe1, s_lf1, s_lf2, s_app, s_ext, s_rem, s_cnt, s_idx, s_spl, s_ty1, s_ty2, s_dSeq, s_dIfS, s_dTest, s_dBin, s_dC, s_gEq, s_dRet, s_dNext, s_dRetN, s_dSet, s_dCons, s_dNil, s_dCB, s_dCall, s_dLc, s_dYes, s_dTup, s_dLst, s_dFor, s_dChain, s_dAndV, s_dOrV, s_dNotV, s_dAnd, s_dOr, s_dNot, s_dIf, s_dRaise, s_dAsg, s_dDrop, s_dMv, s_dIsi, s_dZip, Shp, shp_int, shp_bool, shp_none, PyData.eqv, List.length_cons, List.length_nil, List.replicate, List.cons_append, List.nil_append, List.getElem?_cons_zero, List.getElem?_cons_succ, List.append_nil, List.set_cons_zero, List.set_cons_succ, List.map_cons, List.map_nil, Nat.reduceAdd, Nat.reduceSub, Nat.zero_add, Nat.reduceLT, true_and, and_true, if_true, ite_true, ite_false, Bool.false_eq_true, bne_self_eq_false, Bool.bne_false, Bool.bne_true, Nat.sub_self, Nat.reduceLeDiff, Nat.zero_le, Nat.lt_add_one]
      refine p_scaled g kr.1 lp ?_
      try simp only [eR, gSub, gMod, gDiv, gPow, gShl, gShr, gAnd, gOr, gXor, gLt, gLe, gGt, gGe, C0, s_asD1, s_asD2, s_asDs0, s_asDs1, s_nrm1, s_nrm2, s_nrm3, s_nrm4, s_nrm5, s_bo, s_ret1, s_ret2, s_add1, s_add2, s_add3, s_add4, s_gI, s_mul1, s_mul2, s_mul3, s_gB, s_in1, s_in2, s_is1, s_is2, s_is3, s_is4, s_is5, s_is6, s_ix1, s_ix2, s_ix3, s_g1, s_g2, s_len1, s_len2, s_len3, s_tup1, s_tup2, s_lst1, s_lst2, s_abs, s_int1, s_int2, s_stri, s_bools, s_sum, s_sort, s_seq1, s_seq2, s_seq3, s_any, s_any1, s_any2, s_any3, s_rng1, s_rng2, s_rng3, s_rng4, s_enum, s_enum1, s_enum2, s_gN, s_gsN, s_gsC, s_gT, s_var, s_var1, s_var2, s_var3, s_var4, s_meth, s_meth1, s_close, s_close1, s_close2, s_close3, s_six, s_six1, s_six2, s_retO, s_retO1, s_retO2, s_peek1, s_peekT1, s_peeks0, s_peeks1, s_wipe0, s_wipe1, s_lf1, s_lf2, s_app, s_ext, s_rem, s_cnt, s_idx, s_spl, s_ty1, s_ty2, s_dSeq, s_dIfS, s_dTest, s_dBin, s_dC, s_gEq, s_dRet, s_dNext, s_dRetN, s_dSet, s_dCons, s_dNil, s_dCB, s_dCall, s_dLc, s_dYes, s_dTup, s_dLst, s_dFor, s_dChain, s_dAndV, s_dOrV, s_dNotV, s_dAnd, s_dOr, s_dNot, s_dIf, s_dRaise, s_dAsg, s_dDrop, s_dMv, s_dIsi, s_dZip, Shp, shp_int, shp_bool, shp_none, PyData.eqv, List.length_cons, List.length_nil, List.replicate, List.cons_append, List.nil_append, List.getElem?_cons_zero, List.getElem?_cons_succ, List.append_nil, List.set_cons_zero, List.set_cons_succ, List.map_cons, List.map_nil, Nat.reduceAdd, Nat.reduceSub, Nat.zero_add, Nat.reduceLT, true_and, and_true, if_true, ite_true, ite_false, Bool.false_eq_true, bne_self_eq_false, Bool.bne_false, Bool.bne_true, Nat.sub_self, Nat.reduceLeDiff, Nat.zero_le, Nat.lt_add_one]
      refine p_lead ?_
      rw [ldO_iff.mpr s1]
      try simp only [eO, eI, eR, gSub, gMod, gDiv, gPow, gShl, gShr, gAnd, gOr, gXor, gLt, gLe, gGt, gGe, C0, s_asD1, s_asD2, s_asDs0, s_asDs1, s_nrm1, s_nrm2, s_nrm3, s_nrm4, s_nrm5, s_bo, s_ret1, s_ret2, s_add1, s_add2, s_add3, s_add4, s_gI, s_mul1, s_mul2, s_mul3, s_gB, s_in1, s_in2, s_is1, s_is2, s_is3, s_is4, s_is5, s_is6, s_ix1, s_ix2, s_ix3, s_g1, s_g2, s_len1, s_len2, s_len3, s_tup1, s_tup2, s_lst1, s_lst2, s_abs, s_int1, s_int2, s_stri, s_bools, s_sum, s_sort, s_seq1, s_seq2, s_seq3, s_any, s_any1, s_any2, s_any3, s_rng1, s_rng2, s_rng3, s_rng4, s_enum, s_enum1, s_enum2, s_gN, s_gsN, s_gsC, s_gT, s_var, s_var1, s_var2, s_var3, s_var4, s_meth, s_meth1, s_close, s_close1, s_close2, s_close3, s_six, s_six1, s_six2, s_retO, s_retO1, s_retO2, s_peek1, s_peekT1, s_peeks0, s_peeks1, s_wipe0, s_wipe1, s_lf1, s_lf2, s_app, s_ext, s_rem, s_cnt, s_idx, s_spl, s_ty1, s_ty2, s_dSeq, s_dIfS, s_dTest, s_dBin, s_dC, s_gEq, s_dRet, s_dNext, s_dRetN, s_dSet, s_dCons, s_dNil, s_dCB, s_dCall, s_dLc, s_dYes, s_dTup, s_dLst, s_dFor, s_dChain, s_dAndV, s_dOrV, s_dNotV, s_dAnd, s_dOr, s_dNot, s_dIf, s_dRaise, s_dAsg, s_dDrop, s_dMv, s_dIsi, s_dZip, Shp, shp_int, shp_bool, shp_none, PyData.eqv, List.length_cons, List.length_nil, List.replicate, List.cons_append, List.nil_append, List.getElem?_cons_zero, List.getElem?_cons_succ, List.append_nil, List.set_cons_zero, List.set_cons_succ, List.map_cons, List.map_nil, Nat.reduceAdd, Nat.reduceSub, Nat.zero_add, Nat.reduceLT, true_and, and_true, if_true, ite_true, ite_false, Bool.false_eq_true, bne_self_eq_false, Bool.bne_false, Bool.bne_true, Nat.sub_self, Nat.reduceLeDiff, Nat.zero_le, Nat.lt_add_one]
      refine lc_map eR (fun one => eR (le q (one.getD p 0) one (sc q (iv q ((redA q found row).getD p 0)) (redA q found row)))) found (fun one ho R hR' => ?_) ?_
      · try simp only [gSub, gMod, gDiv, gPow, gShl, gShr, gAnd, gOr, gXor, gLt, gLe, gGt, gGe, C0, s_asD1, s_asD2, s_asDs0, s_asDs1, s_nrm1, s_nrm2, s_nrm3, s_nrm4, s_nrm5, s_bo, s_ret1, s_ret2, s_add1, s_add2, s_add3, s_add4, s_gI, s_mul1, s_mul2, s_mul3, s_gB, s_in1, s_in2, s_is1, s_is2, s_is3, s_is4, s_is5, s_is6, s_ix1, s_ix2, s_ix3, s_g1, s_g2, s_len1, s_len2, s_len3, s_tup1, s_tup2, s_lst1, s_lst2, s_abs, s_int1, s_int2, s_stri, s_bools, s_sum, s_sort, s_seq1, s_seq2, s_seq3, s_any, s_any1, s_any2, s_any3, s_rng1, s_rng2, s_rng3, s_rng4, s_enum, s_enum1, s_enum2, s_gN, s_gsN, s_gsC, s_gT, s_var, s_var1, s_var2, s_var3, s_var4, s_meth, s_meth1, s_close, s_close1, s_close2, s_close3, s_six, s_six1, s_six2, s_retO, s_retO1, s_retO2, s_peek1, s_peekT1, s_peeks0, s_peeks1, s_wipe0, s_wipe1, s_lf1, s_lf2, s_app, s_ext, s_rem, s_cnt, s_idx, s_spl, s_ty1, s_ty2, s_dSeq, s_dIfS, s_dTest, s_dBin, s_dC, s_gEq, s_dRet, s_dNext, s_dRetN, s_dSet, s_dCons, s_dNil, s_dCB, s_dCall, s_dLc, s_dYes, s_dTup, s_dLst, s_dFor, s_dChain, s_dAndV, s_dOrV, s_dNotV, s_dAnd, s_dOr, s_dNot, s_dIf, s_dRaise, s_dAsg, s_dDrop, s_dMv, s_dIsi, s_dZip, Shp, shp_int, shp_bool, shp_none, PyData.eqv, List.length_cons, List.length_nil, List.replicate, List.cons_append, List.nil_append, List.getElem?_cons_zero, List.getElem?_cons_succ, List.append_nil, List.set_cons_zero, List.set_cons_succ, List.map_cons, List.map_nil, Nat.reduceAdd, Nat.reduceSub, Nat.zero_add, Nat.reduceLT, true_and, and_true, if_true, ite_true, ite_false, Bool.false_eq_true, bne_self_eq_false, Bool.bne_false, Bool.bne_true, Nat.sub_self, Nat.reduceLeDiff, Nat.zero_le, Nat.lt_add_one, eR]
        refine ⟨_, at_row (by rw [(hR.rw_ one ho).len]; exact hpn), ?_⟩
        try simp only [gSub, gMod, gDiv, gPow, gShl, gShr, gAnd, gOr, gXor, gLt, gLe, gGt, gGe, C0, s_asD1, s_asD2, s_asDs0, s_asDs1, s_nrm1, s_nrm2, s_nrm3, s_nrm4, s_nrm5, s_bo, s_ret1, s_ret2, s_add1, s_add2, s_add3, s_add4, s_gI, s_mul1, s_mul2, s_mul3, s_gB, s_in1, s_in2, s_is1, s_is2, s_is3, s_is4, s_is5, s_is6, s_ix1, s_ix2, s_ix3, s_g1, s_g2, s_len1, s_len2, s_len3, s_tup1, s_tup2, s_lst1, s_lst2, s_abs, s_int1, s_int2, s_stri, s_bools, s_sum, s_sort, s_seq1, s_seq2, s_seq3, s_any, s_any1, s_any2, s_any3, s_rng1, s_rng2, s_rng3, s_rng4, s_enum, s_enum1, s_enum2, s_gN, s_gsN, s_gsC, s_gT, s_var, s_var1, s_var2, s_var3, s_var4, s_meth, s_meth1, s_close, s_close1, s_close2, s_close3, s_six, s_six1, s_six2, s_retO, s_retO1, s_retO2, s_peek1, s_peekT1, s_peeks0, s_peeks1, s_wipe0, s_wipe1, s_lf1, s_lf2, s_app, s_ext, s_rem, s_cnt, s_idx, s_spl, s_ty1, s_ty2, s_dSeq, s_dIfS, s_dTest, s_dBin, s_dC, s_gEq, s_dRet, s_dNext, s_dRetN, s_dSet, s_dCons, s_dNil, s_dCB, s_dCall, s_dLc, s_dYes, s_dTup, s_dLst, s_dFor, s_dChain, s_dAndV, s_dOrV, s_dNotV, s_dAnd, s_dOr, s_dNot, s_dIf, s_dRaise, s_dAsg, s_dDrop, s_dMv, s_dIsi, s_dZip, Shp, shp_int, shp_bool, shp_none, PyData.eqv, List.length_cons, List.length_nil, List.replicate, List.cons_append, List.nil_append, List.getElem?_cons_zero, List.getElem?_cons_succ, List.append_nil, List.set_cons_zero, List.set_cons_succ, List.map_cons, List.map_nil, Nat.reduceAdd, Nat.reduceSub, Nat.zero_add, Nat.reduceLT, true_and, and_true, if_true, ite_true, ite_false, Bool.false_eq_true, bne_self_eq_false, Bool.bne_false, Bool.bne_true, Nat.sub_self, Nat.reduceLeDiff, Nat.zero_le, Nat.lt_add_one, eI]
        exact p_rowless g (getD_lt (hR.rw_ one ho) hpn) (hR.rw_ one ho) hs hR'
      try simp only [gSub, gMod, gDiv, gPow, gShl, gShr, gAnd, gOr, gXor, gLt, gLe, gGt, gGe, C0, s_asD1, s_asD2, s_asDs0, s_asDs1, s_nrm1, s_nrm2, s_nrm3, s_nrm4, s_nrm5, s_bo, s_ret1, s_ret2, s_add1, s_add2, s_add3, s_add4, s_gI, s_mul1, s_mul2, s_mul3, s_gB, s_in1, s_in2, s_is1, s_is2, s_is3, s_is4, s_is5, s_is6, s_ix1, s_ix2, s_ix3, s_g1, s_g2, s_len1, s_len2, s_len3, s_tup1, s_tup2, s_lst1, s_lst2, s_abs, s_int1, s_int2, s_stri, s_bools, s_sum, s_sort, s_seq1, s_seq2, s_seq3, s_any, s_any1, s_any2, s_any3, s_rng1, s_rng2, s_rng3, s_rng4, s_enum, s_enum1, s_enum2, s_gN, s_gsN, s_gsC, s_gT, s_var, s_var1, s_var2, s_var3, s_var4, s_meth, s_meth1, s_close, s_close1, s_close2, s_close3, s_six, s_six1, s_six2, s_retO, s_retO1, s_retO2, s_peek1, s_peekT1, s_peeks0, s_peeks1, s_wipe0, s_wipe1, s_lf1, s_lf2, s_app, s_ext, s_rem, s_cnt, s_idx, s_spl, s_ty1, s_ty2, s_dSeq, s_dIfS, s_dTest, s_dBin, s_dC, s_gEq, s_dRet, s_dNext, s_dRetN, s_dSet, s_dCons, s_dNil, s_dCB, s_dCall, s_dLc, s_dYes, s_dTup, s_dLst, s_dFor, s_dChain, s_dAndV, s_dOrV, s_dNotV, s_dAnd, s_dOr, s_dNot, s_dIf, s_dRaise, s_dAsg, s_dDrop, s_dMv, s_dIsi, s_dZip, Shp, shp_int, shp_bool, shp_none, PyData.eqv, List.length_cons, List.length_nil, List.replicate, List.cons_append, List.nil_append, List.getElem?_cons_zero, List.getElem?_cons_succ, List.append_nil, List.set_cons_zero, List.set_cons_succ, List.map_cons, List.map_nil, Nat.reduceAdd, Nat.reduceSub, Nat.zero_add, Nat.reduceLT, true_and, and_true, if_true, ite_true, ite_false, Bool.false_eq_true, bne_self_eq_false, Bool.bne_false, Bool.bne_true, Nat.sub_self, Nat.reduceLeDiff, Nat.zero_le, Nat.lt_add_one]
      refine ⟨by rw [List.length_map]; omega, ?_⟩
      have e2 : found.map (fun one => eR (le q (one.getD p 0) one (sc q (iv q ((redA q found row).getD p 0)) (redA q found row)))) ++ [.tuple ((sc q (iv q ((redA q found row).getD p 0)) (redA q found row)).map eI)] = (putA q found (sc q (iv q ((redA q found row).getD p 0)) (redA q found row)) p).map eR := by
        unfold putA
        rw [List.map_append, List.map_map]
        rfl
      rw [e2]
      have hw : RwS q n (putA q found (sc q (iv q ((redA q found row).getD p 0)) (redA q found row)) p) := fun r hr' => by
        unfold putA at hr'
        rcases List.mem_append.mp hr' with hr' | hr'
        · obtain ⟨one, ho, rfl⟩ := List.mem_map.mp hr'
          exact le_rw g (getD_lt (hR.rw_ one ho) hpn) (hR.rw_ one ho) hs
        · rw [List.mem_singleton.mp hr']; exact hs
      refine ⟨alike_all _, sortable_all hw (by omega), depth_all _, ?_⟩
      rw [srtD_rows]
      exact h2
theorem withA_len {q : Nat} {found : List (List Nat)} {row : List Nat} : (withA q found row).length ≤ found.length + 1 := by
  unfold withA
  split
  · omega
  · rw [(sortD_perm _).length_eq]
    unfold putA
    rw [List.length_append, List.length_map]
    simp
/-- lowest_known: the rows in a list or a tuple -/
theorem p_lowA_walk {q n : Nat} {U : En} (g : G q) (X1 : Slot) : ∀ (rows found : List (List Nat)) (X2 a3 : Slot), (X2 = .own (found.map eR) ∨ X2 = .sh (.list (found.map eR))) → Red q n found → RwS q n rows → found.length + rows.length ≤ 1000 →
    (∀ X2 a3, (X2 = .own ((rows.foldl (withA q) found).map eR) ∨ X2 = .sh (.list ((rows.foldl (withA q) found).map eR))) → U.nx [.sh (.int q), X1, X2, a3]) →
    forGo (gN 3) (dClose 2 (dSet 2 (dCall F_with_one (dCons (dVar 0) (dCons (dVar 2) (dCons (dCB (g1 fTuple) (dCons (dVar 3) dNil)) dNil)))))) U (rows.map eR) [.sh (.int q), X1, X2, a3]
  | [], found, X2, a3, hX, hR, hw, hl, h => h X2 a3 hX
  | row :: rows, found, X2, a3, hX, hR, hw, hl, h => by
    have hr := hw row (by simp)
    have hl' : found.length ≤ 1000 := by rw [List.length_cons] at hl; omega
    have go : ∀ Y, (Y = .own ((withA q found row).map eR) ∨ Y = .sh (.list ((withA q found row).map eR))) → forGo (gN 3) (dClose 2 (dSet 2 (dCall F_with_one (dCons (dVar 0) (dCons (dVar 2) (dCons (dCB (g1 fTuple) (dCons (dVar 3) dNil)) dNil)))))) U (rows.map eR) [.sh (.int q), X1, Y, .sh (eR row)] := fun Y hY =>
      p_lowA_walk g X1 rows (withA q found row) Y _ hY (withA_red g hR hr) (fun x hx => hw x (List.mem_cons_of_mem _ hx)) (by have := withA_len (q := q) (found := found) (row := row); rw [List.length_cons] at hl; omega) h
    rw [List.map_cons, forGo]
    rcases hX with rfl | rfl
    · simp only [eR, gSub, gMod, gDiv, gPow, gShl, gShr, gAnd, gOr, gXor, gLt, gLe, gGt, gGe, C0, s_asD1, s_asD2, s_asDs0, s_asDs1, s_nrm1, s_nrm2, s_nrm3, s_nrm4, s_nrm5, s_bo, s_ret1, s_ret2, s_add1, s_add2, s_add3, s_add4, s_gI, s_mul1, s_mul2, s_mul3, s_gB, s_in1, s_in2, s_is1, s_is2, s_is3, s_is4, s_is5, s_is6, s_ix1, s_ix2, s_ix3, s_g1, s_g2, s_len1, s_len2, s_len3, s_tup1, s_tup2, s_lst1, s_lst2, s_abs, s_int1, s_int2, s_stri, s_bools, s_sum, s_sort, s_seq1, s_seq2, s_seq3, s_any, s_any1, s_any2, s_any3, s_rng1, s_rng2, s_rng3, s_rng4, s_enum, s_enum1, s_enum2, s_gN, s_gsN, s_gsC, s_gT, s_var, s_var1, s_var2, s_var3, s_var4, s_meth, s_meth1, s_close, s_close1, s_close2, s_close3, s_six, s_six1, s_six2, s_retO, s_retO1, s_retO2, s_peek1, s_peekT1, s_peeks0, s_peeks1, s_wipe0, s_wipe1, s_lf1, s_lf2, s_app, s_ext, s_rem, s_cnt, s_idx, s_spl, s_ty1, s_ty2, s_dSeq, s_dIfS, s_dTest, s_dBin, s_dC, s_gEq, s_dRet, s_dNext, s_dRetN, s_dSet, s_dCons, s_dNil, s_dCB, s_dCall, s_dLc, s_dYes, s_dTup, s_dLst, s_dFor, s_dChain, s_dAndV, s_dOrV, s_dNotV, s_dAnd, s_dOr, s_dNot, s_dIf, s_dRaise, s_dAsg, s_dDrop, s_dMv, s_dIsi, s_dZip, Shp, shp_int, shp_bool, shp_none, PyData.eqv, List.length_cons, List.length_nil, List.replicate, List.cons_append, List.nil_append, List.getElem?_cons_zero, List.getElem?_cons_succ, List.append_nil, List.set_cons_zero, List.set_cons_succ, List.map_cons, List.map_nil, Nat.reduceAdd, Nat.reduceSub, Nat.zero_add, Nat.reduceLT, true_and, and_true, if_true, ite_true, ite_false, Bool.false_eq_true, bne_self_eq_false, Bool.bne_false, Bool.bne_true, Nat.sub_self, Nat.reduceLeDiff, Nat.zero_le, Nat.lt_add_one]
      exact p_withone g hR hr hl' (go _ (.inr rfl)) (go _ (.inl rfl))
    · simp only [eR, gSub, gMod, gDiv, gPow, gShl, gShr, gAnd, gOr, gXor, gLt, gLe, gGt, gGe, C0, s_asD1, s_asD2, s_asDs0, s_asDs1, s_nrm1, s_nrm2, s_nrm3, s_nrm4, s_nrm5, s_bo, s_ret1, s_ret2, s_add1, s_add2, s_add3, s_add4, s_gI, s_mul1, s_mul2, s_mul3, s_gB, s_in1, s_in2, s_is1, s_is2, s_is3, s_is4, s_is5, s_is6, s_ix1, s_ix2, s_ix3, s_g1, s_g2, s_len1, s_len2, s_len3, s_tup1, s_tup2, s_lst1, s_lst2, s_abs, s_int1, s_int2, s_stri, s_bools, s_sum, s_sort, s_seq1, s_seq2, s_seq3, s_any, s_any1, s_any2, s_any3, s_rng1, s_rng2, s_rng3, s_rng4, s_enum, s_enum1, s_enum2, s_gN, s_gsN, s_gsC, s_gT, s_var, s_var1, s_var2, s_var3, s_var4, s_meth, s_meth1, s_close, s_close1, s_close2, s_close3, s_six, s_six1, s_six2, s_retO, s_retO1, s_retO2, s_peek1, s_peekT1, s_peeks0, s_peeks1, s_wipe0, s_wipe1, s_lf1, s_lf2, s_app, s_ext, s_rem, s_cnt, s_idx, s_spl, s_ty1, s_ty2, s_dSeq, s_dIfS, s_dTest, s_dBin, s_dC, s_gEq, s_dRet, s_dNext, s_dRetN, s_dSet, s_dCons, s_dNil, s_dCB, s_dCall, s_dLc, s_dYes, s_dTup, s_dLst, s_dFor, s_dChain, s_dAndV, s_dOrV, s_dNotV, s_dAnd, s_dOr, s_dNot, s_dIf, s_dRaise, s_dAsg, s_dDrop, s_dMv, s_dIsi, s_dZip, Shp, shp_int, shp_bool, shp_none, PyData.eqv, List.length_cons, List.length_nil, List.replicate, List.cons_append, List.nil_append, List.getElem?_cons_zero, List.getElem?_cons_succ, List.append_nil, List.set_cons_zero, List.set_cons_succ, List.map_cons, List.map_nil, Nat.reduceAdd, Nat.reduceSub, Nat.zero_add, Nat.reduceLT, true_and, and_true, if_true, ite_true, ite_false, Bool.false_eq_true, bne_self_eq_false, Bool.bne_false, Bool.bne_true, Nat.sub_self, Nat.reduceLeDiff, Nat.zero_le, Nat.lt_add_one]
      exact p_withone g hR hr hl' (go _ (.inr rfl)) (go _ (.inl rfl))
theorem p_lowA {q n : Nat} {rows : List (List Nat)} {d : D} {Q : SK} {E : EK} (g : G q) (hd : d = .list (rows.map eR) ∨ d = .tuple (rows.map eR)) (h : RwS q n rows) (hl : rows.length ≤ 1000) (h1 : Q (.sh (.list ((lowA q rows).map eR)))) (h2 : Q (.own ((lowA q rows).map eR))) :
    F_lowest_known [.sh (.int q), .sh d] Q E := by
  have fin : ∀ X2 a3, (X2 = .own ((rows.foldl (withA q) []).map eR) ∨ X2 = .sh (.list ((rows.foldl (withA q) []).map eR))) → retOD ([Slot.sh (.int q), .sh d, X2, a3][2]?) (retS Q) := fun X2 a3 hX => by
    rcases hX with rfl | rfl
    · exact h2
    · exact h1
  rcases hd with rfl | rfl
  · simp only [E_lowest_known, den_lowest_known, gSub, gMod, gDiv, gPow, gShl, gShr, gAnd, gOr, gXor, gLt, gLe, gGt, gGe, C0, s_asD1, s_asD2, s_asDs0, s_asDs1, s_nrm1, s_nrm2, s_nrm3, s_nrm4, s_nrm5, s_bo, s_ret1, s_ret2, s_add1, s_add2, s_add3, s_add4, s_gI, s_mul1, s_mul2, s_mul3, s_gB, s_in1, s_in2, s_is1, s_is2, s_is3, s_is4, s_is5, s_is6, s_ix1, s_ix2, s_ix3, s_g1, s_g2, s_len1, s_len2, s_len3, s_tup1, s_tup2, s_lst1, s_lst2, s_abs, s_int1, s_int2, s_stri, s_bools, s_sum, s_sort, s_seq1, s_seq2, s_seq3, s_any, s_any1, s_any2, s_any3, s_rng1, s_rng2, s_rng3, s_rng4, s_enum, s_enum1, s_enum2, s_gN, s_gsN, s_gsC, s_gT, s_var, s_var1, s_var2, s_var3, s_var4, s_meth, s_meth1, s_close, s_close1, s_close2, s_close3, s_six, s_six1, s_six2, s_retO, s_retO1, s_retO2, s_peek1, s_peekT1, s_peeks0, s_peeks1, s_wipe0, s_wipe1, s_lf1, s_lf2, s_app, s_ext, s_rem, s_cnt, s_idx, s_spl, s_ty1, s_ty2, s_dSeq, s_dIfS, s_dTest, s_dBin, s_dC, s_gEq, s_dRet, s_dNext, s_dRetN, s_dSet, s_dCons, s_dNil, s_dCB, s_dCall, s_dLc, s_dYes, s_dTup, s_dLst, s_dFor, s_dChain, s_dAndV, s_dOrV, s_dNotV, s_dAnd, s_dOr, s_dNot, s_dIf, s_dRaise, s_dAsg, s_dDrop, s_dMv, s_dIsi, s_dZip, Shp, shp_int, shp_bool, shp_none, PyData.eqv, List.length_cons, List.length_nil, List.replicate, List.cons_append, List.nil_append, List.getElem?_cons_zero, List.getElem?_cons_succ, List.append_nil, List.set_cons_zero, List.set_cons_succ, List.map_cons, List.map_nil, Nat.reduceAdd, Nat.reduceSub, Nat.zero_add, Nat.reduceLT, true_and, and_true, if_true, ite_true, ite_false, Bool.false_eq_true, bne_self_eq_false, Bool.bne_false, Bool.bne_true, Nat.sub_self, Nat.reduceLeDiff, Nat.zero_le, Nat.lt_add_one]
    refine p_lowA_walk g _ rows [] _ _ (.inl rfl) Red.nil h (by simpa using hl) fun X2 a3 hX => fin X2 a3 hX
  · simp only [E_lowest_known, den_lowest_known, gSub, gMod, gDiv, gPow, gShl, gShr, gAnd, gOr, gXor, gLt, gLe, gGt, gGe, C0, s_asD1, s_asD2, s_asDs0, s_asDs1, s_nrm1, s_nrm2, s_nrm3, s_nrm4, s_nrm5, s_bo, s_ret1, s_ret2, s_add1, s_add2, s_add3, s_add4, s_gI, s_mul1, s_mul2, s_mul3, s_gB, s_in1, s_in2, s_is1, s_is2, s_is3, s_is4, s_is5, s_is6, s_ix1, s_ix2, s_ix3, s_g1, s_g2, s_len1, s_len2, s_len3, s_tup1, s_tup2, s_lst1, s_lst2, s_abs, s_int1, s_int2, s_stri, s_bools, s_sum, s_sort, s_seq1, s_seq2, s_seq3, s_any, s_any1, s_any2, s_any3, s_rng1, s_rng2, s_rng3, s_rng4, s_enum, s_enum1, s_enum2, s_gN, s_gsN, s_gsC, s_gT, s_var, s_var1, s_var2, s_var3, s_var4, s_meth, s_meth1, s_close, s_close1, s_close2, s_close3, s_six, s_six1, s_six2, s_retO, s_retO1, s_retO2, s_peek1, s_peekT1, s_peeks0, s_peeks1, s_wipe0, s_wipe1, s_lf1, s_lf2, s_app, s_ext, s_rem, s_cnt, s_idx, s_spl, s_ty1, s_ty2, s_dSeq, s_dIfS, s_dTest, s_dBin, s_dC, s_gEq, s_dRet, s_dNext, s_dRetN, s_dSet, s_dCons, s_dNil, s_dCB, s_dCall, s_dLc, s_dYes, s_dTup, s_dLst, s_dFor, s_dChain, s_dAndV, s_dOrV, s_dNotV, s_dAnd, s_dOr, s_dNot, s_dIf, s_dRaise, s_dAsg, s_dDrop, s_dMv, s_dIsi, s_dZip, Shp, shp_int, shp_bool, shp_none, PyData.eqv, List.length_cons, List.length_nil, List.replicate, List.cons_append, List.nil_append, List.getElem?_cons_zero, List.getElem?_cons_succ, List.append_nil, List.set_cons_zero, List.set_cons_succ, List.map_cons, List.map_nil, Nat.reduceAdd, Nat.reduceSub, Nat.zero_add, Nat.reduceLT, true_and, and_true, if_true, ite_true, ite_false, Bool.false_eq_true, bne_self_eq_false, Bool.bne_false, Bool.bne_true, Nat.sub_self, Nat.reduceLeDiff, Nat.zero_le, Nat.lt_add_one]
    refine p_lowA_walk g _ rows [] _ _ (.inl rfl) Red.nil h (by simpa using hl) fun X2 a3 hX => fin X2 a3 hX
/-- for over such a list; P ties the places to what was walked -/
theorem for_pre {α : Type} {g : TGd} {tb : TSd} {U : En} (enc : α → D) (P : List α → Env' → Prop) (all : List α)
    (step : ∀ (pre : List α) (x : α) (post : List α) (Γ : Env'), all = pre ++ x :: post → P pre Γ → ∀ N : Env' → Prop, (∀ Γ', P (pre ++ [x]) Γ' → N Γ') → g (enc x) Γ fun Γ' => tb ⟨N, U.rt, U.ex, U.nx, N⟩ Γ')
    (h : ∀ Γ', P all Γ' → U.nx Γ') : ∀ (xs pre : List α) (Γ : Env'), all = pre ++ xs → P pre Γ → forGo g tb U (xs.map enc) Γ
  | [], pre, Γ, e, h0 => h Γ (by rw [e, List.append_nil]; exact h0)
  | x :: xs, pre, Γ, e, h0 => step pre x xs Γ e h0 _ fun Γ' p => for_pre enc P all step h xs (pre ++ [x]) Γ' (by rw [e, List.append_assoc]; rfl) p
def lead (r : List Nat) : Nat := (ldO r).getD 0
def nullRow (q n : Nat) (lows : List (List Nat)) (f : Nat) : List Nat := lows.foldl (fun row low => row.set (lead low) (sb q 0 (low.getD f 0))) ((List.replicate n 0).set f 1)
def nullA (q n : Nat) (lows : List (List Nat)) : List (List Nat) := ((List.range n).filter fun f => !((lows.map lead).any fun z => z == f)).map (nullRow q n lows)
theorem nullRow_rw {q n f : Nat} {lows : List (List Nat)} (g : G q) (h : RwS q n lows) (hf : f < n) : Rw q n (nullRow q n lows f) := by
  have h0 := g.pos
  have key : ∀ (l : List (List Nat)) (row : List Nat), RwS q n l → Rw q n row → Rw q n (l.foldl (fun row low => row.set (lead low) (sb q 0 (low.getD f 0))) row) := by
    intro l
    induction l with
    | nil => intro row _ hr; exact hr
    | cons low l ih =>
      intro row hl hr
      refine ih _ (fun x hx => hl x (List.mem_cons_of_mem _ hx)) ⟨by rw [List.length_set]; exact hr.len, fun x hx => ?_⟩
      rcases List.mem_or_eq_of_mem_set hx with z | z
      · exact hr.lt x z
      · rw [z]; exact sb_lt g (by omega) (getD_lt (hl low (by simp)) hf)
  refine key lows _ h ⟨by rw [List.length_set, List.length_replicate], fun x hx => ?_⟩
  rcases List.mem_or_eq_of_mem_set hx with z | z
  · rw [List.eq_of_mem_replicate z]; omega
  · rw [z]; omega
theorem leads_enc (lows : List (List Nat)) : pairs ((lows.map lead).map eI) (lows.map eR) = lows.map fun r => .tuple [eI (lead r), eR r] := by
  unfold pairs
  rw [List.map_map, List.zip_map', List.map_map]
  rfl
theorem any_eI (l : List Nat) (f : Nat) : ((l.map eI).any fun z => PyData.eqv z (.int (f : Int))) = l.any fun z => z == f := by
  induction l with
  | nil => rfl
  | cons a l ih =>
    rw [List.map_cons, List.any_cons, List.any_cons, ih]
    have e : PyData.eqv (eI a) (.int (f : Int)) = (a == f) := by unfold eI; simp only [PyData.eqv]; exact beq_nat a f
    rw [e]
theorem shp_ints (l : List Nat) : Shp (.list (l.map eI)) := (shN_lst (n := 0) fun d hd => by
  obtain ⟨x, _, rfl⟩ := List.mem_map.mp hd
  exact shN_int).shp (by decide)
theorem ixN_nat {n j : Nat} (h : j < n) : ixN n (j : Int) = some j := by
  unfold ixN
  rw [if_pos (by omega), if_pos (by omega)]
  simp
theorem set_eI (r : List Nat) (j x : Nat) : (r.map eI).set j (eI x) = (r.set j x).map eI := by rw [List.map_set]
theorem rep_zero0 (n : Nat) : rep [PyData.int 0] (n : Int) = (List.replicate n 0).map eI := by
  unfold rep
  rw [Int.toNat_natCast, List.map_replicate]
  induction n with
  | zero => rfl
  | succ n ih =>
    rw [List.replicate_succ, List.replicate_succ, List.flatten_cons, ih]
    rfl
def free (lows : List (List Nat)) (f : Nat) : Bool := !((lows.map lead).any fun z => z == f)
theorem p_null {q n : Nat} {rows : List (List Nat)} {d : D} {Q : SK} {E : EK} (g : G q) (hd : d = .list (rows.map eR) ∨ d = .tuple (rows.map eR)) (h : RwS q n rows) (hl : rows.length ≤ 1000) (hn : n ≤ 1000) (hq : Q (.own ((nullA q n (lowA q rows)).map eR))) :
    F_null_rows [.sh (.int q), .sh d, .sh (.int n)] Q E := by
  have h0 := g.pos
  have hR := lowA_red g h
  generalize hlo : lowA q rows = lows at hR hq
  simp only [E_null_rows, den_null_rows, gSub, gMod, gDiv, gPow, gShl, gShr, gAnd, gOr, gXor, gLt, gLe, gGt, gGe, C0, s_asD1, s_asD2, s_asDs0, s_asDs1, s_nrm1, s_nrm2, s_nrm3, s_nrm4, s_nrm5, s_bo, s_ret1, s_ret2, s_add1, s_add2, s_add3, s_add4, s_gI, s_mul1, s_mul2, s_mul3, s_gB, s_in1, s_in2, s_is1, s_is2, s_is3, s_is4, s_is5, s_is6, s_ix1, s_ix2, s_ix3, s_g1, s_g2, s_len1, s_len2, s_len3, s_tup1, s_tup2, s_lst1, s_lst2, s_abs, s_int1, s_int2, s_stri, s_bools, s_sum, s_sort, s_seq1, s_seq2, s_seq3, s_any, s_any1, s_any2, s_any3, s_rng1, s_rng2, s_rng3, s_rng4, s_enum, s_enum1, s_enum2, s_gN, s_gsN, s_gsC, s_gT, s_var, s_var1, s_var2, s_var3, s_var4, s_meth, s_meth1, s_close, s_close1, s_close2, s_close3, s_six, s_six1, s_six2, s_retO, s_retO1, s_retO2, s_peek1, s_peekT1, s_peeks0, s_peeks1, s_wipe0, s_wipe1, s_lf1, s_lf2, s_app, s_ext, s_rem, s_cnt, s_idx, s_spl, s_ty1, s_ty2, s_dSeq, s_dIfS, s_dTest, s_dBin, s_dC, s_gEq, s_dRet, s_dNext, s_dRetN, s_dSet, s_dCons, s_dNil, s_dCB, s_dCall, s_dLc, s_dYes, s_dTup, s_dLst, s_dFor, s_dChain, s_dAndV, s_dOrV, s_dNotV, s_dAnd, s_dOr, s_dNot, s_dIf, s_dRaise, s_dAsg, s_dDrop, s_dMv, s_dIsi, s_dZip, Shp, shp_int, shp_bool, shp_none, PyData.eqv, List.length_cons, List.length_nil, List.replicate, List.cons_append, List.nil_append, List.getElem?_cons_zero, List.getElem?_cons_succ, List.append_nil, List.set_cons_zero, List.set_cons_succ, List.map_cons, List.map_nil, Nat.reduceAdd, Nat.reduceSub, Nat.zero_add, Nat.reduceLT, true_and, and_true, if_true, ite_true, ite_false, Bool.false_eq_true, bne_self_eq_false, Bool.bne_false, Bool.bne_true, Nat.sub_self, Nat.reduceLeDiff, Nat.zero_le, Nat.lt_add_one]
  refine p_lowA g hd h hl ?_ ?_
  all_goals
    rw [hlo]
    try simp only [gSub, gMod, gDiv, gPow, gShl, gShr, gAnd, gOr, gXor, gLt, gLe, gGt, gGe, C0, s_asD1, s_asD2, s_asDs0, s_asDs1, s_nrm1, s_nrm2, s_nrm3, s_nrm4, s_nrm5, s_bo, s_ret1, s_ret2, s_add1, s_add2, s_add3, s_add4, s_gI, s_mul1, s_mul2, s_mul3, s_gB, s_in1, s_in2, s_is1, s_is2, s_is3, s_is4, s_is5, s_is6, s_ix1, s_ix2, s_ix3, s_g1, s_g2, s_len1, s_len2, s_len3, s_tup1, s_tup2, s_lst1, s_lst2, s_abs, s_int1, s_int2, s_stri, s_bools, s_sum, s_sort, s_seq1, s_seq2, s_seq3, s_any, s_any1, s_any2, s_any3, s_rng1, s_rng2, s_rng3, s_rng4, s_enum, s_enum1, s_enum2, s_gN, s_gsN, s_gsC, s_gT, s_var, s_var1, s_var2, s_var3, s_var4, s_meth, s_meth1, s_close, s_close1, s_close2, s_close3, s_six, s_six1, s_six2, s_retO, s_retO1, s_retO2, s_peek1, s_peekT1, s_peeks0, s_peeks1, s_wipe0, s_wipe1, s_lf1, s_lf2, s_app, s_ext, s_rem, s_cnt, s_idx, s_spl, s_ty1, s_ty2, s_dSeq, s_dIfS, s_dTest, s_dBin, s_dC, s_gEq, s_dRet, s_dNext, s_dRetN, s_dSet, s_dCons, s_dNil, s_dCB, s_dCall, s_dLc, s_dYes, s_dTup, s_dLst, s_dFor, s_dChain, s_dAndV, s_dOrV, s_dNotV, s_dAnd, s_dOr, s_dNot, s_dIf, s_dRaise, s_dAsg, s_dDrop, s_dMv, s_dIsi, s_dZip, Shp, shp_int, shp_bool, shp_none, PyData.eqv, List.length_cons, List.length_nil, List.replicate, List.cons_append, List.nil_append, List.getElem?_cons_zero, List.getElem?_cons_succ, List.append_nil, List.set_cons_zero, List.set_cons_succ, List.map_cons, List.map_nil, Nat.reduceAdd, Nat.reduceSub, Nat.zero_add, Nat.reduceLT, true_and, and_true, if_true, ite_true, ite_false, Bool.false_eq_true, bne_self_eq_false, Bool.bne_false, Bool.bne_true, Nat.sub_self, Nat.reduceLeDiff, Nat.zero_le, Nat.lt_add_one]
    refine lc_map eR (fun r => eI (lead r)) lows (fun r hr R hR' => ?_) ?_
    · simp only [eR, gSub, gMod, gDiv, gPow, gShl, gShr, gAnd, gOr, gXor, gLt, gLe, gGt, gGe, C0, s_asD1, s_asD2, s_asDs0, s_asDs1, s_nrm1, s_nrm2, s_nrm3, s_nrm4, s_nrm5, s_bo, s_ret1, s_ret2, s_add1, s_add2, s_add3, s_add4, s_gI, s_mul1, s_mul2, s_mul3, s_gB, s_in1, s_in2, s_is1, s_is2, s_is3, s_is4, s_is5, s_is6, s_ix1, s_ix2, s_ix3, s_g1, s_g2, s_len1, s_len2, s_len3, s_tup1, s_tup2, s_lst1, s_lst2, s_abs, s_int1, s_int2, s_stri, s_bools, s_sum, s_sort, s_seq1, s_seq2, s_seq3, s_any, s_any1, s_any2, s_any3, s_rng1, s_rng2, s_rng3, s_rng4, s_enum, s_enum1, s_enum2, s_gN, s_gsN, s_gsC, s_gT, s_var, s_var1, s_var2, s_var3, s_var4, s_meth, s_meth1, s_close, s_close1, s_close2, s_close3, s_six, s_six1, s_six2, s_retO, s_retO1, s_retO2, s_peek1, s_peekT1, s_peeks0, s_peeks1, s_wipe0, s_wipe1, s_lf1, s_lf2, s_app, s_ext, s_rem, s_cnt, s_idx, s_spl, s_ty1, s_ty2, s_dSeq, s_dIfS, s_dTest, s_dBin, s_dC, s_gEq, s_dRet, s_dNext, s_dRetN, s_dSet, s_dCons, s_dNil, s_dCB, s_dCall, s_dLc, s_dYes, s_dTup, s_dLst, s_dFor, s_dChain, s_dAndV, s_dOrV, s_dNotV, s_dAnd, s_dOr, s_dNot, s_dIf, s_dRaise, s_dAsg, s_dDrop, s_dMv, s_dIsi, s_dZip, Shp, shp_int, shp_bool, shp_none, PyData.eqv, List.length_cons, List.length_nil, List.replicate, List.cons_append, List.nil_append, List.getElem?_cons_zero, List.getElem?_cons_succ, List.append_nil, List.set_cons_zero, List.set_cons_succ, List.map_cons, List.map_nil, Nat.reduceAdd, Nat.reduceSub, Nat.zero_add, Nat.reduceLT, true_and, and_true, if_true, ite_true, ite_false, Bool.false_eq_true, bne_self_eq_false, Bool.bne_false, Bool.bne_true, Nat.sub_self, Nat.reduceLeDiff, Nat.zero_le, Nat.lt_add_one]
      refine p_lead ?_
      obtain ⟨p, lp, _⟩ := hR.ld r hr
      have e : eI (lead r) = eO (ldO r) := by unfold lead; rw [ldO_iff.mpr lp]; rfl
      rw [← e]
      exact hR'
    have el : lows.map (fun r => eI (lead r)) = (lows.map lead).map eI := by rw [List.map_map]; rfl
    rw [el]
    try simp only [gSub, gMod, gDiv, gPow, gShl, gShr, gAnd, gOr, gXor, gLt, gLe, gGt, gGe, C0, s_asD1, s_asD2, s_asDs0, s_asDs1, s_nrm1, s_nrm2, s_nrm3, s_nrm4, s_nrm5, s_bo, s_ret1, s_ret2, s_add1, s_add2, s_add3, s_add4, s_gI, s_mul1, s_mul2, s_mul3, s_gB, s_in1, s_in2, s_is1, s_is2, s_is3, s_is4, s_is5, s_is6, s_ix1, s_ix2, s_ix3, s_g1, s_g2, s_len1, s_len2, s_len3, s_tup1, s_tup2, s_lst1, s_lst2, s_abs, s_int1, s_int2, s_stri, s_bools, s_sum, s_sort, s_seq1, s_seq2, s_seq3, s_any, s_any1, s_any2, s_any3, s_rng1, s_rng2, s_rng3, s_rng4, s_enum, s_enum1, s_enum2, s_gN, s_gsN, s_gsC, s_gT, s_var, s_var1, s_var2, s_var3, s_var4, s_meth, s_meth1, s_close, s_close1, s_close2, s_close3, s_six, s_six1, s_six2, s_retO, s_retO1, s_retO2, s_peek1, s_peekT1, s_peeks0, s_peeks1, s_wipe0, s_wipe1, s_lf1, s_lf2, s_app, s_ext, s_rem, s_cnt, s_idx, s_spl, s_ty1, s_ty2, s_dSeq, s_dIfS, s_dTest, s_dBin, s_dC, s_gEq, s_dRet, s_dNext, s_dRetN, s_dSet, s_dCons, s_dNil, s_dCB, s_dCall, s_dLc, s_dYes, s_dTup, s_dLst, s_dFor, s_dChain, s_dAndV, s_dOrV, s_dNotV, s_dAnd, s_dOr, s_dNot, s_dIf, s_dRaise, s_dAsg, s_dDrop, s_dMv, s_dIsi, s_dZip, Shp, shp_int, shp_bool, shp_none, PyData.eqv, List.length_cons, List.length_nil, List.replicate, List.cons_append, List.nil_append, List.getElem?_cons_zero, List.getElem?_cons_succ, List.append_nil, List.set_cons_zero, List.set_cons_succ, List.map_cons, List.map_nil, Nat.reduceAdd, Nat.reduceSub, Nat.zero_add, Nat.reduceLT, true_and, and_true, if_true, ite_true, ite_false, Bool.false_eq_true, bne_self_eq_false, Bool.bne_false, Bool.bne_true, Nat.sub_self, Nat.reduceLeDiff, Nat.zero_le, Nat.lt_add_one]
    refine ⟨by omega, ?_⟩
    rw [Int.toNat_natCast]
    unfold rngs
    refine for_pre (fun i : Nat => PyData.int (0 + (i : Int))) (fun pre Γ => ∃ X4 a6 a7 a8 a9, Γ = [.sh (.int q), .sh d, .sh (.int n), .sh (.list (lows.map eR)), X4, .own (((pre.filter (free lows)).map (nullRow q n lows)).map eR), a6, a7, a8, a9] ∧ (X4 = .own ((lows.map lead).map eI) ∨ X4 = .sh (.list ((lows.map lead).map eI))))
      (List.range n) (fun pre f post Γ ef hP N hN => ?_) (fun Γ' hP => ?_) (List.range n) [] _ rfl ⟨_, _, _, _, _, rfl, .inl rfl⟩
    · obtain ⟨X4, a6, a7, a8, a9, rfl, hX⟩ := hP
      have hf : f < n := List.mem_range.mp (by rw [ef]; simp)
      have hpl : pre.length ≤ n := by
        have := congrArg List.length ef
        rw [List.length_range, List.length_append] at this
        omega
      rcases hX with rfl | rfl
      all_goals
        simp only [gSub, gMod, gDiv, gPow, gShl, gShr, gAnd, gOr, gXor, gLt, gLe, gGt, gGe, C0, s_asD1, s_asD2, s_asDs0, s_asDs1, s_nrm1, s_nrm2, s_nrm3, s_nrm4, s_nrm5, s_bo, s_ret1, s_ret2, s_add1, s_add2, s_add3, s_add4, s_gI, s_mul1, s_mul2, s_mul3, s_gB, s_in1, s_in2, s_is1, s_is2, s_is3, s_is4, s_is5, s_is6, s_ix1, s_ix2, s_ix3, s_g1, s_g2, s_len1, s_len2, s_len3, s_tup1, s_tup2, s_lst1, s_lst2, s_abs, s_int1, s_int2, s_stri, s_bools, s_sum, s_sort, s_seq1, s_seq2, s_seq3, s_any, s_any1, s_any2, s_any3, s_rng1, s_rng2, s_rng3, s_rng4, s_enum, s_enum1, s_enum2, s_gN, s_gsN, s_gsC, s_gT, s_var, s_var1, s_var2, s_var3, s_var4, s_meth, s_meth1, s_close, s_close1, s_close2, s_close3, s_six, s_six1, s_six2, s_retO, s_retO1, s_retO2, s_peek1, s_peekT1, s_peeks0, s_peeks1, s_wipe0, s_wipe1, s_lf1, s_lf2, s_app, s_ext, s_rem, s_cnt, s_idx, s_spl, s_ty1, s_ty2, s_dSeq, s_dIfS, s_dTest, s_dBin, s_dC, s_gEq, s_dRet, s_dNext, s_dRetN, s_dSet, s_dCons, s_dNil, s_dCB, s_dCall, s_dLc, s_dYes, s_dTup, s_dLst, s_dFor, s_dChain, s_dAndV, s_dOrV, s_dNotV, s_dAnd, s_dOr, s_dNot, s_dIf, s_dRaise, s_dAsg, s_dDrop, s_dMv, s_dIsi, s_dZip, Shp, shp_int, shp_bool, shp_none, PyData.eqv, List.length_cons, List.length_nil, List.replicate, List.cons_append, List.nil_append, List.getElem?_cons_zero, List.getElem?_cons_succ, List.append_nil, List.set_cons_zero, List.set_cons_succ, List.map_cons, List.map_nil, Nat.reduceAdd, Nat.reduceSub, Nat.zero_add, Nat.reduceLT, true_and, and_true, if_true, ite_true, ite_false, Bool.false_eq_true, bne_self_eq_false, Bool.bne_false, Bool.bne_true, Nat.sub_self, Nat.reduceLeDiff, Nat.zero_le, Nat.lt_add_one, Int.zero_add]
        refine ⟨shp_ints _, ?_⟩
        rw [any_eI]
        cases ea : (lows.map lead).any fun z => z == f with
        | true =>
          have efil : (pre ++ [f]).filter (free lows) = pre.filter (free lows) := by
            rw [List.filter_append, List.filter_cons_of_neg (by unfold free; rw [ea]; decide), List.filter_nil, List.append_nil]
          try simp only [gSub, gMod, gDiv, gPow, gShl, gShr, gAnd, gOr, gXor, gLt, gLe, gGt, gGe, C0, s_asD1, s_asD2, s_asDs0, s_asDs1, s_nrm1, s_nrm2, s_nrm3, s_nrm4, s_nrm5, s_bo, s_ret1, s_ret2, s_add1, s_add2, s_add3, s_add4, s_gI, s_mul1, s_mul2, s_mul3, s_gB, s_in1, s_in2, s_is1, s_is2, s_is3, s_is4, s_is5, s_is6, s_ix1, s_ix2, s_ix3, s_g1, s_g2, s_len1, s_len2, s_len3, s_tup1, s_tup2, s_lst1, s_lst2, s_abs, s_int1, s_int2, s_stri, s_bools, s_sum, s_sort, s_seq1, s_seq2, s_seq3, s_any, s_any1, s_any2, s_any3, s_rng1, s_rng2, s_rng3, s_rng4, s_enum, s_enum1, s_enum2, s_gN, s_gsN, s_gsC, s_gT, s_var, s_var1, s_var2, s_var3, s_var4, s_meth, s_meth1, s_close, s_close1, s_close2, s_close3, s_six, s_six1, s_six2, s_retO, s_retO1, s_retO2, s_peek1, s_peekT1, s_peeks0, s_peeks1, s_wipe0, s_wipe1, s_lf1, s_lf2, s_app, s_ext, s_rem, s_cnt, s_idx, s_spl, s_ty1, s_ty2, s_dSeq, s_dIfS, s_dTest, s_dBin, s_dC, s_gEq, s_dRet, s_dNext, s_dRetN, s_dSet, s_dCons, s_dNil, s_dCB, s_dCall, s_dLc, s_dYes, s_dTup, s_dLst, s_dFor, s_dChain, s_dAndV, s_dOrV, s_dNotV, s_dAnd, s_dOr, s_dNot, s_dIf, s_dRaise, s_dAsg, s_dDrop, s_dMv, s_dIsi, s_dZip, Shp, shp_int, shp_bool, shp_none, PyData.eqv, List.length_cons, List.length_nil, List.replicate, List.cons_append, List.nil_append, List.getElem?_cons_zero, List.getElem?_cons_succ, List.append_nil, List.set_cons_zero, List.set_cons_succ, List.map_cons, List.map_nil, Nat.reduceAdd, Nat.reduceSub, Nat.zero_add, Nat.reduceLT, true_and, and_true, if_true, ite_true, ite_false, Bool.false_eq_true, bne_self_eq_false, Bool.bne_false, Bool.bne_true, Nat.sub_self, Nat.reduceLeDiff, Nat.zero_le, Nat.lt_add_one]
          exact hN _ ⟨_, _, _, _, _, by rw [efil], .inr rfl⟩
        | false =>
          have efil : (pre ++ [f]).filter (free lows) = pre.filter (free lows) ++ [f] := by
            rw [List.filter_append, List.filter_cons_of_pos (by unfold free; rw [ea]; rfl), List.filter_nil]
          try simp only [gSub, gMod, gDiv, gPow, gShl, gShr, gAnd, gOr, gXor, gLt, gLe, gGt, gGe, C0, s_asD1, s_asD2, s_asDs0, s_asDs1, s_nrm1, s_nrm2, s_nrm3, s_nrm4, s_nrm5, s_bo, s_ret1, s_ret2, s_add1, s_add2, s_add3, s_add4, s_gI, s_mul1, s_mul2, s_mul3, s_gB, s_in1, s_in2, s_is1, s_is2, s_is3, s_is4, s_is5, s_is6, s_ix1, s_ix2, s_ix3, s_g1, s_g2, s_len1, s_len2, s_len3, s_tup1, s_tup2, s_lst1, s_lst2, s_abs, s_int1, s_int2, s_stri, s_bools, s_sum, s_sort, s_seq1, s_seq2, s_seq3, s_any, s_any1, s_any2, s_any3, s_rng1, s_rng2, s_rng3, s_rng4, s_enum, s_enum1, s_enum2, s_gN, s_gsN, s_gsC, s_gT, s_var, s_var1, s_var2, s_var3, s_var4, s_meth, s_meth1, s_close, s_close1, s_close2, s_close3, s_six, s_six1, s_six2, s_retO, s_retO1, s_retO2, s_peek1, s_peekT1, s_peeks0, s_peeks1, s_wipe0, s_wipe1, s_lf1, s_lf2, s_app, s_ext, s_rem, s_cnt, s_idx, s_spl, s_ty1, s_ty2, s_dSeq, s_dIfS, s_dTest, s_dBin, s_dC, s_gEq, s_dRet, s_dNext, s_dRetN, s_dSet, s_dCons, s_dNil, s_dCB, s_dCall, s_dLc, s_dYes, s_dTup, s_dLst, s_dFor, s_dChain, s_dAndV, s_dOrV, s_dNotV, s_dAnd, s_dOr, s_dNot, s_dIf, s_dRaise, s_dAsg, s_dDrop, s_dMv, s_dIsi, s_dZip, Shp, shp_int, shp_bool, shp_none, PyData.eqv, List.length_cons, List.length_nil, List.replicate, List.cons_append, List.nil_append, List.getElem?_cons_zero, List.getElem?_cons_succ, List.append_nil, List.set_cons_zero, List.set_cons_succ, List.map_cons, List.map_nil, Nat.reduceAdd, Nat.reduceSub, Nat.zero_add, Nat.reduceLT, true_and, and_true, if_true, ite_true, ite_false, Bool.false_eq_true, bne_self_eq_false, Bool.bne_false, Bool.bne_true, Nat.sub_self, Nat.reduceLeDiff, Nat.zero_le, Nat.lt_add_one]
          rw [Bool.not_false, if_pos rfl]
          have z1 : (-2 ^ 63 : Int) ≤ 0 := by decide
          have z2 : (1000 : Int) < 2 ^ 63 := by decide
          refine ⟨⟨by omega, by omega, by rw [Int.toNat_natCast]; omega⟩, f, by rw [rep_zero0, List.length_map, List.length_replicate]; exact ixN_nat hf, ?_⟩
          have es : (rep [PyData.int 0] (n : Int)).set f (PyData.int 1) = ((List.replicate n 0).set f 1).map eI := by rw [rep_zero0]; exact set_eI _ _ 1
          rw [es, leads_enc]
          refine for_st (β := List Nat) (fun r => PyData.tuple [eI (lead r), eR r]) (fun row Γ => ∃ a8 a9, Γ = [.sh (.int q), .sh d, .sh (.int n), .sh (.list (lows.map eR)), .sh (.list ((lows.map lead).map eI)), .own (((pre.filter (free lows)).map (nullRow q n lows)).map eR), .sh (.int f), .own (row.map eI), a8, a9] ∧ row.length = n)
            (fun row low => row.set (lead low) (sb q 0 (low.getD f 0))) lows _ _ (fun row low Γ hm hP N' hN' => ?_) ⟨_, _, rfl, by rw [List.length_set, List.length_replicate]⟩ fun Γ' hP => ?_
          · obtain ⟨a8, a9, rfl, hlen⟩ := hP
            obtain ⟨p, lp, _⟩ := hR.ld low hm
            have hlow := hR.rw_ low hm
            have elp : lead low = p := by unfold lead; rw [ldO_iff.mpr lp]; rfl
            have hp : lead low < n := by rw [elp, ← hlow.len]; exact lp.lt
            simp only [eR, eI, gSub, gMod, gDiv, gPow, gShl, gShr, gAnd, gOr, gXor, gLt, gLe, gGt, gGe, C0, s_asD1, s_asD2, s_asDs0, s_asDs1, s_nrm1, s_nrm2, s_nrm3, s_nrm4, s_nrm5, s_bo, s_ret1, s_ret2, s_add1, s_add2, s_add3, s_add4, s_gI, s_mul1, s_mul2, s_mul3, s_gB, s_in1, s_in2, s_is1, s_is2, s_is3, s_is4, s_is5, s_is6, s_ix1, s_ix2, s_ix3, s_g1, s_g2, s_len1, s_len2, s_len3, s_tup1, s_tup2, s_lst1, s_lst2, s_abs, s_int1, s_int2, s_stri, s_bools, s_sum, s_sort, s_seq1, s_seq2, s_seq3, s_any, s_any1, s_any2, s_any3, s_rng1, s_rng2, s_rng3, s_rng4, s_enum, s_enum1, s_enum2, s_gN, s_gsN, s_gsC, s_gT, s_var, s_var1, s_var2, s_var3, s_var4, s_meth, s_meth1, s_close, s_close1, s_close2, s_close3, s_six, s_six1, s_six2, s_retO, s_retO1, s_retO2, s_peek1, s_peekT1, s_peeks0, s_peeks1, s_wipe0, s_wipe1, s_lf1, s_lf2, s_app, s_ext, s_rem, s_cnt, s_idx, s_spl, s_ty1, s_ty2, s_dSeq, s_dIfS, s_dTest, s_dBin, s_dC, s_gEq, s_dRet, s_dNext, s_dRetN, s_dSet, s_dCons, s_dNil, s_dCB, s_dCall, s_dLc, s_dYes, s_dTup, s_dLst, s_dFor, s_dChain, s_dAndV, s_dOrV, s_dNotV, s_dAnd, s_dOr, s_dNot, s_dIf, s_dRaise, s_dAsg, s_dDrop, s_dMv, s_dIsi, s_dZip, Shp, shp_int, shp_bool, shp_none, PyData.eqv, List.length_cons, List.length_nil, List.replicate, List.cons_append, List.nil_append, List.getElem?_cons_zero, List.getElem?_cons_succ, List.append_nil, List.set_cons_zero, List.set_cons_succ, List.map_cons, List.map_nil, Nat.reduceAdd, Nat.reduceSub, Nat.zero_add, Nat.reduceLT, true_and, and_true, if_true, ite_true, ite_false, Bool.false_eq_true, bne_self_eq_false, Bool.bne_false, Bool.bne_true, Nat.sub_self, Nat.reduceLeDiff, Nat.zero_le, Nat.lt_add_one]
            refine ⟨_, at_row (by rw [hlow.len]; exact hf), ?_⟩
            try simp only [gSub, gMod, gDiv, gPow, gShl, gShr, gAnd, gOr, gXor, gLt, gLe, gGt, gGe, C0, s_asD1, s_asD2, s_asDs0, s_asDs1, s_nrm1, s_nrm2, s_nrm3, s_nrm4, s_nrm5, s_bo, s_ret1, s_ret2, s_add1, s_add2, s_add3, s_add4, s_gI, s_mul1, s_mul2, s_mul3, s_gB, s_in1, s_in2, s_is1, s_is2, s_is3, s_is4, s_is5, s_is6, s_ix1, s_ix2, s_ix3, s_g1, s_g2, s_len1, s_len2, s_len3, s_tup1, s_tup2, s_lst1, s_lst2, s_abs, s_int1, s_int2, s_stri, s_bools, s_sum, s_sort, s_seq1, s_seq2, s_seq3, s_any, s_any1, s_any2, s_any3, s_rng1, s_rng2, s_rng3, s_rng4, s_enum, s_enum1, s_enum2, s_gN, s_gsN, s_gsC, s_gT, s_var, s_var1, s_var2, s_var3, s_var4, s_meth, s_meth1, s_close, s_close1, s_close2, s_close3, s_six, s_six1, s_six2, s_retO, s_retO1, s_retO2, s_peek1, s_peekT1, s_peeks0, s_peeks1, s_wipe0, s_wipe1, s_lf1, s_lf2, s_app, s_ext, s_rem, s_cnt, s_idx, s_spl, s_ty1, s_ty2, s_dSeq, s_dIfS, s_dTest, s_dBin, s_dC, s_gEq, s_dRet, s_dNext, s_dRetN, s_dSet, s_dCons, s_dNil, s_dCB, s_dCall, s_dLc, s_dYes, s_dTup, s_dLst, s_dFor, s_dChain, s_dAndV, s_dOrV, s_dNotV, s_dAnd, s_dOr, s_dNot, s_dIf, s_dRaise, s_dAsg, s_dDrop, s_dMv, s_dIsi, s_dZip, Shp, shp_int, shp_bool, shp_none, PyData.eqv, List.length_cons, List.length_nil, List.replicate, List.cons_append, List.nil_append, List.getElem?_cons_zero, List.getElem?_cons_succ, List.append_nil, List.set_cons_zero, List.set_cons_succ, List.map_cons, List.map_nil, Nat.reduceAdd, Nat.reduceSub, Nat.zero_add, Nat.reduceLT, true_and, and_true, if_true, ite_true, ite_false, Bool.false_eq_true, bne_self_eq_false, Bool.bne_false, Bool.bne_true, Nat.sub_self, Nat.reduceLeDiff, Nat.zero_le, Nat.lt_add_one, eI]
            have z : PyData.int 0 = PyData.int ((0 : Nat) : Int) := rfl
            rw [z]
            refine p_diff g (by omega) (getD_lt hlow hf) ?_
            try simp only [gSub, gMod, gDiv, gPow, gShl, gShr, gAnd, gOr, gXor, gLt, gLe, gGt, gGe, C0, s_asD1, s_asD2, s_asDs0, s_asDs1, s_nrm1, s_nrm2, s_nrm3, s_nrm4, s_nrm5, s_bo, s_ret1, s_ret2, s_add1, s_add2, s_add3, s_add4, s_gI, s_mul1, s_mul2, s_mul3, s_gB, s_in1, s_in2, s_is1, s_is2, s_is3, s_is4, s_is5, s_is6, s_ix1, s_ix2, s_ix3, s_g1, s_g2, s_len1, s_len2, s_len3, s_tup1, s_tup2, s_lst1, s_lst2, s_abs, s_int1, s_int2, s_stri, s_bools, s_sum, s_sort, s_seq1, s_seq2, s_seq3, s_any, s_any1, s_any2, s_any3, s_rng1, s_rng2, s_rng3, s_rng4, s_enum, s_enum1, s_enum2, s_gN, s_gsN, s_gsC, s_gT, s_var, s_var1, s_var2, s_var3, s_var4, s_meth, s_meth1, s_close, s_close1, s_close2, s_close3, s_six, s_six1, s_six2, s_retO, s_retO1, s_retO2, s_peek1, s_peekT1, s_peeks0, s_peeks1, s_wipe0, s_wipe1, s_lf1, s_lf2, s_app, s_ext, s_rem, s_cnt, s_idx, s_spl, s_ty1, s_ty2, s_dSeq, s_dIfS, s_dTest, s_dBin, s_dC, s_gEq, s_dRet, s_dNext, s_dRetN, s_dSet, s_dCons, s_dNil, s_dCB, s_dCall, s_dLc, s_dYes, s_dTup, s_dLst, s_dFor, s_dChain, s_dAndV, s_dOrV, s_dNotV, s_dAnd, s_dOr, s_dNot, s_dIf, s_dRaise, s_dAsg, s_dDrop, s_dMv, s_dIsi, s_dZip, Shp, shp_int, shp_bool, shp_none, PyData.eqv, List.length_cons, List.length_nil, List.replicate, List.cons_append, List.nil_append, List.getElem?_cons_zero, List.getElem?_cons_succ, List.append_nil, List.set_cons_zero, List.set_cons_succ, List.map_cons, List.map_nil, Nat.reduceAdd, Nat.reduceSub, Nat.zero_add, Nat.reduceLT, true_and, and_true, if_true, ite_true, ite_false, Bool.false_eq_true, bne_self_eq_false, Bool.bne_false, Bool.bne_true, Nat.sub_self, Nat.reduceLeDiff, Nat.zero_le, Nat.lt_add_one]
            refine ⟨lead low, by rw [List.length_map, hlen]; exact ixN_nat hp, ?_⟩
            exact hN' _ ⟨_, _, by rw [← set_eI]; rfl, by rw [List.length_set]; exact hlen⟩
          · obtain ⟨a8, a9, rfl, _⟩ := hP
            try simp only [gSub, gMod, gDiv, gPow, gShl, gShr, gAnd, gOr, gXor, gLt, gLe, gGt, gGe, C0, s_asD1, s_asD2, s_asDs0, s_asDs1, s_nrm1, s_nrm2, s_nrm3, s_nrm4, s_nrm5, s_bo, s_ret1, s_ret2, s_add1, s_add2, s_add3, s_add4, s_gI, s_mul1, s_mul2, s_mul3, s_gB, s_in1, s_in2, s_is1, s_is2, s_is3, s_is4, s_is5, s_is6, s_ix1, s_ix2, s_ix3, s_g1, s_g2, s_len1, s_len2, s_len3, s_tup1, s_tup2, s_lst1, s_lst2, s_abs, s_int1, s_int2, s_stri, s_bools, s_sum, s_sort, s_seq1, s_seq2, s_seq3, s_any, s_any1, s_any2, s_any3, s_rng1, s_rng2, s_rng3, s_rng4, s_enum, s_enum1, s_enum2, s_gN, s_gsN, s_gsC, s_gT, s_var, s_var1, s_var2, s_var3, s_var4, s_meth, s_meth1, s_close, s_close1, s_close2, s_close3, s_six, s_six1, s_six2, s_retO, s_retO1, s_retO2, s_peek1, s_peekT1, s_peeks0, s_peeks1, s_wipe0, s_wipe1, s_lf1, s_lf2, s_app, s_ext, s_rem, s_cnt, s_idx, s_spl, s_ty1, s_ty2, s_dSeq, s_dIfS, s_dTest, s_dBin, s_dC, s_gEq, s_dRet, s_dNext, s_dRetN, s_dSet, s_dCons, s_dNil, s_dCB, s_dCall, s_dLc, s_dYes, s_dTup, s_dLst, s_dFor, s_dChain, s_dAndV, s_dOrV, s_dNotV, s_dAnd, s_dOr, s_dNot, s_dIf, s_dRaise, s_dAsg, s_dDrop, s_dMv, s_dIsi, s_dZip, Shp, shp_int, shp_bool, shp_none, PyData.eqv, List.length_cons, List.length_nil, List.replicate, List.cons_append, List.nil_append, List.getElem?_cons_zero, List.getElem?_cons_succ, List.append_nil, List.set_cons_zero, List.set_cons_succ, List.map_cons, List.map_nil, Nat.reduceAdd, Nat.reduceSub, Nat.zero_add, Nat.reduceLT, true_and, and_true, if_true, ite_true, ite_false, Bool.false_eq_true, bne_self_eq_false, Bool.bne_false, Bool.bne_true, Nat.sub_self, Nat.reduceLeDiff, Nat.zero_le, Nat.lt_add_one]
            refine ⟨by have := List.length_filter_le (free lows) pre; rw [List.length_map, List.length_map]; omega, ?_⟩
            exact hN _ ⟨_, _, _, _, _, by rw [efil, List.map_append, List.map_append]; rfl, .inr rfl⟩
    · obtain ⟨X4, a6, a7, a8, a9, rfl, _⟩ := hP
      try simp only [gSub, gMod, gDiv, gPow, gShl, gShr, gAnd, gOr, gXor, gLt, gLe, gGt, gGe, C0, s_asD1, s_asD2, s_asDs0, s_asDs1, s_nrm1, s_nrm2, s_nrm3, s_nrm4, s_nrm5, s_bo, s_ret1, s_ret2, s_add1, s_add2, s_add3, s_add4, s_gI, s_mul1, s_mul2, s_mul3, s_gB, s_in1, s_in2, s_is1, s_is2, s_is3, s_is4, s_is5, s_is6, s_ix1, s_ix2, s_ix3, s_g1, s_g2, s_len1, s_len2, s_len3, s_tup1, s_tup2, s_lst1, s_lst2, s_abs, s_int1, s_int2, s_stri, s_bools, s_sum, s_sort, s_seq1, s_seq2, s_seq3, s_any, s_any1, s_any2, s_any3, s_rng1, s_rng2, s_rng3, s_rng4, s_enum, s_enum1, s_enum2, s_gN, s_gsN, s_gsC, s_gT, s_var, s_var1, s_var2, s_var3, s_var4, s_meth, s_meth1, s_close, s_close1, s_close2, s_close3, s_six, s_six1, s_six2, s_retO, s_retO1, s_retO2, s_peek1, s_peekT1, s_peeks0, s_peeks1, s_wipe0, s_wipe1, s_lf1, s_lf2, s_app, s_ext, s_rem, s_cnt, s_idx, s_spl, s_ty1, s_ty2, s_dSeq, s_dIfS, s_dTest, s_dBin, s_dC, s_gEq, s_dRet, s_dNext, s_dRetN, s_dSet, s_dCons, s_dNil, s_dCB, s_dCall, s_dLc, s_dYes, s_dTup, s_dLst, s_dFor, s_dChain, s_dAndV, s_dOrV, s_dNotV, s_dAnd, s_dOr, s_dNot, s_dIf, s_dRaise, s_dAsg, s_dDrop, s_dMv, s_dIsi, s_dZip, Shp, shp_int, shp_bool, shp_none, PyData.eqv, List.length_cons, List.length_nil, List.replicate, List.cons_append, List.nil_append, List.getElem?_cons_zero, List.getElem?_cons_succ, List.append_nil, List.set_cons_zero, List.set_cons_succ, List.map_cons, List.map_nil, Nat.reduceAdd, Nat.reduceSub, Nat.zero_add, Nat.reduceLT, true_and, and_true, if_true, ite_true, ite_false, Bool.false_eq_true, bne_self_eq_false, Bool.bne_false, Bool.bne_true, Nat.sub_self, Nat.reduceLeDiff, Nat.zero_le, Nat.lt_add_one]
      exact hq
/-- the dual as the program tells it -/
def dualP (q : Nat) (l : List (List Nat)) : List (List Nat) := lowA q (nullA q 4 (lowA q l))
theorem nullA_rw {q n : Nat} {lows : List (List Nat)} (g : G q) (h : RwS q n lows) : RwS q n (nullA q n lows) := fun r hr => by
  unfold nullA at hr
  obtain ⟨f, hf, rfl⟩ := List.mem_map.mp hr
  exact nullRow_rw g h (List.mem_range.mp (List.mem_filter.mp hf).1)
theorem p_across {q : Nat} {rows : List (List Nat)} {d : D} {Q : SK} {E : EK} (g : G q) (hd : d = .list (rows.map eR) ∨ d = .tuple (rows.map eR)) (h : RwS q 4 rows) (hl : rows.length ≤ 1000) (hq : Q (.sh (.tuple ((dualP q rows).map eR)))) :
    F_rows_across [.sh (.int q), .sh d] Q E := by
  have hA := (lowA_red g h).rw_
  have hN := nullA_rw g hA
  have hlen : (nullA q 4 (lowA q rows)).length ≤ 1000 := by
    unfold nullA
    rw [List.length_map]
    have := List.length_filter_le (fun f => !((List.map lead (lowA q rows)).any fun z => z == f)) (List.range 4)
    rw [List.length_range] at this
    omega
  simp only [E_rows_across, den_rows_across, gSub, gMod, gDiv, gPow, gShl, gShr, gAnd, gOr, gXor, gLt, gLe, gGt, gGe, C0, s_asD1, s_asD2, s_asDs0, s_asDs1, s_nrm1, s_nrm2, s_nrm3, s_nrm4, s_nrm5, s_bo, s_ret1, s_ret2, s_add1, s_add2, s_add3, s_add4, s_gI, s_mul1, s_mul2, s_mul3, s_gB, s_in1, s_in2, s_is1, s_is2, s_is3, s_is4, s_is5, s_is6, s_ix1, s_ix2, s_ix3, s_g1, s_g2, s_len1, s_len2, s_len3, s_tup1, s_tup2, s_lst1, s_lst2, s_abs, s_int1, s_int2, s_stri, s_bools, s_sum, s_sort, s_seq1, s_seq2, s_seq3, s_any, s_any1, s_any2, s_any3, s_rng1, s_rng2, s_rng3, s_rng4, s_enum, s_enum1, s_enum2, s_gN, s_gsN, s_gsC, s_gT, s_var, s_var1, s_var2, s_var3, s_var4, s_meth, s_meth1, s_close, s_close1, s_close2, s_close3, s_six, s_six1, s_six2, s_retO, s_retO1, s_retO2, s_peek1, s_peekT1, s_peeks0, s_peeks1, s_wipe0, s_wipe1, s_lf1, s_lf2, s_app, s_ext, s_rem, s_cnt, s_idx, s_spl, s_ty1, s_ty2, s_dSeq, s_dIfS, s_dTest, s_dBin, s_dC, s_gEq, s_dRet, s_dNext, s_dRetN, s_dSet, s_dCons, s_dNil, s_dCB, s_dCall, s_dLc, s_dYes, s_dTup, s_dLst, s_dFor, s_dChain, s_dAndV, s_dOrV, s_dNotV, s_dAnd, s_dOr, s_dNot, s_dIf, s_dRaise, s_dAsg, s_dDrop, s_dMv, s_dIsi, s_dZip, Shp, shp_int, shp_bool, shp_none, PyData.eqv, List.length_cons, List.length_nil, List.replicate, List.cons_append, List.nil_append, List.getElem?_cons_zero, List.getElem?_cons_succ, List.append_nil, List.set_cons_zero, List.set_cons_succ, List.map_cons, List.map_nil, Nat.reduceAdd, Nat.reduceSub, Nat.zero_add, Nat.reduceLT, true_and, and_true, if_true, ite_true, ite_false, Bool.false_eq_true, bne_self_eq_false, Bool.bne_false, Bool.bne_true, Nat.sub_self, Nat.reduceLeDiff, Nat.zero_le, Nat.lt_add_one]
  have z4 : PyData.int 4 = PyData.int ((4 : Nat) : Int) := rfl
  rw [z4]
  refine p_null g hd h hl (by decide) ?_
  try simp only [gSub, gMod, gDiv, gPow, gShl, gShr, gAnd, gOr, gXor, gLt, gLe, gGt, gGe, C0, s_asD1, s_asD2, s_asDs0, s_asDs1, s_nrm1, s_nrm2, s_nrm3, s_nrm4, s_nrm5, s_bo, s_ret1, s_ret2, s_add1, s_add2, s_add3, s_add4, s_gI, s_mul1, s_mul2, s_mul3, s_gB, s_in1, s_in2, s_is1, s_is2, s_is3, s_is4, s_is5, s_is6, s_ix1, s_ix2, s_ix3, s_g1, s_g2, s_len1, s_len2, s_len3, s_tup1, s_tup2, s_lst1, s_lst2, s_abs, s_int1, s_int2, s_stri, s_bools, s_sum, s_sort, s_seq1, s_seq2, s_seq3, s_any, s_any1, s_any2, s_any3, s_rng1, s_rng2, s_rng3, s_rng4, s_enum, s_enum1, s_enum2, s_gN, s_gsN, s_gsC, s_gT, s_var, s_var1, s_var2, s_var3, s_var4, s_meth, s_meth1, s_close, s_close1, s_close2, s_close3, s_six, s_six1, s_six2, s_retO, s_retO1, s_retO2, s_peek1, s_peekT1, s_peeks0, s_peeks1, s_wipe0, s_wipe1, s_lf1, s_lf2, s_app, s_ext, s_rem, s_cnt, s_idx, s_spl, s_ty1, s_ty2, s_dSeq, s_dIfS, s_dTest, s_dBin, s_dC, s_gEq, s_dRet, s_dNext, s_dRetN, s_dSet, s_dCons, s_dNil, s_dCB, s_dCall, s_dLc, s_dYes, s_dTup, s_dLst, s_dFor, s_dChain, s_dAndV, s_dOrV, s_dNotV, s_dAnd, s_dOr, s_dNot, s_dIf, s_dRaise, s_dAsg, s_dDrop, s_dMv, s_dIsi, s_dZip, Shp, shp_int, shp_bool, shp_none, PyData.eqv, List.length_cons, List.length_nil, List.replicate, List.cons_append, List.nil_append, List.getElem?_cons_zero, List.getElem?_cons_succ, List.append_nil, List.set_cons_zero, List.set_cons_succ, List.map_cons, List.map_nil, Nat.reduceAdd, Nat.reduceSub, Nat.zero_add, Nat.reduceLT, true_and, and_true, if_true, ite_true, ite_false, Bool.false_eq_true, bne_self_eq_false, Bool.bne_false, Bool.bne_true, Nat.sub_self, Nat.reduceLeDiff, Nat.zero_le, Nat.lt_add_one]
  refine p_lowA g (.inl rfl) hN hlen ?_ ?_
  · try simp only [gSub, gMod, gDiv, gPow, gShl, gShr, gAnd, gOr, gXor, gLt, gLe, gGt, gGe, C0, s_asD1, s_asD2, s_asDs0, s_asDs1, s_nrm1, s_nrm2, s_nrm3, s_nrm4, s_nrm5, s_bo, s_ret1, s_ret2, s_add1, s_add2, s_add3, s_add4, s_gI, s_mul1, s_mul2, s_mul3, s_gB, s_in1, s_in2, s_is1, s_is2, s_is3, s_is4, s_is5, s_is6, s_ix1, s_ix2, s_ix3, s_g1, s_g2, s_len1, s_len2, s_len3, s_tup1, s_tup2, s_lst1, s_lst2, s_abs, s_int1, s_int2, s_stri, s_bools, s_sum, s_sort, s_seq1, s_seq2, s_seq3, s_any, s_any1, s_any2, s_any3, s_rng1, s_rng2, s_rng3, s_rng4, s_enum, s_enum1, s_enum2, s_gN, s_gsN, s_gsC, s_gT, s_var, s_var1, s_var2, s_var3, s_var4, s_meth, s_meth1, s_close, s_close1, s_close2, s_close3, s_six, s_six1, s_six2, s_retO, s_retO1, s_retO2, s_peek1, s_peekT1, s_peeks0, s_peeks1, s_wipe0, s_wipe1, s_lf1, s_lf2, s_app, s_ext, s_rem, s_cnt, s_idx, s_spl, s_ty1, s_ty2, s_dSeq, s_dIfS, s_dTest, s_dBin, s_dC, s_gEq, s_dRet, s_dNext, s_dRetN, s_dSet, s_dCons, s_dNil, s_dCB, s_dCall, s_dLc, s_dYes, s_dTup, s_dLst, s_dFor, s_dChain, s_dAndV, s_dOrV, s_dNotV, s_dAnd, s_dOr, s_dNot, s_dIf, s_dRaise, s_dAsg, s_dDrop, s_dMv, s_dIsi, s_dZip, Shp, shp_int, shp_bool, shp_none, PyData.eqv, List.length_cons, List.length_nil, List.replicate, List.cons_append, List.nil_append, List.getElem?_cons_zero, List.getElem?_cons_succ, List.append_nil, List.set_cons_zero, List.set_cons_succ, List.map_cons, List.map_nil, Nat.reduceAdd, Nat.reduceSub, Nat.zero_add, Nat.reduceLT, true_and, and_true, if_true, ite_true, ite_false, Bool.false_eq_true, bne_self_eq_false, Bool.bne_false, Bool.bne_true, Nat.sub_self, Nat.reduceLeDiff, Nat.zero_le, Nat.lt_add_one]
    exact hq
  · try simp only [gSub, gMod, gDiv, gPow, gShl, gShr, gAnd, gOr, gXor, gLt, gLe, gGt, gGe, C0, s_asD1, s_asD2, s_asDs0, s_asDs1, s_nrm1, s_nrm2, s_nrm3, s_nrm4, s_nrm5, s_bo, s_ret1, s_ret2, s_add1, s_add2, s_add3, s_add4, s_gI, s_mul1, s_mul2, s_mul3, s_gB, s_in1, s_in2, s_is1, s_is2, s_is3, s_is4, s_is5, s_is6, s_ix1, s_ix2, s_ix3, s_g1, s_g2, s_len1, s_len2, s_len3, s_tup1, s_tup2, s_lst1, s_lst2, s_abs, s_int1, s_int2, s_stri, s_bools, s_sum, s_sort, s_seq1, s_seq2, s_seq3, s_any, s_any1, s_any2, s_any3, s_rng1, s_rng2, s_rng3, s_rng4, s_enum, s_enum1, s_enum2, s_gN, s_gsN, s_gsC, s_gT, s_var, s_var1, s_var2, s_var3, s_var4, s_meth, s_meth1, s_close, s_close1, s_close2, s_close3, s_six, s_six1, s_six2, s_retO, s_retO1, s_retO2, s_peek1, s_peekT1, s_peeks0, s_peeks1, s_wipe0, s_wipe1, s_lf1, s_lf2, s_app, s_ext, s_rem, s_cnt, s_idx, s_spl, s_ty1, s_ty2, s_dSeq, s_dIfS, s_dTest, s_dBin, s_dC, s_gEq, s_dRet, s_dNext, s_dRetN, s_dSet, s_dCons, s_dNil, s_dCB, s_dCall, s_dLc, s_dYes, s_dTup, s_dLst, s_dFor, s_dChain, s_dAndV, s_dOrV, s_dNotV, s_dAnd, s_dOr, s_dNot, s_dIf, s_dRaise, s_dAsg, s_dDrop, s_dMv, s_dIsi, s_dZip, Shp, shp_int, shp_bool, shp_none, PyData.eqv, List.length_cons, List.length_nil, List.replicate, List.cons_append, List.nil_append, List.getElem?_cons_zero, List.getElem?_cons_succ, List.append_nil, List.set_cons_zero, List.set_cons_succ, List.map_cons, List.map_nil, Nat.reduceAdd, Nat.reduceSub, Nat.zero_add, Nat.reduceLT, true_and, and_true, if_true, ite_true, ite_false, Bool.false_eq_true, bne_self_eq_false, Bool.bne_false, Bool.bne_true, Nat.sub_self, Nat.reduceLeDiff, Nat.zero_le, Nat.lt_add_one]
    exact hq
theorem k_ii : kitB (tyOf (PyData.int 0)) "int" = some true := by decide +kernel
theorem k_ib : kitB (tyOf (PyData.int 0)) "bool" = some false := by decide +kernel
theorem p_look {q : Nat} {Q : SK} {E : EK} (g : G q) (hq : Q (.sh .none)) : F_look_field [.sh (.int q)] Q E := by
  simp only [E_look_field, den_look_field, gSub, gMod, gDiv, gPow, gShl, gShr, gAnd, gOr, gXor, gLt, gLe, gGt, gGe, C0, s_asD1, s_asD2, s_asDs0, s_asDs1, s_nrm1, s_nrm2, s_nrm3, s_nrm4, s_nrm5, s_bo, s_ret1, s_ret2, s_add1, s_add2, s_add3, s_add4, s_gI, s_mul1, s_mul2, s_mul3, s_gB, s_in1, s_in2, s_is1, s_is2, s_is3, s_is4, s_is5, s_is6, s_ix1, s_ix2, s_ix3, s_g1, s_g2, s_len1, s_len2, s_len3, s_tup1, s_tup2, s_lst1, s_lst2, s_abs, s_int1, s_int2, s_stri, s_bools, s_sum, s_sort, s_seq1, s_seq2, s_seq3, s_any, s_any1, s_any2, s_any3, s_rng1, s_rng2, s_rng3, s_rng4, s_enum, s_enum1, s_enum2, s_gN, s_gsN, s_gsC, s_gT, s_var, s_var1, s_var2, s_var3, s_var4, s_meth, s_meth1, s_close, s_close1, s_close2, s_close3, s_six, s_six1, s_six2, s_retO, s_retO1, s_retO2, s_peek1, s_peekT1, s_peeks0, s_peeks1, s_wipe0, s_wipe1, s_lf1, s_lf2, s_app, s_ext, s_rem, s_cnt, s_idx, s_spl, s_ty1, s_ty2, s_dSeq, s_dIfS, s_dTest, s_dBin, s_dC, s_gEq, s_dRet, s_dNext, s_dRetN, s_dSet, s_dCons, s_dNil, s_dCB, s_dCall, s_dLc, s_dYes, s_dTup, s_dLst, s_dFor, s_dChain, s_dAndV, s_dOrV, s_dNotV, s_dAnd, s_dOr, s_dNot, s_dIf, s_dRaise, s_dAsg, s_dDrop, s_dMv, s_dIsi, s_dZip, Shp, shp_int, shp_bool, shp_none, PyData.eqv, List.length_cons, List.length_nil, List.replicate, List.cons_append, List.nil_append, List.getElem?_cons_zero, List.getElem?_cons_succ, List.append_nil, List.set_cons_zero, List.set_cons_succ, List.map_cons, List.map_nil, Nat.reduceAdd, Nat.reduceSub, Nat.zero_add, Nat.reduceLT, true_and, and_true, if_true, ite_true, ite_false, Bool.false_eq_true, bne_self_eq_false, Bool.bne_false, Bool.bne_true, Nat.sub_self, Nat.reduceLeDiff, Nat.zero_le, Nat.lt_add_one]
  simp only [E_is_whole, den_is_whole, gSub, gMod, gDiv, gPow, gShl, gShr, gAnd, gOr, gXor, gLt, gLe, gGt, gGe, C0, s_asD1, s_asD2, s_asDs0, s_asDs1, s_nrm1, s_nrm2, s_nrm3, s_nrm4, s_nrm5, s_bo, s_ret1, s_ret2, s_add1, s_add2, s_add3, s_add4, s_gI, s_mul1, s_mul2, s_mul3, s_gB, s_in1, s_in2, s_is1, s_is2, s_is3, s_is4, s_is5, s_is6, s_ix1, s_ix2, s_ix3, s_g1, s_g2, s_len1, s_len2, s_len3, s_tup1, s_tup2, s_lst1, s_lst2, s_abs, s_int1, s_int2, s_stri, s_bools, s_sum, s_sort, s_seq1, s_seq2, s_seq3, s_any, s_any1, s_any2, s_any3, s_rng1, s_rng2, s_rng3, s_rng4, s_enum, s_enum1, s_enum2, s_gN, s_gsN, s_gsC, s_gT, s_var, s_var1, s_var2, s_var3, s_var4, s_meth, s_meth1, s_close, s_close1, s_close2, s_close3, s_six, s_six1, s_six2, s_retO, s_retO1, s_retO2, s_peek1, s_peekT1, s_peeks0, s_peeks1, s_wipe0, s_wipe1, s_lf1, s_lf2, s_app, s_ext, s_rem, s_cnt, s_idx, s_spl, s_ty1, s_ty2, s_dSeq, s_dIfS, s_dTest, s_dBin, s_dC, s_gEq, s_dRet, s_dNext, s_dRetN, s_dSet, s_dCons, s_dNil, s_dCB, s_dCall, s_dLc, s_dYes, s_dTup, s_dLst, s_dFor, s_dChain, s_dAndV, s_dOrV, s_dNotV, s_dAnd, s_dOr, s_dNot, s_dIf, s_dRaise, s_dAsg, s_dDrop, s_dMv, s_dIsi, s_dZip, Shp, shp_int, shp_bool, shp_none, PyData.eqv, List.length_cons, List.length_nil, List.replicate, List.cons_append, List.nil_append, List.getElem?_cons_zero, List.getElem?_cons_succ, List.append_nil, List.set_cons_zero, List.set_cons_succ, List.map_cons, List.map_nil, Nat.reduceAdd, Nat.reduceSub, Nat.zero_add, Nat.reduceLT, true_and, and_true, if_true, ite_true, ite_false, Bool.false_eq_true, bne_self_eq_false, Bool.bne_false, Bool.bne_true, Nat.sub_self, Nat.reduceLeDiff, Nat.zero_le, Nat.lt_add_one]
  refine ⟨true, k_ii, ?_⟩
  rw [if_pos rfl]
  refine ⟨false, k_ib, ?_⟩
  simp only [Bool.not_false, Bool.not_true, gSub, gMod, gDiv, gPow, gShl, gShr, gAnd, gOr, gXor, gLt, gLe, gGt, gGe, C0, s_asD1, s_asD2, s_asDs0, s_asDs1, s_nrm1, s_nrm2, s_nrm3, s_nrm4, s_nrm5, s_bo, s_ret1, s_ret2, s_add1, s_add2, s_add3, s_add4, s_gI, s_mul1, s_mul2, s_mul3, s_gB, s_in1, s_in2, s_is1, s_is2, s_is3, s_is4, s_is5, s_is6, s_ix1, s_ix2, s_ix3, s_g1, s_g2, s_len1, s_len2, s_len3, s_tup1, s_tup2, s_lst1, s_lst2, s_abs, s_int1, s_int2, s_stri, s_bools, s_sum, s_sort, s_seq1, s_seq2, s_seq3, s_any, s_any1, s_any2, s_any3, s_rng1, s_rng2, s_rng3, s_rng4, s_enum, s_enum1, s_enum2, s_gN, s_gsN, s_gsC, s_gT, s_var, s_var1, s_var2, s_var3, s_var4, s_meth, s_meth1, s_close, s_close1, s_close2, s_close3, s_six, s_six1, s_six2, s_retO, s_retO1, s_retO2, s_peek1, s_peekT1, s_peeks0, s_peeks1, s_wipe0, s_wipe1, s_lf1, s_lf2, s_app, s_ext, s_rem, s_cnt, s_idx, s_spl, s_ty1, s_ty2, s_dSeq, s_dIfS, s_dTest, s_dBin, s_dC, s_gEq, s_dRet, s_dNext, s_dRetN, s_dSet, s_dCons, s_dNil, s_dCB, s_dCall, s_dLc, s_dYes, s_dTup, s_dLst, s_dFor, s_dChain, s_dAndV, s_dOrV, s_dNotV, s_dAnd, s_dOr, s_dNot, s_dIf, s_dRaise, s_dAsg, s_dDrop, s_dMv, s_dIsi, s_dZip, Shp, shp_int, shp_bool, shp_none, PyData.eqv, List.length_cons, List.length_nil, List.replicate, List.cons_append, List.nil_append, List.getElem?_cons_zero, List.getElem?_cons_succ, List.append_nil, List.set_cons_zero, List.set_cons_succ, List.map_cons, List.map_nil, Nat.reduceAdd, Nat.reduceSub, Nat.zero_add, Nat.reduceLT, true_and, and_true, if_true, ite_true, ite_false, Bool.false_eq_true, bne_self_eq_false, Bool.bne_false, Bool.bne_true, Nat.sub_self, Nat.reduceLeDiff, Nat.zero_le, Nat.lt_add_one]
  refine ⟨rfl, rfl, ?_⟩
  rcases g with rfl | rfl | rfl | rfl <;> (simp [PyData.eqv]; exact hq)
theorem p_dualline {q : Nat} {rows : List (List Nat)} {Q : SK} {E : EK} (g : G q) (h : RwS q 4 rows) (hl : rows.length ≤ 1000) (hq : Q (.sh (.tuple ((dualP q rows).map eR)))) : F_dual_line [.sh (.int q), .sh (.tuple (rows.map eR))] Q E := by
  simp only [E_dual_line, den_dual_line, gSub, gMod, gDiv, gPow, gShl, gShr, gAnd, gOr, gXor, gLt, gLe, gGt, gGe, C0, s_asD1, s_asD2, s_asDs0, s_asDs1, s_nrm1, s_nrm2, s_nrm3, s_nrm4, s_nrm5, s_bo, s_ret1, s_ret2, s_add1, s_add2, s_add3, s_add4, s_gI, s_mul1, s_mul2, s_mul3, s_gB, s_in1, s_in2, s_is1, s_is2, s_is3, s_is4, s_is5, s_is6, s_ix1, s_ix2, s_ix3, s_g1, s_g2, s_len1, s_len2, s_len3, s_tup1, s_tup2, s_lst1, s_lst2, s_abs, s_int1, s_int2, s_stri, s_bools, s_sum, s_sort, s_seq1, s_seq2, s_seq3, s_any, s_any1, s_any2, s_any3, s_rng1, s_rng2, s_rng3, s_rng4, s_enum, s_enum1, s_enum2, s_gN, s_gsN, s_gsC, s_gT, s_var, s_var1, s_var2, s_var3, s_var4, s_meth, s_meth1, s_close, s_close1, s_close2, s_close3, s_six, s_six1, s_six2, s_retO, s_retO1, s_retO2, s_peek1, s_peekT1, s_peeks0, s_peeks1, s_wipe0, s_wipe1, s_lf1, s_lf2, s_app, s_ext, s_rem, s_cnt, s_idx, s_spl, s_ty1, s_ty2, s_dSeq, s_dIfS, s_dTest, s_dBin, s_dC, s_gEq, s_dRet, s_dNext, s_dRetN, s_dSet, s_dCons, s_dNil, s_dCB, s_dCall, s_dLc, s_dYes, s_dTup, s_dLst, s_dFor, s_dChain, s_dAndV, s_dOrV, s_dNotV, s_dAnd, s_dOr, s_dNot, s_dIf, s_dRaise, s_dAsg, s_dDrop, s_dMv, s_dIsi, s_dZip, Shp, shp_int, shp_bool, shp_none, PyData.eqv, List.length_cons, List.length_nil, List.replicate, List.cons_append, List.nil_append, List.getElem?_cons_zero, List.getElem?_cons_succ, List.append_nil, List.set_cons_zero, List.set_cons_succ, List.map_cons, List.map_nil, Nat.reduceAdd, Nat.reduceSub, Nat.zero_add, Nat.reduceLT, true_and, and_true, if_true, ite_true, ite_false, Bool.false_eq_true, bne_self_eq_false, Bool.bne_false, Bool.bne_true, Nat.sub_self, Nat.reduceLeDiff, Nat.zero_le, Nat.lt_add_one]
  refine p_look g ?_
  try simp only [gSub, gMod, gDiv, gPow, gShl, gShr, gAnd, gOr, gXor, gLt, gLe, gGt, gGe, C0, s_asD1, s_asD2, s_asDs0, s_asDs1, s_nrm1, s_nrm2, s_nrm3, s_nrm4, s_nrm5, s_bo, s_ret1, s_ret2, s_add1, s_add2, s_add3, s_add4, s_gI, s_mul1, s_mul2, s_mul3, s_gB, s_in1, s_in2, s_is1, s_is2, s_is3, s_is4, s_is5, s_is6, s_ix1, s_ix2, s_ix3, s_g1, s_g2, s_len1, s_len2, s_len3, s_tup1, s_tup2, s_lst1, s_lst2, s_abs, s_int1, s_int2, s_stri, s_bools, s_sum, s_sort, s_seq1, s_seq2, s_seq3, s_any, s_any1, s_any2, s_any3, s_rng1, s_rng2, s_rng3, s_rng4, s_enum, s_enum1, s_enum2, s_gN, s_gsN, s_gsC, s_gT, s_var, s_var1, s_var2, s_var3, s_var4, s_meth, s_meth1, s_close, s_close1, s_close2, s_close3, s_six, s_six1, s_six2, s_retO, s_retO1, s_retO2, s_peek1, s_peekT1, s_peeks0, s_peeks1, s_wipe0, s_wipe1, s_lf1, s_lf2, s_app, s_ext, s_rem, s_cnt, s_idx, s_spl, s_ty1, s_ty2, s_dSeq, s_dIfS, s_dTest, s_dBin, s_dC, s_gEq, s_dRet, s_dNext, s_dRetN, s_dSet, s_dCons, s_dNil, s_dCB, s_dCall, s_dLc, s_dYes, s_dTup, s_dLst, s_dFor, s_dChain, s_dAndV, s_dOrV, s_dNotV, s_dAnd, s_dOr, s_dNot, s_dIf, s_dRaise, s_dAsg, s_dDrop, s_dMv, s_dIsi, s_dZip, Shp, shp_int, shp_bool, shp_none, PyData.eqv, List.length_cons, List.length_nil, List.replicate, List.cons_append, List.nil_append, List.getElem?_cons_zero, List.getElem?_cons_succ, List.append_nil, List.set_cons_zero, List.set_cons_succ, List.map_cons, List.map_nil, Nat.reduceAdd, Nat.reduceSub, Nat.zero_add, Nat.reduceLT, true_and, and_true, if_true, ite_true, ite_false, Bool.false_eq_true, bne_self_eq_false, Bool.bne_false, Bool.bne_true, Nat.sub_self, Nat.reduceLeDiff, Nat.zero_le, Nat.lt_add_one]
  refine p_across g (.inr rfl) h hl ?_
  try simp only [gSub, gMod, gDiv, gPow, gShl, gShr, gAnd, gOr, gXor, gLt, gLe, gGt, gGe, C0, s_asD1, s_asD2, s_asDs0, s_asDs1, s_nrm1, s_nrm2, s_nrm3, s_nrm4, s_nrm5, s_bo, s_ret1, s_ret2, s_add1, s_add2, s_add3, s_add4, s_gI, s_mul1, s_mul2, s_mul3, s_gB, s_in1, s_in2, s_is1, s_is2, s_is3, s_is4, s_is5, s_is6, s_ix1, s_ix2, s_ix3, s_g1, s_g2, s_len1, s_len2, s_len3, s_tup1, s_tup2, s_lst1, s_lst2, s_abs, s_int1, s_int2, s_stri, s_bools, s_sum, s_sort, s_seq1, s_seq2, s_seq3, s_any, s_any1, s_any2, s_any3, s_rng1, s_rng2, s_rng3, s_rng4, s_enum, s_enum1, s_enum2, s_gN, s_gsN, s_gsC, s_gT, s_var, s_var1, s_var2, s_var3, s_var4, s_meth, s_meth1, s_close, s_close1, s_close2, s_close3, s_six, s_six1, s_six2, s_retO, s_retO1, s_retO2, s_peek1, s_peekT1, s_peeks0, s_peeks1, s_wipe0, s_wipe1, s_lf1, s_lf2, s_app, s_ext, s_rem, s_cnt, s_idx, s_spl, s_ty1, s_ty2, s_dSeq, s_dIfS, s_dTest, s_dBin, s_dC, s_gEq, s_dRet, s_dNext, s_dRetN, s_dSet, s_dCons, s_dNil, s_dCB, s_dCall, s_dLc, s_dYes, s_dTup, s_dLst, s_dFor, s_dChain, s_dAndV, s_dOrV, s_dNotV, s_dAnd, s_dOr, s_dNot, s_dIf, s_dRaise, s_dAsg, s_dDrop, s_dMv, s_dIsi, s_dZip, Shp, shp_int, shp_bool, shp_none, PyData.eqv, List.length_cons, List.length_nil, List.replicate, List.cons_append, List.nil_append, List.getElem?_cons_zero, List.getElem?_cons_succ, List.append_nil, List.set_cons_zero, List.set_cons_succ, List.map_cons, List.map_nil, Nat.reduceAdd, Nat.reduceSub, Nat.zero_add, Nat.reduceLT, true_and, and_true, if_true, ite_true, ite_false, Bool.false_eq_true, bne_self_eq_false, Bool.bne_false, Bool.bne_true, Nat.sub_self, Nat.reduceLeDiff, Nat.zero_le, Nat.lt_add_one]
  exact hq
theorem fmod_rng {a m : Int} (h : 0 < m) : 0 ≤ Int.fmod a m ∧ Int.fmod a m < m := by
  rw [Int.fmod_eq_emod_of_nonneg _ (by omega)]
  exact ⟨Int.emod_nonneg _ (by omega), Int.emod_lt_of_pos _ h⟩
/-- a draw: any number below m -/
theorem p_take {m : Nat} {Q : SK} {E : EK} (h0 : 0 < m) (h1 : m < 1000000) (hq : ∀ k, k < m → Q (.sh (.int (k : Nat)))) : F__law_take [.bag, .sh (.int m)] Q E := by
  have any : ∀ x : Int, Q (.sh (.int (Int.fmod x m))) := fun x => by
    obtain ⟨a, b⟩ := fmod_rng (a := x) (m := m) (by omega)
    have := hq (Int.fmod x m).toNat (by omega)
    rwa [show (((Int.fmod x m).toNat : Nat) : Int) = Int.fmod x m by omega] at this
  simp only [E__law_take, den__law_take, dBag0, dBag1, dBagS0, dBagS1, gSub, gMod, gDiv, gPow, gShl, gShr, gAnd, gOr, gXor, gLt, gLe, gGt, gGe, C0, s_asD1, s_asD2, s_asDs0, s_asDs1, s_nrm1, s_nrm2, s_nrm3, s_nrm4, s_nrm5, s_bo, s_ret1, s_ret2, s_add1, s_add2, s_add3, s_add4, s_gI, s_mul1, s_mul2, s_mul3, s_gB, s_in1, s_in2, s_is1, s_is2, s_is3, s_is4, s_is5, s_is6, s_ix1, s_ix2, s_ix3, s_g1, s_g2, s_len1, s_len2, s_len3, s_tup1, s_tup2, s_lst1, s_lst2, s_abs, s_int1, s_int2, s_stri, s_bools, s_sum, s_sort, s_seq1, s_seq2, s_seq3, s_any, s_any1, s_any2, s_any3, s_rng1, s_rng2, s_rng3, s_rng4, s_enum, s_enum1, s_enum2, s_gN, s_gsN, s_gsC, s_gT, s_var, s_var1, s_var2, s_var3, s_var4, s_meth, s_meth1, s_close, s_close1, s_close2, s_close3, s_six, s_six1, s_six2, s_retO, s_retO1, s_retO2, s_peek1, s_peekT1, s_peeks0, s_peeks1, s_wipe0, s_wipe1, s_lf1, s_lf2, s_app, s_ext, s_rem, s_cnt, s_idx, s_spl, s_ty1, s_ty2, s_dSeq, s_dIfS, s_dTest, s_dBin, s_dC, s_gEq, s_dRet, s_dNext, s_dRetN, s_dSet, s_dCons, s_dNil, s_dCB, s_dCall, s_dLc, s_dYes, s_dTup, s_dLst, s_dFor, s_dChain, s_dAndV, s_dOrV, s_dNotV, s_dAnd, s_dOr, s_dNot, s_dIf, s_dRaise, s_dAsg, s_dDrop, s_dMv, s_dIsi, s_dZip, Shp, shp_int, shp_bool, shp_none, PyData.eqv, List.length_cons, List.length_nil, List.replicate, List.cons_append, List.nil_append, List.getElem?_cons_zero, List.getElem?_cons_succ, List.append_nil, List.set_cons_zero, List.set_cons_succ, List.map_cons, List.map_nil, Nat.reduceAdd, Nat.reduceSub, Nat.zero_add, Nat.reduceLT, true_and, and_true, if_true, ite_true, ite_false, Bool.false_eq_true, bne_self_eq_false, Bool.bne_false, Bool.bne_true, Nat.sub_self, Nat.reduceLeDiff, Nat.zero_le, Nat.lt_add_one]
  intro g0
  split
  · intro g1
    refine ⟨by omega, fun g2 => ⟨⟨by omega, by omega⟩, any g1⟩⟩
  · intro g1 _
    refine ⟨.inr ⟨by decide, by decide⟩, by decide, ?_, fun g2 h2 => ⟨⟨by decide, by decide⟩, ⟨by decide, by decide, ?_⟩, by decide, by omega, any _⟩⟩
    · obtain ⟨a, b⟩ := fmod_rng (a := g1 * 48271 + 11) (m := 2147483647) (by decide)
      omega
    · have e : (2 : Nat) ^ 64 = 18446744073709551616 := by decide
      rw [e, Int.fdiv_eq_ediv_of_nonneg _ (by decide)]
      omega
/-- a bag: two numbers -/
theorem p_bag {ns : List Int} {a : Nat} {Q : SK} {E : EK} (ha : a < 1000) (hq : ∀ (g : Int) (s : Sml), Q (.own [.int g, .int s.1])) : F__law_bag [.scr ns, .sh (.int a)] Q E := by
  have core : ∀ c G : Int, (2147483647 : Int) ≠ 0 ∧ CMul 104729 (a : Int) ∧ CPow (Int.fmod c 2147483647 + 104729 * (a : Int) + 7) 5 ∧ (8 : Int) ≠ 0 ∧ ∃ d, atI [PyData.int 2147483629, PyData.int 2147483587, PyData.int 2147483579, PyData.int 2147483563, PyData.int 2147483549, PyData.int 2147483543, PyData.int 2147483497, PyData.int 2147483489] (Int.fmod (a : Int) 8) = some d ∧
      gI (fun x b => b ≠ 0) Int.fmod (PyData.int ((Int.fmod c 2147483647 + 104729 * (a : Int) + 7) ^ Int.toNat 5)) d fun s => asD s fun d => Q (Slot.own [PyData.int G, d]) := fun c G => by
    obtain ⟨r1, r2⟩ := fmod_rng (a := c) (m := 2147483647) (by decide)
    have e64 : (2 : Nat) ^ 64 = 18446744073709551616 := by decide
    refine ⟨by decide, .inl ⟨by decide, by decide⟩, ⟨by decide, by decide, by rw [e64]; omega⟩, by decide, ?_⟩
    have e8 : Int.fmod (a : Int) 8 = ((a % 8 : Nat) : Int) := fmod_nat a 8
    rw [e8]
    have fin : ∀ (p : Int) (x : Int), 0 < p → p < 4294967296 → gI (fun x b => b ≠ 0) Int.fmod (PyData.int x) (PyData.int p) fun s => asD s fun d => Q (Slot.own [PyData.int G, d]) := fun p x h1 h2 => by
      obtain ⟨k1, k2⟩ := fmod_rng (a := x) h1
      exact ⟨by omega, hq G ⟨Int.fmod x p, by omega⟩⟩
    have h8 : a % 8 = 0 ∨ a % 8 = 1 ∨ a % 8 = 2 ∨ a % 8 = 3 ∨ a % 8 = 4 ∨ a % 8 = 5 ∨ a % 8 = 6 ∨ a % 8 = 7 := by omega
    rcases h8 with h | h | h | h | h | h | h | h <;> (rw [h]; exact ⟨_, atI_nat rfl, fin _ _ (by decide) (by decide)⟩)
  have cp : CPow 10 18 := ⟨by decide, by decide, by decide⟩
  simp only [E__law_bag, den__law_bag, dScLen, dScIx, gSub, gMod, gDiv, gPow, gShl, gShr, gAnd, gOr, gXor, gLt, gLe, gGt, gGe, C0, s_asD1, s_asD2, s_asDs0, s_asDs1, s_nrm1, s_nrm2, s_nrm3, s_nrm4, s_nrm5, s_bo, s_ret1, s_ret2, s_add1, s_add2, s_add3, s_add4, s_gI, s_mul1, s_mul2, s_mul3, s_gB, s_in1, s_in2, s_is1, s_is2, s_is3, s_is4, s_is5, s_is6, s_ix1, s_ix2, s_ix3, s_g1, s_g2, s_len1, s_len2, s_len3, s_tup1, s_tup2, s_lst1, s_lst2, s_abs, s_int1, s_int2, s_stri, s_bools, s_sum, s_sort, s_seq1, s_seq2, s_seq3, s_any, s_any1, s_any2, s_any3, s_rng1, s_rng2, s_rng3, s_rng4, s_enum, s_enum1, s_enum2, s_gN, s_gsN, s_gsC, s_gT, s_var, s_var1, s_var2, s_var3, s_var4, s_meth, s_meth1, s_close, s_close1, s_close2, s_close3, s_six, s_six1, s_six2, s_retO, s_retO1, s_retO2, s_peek1, s_peekT1, s_peeks0, s_peeks1, s_wipe0, s_wipe1, s_lf1, s_lf2, s_app, s_ext, s_rem, s_cnt, s_idx, s_spl, s_ty1, s_ty2, s_dSeq, s_dIfS, s_dTest, s_dBin, s_dC, s_gEq, s_dRet, s_dNext, s_dRetN, s_dSet, s_dCons, s_dNil, s_dCB, s_dCall, s_dLc, s_dYes, s_dTup, s_dLst, s_dFor, s_dChain, s_dAndV, s_dOrV, s_dNotV, s_dAnd, s_dOr, s_dNot, s_dIf, s_dRaise, s_dAsg, s_dDrop, s_dMv, s_dIsi, s_dZip, Shp, shp_int, shp_bool, shp_none, PyData.eqv, List.length_cons, List.length_nil, List.replicate, List.cons_append, List.nil_append, List.getElem?_cons_zero, List.getElem?_cons_succ, List.append_nil, List.set_cons_zero, List.set_cons_succ, List.map_cons, List.map_nil, Nat.reduceAdd, Nat.reduceSub, Nat.zero_add, Nat.reduceLT, true_and, and_true, if_true, ite_true, ite_false, Bool.false_eq_true, bne_self_eq_false, Bool.bne_false, Bool.bne_true, Nat.sub_self, Nat.reduceLeDiff, Nat.zero_le, Nat.lt_add_one]
  refine ⟨ns, rfl, ?_⟩
  try simp only [gSub, gMod, gDiv, gPow, gShl, gShr, gAnd, gOr, gXor, gLt, gLe, gGt, gGe, C0, s_asD1, s_asD2, s_asDs0, s_asDs1, s_nrm1, s_nrm2, s_nrm3, s_nrm4, s_nrm5, s_bo, s_ret1, s_ret2, s_add1, s_add2, s_add3, s_add4, s_gI, s_mul1, s_mul2, s_mul3, s_gB, s_in1, s_in2, s_is1, s_is2, s_is3, s_is4, s_is5, s_is6, s_ix1, s_ix2, s_ix3, s_g1, s_g2, s_len1, s_len2, s_len3, s_tup1, s_tup2, s_lst1, s_lst2, s_abs, s_int1, s_int2, s_stri, s_bools, s_sum, s_sort, s_seq1, s_seq2, s_seq3, s_any, s_any1, s_any2, s_any3, s_rng1, s_rng2, s_rng3, s_rng4, s_enum, s_enum1, s_enum2, s_gN, s_gsN, s_gsC, s_gT, s_var, s_var1, s_var2, s_var3, s_var4, s_meth, s_meth1, s_close, s_close1, s_close2, s_close3, s_six, s_six1, s_six2, s_retO, s_retO1, s_retO2, s_peek1, s_peekT1, s_peeks0, s_peeks1, s_wipe0, s_wipe1, s_lf1, s_lf2, s_app, s_ext, s_rem, s_cnt, s_idx, s_spl, s_ty1, s_ty2, s_dSeq, s_dIfS, s_dTest, s_dBin, s_dC, s_gEq, s_dRet, s_dNext, s_dRetN, s_dSet, s_dCons, s_dNil, s_dCB, s_dCall, s_dLc, s_dYes, s_dTup, s_dLst, s_dFor, s_dChain, s_dAndV, s_dOrV, s_dNotV, s_dAnd, s_dOr, s_dNot, s_dIf, s_dRaise, s_dAsg, s_dDrop, s_dMv, s_dIsi, s_dZip, Shp, shp_int, shp_bool, shp_none, PyData.eqv, List.length_cons, List.length_nil, List.replicate, List.cons_append, List.nil_append, List.getElem?_cons_zero, List.getElem?_cons_succ, List.append_nil, List.set_cons_zero, List.set_cons_succ, List.map_cons, List.map_nil, Nat.reduceAdd, Nat.reduceSub, Nat.zero_add, Nat.reduceLT, true_and, and_true, if_true, ite_true, ite_false, Bool.false_eq_true, bne_self_eq_false, Bool.bne_false, Bool.bne_true, Nat.sub_self, Nat.reduceLeDiff, Nat.zero_le, Nat.lt_add_one]
  split
  · rename_i h
    have h' : a < ns.length := by
      have := of_decide_eq_true h
      omega
    refine ⟨ns, rfl, ns[a], atI_nat (List.getElem?_eq_getElem h'), cp, ?_⟩
    (repeat' split) <;> exact core _ _
  · refine ⟨cp, ?_⟩
    (repeat' split) <;> exact core _ _
def eL (l : List (List Nat)) : D := .tuple (l.map eR)
def lineB (q : Nat) (a b : List Nat) : Option (List (List Nat)) := if (lowB q 4 [a, b]).length = 2 then some (lowB q 4 [a, b]) else none
def eLo : Option (List (List Nat)) → D
  | some l => eL l
  | none => .none
theorem p_line {q : Nat} {a b : List Nat} {Q : SK} {E : EK} (g : G q) (ha : Rw q 4 a) (hb : Rw q 4 b) (hq : Q (.sh (eLo (lineB q a b)))) : F__law_line [.sh (.int q), .sh (eR a), .sh (eR b)] Q E := by
  simp only [E__law_line, den__law_line, eR, gSub, gMod, gDiv, gPow, gShl, gShr, gAnd, gOr, gXor, gLt, gLe, gGt, gGe, C0, s_asD1, s_asD2, s_asDs0, s_asDs1, s_nrm1, s_nrm2, s_nrm3, s_nrm4, s_nrm5, s_bo, s_ret1, s_ret2, s_add1, s_add2, s_add3, s_add4, s_gI, s_mul1, s_mul2, s_mul3, s_gB, s_in1, s_in2, s_is1, s_is2, s_is3, s_is4, s_is5, s_is6, s_ix1, s_ix2, s_ix3, s_g1, s_g2, s_len1, s_len2, s_len3, s_tup1, s_tup2, s_lst1, s_lst2, s_abs, s_int1, s_int2, s_stri, s_bools, s_sum, s_sort, s_seq1, s_seq2, s_seq3, s_any, s_any1, s_any2, s_any3, s_rng1, s_rng2, s_rng3, s_rng4, s_enum, s_enum1, s_enum2, s_gN, s_gsN, s_gsC, s_gT, s_var, s_var1, s_var2, s_var3, s_var4, s_meth, s_meth1, s_close, s_close1, s_close2, s_close3, s_six, s_six1, s_six2, s_retO, s_retO1, s_retO2, s_peek1, s_peekT1, s_peeks0, s_peeks1, s_wipe0, s_wipe1, s_lf1, s_lf2, s_app, s_ext, s_rem, s_cnt, s_idx, s_spl, s_ty1, s_ty2, s_dSeq, s_dIfS, s_dTest, s_dBin, s_dC, s_gEq, s_dRet, s_dNext, s_dRetN, s_dSet, s_dCons, s_dNil, s_dCB, s_dCall, s_dLc, s_dYes, s_dTup, s_dLst, s_dFor, s_dChain, s_dAndV, s_dOrV, s_dNotV, s_dAnd, s_dOr, s_dNot, s_dIf, s_dRaise, s_dAsg, s_dDrop, s_dMv, s_dIsi, s_dZip, Shp, shp_int, shp_bool, shp_none, PyData.eqv, List.length_cons, List.length_nil, List.replicate, List.cons_append, List.nil_append, List.getElem?_cons_zero, List.getElem?_cons_succ, List.append_nil, List.set_cons_zero, List.set_cons_succ, List.map_cons, List.map_nil, Nat.reduceAdd, Nat.reduceSub, Nat.zero_add, Nat.reduceLT, true_and, and_true, if_true, ite_true, ite_false, Bool.false_eq_true, bne_self_eq_false, Bool.bne_false, Bool.bne_true, Nat.sub_self, Nat.reduceLeDiff, Nat.zero_le, Nat.lt_add_one]
  have e : [PyData.tuple (a.map eI), PyData.tuple (b.map eI)] = [a, b].map eR := rfl
  rw [e]
  refine p_lowB g (n := 4) (fun r hr => ?_) (by simp) (by simp) (by decide) ?_
  · rcases List.mem_cons.mp hr with rfl | hr
    · exact ha
    · rw [List.mem_singleton.mp hr]; exact hb
  simp only [gSub, gMod, gDiv, gPow, gShl, gShr, gAnd, gOr, gXor, gLt, gLe, gGt, gGe, C0, s_asD1, s_asD2, s_asDs0, s_asDs1, s_nrm1, s_nrm2, s_nrm3, s_nrm4, s_nrm5, s_bo, s_ret1, s_ret2, s_add1, s_add2, s_add3, s_add4, s_gI, s_mul1, s_mul2, s_mul3, s_gB, s_in1, s_in2, s_is1, s_is2, s_is3, s_is4, s_is5, s_is6, s_ix1, s_ix2, s_ix3, s_g1, s_g2, s_len1, s_len2, s_len3, s_tup1, s_tup2, s_lst1, s_lst2, s_abs, s_int1, s_int2, s_stri, s_bools, s_sum, s_sort, s_seq1, s_seq2, s_seq3, s_any, s_any1, s_any2, s_any3, s_rng1, s_rng2, s_rng3, s_rng4, s_enum, s_enum1, s_enum2, s_gN, s_gsN, s_gsC, s_gT, s_var, s_var1, s_var2, s_var3, s_var4, s_meth, s_meth1, s_close, s_close1, s_close2, s_close3, s_six, s_six1, s_six2, s_retO, s_retO1, s_retO2, s_peek1, s_peekT1, s_peeks0, s_peeks1, s_wipe0, s_wipe1, s_lf1, s_lf2, s_app, s_ext, s_rem, s_cnt, s_idx, s_spl, s_ty1, s_ty2, s_dSeq, s_dIfS, s_dTest, s_dBin, s_dC, s_gEq, s_dRet, s_dNext, s_dRetN, s_dSet, s_dCons, s_dNil, s_dCB, s_dCall, s_dLc, s_dYes, s_dTup, s_dLst, s_dFor, s_dChain, s_dAndV, s_dOrV, s_dNotV, s_dAnd, s_dOr, s_dNot, s_dIf, s_dRaise, s_dAsg, s_dDrop, s_dMv, s_dIsi, s_dZip, Shp, shp_int, shp_bool, shp_none, PyData.eqv, List.length_cons, List.length_nil, List.replicate, List.cons_append, List.nil_append, List.getElem?_cons_zero, List.getElem?_cons_succ, List.append_nil, List.set_cons_zero, List.set_cons_succ, List.map_cons, List.map_nil, Nat.reduceAdd, Nat.reduceSub, Nat.zero_add, Nat.reduceLT, true_and, and_true, if_true, ite_true, ite_false, Bool.false_eq_true, bne_self_eq_false, Bool.bne_false, Bool.bne_true, Nat.sub_self, Nat.reduceLeDiff, Nat.zero_le, Nat.lt_add_one, List.length_map]
  unfold lineB at hq
  have e2 : (((lowB q 4 [a, b]).length : Int) == 2) = ((lowB q 4 [a, b]).length == 2) := beq_nat _ 2
  simp only [e2]
  by_cases h : (lowB q 4 [a, b]).length = 2
  · rw [if_pos h] at hq
    rw [if_pos (beq_iff_eq.mpr h)]
    exact hq
  · rw [if_neg h] at hq
    rw [if_neg (by rw [beq_iff_eq]; exact h)]
    exact hq
theorem s_isE {i : Nat} {a : Addr} {x : Ex} {b : Bool} {Γ : Env'} {Q : SK} {E : EK} : dIsE i a x b Γ Q E = (Γ[i]? = some (.err a x) ∧ Q (.sh (.bool b))) := nr rfl
theorem wh_0 : (Str.ofString "NoField" == Str.ofString "NoField") = true := by decide +kernel
theorem wh_1 : (Str.ofString "NoField" == Str.ofString "NoOver") = false := by decide +kernel
theorem wh_2 : (Str.ofString "NoField" == Str.ofString "NoLine") = false := by decide +kernel
theorem wh_3 : (Str.ofString "NoField" == Str.ofString "NoSix") = false := by decide +kernel
theorem wh_4 : (Str.ofString "NoField" == Str.ofString "NoTurning") = false := by decide +kernel
theorem wh_5 : (Str.ofString "NoField" == Str.ofString "NoThree") = false := by decide +kernel
theorem wh_6 : (Str.ofString "NoField" == Str.ofString "NoRegulus") = false := by decide +kernel
theorem wh_7 : (Str.ofString "NoField" == Str.ofString "NoPartial") = false := by decide +kernel
theorem wh_8 : (Str.ofString "NoField" == Str.ofString "NoSpread") = false := by decide +kernel
theorem wh_9 : (Str.ofString "NoField" == Str.ofString "NoSet") = false := by decide +kernel
theorem wh_10 : (Str.ofString "NoField" == Str.ofString "NoFrame") = false := by decide +kernel
theorem wh_11 : (Str.ofString "NoField" == Str.ofString "NoFigure") = false := by decide +kernel
theorem wh_12 : (Str.ofString "NoField" == Str.ofString "NoPlane") = false := by decide +kernel
theorem wh_13 : (Str.ofString "NoField" == Str.ofString "TooGreat") = false := by decide +kernel
theorem wh_14 : (Str.ofString "NoField" == Str.ofString "TooMany") = false := by decide +kernel
theorem wh_15 : (Str.ofString "NoField" == Str.ofString "NoPaper") = false := by decide +kernel
theorem wh_16 : (Str.ofString "NoField" == Str.ofString "NoText") = false := by decide +kernel
theorem wh_17 : (Str.ofString "NoField" == Str.ofString "NoSaying") = false := by decide +kernel
theorem wh_18 : (Str.ofString "NoField" == Str.ofString "NoName") = false := by decide +kernel
theorem wh_s : (Txt.split (Str.ofString "NoField NoOver NoLine NoSix NoTurning NoThree NoRegulus NoPartial NoSpread NoSet NoFrame NoFigure" ++ Str.ofString " NoPlane TooGreat TooMany NoPaper NoText NoSaying NoName") (Str.ofString " "))[0]? = some (Str.ofString "NoField") := by decide +kernel
theorem wh_m : (Str.ofString "NoField NoOver NoLine NoSix NoTurning NoThree NoRegulus NoPartial NoSpread NoSet NoFrame NoFigure" ++ Str.ofString " NoPlane TooGreat TooMany NoPaper NoText NoSaying NoName").length ≤ 16777214 := by decide +kernel
theorem wh_b : ((Str.ofString " ").length == 0) = false := by decide +kernel
theorem wh_n : (Str.ofString "NoField NoOver NoLine NoSix NoTurning NoThree NoRegulus NoPartial NoSpread NoSet NoFrame NoFigure").length + (Str.ofString " NoPlane TooGreat TooMany NoPaper NoText NoSaying NoName").length ≤ 16777216 := by decide +kernel
theorem p_which {a : Addr} {Q : SK} {E : EK} (hq : Q (.sh (.str "NoField"))) : F__law_which a "NoField" [.err a "NoField"] Q E := by
  unfold F__law_which mkF den__law_which
  simp only [s_isE, wh_0, wh_1, wh_2, wh_3, wh_4, wh_5, wh_6, wh_7, wh_8, wh_9, wh_10, wh_11, wh_12, wh_13, wh_14, wh_15, wh_16, wh_17, wh_18, gSub, gMod, gDiv, gPow, gShl, gShr, gAnd, gOr, gXor, gLt, gLe, gGt, gGe, C0, s_asD1, s_asD2, s_asDs0, s_asDs1, s_nrm1, s_nrm2, s_nrm3, s_nrm4, s_nrm5, s_bo, s_ret1, s_ret2, s_add1, s_add2, s_add3, s_add4, s_gI, s_mul1, s_mul2, s_mul3, s_gB, s_in1, s_in2, s_is1, s_is2, s_is3, s_is4, s_is5, s_is6, s_ix1, s_ix2, s_ix3, s_g1, s_g2, s_len1, s_len2, s_len3, s_tup1, s_tup2, s_lst1, s_lst2, s_abs, s_int1, s_int2, s_stri, s_bools, s_sum, s_sort, s_seq1, s_seq2, s_seq3, s_any, s_any1, s_any2, s_any3, s_rng1, s_rng2, s_rng3, s_rng4, s_enum, s_enum1, s_enum2, s_gN, s_gsN, s_gsC, s_gT, s_var, s_var1, s_var2, s_var3, s_var4, s_meth, s_meth1, s_close, s_close1, s_close2, s_close3, s_six, s_six1, s_six2, s_retO, s_retO1, s_retO2, s_peek1, s_peekT1, s_peeks0, s_peeks1, s_wipe0, s_wipe1, s_lf1, s_lf2, s_app, s_ext, s_rem, s_cnt, s_idx, s_spl, s_ty1, s_ty2, s_dSeq, s_dIfS, s_dTest, s_dBin, s_dC, s_gEq, s_dRet, s_dNext, s_dRetN, s_dSet, s_dCons, s_dNil, s_dCB, s_dCall, s_dLc, s_dYes, s_dTup, s_dLst, s_dFor, s_dChain, s_dAndV, s_dOrV, s_dNotV, s_dAnd, s_dOr, s_dNot, s_dIf, s_dRaise, s_dAsg, s_dDrop, s_dMv, s_dIsi, s_dZip, Shp, shp_int, shp_bool, shp_none, PyData.eqv, List.length_cons, List.length_nil, List.replicate, List.cons_append, List.nil_append, List.getElem?_cons_zero, List.getElem?_cons_succ, List.append_nil, List.set_cons_zero, List.set_cons_succ, List.map_cons, List.map_nil, Nat.reduceAdd, Nat.reduceSub, Nat.zero_add, Nat.reduceLT, true_and, and_true, if_true, ite_true, ite_false, Bool.false_eq_true, bne_self_eq_false, Bool.bne_false, Bool.bne_true, Nat.sub_self, Nat.reduceLeDiff, Nat.zero_le, Nat.lt_add_one]
  refine ⟨wh_n, (shN_lst (n := 0) fun d hd => ?_).shp (by decide), ?_⟩
  · simp only [List.mem_cons, List.not_mem_nil, or_false] at hd
    have : ∃ b, d = .bool b := by
      rcases hd with h | h | h | h | h | h | h | h | h | h | h | h | h | h | h | h | h | h | h <;> exact ⟨_, h⟩
    obtain ⟨b, rfl⟩ := this
    exact ⟨by simp [PyData.canLay0], by simp [PyData.depth]⟩
  rw [if_neg (by simp [PyData.eqv]), if_neg (by decide)]
  refine ⟨wh_b, wh_m, (shN_lst (n := 0) fun d hd => ?_).shp (by decide), 0, by simp [PyData.eqv, List.findIdx?_cons], _, atI_nat (by rw [List.getElem?_map, wh_s]; rfl), hq⟩
  simp only [List.mem_cons, List.not_mem_nil, or_false] at hd
  have : ∃ b, d = .bool b := by
    rcases hd with h | h | h | h | h | h | h | h | h | h | h | h | h | h | h | h | h | h | h <;> exact ⟨_, h⟩
  obtain ⟨b, rfl⟩ := this
  exact ⟨by simp [PyData.canLay0], by simp [PyData.depth]⟩
theorem p_said {q : Nat} {l : List (List Nat)} {Q : SK} {E : EK} (g : G q) (h : RwS q 4 l) (hl : l.length ≤ 1000) (hq : Q (.sh (eL (dualP q l)))) : F__law_said [.sh (.int q), .sh (eL l)] Q E := by
  simp only [E__law_said, den__law_said, dTry, tryEn, eL, gSub, gMod, gDiv, gPow, gShl, gShr, gAnd, gOr, gXor, gLt, gLe, gGt, gGe, C0, s_asD1, s_asD2, s_asDs0, s_asDs1, s_nrm1, s_nrm2, s_nrm3, s_nrm4, s_nrm5, s_bo, s_ret1, s_ret2, s_add1, s_add2, s_add3, s_add4, s_gI, s_mul1, s_mul2, s_mul3, s_gB, s_in1, s_in2, s_is1, s_is2, s_is3, s_is4, s_is5, s_is6, s_ix1, s_ix2, s_ix3, s_g1, s_g2, s_len1, s_len2, s_len3, s_tup1, s_tup2, s_lst1, s_lst2, s_abs, s_int1, s_int2, s_stri, s_bools, s_sum, s_sort, s_seq1, s_seq2, s_seq3, s_any, s_any1, s_any2, s_any3, s_rng1, s_rng2, s_rng3, s_rng4, s_enum, s_enum1, s_enum2, s_gN, s_gsN, s_gsC, s_gT, s_var, s_var1, s_var2, s_var3, s_var4, s_meth, s_meth1, s_close, s_close1, s_close2, s_close3, s_six, s_six1, s_six2, s_retO, s_retO1, s_retO2, s_peek1, s_peekT1, s_peeks0, s_peeks1, s_wipe0, s_wipe1, s_lf1, s_lf2, s_app, s_ext, s_rem, s_cnt, s_idx, s_spl, s_ty1, s_ty2, s_dSeq, s_dIfS, s_dTest, s_dBin, s_dC, s_gEq, s_dRet, s_dNext, s_dRetN, s_dSet, s_dCons, s_dNil, s_dCB, s_dCall, s_dLc, s_dYes, s_dTup, s_dLst, s_dFor, s_dChain, s_dAndV, s_dOrV, s_dNotV, s_dAnd, s_dOr, s_dNot, s_dIf, s_dRaise, s_dAsg, s_dDrop, s_dMv, s_dIsi, s_dZip, Shp, shp_int, shp_bool, shp_none, PyData.eqv, List.length_cons, List.length_nil, List.replicate, List.cons_append, List.nil_append, List.getElem?_cons_zero, List.getElem?_cons_succ, List.append_nil, List.set_cons_zero, List.set_cons_succ, List.map_cons, List.map_nil, Nat.reduceAdd, Nat.reduceSub, Nat.zero_add, Nat.reduceLT, true_and, and_true, if_true, ite_true, ite_false, Bool.false_eq_true, bne_self_eq_false, Bool.bne_false, Bool.bne_true, Nat.sub_self, Nat.reduceLeDiff, Nat.zero_le, Nat.lt_add_one]
  refine p_dualline g h hl ?_
  simp only [gSub, gMod, gDiv, gPow, gShl, gShr, gAnd, gOr, gXor, gLt, gLe, gGt, gGe, C0, s_asD1, s_asD2, s_asDs0, s_asDs1, s_nrm1, s_nrm2, s_nrm3, s_nrm4, s_nrm5, s_bo, s_ret1, s_ret2, s_add1, s_add2, s_add3, s_add4, s_gI, s_mul1, s_mul2, s_mul3, s_gB, s_in1, s_in2, s_is1, s_is2, s_is3, s_is4, s_is5, s_is6, s_ix1, s_ix2, s_ix3, s_g1, s_g2, s_len1, s_len2, s_len3, s_tup1, s_tup2, s_lst1, s_lst2, s_abs, s_int1, s_int2, s_stri, s_bools, s_sum, s_sort, s_seq1, s_seq2, s_seq3, s_any, s_any1, s_any2, s_any3, s_rng1, s_rng2, s_rng3, s_rng4, s_enum, s_enum1, s_enum2, s_gN, s_gsN, s_gsC, s_gT, s_var, s_var1, s_var2, s_var3, s_var4, s_meth, s_meth1, s_close, s_close1, s_close2, s_close3, s_six, s_six1, s_six2, s_retO, s_retO1, s_retO2, s_peek1, s_peekT1, s_peeks0, s_peeks1, s_wipe0, s_wipe1, s_lf1, s_lf2, s_app, s_ext, s_rem, s_cnt, s_idx, s_spl, s_ty1, s_ty2, s_dSeq, s_dIfS, s_dTest, s_dBin, s_dC, s_gEq, s_dRet, s_dNext, s_dRetN, s_dSet, s_dCons, s_dNil, s_dCB, s_dCall, s_dLc, s_dYes, s_dTup, s_dLst, s_dFor, s_dChain, s_dAndV, s_dOrV, s_dNotV, s_dAnd, s_dOr, s_dNot, s_dIf, s_dRaise, s_dAsg, s_dDrop, s_dMv, s_dIsi, s_dZip, Shp, shp_int, shp_bool, shp_none, PyData.eqv, List.length_cons, List.length_nil, List.replicate, List.cons_append, List.nil_append, List.getElem?_cons_zero, List.getElem?_cons_succ, List.append_nil, List.set_cons_zero, List.set_cons_succ, List.map_cons, List.map_nil, Nat.reduceAdd, Nat.reduceSub, Nat.zero_add, Nat.reduceLT, true_and, and_true, if_true, ite_true, ite_false, Bool.false_eq_true, bne_self_eq_false, Bool.bne_false, Bool.bne_true, Nat.sub_self, Nat.reduceLeDiff, Nat.zero_le, Nat.lt_add_one]
  exact hq
/-- what look_field refuses -/
theorem p_said_no {d e : D} {Q : SK} {E : EK} (hb : ∀ (Q : SK) (E : EK), E "NoField" → F_look_field [.sh d] Q E) (hq : Q (.sh (.str "NoField"))) : F__law_said [.sh d, .sh e] Q E := by
  simp only [E__law_said, den__law_said, dTry, tryEn, gSub, gMod, gDiv, gPow, gShl, gShr, gAnd, gOr, gXor, gLt, gLe, gGt, gGe, C0, s_asD1, s_asD2, s_asDs0, s_asDs1, s_nrm1, s_nrm2, s_nrm3, s_nrm4, s_nrm5, s_bo, s_ret1, s_ret2, s_add1, s_add2, s_add3, s_add4, s_gI, s_mul1, s_mul2, s_mul3, s_gB, s_in1, s_in2, s_is1, s_is2, s_is3, s_is4, s_is5, s_is6, s_ix1, s_ix2, s_ix3, s_g1, s_g2, s_len1, s_len2, s_len3, s_tup1, s_tup2, s_lst1, s_lst2, s_abs, s_int1, s_int2, s_stri, s_bools, s_sum, s_sort, s_seq1, s_seq2, s_seq3, s_any, s_any1, s_any2, s_any3, s_rng1, s_rng2, s_rng3, s_rng4, s_enum, s_enum1, s_enum2, s_gN, s_gsN, s_gsC, s_gT, s_var, s_var1, s_var2, s_var3, s_var4, s_meth, s_meth1, s_close, s_close1, s_close2, s_close3, s_six, s_six1, s_six2, s_retO, s_retO1, s_retO2, s_peek1, s_peekT1, s_peeks0, s_peeks1, s_wipe0, s_wipe1, s_lf1, s_lf2, s_app, s_ext, s_rem, s_cnt, s_idx, s_spl, s_ty1, s_ty2, s_dSeq, s_dIfS, s_dTest, s_dBin, s_dC, s_gEq, s_dRet, s_dNext, s_dRetN, s_dSet, s_dCons, s_dNil, s_dCB, s_dCall, s_dLc, s_dYes, s_dTup, s_dLst, s_dFor, s_dChain, s_dAndV, s_dOrV, s_dNotV, s_dAnd, s_dOr, s_dNot, s_dIf, s_dRaise, s_dAsg, s_dDrop, s_dMv, s_dIsi, s_dZip, Shp, shp_int, shp_bool, shp_none, PyData.eqv, List.length_cons, List.length_nil, List.replicate, List.cons_append, List.nil_append, List.getElem?_cons_zero, List.getElem?_cons_succ, List.append_nil, List.set_cons_zero, List.set_cons_succ, List.map_cons, List.map_nil, Nat.reduceAdd, Nat.reduceSub, Nat.zero_add, Nat.reduceLT, true_and, and_true, if_true, ite_true, ite_false, Bool.false_eq_true, bne_self_eq_false, Bool.bne_false, Bool.bne_true, Nat.sub_self, Nat.reduceLeDiff, Nat.zero_le, Nat.lt_add_one]
  simp only [E_dual_line, den_dual_line, gSub, gMod, gDiv, gPow, gShl, gShr, gAnd, gOr, gXor, gLt, gLe, gGt, gGe, C0, s_asD1, s_asD2, s_asDs0, s_asDs1, s_nrm1, s_nrm2, s_nrm3, s_nrm4, s_nrm5, s_bo, s_ret1, s_ret2, s_add1, s_add2, s_add3, s_add4, s_gI, s_mul1, s_mul2, s_mul3, s_gB, s_in1, s_in2, s_is1, s_is2, s_is3, s_is4, s_is5, s_is6, s_ix1, s_ix2, s_ix3, s_g1, s_g2, s_len1, s_len2, s_len3, s_tup1, s_tup2, s_lst1, s_lst2, s_abs, s_int1, s_int2, s_stri, s_bools, s_sum, s_sort, s_seq1, s_seq2, s_seq3, s_any, s_any1, s_any2, s_any3, s_rng1, s_rng2, s_rng3, s_rng4, s_enum, s_enum1, s_enum2, s_gN, s_gsN, s_gsC, s_gT, s_var, s_var1, s_var2, s_var3, s_var4, s_meth, s_meth1, s_close, s_close1, s_close2, s_close3, s_six, s_six1, s_six2, s_retO, s_retO1, s_retO2, s_peek1, s_peekT1, s_peeks0, s_peeks1, s_wipe0, s_wipe1, s_lf1, s_lf2, s_app, s_ext, s_rem, s_cnt, s_idx, s_spl, s_ty1, s_ty2, s_dSeq, s_dIfS, s_dTest, s_dBin, s_dC, s_gEq, s_dRet, s_dNext, s_dRetN, s_dSet, s_dCons, s_dNil, s_dCB, s_dCall, s_dLc, s_dYes, s_dTup, s_dLst, s_dFor, s_dChain, s_dAndV, s_dOrV, s_dNotV, s_dAnd, s_dOr, s_dNot, s_dIf, s_dRaise, s_dAsg, s_dDrop, s_dMv, s_dIsi, s_dZip, Shp, shp_int, shp_bool, shp_none, PyData.eqv, List.length_cons, List.length_nil, List.replicate, List.cons_append, List.nil_append, List.getElem?_cons_zero, List.getElem?_cons_succ, List.append_nil, List.set_cons_zero, List.set_cons_succ, List.map_cons, List.map_nil, Nat.reduceAdd, Nat.reduceSub, Nat.zero_add, Nat.reduceLT, true_and, and_true, if_true, ite_true, ite_false, Bool.false_eq_true, bne_self_eq_false, Bool.bne_false, Bool.bne_true, Nat.sub_self, Nat.reduceLeDiff, Nat.zero_le, Nat.lt_add_one]
  refine hb _ _ ⟨by decide, fun a => ?_⟩
  have e1 : ∀ {i : Nat} {a : Addr} {x : Ex} {F : Addr → Ex → Fd} {Γ : Env'} {Q : SK} {E : EK}, dCallE i a x F Γ Q E = (Γ[i]? = some (.err a x) ∧ F a x [.err a x] Q fun _ => False) := rfl
  simp only [e1, sufEn, gSub, gMod, gDiv, gPow, gShl, gShr, gAnd, gOr, gXor, gLt, gLe, gGt, gGe, C0, s_asD1, s_asD2, s_asDs0, s_asDs1, s_nrm1, s_nrm2, s_nrm3, s_nrm4, s_nrm5, s_bo, s_ret1, s_ret2, s_add1, s_add2, s_add3, s_add4, s_gI, s_mul1, s_mul2, s_mul3, s_gB, s_in1, s_in2, s_is1, s_is2, s_is3, s_is4, s_is5, s_is6, s_ix1, s_ix2, s_ix3, s_g1, s_g2, s_len1, s_len2, s_len3, s_tup1, s_tup2, s_lst1, s_lst2, s_abs, s_int1, s_int2, s_stri, s_bools, s_sum, s_sort, s_seq1, s_seq2, s_seq3, s_any, s_any1, s_any2, s_any3, s_rng1, s_rng2, s_rng3, s_rng4, s_enum, s_enum1, s_enum2, s_gN, s_gsN, s_gsC, s_gT, s_var, s_var1, s_var2, s_var3, s_var4, s_meth, s_meth1, s_close, s_close1, s_close2, s_close3, s_six, s_six1, s_six2, s_retO, s_retO1, s_retO2, s_peek1, s_peekT1, s_peeks0, s_peeks1, s_wipe0, s_wipe1, s_lf1, s_lf2, s_app, s_ext, s_rem, s_cnt, s_idx, s_spl, s_ty1, s_ty2, s_dSeq, s_dIfS, s_dTest, s_dBin, s_dC, s_gEq, s_dRet, s_dNext, s_dRetN, s_dSet, s_dCons, s_dNil, s_dCB, s_dCall, s_dLc, s_dYes, s_dTup, s_dLst, s_dFor, s_dChain, s_dAndV, s_dOrV, s_dNotV, s_dAnd, s_dOr, s_dNot, s_dIf, s_dRaise, s_dAsg, s_dDrop, s_dMv, s_dIsi, s_dZip, Shp, shp_int, shp_bool, shp_none, PyData.eqv, List.length_cons, List.length_nil, List.replicate, List.cons_append, List.nil_append, List.getElem?_cons_zero, List.getElem?_cons_succ, List.append_nil, List.set_cons_zero, List.set_cons_succ, List.map_cons, List.map_nil, Nat.reduceAdd, Nat.reduceSub, Nat.zero_add, Nat.reduceLT, true_and, and_true, if_true, ite_true, ite_false, Bool.false_eq_true, bne_self_eq_false, Bool.bne_false, Bool.bne_true, Nat.sub_self, Nat.reduceLeDiff, Nat.zero_le, Nat.lt_add_one]
  refine p_which ?_
  exact hq
/-! ### the law's lowest form is reduced, its leads rise -/
def Up (r s : List Nat) : Prop := ∀ p p', Ld r p → Ld s p' → p < p'
structure LowI (q n at_ : Nat) (s : St2) : Prop where
  r1 : RwS q n s.1
  red : Red q n s.2
  z : ∀ r ∈ s.1, ∀ j, j < at_ → r.getD j 0 = 0
  lt : ∀ r ∈ s.2, ∀ p, Ld r p → p < at_
  up : s.2.Pairwise Up
section
variable {q n : Nat}
theorem bring_at {at_ j : Nat} {ld r : List Nat} (g : G q) (h : Rw q n r) (h' : Rw q n ld) (hj : j < n) : (bring q at_ ld r).getD j 0 = ad q (r.getD j 0) (ml q (sb q 0 (r.getD at_ 0)) (ld.getD j 0)) := mo_at h h' hj
theorem bring_ld {at_ p : Nat} {ld r : List Nat} (g : G q) (h : Rw q n r) (h' : Rw q n ld) (ha : at_ < n) (l : Ld ld at_) (e : ld.getD at_ 0 = 1) (lr : Ld r p) (er : r.getD p 0 = 1) (hp : p < at_) :
    Ld (bring q at_ ld r) p ∧ (bring q at_ ld r).getD p 0 = 1 ∧ (bring q at_ ld r).getD at_ 0 = 0 := by
  have z0 : (0 : Nat) < q := by have := g.pos; omega
  have hc := sb_lt g z0 (getD_lt h ha)
  have k1 : (bring q at_ ld r).getD p 0 = 1 := by
    rw [bring_at g h h' (by omega), l.z p hp, ml_zr g hc, er, ad_zero g (by have := g.pos; omega)]
  refine ⟨⟨by rw [(bring_rw g ha h h').len]; omega, by rw [k1]; decide, fun j hj => ?_⟩, k1, ?_⟩
  · rw [bring_at g h h' (by omega), l.z j (by omega), ml_zr g hc, lr.z j hj, ad_zero g z0]
  · rw [bring_at g h h' ha, e, ml_one g hc, ad_neg g (getD_lt h ha)]
theorem stepB_ok {at_ : Nat} {s : St2} (g : G q) (ha : at_ < n) (h : LowI q n at_ s) : LowI q n (at_ + 1) (stepB q s at_) := by
  have z0 : (0 : Nat) < q := by have := g.pos; omega
  unfold stepB
  split
  · rename_i e
    refine ⟨h.r1, h.red, fun r hr j hj => ?_, fun r hr p l => Nat.lt_succ_of_lt (h.lt r hr p l), h.up⟩
    by_cases hja : j < at_
    · exact h.z r hr j hja
    · have : j = at_ := by omega
      subst this
      have := (List.filter_eq_nil_iff.mp e) r hr
      simpa using this
  · rename_i p t e
    have hp : p ∈ s.1.filter (fun r => r.getD at_ 0 != 0) := by rw [e]; simp
    obtain ⟨hp1, hp2⟩ := List.mem_filter.mp hp
    have hpr := h.r1 p hp1
    have lp : Ld p at_ := ⟨by rw [hpr.len]; exact ha, by simpa using hp2, h.z p hp1⟩
    obtain ⟨l, el⟩ := sc_ld g hpr lp
    have hl := sc_rw g (iv_lt g (getD_lt hpr ha)) hpr
    have fb : ∀ r ∈ s.2, ∃ p1, Ld r p1 ∧ p1 < at_ ∧ Ld (bring q at_ (sc q (iv q (p.getD at_ 0)) p) r) p1 ∧ (bring q at_ (sc q (iv q (p.getD at_ 0)) p) r).getD p1 0 = 1 ∧ (bring q at_ (sc q (iv q (p.getD at_ 0)) p) r).getD at_ 0 = 0 := fun r hr => by
      obtain ⟨p1, l1, e1⟩ := h.red.ld r hr
      have lt1 := h.lt r hr p1 l1
      obtain ⟨a, b, c⟩ := bring_ld g (h.red.rw_ r hr) hl ha l el l1 e1 lt1
      exact ⟨p1, l1, lt1, a, b, c⟩
    refine ⟨fun r hr => ?_, ⟨fun r hr => ?_, fun r hr => ?_, ?_⟩, fun r hr j hj => ?_, fun r hr p1 l1 => ?_, ?_⟩
    · obtain ⟨x, hx, rfl⟩ := List.mem_map.mp hr
      exact bring_rw g ha (h.r1 x (List.mem_of_mem_erase hx)) hl
    · rcases List.mem_append.mp hr with hr | hr
      · obtain ⟨x, hx, rfl⟩ := List.mem_map.mp hr
        exact bring_rw g ha (h.red.rw_ x hx) hl
      · rw [List.mem_singleton.mp hr]; exact hl
    · rcases List.mem_append.mp hr with hr | hr
      · obtain ⟨x, hx, rfl⟩ := List.mem_map.mp hr
        obtain ⟨p1, _, _, a, b, _⟩ := fb x hx
        exact ⟨p1, a, b⟩
      · rw [List.mem_singleton.mp hr]; exact ⟨at_, l, el⟩
    · refine List.pairwise_append.mpr ⟨?_, List.pairwise_singleton _ _, fun x hx y hy => ?_⟩
      · rw [List.pairwise_map]
        refine h.red.off.imp_of_mem fun {a b} hma hmb hab => ?_
        obtain ⟨pa, la, lta, a1, _, _⟩ := fb a hma
        obtain ⟨pb, lb, ltb, b1, _, _⟩ := fb b hmb
        have ca := sb_lt g z0 (getD_lt (h.red.rw_ a hma) ha)
        have cb := sb_lt g z0 (getD_lt (h.red.rw_ b hmb) ha)
        refine ⟨fun p' l' => ?_, fun p' l' => ?_⟩
        · have e' := l'.uniq a1
          subst e'
          rw [bring_at g (h.red.rw_ b hmb) hl (by omega), l.z _ lta, ml_zr g cb, hab.1 _ la, ad_zero g z0]
        · have e' := l'.uniq b1
          subst e'
          rw [bring_at g (h.red.rw_ a hma) hl (by omega), l.z _ ltb, ml_zr g ca, hab.2 _ lb, ad_zero g z0]
      · rw [List.mem_singleton.mp hy]
        obtain ⟨x, hx2, rfl⟩ := List.mem_map.mp hx
        obtain ⟨p1, _, lt1, a, _, c⟩ := fb x hx2
        exact ⟨fun p' l' => by rw [l'.uniq a]; exact l.z p1 lt1, fun p' l' => by rw [l'.uniq l]; exact c⟩
    · obtain ⟨x, hx, rfl⟩ := List.mem_map.mp hr
      have hxr := h.r1 x (List.mem_of_mem_erase hx)
      have cx := sb_lt g z0 (getD_lt hxr ha)
      by_cases hja : j < at_
      · rw [bring_at g hxr hl (by omega), l.z j hja, ml_zr g cx, h.z x (List.mem_of_mem_erase hx) j hja, ad_zero g z0]
      · have : j = at_ := by omega
        subst this
        rw [bring_at g hxr hl ha, el, ml_one g cx, ad_neg g (getD_lt hxr ha)]
    · rcases List.mem_append.mp hr with hr | hr
      · obtain ⟨x, hx, rfl⟩ := List.mem_map.mp hr
        obtain ⟨p2, _, lt2, a, _, _⟩ := fb x hx
        rw [l1.uniq a]; omega
      · rw [List.mem_singleton.mp hr] at l1
        rw [l1.uniq l]; omega
    · refine List.pairwise_append.mpr ⟨?_, List.pairwise_singleton _ _, fun x hx y hy => ?_⟩
      · rw [List.pairwise_map]
        refine h.up.imp_of_mem fun {a b} hma hmb hab p1 p2 l1 l2 => ?_
        obtain ⟨pa, la, _, a1, _, _⟩ := fb a hma
        obtain ⟨pb, lb, _, b1, _, _⟩ := fb b hmb
        rw [l1.uniq a1, l2.uniq b1]
        exact hab pa pb la lb
      · rw [List.mem_singleton.mp hy]
        obtain ⟨x, hx2, rfl⟩ := List.mem_map.mp hx
        obtain ⟨p2, _, lt2, a, _, _⟩ := fb x hx2
        intro p1 p3 l1 l3
        rw [l1.uniq a, l3.uniq l]
        exact lt2
theorem lowB_ok {rows : List (List Nat)} (g : G q) (h : RwS q n rows) : Red q n (lowB q n rows) ∧ (lowB q n rows).Pairwise Up := by
  have key : ∀ m, m ≤ n → LowI q n m ((List.range m).foldl (stepB q) (rows, [])) := by
    intro m
    induction m with
    | zero => exact fun _ => ⟨h, Red.nil, (fun r hr j hj => absurd hj (Nat.not_lt_zero _)), (fun r hr => by cases hr), List.Pairwise.nil⟩
    | succ m ih =>
      intro hm
      rw [List.range_succ, List.foldl_append]
      exact stepB_ok g (by omega) (ih (by omega))
  exact ⟨(key n (Nat.le_refl _)).red, (key n (Nat.le_refl _)).up⟩
end
theorem k_tt : kitB (tyOf (PyData.tuple [])) "tuple" = some true := by decide +kernel
theorem p_isrow {q n : Nat} {r : List Nat} {Q : SK} {E : EK} (g : G q) (h : Rw q n r) (hq : Q (.sh (.bool true))) : F__law_is_row [.sh (.int q), .sh (eR r), .sh (.int n)] Q E := by
  simp only [E__law_is_row, den__law_is_row, eR, gSub, gMod, gDiv, gPow, gShl, gShr, gAnd, gOr, gXor, gLt, gLe, gGt, gGe, C0, s_asD1, s_asD2, s_asDs0, s_asDs1, s_nrm1, s_nrm2, s_nrm3, s_nrm4, s_nrm5, s_bo, s_ret1, s_ret2, s_add1, s_add2, s_add3, s_add4, s_gI, s_mul1, s_mul2, s_mul3, s_gB, s_in1, s_in2, s_is1, s_is2, s_is3, s_is4, s_is5, s_is6, s_ix1, s_ix2, s_ix3, s_g1, s_g2, s_len1, s_len2, s_len3, s_tup1, s_tup2, s_lst1, s_lst2, s_abs, s_int1, s_int2, s_stri, s_bools, s_sum, s_sort, s_seq1, s_seq2, s_seq3, s_any, s_any1, s_any2, s_any3, s_rng1, s_rng2, s_rng3, s_rng4, s_enum, s_enum1, s_enum2, s_gN, s_gsN, s_gsC, s_gT, s_var, s_var1, s_var2, s_var3, s_var4, s_meth, s_meth1, s_close, s_close1, s_close2, s_close3, s_six, s_six1, s_six2, s_retO, s_retO1, s_retO2, s_peek1, s_peekT1, s_peeks0, s_peeks1, s_wipe0, s_wipe1, s_lf1, s_lf2, s_app, s_ext, s_rem, s_cnt, s_idx, s_spl, s_ty1, s_ty2, s_dSeq, s_dIfS, s_dTest, s_dBin, s_dC, s_gEq, s_dRet, s_dNext, s_dRetN, s_dSet, s_dCons, s_dNil, s_dCB, s_dCall, s_dLc, s_dYes, s_dTup, s_dLst, s_dFor, s_dChain, s_dAndV, s_dOrV, s_dNotV, s_dAnd, s_dOr, s_dNot, s_dIf, s_dRaise, s_dAsg, s_dDrop, s_dMv, s_dIsi, s_dZip, Shp, shp_int, shp_bool, shp_none, PyData.eqv, List.length_cons, List.length_nil, List.replicate, List.cons_append, List.nil_append, List.getElem?_cons_zero, List.getElem?_cons_succ, List.append_nil, List.set_cons_zero, List.set_cons_succ, List.map_cons, List.map_nil, Nat.reduceAdd, Nat.reduceSub, Nat.zero_add, Nat.reduceLT, true_and, and_true, if_true, ite_true, ite_false, Bool.false_eq_true, bne_self_eq_false, Bool.bne_false, Bool.bne_true, Nat.sub_self, Nat.reduceLeDiff, Nat.zero_le, Nat.lt_add_one]
  refine ⟨true, k_tt, ?_⟩
  simp only [List.length_map, h.len, beq_self_eq_true, Bool.not_true, Bool.false_eq_true, if_false]
  refine lc_map eI (fun _ => PyData.bool true) r (fun x hx R hR => ?_) ?_
  · have hxq := h.lt x hx
    simp only [eI, E__law_whole, den__law_whole, gSub, gMod, gDiv, gPow, gShl, gShr, gAnd, gOr, gXor, gLt, gLe, gGt, gGe, C0, s_asD1, s_asD2, s_asDs0, s_asDs1, s_nrm1, s_nrm2, s_nrm3, s_nrm4, s_nrm5, s_bo, s_ret1, s_ret2, s_add1, s_add2, s_add3, s_add4, s_gI, s_mul1, s_mul2, s_mul3, s_gB, s_in1, s_in2, s_is1, s_is2, s_is3, s_is4, s_is5, s_is6, s_ix1, s_ix2, s_ix3, s_g1, s_g2, s_len1, s_len2, s_len3, s_tup1, s_tup2, s_lst1, s_lst2, s_abs, s_int1, s_int2, s_stri, s_bools, s_sum, s_sort, s_seq1, s_seq2, s_seq3, s_any, s_any1, s_any2, s_any3, s_rng1, s_rng2, s_rng3, s_rng4, s_enum, s_enum1, s_enum2, s_gN, s_gsN, s_gsC, s_gT, s_var, s_var1, s_var2, s_var3, s_var4, s_meth, s_meth1, s_close, s_close1, s_close2, s_close3, s_six, s_six1, s_six2, s_retO, s_retO1, s_retO2, s_peek1, s_peekT1, s_peeks0, s_peeks1, s_wipe0, s_wipe1, s_lf1, s_lf2, s_app, s_ext, s_rem, s_cnt, s_idx, s_spl, s_ty1, s_ty2, s_dSeq, s_dIfS, s_dTest, s_dBin, s_dC, s_gEq, s_dRet, s_dNext, s_dRetN, s_dSet, s_dCons, s_dNil, s_dCB, s_dCall, s_dLc, s_dYes, s_dTup, s_dLst, s_dFor, s_dChain, s_dAndV, s_dOrV, s_dNotV, s_dAnd, s_dOr, s_dNot, s_dIf, s_dRaise, s_dAsg, s_dDrop, s_dMv, s_dIsi, s_dZip, Shp, shp_int, shp_bool, shp_none, PyData.eqv, List.length_cons, List.length_nil, List.replicate, List.cons_append, List.nil_append, List.getElem?_cons_zero, List.getElem?_cons_succ, List.append_nil, List.set_cons_zero, List.set_cons_succ, List.map_cons, List.map_nil, Nat.reduceAdd, Nat.reduceSub, Nat.zero_add, Nat.reduceLT, true_and, and_true, if_true, ite_true, ite_false, Bool.false_eq_true, bne_self_eq_false, Bool.bne_false, Bool.bne_true, Nat.sub_self, Nat.reduceLeDiff, Nat.zero_le, Nat.lt_add_one]
    refine ⟨true, k_ii, ?_⟩
    rw [if_pos rfl]
    refine ⟨false, k_ib, ?_⟩
    simp only [Bool.not_false, gSub, gMod, gDiv, gPow, gShl, gShr, gAnd, gOr, gXor, gLt, gLe, gGt, gGe, C0, s_asD1, s_asD2, s_asDs0, s_asDs1, s_nrm1, s_nrm2, s_nrm3, s_nrm4, s_nrm5, s_bo, s_ret1, s_ret2, s_add1, s_add2, s_add3, s_add4, s_gI, s_mul1, s_mul2, s_mul3, s_gB, s_in1, s_in2, s_is1, s_is2, s_is3, s_is4, s_is5, s_is6, s_ix1, s_ix2, s_ix3, s_g1, s_g2, s_len1, s_len2, s_len3, s_tup1, s_tup2, s_lst1, s_lst2, s_abs, s_int1, s_int2, s_stri, s_bools, s_sum, s_sort, s_seq1, s_seq2, s_seq3, s_any, s_any1, s_any2, s_any3, s_rng1, s_rng2, s_rng3, s_rng4, s_enum, s_enum1, s_enum2, s_gN, s_gsN, s_gsC, s_gT, s_var, s_var1, s_var2, s_var3, s_var4, s_meth, s_meth1, s_close, s_close1, s_close2, s_close3, s_six, s_six1, s_six2, s_retO, s_retO1, s_retO2, s_peek1, s_peekT1, s_peeks0, s_peeks1, s_wipe0, s_wipe1, s_lf1, s_lf2, s_app, s_ext, s_rem, s_cnt, s_idx, s_spl, s_ty1, s_ty2, s_dSeq, s_dIfS, s_dTest, s_dBin, s_dC, s_gEq, s_dRet, s_dNext, s_dRetN, s_dSet, s_dCons, s_dNil, s_dCB, s_dCall, s_dLc, s_dYes, s_dTup, s_dLst, s_dFor, s_dChain, s_dAndV, s_dOrV, s_dNotV, s_dAnd, s_dOr, s_dNot, s_dIf, s_dRaise, s_dAsg, s_dDrop, s_dMv, s_dIsi, s_dZip, Shp, shp_int, shp_bool, shp_none, PyData.eqv, List.length_cons, List.length_nil, List.replicate, List.cons_append, List.nil_append, List.getElem?_cons_zero, List.getElem?_cons_succ, List.append_nil, List.set_cons_zero, List.set_cons_succ, List.map_cons, List.map_nil, Nat.reduceAdd, Nat.reduceSub, Nat.zero_add, Nat.reduceLT, true_and, and_true, if_true, ite_true, ite_false, Bool.false_eq_true, bne_self_eq_false, Bool.bne_false, Bool.bne_true, Nat.sub_self, Nat.reduceLeDiff, Nat.zero_le, Nat.lt_add_one]
    have e1 : decide ((0 : Int) ≤ (x : Int)) = true := decide_eq_true (by omega)
    have e2 : decide ((x : Int) < (q : Int)) = true := decide_eq_true (by omega)
    simp only [e1, e2, gSub, gMod, gDiv, gPow, gShl, gShr, gAnd, gOr, gXor, gLt, gLe, gGt, gGe, C0, s_asD1, s_asD2, s_asDs0, s_asDs1, s_nrm1, s_nrm2, s_nrm3, s_nrm4, s_nrm5, s_bo, s_ret1, s_ret2, s_add1, s_add2, s_add3, s_add4, s_gI, s_mul1, s_mul2, s_mul3, s_gB, s_in1, s_in2, s_is1, s_is2, s_is3, s_is4, s_is5, s_is6, s_ix1, s_ix2, s_ix3, s_g1, s_g2, s_len1, s_len2, s_len3, s_tup1, s_tup2, s_lst1, s_lst2, s_abs, s_int1, s_int2, s_stri, s_bools, s_sum, s_sort, s_seq1, s_seq2, s_seq3, s_any, s_any1, s_any2, s_any3, s_rng1, s_rng2, s_rng3, s_rng4, s_enum, s_enum1, s_enum2, s_gN, s_gsN, s_gsC, s_gT, s_var, s_var1, s_var2, s_var3, s_var4, s_meth, s_meth1, s_close, s_close1, s_close2, s_close3, s_six, s_six1, s_six2, s_retO, s_retO1, s_retO2, s_peek1, s_peekT1, s_peeks0, s_peeks1, s_wipe0, s_wipe1, s_lf1, s_lf2, s_app, s_ext, s_rem, s_cnt, s_idx, s_spl, s_ty1, s_ty2, s_dSeq, s_dIfS, s_dTest, s_dBin, s_dC, s_gEq, s_dRet, s_dNext, s_dRetN, s_dSet, s_dCons, s_dNil, s_dCB, s_dCall, s_dLc, s_dYes, s_dTup, s_dLst, s_dFor, s_dChain, s_dAndV, s_dOrV, s_dNotV, s_dAnd, s_dOr, s_dNot, s_dIf, s_dRaise, s_dAsg, s_dDrop, s_dMv, s_dIsi, s_dZip, Shp, shp_int, shp_bool, shp_none, PyData.eqv, List.length_cons, List.length_nil, List.replicate, List.cons_append, List.nil_append, List.getElem?_cons_zero, List.getElem?_cons_succ, List.append_nil, List.set_cons_zero, List.set_cons_succ, List.map_cons, List.map_nil, Nat.reduceAdd, Nat.reduceSub, Nat.zero_add, Nat.reduceLT, true_and, and_true, if_true, ite_true, ite_false, Bool.false_eq_true, bne_self_eq_false, Bool.bne_false, Bool.bne_true, Nat.sub_self, Nat.reduceLeDiff, Nat.zero_le, Nat.lt_add_one]
    exact hR
  · have e : ∀ l : List Nat, bools (l.map fun _ => PyData.bool true) = some (l.map fun _ => true) := by
      intro l
      induction l with
      | nil => rfl
      | cons a l ih => simp [bools, ih]
    simp only [gSub, gMod, gDiv, gPow, gShl, gShr, gAnd, gOr, gXor, gLt, gLe, gGt, gGe, C0, s_asD1, s_asD2, s_asDs0, s_asDs1, s_nrm1, s_nrm2, s_nrm3, s_nrm4, s_nrm5, s_bo, s_ret1, s_ret2, s_add1, s_add2, s_add3, s_add4, s_gI, s_mul1, s_mul2, s_mul3, s_gB, s_in1, s_in2, s_is1, s_is2, s_is3, s_is4, s_is5, s_is6, s_ix1, s_ix2, s_ix3, s_g1, s_g2, s_len1, s_len2, s_len3, s_tup1, s_tup2, s_lst1, s_lst2, s_abs, s_int1, s_int2, s_stri, s_bools, s_sum, s_sort, s_seq1, s_seq2, s_seq3, s_any, s_any1, s_any2, s_any3, s_rng1, s_rng2, s_rng3, s_rng4, s_enum, s_enum1, s_enum2, s_gN, s_gsN, s_gsC, s_gT, s_var, s_var1, s_var2, s_var3, s_var4, s_meth, s_meth1, s_close, s_close1, s_close2, s_close3, s_six, s_six1, s_six2, s_retO, s_retO1, s_retO2, s_peek1, s_peekT1, s_peeks0, s_peeks1, s_wipe0, s_wipe1, s_lf1, s_lf2, s_app, s_ext, s_rem, s_cnt, s_idx, s_spl, s_ty1, s_ty2, s_dSeq, s_dIfS, s_dTest, s_dBin, s_dC, s_gEq, s_dRet, s_dNext, s_dRetN, s_dSet, s_dCons, s_dNil, s_dCB, s_dCall, s_dLc, s_dYes, s_dTup, s_dLst, s_dFor, s_dChain, s_dAndV, s_dOrV, s_dNotV, s_dAnd, s_dOr, s_dNot, s_dIf, s_dRaise, s_dAsg, s_dDrop, s_dMv, s_dIsi, s_dZip, Shp, shp_int, shp_bool, shp_none, PyData.eqv, List.length_cons, List.length_nil, List.replicate, List.cons_append, List.nil_append, List.getElem?_cons_zero, List.getElem?_cons_succ, List.append_nil, List.set_cons_zero, List.set_cons_succ, List.map_cons, List.map_nil, Nat.reduceAdd, Nat.reduceSub, Nat.zero_add, Nat.reduceLT, true_and, and_true, if_true, ite_true, ite_false, Bool.false_eq_true, bne_self_eq_false, Bool.bne_false, Bool.bne_true, Nat.sub_self, Nat.reduceLeDiff, Nat.zero_le, Nat.lt_add_one]
    refine ⟨_, e r, ?_⟩
    have e2 : (r.map fun _ => true).all id = true := by simp
    rw [e2]
    exact hq
theorem p_isline {q : Nat} {a b : List Nat} {Q : SK} {E : EK} (g : G q) (ha : Rw q 4 a) (hb : Rw q 4 b) (hq : Q (.sh (.bool (decide (lowB q 4 [a, b] = [a, b]))))) : F__law_is_line [.sh (.int q), .sh (eL [a, b])] Q E := by
  simp only [E__law_is_line, den__law_is_line, eL, gSub, gMod, gDiv, gPow, gShl, gShr, gAnd, gOr, gXor, gLt, gLe, gGt, gGe, C0, s_asD1, s_asD2, s_asDs0, s_asDs1, s_nrm1, s_nrm2, s_nrm3, s_nrm4, s_nrm5, s_bo, s_ret1, s_ret2, s_add1, s_add2, s_add3, s_add4, s_gI, s_mul1, s_mul2, s_mul3, s_gB, s_in1, s_in2, s_is1, s_is2, s_is3, s_is4, s_is5, s_is6, s_ix1, s_ix2, s_ix3, s_g1, s_g2, s_len1, s_len2, s_len3, s_tup1, s_tup2, s_lst1, s_lst2, s_abs, s_int1, s_int2, s_stri, s_bools, s_sum, s_sort, s_seq1, s_seq2, s_seq3, s_any, s_any1, s_any2, s_any3, s_rng1, s_rng2, s_rng3, s_rng4, s_enum, s_enum1, s_enum2, s_gN, s_gsN, s_gsC, s_gT, s_var, s_var1, s_var2, s_var3, s_var4, s_meth, s_meth1, s_close, s_close1, s_close2, s_close3, s_six, s_six1, s_six2, s_retO, s_retO1, s_retO2, s_peek1, s_peekT1, s_peeks0, s_peeks1, s_wipe0, s_wipe1, s_lf1, s_lf2, s_app, s_ext, s_rem, s_cnt, s_idx, s_spl, s_ty1, s_ty2, s_dSeq, s_dIfS, s_dTest, s_dBin, s_dC, s_gEq, s_dRet, s_dNext, s_dRetN, s_dSet, s_dCons, s_dNil, s_dCB, s_dCall, s_dLc, s_dYes, s_dTup, s_dLst, s_dFor, s_dChain, s_dAndV, s_dOrV, s_dNotV, s_dAnd, s_dOr, s_dNot, s_dIf, s_dRaise, s_dAsg, s_dDrop, s_dMv, s_dIsi, s_dZip, Shp, shp_int, shp_bool, shp_none, PyData.eqv, List.length_cons, List.length_nil, List.replicate, List.cons_append, List.nil_append, List.getElem?_cons_zero, List.getElem?_cons_succ, List.append_nil, List.set_cons_zero, List.set_cons_succ, List.map_cons, List.map_nil, Nat.reduceAdd, Nat.reduceSub, Nat.zero_add, Nat.reduceLT, true_and, and_true, if_true, ite_true, ite_false, Bool.false_eq_true, bne_self_eq_false, Bool.bne_false, Bool.bne_true, Nat.sub_self, Nat.reduceLeDiff, Nat.zero_le, Nat.lt_add_one]
  refine ⟨true, k_tt, ?_⟩
  simp only [Bool.not_true, Bool.false_eq_true, if_false]
  have e22 : ((((2 : Nat) : Int) == 2)) = true := by decide
  simp only [e22, Bool.not_true, Bool.false_eq_true, if_false]
  have el : [eR a, eR b] = [a, b].map eR := rfl
  have hw : RwS q 4 [a, b] := fun r hr => by
    rcases List.mem_cons.mp hr with rfl | hr
    · exact ha
    · rw [List.mem_singleton.mp hr]; exact hb
  rw [el]
  refine lc_map eR (fun _ => PyData.bool true) [a, b] (fun r hr R hR => ?_) ?_
  · have z4 : PyData.int 4 = PyData.int ((4 : Nat) : Int) := rfl
    simp only [eR, z4, gSub, gMod, gDiv, gPow, gShl, gShr, gAnd, gOr, gXor, gLt, gLe, gGt, gGe, C0, s_asD1, s_asD2, s_asDs0, s_asDs1, s_nrm1, s_nrm2, s_nrm3, s_nrm4, s_nrm5, s_bo, s_ret1, s_ret2, s_add1, s_add2, s_add3, s_add4, s_gI, s_mul1, s_mul2, s_mul3, s_gB, s_in1, s_in2, s_is1, s_is2, s_is3, s_is4, s_is5, s_is6, s_ix1, s_ix2, s_ix3, s_g1, s_g2, s_len1, s_len2, s_len3, s_tup1, s_tup2, s_lst1, s_lst2, s_abs, s_int1, s_int2, s_stri, s_bools, s_sum, s_sort, s_seq1, s_seq2, s_seq3, s_any, s_any1, s_any2, s_any3, s_rng1, s_rng2, s_rng3, s_rng4, s_enum, s_enum1, s_enum2, s_gN, s_gsN, s_gsC, s_gT, s_var, s_var1, s_var2, s_var3, s_var4, s_meth, s_meth1, s_close, s_close1, s_close2, s_close3, s_six, s_six1, s_six2, s_retO, s_retO1, s_retO2, s_peek1, s_peekT1, s_peeks0, s_peeks1, s_wipe0, s_wipe1, s_lf1, s_lf2, s_app, s_ext, s_rem, s_cnt, s_idx, s_spl, s_ty1, s_ty2, s_dSeq, s_dIfS, s_dTest, s_dBin, s_dC, s_gEq, s_dRet, s_dNext, s_dRetN, s_dSet, s_dCons, s_dNil, s_dCB, s_dCall, s_dLc, s_dYes, s_dTup, s_dLst, s_dFor, s_dChain, s_dAndV, s_dOrV, s_dNotV, s_dAnd, s_dOr, s_dNot, s_dIf, s_dRaise, s_dAsg, s_dDrop, s_dMv, s_dIsi, s_dZip, Shp, shp_int, shp_bool, shp_none, PyData.eqv, List.length_cons, List.length_nil, List.replicate, List.cons_append, List.nil_append, List.getElem?_cons_zero, List.getElem?_cons_succ, List.append_nil, List.set_cons_zero, List.set_cons_succ, List.map_cons, List.map_nil, Nat.reduceAdd, Nat.reduceSub, Nat.zero_add, Nat.reduceLT, true_and, and_true, if_true, ite_true, ite_false, Bool.false_eq_true, bne_self_eq_false, Bool.bne_false, Bool.bne_true, Nat.sub_self, Nat.reduceLeDiff, Nat.zero_le, Nat.lt_add_one]
    exact p_isrow g (hw r hr) hR
  simp only [gSub, gMod, gDiv, gPow, gShl, gShr, gAnd, gOr, gXor, gLt, gLe, gGt, gGe, C0, s_asD1, s_asD2, s_asDs0, s_asDs1, s_nrm1, s_nrm2, s_nrm3, s_nrm4, s_nrm5, s_bo, s_ret1, s_ret2, s_add1, s_add2, s_add3, s_add4, s_gI, s_mul1, s_mul2, s_mul3, s_gB, s_in1, s_in2, s_is1, s_is2, s_is3, s_is4, s_is5, s_is6, s_ix1, s_ix2, s_ix3, s_g1, s_g2, s_len1, s_len2, s_len3, s_tup1, s_tup2, s_lst1, s_lst2, s_abs, s_int1, s_int2, s_stri, s_bools, s_sum, s_sort, s_seq1, s_seq2, s_seq3, s_any, s_any1, s_any2, s_any3, s_rng1, s_rng2, s_rng3, s_rng4, s_enum, s_enum1, s_enum2, s_gN, s_gsN, s_gsC, s_gT, s_var, s_var1, s_var2, s_var3, s_var4, s_meth, s_meth1, s_close, s_close1, s_close2, s_close3, s_six, s_six1, s_six2, s_retO, s_retO1, s_retO2, s_peek1, s_peekT1, s_peeks0, s_peeks1, s_wipe0, s_wipe1, s_lf1, s_lf2, s_app, s_ext, s_rem, s_cnt, s_idx, s_spl, s_ty1, s_ty2, s_dSeq, s_dIfS, s_dTest, s_dBin, s_dC, s_gEq, s_dRet, s_dNext, s_dRetN, s_dSet, s_dCons, s_dNil, s_dCB, s_dCall, s_dLc, s_dYes, s_dTup, s_dLst, s_dFor, s_dChain, s_dAndV, s_dOrV, s_dNotV, s_dAnd, s_dOr, s_dNot, s_dIf, s_dRaise, s_dAsg, s_dDrop, s_dMv, s_dIsi, s_dZip, Shp, shp_int, shp_bool, shp_none, PyData.eqv, List.length_cons, List.length_nil, List.replicate, List.cons_append, List.nil_append, List.getElem?_cons_zero, List.getElem?_cons_succ, List.append_nil, List.set_cons_zero, List.set_cons_succ, List.map_cons, List.map_nil, Nat.reduceAdd, Nat.reduceSub, Nat.zero_add, Nat.reduceLT, true_and, and_true, if_true, ite_true, ite_false, Bool.false_eq_true, bne_self_eq_false, Bool.bne_false, Bool.bne_true, Nat.sub_self, Nat.reduceLeDiff, Nat.zero_le, Nat.lt_add_one]
  refine ⟨[true, true], rfl, ?_⟩
  simp only [List.all_cons, List.all_nil, id, Bool.and_true, Bool.not_true, gSub, gMod, gDiv, gPow, gShl, gShr, gAnd, gOr, gXor, gLt, gLe, gGt, gGe, C0, s_asD1, s_asD2, s_asDs0, s_asDs1, s_nrm1, s_nrm2, s_nrm3, s_nrm4, s_nrm5, s_bo, s_ret1, s_ret2, s_add1, s_add2, s_add3, s_add4, s_gI, s_mul1, s_mul2, s_mul3, s_gB, s_in1, s_in2, s_is1, s_is2, s_is3, s_is4, s_is5, s_is6, s_ix1, s_ix2, s_ix3, s_g1, s_g2, s_len1, s_len2, s_len3, s_tup1, s_tup2, s_lst1, s_lst2, s_abs, s_int1, s_int2, s_stri, s_bools, s_sum, s_sort, s_seq1, s_seq2, s_seq3, s_any, s_any1, s_any2, s_any3, s_rng1, s_rng2, s_rng3, s_rng4, s_enum, s_enum1, s_enum2, s_gN, s_gsN, s_gsC, s_gT, s_var, s_var1, s_var2, s_var3, s_var4, s_meth, s_meth1, s_close, s_close1, s_close2, s_close3, s_six, s_six1, s_six2, s_retO, s_retO1, s_retO2, s_peek1, s_peekT1, s_peeks0, s_peeks1, s_wipe0, s_wipe1, s_lf1, s_lf2, s_app, s_ext, s_rem, s_cnt, s_idx, s_spl, s_ty1, s_ty2, s_dSeq, s_dIfS, s_dTest, s_dBin, s_dC, s_gEq, s_dRet, s_dNext, s_dRetN, s_dSet, s_dCons, s_dNil, s_dCB, s_dCall, s_dLc, s_dYes, s_dTup, s_dLst, s_dFor, s_dChain, s_dAndV, s_dOrV, s_dNotV, s_dAnd, s_dOr, s_dNot, s_dIf, s_dRaise, s_dAsg, s_dDrop, s_dMv, s_dIsi, s_dZip, Shp, shp_int, shp_bool, shp_none, PyData.eqv, List.length_cons, List.length_nil, List.replicate, List.cons_append, List.nil_append, List.getElem?_cons_zero, List.getElem?_cons_succ, List.append_nil, List.set_cons_zero, List.set_cons_succ, List.map_cons, List.map_nil, Nat.reduceAdd, Nat.reduceSub, Nat.zero_add, Nat.reduceLT, true_and, and_true, if_true, ite_true, ite_false, Bool.false_eq_true, bne_self_eq_false, Bool.bne_false, Bool.bne_true, Nat.sub_self, Nat.reduceLeDiff, Nat.zero_le, Nat.lt_add_one]
  have el2 : [eR a, eR b] = [a, b].map eR := rfl
  rw [el2]
  refine p_lowB g (n := 4) hw (by simp) (by simp) (by decide) ?_
  simp only [s_asD2]
  refine ⟨shp_rows, shp_rows, ?_⟩
  rw [eqv_rows]
  exact hq
inductive All2 {α β : Type} (P : α → β → Prop) : List α → List β → Prop
  | nil : All2 P [] []
  | cons {a b l m} : P a b → All2 P l m → All2 P (a :: l) (b :: m)
theorem All2.snoc {α β : Type} {P : α → β → Prop} {a : α} {b : β} : ∀ {l : List α} {m : List β}, All2 P l m → P a b → All2 P (l ++ [a]) (m ++ [b])
  | _, _, .nil, h => .cons h .nil
  | _, _, .cons h t, h' => .cons h (All2.snoc t h')
/-- a list made by draws -/
theorem lc_rel {α β : Type} {g : TGd} {te : TD} {Γ : Env'} {Q : SK} {E : EK} (enc : α → D) (out : β → D) (P : α → β → Prop) : ∀ (xs pre : List α) (acc : List β)
    (step : ∀ x ∈ xs, ∀ (R : D → Prop), (∀ b, P x b → R (out b)) → g (enc x) Γ fun Γ' => te Γ' (fun s => asD s R) (fun _ => False))
    (h0 : All2 P pre acc) (h : ∀ bs, All2 P (pre ++ xs) bs → Q (.own (bs.map out))), lcGo g dYes te Γ Q E (xs.map enc) (acc.map out)
  | [], pre, acc, step, h0, h => h acc (by rw [List.append_nil]; exact h0)
  | x :: xs, pre, acc, step, h0, h => by
    rw [List.map_cons, lcGo]
    simp only [dYes, if_true]
    refine step x (by simp) _ fun b hb => ?_
    have := lc_rel (te := te) (Q := Q) (E := E) enc out P xs (pre ++ [x]) (acc ++ [b]) (fun y hy => step y (List.mem_cons_of_mem _ hy)) (h0.snoc hb) (fun bs hbs => h bs (by rw [List.append_assoc] at hbs; exact hbs))
    rw [List.map_append] at this
    exact this
theorem All2.len {α β : Type} {P : α → β → Prop} : ∀ {l : List α} {m : List β}, All2 P l m → l.length = m.length
  | _, _, .nil => rfl
  | _, _, .cons _ t => congrArg (· + 1) (All2.len t)
theorem All2.right {α β : Type} {P : β → Prop} : ∀ {l : List α} {m : List β}, All2 (fun _ b => P b) l m → ∀ b ∈ m, P b
  | _, _, .nil, b, hb => by cases hb
  | _, _, .cons h t, b, hb => by
    rcases List.mem_cons.mp hb with rfl | hb
    · exact h
    · exact All2.right t b hb
/-- what a drawn line may be -/
def IsLn (q : Nat) (l : List (List Nat)) : Prop := ∃ a b, Rw q 4 a ∧ Rw q 4 b ∧ l = [a, b] ∧ Red q 4 l ∧ l.Pairwise Up
theorem p_drawn {q : Nat} {Q : SK} {E : EK} (g : G q) (hq : ∀ l, IsLn q l → Q (.sh (eL l))) : F__law_drawn_line [.sh (.int q), .bag] Q E := by
  have h0 := g.pos
  have z3 : PyData.int 3 = PyData.int ((3 : Nat) : Int) := rfl
  simp only [E__law_drawn_line, den__law_drawn_line, gSub, gMod, gDiv, gPow, gShl, gShr, gAnd, gOr, gXor, gLt, gLe, gGt, gGe, C0, s_asD1, s_asD2, s_asDs0, s_asDs1, s_nrm1, s_nrm2, s_nrm3, s_nrm4, s_nrm5, s_bo, s_ret1, s_ret2, s_add1, s_add2, s_add3, s_add4, s_gI, s_mul1, s_mul2, s_mul3, s_gB, s_in1, s_in2, s_is1, s_is2, s_is3, s_is4, s_is5, s_is6, s_ix1, s_ix2, s_ix3, s_g1, s_g2, s_len1, s_len2, s_len3, s_tup1, s_tup2, s_lst1, s_lst2, s_abs, s_int1, s_int2, s_stri, s_bools, s_sum, s_sort, s_seq1, s_seq2, s_seq3, s_any, s_any1, s_any2, s_any3, s_rng1, s_rng2, s_rng3, s_rng4, s_enum, s_enum1, s_enum2, s_gN, s_gsN, s_gsC, s_gT, s_var, s_var1, s_var2, s_var3, s_var4, s_meth, s_meth1, s_close, s_close1, s_close2, s_close3, s_six, s_six1, s_six2, s_retO, s_retO1, s_retO2, s_peek1, s_peekT1, s_peeks0, s_peeks1, s_wipe0, s_wipe1, s_lf1, s_lf2, s_app, s_ext, s_rem, s_cnt, s_idx, s_spl, s_ty1, s_ty2, s_dSeq, s_dIfS, s_dTest, s_dBin, s_dC, s_gEq, s_dRet, s_dNext, s_dRetN, s_dSet, s_dCons, s_dNil, s_dCB, s_dCall, s_dLc, s_dYes, s_dTup, s_dLst, s_dFor, s_dChain, s_dAndV, s_dOrV, s_dNotV, s_dAnd, s_dOr, s_dNot, s_dIf, s_dRaise, s_dAsg, s_dDrop, s_dMv, s_dIsi, s_dZip, Shp, shp_int, shp_bool, shp_none, PyData.eqv, List.length_cons, List.length_nil, List.replicate, List.cons_append, List.nil_append, List.getElem?_cons_zero, List.getElem?_cons_succ, List.append_nil, List.set_cons_zero, List.set_cons_succ, List.map_cons, List.map_nil, Nat.reduceAdd, Nat.reduceSub, Nat.zero_add, Nat.reduceLT, true_and, and_true, if_true, ite_true, ite_false, Bool.false_eq_true, bne_self_eq_false, Bool.bne_false, Bool.bne_true, Nat.sub_self, Nat.reduceLeDiff, Nat.zero_le, Nat.lt_add_one]
  rw [z3]
  refine p_take (by decide) (by decide) fun k hk => ?_
  try simp only [gSub, gMod, gDiv, gPow, gShl, gShr, gAnd, gOr, gXor, gLt, gLe, gGt, gGe, C0, s_asD1, s_asD2, s_asDs0, s_asDs1, s_nrm1, s_nrm2, s_nrm3, s_nrm4, s_nrm5, s_bo, s_ret1, s_ret2, s_add1, s_add2, s_add3, s_add4, s_gI, s_mul1, s_mul2, s_mul3, s_gB, s_in1, s_in2, s_is1, s_is2, s_is3, s_is4, s_is5, s_is6, s_ix1, s_ix2, s_ix3, s_g1, s_g2, s_len1, s_len2, s_len3, s_tup1, s_tup2, s_lst1, s_lst2, s_abs, s_int1, s_int2, s_stri, s_bools, s_sum, s_sort, s_seq1, s_seq2, s_seq3, s_any, s_any1, s_any2, s_any3, s_rng1, s_rng2, s_rng3, s_rng4, s_enum, s_enum1, s_enum2, s_gN, s_gsN, s_gsC, s_gT, s_var, s_var1, s_var2, s_var3, s_var4, s_meth, s_meth1, s_close, s_close1, s_close2, s_close3, s_six, s_six1, s_six2, s_retO, s_retO1, s_retO2, s_peek1, s_peekT1, s_peeks0, s_peeks1, s_wipe0, s_wipe1, s_lf1, s_lf2, s_app, s_ext, s_rem, s_cnt, s_idx, s_spl, s_ty1, s_ty2, s_dSeq, s_dIfS, s_dTest, s_dBin, s_dC, s_gEq, s_dRet, s_dNext, s_dRetN, s_dSet, s_dCons, s_dNil, s_dCB, s_dCall, s_dLc, s_dYes, s_dTup, s_dLst, s_dFor, s_dChain, s_dAndV, s_dOrV, s_dNotV, s_dAnd, s_dOr, s_dNot, s_dIf, s_dRaise, s_dAsg, s_dDrop, s_dMv, s_dIsi, s_dZip, Shp, shp_int, shp_bool, shp_none, PyData.eqv, List.length_cons, List.length_nil, List.replicate, List.cons_append, List.nil_append, List.getElem?_cons_zero, List.getElem?_cons_succ, List.append_nil, List.set_cons_zero, List.set_cons_succ, List.map_cons, List.map_nil, Nat.reduceAdd, Nat.reduceSub, Nat.zero_add, Nat.reduceLT, true_and, and_true, if_true, ite_true, ite_false, Bool.false_eq_true, bne_self_eq_false, Bool.bne_false, Bool.bne_true, Nat.sub_self, Nat.reduceLeDiff, Nat.zero_le, Nat.lt_add_one]
  refine ⟨by decide, ?_⟩
  unfold rngs
  have rep0 : rep [PyData.int 0] (k : Int) = (List.replicate k 0).map eI := rep_zero0 k
  refine lc_rel (β := List Nat) (fun i : Nat => PyData.int (0 + (i : Int))) eR (fun _ r => Rw q 4 r) _ [] [] (fun x hx R hR => ?_) .nil fun bs hbs => ?_
  · simp only [gSub, gMod, gDiv, gPow, gShl, gShr, gAnd, gOr, gXor, gLt, gLe, gGt, gGe, C0, s_asD1, s_asD2, s_asDs0, s_asDs1, s_nrm1, s_nrm2, s_nrm3, s_nrm4, s_nrm5, s_bo, s_ret1, s_ret2, s_add1, s_add2, s_add3, s_add4, s_gI, s_mul1, s_mul2, s_mul3, s_gB, s_in1, s_in2, s_is1, s_is2, s_is3, s_is4, s_is5, s_is6, s_ix1, s_ix2, s_ix3, s_g1, s_g2, s_len1, s_len2, s_len3, s_tup1, s_tup2, s_lst1, s_lst2, s_abs, s_int1, s_int2, s_stri, s_bools, s_sum, s_sort, s_seq1, s_seq2, s_seq3, s_any, s_any1, s_any2, s_any3, s_rng1, s_rng2, s_rng3, s_rng4, s_enum, s_enum1, s_enum2, s_gN, s_gsN, s_gsC, s_gT, s_var, s_var1, s_var2, s_var3, s_var4, s_meth, s_meth1, s_close, s_close1, s_close2, s_close3, s_six, s_six1, s_six2, s_retO, s_retO1, s_retO2, s_peek1, s_peekT1, s_peeks0, s_peeks1, s_wipe0, s_wipe1, s_lf1, s_lf2, s_app, s_ext, s_rem, s_cnt, s_idx, s_spl, s_ty1, s_ty2, s_dSeq, s_dIfS, s_dTest, s_dBin, s_dC, s_gEq, s_dRet, s_dNext, s_dRetN, s_dSet, s_dCons, s_dNil, s_dCB, s_dCall, s_dLc, s_dYes, s_dTup, s_dLst, s_dFor, s_dChain, s_dAndV, s_dOrV, s_dNotV, s_dAnd, s_dOr, s_dNot, s_dIf, s_dRaise, s_dAsg, s_dDrop, s_dMv, s_dIsi, s_dZip, Shp, shp_int, shp_bool, shp_none, PyData.eqv, List.length_cons, List.length_nil, List.replicate, List.cons_append, List.nil_append, List.getElem?_cons_zero, List.getElem?_cons_succ, List.append_nil, List.set_cons_zero, List.set_cons_succ, List.map_cons, List.map_nil, Nat.reduceAdd, Nat.reduceSub, Nat.zero_add, Nat.reduceLT, true_and, and_true, if_true, ite_true, ite_false, Bool.false_eq_true, bne_self_eq_false, Bool.bne_false, Bool.bne_true, Nat.sub_self, Nat.reduceLeDiff, Nat.zero_le, Nat.lt_add_one]
    have zl : (-(2 ^ 63) : Int) ≤ 0 := by decide
    refine ⟨⟨by omega, by omega⟩, ?_⟩
    rw [rep0]
    refine ⟨by omega, ?_⟩
    have e4 : ((4 : Int) - (k : Int)).toNat = 4 - k := by omega
    rw [e4]
    unfold rngs
    refine lc_rel (β := Nat) (fun i : Nat => PyData.int (0 + (i : Int))) eI (fun _ n => n < q) _ [] [] (fun y hy R' hR' => ?_) .nil fun ns hns => ?_
    · simp only [gSub, gMod, gDiv, gPow, gShl, gShr, gAnd, gOr, gXor, gLt, gLe, gGt, gGe, C0, s_asD1, s_asD2, s_asDs0, s_asDs1, s_nrm1, s_nrm2, s_nrm3, s_nrm4, s_nrm5, s_bo, s_ret1, s_ret2, s_add1, s_add2, s_add3, s_add4, s_gI, s_mul1, s_mul2, s_mul3, s_gB, s_in1, s_in2, s_is1, s_is2, s_is3, s_is4, s_is5, s_is6, s_ix1, s_ix2, s_ix3, s_g1, s_g2, s_len1, s_len2, s_len3, s_tup1, s_tup2, s_lst1, s_lst2, s_abs, s_int1, s_int2, s_stri, s_bools, s_sum, s_sort, s_seq1, s_seq2, s_seq3, s_any, s_any1, s_any2, s_any3, s_rng1, s_rng2, s_rng3, s_rng4, s_enum, s_enum1, s_enum2, s_gN, s_gsN, s_gsC, s_gT, s_var, s_var1, s_var2, s_var3, s_var4, s_meth, s_meth1, s_close, s_close1, s_close2, s_close3, s_six, s_six1, s_six2, s_retO, s_retO1, s_retO2, s_peek1, s_peekT1, s_peeks0, s_peeks1, s_wipe0, s_wipe1, s_lf1, s_lf2, s_app, s_ext, s_rem, s_cnt, s_idx, s_spl, s_ty1, s_ty2, s_dSeq, s_dIfS, s_dTest, s_dBin, s_dC, s_gEq, s_dRet, s_dNext, s_dRetN, s_dSet, s_dCons, s_dNil, s_dCB, s_dCall, s_dLc, s_dYes, s_dTup, s_dLst, s_dFor, s_dChain, s_dAndV, s_dOrV, s_dNotV, s_dAnd, s_dOr, s_dNot, s_dIf, s_dRaise, s_dAsg, s_dDrop, s_dMv, s_dIsi, s_dZip, Shp, shp_int, shp_bool, shp_none, PyData.eqv, List.length_cons, List.length_nil, List.replicate, List.cons_append, List.nil_append, List.getElem?_cons_zero, List.getElem?_cons_succ, List.append_nil, List.set_cons_zero, List.set_cons_succ, List.map_cons, List.map_nil, Nat.reduceAdd, Nat.reduceSub, Nat.zero_add, Nat.reduceLT, true_and, and_true, if_true, ite_true, ite_false, Bool.false_eq_true, bne_self_eq_false, Bool.bne_false, Bool.bne_true, Nat.sub_self, Nat.reduceLeDiff, Nat.zero_le, Nat.lt_add_one]
      exact p_take (by omega) (by omega) fun j hj => hR' j hj
    · simp only [gSub, gMod, gDiv, gPow, gShl, gShr, gAnd, gOr, gXor, gLt, gLe, gGt, gGe, C0, s_asD1, s_asD2, s_asDs0, s_asDs1, s_nrm1, s_nrm2, s_nrm3, s_nrm4, s_nrm5, s_bo, s_ret1, s_ret2, s_add1, s_add2, s_add3, s_add4, s_gI, s_mul1, s_mul2, s_mul3, s_gB, s_in1, s_in2, s_is1, s_is2, s_is3, s_is4, s_is5, s_is6, s_ix1, s_ix2, s_ix3, s_g1, s_g2, s_len1, s_len2, s_len3, s_tup1, s_tup2, s_lst1, s_lst2, s_abs, s_int1, s_int2, s_stri, s_bools, s_sum, s_sort, s_seq1, s_seq2, s_seq3, s_any, s_any1, s_any2, s_any3, s_rng1, s_rng2, s_rng3, s_rng4, s_enum, s_enum1, s_enum2, s_gN, s_gsN, s_gsC, s_gT, s_var, s_var1, s_var2, s_var3, s_var4, s_meth, s_meth1, s_close, s_close1, s_close2, s_close3, s_six, s_six1, s_six2, s_retO, s_retO1, s_retO2, s_peek1, s_peekT1, s_peeks0, s_peeks1, s_wipe0, s_wipe1, s_lf1, s_lf2, s_app, s_ext, s_rem, s_cnt, s_idx, s_spl, s_ty1, s_ty2, s_dSeq, s_dIfS, s_dTest, s_dBin, s_dC, s_gEq, s_dRet, s_dNext, s_dRetN, s_dSet, s_dCons, s_dNil, s_dCB, s_dCall, s_dLc, s_dYes, s_dTup, s_dLst, s_dFor, s_dChain, s_dAndV, s_dOrV, s_dNotV, s_dAnd, s_dOr, s_dNot, s_dIf, s_dRaise, s_dAsg, s_dDrop, s_dMv, s_dIsi, s_dZip, Shp, shp_int, shp_bool, shp_none, PyData.eqv, List.length_cons, List.length_nil, List.replicate, List.cons_append, List.nil_append, List.getElem?_cons_zero, List.getElem?_cons_succ, List.append_nil, List.set_cons_zero, List.set_cons_succ, List.map_cons, List.map_nil, Nat.reduceAdd, Nat.reduceSub, Nat.zero_add, Nat.reduceLT, true_and, and_true, if_true, ite_true, ite_false, Bool.false_eq_true, bne_self_eq_false, Bool.bne_false, Bool.bne_true, Nat.sub_self, Nat.reduceLeDiff, Nat.zero_le, Nat.lt_add_one]
      have hl := hns.len
      rw [List.nil_append, List.length_range] at hl
      refine ⟨by rw [List.length_map, List.length_map, List.length_replicate]; omega, ?_⟩
      rw [← List.map_append]
      refine hR _ ⟨by rw [List.length_append, List.length_replicate]; omega, fun y hy => ?_⟩
      rcases List.mem_append.mp hy with hy | hy
      · rw [List.eq_of_mem_replicate hy]; omega
      · exact All2.right hns y hy
  · have hl := hbs.len
    have hr := All2.right hbs
    have e2 : (2 : Int).toNat = 2 := rfl
    rw [e2, List.nil_append, List.length_range] at hl
    obtain ⟨r1, r2, rfl⟩ : ∃ r1 r2, bs = [r1, r2] := by
      match bs, hl with
      | [r1, r2], _ => exact ⟨r1, r2, rfl⟩
    have h1 := hr r1 (by simp)
    have h2 := hr r2 (by simp)
    simp only [gSub, gMod, gDiv, gPow, gShl, gShr, gAnd, gOr, gXor, gLt, gLe, gGt, gGe, C0, s_asD1, s_asD2, s_asDs0, s_asDs1, s_nrm1, s_nrm2, s_nrm3, s_nrm4, s_nrm5, s_bo, s_ret1, s_ret2, s_add1, s_add2, s_add3, s_add4, s_gI, s_mul1, s_mul2, s_mul3, s_gB, s_in1, s_in2, s_is1, s_is2, s_is3, s_is4, s_is5, s_is6, s_ix1, s_ix2, s_ix3, s_g1, s_g2, s_len1, s_len2, s_len3, s_tup1, s_tup2, s_lst1, s_lst2, s_abs, s_int1, s_int2, s_stri, s_bools, s_sum, s_sort, s_seq1, s_seq2, s_seq3, s_any, s_any1, s_any2, s_any3, s_rng1, s_rng2, s_rng3, s_rng4, s_enum, s_enum1, s_enum2, s_gN, s_gsN, s_gsC, s_gT, s_var, s_var1, s_var2, s_var3, s_var4, s_meth, s_meth1, s_close, s_close1, s_close2, s_close3, s_six, s_six1, s_six2, s_retO, s_retO1, s_retO2, s_peek1, s_peekT1, s_peeks0, s_peeks1, s_wipe0, s_wipe1, s_lf1, s_lf2, s_app, s_ext, s_rem, s_cnt, s_idx, s_spl, s_ty1, s_ty2, s_dSeq, s_dIfS, s_dTest, s_dBin, s_dC, s_gEq, s_dRet, s_dNext, s_dRetN, s_dSet, s_dCons, s_dNil, s_dCB, s_dCall, s_dLc, s_dYes, s_dTup, s_dLst, s_dFor, s_dChain, s_dAndV, s_dOrV, s_dNotV, s_dAnd, s_dOr, s_dNot, s_dIf, s_dRaise, s_dAsg, s_dDrop, s_dMv, s_dIsi, s_dZip, Shp, shp_int, shp_bool, shp_none, PyData.eqv, List.length_cons, List.length_nil, List.replicate, List.cons_append, List.nil_append, List.getElem?_cons_zero, List.getElem?_cons_succ, List.append_nil, List.set_cons_zero, List.set_cons_succ, List.map_cons, List.map_nil, Nat.reduceAdd, Nat.reduceSub, Nat.zero_add, Nat.reduceLT, true_and, and_true, if_true, ite_true, ite_false, Bool.false_eq_true, bne_self_eq_false, Bool.bne_false, Bool.bne_true, Nat.sub_self, Nat.reduceLeDiff, Nat.zero_le, Nat.lt_add_one]
    refine ⟨eR r1, at0 _ _, eR r2, by simp [atI, ixN], ?_⟩
    try simp only [gSub, gMod, gDiv, gPow, gShl, gShr, gAnd, gOr, gXor, gLt, gLe, gGt, gGe, C0, s_asD1, s_asD2, s_asDs0, s_asDs1, s_nrm1, s_nrm2, s_nrm3, s_nrm4, s_nrm5, s_bo, s_ret1, s_ret2, s_add1, s_add2, s_add3, s_add4, s_gI, s_mul1, s_mul2, s_mul3, s_gB, s_in1, s_in2, s_is1, s_is2, s_is3, s_is4, s_is5, s_is6, s_ix1, s_ix2, s_ix3, s_g1, s_g2, s_len1, s_len2, s_len3, s_tup1, s_tup2, s_lst1, s_lst2, s_abs, s_int1, s_int2, s_stri, s_bools, s_sum, s_sort, s_seq1, s_seq2, s_seq3, s_any, s_any1, s_any2, s_any3, s_rng1, s_rng2, s_rng3, s_rng4, s_enum, s_enum1, s_enum2, s_gN, s_gsN, s_gsC, s_gT, s_var, s_var1, s_var2, s_var3, s_var4, s_meth, s_meth1, s_close, s_close1, s_close2, s_close3, s_six, s_six1, s_six2, s_retO, s_retO1, s_retO2, s_peek1, s_peekT1, s_peeks0, s_peeks1, s_wipe0, s_wipe1, s_lf1, s_lf2, s_app, s_ext, s_rem, s_cnt, s_idx, s_spl, s_ty1, s_ty2, s_dSeq, s_dIfS, s_dTest, s_dBin, s_dC, s_gEq, s_dRet, s_dNext, s_dRetN, s_dSet, s_dCons, s_dNil, s_dCB, s_dCall, s_dLc, s_dYes, s_dTup, s_dLst, s_dFor, s_dChain, s_dAndV, s_dOrV, s_dNotV, s_dAnd, s_dOr, s_dNot, s_dIf, s_dRaise, s_dAsg, s_dDrop, s_dMv, s_dIsi, s_dZip, Shp, shp_int, shp_bool, shp_none, PyData.eqv, List.length_cons, List.length_nil, List.replicate, List.cons_append, List.nil_append, List.getElem?_cons_zero, List.getElem?_cons_succ, List.append_nil, List.set_cons_zero, List.set_cons_succ, List.map_cons, List.map_nil, Nat.reduceAdd, Nat.reduceSub, Nat.zero_add, Nat.reduceLT, true_and, and_true, if_true, ite_true, ite_false, Bool.false_eq_true, bne_self_eq_false, Bool.bne_false, Bool.bne_true, Nat.sub_self, Nat.reduceLeDiff, Nat.zero_le, Nat.lt_add_one]
    refine p_line g h1 h2 ?_
    have base : ∀ d e : Nat, d < q → e < q → IsLn q [[1, 0, 0, d], [0, 1, e, 0]] := fun d e hd he => by
      have ra : Rw q 4 [1, 0, 0, d] := ⟨rfl, fun x hx => by simp at hx; omega⟩
      have rb : Rw q 4 [0, 1, e, 0] := ⟨rfl, fun x hx => by simp at hx; omega⟩
      have la : Ld [1, 0, 0, d] 0 := ⟨by simp, by simp, fun j hj => by omega⟩
      have lb : Ld [0, 1, e, 0] 1 := ⟨by simp, by simp, fun j hj => by
        have : j = 0 := by omega
        subst this
        rfl⟩
      refine ⟨_, _, ra, rb, rfl, ⟨fun r hr => ?_, fun r hr => ?_, ?_⟩, ?_⟩
      · rcases List.mem_cons.mp hr with rfl | hr
        · exact ra
        · rw [List.mem_singleton.mp hr]; exact rb
      · rcases List.mem_cons.mp hr with rfl | hr
        · exact ⟨0, la, rfl⟩
        · rw [List.mem_singleton.mp hr]; exact ⟨1, lb, rfl⟩
      · refine List.pairwise_cons.mpr ⟨fun y hy => ?_, List.pairwise_singleton _ _⟩
        rw [List.mem_singleton.mp hy]
        exact ⟨fun p l => by rw [l.uniq la]; rfl, fun p l => by rw [l.uniq lb]; rfl⟩
      · refine List.pairwise_cons.mpr ⟨fun y hy => ?_, List.pairwise_singleton _ _⟩
        rw [List.mem_singleton.mp hy]
        intro p p' l l'
        rw [l.uniq la, l'.uniq lb]
        decide
    have hw : RwS q 4 [r1, r2] := fun r hr' => hr r hr'
    obtain ⟨red, up⟩ := lowB_ok (n := 4) g hw
    unfold lineB
    by_cases hl2 : (lowB q 4 [r1, r2]).length = 2
    · rw [if_pos hl2]
      simp only [eLo, eL, gSub, gMod, gDiv, gPow, gShl, gShr, gAnd, gOr, gXor, gLt, gLe, gGt, gGe, C0, s_asD1, s_asD2, s_asDs0, s_asDs1, s_nrm1, s_nrm2, s_nrm3, s_nrm4, s_nrm5, s_bo, s_ret1, s_ret2, s_add1, s_add2, s_add3, s_add4, s_gI, s_mul1, s_mul2, s_mul3, s_gB, s_in1, s_in2, s_is1, s_is2, s_is3, s_is4, s_is5, s_is6, s_ix1, s_ix2, s_ix3, s_g1, s_g2, s_len1, s_len2, s_len3, s_tup1, s_tup2, s_lst1, s_lst2, s_abs, s_int1, s_int2, s_stri, s_bools, s_sum, s_sort, s_seq1, s_seq2, s_seq3, s_any, s_any1, s_any2, s_any3, s_rng1, s_rng2, s_rng3, s_rng4, s_enum, s_enum1, s_enum2, s_gN, s_gsN, s_gsC, s_gT, s_var, s_var1, s_var2, s_var3, s_var4, s_meth, s_meth1, s_close, s_close1, s_close2, s_close3, s_six, s_six1, s_six2, s_retO, s_retO1, s_retO2, s_peek1, s_peekT1, s_peeks0, s_peeks1, s_wipe0, s_wipe1, s_lf1, s_lf2, s_app, s_ext, s_rem, s_cnt, s_idx, s_spl, s_ty1, s_ty2, s_dSeq, s_dIfS, s_dTest, s_dBin, s_dC, s_gEq, s_dRet, s_dNext, s_dRetN, s_dSet, s_dCons, s_dNil, s_dCB, s_dCall, s_dLc, s_dYes, s_dTup, s_dLst, s_dFor, s_dChain, s_dAndV, s_dOrV, s_dNotV, s_dAnd, s_dOr, s_dNot, s_dIf, s_dRaise, s_dAsg, s_dDrop, s_dMv, s_dIsi, s_dZip, Shp, shp_int, shp_bool, shp_none, PyData.eqv, List.length_cons, List.length_nil, List.replicate, List.cons_append, List.nil_append, List.getElem?_cons_zero, List.getElem?_cons_succ, List.append_nil, List.set_cons_zero, List.set_cons_succ, List.map_cons, List.map_nil, Nat.reduceAdd, Nat.reduceSub, Nat.zero_add, Nat.reduceLT, true_and, and_true, if_true, ite_true, ite_false, Bool.false_eq_true, bne_self_eq_false, Bool.bne_false, Bool.bne_true, Nat.sub_self, Nat.reduceLeDiff, Nat.zero_le, Nat.lt_add_one]
      refine hq _ ?_
      obtain ⟨a, b, eab⟩ : ∃ a b, lowB q 4 [r1, r2] = [a, b] := by
        match lowB q 4 [r1, r2], hl2 with
        | [a, b], _ => exact ⟨a, b, rfl⟩
      exact ⟨a, b, red.rw_ a (by rw [eab]; simp), red.rw_ b (by rw [eab]; simp), eab, red, up⟩
    · rw [if_neg hl2]
      simp only [eLo, gSub, gMod, gDiv, gPow, gShl, gShr, gAnd, gOr, gXor, gLt, gLe, gGt, gGe, C0, s_asD1, s_asD2, s_asDs0, s_asDs1, s_nrm1, s_nrm2, s_nrm3, s_nrm4, s_nrm5, s_bo, s_ret1, s_ret2, s_add1, s_add2, s_add3, s_add4, s_gI, s_mul1, s_mul2, s_mul3, s_gB, s_in1, s_in2, s_is1, s_is2, s_is3, s_is4, s_is5, s_is6, s_ix1, s_ix2, s_ix3, s_g1, s_g2, s_len1, s_len2, s_len3, s_tup1, s_tup2, s_lst1, s_lst2, s_abs, s_int1, s_int2, s_stri, s_bools, s_sum, s_sort, s_seq1, s_seq2, s_seq3, s_any, s_any1, s_any2, s_any3, s_rng1, s_rng2, s_rng3, s_rng4, s_enum, s_enum1, s_enum2, s_gN, s_gsN, s_gsC, s_gT, s_var, s_var1, s_var2, s_var3, s_var4, s_meth, s_meth1, s_close, s_close1, s_close2, s_close3, s_six, s_six1, s_six2, s_retO, s_retO1, s_retO2, s_peek1, s_peekT1, s_peeks0, s_peeks1, s_wipe0, s_wipe1, s_lf1, s_lf2, s_app, s_ext, s_rem, s_cnt, s_idx, s_spl, s_ty1, s_ty2, s_dSeq, s_dIfS, s_dTest, s_dBin, s_dC, s_gEq, s_dRet, s_dNext, s_dRetN, s_dSet, s_dCons, s_dNil, s_dCB, s_dCall, s_dLc, s_dYes, s_dTup, s_dLst, s_dFor, s_dChain, s_dAndV, s_dOrV, s_dNotV, s_dAnd, s_dOr, s_dNot, s_dIf, s_dRaise, s_dAsg, s_dDrop, s_dMv, s_dIsi, s_dZip, Shp, shp_int, shp_bool, shp_none, PyData.eqv, List.length_cons, List.length_nil, List.replicate, List.cons_append, List.nil_append, List.getElem?_cons_zero, List.getElem?_cons_succ, List.append_nil, List.set_cons_zero, List.set_cons_succ, List.map_cons, List.map_nil, Nat.reduceAdd, Nat.reduceSub, Nat.zero_add, Nat.reduceLT, true_and, and_true, if_true, ite_true, ite_false, Bool.false_eq_true, bne_self_eq_false, Bool.bne_false, Bool.bne_true, Nat.sub_self, Nat.reduceLeDiff, Nat.zero_le, Nat.lt_add_one]
      refine p_take (by omega) (by omega) fun d hd => ?_
      simp only [gSub, gMod, gDiv, gPow, gShl, gShr, gAnd, gOr, gXor, gLt, gLe, gGt, gGe, C0, s_asD1, s_asD2, s_asDs0, s_asDs1, s_nrm1, s_nrm2, s_nrm3, s_nrm4, s_nrm5, s_bo, s_ret1, s_ret2, s_add1, s_add2, s_add3, s_add4, s_gI, s_mul1, s_mul2, s_mul3, s_gB, s_in1, s_in2, s_is1, s_is2, s_is3, s_is4, s_is5, s_is6, s_ix1, s_ix2, s_ix3, s_g1, s_g2, s_len1, s_len2, s_len3, s_tup1, s_tup2, s_lst1, s_lst2, s_abs, s_int1, s_int2, s_stri, s_bools, s_sum, s_sort, s_seq1, s_seq2, s_seq3, s_any, s_any1, s_any2, s_any3, s_rng1, s_rng2, s_rng3, s_rng4, s_enum, s_enum1, s_enum2, s_gN, s_gsN, s_gsC, s_gT, s_var, s_var1, s_var2, s_var3, s_var4, s_meth, s_meth1, s_close, s_close1, s_close2, s_close3, s_six, s_six1, s_six2, s_retO, s_retO1, s_retO2, s_peek1, s_peekT1, s_peeks0, s_peeks1, s_wipe0, s_wipe1, s_lf1, s_lf2, s_app, s_ext, s_rem, s_cnt, s_idx, s_spl, s_ty1, s_ty2, s_dSeq, s_dIfS, s_dTest, s_dBin, s_dC, s_gEq, s_dRet, s_dNext, s_dRetN, s_dSet, s_dCons, s_dNil, s_dCB, s_dCall, s_dLc, s_dYes, s_dTup, s_dLst, s_dFor, s_dChain, s_dAndV, s_dOrV, s_dNotV, s_dAnd, s_dOr, s_dNot, s_dIf, s_dRaise, s_dAsg, s_dDrop, s_dMv, s_dIsi, s_dZip, Shp, shp_int, shp_bool, shp_none, PyData.eqv, List.length_cons, List.length_nil, List.replicate, List.cons_append, List.nil_append, List.getElem?_cons_zero, List.getElem?_cons_succ, List.append_nil, List.set_cons_zero, List.set_cons_succ, List.map_cons, List.map_nil, Nat.reduceAdd, Nat.reduceSub, Nat.zero_add, Nat.reduceLT, true_and, and_true, if_true, ite_true, ite_false, Bool.false_eq_true, bne_self_eq_false, Bool.bne_false, Bool.bne_true, Nat.sub_self, Nat.reduceLeDiff, Nat.zero_le, Nat.lt_add_one]
      refine p_take (by omega) (by omega) fun e he => ?_
      simp only [gSub, gMod, gDiv, gPow, gShl, gShr, gAnd, gOr, gXor, gLt, gLe, gGt, gGe, C0, s_asD1, s_asD2, s_asDs0, s_asDs1, s_nrm1, s_nrm2, s_nrm3, s_nrm4, s_nrm5, s_bo, s_ret1, s_ret2, s_add1, s_add2, s_add3, s_add4, s_gI, s_mul1, s_mul2, s_mul3, s_gB, s_in1, s_in2, s_is1, s_is2, s_is3, s_is4, s_is5, s_is6, s_ix1, s_ix2, s_ix3, s_g1, s_g2, s_len1, s_len2, s_len3, s_tup1, s_tup2, s_lst1, s_lst2, s_abs, s_int1, s_int2, s_stri, s_bools, s_sum, s_sort, s_seq1, s_seq2, s_seq3, s_any, s_any1, s_any2, s_any3, s_rng1, s_rng2, s_rng3, s_rng4, s_enum, s_enum1, s_enum2, s_gN, s_gsN, s_gsC, s_gT, s_var, s_var1, s_var2, s_var3, s_var4, s_meth, s_meth1, s_close, s_close1, s_close2, s_close3, s_six, s_six1, s_six2, s_retO, s_retO1, s_retO2, s_peek1, s_peekT1, s_peeks0, s_peeks1, s_wipe0, s_wipe1, s_lf1, s_lf2, s_app, s_ext, s_rem, s_cnt, s_idx, s_spl, s_ty1, s_ty2, s_dSeq, s_dIfS, s_dTest, s_dBin, s_dC, s_gEq, s_dRet, s_dNext, s_dRetN, s_dSet, s_dCons, s_dNil, s_dCB, s_dCall, s_dLc, s_dYes, s_dTup, s_dLst, s_dFor, s_dChain, s_dAndV, s_dOrV, s_dNotV, s_dAnd, s_dOr, s_dNot, s_dIf, s_dRaise, s_dAsg, s_dDrop, s_dMv, s_dIsi, s_dZip, Shp, shp_int, shp_bool, shp_none, PyData.eqv, List.length_cons, List.length_nil, List.replicate, List.cons_append, List.nil_append, List.getElem?_cons_zero, List.getElem?_cons_succ, List.append_nil, List.set_cons_zero, List.set_cons_succ, List.map_cons, List.map_nil, Nat.reduceAdd, Nat.reduceSub, Nat.zero_add, Nat.reduceLT, true_and, and_true, if_true, ite_true, ite_false, Bool.false_eq_true, bne_self_eq_false, Bool.bne_false, Bool.bne_true, Nat.sub_self, Nat.reduceLeDiff, Nat.zero_le, Nat.lt_add_one]
      exact hq _ (base d e hd he)
/-! ### all points, as a law goes through them -/
def longB (q : Nat) (l : List (List Nat)) : List (List Nat) := l.flatMap fun r => (List.range q).map fun n => r ++ [n]
def longN (q : Nat) : Nat → List (List Nat) → List (List Nat)
  | 0, l => l
  | k + 1, l => longB q (longN q k l)
def rawB (q m : Nat) : List (List Nat) := (List.range m).flatMap fun f => longN q (3 - f) [List.replicate f 0 ++ [1]]
def allB (q : Nat) : List (List Nat) := sortU (rawB q 4)
theorem longB_len {q : Nat} : ∀ l : List (List Nat), (longB q l).length = l.length * q
  | [] => by simp [longB]
  | r :: l => by
    have := longB_len (q := q) l
    unfold longB at this ⊢
    rw [List.flatMap_cons, List.length_append, this, List.length_map, List.length_range, List.length_cons, Nat.succ_mul, Nat.add_comm]
theorem longN_len {q k : Nat} {r : List Nat} (g : G q) (hk : k ≤ 3) : (longN q k [r]).length ≤ 125 := by
  have h3 : (longN q 3 [r]).length = 1 * q * q * q := by simp only [longN, longB_len, List.length_cons, List.length_nil]
  have h2 : (longN q 2 [r]).length = 1 * q * q := by simp only [longN, longB_len, List.length_cons, List.length_nil]
  have h1 : (longN q 1 [r]).length = 1 * q := by simp only [longN, longB_len, List.length_cons, List.length_nil]
  have h0 : (longN q 0 [r]).length = 1 := rfl
  have : k = 0 ∨ k = 1 ∨ k = 2 ∨ k = 3 := by omega
  rcases this with rfl | rfl | rfl | rfl <;> rcases g with rfl | rfl | rfl | rfl <;> omega
theorem longN_each {q : Nat} {x : List Nat} : ∀ (k : Nat) (r : List Nat), r ∈ longN q k [x] → r.length = x.length + k
  | 0, r, h => by rw [List.mem_singleton.mp h]; rfl
  | k + 1, r, h => by
    obtain ⟨s, hs, h2⟩ := List.mem_flatMap.mp (show r ∈ (longN q k [x]).flatMap _ from h)
    obtain ⟨i, _, rfl⟩ := List.mem_map.mp h2
    rw [List.length_append, longN_each k s hs]
    rfl
theorem longB_app {q : Nat} (l m : List (List Nat)) : longB q (l ++ m) = longB q l ++ longB q m := by unfold longB; rw [List.flatMap_append]
theorem rawB_rw {q : Nat} (g : G q) : RwS q 4 (rawB q 4) := by
  have key : ∀ q, ((rawB q 4).all fun r => r.length == 4 && r.all (· < q)) = true → RwS q 4 (rawB q 4) := fun q h r hr => by
    have := List.all_eq_true.mp h r hr
    rw [Bool.and_eq_true] at this
    exact ⟨by simpa using this.1, fun x hx => by simpa using List.all_eq_true.mp this.2 x hx⟩
  rcases g with rfl | rfl | rfl | rfl <;> exact key _ (by decide +kernel)
theorem rawB_len {q : Nat} (g : G q) : ∀ m ≤ 4, (rawB q m).length ≤ m * 125
  | 0, _ => by simp [rawB]
  | m + 1, h => by
    have := rawB_len g m (by omega)
    unfold rawB at this ⊢
    rw [List.range_succ, List.flatMap_append, List.length_append, List.flatMap_cons, List.flatMap_nil, List.append_nil]
    have := longN_len (r := List.replicate m 0 ++ [1]) g (show 3 - m ≤ 3 by omega)
    omega
theorem p_points {q : Nat} {Q : SK} {E : EK} (g : G q) (hq : Q (.own ((allB q).map eR))) : F__law_all_points [.sh (.int q)] Q E := by
  have h0 := g.pos
  simp only [E__law_all_points, den__law_all_points, gSub, gMod, gDiv, gPow, gShl, gShr, gAnd, gOr, gXor, gLt, gLe, gGt, gGe, C0, s_asD1, s_asD2, s_asDs0, s_asDs1, s_nrm1, s_nrm2, s_nrm3, s_nrm4, s_nrm5, s_bo, s_ret1, s_ret2, s_add1, s_add2, s_add3, s_add4, s_gI, s_mul1, s_mul2, s_mul3, s_gB, s_in1, s_in2, s_is1, s_is2, s_is3, s_is4, s_is5, s_is6, s_ix1, s_ix2, s_ix3, s_g1, s_g2, s_len1, s_len2, s_len3, s_tup1, s_tup2, s_lst1, s_lst2, s_abs, s_int1, s_int2, s_stri, s_bools, s_sum, s_sort, s_seq1, s_seq2, s_seq3, s_any, s_any1, s_any2, s_any3, s_rng1, s_rng2, s_rng3, s_rng4, s_enum, s_enum1, s_enum2, s_gN, s_gsN, s_gsC, s_gT, s_var, s_var1, s_var2, s_var3, s_var4, s_meth, s_meth1, s_close, s_close1, s_close2, s_close3, s_six, s_six1, s_six2, s_retO, s_retO1, s_retO2, s_peek1, s_peekT1, s_peeks0, s_peeks1, s_wipe0, s_wipe1, s_lf1, s_lf2, s_app, s_ext, s_rem, s_cnt, s_idx, s_spl, s_ty1, s_ty2, s_dSeq, s_dIfS, s_dTest, s_dBin, s_dC, s_gEq, s_dRet, s_dNext, s_dRetN, s_dSet, s_dCons, s_dNil, s_dCB, s_dCall, s_dLc, s_dYes, s_dTup, s_dLst, s_dFor, s_dChain, s_dAndV, s_dOrV, s_dNotV, s_dAnd, s_dOr, s_dNot, s_dIf, s_dRaise, s_dAsg, s_dDrop, s_dMv, s_dIsi, s_dZip, Shp, shp_int, shp_bool, shp_none, PyData.eqv, List.length_cons, List.length_nil, List.replicate, List.cons_append, List.nil_append, List.getElem?_cons_zero, List.getElem?_cons_succ, List.append_nil, List.set_cons_zero, List.set_cons_succ, List.map_cons, List.map_nil, Nat.reduceAdd, Nat.reduceSub, Nat.zero_add, Nat.reduceLT, true_and, and_true, if_true, ite_true, ite_false, Bool.false_eq_true, bne_self_eq_false, Bool.bne_false, Bool.bne_true, Nat.sub_self, Nat.reduceLeDiff, Nat.zero_le, Nat.lt_add_one]
  refine ⟨by decide, ?_⟩
  unfold rngs
  refine for_pre (fun i : Nat => PyData.int (0 + (i : Int))) (fun pre Γ => ∃ a2 a3 a4 a5 a6 a7, Γ = [.sh (.int q), .own ((rawB q pre.length).map eR), a2, a3, a4, a5, a6, a7]) (List.range 4) (fun pre f post Γ ef hP N hN => ?_) (fun Γ' hP => ?_) (List.range 4) [] _ rfl ⟨_, _, _, _, _, _, rfl⟩
  · obtain ⟨a2, a3, a4, a5, a6, a7, rfl⟩ := hP
    have hf : f = pre.length ∧ pre.length < 4 := by
      have e1 : (List.range 4)[pre.length]? = some f := by rw [ef]; simp
      have e2 := (List.getElem?_eq_some_iff.mp e1).1
      rw [List.length_range] at e2
      rw [List.getElem?_range e2] at e1
      exact ⟨(Option.some.inj e1).symm, e2⟩
    obtain ⟨rfl, hf4⟩ := hf
    have e0 : rep [PyData.int 0] (pre.length : Int) = (List.replicate pre.length 0).map eI := rep_zero0 _
    simp only [gSub, gMod, gDiv, gPow, gShl, gShr, gAnd, gOr, gXor, gLt, gLe, gGt, gGe, C0, s_asD1, s_asD2, s_asDs0, s_asDs1, s_nrm1, s_nrm2, s_nrm3, s_nrm4, s_nrm5, s_bo, s_ret1, s_ret2, s_add1, s_add2, s_add3, s_add4, s_gI, s_mul1, s_mul2, s_mul3, s_gB, s_in1, s_in2, s_is1, s_is2, s_is3, s_is4, s_is5, s_is6, s_ix1, s_ix2, s_ix3, s_g1, s_g2, s_len1, s_len2, s_len3, s_tup1, s_tup2, s_lst1, s_lst2, s_abs, s_int1, s_int2, s_stri, s_bools, s_sum, s_sort, s_seq1, s_seq2, s_seq3, s_any, s_any1, s_any2, s_any3, s_rng1, s_rng2, s_rng3, s_rng4, s_enum, s_enum1, s_enum2, s_gN, s_gsN, s_gsC, s_gT, s_var, s_var1, s_var2, s_var3, s_var4, s_meth, s_meth1, s_close, s_close1, s_close2, s_close3, s_six, s_six1, s_six2, s_retO, s_retO1, s_retO2, s_peek1, s_peekT1, s_peeks0, s_peeks1, s_wipe0, s_wipe1, s_lf1, s_lf2, s_app, s_ext, s_rem, s_cnt, s_idx, s_spl, s_ty1, s_ty2, s_dSeq, s_dIfS, s_dTest, s_dBin, s_dC, s_gEq, s_dRet, s_dNext, s_dRetN, s_dSet, s_dCons, s_dNil, s_dCB, s_dCall, s_dLc, s_dYes, s_dTup, s_dLst, s_dFor, s_dChain, s_dAndV, s_dOrV, s_dNotV, s_dAnd, s_dOr, s_dNot, s_dIf, s_dRaise, s_dAsg, s_dDrop, s_dMv, s_dIsi, s_dZip, Shp, shp_int, shp_bool, shp_none, PyData.eqv, List.length_cons, List.length_nil, List.replicate, List.cons_append, List.nil_append, List.getElem?_cons_zero, List.getElem?_cons_succ, List.append_nil, List.set_cons_zero, List.set_cons_succ, List.map_cons, List.map_nil, Nat.reduceAdd, Nat.reduceSub, Nat.zero_add, Nat.reduceLT, true_and, and_true, if_true, ite_true, ite_false, Bool.false_eq_true, bne_self_eq_false, Bool.bne_false, Bool.bne_true, Nat.sub_self, Nat.reduceLeDiff, Nat.zero_le, Nat.lt_add_one, Int.zero_add]
    refine ⟨⟨by omega, by omega⟩, ?_⟩
    rw [e0]
    refine ⟨by rw [List.length_map, List.length_replicate]; omega, by omega, ?_⟩
    have e1 : ((3 : Int) - (pre.length : Int)).toNat = 3 - pre.length := by omega
    rw [e1]
    unfold rngs
    have ex : [PyData.tuple ((List.replicate pre.length 0).map eI ++ [PyData.int 1])] = [List.replicate pre.length 0 ++ [1]].map eR := by
      unfold eR
      simp only [List.map_cons, List.map_nil, List.map_append]
      rfl
    rw [ex]
    refine for_pre (fun i : Nat => PyData.int (0 + (i : Int))) (fun pr Γ => ∃ X3 a4 a5 a6 a7, Γ = [.sh (.int q), .own ((rawB q pre.length).map eR), .sh (.int pre.length), X3, a4, a5, a6, a7] ∧ (X3 = .own ((longN q pr.length [List.replicate pre.length 0 ++ [1]]).map eR) ∨ X3 = .sh (.list ((longN q pr.length [List.replicate pre.length 0 ++ [1]]).map eR))))
      (List.range (3 - pre.length)) (fun pr f2 post2 Γ ef2 hP N2 hN2 => ?_) (fun Γ' hP => ?_) (List.range (3 - pre.length)) [] _ rfl ⟨_, _, _, _, _, rfl, .inl rfl⟩
    · obtain ⟨X3, a4, a5, a6, a7, rfl, hX⟩ := hP
      have hpr : pr.length ≤ 3 := by
        have := congrArg List.length ef2
        rw [List.length_range, List.length_append] at this
        omega
      generalize hcur : longN q pr.length [List.replicate pre.length 0 ++ [1]] = cur at hX
      have hcl : cur.length ≤ 125 := by rw [← hcur]; exact longN_len g hpr
      have enx : longN q (pr ++ [f2]).length [List.replicate pre.length 0 ++ [1]] = longB q cur := by
        rw [List.length_append, List.length_cons, List.length_nil, ← hcur]; rfl
      rcases hX with rfl | rfl
      all_goals
        simp only [gSub, gMod, gDiv, gPow, gShl, gShr, gAnd, gOr, gXor, gLt, gLe, gGt, gGe, C0, s_asD1, s_asD2, s_asDs0, s_asDs1, s_nrm1, s_nrm2, s_nrm3, s_nrm4, s_nrm5, s_bo, s_ret1, s_ret2, s_add1, s_add2, s_add3, s_add4, s_gI, s_mul1, s_mul2, s_mul3, s_gB, s_in1, s_in2, s_is1, s_is2, s_is3, s_is4, s_is5, s_is6, s_ix1, s_ix2, s_ix3, s_g1, s_g2, s_len1, s_len2, s_len3, s_tup1, s_tup2, s_lst1, s_lst2, s_abs, s_int1, s_int2, s_stri, s_bools, s_sum, s_sort, s_seq1, s_seq2, s_seq3, s_any, s_any1, s_any2, s_any3, s_rng1, s_rng2, s_rng3, s_rng4, s_enum, s_enum1, s_enum2, s_gN, s_gsN, s_gsC, s_gT, s_var, s_var1, s_var2, s_var3, s_var4, s_meth, s_meth1, s_close, s_close1, s_close2, s_close3, s_six, s_six1, s_six2, s_retO, s_retO1, s_retO2, s_peek1, s_peekT1, s_peeks0, s_peeks1, s_wipe0, s_wipe1, s_lf1, s_lf2, s_app, s_ext, s_rem, s_cnt, s_idx, s_spl, s_ty1, s_ty2, s_dSeq, s_dIfS, s_dTest, s_dBin, s_dC, s_gEq, s_dRet, s_dNext, s_dRetN, s_dSet, s_dCons, s_dNil, s_dCB, s_dCall, s_dLc, s_dYes, s_dTup, s_dLst, s_dFor, s_dChain, s_dAndV, s_dOrV, s_dNotV, s_dAnd, s_dOr, s_dNot, s_dIf, s_dRaise, s_dAsg, s_dDrop, s_dMv, s_dIsi, s_dZip, Shp, shp_int, shp_bool, shp_none, PyData.eqv, List.length_cons, List.length_nil, List.replicate, List.cons_append, List.nil_append, List.getElem?_cons_zero, List.getElem?_cons_succ, List.append_nil, List.set_cons_zero, List.set_cons_succ, List.map_cons, List.map_nil, Nat.reduceAdd, Nat.reduceSub, Nat.zero_add, Nat.reduceLT, true_and, and_true, if_true, ite_true, ite_false, Bool.false_eq_true, bne_self_eq_false, Bool.bne_false, Bool.bne_true, Nat.sub_self, Nat.reduceLeDiff, Nat.zero_le, Nat.lt_add_one, Int.zero_add]
        refine for_pre eR (fun done Γ => ∃ a6 a7, Γ = [.sh (.int q), .own ((rawB q pre.length).map eR), .sh (.int pre.length), .sh (.list (cur.map eR)), .sh (.int f2), .own ((longB q done).map eR), a6, a7]) cur (fun done r post3 Γ ef3 hP N3 hN3 => ?_) (fun Γ' hP => ?_) cur [] _ rfl ⟨_, _, rfl⟩
        · obtain ⟨a6, a7, rfl⟩ := hP
          have hd : done.length ≤ 125 := by
            have := congrArg List.length ef3
            rw [List.length_append] at this
            omega
          simp only [eR, gSub, gMod, gDiv, gPow, gShl, gShr, gAnd, gOr, gXor, gLt, gLe, gGt, gGe, C0, s_asD1, s_asD2, s_asDs0, s_asDs1, s_nrm1, s_nrm2, s_nrm3, s_nrm4, s_nrm5, s_bo, s_ret1, s_ret2, s_add1, s_add2, s_add3, s_add4, s_gI, s_mul1, s_mul2, s_mul3, s_gB, s_in1, s_in2, s_is1, s_is2, s_is3, s_is4, s_is5, s_is6, s_ix1, s_ix2, s_ix3, s_g1, s_g2, s_len1, s_len2, s_len3, s_tup1, s_tup2, s_lst1, s_lst2, s_abs, s_int1, s_int2, s_stri, s_bools, s_sum, s_sort, s_seq1, s_seq2, s_seq3, s_any, s_any1, s_any2, s_any3, s_rng1, s_rng2, s_rng3, s_rng4, s_enum, s_enum1, s_enum2, s_gN, s_gsN, s_gsC, s_gT, s_var, s_var1, s_var2, s_var3, s_var4, s_meth, s_meth1, s_close, s_close1, s_close2, s_close3, s_six, s_six1, s_six2, s_retO, s_retO1, s_retO2, s_peek1, s_peekT1, s_peeks0, s_peeks1, s_wipe0, s_wipe1, s_lf1, s_lf2, s_app, s_ext, s_rem, s_cnt, s_idx, s_spl, s_ty1, s_ty2, s_dSeq, s_dIfS, s_dTest, s_dBin, s_dC, s_gEq, s_dRet, s_dNext, s_dRetN, s_dSet, s_dCons, s_dNil, s_dCB, s_dCall, s_dLc, s_dYes, s_dTup, s_dLst, s_dFor, s_dChain, s_dAndV, s_dOrV, s_dNotV, s_dAnd, s_dOr, s_dNot, s_dIf, s_dRaise, s_dAsg, s_dDrop, s_dMv, s_dIsi, s_dZip, Shp, shp_int, shp_bool, shp_none, PyData.eqv, List.length_cons, List.length_nil, List.replicate, List.cons_append, List.nil_append, List.getElem?_cons_zero, List.getElem?_cons_succ, List.append_nil, List.set_cons_zero, List.set_cons_succ, List.map_cons, List.map_nil, Nat.reduceAdd, Nat.reduceSub, Nat.zero_add, Nat.reduceLT, true_and, and_true, if_true, ite_true, ite_false, Bool.false_eq_true, bne_self_eq_false, Bool.bne_false, Bool.bne_true, Nat.sub_self, Nat.reduceLeDiff, Nat.zero_le, Nat.lt_add_one]
          refine ⟨by omega, ?_⟩
          rw [Int.toNat_natCast]
          unfold rngs
          refine lc_map (fun i : Nat => PyData.int (0 + (i : Int))) (fun i => eR (r ++ [i])) (List.range q) (fun i hi R hR => ?_) ?_
          · have hr4 := longN_each (q := q) (x := List.replicate pre.length 0 ++ [1]) pr.length r (by rw [hcur, ef3]; simp)
            rw [List.length_append, List.length_replicate, List.length_cons, List.length_nil] at hr4
            simp only [gSub, gMod, gDiv, gPow, gShl, gShr, gAnd, gOr, gXor, gLt, gLe, gGt, gGe, C0, s_asD1, s_asD2, s_asDs0, s_asDs1, s_nrm1, s_nrm2, s_nrm3, s_nrm4, s_nrm5, s_bo, s_ret1, s_ret2, s_add1, s_add2, s_add3, s_add4, s_gI, s_mul1, s_mul2, s_mul3, s_gB, s_in1, s_in2, s_is1, s_is2, s_is3, s_is4, s_is5, s_is6, s_ix1, s_ix2, s_ix3, s_g1, s_g2, s_len1, s_len2, s_len3, s_tup1, s_tup2, s_lst1, s_lst2, s_abs, s_int1, s_int2, s_stri, s_bools, s_sum, s_sort, s_seq1, s_seq2, s_seq3, s_any, s_any1, s_any2, s_any3, s_rng1, s_rng2, s_rng3, s_rng4, s_enum, s_enum1, s_enum2, s_gN, s_gsN, s_gsC, s_gT, s_var, s_var1, s_var2, s_var3, s_var4, s_meth, s_meth1, s_close, s_close1, s_close2, s_close3, s_six, s_six1, s_six2, s_retO, s_retO1, s_retO2, s_peek1, s_peekT1, s_peeks0, s_peeks1, s_wipe0, s_wipe1, s_lf1, s_lf2, s_app, s_ext, s_rem, s_cnt, s_idx, s_spl, s_ty1, s_ty2, s_dSeq, s_dIfS, s_dTest, s_dBin, s_dC, s_gEq, s_dRet, s_dNext, s_dRetN, s_dSet, s_dCons, s_dNil, s_dCB, s_dCall, s_dLc, s_dYes, s_dTup, s_dLst, s_dFor, s_dChain, s_dAndV, s_dOrV, s_dNotV, s_dAnd, s_dOr, s_dNot, s_dIf, s_dRaise, s_dAsg, s_dDrop, s_dMv, s_dIsi, s_dZip, Shp, shp_int, shp_bool, shp_none, PyData.eqv, List.length_cons, List.length_nil, List.replicate, List.cons_append, List.nil_append, List.getElem?_cons_zero, List.getElem?_cons_succ, List.append_nil, List.set_cons_zero, List.set_cons_succ, List.map_cons, List.map_nil, Nat.reduceAdd, Nat.reduceSub, Nat.zero_add, Nat.reduceLT, true_and, and_true, if_true, ite_true, ite_false, Bool.false_eq_true, bne_self_eq_false, Bool.bne_false, Bool.bne_true, Nat.sub_self, Nat.reduceLeDiff, Nat.zero_le, Nat.lt_add_one, Int.zero_add]
            refine ⟨by simp only [List.length_map]; omega, ?_⟩
            unfold eR at hR
            rw [List.map_append] at hR
            exact hR
          simp only [gSub, gMod, gDiv, gPow, gShl, gShr, gAnd, gOr, gXor, gLt, gLe, gGt, gGe, C0, s_asD1, s_asD2, s_asDs0, s_asDs1, s_nrm1, s_nrm2, s_nrm3, s_nrm4, s_nrm5, s_bo, s_ret1, s_ret2, s_add1, s_add2, s_add3, s_add4, s_gI, s_mul1, s_mul2, s_mul3, s_gB, s_in1, s_in2, s_is1, s_is2, s_is3, s_is4, s_is5, s_is6, s_ix1, s_ix2, s_ix3, s_g1, s_g2, s_len1, s_len2, s_len3, s_tup1, s_tup2, s_lst1, s_lst2, s_abs, s_int1, s_int2, s_stri, s_bools, s_sum, s_sort, s_seq1, s_seq2, s_seq3, s_any, s_any1, s_any2, s_any3, s_rng1, s_rng2, s_rng3, s_rng4, s_enum, s_enum1, s_enum2, s_gN, s_gsN, s_gsC, s_gT, s_var, s_var1, s_var2, s_var3, s_var4, s_meth, s_meth1, s_close, s_close1, s_close2, s_close3, s_six, s_six1, s_six2, s_retO, s_retO1, s_retO2, s_peek1, s_peekT1, s_peeks0, s_peeks1, s_wipe0, s_wipe1, s_lf1, s_lf2, s_app, s_ext, s_rem, s_cnt, s_idx, s_spl, s_ty1, s_ty2, s_dSeq, s_dIfS, s_dTest, s_dBin, s_dC, s_gEq, s_dRet, s_dNext, s_dRetN, s_dSet, s_dCons, s_dNil, s_dCB, s_dCall, s_dLc, s_dYes, s_dTup, s_dLst, s_dFor, s_dChain, s_dAndV, s_dOrV, s_dNotV, s_dAnd, s_dOr, s_dNot, s_dIf, s_dRaise, s_dAsg, s_dDrop, s_dMv, s_dIsi, s_dZip, Shp, shp_int, shp_bool, shp_none, PyData.eqv, List.length_cons, List.length_nil, List.replicate, List.cons_append, List.nil_append, List.getElem?_cons_zero, List.getElem?_cons_succ, List.append_nil, List.set_cons_zero, List.set_cons_succ, List.map_cons, List.map_nil, Nat.reduceAdd, Nat.reduceSub, Nat.zero_add, Nat.reduceLT, true_and, and_true, if_true, ite_true, ite_false, Bool.false_eq_true, bne_self_eq_false, Bool.bne_false, Bool.bne_true, Nat.sub_self, Nat.reduceLeDiff, Nat.zero_le, Nat.lt_add_one]
          have e5 : (longB q done).map eR ++ (List.range q).map (fun i => eR (r ++ [i])) = (longB q (done ++ [r])).map eR := by
            rw [longB_app, List.map_append]
            unfold longB
            rw [List.flatMap_cons, List.flatMap_nil, List.append_nil, List.map_map]
            rfl
          rw [e5]
          refine ⟨?_, hN3 _ ⟨_, _, rfl⟩⟩
          rw [List.length_map, List.length_map, List.length_range, longB_len]
          have : done.length * q ≤ 125 * 5 := Nat.mul_le_mul hd h0.2
          omega
        · obtain ⟨a6, a7, rfl⟩ := hP
          simp only [gSub, gMod, gDiv, gPow, gShl, gShr, gAnd, gOr, gXor, gLt, gLe, gGt, gGe, C0, s_asD1, s_asD2, s_asDs0, s_asDs1, s_nrm1, s_nrm2, s_nrm3, s_nrm4, s_nrm5, s_bo, s_ret1, s_ret2, s_add1, s_add2, s_add3, s_add4, s_gI, s_mul1, s_mul2, s_mul3, s_gB, s_in1, s_in2, s_is1, s_is2, s_is3, s_is4, s_is5, s_is6, s_ix1, s_ix2, s_ix3, s_g1, s_g2, s_len1, s_len2, s_len3, s_tup1, s_tup2, s_lst1, s_lst2, s_abs, s_int1, s_int2, s_stri, s_bools, s_sum, s_sort, s_seq1, s_seq2, s_seq3, s_any, s_any1, s_any2, s_any3, s_rng1, s_rng2, s_rng3, s_rng4, s_enum, s_enum1, s_enum2, s_gN, s_gsN, s_gsC, s_gT, s_var, s_var1, s_var2, s_var3, s_var4, s_meth, s_meth1, s_close, s_close1, s_close2, s_close3, s_six, s_six1, s_six2, s_retO, s_retO1, s_retO2, s_peek1, s_peekT1, s_peeks0, s_peeks1, s_wipe0, s_wipe1, s_lf1, s_lf2, s_app, s_ext, s_rem, s_cnt, s_idx, s_spl, s_ty1, s_ty2, s_dSeq, s_dIfS, s_dTest, s_dBin, s_dC, s_gEq, s_dRet, s_dNext, s_dRetN, s_dSet, s_dCons, s_dNil, s_dCB, s_dCall, s_dLc, s_dYes, s_dTup, s_dLst, s_dFor, s_dChain, s_dAndV, s_dOrV, s_dNotV, s_dAnd, s_dOr, s_dNot, s_dIf, s_dRaise, s_dAsg, s_dDrop, s_dMv, s_dIsi, s_dZip, Shp, shp_int, shp_bool, shp_none, PyData.eqv, List.length_cons, List.length_nil, List.replicate, List.cons_append, List.nil_append, List.getElem?_cons_zero, List.getElem?_cons_succ, List.append_nil, List.set_cons_zero, List.set_cons_succ, List.map_cons, List.map_nil, Nat.reduceAdd, Nat.reduceSub, Nat.zero_add, Nat.reduceLT, true_and, and_true, if_true, ite_true, ite_false, Bool.false_eq_true, bne_self_eq_false, Bool.bne_false, Bool.bne_true, Nat.sub_self, Nat.reduceLeDiff, Nat.zero_le, Nat.lt_add_one]
          exact hN2 _ ⟨_, _, _, _, _, rfl, .inr (by rw [enx])⟩
    · obtain ⟨X3, a4, a5, a6, a7, rfl, hX⟩ := hP
      rw [List.length_range] at hX
      have e5 : (rawB q pre.length).map eR ++ (longN q (3 - pre.length) [List.replicate pre.length 0 ++ [1]]).map eR = (rawB q (pre ++ [pre.length]).length).map eR := by
        rw [List.length_append, List.length_cons, List.length_nil]
        unfold rawB
        rw [List.range_succ, List.flatMap_append, List.flatMap_cons, List.flatMap_nil, List.append_nil, List.map_append]
      have l1 := rawB_len g pre.length (by omega)
      have l2 := longN_len (r := List.replicate pre.length 0 ++ [1]) g (show 3 - pre.length ≤ 3 by omega)
      rcases hX with rfl | rfl
      all_goals
        simp only [gSub, gMod, gDiv, gPow, gShl, gShr, gAnd, gOr, gXor, gLt, gLe, gGt, gGe, C0, s_asD1, s_asD2, s_asDs0, s_asDs1, s_nrm1, s_nrm2, s_nrm3, s_nrm4, s_nrm5, s_bo, s_ret1, s_ret2, s_add1, s_add2, s_add3, s_add4, s_gI, s_mul1, s_mul2, s_mul3, s_gB, s_in1, s_in2, s_is1, s_is2, s_is3, s_is4, s_is5, s_is6, s_ix1, s_ix2, s_ix3, s_g1, s_g2, s_len1, s_len2, s_len3, s_tup1, s_tup2, s_lst1, s_lst2, s_abs, s_int1, s_int2, s_stri, s_bools, s_sum, s_sort, s_seq1, s_seq2, s_seq3, s_any, s_any1, s_any2, s_any3, s_rng1, s_rng2, s_rng3, s_rng4, s_enum, s_enum1, s_enum2, s_gN, s_gsN, s_gsC, s_gT, s_var, s_var1, s_var2, s_var3, s_var4, s_meth, s_meth1, s_close, s_close1, s_close2, s_close3, s_six, s_six1, s_six2, s_retO, s_retO1, s_retO2, s_peek1, s_peekT1, s_peeks0, s_peeks1, s_wipe0, s_wipe1, s_lf1, s_lf2, s_app, s_ext, s_rem, s_cnt, s_idx, s_spl, s_ty1, s_ty2, s_dSeq, s_dIfS, s_dTest, s_dBin, s_dC, s_gEq, s_dRet, s_dNext, s_dRetN, s_dSet, s_dCons, s_dNil, s_dCB, s_dCall, s_dLc, s_dYes, s_dTup, s_dLst, s_dFor, s_dChain, s_dAndV, s_dOrV, s_dNotV, s_dAnd, s_dOr, s_dNot, s_dIf, s_dRaise, s_dAsg, s_dDrop, s_dMv, s_dIsi, s_dZip, Shp, shp_int, shp_bool, shp_none, PyData.eqv, List.length_cons, List.length_nil, List.replicate, List.cons_append, List.nil_append, List.getElem?_cons_zero, List.getElem?_cons_succ, List.append_nil, List.set_cons_zero, List.set_cons_succ, List.map_cons, List.map_nil, Nat.reduceAdd, Nat.reduceSub, Nat.zero_add, Nat.reduceLT, true_and, and_true, if_true, ite_true, ite_false, Bool.false_eq_true, bne_self_eq_false, Bool.bne_false, Bool.bne_true, Nat.sub_self, Nat.reduceLeDiff, Nat.zero_le, Nat.lt_add_one]
        rw [e5]
        refine ⟨?_, hN _ ⟨_, _, _, _, _, _, rfl⟩⟩
        rw [List.length_map, List.length_map]
        omega
  · obtain ⟨a2, a3, a4, a5, a6, a7, rfl⟩ := hP
    simp only [gSub, gMod, gDiv, gPow, gShl, gShr, gAnd, gOr, gXor, gLt, gLe, gGt, gGe, C0, s_asD1, s_asD2, s_asDs0, s_asDs1, s_nrm1, s_nrm2, s_nrm3, s_nrm4, s_nrm5, s_bo, s_ret1, s_ret2, s_add1, s_add2, s_add3, s_add4, s_gI, s_mul1, s_mul2, s_mul3, s_gB, s_in1, s_in2, s_is1, s_is2, s_is3, s_is4, s_is5, s_is6, s_ix1, s_ix2, s_ix3, s_g1, s_g2, s_len1, s_len2, s_len3, s_tup1, s_tup2, s_lst1, s_lst2, s_abs, s_int1, s_int2, s_stri, s_bools, s_sum, s_sort, s_seq1, s_seq2, s_seq3, s_any, s_any1, s_any2, s_any3, s_rng1, s_rng2, s_rng3, s_rng4, s_enum, s_enum1, s_enum2, s_gN, s_gsN, s_gsC, s_gT, s_var, s_var1, s_var2, s_var3, s_var4, s_meth, s_meth1, s_close, s_close1, s_close2, s_close3, s_six, s_six1, s_six2, s_retO, s_retO1, s_retO2, s_peek1, s_peekT1, s_peeks0, s_peeks1, s_wipe0, s_wipe1, s_lf1, s_lf2, s_app, s_ext, s_rem, s_cnt, s_idx, s_spl, s_ty1, s_ty2, s_dSeq, s_dIfS, s_dTest, s_dBin, s_dC, s_gEq, s_dRet, s_dNext, s_dRetN, s_dSet, s_dCons, s_dNil, s_dCB, s_dCall, s_dLc, s_dYes, s_dTup, s_dLst, s_dFor, s_dChain, s_dAndV, s_dOrV, s_dNotV, s_dAnd, s_dOr, s_dNot, s_dIf, s_dRaise, s_dAsg, s_dDrop, s_dMv, s_dIsi, s_dZip, Shp, shp_int, shp_bool, shp_none, PyData.eqv, List.length_cons, List.length_nil, List.replicate, List.cons_append, List.nil_append, List.getElem?_cons_zero, List.getElem?_cons_succ, List.append_nil, List.set_cons_zero, List.set_cons_succ, List.map_cons, List.map_nil, Nat.reduceAdd, Nat.reduceSub, Nat.zero_add, Nat.reduceLT, true_and, and_true, if_true, ite_true, ite_false, Bool.false_eq_true, bne_self_eq_false, Bool.bne_false, Bool.bne_true, Nat.sub_self, Nat.reduceLeDiff, Nat.zero_le, Nat.lt_add_one]
    rw [List.length_range]
    refine ⟨alike_all _, sortable_all (rawB_rw g) (by decide), depth_all _, ?_⟩
    rw [srtU_rows]
    exact hq
/-! ### the dual, as the law tells it -/
def dotB (q : Nat) (p r : List Nat) : Nat := (p.zip r).foldl (fun s x => ad q s (ml q x.1 x.2)) 0
def perpB (q : Nat) (l : List (List Nat)) (p : List Nat) : Bool := decide (l.map (dotB q p) = [0, 0])
def onB (q : Nat) (l : List (List Nat)) : List (List Nat) := (allB q).filter (perpB q l)
theorem allB_rw {q : Nat} (g : G q) : RwS q 4 (allB q) := fun r hr => rawB_rw g r (by
  unfold allB sortU at hr
  rw [List.mem_reverse] at hr
  exact (sortD_perm _).mem_iff.mp hr)
theorem allB_len {q : Nat} (g : G q) : (allB q).length ≤ 500 := by
  unfold allB sortU
  rw [List.length_reverse, (sortD_perm _).length_eq]
  exact rawB_len g 4 (by decide)
theorem eqv_intsL (r s : List Nat) : PyData.eqv (.list (r.map eI)) (.list (s.map eI)) = decide (r = s) := by
  simp only [PyData.eqv]
  exact eqv_ints r s
theorem at1 {α : Type} (x y : α) (l : List α) : atI (x :: y :: l) 1 = some y := atI_nat (i := 1) rfl
theorem filter_pos {α : Type} {f : α → Bool} {l : List α} {x : α} (h : f x = true) : (l ++ [x]).filter f = l.filter f ++ [x] := by
  rw [List.filter_append, List.filter_cons_of_pos h, List.filter_nil]
theorem filter_neg {α : Type} {f : α → Bool} {l : List α} {x : α} (h : f x = false) : (l ++ [x]).filter f = l.filter f := by
  rw [List.filter_append, List.filter_cons_of_neg (by rw [h]; exact Bool.false_ne_true), List.filter_nil, List.append_nil]
theorem fold_lt {q : Nat} (g : G q) : ∀ (l : List (Nat × Nat)) (s : Nat), (∀ x ∈ l, x.1 < q ∧ x.2 < q) → s < q → l.foldl (fun s x => ad q s (ml q x.1 x.2)) s < q
  | [], s, _, h => h
  | x :: l, s, hl, h => fold_lt g l _ (fun y hy => hl y (List.mem_cons_of_mem _ hy)) (ad_lt g h (ml_lt g (hl x (by simp)).1 (hl x (by simp)).2))
theorem p_dual {q : Nat} {l : List (List Nat)} {Q : SK} {E : EK} (g : G q) (h : RwS q 4 l) (hl : l.length ≤ 1000) (f0 f1 : List Nat) (rest : List (List Nat)) (hf : onB q l = f0 :: f1 :: rest) (hq : Q (.sh (eLo (lineB q f0 f1)))) : F__law_dual [.sh (.int q), .sh (eL l)] Q E := by
  have h0 := g.pos
  simp only [E__law_dual, den__law_dual, gSub, gMod, gDiv, gPow, gShl, gShr, gAnd, gOr, gXor, gLt, gLe, gGt, gGe, C0, s_asD1, s_asD2, s_asDs0, s_asDs1, s_nrm1, s_nrm2, s_nrm3, s_nrm4, s_nrm5, s_bo, s_ret1, s_ret2, s_add1, s_add2, s_add3, s_add4, s_gI, s_mul1, s_mul2, s_mul3, s_gB, s_in1, s_in2, s_is1, s_is2, s_is3, s_is4, s_is5, s_is6, s_ix1, s_ix2, s_ix3, s_g1, s_g2, s_len1, s_len2, s_len3, s_tup1, s_tup2, s_lst1, s_lst2, s_abs, s_int1, s_int2, s_stri, s_bools, s_sum, s_sort, s_seq1, s_seq2, s_seq3, s_any, s_any1, s_any2, s_any3, s_rng1, s_rng2, s_rng3, s_rng4, s_enum, s_enum1, s_enum2, s_gN, s_gsN, s_gsC, s_gT, s_var, s_var1, s_var2, s_var3, s_var4, s_meth, s_meth1, s_close, s_close1, s_close2, s_close3, s_six, s_six1, s_six2, s_retO, s_retO1, s_retO2, s_peek1, s_peekT1, s_peeks0, s_peeks1, s_wipe0, s_wipe1, s_lf1, s_lf2, s_app, s_ext, s_rem, s_cnt, s_idx, s_spl, s_ty1, s_ty2, s_dSeq, s_dIfS, s_dTest, s_dBin, s_dC, s_gEq, s_dRet, s_dNext, s_dRetN, s_dSet, s_dCons, s_dNil, s_dCB, s_dCall, s_dLc, s_dYes, s_dTup, s_dLst, s_dFor, s_dChain, s_dAndV, s_dOrV, s_dNotV, s_dAnd, s_dOr, s_dNot, s_dIf, s_dRaise, s_dAsg, s_dDrop, s_dMv, s_dIsi, s_dZip, Shp, shp_int, shp_bool, shp_none, PyData.eqv, List.length_cons, List.length_nil, List.replicate, List.cons_append, List.nil_append, List.getElem?_cons_zero, List.getElem?_cons_succ, List.append_nil, List.set_cons_zero, List.set_cons_succ, List.map_cons, List.map_nil, Nat.reduceAdd, Nat.reduceSub, Nat.zero_add, Nat.reduceLT, true_and, and_true, if_true, ite_true, ite_false, Bool.false_eq_true, bne_self_eq_false, Bool.bne_false, Bool.bne_true, Nat.sub_self, Nat.reduceLeDiff, Nat.zero_le, Nat.lt_add_one]
  refine p_points g ?_
  simp only [gSub, gMod, gDiv, gPow, gShl, gShr, gAnd, gOr, gXor, gLt, gLe, gGt, gGe, C0, s_asD1, s_asD2, s_asDs0, s_asDs1, s_nrm1, s_nrm2, s_nrm3, s_nrm4, s_nrm5, s_bo, s_ret1, s_ret2, s_add1, s_add2, s_add3, s_add4, s_gI, s_mul1, s_mul2, s_mul3, s_gB, s_in1, s_in2, s_is1, s_is2, s_is3, s_is4, s_is5, s_is6, s_ix1, s_ix2, s_ix3, s_g1, s_g2, s_len1, s_len2, s_len3, s_tup1, s_tup2, s_lst1, s_lst2, s_abs, s_int1, s_int2, s_stri, s_bools, s_sum, s_sort, s_seq1, s_seq2, s_seq3, s_any, s_any1, s_any2, s_any3, s_rng1, s_rng2, s_rng3, s_rng4, s_enum, s_enum1, s_enum2, s_gN, s_gsN, s_gsC, s_gT, s_var, s_var1, s_var2, s_var3, s_var4, s_meth, s_meth1, s_close, s_close1, s_close2, s_close3, s_six, s_six1, s_six2, s_retO, s_retO1, s_retO2, s_peek1, s_peekT1, s_peeks0, s_peeks1, s_wipe0, s_wipe1, s_lf1, s_lf2, s_app, s_ext, s_rem, s_cnt, s_idx, s_spl, s_ty1, s_ty2, s_dSeq, s_dIfS, s_dTest, s_dBin, s_dC, s_gEq, s_dRet, s_dNext, s_dRetN, s_dSet, s_dCons, s_dNil, s_dCB, s_dCall, s_dLc, s_dYes, s_dTup, s_dLst, s_dFor, s_dChain, s_dAndV, s_dOrV, s_dNotV, s_dAnd, s_dOr, s_dNot, s_dIf, s_dRaise, s_dAsg, s_dDrop, s_dMv, s_dIsi, s_dZip, Shp, shp_int, shp_bool, shp_none, PyData.eqv, List.length_cons, List.length_nil, List.replicate, List.cons_append, List.nil_append, List.getElem?_cons_zero, List.getElem?_cons_succ, List.append_nil, List.set_cons_zero, List.set_cons_succ, List.map_cons, List.map_nil, Nat.reduceAdd, Nat.reduceSub, Nat.zero_add, Nat.reduceLT, true_and, and_true, if_true, ite_true, ite_false, Bool.false_eq_true, bne_self_eq_false, Bool.bne_false, Bool.bne_true, Nat.sub_self, Nat.reduceLeDiff, Nat.zero_le, Nat.lt_add_one]
  refine for_pre eR (fun pre Γ => ∃ a3 a4 a5 a6 a7 a8, Γ = [.sh (.int q), .sh (eL l), .own ((pre.filter (perpB q l)).map eR), a3, a4, a5, a6, a7, a8]) (allB q) (fun pre p post Γ ef hP N hN => ?_) (fun Γ' hP => ?_) (allB q) [] _ rfl ⟨_, _, _, _, _, _, rfl⟩
  · obtain ⟨a3, a4, a5, a6, a7, a8, rfl⟩ := hP
    have hp : Rw q 4 p := allB_rw g p (by rw [ef]; simp)
    have hpl : pre.length ≤ 500 := by
      have := congrArg List.length ef
      have := allB_len g
      rw [List.length_append] at *
      omega
    simp only [eL, gSub, gMod, gDiv, gPow, gShl, gShr, gAnd, gOr, gXor, gLt, gLe, gGt, gGe, C0, s_asD1, s_asD2, s_asDs0, s_asDs1, s_nrm1, s_nrm2, s_nrm3, s_nrm4, s_nrm5, s_bo, s_ret1, s_ret2, s_add1, s_add2, s_add3, s_add4, s_gI, s_mul1, s_mul2, s_mul3, s_gB, s_in1, s_in2, s_is1, s_is2, s_is3, s_is4, s_is5, s_is6, s_ix1, s_ix2, s_ix3, s_g1, s_g2, s_len1, s_len2, s_len3, s_tup1, s_tup2, s_lst1, s_lst2, s_abs, s_int1, s_int2, s_stri, s_bools, s_sum, s_sort, s_seq1, s_seq2, s_seq3, s_any, s_any1, s_any2, s_any3, s_rng1, s_rng2, s_rng3, s_rng4, s_enum, s_enum1, s_enum2, s_gN, s_gsN, s_gsC, s_gT, s_var, s_var1, s_var2, s_var3, s_var4, s_meth, s_meth1, s_close, s_close1, s_close2, s_close3, s_six, s_six1, s_six2, s_retO, s_retO1, s_retO2, s_peek1, s_peekT1, s_peeks0, s_peeks1, s_wipe0, s_wipe1, s_lf1, s_lf2, s_app, s_ext, s_rem, s_cnt, s_idx, s_spl, s_ty1, s_ty2, s_dSeq, s_dIfS, s_dTest, s_dBin, s_dC, s_gEq, s_dRet, s_dNext, s_dRetN, s_dSet, s_dCons, s_dNil, s_dCB, s_dCall, s_dLc, s_dYes, s_dTup, s_dLst, s_dFor, s_dChain, s_dAndV, s_dOrV, s_dNotV, s_dAnd, s_dOr, s_dNot, s_dIf, s_dRaise, s_dAsg, s_dDrop, s_dMv, s_dIsi, s_dZip, Shp, shp_int, shp_bool, shp_none, PyData.eqv, List.length_cons, List.length_nil, List.replicate, List.cons_append, List.nil_append, List.getElem?_cons_zero, List.getElem?_cons_succ, List.append_nil, List.set_cons_zero, List.set_cons_succ, List.map_cons, List.map_nil, Nat.reduceAdd, Nat.reduceSub, Nat.zero_add, Nat.reduceLT, true_and, and_true, if_true, ite_true, ite_false, Bool.false_eq_true, bne_self_eq_false, Bool.bne_false, Bool.bne_true, Nat.sub_self, Nat.reduceLeDiff, Nat.zero_le, Nat.lt_add_one]
    refine for_pre eR (fun pr Γ => ∃ a5 a6 a7 a8, Γ = [.sh (.int q), .sh (eL l), .own ((pre.filter (perpB q l)).map eR), .sh (eR p), .own ((pr.map (dotB q p)).map eI), a5, a6, a7, a8]) l (fun pr r post2 Γ ef2 hP N2 hN2 => ?_) (fun Γ' hP => ?_) l [] _ rfl ⟨_, _, _, _, rfl⟩
    · obtain ⟨a5, a6, a7, a8, rfl⟩ := hP
      have hr : Rw q 4 r := h r (by rw [ef2]; simp)
      have hprl : pr.length ≤ 1000 := by
        have := congrArg List.length ef2
        rw [List.length_append] at this
        omega
      simp only [eR, gSub, gMod, gDiv, gPow, gShl, gShr, gAnd, gOr, gXor, gLt, gLe, gGt, gGe, C0, s_asD1, s_asD2, s_asDs0, s_asDs1, s_nrm1, s_nrm2, s_nrm3, s_nrm4, s_nrm5, s_bo, s_ret1, s_ret2, s_add1, s_add2, s_add3, s_add4, s_gI, s_mul1, s_mul2, s_mul3, s_gB, s_in1, s_in2, s_is1, s_is2, s_is3, s_is4, s_is5, s_is6, s_ix1, s_ix2, s_ix3, s_g1, s_g2, s_len1, s_len2, s_len3, s_tup1, s_tup2, s_lst1, s_lst2, s_abs, s_int1, s_int2, s_stri, s_bools, s_sum, s_sort, s_seq1, s_seq2, s_seq3, s_any, s_any1, s_any2, s_any3, s_rng1, s_rng2, s_rng3, s_rng4, s_enum, s_enum1, s_enum2, s_gN, s_gsN, s_gsC, s_gT, s_var, s_var1, s_var2, s_var3, s_var4, s_meth, s_meth1, s_close, s_close1, s_close2, s_close3, s_six, s_six1, s_six2, s_retO, s_retO1, s_retO2, s_peek1, s_peekT1, s_peeks0, s_peeks1, s_wipe0, s_wipe1, s_lf1, s_lf2, s_app, s_ext, s_rem, s_cnt, s_idx, s_spl, s_ty1, s_ty2, s_dSeq, s_dIfS, s_dTest, s_dBin, s_dC, s_gEq, s_dRet, s_dNext, s_dRetN, s_dSet, s_dCons, s_dNil, s_dCB, s_dCall, s_dLc, s_dYes, s_dTup, s_dLst, s_dFor, s_dChain, s_dAndV, s_dOrV, s_dNotV, s_dAnd, s_dOr, s_dNot, s_dIf, s_dRaise, s_dAsg, s_dDrop, s_dMv, s_dIsi, s_dZip, Shp, shp_int, shp_bool, shp_none, PyData.eqv, List.length_cons, List.length_nil, List.replicate, List.cons_append, List.nil_append, List.getElem?_cons_zero, List.getElem?_cons_succ, List.append_nil, List.set_cons_zero, List.set_cons_succ, List.map_cons, List.map_nil, Nat.reduceAdd, Nat.reduceSub, Nat.zero_add, Nat.reduceLT, true_and, and_true, if_true, ite_true, ite_false, Bool.false_eq_true, bne_self_eq_false, Bool.bne_false, Bool.bne_true, Nat.sub_self, Nat.reduceLeDiff, Nat.zero_le, Nat.lt_add_one]
      rw [pairs_enc]
      refine for_st (β := Nat) e2 (fun s Γ => (∃ a7 a8, Γ = [.sh (.int q), .sh (eL l), .own ((pre.filter (perpB q l)).map eR), .sh (eR p), .own ((pr.map (dotB q p)).map eI), .sh (eR r), .sh (.int s), a7, a8]) ∧ s < q)
        (fun s x => ad q s (ml q x.1 x.2)) (p.zip r) 0 _ (fun s x Γ hx hP N3 hN3 => ?_) ⟨⟨_, _, rfl⟩, by omega⟩ fun Γ' hP => ?_
      · obtain ⟨⟨a7, a8, rfl⟩, hs⟩ := hP
        obtain ⟨h1, h2⟩ := List.of_mem_zip (a := x.1) (b := x.2) hx
        have l1 := hp.lt _ h1
        have l2 := hr.lt _ h2
        simp only [e2, eI, gSub, gMod, gDiv, gPow, gShl, gShr, gAnd, gOr, gXor, gLt, gLe, gGt, gGe, C0, s_asD1, s_asD2, s_asDs0, s_asDs1, s_nrm1, s_nrm2, s_nrm3, s_nrm4, s_nrm5, s_bo, s_ret1, s_ret2, s_add1, s_add2, s_add3, s_add4, s_gI, s_mul1, s_mul2, s_mul3, s_gB, s_in1, s_in2, s_is1, s_is2, s_is3, s_is4, s_is5, s_is6, s_ix1, s_ix2, s_ix3, s_g1, s_g2, s_len1, s_len2, s_len3, s_tup1, s_tup2, s_lst1, s_lst2, s_abs, s_int1, s_int2, s_stri, s_bools, s_sum, s_sort, s_seq1, s_seq2, s_seq3, s_any, s_any1, s_any2, s_any3, s_rng1, s_rng2, s_rng3, s_rng4, s_enum, s_enum1, s_enum2, s_gN, s_gsN, s_gsC, s_gT, s_var, s_var1, s_var2, s_var3, s_var4, s_meth, s_meth1, s_close, s_close1, s_close2, s_close3, s_six, s_six1, s_six2, s_retO, s_retO1, s_retO2, s_peek1, s_peekT1, s_peeks0, s_peeks1, s_wipe0, s_wipe1, s_lf1, s_lf2, s_app, s_ext, s_rem, s_cnt, s_idx, s_spl, s_ty1, s_ty2, s_dSeq, s_dIfS, s_dTest, s_dBin, s_dC, s_gEq, s_dRet, s_dNext, s_dRetN, s_dSet, s_dCons, s_dNil, s_dCB, s_dCall, s_dLc, s_dYes, s_dTup, s_dLst, s_dFor, s_dChain, s_dAndV, s_dOrV, s_dNotV, s_dAnd, s_dOr, s_dNot, s_dIf, s_dRaise, s_dAsg, s_dDrop, s_dMv, s_dIsi, s_dZip, Shp, shp_int, shp_bool, shp_none, PyData.eqv, List.length_cons, List.length_nil, List.replicate, List.cons_append, List.nil_append, List.getElem?_cons_zero, List.getElem?_cons_succ, List.append_nil, List.set_cons_zero, List.set_cons_succ, List.map_cons, List.map_nil, Nat.reduceAdd, Nat.reduceSub, Nat.zero_add, Nat.reduceLT, true_and, and_true, if_true, ite_true, ite_false, Bool.false_eq_true, bne_self_eq_false, Bool.bne_false, Bool.bne_true, Nat.sub_self, Nat.reduceLeDiff, Nat.zero_le, Nat.lt_add_one]
        refine p_times g l1 l2 ?_
        simp only [gSub, gMod, gDiv, gPow, gShl, gShr, gAnd, gOr, gXor, gLt, gLe, gGt, gGe, C0, s_asD1, s_asD2, s_asDs0, s_asDs1, s_nrm1, s_nrm2, s_nrm3, s_nrm4, s_nrm5, s_bo, s_ret1, s_ret2, s_add1, s_add2, s_add3, s_add4, s_gI, s_mul1, s_mul2, s_mul3, s_gB, s_in1, s_in2, s_is1, s_is2, s_is3, s_is4, s_is5, s_is6, s_ix1, s_ix2, s_ix3, s_g1, s_g2, s_len1, s_len2, s_len3, s_tup1, s_tup2, s_lst1, s_lst2, s_abs, s_int1, s_int2, s_stri, s_bools, s_sum, s_sort, s_seq1, s_seq2, s_seq3, s_any, s_any1, s_any2, s_any3, s_rng1, s_rng2, s_rng3, s_rng4, s_enum, s_enum1, s_enum2, s_gN, s_gsN, s_gsC, s_gT, s_var, s_var1, s_var2, s_var3, s_var4, s_meth, s_meth1, s_close, s_close1, s_close2, s_close3, s_six, s_six1, s_six2, s_retO, s_retO1, s_retO2, s_peek1, s_peekT1, s_peeks0, s_peeks1, s_wipe0, s_wipe1, s_lf1, s_lf2, s_app, s_ext, s_rem, s_cnt, s_idx, s_spl, s_ty1, s_ty2, s_dSeq, s_dIfS, s_dTest, s_dBin, s_dC, s_gEq, s_dRet, s_dNext, s_dRetN, s_dSet, s_dCons, s_dNil, s_dCB, s_dCall, s_dLc, s_dYes, s_dTup, s_dLst, s_dFor, s_dChain, s_dAndV, s_dOrV, s_dNotV, s_dAnd, s_dOr, s_dNot, s_dIf, s_dRaise, s_dAsg, s_dDrop, s_dMv, s_dIsi, s_dZip, Shp, shp_int, shp_bool, shp_none, PyData.eqv, List.length_cons, List.length_nil, List.replicate, List.cons_append, List.nil_append, List.getElem?_cons_zero, List.getElem?_cons_succ, List.append_nil, List.set_cons_zero, List.set_cons_succ, List.map_cons, List.map_nil, Nat.reduceAdd, Nat.reduceSub, Nat.zero_add, Nat.reduceLT, true_and, and_true, if_true, ite_true, ite_false, Bool.false_eq_true, bne_self_eq_false, Bool.bne_false, Bool.bne_true, Nat.sub_self, Nat.reduceLeDiff, Nat.zero_le, Nat.lt_add_one]
        refine p_plus g hs (ml_lt g l1 l2) ?_
        try simp only [gSub, gMod, gDiv, gPow, gShl, gShr, gAnd, gOr, gXor, gLt, gLe, gGt, gGe, C0, s_asD1, s_asD2, s_asDs0, s_asDs1, s_nrm1, s_nrm2, s_nrm3, s_nrm4, s_nrm5, s_bo, s_ret1, s_ret2, s_add1, s_add2, s_add3, s_add4, s_gI, s_mul1, s_mul2, s_mul3, s_gB, s_in1, s_in2, s_is1, s_is2, s_is3, s_is4, s_is5, s_is6, s_ix1, s_ix2, s_ix3, s_g1, s_g2, s_len1, s_len2, s_len3, s_tup1, s_tup2, s_lst1, s_lst2, s_abs, s_int1, s_int2, s_stri, s_bools, s_sum, s_sort, s_seq1, s_seq2, s_seq3, s_any, s_any1, s_any2, s_any3, s_rng1, s_rng2, s_rng3, s_rng4, s_enum, s_enum1, s_enum2, s_gN, s_gsN, s_gsC, s_gT, s_var, s_var1, s_var2, s_var3, s_var4, s_meth, s_meth1, s_close, s_close1, s_close2, s_close3, s_six, s_six1, s_six2, s_retO, s_retO1, s_retO2, s_peek1, s_peekT1, s_peeks0, s_peeks1, s_wipe0, s_wipe1, s_lf1, s_lf2, s_app, s_ext, s_rem, s_cnt, s_idx, s_spl, s_ty1, s_ty2, s_dSeq, s_dIfS, s_dTest, s_dBin, s_dC, s_gEq, s_dRet, s_dNext, s_dRetN, s_dSet, s_dCons, s_dNil, s_dCB, s_dCall, s_dLc, s_dYes, s_dTup, s_dLst, s_dFor, s_dChain, s_dAndV, s_dOrV, s_dNotV, s_dAnd, s_dOr, s_dNot, s_dIf, s_dRaise, s_dAsg, s_dDrop, s_dMv, s_dIsi, s_dZip, Shp, shp_int, shp_bool, shp_none, PyData.eqv, List.length_cons, List.length_nil, List.replicate, List.cons_append, List.nil_append, List.getElem?_cons_zero, List.getElem?_cons_succ, List.append_nil, List.set_cons_zero, List.set_cons_succ, List.map_cons, List.map_nil, Nat.reduceAdd, Nat.reduceSub, Nat.zero_add, Nat.reduceLT, true_and, and_true, if_true, ite_true, ite_false, Bool.false_eq_true, bne_self_eq_false, Bool.bne_false, Bool.bne_true, Nat.sub_self, Nat.reduceLeDiff, Nat.zero_le, Nat.lt_add_one]
        exact hN3 _ ⟨⟨_, _, rfl⟩, ad_lt g hs (ml_lt g l1 l2)⟩
      · obtain ⟨⟨a7, a8, rfl⟩, hs⟩ := hP
        simp only [gSub, gMod, gDiv, gPow, gShl, gShr, gAnd, gOr, gXor, gLt, gLe, gGt, gGe, C0, s_asD1, s_asD2, s_asDs0, s_asDs1, s_nrm1, s_nrm2, s_nrm3, s_nrm4, s_nrm5, s_bo, s_ret1, s_ret2, s_add1, s_add2, s_add3, s_add4, s_gI, s_mul1, s_mul2, s_mul3, s_gB, s_in1, s_in2, s_is1, s_is2, s_is3, s_is4, s_is5, s_is6, s_ix1, s_ix2, s_ix3, s_g1, s_g2, s_len1, s_len2, s_len3, s_tup1, s_tup2, s_lst1, s_lst2, s_abs, s_int1, s_int2, s_stri, s_bools, s_sum, s_sort, s_seq1, s_seq2, s_seq3, s_any, s_any1, s_any2, s_any3, s_rng1, s_rng2, s_rng3, s_rng4, s_enum, s_enum1, s_enum2, s_gN, s_gsN, s_gsC, s_gT, s_var, s_var1, s_var2, s_var3, s_var4, s_meth, s_meth1, s_close, s_close1, s_close2, s_close3, s_six, s_six1, s_six2, s_retO, s_retO1, s_retO2, s_peek1, s_peekT1, s_peeks0, s_peeks1, s_wipe0, s_wipe1, s_lf1, s_lf2, s_app, s_ext, s_rem, s_cnt, s_idx, s_spl, s_ty1, s_ty2, s_dSeq, s_dIfS, s_dTest, s_dBin, s_dC, s_gEq, s_dRet, s_dNext, s_dRetN, s_dSet, s_dCons, s_dNil, s_dCB, s_dCall, s_dLc, s_dYes, s_dTup, s_dLst, s_dFor, s_dChain, s_dAndV, s_dOrV, s_dNotV, s_dAnd, s_dOr, s_dNot, s_dIf, s_dRaise, s_dAsg, s_dDrop, s_dMv, s_dIsi, s_dZip, Shp, shp_int, shp_bool, shp_none, PyData.eqv, List.length_cons, List.length_nil, List.replicate, List.cons_append, List.nil_append, List.getElem?_cons_zero, List.getElem?_cons_succ, List.append_nil, List.set_cons_zero, List.set_cons_succ, List.map_cons, List.map_nil, Nat.reduceAdd, Nat.reduceSub, Nat.zero_add, Nat.reduceLT, true_and, and_true, if_true, ite_true, ite_false, Bool.false_eq_true, bne_self_eq_false, Bool.bne_false, Bool.bne_true, Nat.sub_self, Nat.reduceLeDiff, Nat.zero_le, Nat.lt_add_one]
        refine ⟨by simp only [List.length_map]; omega, ?_⟩
        exact hN2 _ ⟨_, _, _, _, by rw [List.map_append, List.map_append]; rfl⟩
    · obtain ⟨a5, a6, a7, a8, rfl⟩ := hP
      simp only [gSub, gMod, gDiv, gPow, gShl, gShr, gAnd, gOr, gXor, gLt, gLe, gGt, gGe, C0, s_asD1, s_asD2, s_asDs0, s_asDs1, s_nrm1, s_nrm2, s_nrm3, s_nrm4, s_nrm5, s_bo, s_ret1, s_ret2, s_add1, s_add2, s_add3, s_add4, s_gI, s_mul1, s_mul2, s_mul3, s_gB, s_in1, s_in2, s_is1, s_is2, s_is3, s_is4, s_is5, s_is6, s_ix1, s_ix2, s_ix3, s_g1, s_g2, s_len1, s_len2, s_len3, s_tup1, s_tup2, s_lst1, s_lst2, s_abs, s_int1, s_int2, s_stri, s_bools, s_sum, s_sort, s_seq1, s_seq2, s_seq3, s_any, s_any1, s_any2, s_any3, s_rng1, s_rng2, s_rng3, s_rng4, s_enum, s_enum1, s_enum2, s_gN, s_gsN, s_gsC, s_gT, s_var, s_var1, s_var2, s_var3, s_var4, s_meth, s_meth1, s_close, s_close1, s_close2, s_close3, s_six, s_six1, s_six2, s_retO, s_retO1, s_retO2, s_peek1, s_peekT1, s_peeks0, s_peeks1, s_wipe0, s_wipe1, s_lf1, s_lf2, s_app, s_ext, s_rem, s_cnt, s_idx, s_spl, s_ty1, s_ty2, s_dSeq, s_dIfS, s_dTest, s_dBin, s_dC, s_gEq, s_dRet, s_dNext, s_dRetN, s_dSet, s_dCons, s_dNil, s_dCB, s_dCall, s_dLc, s_dYes, s_dTup, s_dLst, s_dFor, s_dChain, s_dAndV, s_dOrV, s_dNotV, s_dAnd, s_dOr, s_dNot, s_dIf, s_dRaise, s_dAsg, s_dDrop, s_dMv, s_dIsi, s_dZip, Shp, shp_int, shp_bool, shp_none, PyData.eqv, List.length_cons, List.length_nil, List.replicate, List.cons_append, List.nil_append, List.getElem?_cons_zero, List.getElem?_cons_succ, List.append_nil, List.set_cons_zero, List.set_cons_succ, List.map_cons, List.map_nil, Nat.reduceAdd, Nat.reduceSub, Nat.zero_add, Nat.reduceLT, true_and, and_true, if_true, ite_true, ite_false, Bool.false_eq_true, bne_self_eq_false, Bool.bne_false, Bool.bne_true, Nat.sub_self, Nat.reduceLeDiff, Nat.zero_le, Nat.lt_add_one]
      refine ⟨shp_ints _, (shN_lst (n := 0) fun d hd => by
        simp only [List.mem_cons, List.not_mem_nil, or_false, or_self] at hd
        rw [hd]; exact shN_int).shp (by decide), ?_⟩
      have ee : PyData.eqvAll ((l.map (dotB q p)).map eI) [.int 0, .int 0] = decide (l.map (dotB q p) = [0, 0]) := eqv_ints _ [0, 0]
      simp only [ee]
      by_cases hd : l.map (dotB q p) = [0, 0]
      · simp only [decide_eq_true hd, gSub, gMod, gDiv, gPow, gShl, gShr, gAnd, gOr, gXor, gLt, gLe, gGt, gGe, C0, s_asD1, s_asD2, s_asDs0, s_asDs1, s_nrm1, s_nrm2, s_nrm3, s_nrm4, s_nrm5, s_bo, s_ret1, s_ret2, s_add1, s_add2, s_add3, s_add4, s_gI, s_mul1, s_mul2, s_mul3, s_gB, s_in1, s_in2, s_is1, s_is2, s_is3, s_is4, s_is5, s_is6, s_ix1, s_ix2, s_ix3, s_g1, s_g2, s_len1, s_len2, s_len3, s_tup1, s_tup2, s_lst1, s_lst2, s_abs, s_int1, s_int2, s_stri, s_bools, s_sum, s_sort, s_seq1, s_seq2, s_seq3, s_any, s_any1, s_any2, s_any3, s_rng1, s_rng2, s_rng3, s_rng4, s_enum, s_enum1, s_enum2, s_gN, s_gsN, s_gsC, s_gT, s_var, s_var1, s_var2, s_var3, s_var4, s_meth, s_meth1, s_close, s_close1, s_close2, s_close3, s_six, s_six1, s_six2, s_retO, s_retO1, s_retO2, s_peek1, s_peekT1, s_peeks0, s_peeks1, s_wipe0, s_wipe1, s_lf1, s_lf2, s_app, s_ext, s_rem, s_cnt, s_idx, s_spl, s_ty1, s_ty2, s_dSeq, s_dIfS, s_dTest, s_dBin, s_dC, s_gEq, s_dRet, s_dNext, s_dRetN, s_dSet, s_dCons, s_dNil, s_dCB, s_dCall, s_dLc, s_dYes, s_dTup, s_dLst, s_dFor, s_dChain, s_dAndV, s_dOrV, s_dNotV, s_dAnd, s_dOr, s_dNot, s_dIf, s_dRaise, s_dAsg, s_dDrop, s_dMv, s_dIsi, s_dZip, Shp, shp_int, shp_bool, shp_none, PyData.eqv, List.length_cons, List.length_nil, List.replicate, List.cons_append, List.nil_append, List.getElem?_cons_zero, List.getElem?_cons_succ, List.append_nil, List.set_cons_zero, List.set_cons_succ, List.map_cons, List.map_nil, Nat.reduceAdd, Nat.reduceSub, Nat.zero_add, Nat.reduceLT, true_and, and_true, if_true, ite_true, ite_false, Bool.false_eq_true, bne_self_eq_false, Bool.bne_false, Bool.bne_true, Nat.sub_self, Nat.reduceLeDiff, Nat.zero_le, Nat.lt_add_one]
        refine ⟨by have := List.length_filter_le (perpB q l) pre; rw [List.length_map]; omega, ?_⟩
        have ef2 : ((pre ++ [p]).filter (perpB q l)).map eR = (pre.filter (perpB q l)).map eR ++ [eR p] := by
          rw [filter_pos (f := perpB q l) (decide_eq_true hd), List.map_append]
          rfl
        rw [ef2] at hN
        exact hN _ ⟨_, _, _, _, _, _, rfl⟩
      · simp only [decide_eq_false hd, gSub, gMod, gDiv, gPow, gShl, gShr, gAnd, gOr, gXor, gLt, gLe, gGt, gGe, C0, s_asD1, s_asD2, s_asDs0, s_asDs1, s_nrm1, s_nrm2, s_nrm3, s_nrm4, s_nrm5, s_bo, s_ret1, s_ret2, s_add1, s_add2, s_add3, s_add4, s_gI, s_mul1, s_mul2, s_mul3, s_gB, s_in1, s_in2, s_is1, s_is2, s_is3, s_is4, s_is5, s_is6, s_ix1, s_ix2, s_ix3, s_g1, s_g2, s_len1, s_len2, s_len3, s_tup1, s_tup2, s_lst1, s_lst2, s_abs, s_int1, s_int2, s_stri, s_bools, s_sum, s_sort, s_seq1, s_seq2, s_seq3, s_any, s_any1, s_any2, s_any3, s_rng1, s_rng2, s_rng3, s_rng4, s_enum, s_enum1, s_enum2, s_gN, s_gsN, s_gsC, s_gT, s_var, s_var1, s_var2, s_var3, s_var4, s_meth, s_meth1, s_close, s_close1, s_close2, s_close3, s_six, s_six1, s_six2, s_retO, s_retO1, s_retO2, s_peek1, s_peekT1, s_peeks0, s_peeks1, s_wipe0, s_wipe1, s_lf1, s_lf2, s_app, s_ext, s_rem, s_cnt, s_idx, s_spl, s_ty1, s_ty2, s_dSeq, s_dIfS, s_dTest, s_dBin, s_dC, s_gEq, s_dRet, s_dNext, s_dRetN, s_dSet, s_dCons, s_dNil, s_dCB, s_dCall, s_dLc, s_dYes, s_dTup, s_dLst, s_dFor, s_dChain, s_dAndV, s_dOrV, s_dNotV, s_dAnd, s_dOr, s_dNot, s_dIf, s_dRaise, s_dAsg, s_dDrop, s_dMv, s_dIsi, s_dZip, Shp, shp_int, shp_bool, shp_none, PyData.eqv, List.length_cons, List.length_nil, List.replicate, List.cons_append, List.nil_append, List.getElem?_cons_zero, List.getElem?_cons_succ, List.append_nil, List.set_cons_zero, List.set_cons_succ, List.map_cons, List.map_nil, Nat.reduceAdd, Nat.reduceSub, Nat.zero_add, Nat.reduceLT, true_and, and_true, if_true, ite_true, ite_false, Bool.false_eq_true, bne_self_eq_false, Bool.bne_false, Bool.bne_true, Nat.sub_self, Nat.reduceLeDiff, Nat.zero_le, Nat.lt_add_one]
        have ef2 : ((pre ++ [p]).filter (perpB q l)) = pre.filter (perpB q l) := filter_neg (f := perpB q l) (decide_eq_false hd)
        rw [ef2] at hN
        exact hN _ ⟨_, _, _, _, _, _, rfl⟩
  · obtain ⟨a3, a4, a5, a6, a7, a8, rfl⟩ := hP
    have hf' : (allB q).filter (perpB q l) = f0 :: f1 :: rest := hf
    have hm : ∀ x ∈ f0 :: f1 :: rest, Rw q 4 x := fun x hx => by
      rw [← hf'] at hx
      exact allB_rw g x (List.mem_filter.mp hx).1
    simp only [hf', gSub, gMod, gDiv, gPow, gShl, gShr, gAnd, gOr, gXor, gLt, gLe, gGt, gGe, C0, s_asD1, s_asD2, s_asDs0, s_asDs1, s_nrm1, s_nrm2, s_nrm3, s_nrm4, s_nrm5, s_bo, s_ret1, s_ret2, s_add1, s_add2, s_add3, s_add4, s_gI, s_mul1, s_mul2, s_mul3, s_gB, s_in1, s_in2, s_is1, s_is2, s_is3, s_is4, s_is5, s_is6, s_ix1, s_ix2, s_ix3, s_g1, s_g2, s_len1, s_len2, s_len3, s_tup1, s_tup2, s_lst1, s_lst2, s_abs, s_int1, s_int2, s_stri, s_bools, s_sum, s_sort, s_seq1, s_seq2, s_seq3, s_any, s_any1, s_any2, s_any3, s_rng1, s_rng2, s_rng3, s_rng4, s_enum, s_enum1, s_enum2, s_gN, s_gsN, s_gsC, s_gT, s_var, s_var1, s_var2, s_var3, s_var4, s_meth, s_meth1, s_close, s_close1, s_close2, s_close3, s_six, s_six1, s_six2, s_retO, s_retO1, s_retO2, s_peek1, s_peekT1, s_peeks0, s_peeks1, s_wipe0, s_wipe1, s_lf1, s_lf2, s_app, s_ext, s_rem, s_cnt, s_idx, s_spl, s_ty1, s_ty2, s_dSeq, s_dIfS, s_dTest, s_dBin, s_dC, s_gEq, s_dRet, s_dNext, s_dRetN, s_dSet, s_dCons, s_dNil, s_dCB, s_dCall, s_dLc, s_dYes, s_dTup, s_dLst, s_dFor, s_dChain, s_dAndV, s_dOrV, s_dNotV, s_dAnd, s_dOr, s_dNot, s_dIf, s_dRaise, s_dAsg, s_dDrop, s_dMv, s_dIsi, s_dZip, Shp, shp_int, shp_bool, shp_none, PyData.eqv, List.length_cons, List.length_nil, List.replicate, List.cons_append, List.nil_append, List.getElem?_cons_zero, List.getElem?_cons_succ, List.append_nil, List.set_cons_zero, List.set_cons_succ, List.map_cons, List.map_nil, Nat.reduceAdd, Nat.reduceSub, Nat.zero_add, Nat.reduceLT, true_and, and_true, if_true, ite_true, ite_false, Bool.false_eq_true, bne_self_eq_false, Bool.bne_false, Bool.bne_true, Nat.sub_self, Nat.reduceLeDiff, Nat.zero_le, Nat.lt_add_one]
    refine ⟨eR f0, at0 _ _, ?_⟩
    simp only [eR, gSub, gMod, gDiv, gPow, gShl, gShr, gAnd, gOr, gXor, gLt, gLe, gGt, gGe, C0, s_asD1, s_asD2, s_asDs0, s_asDs1, s_nrm1, s_nrm2, s_nrm3, s_nrm4, s_nrm5, s_bo, s_ret1, s_ret2, s_add1, s_add2, s_add3, s_add4, s_gI, s_mul1, s_mul2, s_mul3, s_gB, s_in1, s_in2, s_is1, s_is2, s_is3, s_is4, s_is5, s_is6, s_ix1, s_ix2, s_ix3, s_g1, s_g2, s_len1, s_len2, s_len3, s_tup1, s_tup2, s_lst1, s_lst2, s_abs, s_int1, s_int2, s_stri, s_bools, s_sum, s_sort, s_seq1, s_seq2, s_seq3, s_any, s_any1, s_any2, s_any3, s_rng1, s_rng2, s_rng3, s_rng4, s_enum, s_enum1, s_enum2, s_gN, s_gsN, s_gsC, s_gT, s_var, s_var1, s_var2, s_var3, s_var4, s_meth, s_meth1, s_close, s_close1, s_close2, s_close3, s_six, s_six1, s_six2, s_retO, s_retO1, s_retO2, s_peek1, s_peekT1, s_peeks0, s_peeks1, s_wipe0, s_wipe1, s_lf1, s_lf2, s_app, s_ext, s_rem, s_cnt, s_idx, s_spl, s_ty1, s_ty2, s_dSeq, s_dIfS, s_dTest, s_dBin, s_dC, s_gEq, s_dRet, s_dNext, s_dRetN, s_dSet, s_dCons, s_dNil, s_dCB, s_dCall, s_dLc, s_dYes, s_dTup, s_dLst, s_dFor, s_dChain, s_dAndV, s_dOrV, s_dNotV, s_dAnd, s_dOr, s_dNot, s_dIf, s_dRaise, s_dAsg, s_dDrop, s_dMv, s_dIsi, s_dZip, Shp, shp_int, shp_bool, shp_none, PyData.eqv, List.length_cons, List.length_nil, List.replicate, List.cons_append, List.nil_append, List.getElem?_cons_zero, List.getElem?_cons_succ, List.append_nil, List.set_cons_zero, List.set_cons_succ, List.map_cons, List.map_nil, Nat.reduceAdd, Nat.reduceSub, Nat.zero_add, Nat.reduceLT, true_and, and_true, if_true, ite_true, ite_false, Bool.false_eq_true, bne_self_eq_false, Bool.bne_false, Bool.bne_true, Nat.sub_self, Nat.reduceLeDiff, Nat.zero_le, Nat.lt_add_one]
    refine ⟨eR f1, at1 _ _ _, ?_⟩
    simp only [eR, gSub, gMod, gDiv, gPow, gShl, gShr, gAnd, gOr, gXor, gLt, gLe, gGt, gGe, C0, s_asD1, s_asD2, s_asDs0, s_asDs1, s_nrm1, s_nrm2, s_nrm3, s_nrm4, s_nrm5, s_bo, s_ret1, s_ret2, s_add1, s_add2, s_add3, s_add4, s_gI, s_mul1, s_mul2, s_mul3, s_gB, s_in1, s_in2, s_is1, s_is2, s_is3, s_is4, s_is5, s_is6, s_ix1, s_ix2, s_ix3, s_g1, s_g2, s_len1, s_len2, s_len3, s_tup1, s_tup2, s_lst1, s_lst2, s_abs, s_int1, s_int2, s_stri, s_bools, s_sum, s_sort, s_seq1, s_seq2, s_seq3, s_any, s_any1, s_any2, s_any3, s_rng1, s_rng2, s_rng3, s_rng4, s_enum, s_enum1, s_enum2, s_gN, s_gsN, s_gsC, s_gT, s_var, s_var1, s_var2, s_var3, s_var4, s_meth, s_meth1, s_close, s_close1, s_close2, s_close3, s_six, s_six1, s_six2, s_retO, s_retO1, s_retO2, s_peek1, s_peekT1, s_peeks0, s_peeks1, s_wipe0, s_wipe1, s_lf1, s_lf2, s_app, s_ext, s_rem, s_cnt, s_idx, s_spl, s_ty1, s_ty2, s_dSeq, s_dIfS, s_dTest, s_dBin, s_dC, s_gEq, s_dRet, s_dNext, s_dRetN, s_dSet, s_dCons, s_dNil, s_dCB, s_dCall, s_dLc, s_dYes, s_dTup, s_dLst, s_dFor, s_dChain, s_dAndV, s_dOrV, s_dNotV, s_dAnd, s_dOr, s_dNot, s_dIf, s_dRaise, s_dAsg, s_dDrop, s_dMv, s_dIsi, s_dZip, Shp, shp_int, shp_bool, shp_none, PyData.eqv, List.length_cons, List.length_nil, List.replicate, List.cons_append, List.nil_append, List.getElem?_cons_zero, List.getElem?_cons_succ, List.append_nil, List.set_cons_zero, List.set_cons_succ, List.map_cons, List.map_nil, Nat.reduceAdd, Nat.reduceSub, Nat.zero_add, Nat.reduceLT, true_and, and_true, if_true, ite_true, ite_false, Bool.false_eq_true, bne_self_eq_false, Bool.bne_false, Bool.bne_true, Nat.sub_self, Nat.reduceLeDiff, Nat.zero_le, Nat.lt_add_one]
    refine p_line g (hm _ (by simp)) (hm _ (by simp)) ?_
    exact hq
end DL
set_option maxHeartbeats 8000000
namespace DL
open PySem PySem.Spec PyProof.Rows L2
/-! ### all lines gone through -/
def pts2 : List (List Nat) := [[0, 0, 0, 1], [0, 0, 1, 0], [0, 0, 1, 1], [0, 1, 0, 0], [0, 1, 0, 1], [0, 1, 1, 0], [0, 1, 1, 1], [1, 0, 0, 0], [1, 0, 0, 1], [1, 0, 1, 0], [1, 0, 1, 1], [1, 1, 0, 0], [1, 1, 0, 1], [1, 1, 1, 0], [1, 1, 1, 1]]
def pts3 : List (List Nat) := [[0, 0, 0, 1], [0, 0, 1, 0], [0, 0, 1, 1], [0, 0, 1, 2], [0, 1, 0, 0], [0, 1, 0, 1], [0, 1, 0, 2], [0, 1, 1, 0], [0, 1, 1, 1], [0, 1, 1, 2], [0, 1, 2, 0], [0, 1, 2, 1], [0, 1, 2, 2], [1, 0, 0, 0], [1, 0, 0, 1], [1, 0, 0, 2], [1, 0, 1, 0], [1, 0, 1, 1], [1, 0, 1, 2], [1, 0, 2, 0], [1, 0, 2, 1], [1, 0, 2, 2], [1, 1, 0, 0], [1, 1, 0, 1], [1, 1, 0, 2], [1, 1, 1, 0], [1, 1, 1, 1], [1, 1, 1, 2], [1, 1, 2, 0], [1, 1, 2, 1], [1, 1, 2, 2], [1, 2, 0, 0], [1, 2, 0, 1], [1, 2, 0, 2], [1, 2, 1, 0], [1, 2, 1, 1], [1, 2, 1, 2], [1, 2, 2, 0], [1, 2, 2, 1], [1, 2, 2, 2]]
def pts4 : List (List Nat) := [[0, 0, 0, 1], [0, 0, 1, 0], [0, 0, 1, 1], [0, 0, 1, 2], [0, 0, 1, 3], [0, 1, 0, 0], [0, 1, 0, 1], [0, 1, 0, 2], [0, 1, 0, 3], [0, 1, 1, 0], [0, 1, 1, 1], [0, 1, 1, 2], [0, 1, 1, 3], [0, 1, 2, 0], [0, 1, 2, 1], [0, 1, 2, 2], [0, 1, 2, 3], [0, 1, 3, 0], [0, 1, 3, 1], [0, 1, 3, 2], [0, 1, 3, 3], [1, 0, 0, 0], [1, 0, 0, 1], [1, 0, 0, 2], [1, 0, 0, 3], [1, 0, 1, 0], [1, 0, 1, 1], [1, 0, 1, 2], [1, 0, 1, 3], [1, 0, 2, 0], [1, 0, 2, 1], [1, 0, 2, 2], [1, 0, 2, 3], [1, 0, 3, 0], [1, 0, 3, 1], [1, 0, 3, 2], [1, 0, 3, 3], [1, 1, 0, 0], [1, 1, 0, 1], [1, 1, 0, 2], [1, 1, 0, 3], [1, 1, 1, 0], [1, 1, 1, 1], [1, 1, 1, 2], [1, 1, 1, 3], [1, 1, 2, 0], [1, 1, 2, 1], [1, 1, 2, 2], [1, 1, 2, 3], [1, 1, 3, 0], [1, 1, 3, 1], [1, 1, 3, 2], [1, 1, 3, 3], [1, 2, 0, 0], [1, 2, 0, 1], [1, 2, 0, 2], [1, 2, 0, 3], [1, 2, 1, 0], [1, 2, 1, 1], [1, 2, 1, 2], [1, 2, 1, 3], [1, 2, 2, 0], [1, 2, 2, 1], [1, 2, 2, 2], [1, 2, 2, 3], [1, 2, 3, 0], [1, 2, 3, 1], [1, 2, 3, 2], [1, 2, 3, 3], [1, 3, 0, 0], [1, 3, 0, 1], [1, 3, 0, 2], [1, 3, 0, 3], [1, 3, 1, 0], [1, 3, 1, 1], [1, 3, 1, 2], [1, 3, 1, 3], [1, 3, 2, 0], [1, 3, 2, 1], [1, 3, 2, 2], [1, 3, 2, 3], [1, 3, 3, 0], [1, 3, 3, 1], [1, 3, 3, 2], [1, 3, 3, 3]]
def pts5 : List (List Nat) := [[0, 0, 0, 1], [0, 0, 1, 0], [0, 0, 1, 1], [0, 0, 1, 2], [0, 0, 1, 3], [0, 0, 1, 4], [0, 1, 0, 0], [0, 1, 0, 1], [0, 1, 0, 2], [0, 1, 0, 3], [0, 1, 0, 4], [0, 1, 1, 0], [0, 1, 1, 1], [0, 1, 1, 2], [0, 1, 1, 3], [0, 1, 1, 4], [0, 1, 2, 0], [0, 1, 2, 1], [0, 1, 2, 2], [0, 1, 2, 3], [0, 1, 2, 4], [0, 1, 3, 0], [0, 1, 3, 1], [0, 1, 3, 2], [0, 1, 3, 3], [0, 1, 3, 4], [0, 1, 4, 0], [0, 1, 4, 1], [0, 1, 4, 2], [0, 1, 4, 3], [0, 1, 4, 4], [1, 0, 0, 0], [1, 0, 0, 1], [1, 0, 0, 2], [1, 0, 0, 3], [1, 0, 0, 4], [1, 0, 1, 0], [1, 0, 1, 1], [1, 0, 1, 2], [1, 0, 1, 3], [1, 0, 1, 4], [1, 0, 2, 0], [1, 0, 2, 1], [1, 0, 2, 2], [1, 0, 2, 3], [1, 0, 2, 4], [1, 0, 3, 0], [1, 0, 3, 1], [1, 0, 3, 2], [1, 0, 3, 3], [1, 0, 3, 4], [1, 0, 4, 0], [1, 0, 4, 1], [1, 0, 4, 2], [1, 0, 4, 3], [1, 0, 4, 4], [1, 1, 0, 0], [1, 1, 0, 1], [1, 1, 0, 2], [1, 1, 0, 3], [1, 1, 0, 4], [1, 1, 1, 0], [1, 1, 1, 1], [1, 1, 1, 2], [1, 1, 1, 3], [1, 1, 1, 4], [1, 1, 2, 0], [1, 1, 2, 1], [1, 1, 2, 2], [1, 1, 2, 3], [1, 1, 2, 4], [1, 1, 3, 0], [1, 1, 3, 1], [1, 1, 3, 2], [1, 1, 3, 3], [1, 1, 3, 4], [1, 1, 4, 0], [1, 1, 4, 1], [1, 1, 4, 2], [1, 1, 4, 3], [1, 1, 4, 4], [1, 2, 0, 0], [1, 2, 0, 1], [1, 2, 0, 2], [1, 2, 0, 3], [1, 2, 0, 4], [1, 2, 1, 0], [1, 2, 1, 1], [1, 2, 1, 2], [1, 2, 1, 3], [1, 2, 1, 4], [1, 2, 2, 0], [1, 2, 2, 1], [1, 2, 2, 2], [1, 2, 2, 3], [1, 2, 2, 4], [1, 2, 3, 0], [1, 2, 3, 1], [1, 2, 3, 2], [1, 2, 3, 3], [1, 2, 3, 4], [1, 2, 4, 0], [1, 2, 4, 1], [1, 2, 4, 2], [1, 2, 4, 3], [1, 2, 4, 4], [1, 3, 0, 0], [1, 3, 0, 1], [1, 3, 0, 2], [1, 3, 0, 3], [1, 3, 0, 4], [1, 3, 1, 0], [1, 3, 1, 1], [1, 3, 1, 2], [1, 3, 1, 3], [1, 3, 1, 4], [1, 3, 2, 0], [1, 3, 2, 1], [1, 3, 2, 2], [1, 3, 2, 3], [1, 3, 2, 4], [1, 3, 3, 0], [1, 3, 3, 1], [1, 3, 3, 2], [1, 3, 3, 3], [1, 3, 3, 4], [1, 3, 4, 0], [1, 3, 4, 1], [1, 3, 4, 2], [1, 3, 4, 3], [1, 3, 4, 4], [1, 4, 0, 0], [1, 4, 0, 1], [1, 4, 0, 2], [1, 4, 0, 3], [1, 4, 0, 4], [1, 4, 1, 0], [1, 4, 1, 1], [1, 4, 1, 2], [1, 4, 1, 3], [1, 4, 1, 4], [1, 4, 2, 0], [1, 4, 2, 1], [1, 4, 2, 2], [1, 4, 2, 3], [1, 4, 2, 4], [1, 4, 3, 0], [1, 4, 3, 1], [1, 4, 3, 2], [1, 4, 3, 3], [1, 4, 3, 4], [1, 4, 4, 0], [1, 4, 4, 1], [1, 4, 4, 2], [1, 4, 4, 3], [1, 4, 4, 4]]
def pts (q : Nat) : List (List Nat) := if q = 2 then pts2 else if q = 3 then pts3 else if q = 4 then pts4 else pts5
theorem pts_ok {q : Nat} (g : G q) : allB q = pts q := by
  rcases g with rfl | rfl | rfl | rfl <;> decide +kernel
def chkD (q : Nat) (l : List (List Nat)) : Bool :=
  match (pts q).filter (perpB q l) with
  | f0 :: f1 :: _ => lineB q f0 f1 == some (dualP q l) && (dualP q (dualP q l) == l && (lowB q 4 (dualP q l) == dualP q l && (dualP q l).length == 2))
  | _ => false
def rowL (n : Nat) (f : Nat → Bool) : Bool := (List.range n).all f
theorem rowL_ok {n : Nat} {f : Nat → Bool} (h : rowL n f = true) {x : Nat} (hx : x < n) : f x = true := List.all_eq_true.mp h x (List.mem_range.mpr hx)
def linesAll (q : Nat) (f : List (List Nat) → Bool) : Bool :=
  rowL q (fun x => rowL q fun y => rowL q fun z => rowL q fun w => f [[1, 0, x, y], [0, 1, z, w]]) &&
  (rowL q (fun x => rowL q fun y => rowL q fun z => f [[1, x, 0, y], [0, 0, 1, z]]) &&
  (rowL q (fun x => rowL q fun y => f [[1, x, y, 0], [0, 0, 0, 1]] && f [[0, 1, 0, x], [0, 0, 1, y]]) &&
  (rowL q (fun x => f [[0, 1, x, 0], [0, 0, 0, 1]]) && f [[0, 0, 1, 0], [0, 0, 0, 1]])))
theorem four {r : List Nat} (h : r.length = 4) : r = [r.getD 0 0, r.getD 1 0, r.getD 2 0, r.getD 3 0] := by
  match r, h with
  | [a, b, c, d], _ => rfl
theorem linesAll_ok {q : Nat} {f : List (List Nat) → Bool} {l : List (List Nat)} (h : linesAll q f = true) (hl : IsLn q l) : f l = true := by
  unfold linesAll at h
  simp only [Bool.and_eq_true] at h
  obtain ⟨h1, h2, h3, h4, h5⟩ := h
  obtain ⟨a, b, ra, rb, rfl, red, up⟩ := hl
  obtain ⟨p, lp, ep⟩ := red.ld a (by simp)
  obtain ⟨p', lp', ep'⟩ := red.ld b (by simp)
  have off := (List.pairwise_cons.mp red.off).1 b (by simp)
  have hup := (List.pairwise_cons.mp up).1 b (by simp) p p' lp lp'
  have hz := off.2 p' lp'
  have hp4 : p' < 4 := by rw [← rb.len]; exact lp'.lt
  have ea := four ra.len
  have eb := four rb.len
  have ga : ∀ i < 4, a.getD i 0 < q := fun i hi => getD_lt ra hi
  have gb : ∀ i < 4, b.getD i 0 < q := fun i hi => getD_lt rb hi
  have za := lp.z
  have zb := lp'.z
  rw [ea, eb]
  have cases6 : (p = 0 ∧ p' = 1) ∨ (p = 0 ∧ p' = 2) ∨ (p = 0 ∧ p' = 3) ∨ (p = 1 ∧ p' = 2) ∨ (p = 1 ∧ p' = 3) ∨ (p = 2 ∧ p' = 3) := by omega
  rcases cases6 with ⟨rfl, rfl⟩ | ⟨rfl, rfl⟩ | ⟨rfl, rfl⟩ | ⟨rfl, rfl⟩ | ⟨rfl, rfl⟩ | ⟨rfl, rfl⟩
  · rw [ep, ep', hz, zb 0 (by decide)]
    exact rowL_ok (rowL_ok (rowL_ok (rowL_ok h1 (ga 2 (by decide))) (ga 3 (by decide))) (gb 2 (by decide))) (gb 3 (by decide))
  · rw [ep, ep', hz, zb 0 (by decide), zb 1 (by decide)]
    exact rowL_ok (rowL_ok (rowL_ok h2 (ga 1 (by decide))) (ga 3 (by decide))) (gb 3 (by decide))
  · rw [ep, ep', hz, zb 0 (by decide), zb 1 (by decide), zb 2 (by decide)]
    have := rowL_ok (rowL_ok h3 (ga 1 (by decide))) (ga 2 (by decide))
    rw [Bool.and_eq_true] at this
    exact this.1
  · rw [ep, ep', hz, za 0 (by decide), zb 0 (by decide), zb 1 (by decide)]
    have := rowL_ok (rowL_ok h3 (ga 3 (by decide))) (gb 3 (by decide))
    rw [Bool.and_eq_true] at this
    exact this.2
  · rw [ep, ep', hz, za 0 (by decide), zb 0 (by decide), zb 1 (by decide), zb 2 (by decide)]
    exact rowL_ok h4 (ga 2 (by decide))
  · rw [ep, ep', hz, za 0 (by decide), za 1 (by decide), zb 0 (by decide), zb 1 (by decide), zb 2 (by decide)]
    exact h5
theorem chk2 : linesAll 2 (chkD 2) = true := by decide +kernel
theorem chk3 : linesAll 3 (chkD 3) = true := by decide +kernel
theorem chk4 : linesAll 4 (chkD 4) = true := by decide +kernel
theorem chk5 : linesAll 5 (chkD 5) = true := by decide +kernel
theorem ite_no {c A B : Prop} {i : Decidable c} (h : ¬ c) (q : B) : @ite Prop c i A B := by rw [if_neg h]; exact q
theorem ite_yes {c A B : Prop} {i : Decidable c} (h : c) (q : A) : @ite Prop c i A B := by rw [if_pos h]; exact q
theorem chk_all {q : Nat} (g : G q) : linesAll q (chkD q) = true := by
  rcases g with rfl | rfl | rfl | rfl
  · exact chk2
  · exact chk3
  · exact chk4
  · exact chk5
theorem dualP_rw {q : Nat} {l : List (List Nat)} (g : G q) (h : RwS q 4 l) : RwS q 4 (dualP q l) := (lowA_red g (nullA_rw g (lowA_red g h).rw_)).rw_
/-- what is no q -/
inductive NoQ : D → Prop
  | i0 : NoQ (.int 0)
  | i1 : NoQ (.int 1)
  | i6 : NoQ (.int 6)
  | im : NoQ (.int (-2))
  | t : NoQ (.bool true)
  | n : NoQ .none
  | s : NoQ (.str "3")
  | l : NoQ (.list [.int 2])
  | u : NoQ (.tuple [.int 3])
  | g : NoQ (.int (10 ^ 40))
  | f : NoQ (.bool false)
  | e : NoQ (.str "")
theorem p_nofield {Q : SK} {E : EK} (hq : ∀ d, NoQ d → Q (.sh d)) : F__law_no_field [.bag] Q E := by
  simp only [E__law_no_field, den__law_no_field, dNeg, gSub, gMod, gDiv, gPow, gShl, gShr, gAnd, gOr, gXor, gLt, gLe, gGt, gGe, C0, s_asD1, s_asD2, s_asDs0, s_asDs1, s_nrm1, s_nrm2, s_nrm3, s_nrm4, s_nrm5, s_bo, s_ret1, s_ret2, s_add1, s_add2, s_add3, s_add4, s_gI, s_mul1, s_mul2, s_mul3, s_gB, s_in1, s_in2, s_is1, s_is2, s_is3, s_is4, s_is5, s_is6, s_ix1, s_ix2, s_ix3, s_g1, s_g2, s_len1, s_len2, s_len3, s_tup1, s_tup2, s_lst1, s_lst2, s_abs, s_int1, s_int2, s_stri, s_bools, s_sum, s_sort, s_seq1, s_seq2, s_seq3, s_any, s_any1, s_any2, s_any3, s_rng1, s_rng2, s_rng3, s_rng4, s_enum, s_enum1, s_enum2, s_gN, s_gsN, s_gsC, s_gT, s_var, s_var1, s_var2, s_var3, s_var4, s_meth, s_meth1, s_close, s_close1, s_close2, s_close3, s_six, s_six1, s_six2, s_retO, s_retO1, s_retO2, s_peek1, s_peekT1, s_peeks0, s_peeks1, s_wipe0, s_wipe1, s_lf1, s_lf2, s_app, s_ext, s_rem, s_cnt, s_idx, s_spl, s_ty1, s_ty2, s_dSeq, s_dIfS, s_dTest, s_dBin, s_dC, s_gEq, s_dRet, s_dNext, s_dRetN, s_dSet, s_dCons, s_dNil, s_dCB, s_dCall, s_dLc, s_dYes, s_dTup, s_dLst, s_dFor, s_dChain, s_dAndV, s_dOrV, s_dNotV, s_dAnd, s_dOr, s_dNot, s_dIf, s_dRaise, s_dAsg, s_dDrop, s_dMv, s_dIsi, s_dZip, Shp, shp_int, shp_bool, shp_none, PyData.eqv, List.length_cons, List.length_nil, List.replicate, List.cons_append, List.nil_append, List.getElem?_cons_zero, List.getElem?_cons_succ, List.append_nil, List.set_cons_zero, List.set_cons_succ, List.map_cons, List.map_nil, Nat.reduceAdd, Nat.reduceSub, Nat.zero_add, Nat.reduceLT, true_and, and_true, if_true, ite_true, ite_false, Bool.false_eq_true, bne_self_eq_false, Bool.bne_false, Bool.bne_true, Nat.sub_self, Nat.reduceLeDiff, Nat.zero_le, Nat.lt_add_one]
  refine ⟨⟨by decide, by decide, by decide⟩, ?_⟩
  have z : PyData.int 12 = PyData.int ((12 : Nat) : Int) := rfl
  rw [z]
  refine p_take (by decide) (by decide) fun k hk => ?_
  simp only [gSub, gMod, gDiv, gPow, gShl, gShr, gAnd, gOr, gXor, gLt, gLe, gGt, gGe, C0, s_asD1, s_asD2, s_asDs0, s_asDs1, s_nrm1, s_nrm2, s_nrm3, s_nrm4, s_nrm5, s_bo, s_ret1, s_ret2, s_add1, s_add2, s_add3, s_add4, s_gI, s_mul1, s_mul2, s_mul3, s_gB, s_in1, s_in2, s_is1, s_is2, s_is3, s_is4, s_is5, s_is6, s_ix1, s_ix2, s_ix3, s_g1, s_g2, s_len1, s_len2, s_len3, s_tup1, s_tup2, s_lst1, s_lst2, s_abs, s_int1, s_int2, s_stri, s_bools, s_sum, s_sort, s_seq1, s_seq2, s_seq3, s_any, s_any1, s_any2, s_any3, s_rng1, s_rng2, s_rng3, s_rng4, s_enum, s_enum1, s_enum2, s_gN, s_gsN, s_gsC, s_gT, s_var, s_var1, s_var2, s_var3, s_var4, s_meth, s_meth1, s_close, s_close1, s_close2, s_close3, s_six, s_six1, s_six2, s_retO, s_retO1, s_retO2, s_peek1, s_peekT1, s_peeks0, s_peeks1, s_wipe0, s_wipe1, s_lf1, s_lf2, s_app, s_ext, s_rem, s_cnt, s_idx, s_spl, s_ty1, s_ty2, s_dSeq, s_dIfS, s_dTest, s_dBin, s_dC, s_gEq, s_dRet, s_dNext, s_dRetN, s_dSet, s_dCons, s_dNil, s_dCB, s_dCall, s_dLc, s_dYes, s_dTup, s_dLst, s_dFor, s_dChain, s_dAndV, s_dOrV, s_dNotV, s_dAnd, s_dOr, s_dNot, s_dIf, s_dRaise, s_dAsg, s_dDrop, s_dMv, s_dIsi, s_dZip, Shp, shp_int, shp_bool, shp_none, PyData.eqv, List.length_cons, List.length_nil, List.replicate, List.cons_append, List.nil_append, List.getElem?_cons_zero, List.getElem?_cons_succ, List.append_nil, List.set_cons_zero, List.set_cons_succ, List.map_cons, List.map_nil, Nat.reduceAdd, Nat.reduceSub, Nat.zero_add, Nat.reduceLT, true_and, and_true, if_true, ite_true, ite_false, Bool.false_eq_true, bne_self_eq_false, Bool.bne_false, Bool.bne_true, Nat.sub_self, Nat.reduceLeDiff, Nat.zero_le, Nat.lt_add_one]
  have hk' : k = 0 ∨ k = 1 ∨ k = 2 ∨ k = 3 ∨ k = 4 ∨ k = 5 ∨ k = 6 ∨ k = 7 ∨ k = 8 ∨ k = 9 ∨ k = 10 ∨ k = 11 := by omega
  rcases hk' with rfl | rfl | rfl | rfl | rfl | rfl | rfl | rfl | rfl | rfl | rfl | rfl
  · exact ⟨_, atI_nat rfl, hq _ .i0⟩
  · exact ⟨_, atI_nat rfl, hq _ .i1⟩
  · exact ⟨_, atI_nat rfl, hq _ .i6⟩
  · exact ⟨_, atI_nat rfl, hq _ .im⟩
  · exact ⟨_, atI_nat rfl, hq _ .t⟩
  · exact ⟨_, atI_nat rfl, hq _ .n⟩
  · exact ⟨_, atI_nat rfl, hq _ .s⟩
  · exact ⟨_, atI_nat rfl, hq _ .l⟩
  · exact ⟨_, atI_nat rfl, hq _ .u⟩
  · exact ⟨_, atI_nat rfl, hq _ .g⟩
  · exact ⟨_, atI_nat rfl, hq _ .f⟩
  · exact ⟨_, atI_nat rfl, hq _ .e⟩
theorem k_bi : kitB "bool" "int" = some true := by decide +kernel
theorem k_bb : kitB "bool" "bool" = some true := by decide +kernel
theorem k_ni : kitB "NoneType" "int" = some false := by decide +kernel
theorem k_si : kitB "str" "int" = some false := by decide +kernel
theorem k_li : kitB "list" "int" = some false := by decide +kernel
theorem k_ti : kitB "tuple" "int" = some false := by decide +kernel
theorem k_ii' : kitB "int" "int" = some true := by decide +kernel
theorem k_ib' : kitB "int" "bool" = some false := by decide +kernel
theorem p_look_no {d : D} {Q : SK} {E : EK} (h : NoQ d) (hq : E "NoField") : F_look_field [.sh d] Q E := by
  simp only [E_look_field, den_look_field, gSub, gMod, gDiv, gPow, gShl, gShr, gAnd, gOr, gXor, gLt, gLe, gGt, gGe, C0, s_asD1, s_asD2, s_asDs0, s_asDs1, s_nrm1, s_nrm2, s_nrm3, s_nrm4, s_nrm5, s_bo, s_ret1, s_ret2, s_add1, s_add2, s_add3, s_add4, s_gI, s_mul1, s_mul2, s_mul3, s_gB, s_in1, s_in2, s_is1, s_is2, s_is3, s_is4, s_is5, s_is6, s_ix1, s_ix2, s_ix3, s_g1, s_g2, s_len1, s_len2, s_len3, s_tup1, s_tup2, s_lst1, s_lst2, s_abs, s_int1, s_int2, s_stri, s_bools, s_sum, s_sort, s_seq1, s_seq2, s_seq3, s_any, s_any1, s_any2, s_any3, s_rng1, s_rng2, s_rng3, s_rng4, s_enum, s_enum1, s_enum2, s_gN, s_gsN, s_gsC, s_gT, s_var, s_var1, s_var2, s_var3, s_var4, s_meth, s_meth1, s_close, s_close1, s_close2, s_close3, s_six, s_six1, s_six2, s_retO, s_retO1, s_retO2, s_peek1, s_peekT1, s_peeks0, s_peeks1, s_wipe0, s_wipe1, s_lf1, s_lf2, s_app, s_ext, s_rem, s_cnt, s_idx, s_spl, s_ty1, s_ty2, s_dSeq, s_dIfS, s_dTest, s_dBin, s_dC, s_gEq, s_dRet, s_dNext, s_dRetN, s_dSet, s_dCons, s_dNil, s_dCB, s_dCall, s_dLc, s_dYes, s_dTup, s_dLst, s_dFor, s_dChain, s_dAndV, s_dOrV, s_dNotV, s_dAnd, s_dOr, s_dNot, s_dIf, s_dRaise, s_dAsg, s_dDrop, s_dMv, s_dIsi, s_dZip, Shp, shp_int, shp_bool, shp_none, PyData.eqv, List.length_cons, List.length_nil, List.replicate, List.cons_append, List.nil_append, List.getElem?_cons_zero, List.getElem?_cons_succ, List.append_nil, List.set_cons_zero, List.set_cons_succ, List.map_cons, List.map_nil, Nat.reduceAdd, Nat.reduceSub, Nat.zero_add, Nat.reduceLT, true_and, and_true, if_true, ite_true, ite_false, Bool.false_eq_true, bne_self_eq_false, Bool.bne_false, Bool.bne_true, Nat.sub_self, Nat.reduceLeDiff, Nat.zero_le, Nat.lt_add_one]
  simp only [E_is_whole, den_is_whole, gSub, gMod, gDiv, gPow, gShl, gShr, gAnd, gOr, gXor, gLt, gLe, gGt, gGe, C0, s_asD1, s_asD2, s_asDs0, s_asDs1, s_nrm1, s_nrm2, s_nrm3, s_nrm4, s_nrm5, s_bo, s_ret1, s_ret2, s_add1, s_add2, s_add3, s_add4, s_gI, s_mul1, s_mul2, s_mul3, s_gB, s_in1, s_in2, s_is1, s_is2, s_is3, s_is4, s_is5, s_is6, s_ix1, s_ix2, s_ix3, s_g1, s_g2, s_len1, s_len2, s_len3, s_tup1, s_tup2, s_lst1, s_lst2, s_abs, s_int1, s_int2, s_stri, s_bools, s_sum, s_sort, s_seq1, s_seq2, s_seq3, s_any, s_any1, s_any2, s_any3, s_rng1, s_rng2, s_rng3, s_rng4, s_enum, s_enum1, s_enum2, s_gN, s_gsN, s_gsC, s_gT, s_var, s_var1, s_var2, s_var3, s_var4, s_meth, s_meth1, s_close, s_close1, s_close2, s_close3, s_six, s_six1, s_six2, s_retO, s_retO1, s_retO2, s_peek1, s_peekT1, s_peeks0, s_peeks1, s_wipe0, s_wipe1, s_lf1, s_lf2, s_app, s_ext, s_rem, s_cnt, s_idx, s_spl, s_ty1, s_ty2, s_dSeq, s_dIfS, s_dTest, s_dBin, s_dC, s_gEq, s_dRet, s_dNext, s_dRetN, s_dSet, s_dCons, s_dNil, s_dCB, s_dCall, s_dLc, s_dYes, s_dTup, s_dLst, s_dFor, s_dChain, s_dAndV, s_dOrV, s_dNotV, s_dAnd, s_dOr, s_dNot, s_dIf, s_dRaise, s_dAsg, s_dDrop, s_dMv, s_dIsi, s_dZip, Shp, shp_int, shp_bool, shp_none, PyData.eqv, List.length_cons, List.length_nil, List.replicate, List.cons_append, List.nil_append, List.getElem?_cons_zero, List.getElem?_cons_succ, List.append_nil, List.set_cons_zero, List.set_cons_succ, List.map_cons, List.map_nil, Nat.reduceAdd, Nat.reduceSub, Nat.zero_add, Nat.reduceLT, true_and, and_true, if_true, ite_true, ite_false, Bool.false_eq_true, bne_self_eq_false, Bool.bne_false, Bool.bne_true, Nat.sub_self, Nat.reduceLeDiff, Nat.zero_le, Nat.lt_add_one]
  cases h
  all_goals simp only [tyOf, k_bi, k_bb, k_ni, k_si, k_li, k_ti, k_ii', k_ib', Option.some.injEq, exists_eq_left', Bool.not_true, Bool.not_false, gSub, gMod, gDiv, gPow, gShl, gShr, gAnd, gOr, gXor, gLt, gLe, gGt, gGe, C0, s_asD1, s_asD2, s_asDs0, s_asDs1, s_nrm1, s_nrm2, s_nrm3, s_nrm4, s_nrm5, s_bo, s_ret1, s_ret2, s_add1, s_add2, s_add3, s_add4, s_gI, s_mul1, s_mul2, s_mul3, s_gB, s_in1, s_in2, s_is1, s_is2, s_is3, s_is4, s_is5, s_is6, s_ix1, s_ix2, s_ix3, s_g1, s_g2, s_len1, s_len2, s_len3, s_tup1, s_tup2, s_lst1, s_lst2, s_abs, s_int1, s_int2, s_stri, s_bools, s_sum, s_sort, s_seq1, s_seq2, s_seq3, s_any, s_any1, s_any2, s_any3, s_rng1, s_rng2, s_rng3, s_rng4, s_enum, s_enum1, s_enum2, s_gN, s_gsN, s_gsC, s_gT, s_var, s_var1, s_var2, s_var3, s_var4, s_meth, s_meth1, s_close, s_close1, s_close2, s_close3, s_six, s_six1, s_six2, s_retO, s_retO1, s_retO2, s_peek1, s_peekT1, s_peeks0, s_peeks1, s_wipe0, s_wipe1, s_lf1, s_lf2, s_app, s_ext, s_rem, s_cnt, s_idx, s_spl, s_ty1, s_ty2, s_dSeq, s_dIfS, s_dTest, s_dBin, s_dC, s_gEq, s_dRet, s_dNext, s_dRetN, s_dSet, s_dCons, s_dNil, s_dCB, s_dCall, s_dLc, s_dYes, s_dTup, s_dLst, s_dFor, s_dChain, s_dAndV, s_dOrV, s_dNotV, s_dAnd, s_dOr, s_dNot, s_dIf, s_dRaise, s_dAsg, s_dDrop, s_dMv, s_dIsi, s_dZip, Shp, shp_int, shp_bool, shp_none, PyData.eqv, List.length_cons, List.length_nil, List.replicate, List.cons_append, List.nil_append, List.getElem?_cons_zero, List.getElem?_cons_succ, List.append_nil, List.set_cons_zero, List.set_cons_succ, List.map_cons, List.map_nil, Nat.reduceAdd, Nat.reduceSub, Nat.zero_add, Nat.reduceLT, true_and, and_true, if_true, ite_true, ite_false, Bool.false_eq_true, bne_self_eq_false, Bool.bne_false, Bool.bne_true, Nat.sub_self, Nat.reduceLeDiff, Nat.zero_le, Nat.lt_add_one]
  all_goals first | exact hq | (refine ⟨rfl, rfl, ?_⟩; rw [if_pos (by simp [PyData.eqv])]; exact hq)
theorem law_core {Q : SK} {E : EK} (ns : List Int) (hns : ns.length ≤ 63) (hq : Q (.sh (.bool true))) : F_law [.scr ns] Q E := by
  try simp only [E_law, den_law, dScLen, gSub, gMod, gDiv, gPow, gShl, gShr, gAnd, gOr, gXor, gLt, gLe, gGt, gGe, C0, s_asD1, s_asD2, s_asDs0, s_asDs1, s_nrm1, s_nrm2, s_nrm3, s_nrm4, s_nrm5, s_bo, s_ret1, s_ret2, s_add1, s_add2, s_add3, s_add4, s_gI, s_mul1, s_mul2, s_mul3, s_gB, s_in1, s_in2, s_is1, s_is2, s_is3, s_is4, s_is5, s_is6, s_ix1, s_ix2, s_ix3, s_g1, s_g2, s_len1, s_len2, s_len3, s_tup1, s_tup2, s_lst1, s_lst2, s_abs, s_int1, s_int2, s_stri, s_bools, s_sum, s_sort, s_seq1, s_seq2, s_seq3, s_any, s_any1, s_any2, s_any3, s_rng1, s_rng2, s_rng3, s_rng4, s_enum, s_enum1, s_enum2, s_gN, s_gsN, s_gsC, s_gT, s_var, s_var1, s_var2, s_var3, s_var4, s_meth, s_meth1, s_close, s_close1, s_close2, s_close3, s_six, s_six1, s_six2, s_retO, s_retO1, s_retO2, s_peek1, s_peekT1, s_peeks0, s_peeks1, s_wipe0, s_wipe1, s_lf1, s_lf2, s_app, s_ext, s_rem, s_cnt, s_idx, s_spl, s_ty1, s_ty2, s_dSeq, s_dIfS, s_dTest, s_dBin, s_dC, s_gEq, s_dRet, s_dNext, s_dRetN, s_dSet, s_dCons, s_dNil, s_dCB, s_dCall, s_dLc, s_dYes, s_dTup, s_dLst, s_dFor, s_dChain, s_dAndV, s_dOrV, s_dNotV, s_dAnd, s_dOr, s_dNot, s_dIf, s_dRaise, s_dAsg, s_dDrop, s_dMv, s_dIsi, s_dZip, Shp, shp_int, shp_bool, shp_none, PyData.eqv, List.length_cons, List.length_nil, List.replicate, List.cons_append, List.nil_append, List.getElem?_cons_zero, List.getElem?_cons_succ, List.append_nil, List.set_cons_zero, List.set_cons_succ, List.map_cons, List.map_nil, Nat.reduceAdd, Nat.reduceSub, Nat.zero_add, Nat.reduceLT, true_and, and_true, if_true, ite_true, ite_false, Bool.false_eq_true, bne_self_eq_false, Bool.bne_false, Bool.bne_true, Nat.sub_self, Nat.reduceLeDiff, Nat.zero_le, Nat.lt_add_one]
  refine ⟨ns, rfl, ?_⟩
  try simp only [gSub, gMod, gDiv, gPow, gShl, gShr, gAnd, gOr, gXor, gLt, gLe, gGt, gGe, C0, s_asD1, s_asD2, s_asDs0, s_asDs1, s_nrm1, s_nrm2, s_nrm3, s_nrm4, s_nrm5, s_bo, s_ret1, s_ret2, s_add1, s_add2, s_add3, s_add4, s_gI, s_mul1, s_mul2, s_mul3, s_gB, s_in1, s_in2, s_is1, s_is2, s_is3, s_is4, s_is5, s_is6, s_ix1, s_ix2, s_ix3, s_g1, s_g2, s_len1, s_len2, s_len3, s_tup1, s_tup2, s_lst1, s_lst2, s_abs, s_int1, s_int2, s_stri, s_bools, s_sum, s_sort, s_seq1, s_seq2, s_seq3, s_any, s_any1, s_any2, s_any3, s_rng1, s_rng2, s_rng3, s_rng4, s_enum, s_enum1, s_enum2, s_gN, s_gsN, s_gsC, s_gT, s_var, s_var1, s_var2, s_var3, s_var4, s_meth, s_meth1, s_close, s_close1, s_close2, s_close3, s_six, s_six1, s_six2, s_retO, s_retO1, s_retO2, s_peek1, s_peekT1, s_peeks0, s_peeks1, s_wipe0, s_wipe1, s_lf1, s_lf2, s_app, s_ext, s_rem, s_cnt, s_idx, s_spl, s_ty1, s_ty2, s_dSeq, s_dIfS, s_dTest, s_dBin, s_dC, s_gEq, s_dRet, s_dNext, s_dRetN, s_dSet, s_dCons, s_dNil, s_dCB, s_dCall, s_dLc, s_dYes, s_dTup, s_dLst, s_dFor, s_dChain, s_dAndV, s_dOrV, s_dNotV, s_dAnd, s_dOr, s_dNot, s_dIf, s_dRaise, s_dAsg, s_dDrop, s_dMv, s_dIsi, s_dZip, Shp, shp_int, shp_bool, shp_none, PyData.eqv, List.length_cons, List.length_nil, List.replicate, List.cons_append, List.nil_append, List.getElem?_cons_zero, List.getElem?_cons_succ, List.append_nil, List.set_cons_zero, List.set_cons_succ, List.map_cons, List.map_nil, Nat.reduceAdd, Nat.reduceSub, Nat.zero_add, Nat.reduceLT, true_and, and_true, if_true, ite_true, ite_false, Bool.false_eq_true, bne_self_eq_false, Bool.bne_false, Bool.bne_true, Nat.sub_self, Nat.reduceLeDiff, Nat.zero_le, Nat.lt_add_one]
  obtain ⟨m, hm, em⟩ : ∃ m : Nat, m ≤ 4 ∧ (if (if (ns.length : Int) < 4 then (ns.length : Int) else 4) > 3 then (if (ns.length : Int) < 4 then (ns.length : Int) else 4) else 3) = (m : Int) := by
    by_cases h4 : (ns.length : Int) < 4
    · rw [if_pos h4]
      by_cases h3 : (ns.length : Int) > 3
      · rw [if_pos h3]; exact ⟨ns.length, by omega, rfl⟩
      · rw [if_neg h3]; exact ⟨3, by omega, rfl⟩
    · rw [if_neg h4, if_pos (by decide)]; exact ⟨4, by omega, rfl⟩
  rw [em]
  refine ⟨by omega, ?_⟩
  rw [Int.toNat_natCast]
  unfold rngs
  refine for_iv (fun i : Nat => PyData.int (0 + (i : Int))) (fun Γ => ∃ a1 a2 a3 a4 a5 a6 a7, Γ = [.scr ns, a1, a2, a3, a4, a5, a6, a7]) (List.range m) _ (fun at_ Γ hx hP N hN => ?_) ⟨_, _, _, _, _, _, _, rfl⟩ fun Γ' hP => ?_
  · obtain ⟨a1, a2, a3, a4, a5, a6, a7, rfl⟩ := hP
    have hat := List.mem_range.mp hx
    try simp only [Int.zero_add, gSub, gMod, gDiv, gPow, gShl, gShr, gAnd, gOr, gXor, gLt, gLe, gGt, gGe, C0, s_asD1, s_asD2, s_asDs0, s_asDs1, s_nrm1, s_nrm2, s_nrm3, s_nrm4, s_nrm5, s_bo, s_ret1, s_ret2, s_add1, s_add2, s_add3, s_add4, s_gI, s_mul1, s_mul2, s_mul3, s_gB, s_in1, s_in2, s_is1, s_is2, s_is3, s_is4, s_is5, s_is6, s_ix1, s_ix2, s_ix3, s_g1, s_g2, s_len1, s_len2, s_len3, s_tup1, s_tup2, s_lst1, s_lst2, s_abs, s_int1, s_int2, s_stri, s_bools, s_sum, s_sort, s_seq1, s_seq2, s_seq3, s_any, s_any1, s_any2, s_any3, s_rng1, s_rng2, s_rng3, s_rng4, s_enum, s_enum1, s_enum2, s_gN, s_gsN, s_gsC, s_gT, s_var, s_var1, s_var2, s_var3, s_var4, s_meth, s_meth1, s_close, s_close1, s_close2, s_close3, s_six, s_six1, s_six2, s_retO, s_retO1, s_retO2, s_peek1, s_peekT1, s_peeks0, s_peeks1, s_wipe0, s_wipe1, s_lf1, s_lf2, s_app, s_ext, s_rem, s_cnt, s_idx, s_spl, s_ty1, s_ty2, s_dSeq, s_dIfS, s_dTest, s_dBin, s_dC, s_gEq, s_dRet, s_dNext, s_dRetN, s_dSet, s_dCons, s_dNil, s_dCB, s_dCall, s_dLc, s_dYes, s_dTup, s_dLst, s_dFor, s_dChain, s_dAndV, s_dOrV, s_dNotV, s_dAnd, s_dOr, s_dNot, s_dIf, s_dRaise, s_dAsg, s_dDrop, s_dMv, s_dIsi, s_dZip, Shp, shp_int, shp_bool, shp_none, PyData.eqv, List.length_cons, List.length_nil, List.replicate, List.cons_append, List.nil_append, List.getElem?_cons_zero, List.getElem?_cons_succ, List.append_nil, List.set_cons_zero, List.set_cons_succ, List.map_cons, List.map_nil, Nat.reduceAdd, Nat.reduceSub, Nat.zero_add, Nat.reduceLT, true_and, and_true, if_true, ite_true, ite_false, Bool.false_eq_true, bne_self_eq_false, Bool.bne_false, Bool.bne_true, Nat.sub_self, Nat.reduceLeDiff, Nat.zero_le, Nat.lt_add_one]
    refine p_bag (by omega) fun gg ss => ?_
    try simp only [gSub, gMod, gDiv, gPow, gShl, gShr, gAnd, gOr, gXor, gLt, gLe, gGt, gGe, C0, s_asD1, s_asD2, s_asDs0, s_asDs1, s_nrm1, s_nrm2, s_nrm3, s_nrm4, s_nrm5, s_bo, s_ret1, s_ret2, s_add1, s_add2, s_add3, s_add4, s_gI, s_mul1, s_mul2, s_mul3, s_gB, s_in1, s_in2, s_is1, s_is2, s_is3, s_is4, s_is5, s_is6, s_ix1, s_ix2, s_ix3, s_g1, s_g2, s_len1, s_len2, s_len3, s_tup1, s_tup2, s_lst1, s_lst2, s_abs, s_int1, s_int2, s_stri, s_bools, s_sum, s_sort, s_seq1, s_seq2, s_seq3, s_any, s_any1, s_any2, s_any3, s_rng1, s_rng2, s_rng3, s_rng4, s_enum, s_enum1, s_enum2, s_gN, s_gsN, s_gsC, s_gT, s_var, s_var1, s_var2, s_var3, s_var4, s_meth, s_meth1, s_close, s_close1, s_close2, s_close3, s_six, s_six1, s_six2, s_retO, s_retO1, s_retO2, s_peek1, s_peekT1, s_peeks0, s_peeks1, s_wipe0, s_wipe1, s_lf1, s_lf2, s_app, s_ext, s_rem, s_cnt, s_idx, s_spl, s_ty1, s_ty2, s_dSeq, s_dIfS, s_dTest, s_dBin, s_dC, s_gEq, s_dRet, s_dNext, s_dRetN, s_dSet, s_dCons, s_dNil, s_dCB, s_dCall, s_dLc, s_dYes, s_dTup, s_dLst, s_dFor, s_dChain, s_dAndV, s_dOrV, s_dNotV, s_dAnd, s_dOr, s_dNot, s_dIf, s_dRaise, s_dAsg, s_dDrop, s_dMv, s_dIsi, s_dZip, Shp, shp_int, shp_bool, shp_none, PyData.eqv, List.length_cons, List.length_nil, List.replicate, List.cons_append, List.nil_append, List.getElem?_cons_zero, List.getElem?_cons_succ, List.append_nil, List.set_cons_zero, List.set_cons_succ, List.map_cons, List.map_nil, Nat.reduceAdd, Nat.reduceSub, Nat.zero_add, Nat.reduceLT, true_and, and_true, if_true, ite_true, ite_false, Bool.false_eq_true, bne_self_eq_false, Bool.bne_false, Bool.bne_true, Nat.sub_self, Nat.reduceLeDiff, Nat.zero_le, Nat.lt_add_one]
    refine ⟨gg, ss, rfl, ?_⟩
    have z4 : PyData.int 4 = PyData.int ((4 : Nat) : Int) := rfl
    try simp only [gSub, gMod, gDiv, gPow, gShl, gShr, gAnd, gOr, gXor, gLt, gLe, gGt, gGe, C0, s_asD1, s_asD2, s_asDs0, s_asDs1, s_nrm1, s_nrm2, s_nrm3, s_nrm4, s_nrm5, s_bo, s_ret1, s_ret2, s_add1, s_add2, s_add3, s_add4, s_gI, s_mul1, s_mul2, s_mul3, s_gB, s_in1, s_in2, s_is1, s_is2, s_is3, s_is4, s_is5, s_is6, s_ix1, s_ix2, s_ix3, s_g1, s_g2, s_len1, s_len2, s_len3, s_tup1, s_tup2, s_lst1, s_lst2, s_abs, s_int1, s_int2, s_stri, s_bools, s_sum, s_sort, s_seq1, s_seq2, s_seq3, s_any, s_any1, s_any2, s_any3, s_rng1, s_rng2, s_rng3, s_rng4, s_enum, s_enum1, s_enum2, s_gN, s_gsN, s_gsC, s_gT, s_var, s_var1, s_var2, s_var3, s_var4, s_meth, s_meth1, s_close, s_close1, s_close2, s_close3, s_six, s_six1, s_six2, s_retO, s_retO1, s_retO2, s_peek1, s_peekT1, s_peeks0, s_peeks1, s_wipe0, s_wipe1, s_lf1, s_lf2, s_app, s_ext, s_rem, s_cnt, s_idx, s_spl, s_ty1, s_ty2, s_dSeq, s_dIfS, s_dTest, s_dBin, s_dC, s_gEq, s_dRet, s_dNext, s_dRetN, s_dSet, s_dCons, s_dNil, s_dCB, s_dCall, s_dLc, s_dYes, s_dTup, s_dLst, s_dFor, s_dChain, s_dAndV, s_dOrV, s_dNotV, s_dAnd, s_dOr, s_dNot, s_dIf, s_dRaise, s_dAsg, s_dDrop, s_dMv, s_dIsi, s_dZip, Shp, shp_int, shp_bool, shp_none, PyData.eqv, List.length_cons, List.length_nil, List.replicate, List.cons_append, List.nil_append, List.getElem?_cons_zero, List.getElem?_cons_succ, List.append_nil, List.set_cons_zero, List.set_cons_succ, List.map_cons, List.map_nil, Nat.reduceAdd, Nat.reduceSub, Nat.zero_add, Nat.reduceLT, true_and, and_true, if_true, ite_true, ite_false, Bool.false_eq_true, bne_self_eq_false, Bool.bne_false, Bool.bne_true, Nat.sub_self, Nat.reduceLeDiff, Nat.zero_le, Nat.lt_add_one]
    rw [z4]
    refine p_take (by decide) (by decide) fun k hk => ?_
    have ek : (2 : Int) + (k : Int) = ((2 + k : Nat) : Int) := by omega
    try simp only [ek, gSub, gMod, gDiv, gPow, gShl, gShr, gAnd, gOr, gXor, gLt, gLe, gGt, gGe, C0, s_asD1, s_asD2, s_asDs0, s_asDs1, s_nrm1, s_nrm2, s_nrm3, s_nrm4, s_nrm5, s_bo, s_ret1, s_ret2, s_add1, s_add2, s_add3, s_add4, s_gI, s_mul1, s_mul2, s_mul3, s_gB, s_in1, s_in2, s_is1, s_is2, s_is3, s_is4, s_is5, s_is6, s_ix1, s_ix2, s_ix3, s_g1, s_g2, s_len1, s_len2, s_len3, s_tup1, s_tup2, s_lst1, s_lst2, s_abs, s_int1, s_int2, s_stri, s_bools, s_sum, s_sort, s_seq1, s_seq2, s_seq3, s_any, s_any1, s_any2, s_any3, s_rng1, s_rng2, s_rng3, s_rng4, s_enum, s_enum1, s_enum2, s_gN, s_gsN, s_gsC, s_gT, s_var, s_var1, s_var2, s_var3, s_var4, s_meth, s_meth1, s_close, s_close1, s_close2, s_close3, s_six, s_six1, s_six2, s_retO, s_retO1, s_retO2, s_peek1, s_peekT1, s_peeks0, s_peeks1, s_wipe0, s_wipe1, s_lf1, s_lf2, s_app, s_ext, s_rem, s_cnt, s_idx, s_spl, s_ty1, s_ty2, s_dSeq, s_dIfS, s_dTest, s_dBin, s_dC, s_gEq, s_dRet, s_dNext, s_dRetN, s_dSet, s_dCons, s_dNil, s_dCB, s_dCall, s_dLc, s_dYes, s_dTup, s_dLst, s_dFor, s_dChain, s_dAndV, s_dOrV, s_dNotV, s_dAnd, s_dOr, s_dNot, s_dIf, s_dRaise, s_dAsg, s_dDrop, s_dMv, s_dIsi, s_dZip, Shp, shp_int, shp_bool, shp_none, PyData.eqv, List.length_cons, List.length_nil, List.replicate, List.cons_append, List.nil_append, List.getElem?_cons_zero, List.getElem?_cons_succ, List.append_nil, List.set_cons_zero, List.set_cons_succ, List.map_cons, List.map_nil, Nat.reduceAdd, Nat.reduceSub, Nat.zero_add, Nat.reduceLT, true_and, and_true, if_true, ite_true, ite_false, Bool.false_eq_true, bne_self_eq_false, Bool.bne_false, Bool.bne_true, Nat.sub_self, Nat.reduceLeDiff, Nat.zero_le, Nat.lt_add_one]
    have g : G (2 + k) := by unfold G; omega
    generalize 2 + k = q at g
    refine ⟨by decide, ?_⟩
    unfold rngs
    refine for_iv (fun i : Nat => PyData.int (0 + (i : Int))) (fun Γ => ∃ a4 a5 a6 a7, Γ = [.scr ns, .sh (.int at_), .bag, .sh (.int q), a4, a5, a6, a7]) (List.range (4 : Int).toNat) _ (fun tn Γ hx hP N' hN' => ?_) ⟨_, _, _, _, rfl⟩ fun Γ' hP => ?_
    · obtain ⟨a4, a5, a6, a7, rfl⟩ := hP
      try simp only [Int.zero_add, gSub, gMod, gDiv, gPow, gShl, gShr, gAnd, gOr, gXor, gLt, gLe, gGt, gGe, C0, s_asD1, s_asD2, s_asDs0, s_asDs1, s_nrm1, s_nrm2, s_nrm3, s_nrm4, s_nrm5, s_bo, s_ret1, s_ret2, s_add1, s_add2, s_add3, s_add4, s_gI, s_mul1, s_mul2, s_mul3, s_gB, s_in1, s_in2, s_is1, s_is2, s_is3, s_is4, s_is5, s_is6, s_ix1, s_ix2, s_ix3, s_g1, s_g2, s_len1, s_len2, s_len3, s_tup1, s_tup2, s_lst1, s_lst2, s_abs, s_int1, s_int2, s_stri, s_bools, s_sum, s_sort, s_seq1, s_seq2, s_seq3, s_any, s_any1, s_any2, s_any3, s_rng1, s_rng2, s_rng3, s_rng4, s_enum, s_enum1, s_enum2, s_gN, s_gsN, s_gsC, s_gT, s_var, s_var1, s_var2, s_var3, s_var4, s_meth, s_meth1, s_close, s_close1, s_close2, s_close3, s_six, s_six1, s_six2, s_retO, s_retO1, s_retO2, s_peek1, s_peekT1, s_peeks0, s_peeks1, s_wipe0, s_wipe1, s_lf1, s_lf2, s_app, s_ext, s_rem, s_cnt, s_idx, s_spl, s_ty1, s_ty2, s_dSeq, s_dIfS, s_dTest, s_dBin, s_dC, s_gEq, s_dRet, s_dNext, s_dRetN, s_dSet, s_dCons, s_dNil, s_dCB, s_dCall, s_dLc, s_dYes, s_dTup, s_dLst, s_dFor, s_dChain, s_dAndV, s_dOrV, s_dNotV, s_dAnd, s_dOr, s_dNot, s_dIf, s_dRaise, s_dAsg, s_dDrop, s_dMv, s_dIsi, s_dZip, Shp, shp_int, shp_bool, shp_none, PyData.eqv, List.length_cons, List.length_nil, List.replicate, List.cons_append, List.nil_append, List.getElem?_cons_zero, List.getElem?_cons_succ, List.append_nil, List.set_cons_zero, List.set_cons_succ, List.map_cons, List.map_nil, Nat.reduceAdd, Nat.reduceSub, Nat.zero_add, Nat.reduceLT, true_and, and_true, if_true, ite_true, ite_false, Bool.false_eq_true, bne_self_eq_false, Bool.bne_false, Bool.bne_true, Nat.sub_self, Nat.reduceLeDiff, Nat.zero_le, Nat.lt_add_one]
      refine p_drawn g fun l hl => ?_
      have ck := linesAll_ok (chk_all g) hl
      have hw : RwS q 4 l := by obtain ⟨a, b, _, _, rfl, red, _⟩ := hl; exact red.rw_
      have hll : l.length ≤ 1000 := by obtain ⟨a, b, _, _, rfl, red, _⟩ := hl; simp
      try simp only [gSub, gMod, gDiv, gPow, gShl, gShr, gAnd, gOr, gXor, gLt, gLe, gGt, gGe, C0, s_asD1, s_asD2, s_asDs0, s_asDs1, s_nrm1, s_nrm2, s_nrm3, s_nrm4, s_nrm5, s_bo, s_ret1, s_ret2, s_add1, s_add2, s_add3, s_add4, s_gI, s_mul1, s_mul2, s_mul3, s_gB, s_in1, s_in2, s_is1, s_is2, s_is3, s_is4, s_is5, s_is6, s_ix1, s_ix2, s_ix3, s_g1, s_g2, s_len1, s_len2, s_len3, s_tup1, s_tup2, s_lst1, s_lst2, s_abs, s_int1, s_int2, s_stri, s_bools, s_sum, s_sort, s_seq1, s_seq2, s_seq3, s_any, s_any1, s_any2, s_any3, s_rng1, s_rng2, s_rng3, s_rng4, s_enum, s_enum1, s_enum2, s_gN, s_gsN, s_gsC, s_gT, s_var, s_var1, s_var2, s_var3, s_var4, s_meth, s_meth1, s_close, s_close1, s_close2, s_close3, s_six, s_six1, s_six2, s_retO, s_retO1, s_retO2, s_peek1, s_peekT1, s_peeks0, s_peeks1, s_wipe0, s_wipe1, s_lf1, s_lf2, s_app, s_ext, s_rem, s_cnt, s_idx, s_spl, s_ty1, s_ty2, s_dSeq, s_dIfS, s_dTest, s_dBin, s_dC, s_gEq, s_dRet, s_dNext, s_dRetN, s_dSet, s_dCons, s_dNil, s_dCB, s_dCall, s_dLc, s_dYes, s_dTup, s_dLst, s_dFor, s_dChain, s_dAndV, s_dOrV, s_dNotV, s_dAnd, s_dOr, s_dNot, s_dIf, s_dRaise, s_dAsg, s_dDrop, s_dMv, s_dIsi, s_dZip, Shp, shp_int, shp_bool, shp_none, PyData.eqv, List.length_cons, List.length_nil, List.replicate, List.cons_append, List.nil_append, List.getElem?_cons_zero, List.getElem?_cons_succ, List.append_nil, List.set_cons_zero, List.set_cons_succ, List.map_cons, List.map_nil, Nat.reduceAdd, Nat.reduceSub, Nat.zero_add, Nat.reduceLT, true_and, and_true, if_true, ite_true, ite_false, Bool.false_eq_true, bne_self_eq_false, Bool.bne_false, Bool.bne_true, Nat.sub_self, Nat.reduceLeDiff, Nat.zero_le, Nat.lt_add_one]
      unfold chkD at ck
      rw [← pts_ok g] at ck
      split at ck
      case h_2 => cases ck
      rename_i f0 f1 rest hf
      simp only [Bool.and_eq_true, beq_iff_eq] at ck
      obtain ⟨c1, c2, c3, c4⟩ := ck
      refine p_dual g hw hll f0 f1 rest hf ?_
      rw [c1]
      try simp only [eLo, gSub, gMod, gDiv, gPow, gShl, gShr, gAnd, gOr, gXor, gLt, gLe, gGt, gGe, C0, s_asD1, s_asD2, s_asDs0, s_asDs1, s_nrm1, s_nrm2, s_nrm3, s_nrm4, s_nrm5, s_bo, s_ret1, s_ret2, s_add1, s_add2, s_add3, s_add4, s_gI, s_mul1, s_mul2, s_mul3, s_gB, s_in1, s_in2, s_is1, s_is2, s_is3, s_is4, s_is5, s_is6, s_ix1, s_ix2, s_ix3, s_g1, s_g2, s_len1, s_len2, s_len3, s_tup1, s_tup2, s_lst1, s_lst2, s_abs, s_int1, s_int2, s_stri, s_bools, s_sum, s_sort, s_seq1, s_seq2, s_seq3, s_any, s_any1, s_any2, s_any3, s_rng1, s_rng2, s_rng3, s_rng4, s_enum, s_enum1, s_enum2, s_gN, s_gsN, s_gsC, s_gT, s_var, s_var1, s_var2, s_var3, s_var4, s_meth, s_meth1, s_close, s_close1, s_close2, s_close3, s_six, s_six1, s_six2, s_retO, s_retO1, s_retO2, s_peek1, s_peekT1, s_peeks0, s_peeks1, s_wipe0, s_wipe1, s_lf1, s_lf2, s_app, s_ext, s_rem, s_cnt, s_idx, s_spl, s_ty1, s_ty2, s_dSeq, s_dIfS, s_dTest, s_dBin, s_dC, s_gEq, s_dRet, s_dNext, s_dRetN, s_dSet, s_dCons, s_dNil, s_dCB, s_dCall, s_dLc, s_dYes, s_dTup, s_dLst, s_dFor, s_dChain, s_dAndV, s_dOrV, s_dNotV, s_dAnd, s_dOr, s_dNot, s_dIf, s_dRaise, s_dAsg, s_dDrop, s_dMv, s_dIsi, s_dZip, Shp, shp_int, shp_bool, shp_none, PyData.eqv, List.length_cons, List.length_nil, List.replicate, List.cons_append, List.nil_append, List.getElem?_cons_zero, List.getElem?_cons_succ, List.append_nil, List.set_cons_zero, List.set_cons_succ, List.map_cons, List.map_nil, Nat.reduceAdd, Nat.reduceSub, Nat.zero_add, Nat.reduceLT, true_and, and_true, if_true, ite_true, ite_false, Bool.false_eq_true, bne_self_eq_false, Bool.bne_false, Bool.bne_true, Nat.sub_self, Nat.reduceLeDiff, Nat.zero_le, Nat.lt_add_one]
      refine p_said g hw hll ?_
      try simp only [gSub, gMod, gDiv, gPow, gShl, gShr, gAnd, gOr, gXor, gLt, gLe, gGt, gGe, C0, s_asD1, s_asD2, s_asDs0, s_asDs1, s_nrm1, s_nrm2, s_nrm3, s_nrm4, s_nrm5, s_bo, s_ret1, s_ret2, s_add1, s_add2, s_add3, s_add4, s_gI, s_mul1, s_mul2, s_mul3, s_gB, s_in1, s_in2, s_is1, s_is2, s_is3, s_is4, s_is5, s_is6, s_ix1, s_ix2, s_ix3, s_g1, s_g2, s_len1, s_len2, s_len3, s_tup1, s_tup2, s_lst1, s_lst2, s_abs, s_int1, s_int2, s_stri, s_bools, s_sum, s_sort, s_seq1, s_seq2, s_seq3, s_any, s_any1, s_any2, s_any3, s_rng1, s_rng2, s_rng3, s_rng4, s_enum, s_enum1, s_enum2, s_gN, s_gsN, s_gsC, s_gT, s_var, s_var1, s_var2, s_var3, s_var4, s_meth, s_meth1, s_close, s_close1, s_close2, s_close3, s_six, s_six1, s_six2, s_retO, s_retO1, s_retO2, s_peek1, s_peekT1, s_peeks0, s_peeks1, s_wipe0, s_wipe1, s_lf1, s_lf2, s_app, s_ext, s_rem, s_cnt, s_idx, s_spl, s_ty1, s_ty2, s_dSeq, s_dIfS, s_dTest, s_dBin, s_dC, s_gEq, s_dRet, s_dNext, s_dRetN, s_dSet, s_dCons, s_dNil, s_dCB, s_dCall, s_dLc, s_dYes, s_dTup, s_dLst, s_dFor, s_dChain, s_dAndV, s_dOrV, s_dNotV, s_dAnd, s_dOr, s_dNot, s_dIf, s_dRaise, s_dAsg, s_dDrop, s_dMv, s_dIsi, s_dZip, Shp, shp_int, shp_bool, shp_none, PyData.eqv, List.length_cons, List.length_nil, List.replicate, List.cons_append, List.nil_append, List.getElem?_cons_zero, List.getElem?_cons_succ, List.append_nil, List.set_cons_zero, List.set_cons_succ, List.map_cons, List.map_nil, Nat.reduceAdd, Nat.reduceSub, Nat.zero_add, Nat.reduceLT, true_and, and_true, if_true, ite_true, ite_false, Bool.false_eq_true, bne_self_eq_false, Bool.bne_false, Bool.bne_true, Nat.sub_self, Nat.reduceLeDiff, Nat.zero_le, Nat.lt_add_one]
      have hd := dualP_rw g hw
      obtain ⟨a, b, eab⟩ : ∃ a b, dualP q l = [a, b] := by
        match dualP q l, c4 with
        | [a, b], _ => exact ⟨a, b, rfl⟩
      rw [eab] at c3 hd c2 ⊢
      refine p_isline g (hd a (by simp)) (hd b (by simp)) ?_
      rw [c3]
      try simp only [decide_true, Bool.not_true, gSub, gMod, gDiv, gPow, gShl, gShr, gAnd, gOr, gXor, gLt, gLe, gGt, gGe, C0, s_asD1, s_asD2, s_asDs0, s_asDs1, s_nrm1, s_nrm2, s_nrm3, s_nrm4, s_nrm5, s_bo, s_ret1, s_ret2, s_add1, s_add2, s_add3, s_add4, s_gI, s_mul1, s_mul2, s_mul3, s_gB, s_in1, s_in2, s_is1, s_is2, s_is3, s_is4, s_is5, s_is6, s_ix1, s_ix2, s_ix3, s_g1, s_g2, s_len1, s_len2, s_len3, s_tup1, s_tup2, s_lst1, s_lst2, s_abs, s_int1, s_int2, s_stri, s_bools, s_sum, s_sort, s_seq1, s_seq2, s_seq3, s_any, s_any1, s_any2, s_any3, s_rng1, s_rng2, s_rng3, s_rng4, s_enum, s_enum1, s_enum2, s_gN, s_gsN, s_gsC, s_gT, s_var, s_var1, s_var2, s_var3, s_var4, s_meth, s_meth1, s_close, s_close1, s_close2, s_close3, s_six, s_six1, s_six2, s_retO, s_retO1, s_retO2, s_peek1, s_peekT1, s_peeks0, s_peeks1, s_wipe0, s_wipe1, s_lf1, s_lf2, s_app, s_ext, s_rem, s_cnt, s_idx, s_spl, s_ty1, s_ty2, s_dSeq, s_dIfS, s_dTest, s_dBin, s_dC, s_gEq, s_dRet, s_dNext, s_dRetN, s_dSet, s_dCons, s_dNil, s_dCB, s_dCall, s_dLc, s_dYes, s_dTup, s_dLst, s_dFor, s_dChain, s_dAndV, s_dOrV, s_dNotV, s_dAnd, s_dOr, s_dNot, s_dIf, s_dRaise, s_dAsg, s_dDrop, s_dMv, s_dIsi, s_dZip, Shp, shp_int, shp_bool, shp_none, PyData.eqv, List.length_cons, List.length_nil, List.replicate, List.cons_append, List.nil_append, List.getElem?_cons_zero, List.getElem?_cons_succ, List.append_nil, List.set_cons_zero, List.set_cons_succ, List.map_cons, List.map_nil, Nat.reduceAdd, Nat.reduceSub, Nat.zero_add, Nat.reduceLT, true_and, and_true, if_true, ite_true, ite_false, Bool.false_eq_true, bne_self_eq_false, Bool.bne_false, Bool.bne_true, Nat.sub_self, Nat.reduceLeDiff, Nat.zero_le, Nat.lt_add_one]
      refine ⟨shp_rowsT, shp_rowsT, ?_⟩
      have e1 : PyData.eqv (eL [a, b]) (eL [a, b]) = true := (eqv_rowsT _ _).trans (decide_eq_true rfl)
      rw [e1, if_neg (by decide)]
      refine p_said g hd (by simp) ?_
      rw [c2]
      try simp only [gSub, gMod, gDiv, gPow, gShl, gShr, gAnd, gOr, gXor, gLt, gLe, gGt, gGe, C0, s_asD1, s_asD2, s_asDs0, s_asDs1, s_nrm1, s_nrm2, s_nrm3, s_nrm4, s_nrm5, s_bo, s_ret1, s_ret2, s_add1, s_add2, s_add3, s_add4, s_gI, s_mul1, s_mul2, s_mul3, s_gB, s_in1, s_in2, s_is1, s_is2, s_is3, s_is4, s_is5, s_is6, s_ix1, s_ix2, s_ix3, s_g1, s_g2, s_len1, s_len2, s_len3, s_tup1, s_tup2, s_lst1, s_lst2, s_abs, s_int1, s_int2, s_stri, s_bools, s_sum, s_sort, s_seq1, s_seq2, s_seq3, s_any, s_any1, s_any2, s_any3, s_rng1, s_rng2, s_rng3, s_rng4, s_enum, s_enum1, s_enum2, s_gN, s_gsN, s_gsC, s_gT, s_var, s_var1, s_var2, s_var3, s_var4, s_meth, s_meth1, s_close, s_close1, s_close2, s_close3, s_six, s_six1, s_six2, s_retO, s_retO1, s_retO2, s_peek1, s_peekT1, s_peeks0, s_peeks1, s_wipe0, s_wipe1, s_lf1, s_lf2, s_app, s_ext, s_rem, s_cnt, s_idx, s_spl, s_ty1, s_ty2, s_dSeq, s_dIfS, s_dTest, s_dBin, s_dC, s_gEq, s_dRet, s_dNext, s_dRetN, s_dSet, s_dCons, s_dNil, s_dCB, s_dCall, s_dLc, s_dYes, s_dTup, s_dLst, s_dFor, s_dChain, s_dAndV, s_dOrV, s_dNotV, s_dAnd, s_dOr, s_dNot, s_dIf, s_dRaise, s_dAsg, s_dDrop, s_dMv, s_dIsi, s_dZip, Shp, shp_int, shp_bool, shp_none, PyData.eqv, List.length_cons, List.length_nil, List.replicate, List.cons_append, List.nil_append, List.getElem?_cons_zero, List.getElem?_cons_succ, List.append_nil, List.set_cons_zero, List.set_cons_succ, List.map_cons, List.map_nil, Nat.reduceAdd, Nat.reduceSub, Nat.zero_add, Nat.reduceLT, true_and, and_true, if_true, ite_true, ite_false, Bool.false_eq_true, bne_self_eq_false, Bool.bne_false, Bool.bne_true, Nat.sub_self, Nat.reduceLeDiff, Nat.zero_le, Nat.lt_add_one]
      refine ⟨shp_rowsT, shp_rowsT, ?_⟩
      have e2 : PyData.eqv (eL l) (eL l) = true := (eqv_rowsT _ _).trans (decide_eq_true rfl)
      rw [e2, if_neg (by decide)]
      exact hN' _ ⟨_, _, _, _, rfl⟩
    · obtain ⟨a4, a5, a6, a7, rfl⟩ := hP
      try simp only [gSub, gMod, gDiv, gPow, gShl, gShr, gAnd, gOr, gXor, gLt, gLe, gGt, gGe, C0, s_asD1, s_asD2, s_asDs0, s_asDs1, s_nrm1, s_nrm2, s_nrm3, s_nrm4, s_nrm5, s_bo, s_ret1, s_ret2, s_add1, s_add2, s_add3, s_add4, s_gI, s_mul1, s_mul2, s_mul3, s_gB, s_in1, s_in2, s_is1, s_is2, s_is3, s_is4, s_is5, s_is6, s_ix1, s_ix2, s_ix3, s_g1, s_g2, s_len1, s_len2, s_len3, s_tup1, s_tup2, s_lst1, s_lst2, s_abs, s_int1, s_int2, s_stri, s_bools, s_sum, s_sort, s_seq1, s_seq2, s_seq3, s_any, s_any1, s_any2, s_any3, s_rng1, s_rng2, s_rng3, s_rng4, s_enum, s_enum1, s_enum2, s_gN, s_gsN, s_gsC, s_gT, s_var, s_var1, s_var2, s_var3, s_var4, s_meth, s_meth1, s_close, s_close1, s_close2, s_close3, s_six, s_six1, s_six2, s_retO, s_retO1, s_retO2, s_peek1, s_peekT1, s_peeks0, s_peeks1, s_wipe0, s_wipe1, s_lf1, s_lf2, s_app, s_ext, s_rem, s_cnt, s_idx, s_spl, s_ty1, s_ty2, s_dSeq, s_dIfS, s_dTest, s_dBin, s_dC, s_gEq, s_dRet, s_dNext, s_dRetN, s_dSet, s_dCons, s_dNil, s_dCB, s_dCall, s_dLc, s_dYes, s_dTup, s_dLst, s_dFor, s_dChain, s_dAndV, s_dOrV, s_dNotV, s_dAnd, s_dOr, s_dNot, s_dIf, s_dRaise, s_dAsg, s_dDrop, s_dMv, s_dIsi, s_dZip, Shp, shp_int, shp_bool, shp_none, PyData.eqv, List.length_cons, List.length_nil, List.replicate, List.cons_append, List.nil_append, List.getElem?_cons_zero, List.getElem?_cons_succ, List.append_nil, List.set_cons_zero, List.set_cons_succ, List.map_cons, List.map_nil, Nat.reduceAdd, Nat.reduceSub, Nat.zero_add, Nat.reduceLT, true_and, and_true, if_true, ite_true, ite_false, Bool.false_eq_true, bne_self_eq_false, Bool.bne_false, Bool.bne_true, Nat.sub_self, Nat.reduceLeDiff, Nat.zero_le, Nat.lt_add_one]
      refine p_nofield fun d hd => ?_
      try simp only [gSub, gMod, gDiv, gPow, gShl, gShr, gAnd, gOr, gXor, gLt, gLe, gGt, gGe, C0, s_asD1, s_asD2, s_asDs0, s_asDs1, s_nrm1, s_nrm2, s_nrm3, s_nrm4, s_nrm5, s_bo, s_ret1, s_ret2, s_add1, s_add2, s_add3, s_add4, s_gI, s_mul1, s_mul2, s_mul3, s_gB, s_in1, s_in2, s_is1, s_is2, s_is3, s_is4, s_is5, s_is6, s_ix1, s_ix2, s_ix3, s_g1, s_g2, s_len1, s_len2, s_len3, s_tup1, s_tup2, s_lst1, s_lst2, s_abs, s_int1, s_int2, s_stri, s_bools, s_sum, s_sort, s_seq1, s_seq2, s_seq3, s_any, s_any1, s_any2, s_any3, s_rng1, s_rng2, s_rng3, s_rng4, s_enum, s_enum1, s_enum2, s_gN, s_gsN, s_gsC, s_gT, s_var, s_var1, s_var2, s_var3, s_var4, s_meth, s_meth1, s_close, s_close1, s_close2, s_close3, s_six, s_six1, s_six2, s_retO, s_retO1, s_retO2, s_peek1, s_peekT1, s_peeks0, s_peeks1, s_wipe0, s_wipe1, s_lf1, s_lf2, s_app, s_ext, s_rem, s_cnt, s_idx, s_spl, s_ty1, s_ty2, s_dSeq, s_dIfS, s_dTest, s_dBin, s_dC, s_gEq, s_dRet, s_dNext, s_dRetN, s_dSet, s_dCons, s_dNil, s_dCB, s_dCall, s_dLc, s_dYes, s_dTup, s_dLst, s_dFor, s_dChain, s_dAndV, s_dOrV, s_dNotV, s_dAnd, s_dOr, s_dNot, s_dIf, s_dRaise, s_dAsg, s_dDrop, s_dMv, s_dIsi, s_dZip, Shp, shp_int, shp_bool, shp_none, PyData.eqv, List.length_cons, List.length_nil, List.replicate, List.cons_append, List.nil_append, List.getElem?_cons_zero, List.getElem?_cons_succ, List.append_nil, List.set_cons_zero, List.set_cons_succ, List.map_cons, List.map_nil, Nat.reduceAdd, Nat.reduceSub, Nat.zero_add, Nat.reduceLT, true_and, and_true, if_true, ite_true, ite_false, Bool.false_eq_true, bne_self_eq_false, Bool.bne_false, Bool.bne_true, Nat.sub_self, Nat.reduceLeDiff, Nat.zero_le, Nat.lt_add_one]
      refine p_said_no (fun Q E h => p_look_no hd h) ?_
      try simp only [gSub, gMod, gDiv, gPow, gShl, gShr, gAnd, gOr, gXor, gLt, gLe, gGt, gGe, C0, s_asD1, s_asD2, s_asDs0, s_asDs1, s_nrm1, s_nrm2, s_nrm3, s_nrm4, s_nrm5, s_bo, s_ret1, s_ret2, s_add1, s_add2, s_add3, s_add4, s_gI, s_mul1, s_mul2, s_mul3, s_gB, s_in1, s_in2, s_is1, s_is2, s_is3, s_is4, s_is5, s_is6, s_ix1, s_ix2, s_ix3, s_g1, s_g2, s_len1, s_len2, s_len3, s_tup1, s_tup2, s_lst1, s_lst2, s_abs, s_int1, s_int2, s_stri, s_bools, s_sum, s_sort, s_seq1, s_seq2, s_seq3, s_any, s_any1, s_any2, s_any3, s_rng1, s_rng2, s_rng3, s_rng4, s_enum, s_enum1, s_enum2, s_gN, s_gsN, s_gsC, s_gT, s_var, s_var1, s_var2, s_var3, s_var4, s_meth, s_meth1, s_close, s_close1, s_close2, s_close3, s_six, s_six1, s_six2, s_retO, s_retO1, s_retO2, s_peek1, s_peekT1, s_peeks0, s_peeks1, s_wipe0, s_wipe1, s_lf1, s_lf2, s_app, s_ext, s_rem, s_cnt, s_idx, s_spl, s_ty1, s_ty2, s_dSeq, s_dIfS, s_dTest, s_dBin, s_dC, s_gEq, s_dRet, s_dNext, s_dRetN, s_dSet, s_dCons, s_dNil, s_dCB, s_dCall, s_dLc, s_dYes, s_dTup, s_dLst, s_dFor, s_dChain, s_dAndV, s_dOrV, s_dNotV, s_dAnd, s_dOr, s_dNot, s_dIf, s_dRaise, s_dAsg, s_dDrop, s_dMv, s_dIsi, s_dZip, Shp, shp_int, shp_bool, shp_none, PyData.eqv, List.length_cons, List.length_nil, List.replicate, List.cons_append, List.nil_append, List.getElem?_cons_zero, List.getElem?_cons_succ, List.append_nil, List.set_cons_zero, List.set_cons_succ, List.map_cons, List.map_nil, Nat.reduceAdd, Nat.reduceSub, Nat.zero_add, Nat.reduceLT, true_and, and_true, if_true, ite_true, ite_false, Bool.false_eq_true, bne_self_eq_false, Bool.bne_false, Bool.bne_true, Nat.sub_self, Nat.reduceLeDiff, Nat.zero_le, Nat.lt_add_one]
      refine ⟨by decide +kernel, by decide +kernel, ?_⟩
      refine ite_no (by decide +kernel) ?_
      exact hN _ ⟨_, _, _, _, _, _, _, rfl⟩
  · obtain ⟨a1, a2, a3, a4, a5, a6, a7, rfl⟩ := hP
    try simp only [gSub, gMod, gDiv, gPow, gShl, gShr, gAnd, gOr, gXor, gLt, gLe, gGt, gGe, C0, s_asD1, s_asD2, s_asDs0, s_asDs1, s_nrm1, s_nrm2, s_nrm3, s_nrm4, s_nrm5, s_bo, s_ret1, s_ret2, s_add1, s_add2, s_add3, s_add4, s_gI, s_mul1, s_mul2, s_mul3, s_gB, s_in1, s_in2, s_is1, s_is2, s_is3, s_is4, s_is5, s_is6, s_ix1, s_ix2, s_ix3, s_g1, s_g2, s_len1, s_len2, s_len3, s_tup1, s_tup2, s_lst1, s_lst2, s_abs, s_int1, s_int2, s_stri, s_bools, s_sum, s_sort, s_seq1, s_seq2, s_seq3, s_any, s_any1, s_any2, s_any3, s_rng1, s_rng2, s_rng3, s_rng4, s_enum, s_enum1, s_enum2, s_gN, s_gsN, s_gsC, s_gT, s_var, s_var1, s_var2, s_var3, s_var4, s_meth, s_meth1, s_close, s_close1, s_close2, s_close3, s_six, s_six1, s_six2, s_retO, s_retO1, s_retO2, s_peek1, s_peekT1, s_peeks0, s_peeks1, s_wipe0, s_wipe1, s_lf1, s_lf2, s_app, s_ext, s_rem, s_cnt, s_idx, s_spl, s_ty1, s_ty2, s_dSeq, s_dIfS, s_dTest, s_dBin, s_dC, s_gEq, s_dRet, s_dNext, s_dRetN, s_dSet, s_dCons, s_dNil, s_dCB, s_dCall, s_dLc, s_dYes, s_dTup, s_dLst, s_dFor, s_dChain, s_dAndV, s_dOrV, s_dNotV, s_dAnd, s_dOr, s_dNot, s_dIf, s_dRaise, s_dAsg, s_dDrop, s_dMv, s_dIsi, s_dZip, Shp, shp_int, shp_bool, shp_none, PyData.eqv, List.length_cons, List.length_nil, List.replicate, List.cons_append, List.nil_append, List.getElem?_cons_zero, List.getElem?_cons_succ, List.append_nil, List.set_cons_zero, List.set_cons_succ, List.map_cons, List.map_nil, Nat.reduceAdd, Nat.reduceSub, Nat.zero_add, Nat.reduceLT, true_and, and_true, if_true, ite_true, ite_false, Bool.false_eq_true, bne_self_eq_false, Bool.bne_false, Bool.bne_true, Nat.sub_self, Nat.reduceLeDiff, Nat.zero_le, Nat.lt_add_one]
    exact hq
theorem law_pure (ns : List Int) (hns : ns.length ≤ 63) : F_law [.scr ns] (fun s => s = .sh (.bool true)) fun _ => False := law_core ns hns rfl
end DL
set_option maxHeartbeats 4000000
namespace DL
open PySem PySem.Spec PyProof.Rows L2
def top (i : Nat) : Stmt := PySem.Challenge.pw_spreadplanes_k68_dual_lines.main.body.getD i (.Pass ⟨0, 0, 0, 0⟩)
abbrev s_law_bag : Stmt := top 42
abbrev s_law_take : Stmt := top 43
abbrev s_law_times : Stmt := top 46
abbrev s_law_often : Stmt := top 49
abbrev s_law_back : Stmt := top 47
abbrev s_law_plus : Stmt := top 44
abbrev s_law_more : Stmt := top 48
abbrev s_law_minus : Stmt := top 45
abbrev s_law_lowest : Stmt := top 50
abbrev s_law_line : Stmt := top 51
abbrev s_law_drawn_line : Stmt := top 60
abbrev s_law_all_points : Stmt := top 52
abbrev s_law_dual : Stmt := top 58
abbrev sis_whole : Stmt := top 23
abbrev slook_field : Stmt := top 24
abbrev sproduct_known : Stmt := top 26
abbrev srow_times : Stmt := top 30
abbrev sback_known : Stmt := top 27
abbrev slead_of : Stmt := top 32
abbrev sscaled : Stmt := top 33
abbrev sdifference_known : Stmt := top 25
abbrev srow_less : Stmt := top 31
abbrev swith_one : Stmt := top 34
abbrev slowest_known : Stmt := top 35
abbrev snull_rows : Stmt := top 37
abbrev srows_across : Stmt := top 39
abbrev sdual_line : Stmt := top 40
abbrev s_law_which : Stmt := top 56
abbrev s_law_said : Stmt := top 59
abbrev s_law_no_field : Stmt := top 57
abbrev s_law_whole : Stmt := top 53
abbrev s_law_is_row : Stmt := top 54
abbrev s_law_is_line : Stmt := top 55
abbrev slaw : Stmt := top 61
/-- what the row tells, by names -/
structure Ft (K : PySem.W.Frag) (mg : Str → Option Value) : Prop where
  d__law_bag : ∃ fd, FunD K "_law_bag" "_law_bag" (defArgs s_law_bag) (defBody s_law_bag) (defScope s_law_bag) [] [] (He.ga K "_law_bag") fd
  g__law_bag : mg "_law_bag" = some (.ref (He.ga K "_law_bag"))
  d__law_take : ∃ fd, FunD K "_law_take" "_law_take" (defArgs s_law_take) (defBody s_law_take) (defScope s_law_take) [] [] (He.ga K "_law_take") fd
  g__law_take : mg "_law_take" = some (.ref (He.ga K "_law_take"))
  d__law_times : ∃ fd, FunD K "_law_times" "_law_times" (defArgs s_law_times) (defBody s_law_times) (defScope s_law_times) [] [] (He.ga K "_law_times") fd
  g__law_times : mg "_law_times" = some (.ref (He.ga K "_law_times"))
  d__law_often : ∃ fd, FunD K "_law_often" "_law_often" (defArgs s_law_often) (defBody s_law_often) (defScope s_law_often) [] [] (He.ga K "_law_often") fd
  g__law_often : mg "_law_often" = some (.ref (He.ga K "_law_often"))
  d__law_back : ∃ fd, FunD K "_law_back" "_law_back" (defArgs s_law_back) (defBody s_law_back) (defScope s_law_back) [] [] (He.ga K "_law_back") fd
  g__law_back : mg "_law_back" = some (.ref (He.ga K "_law_back"))
  d__law_plus : ∃ fd, FunD K "_law_plus" "_law_plus" (defArgs s_law_plus) (defBody s_law_plus) (defScope s_law_plus) [] [] (He.ga K "_law_plus") fd
  g__law_plus : mg "_law_plus" = some (.ref (He.ga K "_law_plus"))
  d__law_more : ∃ fd, FunD K "_law_more" "_law_more" (defArgs s_law_more) (defBody s_law_more) (defScope s_law_more) [] [] (He.ga K "_law_more") fd
  g__law_more : mg "_law_more" = some (.ref (He.ga K "_law_more"))
  d__law_minus : ∃ fd, FunD K "_law_minus" "_law_minus" (defArgs s_law_minus) (defBody s_law_minus) (defScope s_law_minus) [] [] (He.ga K "_law_minus") fd
  g__law_minus : mg "_law_minus" = some (.ref (He.ga K "_law_minus"))
  d__law_lowest : ∃ fd, FunD K "_law_lowest" "_law_lowest" (defArgs s_law_lowest) (defBody s_law_lowest) (defScope s_law_lowest) [] [] (He.ga K "_law_lowest") fd
  g__law_lowest : mg "_law_lowest" = some (.ref (He.ga K "_law_lowest"))
  d__law_line : ∃ fd, FunD K "_law_line" "_law_line" (defArgs s_law_line) (defBody s_law_line) (defScope s_law_line) [] [] (He.ga K "_law_line") fd
  g__law_line : mg "_law_line" = some (.ref (He.ga K "_law_line"))
  d__law_drawn_line : ∃ fd, FunD K "_law_drawn_line" "_law_drawn_line" (defArgs s_law_drawn_line) (defBody s_law_drawn_line) (defScope s_law_drawn_line) [] [] (He.ga K "_law_drawn_line") fd
  g__law_drawn_line : mg "_law_drawn_line" = some (.ref (He.ga K "_law_drawn_line"))
  d__law_all_points : ∃ fd, FunD K "_law_all_points" "_law_all_points" (defArgs s_law_all_points) (defBody s_law_all_points) (defScope s_law_all_points) [] [] (He.ga K "_law_all_points") fd
  g__law_all_points : mg "_law_all_points" = some (.ref (He.ga K "_law_all_points"))
  d__law_dual : ∃ fd, FunD K "_law_dual" "_law_dual" (defArgs s_law_dual) (defBody s_law_dual) (defScope s_law_dual) [] [] (He.ga K "_law_dual") fd
  g__law_dual : mg "_law_dual" = some (.ref (He.ga K "_law_dual"))
  d_is_whole : ∃ fd, FunD K "is_whole" "is_whole" (defArgs sis_whole) (defBody sis_whole) (defScope sis_whole) [] [] (He.ga K "is_whole") fd
  g_is_whole : mg "is_whole" = some (.ref (He.ga K "is_whole"))
  d_look_field : ∃ fd, FunD K "look_field" "look_field" (defArgs slook_field) (defBody slook_field) (defScope slook_field) [] [] (He.ga K "look_field") fd
  g_look_field : mg "look_field" = some (.ref (He.ga K "look_field"))
  d_product_known : ∃ fd, FunD K "product_known" "product_known" (defArgs sproduct_known) (defBody sproduct_known) (defScope sproduct_known) [] [] (He.ga K "product_known") fd
  g_product_known : mg "product_known" = some (.ref (He.ga K "product_known"))
  d_row_times : ∃ fd, FunD K "row_times" "row_times" (defArgs srow_times) (defBody srow_times) (defScope srow_times) [] [] (He.ga K "row_times") fd
  g_row_times : mg "row_times" = some (.ref (He.ga K "row_times"))
  d_back_known : ∃ fd, FunD K "back_known" "back_known" (defArgs sback_known) (defBody sback_known) (defScope sback_known) [] [] (He.ga K "back_known") fd
  g_back_known : mg "back_known" = some (.ref (He.ga K "back_known"))
  d_lead_of : ∃ fd, FunD K "lead_of" "lead_of" (defArgs slead_of) (defBody slead_of) (defScope slead_of) [] [] (He.ga K "lead_of") fd
  g_lead_of : mg "lead_of" = some (.ref (He.ga K "lead_of"))
  d_scaled : ∃ fd, FunD K "scaled" "scaled" (defArgs sscaled) (defBody sscaled) (defScope sscaled) [] [] (He.ga K "scaled") fd
  g_scaled : mg "scaled" = some (.ref (He.ga K "scaled"))
  d_difference_known : ∃ fd, FunD K "difference_known" "difference_known" (defArgs sdifference_known) (defBody sdifference_known) (defScope sdifference_known) [] [] (He.ga K "difference_known") fd
  g_difference_known : mg "difference_known" = some (.ref (He.ga K "difference_known"))
  d_row_less : ∃ fd, FunD K "row_less" "row_less" (defArgs srow_less) (defBody srow_less) (defScope srow_less) [] [] (He.ga K "row_less") fd
  g_row_less : mg "row_less" = some (.ref (He.ga K "row_less"))
  d_with_one : ∃ fd, FunD K "with_one" "with_one" (defArgs swith_one) (defBody swith_one) (defScope swith_one) [] [] (He.ga K "with_one") fd
  g_with_one : mg "with_one" = some (.ref (He.ga K "with_one"))
  d_lowest_known : ∃ fd, FunD K "lowest_known" "lowest_known" (defArgs slowest_known) (defBody slowest_known) (defScope slowest_known) [] [] (He.ga K "lowest_known") fd
  g_lowest_known : mg "lowest_known" = some (.ref (He.ga K "lowest_known"))
  d_null_rows : ∃ fd, FunD K "null_rows" "null_rows" (defArgs snull_rows) (defBody snull_rows) (defScope snull_rows) [] [] (He.ga K "null_rows") fd
  g_null_rows : mg "null_rows" = some (.ref (He.ga K "null_rows"))
  d_rows_across : ∃ fd, FunD K "rows_across" "rows_across" (defArgs srows_across) (defBody srows_across) (defScope srows_across) [] [] (He.ga K "rows_across") fd
  g_rows_across : mg "rows_across" = some (.ref (He.ga K "rows_across"))
  d_dual_line : ∃ fd, FunD K "dual_line" "dual_line" (defArgs sdual_line) (defBody sdual_line) (defScope sdual_line) [] [] (He.ga K "dual_line") fd
  g_dual_line : mg "dual_line" = some (.ref (He.ga K "dual_line"))
  d__law_which : ∃ fd, FunD K "_law_which" "_law_which" (defArgs s_law_which) (defBody s_law_which) (defScope s_law_which) [] [] (He.ga K "_law_which") fd
  g__law_which : mg "_law_which" = some (.ref (He.ga K "_law_which"))
  d__law_said : ∃ fd, FunD K "_law_said" "_law_said" (defArgs s_law_said) (defBody s_law_said) (defScope s_law_said) [] [] (He.ga K "_law_said") fd
  g__law_said : mg "_law_said" = some (.ref (He.ga K "_law_said"))
  d__law_no_field : ∃ fd, FunD K "_law_no_field" "_law_no_field" (defArgs s_law_no_field) (defBody s_law_no_field) (defScope s_law_no_field) [] [] (He.ga K "_law_no_field") fd
  g__law_no_field : mg "_law_no_field" = some (.ref (He.ga K "_law_no_field"))
  d__law_whole : ∃ fd, FunD K "_law_whole" "_law_whole" (defArgs s_law_whole) (defBody s_law_whole) (defScope s_law_whole) [] [] (He.ga K "_law_whole") fd
  g__law_whole : mg "_law_whole" = some (.ref (He.ga K "_law_whole"))
  d__law_is_row : ∃ fd, FunD K "_law_is_row" "_law_is_row" (defArgs s_law_is_row) (defBody s_law_is_row) (defScope s_law_is_row) [] [] (He.ga K "_law_is_row") fd
  g__law_is_row : mg "_law_is_row" = some (.ref (He.ga K "_law_is_row"))
  d__law_is_line : ∃ fd, FunD K "_law_is_line" "_law_is_line" (defArgs s_law_is_line) (defBody s_law_is_line) (defScope s_law_is_line) [] [] (He.ga K "_law_is_line") fd
  g__law_is_line : mg "_law_is_line" = some (.ref (He.ga K "_law_is_line"))
  d_law : ∃ fd, FunD K "law" "law" (defArgs slaw) (defBody slaw) (defScope slaw) [] [] (He.ga K "law") fd
  g_law : mg "law" = some (.ref (He.ga K "law"))
  m_ValueError : mg "ValueError" = none
  m_abs : mg "abs" = none
  m_all : mg "all" = none
  m_bool : mg "bool" = none
  m_enumerate : mg "enumerate" = none
  m_int : mg "int" = none
  m_isinstance : mg "isinstance" = none
  m_len : mg "len" = none
  m_list : mg "list" = none
  m_max : mg "max" = none
  m_min : mg "min" = none
  m_range : mg "range" = none
  m_sorted : mg "sorted" = none
  m_tuple : mg "tuple" = none
  m_zip : mg "zip" = none
  c_KNOWN : Kst K mg "KNOWN" (.tuple [(.int 2), (.int 3), (.int 4), (.int 5)])
  c_PLACES : Kst K mg "PLACES" (.int 4)
  x_NoField : XF K mg "NoField"
  g_SpreadError : mg "SpreadError" = some (.ref (He.ga K "SpreadError"))
  g_NoField : mg "NoField" = some (.ref (He.ga K "NoField"))
  g_NoOver : mg "NoOver" = some (.ref (He.ga K "NoOver"))
  g_NoLine : mg "NoLine" = some (.ref (He.ga K "NoLine"))
  g_NoSix : mg "NoSix" = some (.ref (He.ga K "NoSix"))
  g_NoTurning : mg "NoTurning" = some (.ref (He.ga K "NoTurning"))
  g_NoThree : mg "NoThree" = some (.ref (He.ga K "NoThree"))
  g_NoRegulus : mg "NoRegulus" = some (.ref (He.ga K "NoRegulus"))
  g_NoPartial : mg "NoPartial" = some (.ref (He.ga K "NoPartial"))
  g_NoSpread : mg "NoSpread" = some (.ref (He.ga K "NoSpread"))
  g_NoSet : mg "NoSet" = some (.ref (He.ga K "NoSet"))
  g_NoFrame : mg "NoFrame" = some (.ref (He.ga K "NoFrame"))
  g_NoFigure : mg "NoFigure" = some (.ref (He.ga K "NoFigure"))
  g_NoPlane : mg "NoPlane" = some (.ref (He.ga K "NoPlane"))
  g_TooGreat : mg "TooGreat" = some (.ref (He.ga K "TooGreat"))
  g_TooMany : mg "TooMany" = some (.ref (He.ga K "TooMany"))
  g_NoPaper : mg "NoPaper" = some (.ref (He.ga K "NoPaper"))
  g_NoText : mg "NoText" = some (.ref (He.ga K "NoText"))
  g_NoSaying : mg "NoSaying" = some (.ref (He.ga K "NoSaying"))
  g_NoName : mg "NoName" = some (.ref (He.ga K "NoName"))
  xi : XI K "SpreadError" errs
section
variable {P : Program} {w : World} {K : PySem.W.Frag} {mg : Str → Option Value} {base : Heap}
theorem sc__law_bag : FnScope ["_law_script", "_law_at", "_law_cell", "_law_great", "_law_primes"] ["_law_script", "_law_at"] (defScope s_law_bag) := ⟨rfl, rfl, rfl, by decide +kernel, rfl, by decide +kernel, by decide +kernel⟩
theorem ok__law_bag (F : Ft K mg) {fd : FuncData} (FD : FunD K "_law_bag" "_law_bag" (defArgs s_law_bag) (defBody s_law_bag) (defScope s_law_bag) [] [] (He.ga K "_law_bag") fd) : FnOk P w K mg base (L2.CX P w) 1 (He.ga K "_law_bag") fd ["_law_script", "_law_at"] (spF K (clsOf K) 2 F__law_bag) ∧ Binds K fd ["_law_script", "_law_at"] [] ∧ PySem.W.keepIn K (.ref (He.ga K "_law_bag")) = true := by
  have S := sc__law_bag
  refine ⟨ok_def (N := ["_law_script", "_law_at", "_law_cell", "_law_great", "_law_primes"]) (ps := ["_law_script", "_law_at"]) (t := den__law_bag) FD S fun cdv A outer s H E c hK hcls hr hp => ?_, FD.bindsN fun _ _ _ _ _ _ us hl => match us, hl with | [_, _], _ => rfl, FD.kp⟩
  have hu := room_u hr
  obtain ⟨cK, cH0, cHs0, cB0, ccls⟩ := c
  dsimp only at hK hcls
  subst hK hcls
  exact
    (dss_cons (ds_set 2 S.nd de_int) (dss_cons (ds_if (dt_cmp opd_lt gB_mono (de_var 1) (de_scLen 0 rfl rfl F.m_len) rfl) (dss_one (ds_set 2 S.nd (de_scIx
    0 rfl (de_var 1) (fun _ _ => rfl)))) dss_nil) (dss_cons (ds_set 3 S.nd de_int) (dss_cons (ds_if (dt_cmp opd_ge gB_mono (de_callB (cd_abs) (g1_mono fAbs_mono)
    rfl F.m_abs (by first | rfl | decide) (da_cons (de_var 2) da_nil)) (de_bin opd_pow gI_mono de_int de_int) rfl) (dss_one (ds_set 3 S.nd (de_callB (cd_abs)
    (g1_mono fAbs_mono) rfl F.m_abs (by first | rfl | decide) (da_cons (de_var 2) da_nil)))) dss_nil) (dss_cons (ds_set 4 S.nd (de_lst (da_cons de_int (da_cons
    de_int (da_cons de_int (da_cons de_int (da_cons de_int (da_cons de_int (da_cons de_int (da_cons de_int da_nil)))))))))) (dss_one (ds_close 4 (ds_ret
    (de_lst (da_cons (de_var 3) (da_cons (de_bin opd_mod gI_mono (de_bin opd_pow gI_mono (de_bin (opd_add rfl) gAdd_mono (de_bin (opd_add rfl) gAdd_mono
    (de_bin opd_mod gI_mono (de_var 2) de_int) (de_bin (opd_mulT rfl) gMulT_mono de_int (de_var 1))) de_int) de_int) (de_ix (ixd rfl) gIx_mono (de_var 4)
    (de_bin opd_mod gI_mono (de_var 1) de_int) (fun _ _ => rfl))) da_nil)))))))))))
theorem sc__law_take : FnScope ["_law_bag_here", "_law_many", "_law_digit"] ["_law_bag_here", "_law_many"] (defScope s_law_take) := ⟨rfl, rfl, rfl, by decide +kernel, rfl, by decide +kernel, by decide +kernel⟩
theorem ok__law_take (F : Ft K mg) {fd : FuncData} (FD : FunD K "_law_take" "_law_take" (defArgs s_law_take) (defBody s_law_take) (defScope s_law_take) [] [] (He.ga K "_law_take") fd) : FnOk P w K mg base (L2.CX P w) 1 (He.ga K "_law_take") fd ["_law_bag_here", "_law_many"] (spF K (clsOf K) 2 F__law_take) ∧ Binds K fd ["_law_bag_here", "_law_many"] [] ∧ PySem.W.keepIn K (.ref (He.ga K "_law_take")) = true := by
  have S := sc__law_take
  refine ⟨ok_def (N := ["_law_bag_here", "_law_many", "_law_digit"]) (ps := ["_law_bag_here", "_law_many"]) (t := den__law_take) FD S fun cdv A outer s H E c hK hcls hr hp => ?_, FD.bindsN fun _ _ _ _ _ _ us hl => match us, hl with | [_, _], _ => rfl, FD.kp⟩
  have hu := room_u hr
  obtain ⟨cK, cH0, cHs0, cB0, ccls⟩ := c
  dsimp only at hK hcls
  subst hK hcls
  exact
    (dss_cons (ds_if (dt_cmp opd_gt gB_mono (de_bag0 0) de_int rfl) (dss_cons (ds_set 2 S.nd (de_bin opd_mod gI_mono (de_bag0 0) (de_var 1))) (dss_cons
    (ds_bagS0 0 (de_bin opd_div gI_mono (de_bag0 0) (de_var 1))) (dss_one (ds_ret (de_var 2))))) dss_nil) (dss_cons (ds_bagS1 0 (de_bin opd_mod gI_mono
    (de_bin (opd_add rfl) gAdd_mono (de_bin (opd_mulT rfl) gMulT_mono (de_bag1 0) de_int) de_int) de_int)) (dss_one (ds_ret (de_bin opd_mod gI_mono (de_bin
    opd_mod gI_mono (de_bin opd_pow gI_mono (de_bin opd_div gI_mono (de_bag1 0) de_int) de_int) de_int) (de_var 1))))))
theorem sc__law_times : FnScope ["_law_q", "_law_a", "_law_b"] ["_law_q", "_law_a", "_law_b"] (defScope s_law_times) := ⟨rfl, rfl, rfl, by decide +kernel, rfl, by decide +kernel, by decide +kernel⟩
theorem ok__law_times (F : Ft K mg) {fd : FuncData} (FD : FunD K "_law_times" "_law_times" (defArgs s_law_times) (defBody s_law_times) (defScope s_law_times) [] [] (He.ga K "_law_times") fd) : FnOk P w K mg base (L2.CX P w) 1 (He.ga K "_law_times") fd ["_law_q", "_law_a", "_law_b"] (spF K (clsOf K) 3 F__law_times) ∧ Binds K fd ["_law_q", "_law_a", "_law_b"] [] ∧ PySem.W.keepIn K (.ref (He.ga K "_law_times")) = true := by
  have S := sc__law_times
  refine ⟨ok_def (N := ["_law_q", "_law_a", "_law_b"]) (ps := ["_law_q", "_law_a", "_law_b"]) (t := den__law_times) FD S fun cdv A outer s H E c hK hcls hr hp => ?_, FD.bindsN fun _ _ _ _ _ _ us hl => match us, hl with | [_, _, _], _ => rfl, FD.kp⟩
  have hu := room_u hr
  obtain ⟨cK, cH0, cHs0, cB0, ccls⟩ := c
  dsimp only at hK hcls
  subst hK hcls
  exact
    (dss_cons (ds_if (dt_cmp (opd_ne rfl (room_64 hu)) gEq_mono (de_var 0) de_int rfl) (dss_one (ds_ret (de_bin opd_mod gI_mono (de_bin (opd_mulT rfl) gMulT_mono
    (de_var 1) (de_var 2)) (de_var 0)))) dss_nil) (dss_cons (ds_if (dt_w (dw_or (dt_cmp (opd_eq rfl (room_64 hu)) gEq_mono (de_var 1) de_int rfl) (dw_or1
    (dt_cmp (opd_eq rfl (room_64 hu)) gEq_mono (de_var 2) de_int rfl)))) (dss_one (ds_ret de_int)) dss_nil) (dss_one (ds_ret (de_bin (opd_add rfl) gAdd_mono
    de_int (de_bin opd_mod gI_mono (de_bin opd_sub gI_mono (de_bin (opd_add rfl) gAdd_mono (de_var 1) (de_var 2)) de_int) de_int))))))
theorem sc__law_often : FnScope ["_law_q", "_law_often_here", "_law_row", "_law_a"] ["_law_q", "_law_often_here", "_law_row"] (defScope s_law_often) := ⟨rfl, rfl, rfl, by decide +kernel, rfl, by decide +kernel, by decide +kernel⟩
theorem ok__law_often (F : Ft K mg) {fd : FuncData} (FD : FunD K "_law_often" "_law_often" (defArgs s_law_often) (defBody s_law_often) (defScope s_law_often) [] [] (He.ga K "_law_often") fd) : FnOk P w K mg base (L2.CX P w) 2 (He.ga K "_law_often") fd ["_law_q", "_law_often_here", "_law_row"] (spF K (clsOf K) 3 F__law_often) ∧ Binds K fd ["_law_q", "_law_often_here", "_law_row"] [] ∧ PySem.W.keepIn K (.ref (He.ga K "_law_often")) = true := by
  obtain ⟨fd__law_times, FD__law_times⟩ := F.d__law_times
  obtain ⟨G__law_times, b__law_times, k__law_times⟩ := ok__law_times (P := P) (w := w) (base := base) F FD__law_times
  have S := sc__law_often
  refine ⟨ok_def (N := ["_law_q", "_law_often_here", "_law_row", "_law_a"]) (ps := ["_law_q", "_law_often_here", "_law_row"]) (t := den__law_often) FD S fun cdv A outer s H E c hK hcls hr hp => ?_, FD.bindsN fun _ _ _ _ _ _ us hl => match us, hl with | [_, _, _], _ => rfl, FD.kp⟩
  have hu := room_u hr
  obtain ⟨cK, cH0, cHs0, cB0, ccls⟩ := c
  dsimp only at hK hcls
  subst hK hcls
  exact
    (dss_one (ds_ret (de_callTy (cd_tuple rfl) (g1_mono fTuple_mono) rfl F.m_tuple (by first | rfl | decide) (da_cons (de_lc (own := [("_law_a", 3)]) rfl
    S.nd (di_any (de_var 2)) (blkOk_by (by kernel_rfl)) (fun s_ H_ C_ cl_ fp_ => (dg_name 3 S.nd)) (fun s_ H_ C_ cl_ fp_ => dts_nil) (fun s_ H_ C_ cl_ fp_
    => (de_call G__law_times mono__law_times rfl (hr.mono (by decide)) rfl F.g__law_times k__law_times b__law_times (da_cons (de_var 0) (da_cons (de_var
    1) (da_cons (de_var 3) da_nil))))) (by decide)) da_nil))))
theorem sc__law_back : FnScope ["_law_q", "_law_a", "_law_b"] ["_law_q", "_law_a"] (defScope s_law_back) := ⟨rfl, rfl, rfl, by decide +kernel, rfl, by decide +kernel, by decide +kernel⟩
theorem ok__law_back (F : Ft K mg) {fd : FuncData} (FD : FunD K "_law_back" "_law_back" (defArgs s_law_back) (defBody s_law_back) (defScope s_law_back) [] [] (He.ga K "_law_back") fd) : FnOk P w K mg base (L2.CX P w) 2 (He.ga K "_law_back") fd ["_law_q", "_law_a"] (spF K (clsOf K) 2 F__law_back) ∧ Binds K fd ["_law_q", "_law_a"] [] ∧ PySem.W.keepIn K (.ref (He.ga K "_law_back")) = true := by
  obtain ⟨fd__law_times, FD__law_times⟩ := F.d__law_times
  obtain ⟨G__law_times, b__law_times, k__law_times⟩ := ok__law_times (P := P) (w := w) (base := base) F FD__law_times
  have S := sc__law_back
  refine ⟨ok_def (N := ["_law_q", "_law_a", "_law_b"]) (ps := ["_law_q", "_law_a"]) (t := den__law_back) FD S fun cdv A outer s H E c hK hcls hr hp => ?_, FD.bindsN fun _ _ _ _ _ _ us hl => match us, hl with | [_, _], _ => rfl, FD.kp⟩
  have hu := room_u hr
  obtain ⟨cK, cH0, cHs0, cB0, ccls⟩ := c
  dsimp only at hK hcls
  subst hK hcls
  exact
    (dss_one (ds_ret (de_ix (ixd rfl) gIx_mono (de_lc (own := [("_law_b", 2)]) rfl S.nd (di_range2 rfl F.m_range de_int (de_var 0)) (blkOk_by (by kernel_rfl))
    (fun s_ H_ C_ cl_ fp_ => (dg_name 2 S.nd)) (fun s_ H_ C_ cl_ fp_ => (dts_one (dt_cmp (opd_eq rfl (room_64 hu)) gEq_mono (de_call G__law_times mono__law_times
    rfl (hr.mono (by decide)) rfl F.g__law_times k__law_times b__law_times (da_cons (de_var 0) (da_cons (de_var 1) (da_cons (de_var 2) da_nil)))) de_int
    rfl))) (fun s_ H_ C_ cl_ fp_ => (de_var 2)) (by decide)) de_int (fun _ _ => rfl))))
theorem sc__law_plus : FnScope ["_law_q", "_law_a", "_law_b"] ["_law_q", "_law_a", "_law_b"] (defScope s_law_plus) := ⟨rfl, rfl, rfl, by decide +kernel, rfl, by decide +kernel, by decide +kernel⟩
theorem ok__law_plus (F : Ft K mg) {fd : FuncData} (FD : FunD K "_law_plus" "_law_plus" (defArgs s_law_plus) (defBody s_law_plus) (defScope s_law_plus) [] [] (He.ga K "_law_plus") fd) : FnOk P w K mg base (L2.CX P w) 1 (He.ga K "_law_plus") fd ["_law_q", "_law_a", "_law_b"] (spF K (clsOf K) 3 F__law_plus) ∧ Binds K fd ["_law_q", "_law_a", "_law_b"] [] ∧ PySem.W.keepIn K (.ref (He.ga K "_law_plus")) = true := by
  have S := sc__law_plus
  refine ⟨ok_def (N := ["_law_q", "_law_a", "_law_b"]) (ps := ["_law_q", "_law_a", "_law_b"]) (t := den__law_plus) FD S fun cdv A outer s H E c hK hcls hr hp => ?_, FD.bindsN fun _ _ _ _ _ _ us hl => match us, hl with | [_, _, _], _ => rfl, FD.kp⟩
  have hu := room_u hr
  obtain ⟨cK, cH0, cHs0, cB0, ccls⟩ := c
  dsimp only at hK hcls
  subst hK hcls
  exact
    (dss_cons (ds_if (dt_cmp (opd_eq rfl (room_64 hu)) gEq_mono (de_var 0) de_int rfl) (dss_one (ds_ret (de_bin opd_xor gI_mono (de_var 1) (de_var 2))))
    dss_nil) (dss_one (ds_ret (de_bin opd_mod gI_mono (de_bin (opd_add rfl) gAdd_mono (de_var 1) (de_var 2)) (de_var 0)))))
theorem sc__law_more : FnScope ["_law_q", "_law_row", "_law_often_here", "_law_other", "_law_a", "_law_b"] ["_law_q", "_law_row", "_law_often_here", "_law_other"] (defScope s_law_more) := ⟨rfl, rfl, rfl, by decide +kernel, rfl, by decide +kernel, by decide +kernel⟩
theorem ok__law_more (F : Ft K mg) {fd : FuncData} (FD : FunD K "_law_more" "_law_more" (defArgs s_law_more) (defBody s_law_more) (defScope s_law_more) [] [] (He.ga K "_law_more") fd) : FnOk P w K mg base (L2.CX P w) 2 (He.ga K "_law_more") fd ["_law_q", "_law_row", "_law_often_here", "_law_other"] (spF K (clsOf K) 4 F__law_more) ∧ Binds K fd ["_law_q", "_law_row", "_law_often_here", "_law_other"] [] ∧ PySem.W.keepIn K (.ref (He.ga K "_law_more")) = true := by
  obtain ⟨fd__law_plus, FD__law_plus⟩ := F.d__law_plus
  obtain ⟨G__law_plus, b__law_plus, k__law_plus⟩ := ok__law_plus (P := P) (w := w) (base := base) F FD__law_plus
  obtain ⟨fd__law_times, FD__law_times⟩ := F.d__law_times
  obtain ⟨G__law_times, b__law_times, k__law_times⟩ := ok__law_times (P := P) (w := w) (base := base) F FD__law_times
  have S := sc__law_more
  refine ⟨ok_def (N := ["_law_q", "_law_row", "_law_often_here", "_law_other", "_law_a", "_law_b"]) (ps := ["_law_q", "_law_row", "_law_often_here", "_law_other"]) (t := den__law_more) FD S fun cdv A outer s H E c hK hcls hr hp => ?_, FD.bindsN fun _ _ _ _ _ _ us hl => match us, hl with | [_, _, _, _], _ => rfl, FD.kp⟩
  have hu := room_u hr
  obtain ⟨cK, cH0, cHs0, cB0, ccls⟩ := c
  dsimp only at hK hcls
  subst hK hcls
  exact
    (dss_one (ds_ret (de_callTy (cd_tuple rfl) (g1_mono fTuple_mono) rfl F.m_tuple (by first | rfl | decide) (da_cons (de_lc (own := [("_law_a", 4), ("_law_b",
    5)]) rfl S.nd (di_zip rfl F.m_zip (de_var 1) (de_var 3)) (blkOk_by (by kernel_rfl)) (fun s_ H_ C_ cl_ fp_ => (dg_tup rfl (dgs_cons (dg_name 4 S.nd)
    (dgs_cons (dg_name 5 S.nd) dgs_nil)))) (fun s_ H_ C_ cl_ fp_ => dts_nil) (fun s_ H_ C_ cl_ fp_ => (de_call G__law_plus mono__law_plus rfl (hr.mono (by
    decide)) rfl F.g__law_plus k__law_plus b__law_plus (da_cons (de_var 0) (da_cons (de_var 4) (da_cons (de_call G__law_times mono__law_times rfl (hr.mono
    (by decide)) rfl F.g__law_times k__law_times b__law_times (da_cons (de_var 0) (da_cons (de_var 2) (da_cons (de_var 5) da_nil)))) da_nil))))) (by decide))
    da_nil))))
theorem sc__law_minus : FnScope ["_law_q", "_law_a", "_law_b"] ["_law_q", "_law_a", "_law_b"] (defScope s_law_minus) := ⟨rfl, rfl, rfl, by decide +kernel, rfl, by decide +kernel, by decide +kernel⟩
theorem ok__law_minus (F : Ft K mg) {fd : FuncData} (FD : FunD K "_law_minus" "_law_minus" (defArgs s_law_minus) (defBody s_law_minus) (defScope s_law_minus) [] [] (He.ga K "_law_minus") fd) : FnOk P w K mg base (L2.CX P w) 1 (He.ga K "_law_minus") fd ["_law_q", "_law_a", "_law_b"] (spF K (clsOf K) 3 F__law_minus) ∧ Binds K fd ["_law_q", "_law_a", "_law_b"] [] ∧ PySem.W.keepIn K (.ref (He.ga K "_law_minus")) = true := by
  have S := sc__law_minus
  refine ⟨ok_def (N := ["_law_q", "_law_a", "_law_b"]) (ps := ["_law_q", "_law_a", "_law_b"]) (t := den__law_minus) FD S fun cdv A outer s H E c hK hcls hr hp => ?_, FD.bindsN fun _ _ _ _ _ _ us hl => match us, hl with | [_, _, _], _ => rfl, FD.kp⟩
  have hu := room_u hr
  obtain ⟨cK, cH0, cHs0, cB0, ccls⟩ := c
  dsimp only at hK hcls
  subst hK hcls
  exact
    (dss_cons (ds_if (dt_cmp (opd_eq rfl (room_64 hu)) gEq_mono (de_var 0) de_int rfl) (dss_one (ds_ret (de_bin opd_xor gI_mono (de_var 1) (de_var 2))))
    dss_nil) (dss_one (ds_ret (de_bin opd_mod gI_mono (de_bin opd_sub gI_mono (de_var 1) (de_var 2)) (de_var 0)))))
theorem sc__law_lowest : FnScope ["_law_q", "_law_rows", "_law_left", "_law_found", "_law_at", "_law_some", "_law_row", "_law_lead"] ["_law_q", "_law_rows"] (defScope s_law_lowest) := ⟨rfl, rfl, rfl, by decide +kernel, rfl, by decide +kernel, by decide +kernel⟩
theorem ok__law_lowest (F : Ft K mg) {fd : FuncData} (FD : FunD K "_law_lowest" "_law_lowest" (defArgs s_law_lowest) (defBody s_law_lowest) (defScope s_law_lowest) [] [] (He.ga K "_law_lowest") fd) : FnOk P w K mg base (L2.CX P w) 3 (He.ga K "_law_lowest") fd ["_law_q", "_law_rows"] (spF K (clsOf K) 2 F__law_lowest) ∧ Binds K fd ["_law_q", "_law_rows"] [] ∧ PySem.W.keepIn K (.ref (He.ga K "_law_lowest")) = true := by
  obtain ⟨fd__law_back, FD__law_back⟩ := F.d__law_back
  obtain ⟨G__law_back, b__law_back, k__law_back⟩ := ok__law_back (P := P) (w := w) (base := base) F FD__law_back
  obtain ⟨fd__law_minus, FD__law_minus⟩ := F.d__law_minus
  obtain ⟨G__law_minus, b__law_minus, k__law_minus⟩ := ok__law_minus (P := P) (w := w) (base := base) F FD__law_minus
  obtain ⟨fd__law_more, FD__law_more⟩ := F.d__law_more
  obtain ⟨G__law_more, b__law_more, k__law_more⟩ := ok__law_more (P := P) (w := w) (base := base) F FD__law_more
  obtain ⟨fd__law_often, FD__law_often⟩ := F.d__law_often
  obtain ⟨G__law_often, b__law_often, k__law_often⟩ := ok__law_often (P := P) (w := w) (base := base) F FD__law_often
  have S := sc__law_lowest
  refine ⟨ok_def (N := ["_law_q", "_law_rows", "_law_left", "_law_found", "_law_at", "_law_some", "_law_row", "_law_lead"]) (ps := ["_law_q", "_law_rows"]) (t := den__law_lowest) FD S fun cdv A outer s H E c hK hcls hr hp => ?_, FD.bindsN fun _ _ _ _ _ _ us hl => match us, hl with | [_, _], _ => rfl, FD.kp⟩
  have hu := room_u hr
  obtain ⟨cK, cH0, cHs0, cB0, ccls⟩ := c
  dsimp only at hK hcls
  subst hK hcls
  exact
    (dss_cons (ds_setLc 2 [] (own := [("_law_row", 6)]) rfl S.nd (di_any (de_var 1)) (blkOk_by (by kernel_rfl)) (fun s_ H_ C_ cl_ fp_ => (dg_name 6 S.nd))
    (fun s_ H_ C_ cl_ fp_ => dts_nil) (fun s_ H_ C_ cl_ fp_ => (de_callTy (cd_tuple rfl) (g1_mono fTuple_mono) rfl F.m_tuple (by first | rfl | decide) (da_cons
    (de_var 6) da_nil))) (by decide)) (dss_cons (ds_set 3 S.nd (de_lst da_nil)) (dss_cons (ds_for hp rfl (di_range1 rfl F.m_range (de_if (dt_cmp (opd_ne
    rfl (room_64 hu)) gEq_mono (de_var 1) (de_lst da_nil) rfl) (de_callB (cd_len rfl) (g1_mono fLen_mono) rfl F.m_len (by first | rfl | decide) (da_cons
    (de_ix (ixd rfl) gIx_mono (de_var 1) de_int (fun _ _ => rfl)) da_nil)) de_int)) (dg_name 4 S.nd) (dss_cons (ds_setLc 5 [2] (own := [("_law_row", 6)])
    rfl S.nd (di_any (de_var 2)) (blkOk_by (by kernel_rfl)) (fun s_ H_ C_ cl_ fp_ => (dg_name 6 S.nd)) (fun s_ H_ C_ cl_ fp_ => (dts_one (dt_cmp (opd_ne
    rfl (room_64 hu)) gEq_mono (de_ix (ixd rfl) gIx_mono (de_var 6) (de_var 4) (fun _ _ => rfl)) de_int rfl))) (fun s_ H_ C_ cl_ fp_ => (de_var 6)) (by
    decide)) (dss_one (ds_close 5 (ds_if (dt_cmp (opd_ne rfl (room_64 hu)) gEq_mono (de_var 5) (de_lst da_nil) rfl) (dss_cons (ds_close 5 (ds_set 7 S.nd
    (de_call G__law_often mono__law_often rfl (hr.mono (by decide)) rfl F.g__law_often k__law_often b__law_often (da_cons (de_var 0) (da_cons (de_call G__law_back
    mono__law_back rfl (hr.mono (by decide)) rfl F.g__law_back k__law_back b__law_back (da_cons (de_var 0) (da_cons (de_ix (ixd rfl) gIx_mono (de_ix (ixd
    rfl) gIx_mono (de_var 5) de_int (fun _ _ => rfl)) (de_var 4) (fun _ _ => rfl)) da_nil))) (da_cons (de_ix (ixd rfl) gIx_mono (de_var 5) de_int (fun _
    _ => rfl)) da_nil)))))) (dss_cons (ds_close 5 (ds_meth 2 PySem.F.slot_list_remove PySem.F.type_list_remove (mt_removeD (room_65 hu)) mRemove_ok mRemove_mono
    (da_cons (de_ix (ixd rfl) gIx_mono (de_var 5) de_int (fun _ _ => rfl)) da_nil))) (dss_cons (ds_close 2 (ds_setLc 2 [] (own := [("_law_row", 6)]) rfl
    S.nd (di_any (de_var 2)) (blkOk_by (by kernel_rfl)) (fun s_ H_ C_ cl_ fp_ => (dg_name 6 S.nd)) (fun s_ H_ C_ cl_ fp_ => dts_nil) (fun s_ H_ C_ cl_ fp_
    => (de_call G__law_more mono__law_more rfl (hr.mono (by decide)) rfl F.g__law_more k__law_more b__law_more (da_cons (de_var 0) (da_cons (de_var 6) (da_cons
    (de_call G__law_minus mono__law_minus rfl (hr.mono (by decide)) rfl F.g__law_minus k__law_minus b__law_minus (da_cons (de_var 0) (da_cons de_int (da_cons
    (de_ix (ixd rfl) gIx_mono (de_var 6) (de_var 4) (fun _ _ => rfl)) da_nil)))) (da_cons (de_var 7) da_nil)))))) (by decide))) (dss_one (ds_close 3 (ds_set
    3 S.nd (de_bin (opd_add rfl) gAdd_mono (de_lc (own := [("_law_row", 6)]) rfl S.nd (di_any (de_var 3)) (blkOk_by (by kernel_rfl)) (fun s_ H_ C_ cl_ fp_
    => (dg_name 6 S.nd)) (fun s_ H_ C_ cl_ fp_ => dts_nil) (fun s_ H_ C_ cl_ fp_ => (de_call G__law_more mono__law_more rfl (hr.mono (by decide)) rfl F.g__law_more
    k__law_more b__law_more (da_cons (de_var 0) (da_cons (de_var 6) (da_cons (de_call G__law_minus mono__law_minus rfl (hr.mono (by decide)) rfl F.g__law_minus
    k__law_minus b__law_minus (da_cons (de_var 0) (da_cons de_int (da_cons (de_ix (ixd rfl) gIx_mono (de_var 6) (de_var 4) (fun _ _ => rfl)) da_nil))))
    (da_cons (de_var 7) da_nil)))))) (by decide)) (de_lst (da_cons (de_var 7) da_nil))))))))) dss_nil))))) (dss_one (ds_retO 3)))))
theorem sc__law_line : FnScope ["_law_q", "_law_row", "_law_other", "_law_found"] ["_law_q", "_law_row", "_law_other"] (defScope s_law_line) := ⟨rfl, rfl, rfl, by decide +kernel, rfl, by decide +kernel, by decide +kernel⟩
theorem ok__law_line (F : Ft K mg) {fd : FuncData} (FD : FunD K "_law_line" "_law_line" (defArgs s_law_line) (defBody s_law_line) (defScope s_law_line) [] [] (He.ga K "_law_line") fd) : FnOk P w K mg base (L2.CX P w) 4 (He.ga K "_law_line") fd ["_law_q", "_law_row", "_law_other"] (spF K (clsOf K) 3 F__law_line) ∧ Binds K fd ["_law_q", "_law_row", "_law_other"] [] ∧ PySem.W.keepIn K (.ref (He.ga K "_law_line")) = true := by
  obtain ⟨fd__law_lowest, FD__law_lowest⟩ := F.d__law_lowest
  obtain ⟨G__law_lowest, b__law_lowest, k__law_lowest⟩ := ok__law_lowest (P := P) (w := w) (base := base) F FD__law_lowest
  have S := sc__law_line
  refine ⟨ok_def (N := ["_law_q", "_law_row", "_law_other", "_law_found"]) (ps := ["_law_q", "_law_row", "_law_other"]) (t := den__law_line) FD S fun cdv A outer s H E c hK hcls hr hp => ?_, FD.bindsN fun _ _ _ _ _ _ us hl => match us, hl with | [_, _, _], _ => rfl, FD.kp⟩
  have hu := room_u hr
  obtain ⟨cK, cH0, cHs0, cB0, ccls⟩ := c
  dsimp only at hK hcls
  subst hK hcls
  exact
    (dss_cons (ds_set 3 S.nd (de_call G__law_lowest mono__law_lowest rfl (hr.mono (by decide)) rfl F.g__law_lowest k__law_lowest b__law_lowest (da_cons
    (de_var 0) (da_cons (de_lst (da_cons (de_var 1) (da_cons (de_var 2) da_nil))) da_nil)))) (dss_one (ds_close 3 (ds_ret (de_if (dt_cmp (opd_eq rfl (room_64
    hu)) gEq_mono (de_callB (cd_len rfl) (g1_mono fLen_mono) rfl F.m_len (by first | rfl | decide) (da_cons (de_var 3) da_nil)) de_int rfl) (de_callTy (cd_tuple
    rfl) (g1_mono fTuple_mono) rfl F.m_tuple (by first | rfl | decide) (da_cons (de_var 3) da_nil)) de_non)))))
theorem sc__law_drawn_line : FnScope ["_law_q", "_law_bag_here", "_law_at", "_law_some", "_law_found", "_law_turn", "_law_place"] ["_law_q", "_law_bag_here"] (defScope s_law_drawn_line) := ⟨rfl, rfl, rfl, by decide +kernel, rfl, by decide +kernel, by decide +kernel⟩
theorem ok__law_drawn_line (F : Ft K mg) {fd : FuncData} (FD : FunD K "_law_drawn_line" "_law_drawn_line" (defArgs s_law_drawn_line) (defBody s_law_drawn_line) (defScope s_law_drawn_line) [] [] (He.ga K "_law_drawn_line") fd) : FnOk P w K mg base (L2.CX P w) 5 (He.ga K "_law_drawn_line") fd ["_law_q", "_law_bag_here"] (spF K (clsOf K) 2 F__law_drawn_line) ∧ Binds K fd ["_law_q", "_law_bag_here"] [] ∧ PySem.W.keepIn K (.ref (He.ga K "_law_drawn_line")) = true := by
  obtain ⟨fd__law_line, FD__law_line⟩ := F.d__law_line
  obtain ⟨G__law_line, b__law_line, k__law_line⟩ := ok__law_line (P := P) (w := w) (base := base) F FD__law_line
  obtain ⟨fd__law_take, FD__law_take⟩ := F.d__law_take
  obtain ⟨G__law_take, b__law_take, k__law_take⟩ := ok__law_take (P := P) (w := w) (base := base) F FD__law_take
  have S := sc__law_drawn_line
  refine ⟨ok_def (N := ["_law_q", "_law_bag_here", "_law_at", "_law_some", "_law_found", "_law_turn", "_law_place"]) (ps := ["_law_q", "_law_bag_here"]) (t := den__law_drawn_line) FD S fun cdv A outer s H E c hK hcls hr hp => ?_, FD.bindsN fun _ _ _ _ _ _ us hl => match us, hl with | [_, _], _ => rfl, FD.kp⟩
  have hu := room_u hr
  obtain ⟨cK, cH0, cHs0, cB0, ccls⟩ := c
  dsimp only at hK hcls
  subst hK hcls
  exact
    (dss_cons (ds_set 2 S.nd (de_call G__law_take mono__law_take rfl (hr.mono (by decide)) rfl F.g__law_take k__law_take b__law_take (da_cons (de_var 1)
    (da_cons de_int da_nil)))) (dss_cons (ds_setLc 3 [] (own := [("_law_turn", 5)]) rfl S.nd (di_range1 rfl F.m_range de_int) (blkOk_by (by kernel_rfl))
    (fun s_ H_ C_ cl_ fp_ => (dg_name 5 S.nd)) (fun s_ H_ C_ cl_ fp_ => dts_nil) (fun s_ H_ C_ cl_ fp_ => (de_bin (opd_add rfl) gAdd_mono (de_bin (opd_mulT
    rfl) gMulT_mono (de_tup (da_cons de_int da_nil)) (de_var 2)) (de_callTy (cd_tuple rfl) (g1_mono fTuple_mono) rfl F.m_tuple (by first | rfl | decide)
    (da_cons (de_lc (own := [("_law_place", 6)]) rfl S.nd (di_range1 rfl F.m_range (de_bin opd_sub gI_mono de_int (de_var 2))) (blkOk_by (by kernel_rfl))
    (fun s_ H_ C_ cl_ fp_ => (dg_name 6 S.nd)) (fun s_ H_ C_ cl_ fp_ => dts_nil) (fun s_ H_ C_ cl_ fp_ => (de_call G__law_take mono__law_take rfl (hr.mono
    (by decide)) rfl F.g__law_take k__law_take b__law_take (da_cons (de_var 1) (da_cons (de_var 0) da_nil)))) (by decide)) da_nil)))) (by decide)) (dss_cons
    (ds_close 3 (ds_set 4 S.nd (de_call G__law_line mono__law_line rfl (hr.mono (by decide)) rfl F.g__law_line k__law_line b__law_line (da_cons (de_var
    0) (da_cons (de_ix (ixd rfl) gIx_mono (de_var 3) de_int (fun _ _ => rfl)) (da_cons (de_ix (ixd rfl) gIx_mono (de_var 3) de_int (fun _ _ => rfl)) da_nil))))))
    (dss_cons (ds_if (dt_cmp opd_isN gIsN_mono (de_var 4) de_non rfl) (dss_one (ds_set 4 S.nd (de_tup (da_cons (de_tup (da_cons de_int (da_cons de_int (da_cons
    de_int (da_cons (de_call G__law_take mono__law_take rfl (hr.mono (by decide)) rfl F.g__law_take k__law_take b__law_take (da_cons (de_var 1) (da_cons
    (de_var 0) da_nil))) da_nil))))) (da_cons (de_tup (da_cons de_int (da_cons de_int (da_cons (de_call G__law_take mono__law_take rfl (hr.mono (by decide))
    rfl F.g__law_take k__law_take b__law_take (da_cons (de_var 1) (da_cons (de_var 0) da_nil))) (da_cons de_int da_nil))))) da_nil))))) dss_nil) (dss_one
    (ds_ret (de_var 4)))))))
theorem sc__law_all_points : FnScope ["_law_q", "_law_found", "_law_first", "_law_some", "_law_place", "_law_longer", "_law_row", "_law_number"] ["_law_q"] (defScope s_law_all_points) := ⟨rfl, rfl, rfl, by decide +kernel, rfl, by decide +kernel, by decide +kernel⟩
theorem ok__law_all_points (F : Ft K mg) {fd : FuncData} (FD : FunD K "_law_all_points" "_law_all_points" (defArgs s_law_all_points) (defBody s_law_all_points) (defScope s_law_all_points) [] [] (He.ga K "_law_all_points") fd) : FnOk P w K mg base (L2.CX P w) 1 (He.ga K "_law_all_points") fd ["_law_q"] (spF K (clsOf K) 1 F__law_all_points) ∧ Binds K fd ["_law_q"] [] ∧ PySem.W.keepIn K (.ref (He.ga K "_law_all_points")) = true := by
  have S := sc__law_all_points
  refine ⟨ok_def (N := ["_law_q", "_law_found", "_law_first", "_law_some", "_law_place", "_law_longer", "_law_row", "_law_number"]) (ps := ["_law_q"]) (t := den__law_all_points) FD S fun cdv A outer s H E c hK hcls hr hp => ?_, FD.bindsN fun _ _ _ _ _ _ us hl => match us, hl with | [_], _ => rfl, FD.kp⟩
  have hu := room_u hr
  obtain ⟨cK, cH0, cHs0, cB0, ccls⟩ := c
  dsimp only at hK hcls
  subst hK hcls
  exact
    (dss_cons (ds_set 1 S.nd (de_lst da_nil)) (dss_cons (ds_for hp rfl (di_range1 rfl F.m_range de_int) (dg_name 2 S.nd) (dss_cons (ds_set 3 S.nd (de_lst
    (da_cons (de_bin (opd_add rfl) gAdd_mono (de_bin (opd_mulT rfl) gMulT_mono (de_tup (da_cons de_int da_nil)) (de_var 2)) (de_tup (da_cons de_int da_nil)))
    da_nil))) (dss_cons (ds_for hp rfl (di_range1 rfl F.m_range (de_bin opd_sub gI_mono de_int (de_var 2))) (dg_name 4 S.nd) (dss_cons (ds_set 5 S.nd (de_lst
    da_nil)) (dss_cons (ds_close 3 (ds_for hp rfl (di_any (de_var 3)) (dg_name 6 S.nd) (dss_one (ds_meth 5 PySem.F.slot_list_extend PySem.F.type_list_extend
    mt_extend mExtend_ok mExtend_mono (da_cons (de_lc (own := [("_law_number", 7)]) rfl S.nd (di_range1 rfl F.m_range (de_var 0)) (blkOk_by (by kernel_rfl))
    (fun s_ H_ C_ cl_ fp_ => (dg_name 7 S.nd)) (fun s_ H_ C_ cl_ fp_ => dts_nil) (fun s_ H_ C_ cl_ fp_ => (de_bin (opd_add rfl) gAdd_mono (de_var 6) (de_tup
    (da_cons (de_var 7) da_nil)))) (by decide)) da_nil))))) (dss_one (ds_close 5 (ds_set 3 S.nd (de_var 5))))))) (dss_one (ds_close 3 (ds_meth 1 PySem.F.slot_list_extend
    PySem.F.type_list_extend mt_extend mExtend_ok mExtend_mono (da_cons (de_var 3) da_nil))))))) (dss_one (ds_close 1 (ds_ret (de_callB (cd_sorted rfl hu)
    gSort_mono rfl F.m_sorted (by first | rfl | decide) (da_cons (de_var 1) da_nil)))))))
theorem sc__law_dual : FnScope ["_law_q", "_law_line_here", "_law_found", "_law_point", "_law_sums", "_law_row", "_law_some", "_law_a", "_law_b"] ["_law_q", "_law_line_here"] (defScope s_law_dual) := ⟨rfl, rfl, rfl, by decide +kernel, rfl, by decide +kernel, by decide +kernel⟩
theorem ok__law_dual (F : Ft K mg) {fd : FuncData} (FD : FunD K "_law_dual" "_law_dual" (defArgs s_law_dual) (defBody s_law_dual) (defScope s_law_dual) [] [] (He.ga K "_law_dual") fd) : FnOk P w K mg base (L2.CX P w) 5 (He.ga K "_law_dual") fd ["_law_q", "_law_line_here"] (spF K (clsOf K) 2 F__law_dual) ∧ Binds K fd ["_law_q", "_law_line_here"] [] ∧ PySem.W.keepIn K (.ref (He.ga K "_law_dual")) = true := by
  obtain ⟨fd__law_all_points, FD__law_all_points⟩ := F.d__law_all_points
  obtain ⟨G__law_all_points, b__law_all_points, k__law_all_points⟩ := ok__law_all_points (P := P) (w := w) (base := base) F FD__law_all_points
  obtain ⟨fd__law_line, FD__law_line⟩ := F.d__law_line
  obtain ⟨G__law_line, b__law_line, k__law_line⟩ := ok__law_line (P := P) (w := w) (base := base) F FD__law_line
  obtain ⟨fd__law_plus, FD__law_plus⟩ := F.d__law_plus
  obtain ⟨G__law_plus, b__law_plus, k__law_plus⟩ := ok__law_plus (P := P) (w := w) (base := base) F FD__law_plus
  obtain ⟨fd__law_times, FD__law_times⟩ := F.d__law_times
  obtain ⟨G__law_times, b__law_times, k__law_times⟩ := ok__law_times (P := P) (w := w) (base := base) F FD__law_times
  have S := sc__law_dual
  refine ⟨ok_def (N := ["_law_q", "_law_line_here", "_law_found", "_law_point", "_law_sums", "_law_row", "_law_some", "_law_a", "_law_b"]) (ps := ["_law_q", "_law_line_here"]) (t := den__law_dual) FD S fun cdv A outer s H E c hK hcls hr hp => ?_, FD.bindsN fun _ _ _ _ _ _ us hl => match us, hl with | [_, _], _ => rfl, FD.kp⟩
  have hu := room_u hr
  obtain ⟨cK, cH0, cHs0, cB0, ccls⟩ := c
  dsimp only at hK hcls
  subst hK hcls
  exact
    (dss_cons (ds_set 2 S.nd (de_lst da_nil)) (dss_cons (ds_for hp rfl (di_any (de_call G__law_all_points mono__law_all_points rfl (hr.mono (by decide))
    rfl F.g__law_all_points k__law_all_points b__law_all_points (da_cons (de_var 0) da_nil))) (dg_name 3 S.nd) (dss_cons (ds_set 4 S.nd (de_lst da_nil))
    (dss_cons (ds_for hp rfl (di_any (de_var 1)) (dg_name 5 S.nd) (dss_cons (ds_set 6 S.nd de_int) (dss_cons (ds_for hp rfl (di_zip rfl F.m_zip (de_var
    3) (de_var 5)) (dg_tup rfl (dgs_cons (dg_name 7 S.nd) (dgs_cons (dg_name 8 S.nd) dgs_nil))) (dss_one (ds_set 6 S.nd (de_call G__law_plus mono__law_plus
    rfl (hr.mono (by decide)) rfl F.g__law_plus k__law_plus b__law_plus (da_cons (de_var 0) (da_cons (de_var 6) (da_cons (de_call G__law_times mono__law_times
    rfl (hr.mono (by decide)) rfl F.g__law_times k__law_times b__law_times (da_cons (de_var 0) (da_cons (de_var 7) (da_cons (de_var 8) da_nil)))) da_nil)))))))
    (dss_one (ds_meth 4 PySem.F.slot_list_append PySem.F.type_list_append mt_append mAppend_ok mAppend_mono (da_cons (de_var 6) da_nil)))))) (dss_one (ds_close
    4 (ds_if (dt_cmp (opd_eq rfl (room_64 hu)) gEq_mono (de_var 4) (de_lst (da_cons de_int (da_cons de_int da_nil))) rfl) (dss_one (ds_meth 2 PySem.F.slot_list_append
    PySem.F.type_list_append mt_append mAppend_ok mAppend_mono (da_cons (de_var 3) da_nil))) dss_nil)))))) (dss_one (ds_close 2 (ds_ret (de_call G__law_line
    mono__law_line rfl (hr.mono (by decide)) rfl F.g__law_line k__law_line b__law_line (da_cons (de_var 0) (da_cons (de_ix (ixd rfl) gIx_mono (de_var 2)
    de_int (fun _ _ => rfl)) (da_cons (de_ix (ixd rfl) gIx_mono (de_var 2) de_int (fun _ _ => rfl)) da_nil)))))))))
theorem sc_is_whole : FnScope ["thing"] ["thing"] (defScope sis_whole) := ⟨rfl, rfl, rfl, by decide +kernel, rfl, by decide +kernel, by decide +kernel⟩
theorem ok_is_whole (F : Ft K mg) {fd : FuncData} (FD : FunD K "is_whole" "is_whole" (defArgs sis_whole) (defBody sis_whole) (defScope sis_whole) [] [] (He.ga K "is_whole") fd) : FnOk P w K mg base (L2.CX P w) 1 (He.ga K "is_whole") fd ["thing"] (spF K (clsOf K) 1 F_is_whole) ∧ Binds K fd ["thing"] [] ∧ PySem.W.keepIn K (.ref (He.ga K "is_whole")) = true := by
  have S := sc_is_whole
  refine ⟨ok_def (N := ["thing"]) (ps := ["thing"]) (t := den_is_whole) FD S fun cdv A outer s H E c hK hcls hr hp => ?_, FD.bindsN fun _ _ _ _ _ _ us hl => match us, hl with | [_], _ => rfl, FD.kp⟩
  have hu := room_u hr
  obtain ⟨cK, cH0, cHs0, cB0, ccls⟩ := c
  dsimp only at hK hcls
  subst hK hcls
  exact
    (dss_one (ds_ret (de_and (de_isi (de_var 0) rfl F.m_isinstance rfl F.m_int (by first | rfl | decide)) (de_one (de_not (de_isi (de_var 0) rfl F.m_isinstance
    rfl F.m_bool (by first | rfl | decide)))))))
theorem sc_look_field : FnScope ["q"] ["q"] (defScope slook_field) := ⟨rfl, rfl, rfl, by decide +kernel, rfl, by decide +kernel, by decide +kernel⟩
theorem ok_look_field (F : Ft K mg) {fd : FuncData} (FD : FunD K "look_field" "look_field" (defArgs slook_field) (defBody slook_field) (defScope slook_field) [] [] (He.ga K "look_field") fd) : FnOk P w K mg base (L2.CX P w) 2 (He.ga K "look_field") fd ["q"] (spF K (clsOf K) 1 F_look_field) ∧ Binds K fd ["q"] [] ∧ PySem.W.keepIn K (.ref (He.ga K "look_field")) = true := by
  obtain ⟨fd_is_whole, FD_is_whole⟩ := F.d_is_whole
  obtain ⟨G_is_whole, b_is_whole, k_is_whole⟩ := ok_is_whole (P := P) (w := w) (base := base) F FD_is_whole
  have S := sc_look_field
  refine ⟨ok_def (N := ["q"]) (ps := ["q"]) (t := den_look_field) FD S fun cdv A outer s H E c hK hcls hr hp => ?_, FD.bindsN fun _ _ _ _ _ _ us hl => match us, hl with | [_], _ => rfl, FD.kp⟩
  have hu := room_u hr
  obtain ⟨cK, cH0, cHs0, cB0, ccls⟩ := c
  dsimp only at hK hcls
  subst hK hcls
  exact
    (dss_one (ds_if (dt_w (dw_or (dt_not (dt_val (de_call G_is_whole mono_is_whole rfl (hr.mono (by decide)) rfl F.g_is_whole k_is_whole b_is_whole (da_cons
    (de_var 0) da_nil)))) (dw_or1 (dt_cmp (opd_notInA rfl (room_65 hu)) gInA_mono (de_var 0) (de_kst F.c_KNOWN rfl) rfl)))) (dss_one (ds_raise F.x_NoField
    rfl rfl rfl)) dss_nil))
theorem sc_product_known : FnScope ["q", "a", "b", "found", "place"] ["q", "a", "b"] (defScope sproduct_known) := ⟨rfl, rfl, rfl, by decide +kernel, rfl, by decide +kernel, by decide +kernel⟩
theorem ok_product_known (F : Ft K mg) {fd : FuncData} (FD : FunD K "product_known" "product_known" (defArgs sproduct_known) (defBody sproduct_known) (defScope sproduct_known) [] [] (He.ga K "product_known") fd) : FnOk P w K mg base (L2.CX P w) 1 (He.ga K "product_known") fd ["q", "a", "b"] (spF K (clsOf K) 3 F_product_known) ∧ Binds K fd ["q", "a", "b"] [] ∧ PySem.W.keepIn K (.ref (He.ga K "product_known")) = true := by
  have S := sc_product_known
  refine ⟨ok_def (N := ["q", "a", "b", "found", "place"]) (ps := ["q", "a", "b"]) (t := den_product_known) FD S fun cdv A outer s H E c hK hcls hr hp => ?_, FD.bindsN fun _ _ _ _ _ _ us hl => match us, hl with | [_, _, _], _ => rfl, FD.kp⟩
  have hu := room_u hr
  obtain ⟨cK, cH0, cHs0, cB0, ccls⟩ := c
  dsimp only at hK hcls
  subst hK hcls
  exact
    (dss_cons (ds_if (dt_cmp (opd_ne rfl (room_64 hu)) gEq_mono (de_var 0) de_int rfl) (dss_one (ds_ret (de_bin opd_mod gI_mono (de_bin (opd_mulT rfl) gMulT_mono
    (de_var 1) (de_var 2)) (de_var 0)))) dss_nil) (dss_cons (ds_set 3 S.nd de_int) (dss_cons (ds_for hp rfl (di_range1 rfl F.m_range de_int) (dg_name 4
    S.nd) (dss_one (ds_if (dt_cmp (opd_eq rfl (room_64 hu)) gEq_mono (de_bin opd_and gI_mono (de_bin opd_shr gI_mono (de_var 2) (de_var 4)) de_int) de_int
    rfl) (dss_one (ds_set 3 S.nd (de_bin opd_xor gI_mono (de_var 3) (de_bin opd_shl gI_mono (de_var 1) (de_var 4))))) dss_nil))) (dss_cons (ds_if (dt_cmp
    opd_gt gB_mono (de_var 3) de_int rfl) (dss_one (ds_set 3 S.nd (de_bin opd_xor gI_mono (de_var 3) de_int))) dss_nil) (dss_one (ds_ret (de_var 3)))))))
theorem sc_row_times : FnScope ["q", "often", "row", "a"] ["q", "often", "row"] (defScope srow_times) := ⟨rfl, rfl, rfl, by decide +kernel, rfl, by decide +kernel, by decide +kernel⟩
theorem ok_row_times (F : Ft K mg) {fd : FuncData} (FD : FunD K "row_times" "row_times" (defArgs srow_times) (defBody srow_times) (defScope srow_times) [] [] (He.ga K "row_times") fd) : FnOk P w K mg base (L2.CX P w) 2 (He.ga K "row_times") fd ["q", "often", "row"] (spF K (clsOf K) 3 F_row_times) ∧ Binds K fd ["q", "often", "row"] [] ∧ PySem.W.keepIn K (.ref (He.ga K "row_times")) = true := by
  obtain ⟨fd_product_known, FD_product_known⟩ := F.d_product_known
  obtain ⟨G_product_known, b_product_known, k_product_known⟩ := ok_product_known (P := P) (w := w) (base := base) F FD_product_known
  have S := sc_row_times
  refine ⟨ok_def (N := ["q", "often", "row", "a"]) (ps := ["q", "often", "row"]) (t := den_row_times) FD S fun cdv A outer s H E c hK hcls hr hp => ?_, FD.bindsN fun _ _ _ _ _ _ us hl => match us, hl with | [_, _, _], _ => rfl, FD.kp⟩
  have hu := room_u hr
  obtain ⟨cK, cH0, cHs0, cB0, ccls⟩ := c
  dsimp only at hK hcls
  subst hK hcls
  exact
    (dss_one (ds_ret (de_callTy (cd_tuple rfl) (g1_mono fTuple_mono) rfl F.m_tuple (by first | rfl | decide) (da_cons (de_lc (own := [("a", 3)]) rfl S.nd
    (di_any (de_var 2)) (blkOk_by (by kernel_rfl)) (fun s_ H_ C_ cl_ fp_ => (dg_name 3 S.nd)) (fun s_ H_ C_ cl_ fp_ => dts_nil) (fun s_ H_ C_ cl_ fp_ =>
    (de_call G_product_known mono_product_known rfl (hr.mono (by decide)) rfl F.g_product_known k_product_known b_product_known (da_cons (de_var 0) (da_cons
    (de_var 1) (da_cons (de_var 3) da_nil))))) (by decide)) da_nil))))
theorem sc_back_known : FnScope ["q", "a", "b"] ["q", "a"] (defScope sback_known) := ⟨rfl, rfl, rfl, by decide +kernel, rfl, by decide +kernel, by decide +kernel⟩
theorem ok_back_known (F : Ft K mg) {fd : FuncData} (FD : FunD K "back_known" "back_known" (defArgs sback_known) (defBody sback_known) (defScope sback_known) [] [] (He.ga K "back_known") fd) : FnOk P w K mg base (L2.CX P w) 2 (He.ga K "back_known") fd ["q", "a"] (spF K (clsOf K) 2 F_back_known) ∧ Binds K fd ["q", "a"] [] ∧ PySem.W.keepIn K (.ref (He.ga K "back_known")) = true := by
  obtain ⟨fd_product_known, FD_product_known⟩ := F.d_product_known
  obtain ⟨G_product_known, b_product_known, k_product_known⟩ := ok_product_known (P := P) (w := w) (base := base) F FD_product_known
  have S := sc_back_known
  refine ⟨ok_def (N := ["q", "a", "b"]) (ps := ["q", "a"]) (t := den_back_known) FD S fun cdv A outer s H E c hK hcls hr hp => ?_, FD.bindsN fun _ _ _ _ _ _ us hl => match us, hl with | [_, _], _ => rfl, FD.kp⟩
  have hu := room_u hr
  obtain ⟨cK, cH0, cHs0, cB0, ccls⟩ := c
  dsimp only at hK hcls
  subst hK hcls
  exact
    (dss_one (ds_ret (de_ix (ixd rfl) gIx_mono (de_lc (own := [("b", 2)]) rfl S.nd (di_range1 rfl F.m_range (de_var 0)) (blkOk_by (by kernel_rfl)) (fun
    s_ H_ C_ cl_ fp_ => (dg_name 2 S.nd)) (fun s_ H_ C_ cl_ fp_ => (dts_one (dt_cmp (opd_eq rfl (room_64 hu)) gEq_mono (de_call G_product_known mono_product_known
    rfl (hr.mono (by decide)) rfl F.g_product_known k_product_known b_product_known (da_cons (de_var 0) (da_cons (de_var 1) (da_cons (de_var 2) da_nil))))
    de_int rfl))) (fun s_ H_ C_ cl_ fp_ => (de_var 2)) (by decide)) de_int (fun _ _ => rfl))))
theorem sc_lead_of : FnScope ["row", "place", "number"] ["row"] (defScope slead_of) := ⟨rfl, rfl, rfl, by decide +kernel, rfl, by decide +kernel, by decide +kernel⟩
theorem ok_lead_of (F : Ft K mg) {fd : FuncData} (FD : FunD K "lead_of" "lead_of" (defArgs slead_of) (defBody slead_of) (defScope slead_of) [] [] (He.ga K "lead_of") fd) : FnOk P w K mg base (L2.CX P w) 1 (He.ga K "lead_of") fd ["row"] (spF K (clsOf K) 1 F_lead_of) ∧ Binds K fd ["row"] [] ∧ PySem.W.keepIn K (.ref (He.ga K "lead_of")) = true := by
  have S := sc_lead_of
  refine ⟨ok_def (N := ["row", "place", "number"]) (ps := ["row"]) (t := den_lead_of) FD S fun cdv A outer s H E c hK hcls hr hp => ?_, FD.bindsN fun _ _ _ _ _ _ us hl => match us, hl with | [_], _ => rfl, FD.kp⟩
  have hu := room_u hr
  obtain ⟨cK, cH0, cHs0, cB0, ccls⟩ := c
  dsimp only at hK hcls
  subst hK hcls
  exact
    (dss_cons (ds_for hp rfl (di_enum rfl F.m_enumerate (de_var 0)) (dg_tup rfl (dgs_cons (dg_name 1 S.nd) (dgs_cons (dg_name 2 S.nd) dgs_nil))) (dss_one
    (ds_if (dt_cmp (opd_ne rfl (room_64 hu)) gEq_mono (de_var 2) de_int rfl) (dss_one (ds_ret (de_var 1))) dss_nil))) (dss_one (ds_ret de_non)))
theorem sc_scaled : FnScope ["q", "row"] ["q", "row"] (defScope sscaled) := ⟨rfl, rfl, rfl, by decide +kernel, rfl, by decide +kernel, by decide +kernel⟩
theorem ok_scaled (F : Ft K mg) {fd : FuncData} (FD : FunD K "scaled" "scaled" (defArgs sscaled) (defBody sscaled) (defScope sscaled) [] [] (He.ga K "scaled") fd) : FnOk P w K mg base (L2.CX P w) 3 (He.ga K "scaled") fd ["q", "row"] (spF K (clsOf K) 2 F_scaled) ∧ Binds K fd ["q", "row"] [] ∧ PySem.W.keepIn K (.ref (He.ga K "scaled")) = true := by
  obtain ⟨fd_back_known, FD_back_known⟩ := F.d_back_known
  obtain ⟨G_back_known, b_back_known, k_back_known⟩ := ok_back_known (P := P) (w := w) (base := base) F FD_back_known
  obtain ⟨fd_lead_of, FD_lead_of⟩ := F.d_lead_of
  obtain ⟨G_lead_of, b_lead_of, k_lead_of⟩ := ok_lead_of (P := P) (w := w) (base := base) F FD_lead_of
  obtain ⟨fd_row_times, FD_row_times⟩ := F.d_row_times
  obtain ⟨G_row_times, b_row_times, k_row_times⟩ := ok_row_times (P := P) (w := w) (base := base) F FD_row_times
  have S := sc_scaled
  refine ⟨ok_def (N := ["q", "row"]) (ps := ["q", "row"]) (t := den_scaled) FD S fun cdv A outer s H E c hK hcls hr hp => ?_, FD.bindsN fun _ _ _ _ _ _ us hl => match us, hl with | [_, _], _ => rfl, FD.kp⟩
  have hu := room_u hr
  obtain ⟨cK, cH0, cHs0, cB0, ccls⟩ := c
  dsimp only at hK hcls
  subst hK hcls
  exact
    (dss_one (ds_ret (de_call G_row_times mono_row_times rfl (hr.mono (by decide)) rfl F.g_row_times k_row_times b_row_times (da_cons (de_var 0) (da_cons
    (de_call G_back_known mono_back_known rfl (hr.mono (by decide)) rfl F.g_back_known k_back_known b_back_known (da_cons (de_var 0) (da_cons (de_ix (ixd
    rfl) gIx_mono (de_var 1) (de_call G_lead_of mono_lead_of rfl (hr.mono (by decide)) rfl F.g_lead_of k_lead_of b_lead_of (da_cons (de_var 1) da_nil))
    (fun _ _ => rfl)) da_nil))) (da_cons (de_var 1) da_nil))))))
theorem sc_difference_known : FnScope ["q", "a", "b"] ["q", "a", "b"] (defScope sdifference_known) := ⟨rfl, rfl, rfl, by decide +kernel, rfl, by decide +kernel, by decide +kernel⟩
theorem ok_difference_known (F : Ft K mg) {fd : FuncData} (FD : FunD K "difference_known" "difference_known" (defArgs sdifference_known) (defBody sdifference_known) (defScope sdifference_known) [] [] (He.ga K "difference_known") fd) : FnOk P w K mg base (L2.CX P w) 1 (He.ga K "difference_known") fd ["q", "a", "b"] (spF K (clsOf K) 3 F_difference_known) ∧ Binds K fd ["q", "a", "b"] [] ∧ PySem.W.keepIn K (.ref (He.ga K "difference_known")) = true := by
  have S := sc_difference_known
  refine ⟨ok_def (N := ["q", "a", "b"]) (ps := ["q", "a", "b"]) (t := den_difference_known) FD S fun cdv A outer s H E c hK hcls hr hp => ?_, FD.bindsN fun _ _ _ _ _ _ us hl => match us, hl with | [_, _, _], _ => rfl, FD.kp⟩
  have hu := room_u hr
  obtain ⟨cK, cH0, cHs0, cB0, ccls⟩ := c
  dsimp only at hK hcls
  subst hK hcls
  exact
    (dss_cons (ds_if (dt_cmp (opd_eq rfl (room_64 hu)) gEq_mono (de_var 0) de_int rfl) (dss_one (ds_ret (de_bin opd_xor gI_mono (de_var 1) (de_var 2))))
    dss_nil) (dss_one (ds_ret (de_bin opd_mod gI_mono (de_bin opd_sub gI_mono (de_var 1) (de_var 2)) (de_var 0)))))
theorem sc_row_less : FnScope ["q", "row", "often", "far", "a", "b"] ["q", "row", "often", "far"] (defScope srow_less) := ⟨rfl, rfl, rfl, by decide +kernel, rfl, by decide +kernel, by decide +kernel⟩
theorem ok_row_less (F : Ft K mg) {fd : FuncData} (FD : FunD K "row_less" "row_less" (defArgs srow_less) (defBody srow_less) (defScope srow_less) [] [] (He.ga K "row_less") fd) : FnOk P w K mg base (L2.CX P w) 2 (He.ga K "row_less") fd ["q", "row", "often", "far"] (spF K (clsOf K) 4 F_row_less) ∧ Binds K fd ["q", "row", "often", "far"] [] ∧ PySem.W.keepIn K (.ref (He.ga K "row_less")) = true := by
  obtain ⟨fd_difference_known, FD_difference_known⟩ := F.d_difference_known
  obtain ⟨G_difference_known, b_difference_known, k_difference_known⟩ := ok_difference_known (P := P) (w := w) (base := base) F FD_difference_known
  obtain ⟨fd_product_known, FD_product_known⟩ := F.d_product_known
  obtain ⟨G_product_known, b_product_known, k_product_known⟩ := ok_product_known (P := P) (w := w) (base := base) F FD_product_known
  have S := sc_row_less
  refine ⟨ok_def (N := ["q", "row", "often", "far", "a", "b"]) (ps := ["q", "row", "often", "far"]) (t := den_row_less) FD S fun cdv A outer s H E c hK hcls hr hp => ?_, FD.bindsN fun _ _ _ _ _ _ us hl => match us, hl with | [_, _, _, _], _ => rfl, FD.kp⟩
  have hu := room_u hr
  obtain ⟨cK, cH0, cHs0, cB0, ccls⟩ := c
  dsimp only at hK hcls
  subst hK hcls
  exact
    (dss_one (ds_ret (de_callTy (cd_tuple rfl) (g1_mono fTuple_mono) rfl F.m_tuple (by first | rfl | decide) (da_cons (de_lc (own := [("a", 4), ("b", 5)])
    rfl S.nd (di_zip rfl F.m_zip (de_var 1) (de_var 3)) (blkOk_by (by kernel_rfl)) (fun s_ H_ C_ cl_ fp_ => (dg_tup rfl (dgs_cons (dg_name 4 S.nd) (dgs_cons
    (dg_name 5 S.nd) dgs_nil)))) (fun s_ H_ C_ cl_ fp_ => dts_nil) (fun s_ H_ C_ cl_ fp_ => (de_call G_difference_known mono_difference_known rfl (hr.mono
    (by decide)) rfl F.g_difference_known k_difference_known b_difference_known (da_cons (de_var 0) (da_cons (de_var 4) (da_cons (de_call G_product_known
    mono_product_known rfl (hr.mono (by decide)) rfl F.g_product_known k_product_known b_product_known (da_cons (de_var 0) (da_cons (de_var 2) (da_cons
    (de_var 5) da_nil)))) da_nil))))) (by decide)) da_nil))))
theorem sc_with_one : FnScope ["q", "found", "row", "one", "place"] ["q", "found", "row"] (defScope swith_one) := ⟨rfl, rfl, rfl, by decide +kernel, rfl, by decide +kernel, by decide +kernel⟩
theorem ok_with_one (F : Ft K mg) {fd : FuncData} (FD : FunD K "with_one" "with_one" (defArgs swith_one) (defBody swith_one) (defScope swith_one) [] [] (He.ga K "with_one") fd) : FnOk P w K mg base (L2.CX P w) 4 (He.ga K "with_one") fd ["q", "found", "row"] (spF K (clsOf K) 3 F_with_one) ∧ Binds K fd ["q", "found", "row"] [] ∧ PySem.W.keepIn K (.ref (He.ga K "with_one")) = true := by
  obtain ⟨fd_lead_of, FD_lead_of⟩ := F.d_lead_of
  obtain ⟨G_lead_of, b_lead_of, k_lead_of⟩ := ok_lead_of (P := P) (w := w) (base := base) F FD_lead_of
  obtain ⟨fd_row_less, FD_row_less⟩ := F.d_row_less
  obtain ⟨G_row_less, b_row_less, k_row_less⟩ := ok_row_less (P := P) (w := w) (base := base) F FD_row_less
  obtain ⟨fd_scaled, FD_scaled⟩ := F.d_scaled
  obtain ⟨G_scaled, b_scaled, k_scaled⟩ := ok_scaled (P := P) (w := w) (base := base) F FD_scaled
  have S := sc_with_one
  refine ⟨ok_def (N := ["q", "found", "row", "one", "place"]) (ps := ["q", "found", "row"]) (t := den_with_one) FD S fun cdv A outer s H E c hK hcls hr hp => ?_, FD.bindsN fun _ _ _ _ _ _ us hl => match us, hl with | [_, _, _], _ => rfl, FD.kp⟩
  have hu := room_u hr
  obtain ⟨cK, cH0, cHs0, cB0, ccls⟩ := c
  dsimp only at hK hcls
  subst hK hcls
  exact
    (dss_cons (ds_for hp rfl (di_any (de_var 1)) (dg_name 3 S.nd) (dss_one (ds_set 2 S.nd (de_call G_row_less mono_row_less rfl (hr.mono (by decide)) rfl
    F.g_row_less k_row_less b_row_less (da_cons (de_var 0) (da_cons (de_var 2) (da_cons (de_ix (ixd rfl) gIx_mono (de_var 2) (de_call G_lead_of mono_lead_of
    rfl (hr.mono (by decide)) rfl F.g_lead_of k_lead_of b_lead_of (da_cons (de_var 3) da_nil)) (fun _ _ => rfl)) (da_cons (de_var 3) da_nil)))))))) (dss_cons
    (ds_if (dt_cmp opd_isN gIsN_mono (de_call G_lead_of mono_lead_of rfl (hr.mono (by decide)) rfl F.g_lead_of k_lead_of b_lead_of (da_cons (de_var 2) da_nil))
    de_non rfl) (dss_one (ds_ret (de_var 1))) dss_nil) (dss_cons (ds_set 2 S.nd (de_call G_scaled mono_scaled rfl (hr.mono (by decide)) rfl F.g_scaled k_scaled
    b_scaled (da_cons (de_var 0) (da_cons (de_var 2) da_nil)))) (dss_cons (ds_set 4 S.nd (de_call G_lead_of mono_lead_of rfl (hr.mono (by decide)) rfl F.g_lead_of
    k_lead_of b_lead_of (da_cons (de_var 2) da_nil))) (dss_one (ds_ret (de_sortedRev hu rfl F.m_sorted (de_bin (opd_add rfl) gAdd_mono (de_lc (own := [("one",
    3)]) rfl S.nd (di_any (de_var 1)) (blkOk_by (by kernel_rfl)) (fun s_ H_ C_ cl_ fp_ => (dg_name 3 S.nd)) (fun s_ H_ C_ cl_ fp_ => dts_nil) (fun s_ H_
    C_ cl_ fp_ => (de_call G_row_less mono_row_less rfl (hr.mono (by decide)) rfl F.g_row_less k_row_less b_row_less (da_cons (de_var 0) (da_cons (de_var
    3) (da_cons (de_ix (ixd rfl) gIx_mono (de_var 3) (de_var 4) (fun _ _ => rfl)) (da_cons (de_var 2) da_nil)))))) (by decide)) (de_lst (da_cons (de_var
    2) da_nil))))))))))
theorem sc_lowest_known : FnScope ["q", "rows", "found", "row"] ["q", "rows"] (defScope slowest_known) := ⟨rfl, rfl, rfl, by decide +kernel, rfl, by decide +kernel, by decide +kernel⟩
theorem ok_lowest_known (F : Ft K mg) {fd : FuncData} (FD : FunD K "lowest_known" "lowest_known" (defArgs slowest_known) (defBody slowest_known) (defScope slowest_known) [] [] (He.ga K "lowest_known") fd) : FnOk P w K mg base (L2.CX P w) 5 (He.ga K "lowest_known") fd ["q", "rows"] (spF K (clsOf K) 2 F_lowest_known) ∧ Binds K fd ["q", "rows"] [] ∧ PySem.W.keepIn K (.ref (He.ga K "lowest_known")) = true := by
  obtain ⟨fd_with_one, FD_with_one⟩ := F.d_with_one
  obtain ⟨G_with_one, b_with_one, k_with_one⟩ := ok_with_one (P := P) (w := w) (base := base) F FD_with_one
  have S := sc_lowest_known
  refine ⟨ok_def (N := ["q", "rows", "found", "row"]) (ps := ["q", "rows"]) (t := den_lowest_known) FD S fun cdv A outer s H E c hK hcls hr hp => ?_, FD.bindsN fun _ _ _ _ _ _ us hl => match us, hl with | [_, _], _ => rfl, FD.kp⟩
  have hu := room_u hr
  obtain ⟨cK, cH0, cHs0, cB0, ccls⟩ := c
  dsimp only at hK hcls
  subst hK hcls
  exact
    (dss_cons (ds_set 2 S.nd (de_lst da_nil)) (dss_cons (ds_for hp rfl (di_any (de_var 1)) (dg_name 3 S.nd) (dss_one (ds_close 2 (ds_set 2 S.nd (de_call
    G_with_one mono_with_one rfl (hr.mono (by decide)) rfl F.g_with_one k_with_one b_with_one (da_cons (de_var 0) (da_cons (de_var 2) (da_cons (de_callTy
    (cd_tuple rfl) (g1_mono fTuple_mono) rfl F.m_tuple (by first | rfl | decide) (da_cons (de_var 3) da_nil)) da_nil)))))))) (dss_one (ds_retO 2))))
theorem sc_null_rows : FnScope ["q", "rows", "many", "lows", "leads", "found", "free", "row", "lead", "low"] ["q", "rows", "many"] (defScope snull_rows) := ⟨rfl, rfl, rfl, by decide +kernel, rfl, by decide +kernel, by decide +kernel⟩
theorem ok_null_rows (F : Ft K mg) {fd : FuncData} (FD : FunD K "null_rows" "null_rows" (defArgs snull_rows) (defBody snull_rows) (defScope snull_rows) [] [] (He.ga K "null_rows") fd) : FnOk P w K mg base (L2.CX P w) 6 (He.ga K "null_rows") fd ["q", "rows", "many"] (spF K (clsOf K) 3 F_null_rows) ∧ Binds K fd ["q", "rows", "many"] [] ∧ PySem.W.keepIn K (.ref (He.ga K "null_rows")) = true := by
  obtain ⟨fd_difference_known, FD_difference_known⟩ := F.d_difference_known
  obtain ⟨G_difference_known, b_difference_known, k_difference_known⟩ := ok_difference_known (P := P) (w := w) (base := base) F FD_difference_known
  obtain ⟨fd_lead_of, FD_lead_of⟩ := F.d_lead_of
  obtain ⟨G_lead_of, b_lead_of, k_lead_of⟩ := ok_lead_of (P := P) (w := w) (base := base) F FD_lead_of
  obtain ⟨fd_lowest_known, FD_lowest_known⟩ := F.d_lowest_known
  obtain ⟨G_lowest_known, b_lowest_known, k_lowest_known⟩ := ok_lowest_known (P := P) (w := w) (base := base) F FD_lowest_known
  have S := sc_null_rows
  refine ⟨ok_def (N := ["q", "rows", "many", "lows", "leads", "found", "free", "row", "lead", "low"]) (ps := ["q", "rows", "many"]) (t := den_null_rows) FD S fun cdv A outer s H E c hK hcls hr hp => ?_, FD.bindsN fun _ _ _ _ _ _ us hl => match us, hl with | [_, _, _], _ => rfl, FD.kp⟩
  have hu := room_u hr
  obtain ⟨cK, cH0, cHs0, cB0, ccls⟩ := c
  dsimp only at hK hcls
  subst hK hcls
  exact
    (dss_cons (ds_set 3 S.nd (de_call G_lowest_known mono_lowest_known rfl (hr.mono (by decide)) rfl F.g_lowest_known k_lowest_known b_lowest_known (da_cons
    (de_var 0) (da_cons (de_var 1) da_nil)))) (dss_cons (ds_close 3 (ds_setLc 4 [] (own := [("row", 7)]) rfl S.nd (di_any (de_var 3)) (blkOk_by (by kernel_rfl))
    (fun s_ H_ C_ cl_ fp_ => (dg_name 7 S.nd)) (fun s_ H_ C_ cl_ fp_ => dts_nil) (fun s_ H_ C_ cl_ fp_ => (de_call G_lead_of mono_lead_of rfl (hr.mono (by
    decide)) rfl F.g_lead_of k_lead_of b_lead_of (da_cons (de_var 7) da_nil))) (by decide))) (dss_cons (ds_set 5 S.nd (de_lst da_nil)) (dss_cons (ds_for
    hp rfl (di_range1 rfl F.m_range (de_var 2)) (dg_name 6 S.nd) (dss_one (ds_close 4 (ds_if (dt_cmp (opd_notInA rfl (room_65 hu)) gInA_mono (de_var 6)
    (de_var 4) rfl) (dss_cons (ds_set 7 S.nd (de_bin (opd_mulT rfl) gMulT_mono (de_lst (da_cons de_int da_nil)) (de_var 2))) (dss_cons (ds_six 7 de_int
    (de_var 6)) (dss_cons (ds_close 4 (ds_close 3 (ds_for hp rfl (di_zip rfl F.m_zip (de_var 4) (de_var 3)) (dg_tup rfl (dgs_cons (dg_name 8 S.nd) (dgs_cons
    (dg_name 9 S.nd) dgs_nil))) (dss_one (ds_six 7 (de_call G_difference_known mono_difference_known rfl (hr.mono (by decide)) rfl F.g_difference_known
    k_difference_known b_difference_known (da_cons (de_var 0) (da_cons de_int (da_cons (de_ix (ixd rfl) gIx_mono (de_var 9) (de_var 6) (fun _ _ => rfl))
    da_nil)))) (de_var 8)))))) (dss_one (ds_close 7 (ds_meth 5 PySem.F.slot_list_append PySem.F.type_list_append mt_append mAppend_ok mAppend_mono (da_cons
    (de_callTy (cd_tuple rfl) (g1_mono fTuple_mono) rfl F.m_tuple (by first | rfl | decide) (da_cons (de_var 7) da_nil)) da_nil))))))) dss_nil)))) (dss_one
    (ds_retO 5))))))
theorem sc_rows_across : FnScope ["q", "rows"] ["q", "rows"] (defScope srows_across) := ⟨rfl, rfl, rfl, by decide +kernel, rfl, by decide +kernel, by decide +kernel⟩
theorem ok_rows_across (F : Ft K mg) {fd : FuncData} (FD : FunD K "rows_across" "rows_across" (defArgs srows_across) (defBody srows_across) (defScope srows_across) [] [] (He.ga K "rows_across") fd) : FnOk P w K mg base (L2.CX P w) 7 (He.ga K "rows_across") fd ["q", "rows"] (spF K (clsOf K) 2 F_rows_across) ∧ Binds K fd ["q", "rows"] [] ∧ PySem.W.keepIn K (.ref (He.ga K "rows_across")) = true := by
  obtain ⟨fd_lowest_known, FD_lowest_known⟩ := F.d_lowest_known
  obtain ⟨G_lowest_known, b_lowest_known, k_lowest_known⟩ := ok_lowest_known (P := P) (w := w) (base := base) F FD_lowest_known
  obtain ⟨fd_null_rows, FD_null_rows⟩ := F.d_null_rows
  obtain ⟨G_null_rows, b_null_rows, k_null_rows⟩ := ok_null_rows (P := P) (w := w) (base := base) F FD_null_rows
  have S := sc_rows_across
  refine ⟨ok_def (N := ["q", "rows"]) (ps := ["q", "rows"]) (t := den_rows_across) FD S fun cdv A outer s H E c hK hcls hr hp => ?_, FD.bindsN fun _ _ _ _ _ _ us hl => match us, hl with | [_, _], _ => rfl, FD.kp⟩
  have hu := room_u hr
  obtain ⟨cK, cH0, cHs0, cB0, ccls⟩ := c
  dsimp only at hK hcls
  subst hK hcls
  exact
    (dss_one (ds_ret (de_callTy (cd_tuple rfl) (g1_mono fTuple_mono) rfl F.m_tuple (by first | rfl | decide) (da_cons (de_call G_lowest_known mono_lowest_known
    rfl (hr.mono (by decide)) rfl F.g_lowest_known k_lowest_known b_lowest_known (da_cons (de_var 0) (da_cons (de_call G_null_rows mono_null_rows rfl (hr.mono
    (by decide)) rfl F.g_null_rows k_null_rows b_null_rows (da_cons (de_var 0) (da_cons (de_var 1) (da_cons (de_kst F.c_PLACES rfl) da_nil)))) da_nil)))
    da_nil))))
theorem sc_dual_line : FnScope ["q", "line"] ["q", "line"] (defScope sdual_line) := ⟨rfl, rfl, rfl, by decide +kernel, rfl, by decide +kernel, by decide +kernel⟩
theorem ok_dual_line (F : Ft K mg) {fd : FuncData} (FD : FunD K "dual_line" "dual_line" (defArgs sdual_line) (defBody sdual_line) (defScope sdual_line) [] [] (He.ga K "dual_line") fd) : FnOk P w K mg base (L2.CX P w) 8 (He.ga K "dual_line") fd ["q", "line"] (spF K (clsOf K) 2 F_dual_line) ∧ Binds K fd ["q", "line"] [] ∧ PySem.W.keepIn K (.ref (He.ga K "dual_line")) = true := by
  obtain ⟨fd_look_field, FD_look_field⟩ := F.d_look_field
  obtain ⟨G_look_field, b_look_field, k_look_field⟩ := ok_look_field (P := P) (w := w) (base := base) F FD_look_field
  obtain ⟨fd_rows_across, FD_rows_across⟩ := F.d_rows_across
  obtain ⟨G_rows_across, b_rows_across, k_rows_across⟩ := ok_rows_across (P := P) (w := w) (base := base) F FD_rows_across
  have S := sc_dual_line
  refine ⟨ok_def (N := ["q", "line"]) (ps := ["q", "line"]) (t := den_dual_line) FD S fun cdv A outer s H E c hK hcls hr hp => ?_, FD.bindsN fun _ _ _ _ _ _ us hl => match us, hl with | [_, _], _ => rfl, FD.kp⟩
  have hu := room_u hr
  obtain ⟨cK, cH0, cHs0, cB0, ccls⟩ := c
  dsimp only at hK hcls
  subst hK hcls
  exact
    (dss_cons (ds_expr (de_call G_look_field mono_look_field rfl (hr.mono (by decide)) rfl F.g_look_field k_look_field b_look_field (da_cons (de_var 0)
    da_nil))) (dss_one (ds_ret (de_call G_rows_across mono_rows_across rfl (hr.mono (by decide)) rfl F.g_rows_across k_rows_across b_rows_across (da_cons
    (de_var 0) (da_cons (de_var 1) da_nil))))))
theorem sc__law_which : FnScope ["_law_e", "_law_told", "_law_names"] ["_law_e"] (defScope s_law_which) := ⟨rfl, rfl, rfl, by decide +kernel, rfl, by decide +kernel, by decide +kernel⟩
theorem ok__law_which (F : Ft K mg) {fd : FuncData} (FD : FunD K "_law_which" "_law_which" (defArgs s_law_which) (defBody s_law_which) (defScope s_law_which) [] [] (He.ga K "_law_which") fd) : FnE P w K mg base errs 1 (He.ga K "_law_which") fd ["_law_e"] F__law_which ∧ Binds K fd ["_law_e"] [] ∧ PySem.W.keepIn K (.ref (He.ga K "_law_which")) = true := by
  have S := sc__law_which
  refine ⟨ok_defE (N := ["_law_e", "_law_told", "_law_names"]) (ps := ["_law_e"]) (t := den__law_which) FD S rfl fun cdv A outer s H c a oe x hK hcls hr hx hz hf => ?_, FD.bindsN fun _ _ _ _ _ _ us hl => match us, hl with | [_], _ => rfl, FD.kp⟩
  have hu := room_uH hr
  obtain ⟨cK, cH0, cHs0, cB0, ccls⟩ := c
  dsimp only at hK hcls
  subst hK hcls
  exact
    (dss_cons (ds_set 1 S.nd (de_lst (da_cons (de_isE 0 F.xi hx (by decide) (List.mem_cons_self) hz hf rfl F.g_NoField rfl F.m_isinstance) (da_cons (de_isE
    0 F.xi hx (by decide) (List.mem_cons_self) hz hf rfl F.g_NoOver rfl F.m_isinstance) (da_cons (de_isE 0 F.xi hx (by decide) (List.mem_cons_self) hz hf
    rfl F.g_NoLine rfl F.m_isinstance) da_nil))))) (dss_cons (ds_close 1 (ds_set 1 S.nd (de_bin (opd_add rfl) gAdd_mono (de_var 1) (de_lst (da_cons (de_isE
    0 F.xi hx (by decide) (List.mem_cons_self) hz hf rfl F.g_NoSix rfl F.m_isinstance) (da_cons (de_isE 0 F.xi hx (by decide) (List.mem_cons_self) hz hf
    rfl F.g_NoTurning rfl F.m_isinstance) (da_cons (de_isE 0 F.xi hx (by decide) (List.mem_cons_self) hz hf rfl F.g_NoThree rfl F.m_isinstance) da_nil)))))))
    (dss_cons (ds_close 1 (ds_set 1 S.nd (de_bin (opd_add rfl) gAdd_mono (de_var 1) (de_lst (da_cons (de_isE 0 F.xi hx (by decide) (List.mem_cons_self)
    hz hf rfl F.g_NoRegulus rfl F.m_isinstance) (da_cons (de_isE 0 F.xi hx (by decide) (List.mem_cons_self) hz hf rfl F.g_NoPartial rfl F.m_isinstance)
    (da_cons (de_isE 0 F.xi hx (by decide) (List.mem_cons_self) hz hf rfl F.g_NoSpread rfl F.m_isinstance) da_nil))))))) (dss_cons (ds_close 1 (ds_set 1
    S.nd (de_bin (opd_add rfl) gAdd_mono (de_var 1) (de_lst (da_cons (de_isE 0 F.xi hx (by decide) (List.mem_cons_self) hz hf rfl F.g_NoSet rfl F.m_isinstance)
    (da_cons (de_isE 0 F.xi hx (by decide) (List.mem_cons_self) hz hf rfl F.g_NoFrame rfl F.m_isinstance) (da_cons (de_isE 0 F.xi hx (by decide) (List.mem_cons_self)
    hz hf rfl F.g_NoFigure rfl F.m_isinstance) da_nil))))))) (dss_cons (ds_close 1 (ds_set 1 S.nd (de_bin (opd_add rfl) gAdd_mono (de_var 1) (de_lst (da_cons
    (de_isE 0 F.xi hx (by decide) (List.mem_cons_self) hz hf rfl F.g_NoPlane rfl F.m_isinstance) (da_cons (de_isE 0 F.xi hx (by decide) (List.mem_cons_self)
    hz hf rfl F.g_TooGreat rfl F.m_isinstance) (da_cons (de_isE 0 F.xi hx (by decide) (List.mem_cons_self) hz hf rfl F.g_TooMany rfl F.m_isinstance) da_nil)))))))
    (dss_cons (ds_close 1 (ds_set 1 S.nd (de_bin (opd_add rfl) gAdd_mono (de_var 1) (de_lst (da_cons (de_isE 0 F.xi hx (by decide) (List.mem_cons_self)
    hz hf rfl F.g_NoPaper rfl F.m_isinstance) (da_cons (de_isE 0 F.xi hx (by decide) (List.mem_cons_self) hz hf rfl F.g_NoText rfl F.m_isinstance) (da_cons
    (de_isE 0 F.xi hx (by decide) (List.mem_cons_self) hz hf rfl F.g_NoSaying rfl F.m_isinstance) (da_cons (de_isE 0 F.xi hx (by decide) (List.mem_cons_self)
    hz hf rfl F.g_NoName rfl F.m_isinstance) da_nil)))))))) (dss_cons (ds_set 2 S.nd de_str) (dss_cons (ds_set 2 S.nd (de_bin (opd_add rfl) gAdd_mono (de_var
    2) de_str)) (dss_cons (ds_close 1 (ds_if (dt_w (dw_or (dt_cmp (opd_ne rfl (room_64 hu)) gEq_mono (de_mv PySem.F.plainAttrs_list PySem.F.slot_list_count
    PySem.F.type_list_count (mt_countD (room_65 hu)) vCount_mono (vCount_ok rfl) (de_var 1) (da_cons de_bl da_nil)) de_int rfl) (dw_or1 (dt_not (dt_val
    (de_isVE 0 F.xi hx (List.mem_cons_self) hz hf rfl F.m_ValueError rfl F.m_isinstance)))))) (dss_one (ds_ret de_str)) dss_nil)) (dss_one (ds_close 1 (ds_ret
    (de_ix (ixd rfl) gIx_mono (de_mv PySem.F.plainAttrs_str PySem.F.slot_str_split PySem.F.type_str_split (mt_split) vSplit_mono vSplit_ok (de_var 2) (da_cons
    de_str da_nil)) (de_mv PySem.F.plainAttrs_list PySem.F.slot_list_index PySem.F.type_list_index (mt_indexD (room_65 hu)) vIndex_mono (vIndex_ok rfl)
    (de_var 1) (da_cons de_bl da_nil)) (fun _ _ => rfl))))))))))))))
theorem sc__law_said : FnScope ["_law_q", "_law_line_here", "_law_e"] ["_law_q", "_law_line_here"] (defScope s_law_said) := ⟨rfl, rfl, rfl, by decide +kernel, rfl, by decide +kernel, by decide +kernel⟩
theorem ok__law_said (F : Ft K mg) {fd : FuncData} (FD : FunD K "_law_said" "_law_said" (defArgs s_law_said) (defBody s_law_said) (defScope s_law_said) [] [] (He.ga K "_law_said") fd) : FnOk P w K mg base (L2.CX P w) 9 (He.ga K "_law_said") fd ["_law_q", "_law_line_here"] (spF K (clsOf K) 2 F__law_said) ∧ Binds K fd ["_law_q", "_law_line_here"] [] ∧ PySem.W.keepIn K (.ref (He.ga K "_law_said")) = true := by
  obtain ⟨fd__law_which, FD__law_which⟩ := F.d__law_which
  obtain ⟨G__law_which, b__law_which, k__law_which⟩ := ok__law_which (P := P) (w := w) (base := base) F FD__law_which
  obtain ⟨fd_dual_line, FD_dual_line⟩ := F.d_dual_line
  obtain ⟨G_dual_line, b_dual_line, k_dual_line⟩ := ok_dual_line (P := P) (w := w) (base := base) F FD_dual_line
  have S := sc__law_said
  refine ⟨ok_def (N := ["_law_q", "_law_line_here", "_law_e"]) (ps := ["_law_q", "_law_line_here"]) (t := den__law_said) FD S fun cdv A outer s H E c hK hcls hr hp => ?_, FD.bindsN fun _ _ _ _ _ _ us hl => match us, hl with | [_, _], _ => rfl, FD.kp⟩
  have hu := room_u hr
  obtain ⟨cK, cH0, cHs0, cB0, ccls⟩ := c
  dsimp only at hK hcls
  subst hK hcls
  exact
    (dss_one (ds_try 2 F.xi (fun _ => rfl) ⟨rfl, by decide, .inl F.g_SpreadError⟩ S.nd (m_ret (m_call mono_dual_line (m_cons dVar_mono (m_cons dVar_mono
    m_nil)))) (fun a x => (m_ret (m_callE (mono__law_which a x)))) (fun pn_ xe_ hp_ => (dss_one (ds_ret (de_call G_dual_line mono_dual_line rfl (hr.mono
    (by decide)) rfl F.g_dual_line k_dual_line b_dual_line (da_cons (de_var 0) (da_cons (de_var 1) da_nil)))))) (fun a oe x pn_ hx hz hf => (dss_one (ds_ret
    (de_callE 2 G__law_which (mono__law_which a x) hx ⟨(hr.mono (j := 1) (by decide)).dp, (hr.mono (j := 1) (by decide)).un⟩ (List.mem_cons_self) hz hf
    rfl F.g__law_which k__law_which b__law_which))))))
theorem sc__law_no_field : FnScope ["_law_bag_here"] ["_law_bag_here"] (defScope s_law_no_field) := ⟨rfl, rfl, rfl, by decide +kernel, rfl, by decide +kernel, by decide +kernel⟩
theorem ok__law_no_field (F : Ft K mg) {fd : FuncData} (FD : FunD K "_law_no_field" "_law_no_field" (defArgs s_law_no_field) (defBody s_law_no_field) (defScope s_law_no_field) [] [] (He.ga K "_law_no_field") fd) : FnOk P w K mg base (L2.CX P w) 2 (He.ga K "_law_no_field") fd ["_law_bag_here"] (spF K (clsOf K) 1 F__law_no_field) ∧ Binds K fd ["_law_bag_here"] [] ∧ PySem.W.keepIn K (.ref (He.ga K "_law_no_field")) = true := by
  obtain ⟨fd__law_take, FD__law_take⟩ := F.d__law_take
  obtain ⟨G__law_take, b__law_take, k__law_take⟩ := ok__law_take (P := P) (w := w) (base := base) F FD__law_take
  have S := sc__law_no_field
  refine ⟨ok_def (N := ["_law_bag_here"]) (ps := ["_law_bag_here"]) (t := den__law_no_field) FD S fun cdv A outer s H E c hK hcls hr hp => ?_, FD.bindsN fun _ _ _ _ _ _ us hl => match us, hl with | [_], _ => rfl, FD.kp⟩
  have hu := room_u hr
  obtain ⟨cK, cH0, cHs0, cB0, ccls⟩ := c
  dsimp only at hK hcls
  subst hK hcls
  exact
    (dss_one (ds_ret (de_ix (ixd rfl) gIx_mono (de_lst (da_cons de_int (da_cons de_int (da_cons de_int (da_cons (de_negD de_int) (da_cons de_bl (da_cons
    de_non (da_cons de_str (da_cons (de_lst (da_cons de_int da_nil)) (da_cons (de_tup (da_cons de_int da_nil)) (da_cons (de_bin opd_pow gI_mono de_int de_int)
    (da_cons de_bl (da_cons de_str da_nil))))))))))))) (de_call G__law_take mono__law_take rfl (hr.mono (by decide)) rfl F.g__law_take k__law_take b__law_take
    (da_cons (de_var 0) (da_cons de_int da_nil))) (fun _ _ => rfl))))
theorem sc__law_whole : FnScope ["_law_thing"] ["_law_thing"] (defScope s_law_whole) := ⟨rfl, rfl, rfl, by decide +kernel, rfl, by decide +kernel, by decide +kernel⟩
theorem ok__law_whole (F : Ft K mg) {fd : FuncData} (FD : FunD K "_law_whole" "_law_whole" (defArgs s_law_whole) (defBody s_law_whole) (defScope s_law_whole) [] [] (He.ga K "_law_whole") fd) : FnOk P w K mg base (L2.CX P w) 1 (He.ga K "_law_whole") fd ["_law_thing"] (spF K (clsOf K) 1 F__law_whole) ∧ Binds K fd ["_law_thing"] [] ∧ PySem.W.keepIn K (.ref (He.ga K "_law_whole")) = true := by
  have S := sc__law_whole
  refine ⟨ok_def (N := ["_law_thing"]) (ps := ["_law_thing"]) (t := den__law_whole) FD S fun cdv A outer s H E c hK hcls hr hp => ?_, FD.bindsN fun _ _ _ _ _ _ us hl => match us, hl with | [_], _ => rfl, FD.kp⟩
  have hu := room_u hr
  obtain ⟨cK, cH0, cHs0, cB0, ccls⟩ := c
  dsimp only at hK hcls
  subst hK hcls
  exact
    (dss_one (ds_ret (de_and (de_isi (de_var 0) rfl F.m_isinstance rfl F.m_int (by first | rfl | decide)) (de_one (de_not (de_isi (de_var 0) rfl F.m_isinstance
    rfl F.m_bool (by first | rfl | decide)))))))
theorem sc__law_is_row : FnScope ["_law_q", "_law_thing", "_law_many", "_law_one"] ["_law_q", "_law_thing", "_law_many"] (defScope s_law_is_row) := ⟨rfl, rfl, rfl, by decide +kernel, rfl, by decide +kernel, by decide +kernel⟩
theorem ok__law_is_row (F : Ft K mg) {fd : FuncData} (FD : FunD K "_law_is_row" "_law_is_row" (defArgs s_law_is_row) (defBody s_law_is_row) (defScope s_law_is_row) [] [] (He.ga K "_law_is_row") fd) : FnOk P w K mg base (L2.CX P w) 2 (He.ga K "_law_is_row") fd ["_law_q", "_law_thing", "_law_many"] (spF K (clsOf K) 3 F__law_is_row) ∧ Binds K fd ["_law_q", "_law_thing", "_law_many"] [] ∧ PySem.W.keepIn K (.ref (He.ga K "_law_is_row")) = true := by
  obtain ⟨fd__law_whole, FD__law_whole⟩ := F.d__law_whole
  obtain ⟨G__law_whole, b__law_whole, k__law_whole⟩ := ok__law_whole (P := P) (w := w) (base := base) F FD__law_whole
  have S := sc__law_is_row
  refine ⟨ok_def (N := ["_law_q", "_law_thing", "_law_many", "_law_one"]) (ps := ["_law_q", "_law_thing", "_law_many"]) (t := den__law_is_row) FD S fun cdv A outer s H E c hK hcls hr hp => ?_, FD.bindsN fun _ _ _ _ _ _ us hl => match us, hl with | [_, _, _], _ => rfl, FD.kp⟩
  have hu := room_u hr
  obtain ⟨cK, cH0, cHs0, cB0, ccls⟩ := c
  dsimp only at hK hcls
  subst hK hcls
  exact
    (dss_cons (ds_if (dt_w (dw_or (dt_not (dt_val (de_isi (de_var 1) rfl F.m_isinstance rfl F.m_tuple (by first | rfl | decide)))) (dw_or1 (dt_cmp (opd_ne
    rfl (room_64 hu)) gEq_mono (de_callB (cd_len rfl) (g1_mono fLen_mono) rfl F.m_len (by first | rfl | decide) (da_cons (de_var 1) da_nil)) (de_var 2)
    rfl)))) (dss_one (ds_ret de_bl)) dss_nil) (dss_one (ds_ret (de_callB (cd_all rfl) (g1_mono fBools_mono) rfl F.m_all (by first | rfl | decide) (da_cons
    (de_lc (own := [("_law_one", 3)]) rfl S.nd (di_any (de_var 1)) (blkOk_by (by kernel_rfl)) (fun s_ H_ C_ cl_ fp_ => (dg_name 3 S.nd)) (fun s_ H_ C_ cl_
    fp_ => dts_nil) (fun s_ H_ C_ cl_ fp_ => (de_and (de_call G__law_whole mono__law_whole rfl (hr.mono (by decide)) rfl F.g__law_whole k__law_whole b__law_whole
    (da_cons (de_var 3) da_nil)) (de_one (de_chain opd_le opd_lt gB_mono gB_mono de_int (de_var 3) (de_var 0))))) (by decide)) da_nil)))))
theorem sc__law_is_line : FnScope ["_law_q", "_law_thing", "_law_row"] ["_law_q", "_law_thing"] (defScope s_law_is_line) := ⟨rfl, rfl, rfl, by decide +kernel, rfl, by decide +kernel, by decide +kernel⟩
theorem ok__law_is_line (F : Ft K mg) {fd : FuncData} (FD : FunD K "_law_is_line" "_law_is_line" (defArgs s_law_is_line) (defBody s_law_is_line) (defScope s_law_is_line) [] [] (He.ga K "_law_is_line") fd) : FnOk P w K mg base (L2.CX P w) 4 (He.ga K "_law_is_line") fd ["_law_q", "_law_thing"] (spF K (clsOf K) 2 F__law_is_line) ∧ Binds K fd ["_law_q", "_law_thing"] [] ∧ PySem.W.keepIn K (.ref (He.ga K "_law_is_line")) = true := by
  obtain ⟨fd__law_is_row, FD__law_is_row⟩ := F.d__law_is_row
  obtain ⟨G__law_is_row, b__law_is_row, k__law_is_row⟩ := ok__law_is_row (P := P) (w := w) (base := base) F FD__law_is_row
  obtain ⟨fd__law_lowest, FD__law_lowest⟩ := F.d__law_lowest
  obtain ⟨G__law_lowest, b__law_lowest, k__law_lowest⟩ := ok__law_lowest (P := P) (w := w) (base := base) F FD__law_lowest
  have S := sc__law_is_line
  refine ⟨ok_def (N := ["_law_q", "_law_thing", "_law_row"]) (ps := ["_law_q", "_law_thing"]) (t := den__law_is_line) FD S fun cdv A outer s H E c hK hcls hr hp => ?_, FD.bindsN fun _ _ _ _ _ _ us hl => match us, hl with | [_, _], _ => rfl, FD.kp⟩
  have hu := room_u hr
  obtain ⟨cK, cH0, cHs0, cB0, ccls⟩ := c
  dsimp only at hK hcls
  subst hK hcls
  exact
    (dss_cons (ds_if (dt_w (dw_or (dt_not (dt_val (de_isi (de_var 1) rfl F.m_isinstance rfl F.m_tuple (by first | rfl | decide)))) (dw_or (dt_cmp (opd_ne
    rfl (room_64 hu)) gEq_mono (de_callB (cd_len rfl) (g1_mono fLen_mono) rfl F.m_len (by first | rfl | decide) (da_cons (de_var 1) da_nil)) de_int rfl)
    (dw_or1 (dt_not (dt_val (de_callB (cd_all rfl) (g1_mono fBools_mono) rfl F.m_all (by first | rfl | decide) (da_cons (de_lc (own := [("_law_row", 2)])
    rfl S.nd (di_any (de_var 1)) (blkOk_by (by kernel_rfl)) (fun s_ H_ C_ cl_ fp_ => (dg_name 2 S.nd)) (fun s_ H_ C_ cl_ fp_ => dts_nil) (fun s_ H_ C_ cl_
    fp_ => (de_call G__law_is_row mono__law_is_row rfl (hr.mono (by decide)) rfl F.g__law_is_row k__law_is_row b__law_is_row (da_cons (de_var 0) (da_cons
    (de_var 2) (da_cons de_int da_nil))))) (by decide)) da_nil)))))))) (dss_one (ds_ret de_bl)) dss_nil) (dss_one (ds_ret (de_cmp (opd_eq rfl (room_64 hu))
    gEq_mono (de_call G__law_lowest mono__law_lowest rfl (hr.mono (by decide)) rfl F.g__law_lowest k__law_lowest b__law_lowest (da_cons (de_var 0) (da_cons
    (de_callTy (cd_list rfl) (g1_mono fList_mono) rfl F.m_list (by first | rfl | decide) (da_cons (de_var 1) da_nil)) da_nil))) (de_callTy (cd_list rfl)
    (g1_mono fList_mono) rfl F.m_list (by first | rfl | decide) (da_cons (de_var 1) da_nil)) rfl))))
theorem sc_law : FnScope ["_law_script", "_law_at", "_law_bag_here", "_law_q", "_law_turn", "_law_line_here", "_law_due", "_law_told"] ["_law_script"] (defScope slaw) := ⟨rfl, rfl, rfl, by decide +kernel, rfl, by decide +kernel, by decide +kernel⟩
theorem ok_law (F : Ft K mg) {fd : FuncData} (FD : FunD K "law" "law" (defArgs slaw) (defBody slaw) (defScope slaw) [] [] (He.ga K "law") fd) : FnOk P w K mg base (L2.CX P w) 10 (He.ga K "law") fd ["_law_script"] (spF K (clsOf K) 1 F_law) ∧ Binds K fd ["_law_script"] [] ∧ PySem.W.keepIn K (.ref (He.ga K "law")) = true := by
  obtain ⟨fd__law_bag, FD__law_bag⟩ := F.d__law_bag
  obtain ⟨G__law_bag, b__law_bag, k__law_bag⟩ := ok__law_bag (P := P) (w := w) (base := base) F FD__law_bag
  obtain ⟨fd__law_drawn_line, FD__law_drawn_line⟩ := F.d__law_drawn_line
  obtain ⟨G__law_drawn_line, b__law_drawn_line, k__law_drawn_line⟩ := ok__law_drawn_line (P := P) (w := w) (base := base) F FD__law_drawn_line
  obtain ⟨fd__law_dual, FD__law_dual⟩ := F.d__law_dual
  obtain ⟨G__law_dual, b__law_dual, k__law_dual⟩ := ok__law_dual (P := P) (w := w) (base := base) F FD__law_dual
  obtain ⟨fd__law_is_line, FD__law_is_line⟩ := F.d__law_is_line
  obtain ⟨G__law_is_line, b__law_is_line, k__law_is_line⟩ := ok__law_is_line (P := P) (w := w) (base := base) F FD__law_is_line
  obtain ⟨fd__law_no_field, FD__law_no_field⟩ := F.d__law_no_field
  obtain ⟨G__law_no_field, b__law_no_field, k__law_no_field⟩ := ok__law_no_field (P := P) (w := w) (base := base) F FD__law_no_field
  obtain ⟨fd__law_said, FD__law_said⟩ := F.d__law_said
  obtain ⟨G__law_said, b__law_said, k__law_said⟩ := ok__law_said (P := P) (w := w) (base := base) F FD__law_said
  obtain ⟨fd__law_take, FD__law_take⟩ := F.d__law_take
  obtain ⟨G__law_take, b__law_take, k__law_take⟩ := ok__law_take (P := P) (w := w) (base := base) F FD__law_take
  have S := sc_law
  refine ⟨ok_def (N := ["_law_script", "_law_at", "_law_bag_here", "_law_q", "_law_turn", "_law_line_here", "_law_due", "_law_told"]) (ps := ["_law_script"]) (t := den_law) FD S fun cdv A outer s H E c hK hcls hr hp => ?_, FD.bindsN fun _ _ _ _ _ _ us hl => match us, hl with | [_], _ => rfl, FD.kp⟩
  have hu := room_u hr
  obtain ⟨cK, cH0, cHs0, cB0, ccls⟩ := c
  dsimp only at hK hcls
  subst hK hcls
  exact
    (dss_cons (ds_for hp rfl (di_range1 rfl F.m_range (de_callB (cd_max2 rfl) g2i_mono rfl F.m_max (by first | rfl | decide) (da_cons de_int (da_cons (de_callB
    (cd_min2 rfl) g2i_mono rfl F.m_min (by first | rfl | decide) (da_cons de_int (da_cons (de_scLen 0 rfl rfl F.m_len) da_nil))) da_nil)))) (dg_name 1 S.nd)
    (dss_cons (ds_set 2 S.nd (de_call G__law_bag mono__law_bag rfl (hr.mono (by decide)) rfl F.g__law_bag k__law_bag b__law_bag (da_cons (de_var 0) (da_cons
    (de_var 1) da_nil)))) (dss_bag 2 (dss_cons (ds_set 3 S.nd (de_bin (opd_add rfl) gAdd_mono de_int (de_call G__law_take mono__law_take rfl (hr.mono (by
    decide)) rfl F.g__law_take k__law_take b__law_take (da_cons (de_var 2) (da_cons de_int da_nil))))) (dss_cons (ds_for hp rfl (di_range1 rfl F.m_range
    de_int) (dg_name 4 S.nd) (dss_cons (ds_set 5 S.nd (de_call G__law_drawn_line mono__law_drawn_line rfl (hr.mono (by decide)) rfl F.g__law_drawn_line
    k__law_drawn_line b__law_drawn_line (da_cons (de_var 3) (da_cons (de_var 2) da_nil)))) (dss_cons (ds_set 6 S.nd (de_call G__law_dual mono__law_dual
    rfl (hr.mono (by decide)) rfl F.g__law_dual k__law_dual b__law_dual (da_cons (de_var 3) (da_cons (de_var 5) da_nil)))) (dss_cons (ds_set 7 S.nd (de_call
    G__law_said mono__law_said rfl (hr.mono (by decide)) rfl F.g__law_said k__law_said b__law_said (da_cons (de_var 3) (da_cons (de_var 5) da_nil)))) (dss_one
    (ds_if (dt_w (dw_or (dt_not (dt_val (de_call G__law_is_line mono__law_is_line rfl (hr.mono (by decide)) rfl F.g__law_is_line k__law_is_line b__law_is_line
    (da_cons (de_var 3) (da_cons (de_var 7) da_nil))))) (dw_or (dt_cmp (opd_ne rfl (room_64 hu)) gEq_mono (de_var 7) (de_var 6) rfl) (dw_or1 (dt_cmp (opd_ne
    rfl (room_64 hu)) gEq_mono (de_call G__law_said mono__law_said rfl (hr.mono (by decide)) rfl F.g__law_said k__law_said b__law_said (da_cons (de_var
    3) (da_cons (de_var 7) da_nil))) (de_var 5) rfl))))) (dss_one (ds_ret de_bl)) dss_nil)))))) (dss_one (ds_if (dt_cmp (opd_ne rfl (room_64 hu)) gEq_mono
    (de_call G__law_said mono__law_said rfl (hr.mono (by decide)) rfl F.g__law_said k__law_said b__law_said (da_cons (de_call G__law_no_field mono__law_no_field
    rfl (hr.mono (by decide)) rfl F.g__law_no_field k__law_no_field b__law_no_field (da_cons (de_var 2) da_nil)) (da_cons (de_tup (da_cons (de_tup (da_cons
    de_int (da_cons de_int (da_cons de_int (da_cons de_int da_nil))))) (da_cons (de_tup (da_cons de_int (da_cons de_int (da_cons de_int (da_cons de_int
    da_nil))))) da_nil))) da_nil))) de_str rfl) (dss_one (ds_ret de_bl)) dss_nil))))))) (dss_one (ds_ret de_bl)))
end
end DL
set_option maxHeartbeats 0
namespace DL
open PySem PySem.Spec PyProof.Rows L2
def hd (x : Str) (i : Nat) : He.DefD := ⟨(x, none), x, x, defArgs (top i), defBody (top i), defScope (top i), [], []⟩
def fn : List He.DefD := [hd "_law_bag" 42, hd "_law_take" 43, hd "_law_times" 46, hd "_law_often" 49, hd "_law_back" 47, hd "_law_plus" 44, hd "_law_more" 48, hd "_law_minus" 45, hd "_law_lowest" 50, hd "_law_line" 51, hd "_law_drawn_line" 60, hd "_law_all_points" 52, hd "_law_dual" 58, hd "is_whole" 23, hd "look_field" 24, hd "product_known" 26, hd "row_times" 30, hd "back_known" 27, hd "lead_of" 32, hd "scaled" 33, hd "difference_known" 25, hd "row_less" 31, hd "with_one" 34, hd "lowest_known" 35, hd "null_rows" 37, hd "rows_across" 39, hd "dual_line" 40, hd "_law_which" 56, hd "_law_said" 59, hd "_law_no_field" 57, hd "_law_whole" 53, hd "_law_is_row" 54, hd "_law_is_line" 55, hd "law" 61]
def fa : List He.Fa := [.glo "_law_bag", .glo "_law_take", .glo "_law_times", .glo "_law_often", .glo "_law_back", .glo "_law_plus", .glo "_law_more", .glo "_law_minus", .glo "_law_lowest", .glo "_law_line", .glo "_law_drawn_line", .glo "_law_all_points", .glo "_law_dual", .glo "is_whole", .glo "look_field", .glo "product_known", .glo "row_times", .glo "back_known", .glo "lead_of", .glo "scaled", .glo "difference_known", .glo "row_less", .glo "with_one", .glo "lowest_known", .glo "null_rows", .glo "rows_across", .glo "dual_line", .glo "_law_which", .glo "_law_said", .glo "_law_no_field", .glo "_law_whole", .glo "_law_is_row", .glo "_law_is_line", .glo "law", .free "ValueError", .free "abs", .free "all", .free "bool", .free "enumerate", .free "int", .free "isinstance", .free "len", .free "list", .free "max", .free "min", .free "range", .free "sorted", .free "tuple", .free "zip", .exc "NoField", .glo "SpreadError", .glo "NoField", .glo "NoOver", .glo "NoLine", .glo "NoSix", .glo "NoTurning", .glo "NoThree", .glo "NoRegulus", .glo "NoPartial", .glo "NoSpread", .glo "NoSet", .glo "NoFrame", .glo "NoFigure", .glo "NoPlane", .glo "TooGreat", .glo "TooMany", .glo "NoPaper", .glo "NoText", .glo "NoSaying", .glo "NoName"]
def exB (K : PySem.W.Frag) : Bool := (xiB K "SpreadError" errs && (kstB K "KNOWN" (.tuple [(.int 2), (.int 3), (.int 4), (.int 5)]) && (kstB K "PLACES" (.int 4) && true)))
theorem ft_of {w : World} {h : Heap} {K : PySem.W.Frag} {mg : Str → Option Value} (X : K.In h) (G : h.Ns mainGlobals mg) (c : He.SaysX fa fn [] [] exB w h K) : Ft K mg := by
  have m := c.more
  have e0 := m
  obtain ⟨h0, e1⟩ := He.ba e0
  obtain ⟨h1, e2⟩ := He.ba e1
  obtain ⟨h2, e3⟩ := He.ba e2
  exact {
    d__law_bag := c.t.d.def_ 0 (d := hd "_law_bag" 42) rfl
    g__law_bag := He.glo_ok X G (c.t.d.fact 0 (f := .glo "_law_bag") rfl)
    d__law_take := c.t.d.def_ 1 (d := hd "_law_take" 43) rfl
    g__law_take := He.glo_ok X G (c.t.d.fact 1 (f := .glo "_law_take") rfl)
    d__law_times := c.t.d.def_ 2 (d := hd "_law_times" 46) rfl
    g__law_times := He.glo_ok X G (c.t.d.fact 2 (f := .glo "_law_times") rfl)
    d__law_often := c.t.d.def_ 3 (d := hd "_law_often" 49) rfl
    g__law_often := He.glo_ok X G (c.t.d.fact 3 (f := .glo "_law_often") rfl)
    d__law_back := c.t.d.def_ 4 (d := hd "_law_back" 47) rfl
    g__law_back := He.glo_ok X G (c.t.d.fact 4 (f := .glo "_law_back") rfl)
    d__law_plus := c.t.d.def_ 5 (d := hd "_law_plus" 44) rfl
    g__law_plus := He.glo_ok X G (c.t.d.fact 5 (f := .glo "_law_plus") rfl)
    d__law_more := c.t.d.def_ 6 (d := hd "_law_more" 48) rfl
    g__law_more := He.glo_ok X G (c.t.d.fact 6 (f := .glo "_law_more") rfl)
    d__law_minus := c.t.d.def_ 7 (d := hd "_law_minus" 45) rfl
    g__law_minus := He.glo_ok X G (c.t.d.fact 7 (f := .glo "_law_minus") rfl)
    d__law_lowest := c.t.d.def_ 8 (d := hd "_law_lowest" 50) rfl
    g__law_lowest := He.glo_ok X G (c.t.d.fact 8 (f := .glo "_law_lowest") rfl)
    d__law_line := c.t.d.def_ 9 (d := hd "_law_line" 51) rfl
    g__law_line := He.glo_ok X G (c.t.d.fact 9 (f := .glo "_law_line") rfl)
    d__law_drawn_line := c.t.d.def_ 10 (d := hd "_law_drawn_line" 60) rfl
    g__law_drawn_line := He.glo_ok X G (c.t.d.fact 10 (f := .glo "_law_drawn_line") rfl)
    d__law_all_points := c.t.d.def_ 11 (d := hd "_law_all_points" 52) rfl
    g__law_all_points := He.glo_ok X G (c.t.d.fact 11 (f := .glo "_law_all_points") rfl)
    d__law_dual := c.t.d.def_ 12 (d := hd "_law_dual" 58) rfl
    g__law_dual := He.glo_ok X G (c.t.d.fact 12 (f := .glo "_law_dual") rfl)
    d_is_whole := c.t.d.def_ 13 (d := hd "is_whole" 23) rfl
    g_is_whole := He.glo_ok X G (c.t.d.fact 13 (f := .glo "is_whole") rfl)
    d_look_field := c.t.d.def_ 14 (d := hd "look_field" 24) rfl
    g_look_field := He.glo_ok X G (c.t.d.fact 14 (f := .glo "look_field") rfl)
    d_product_known := c.t.d.def_ 15 (d := hd "product_known" 26) rfl
    g_product_known := He.glo_ok X G (c.t.d.fact 15 (f := .glo "product_known") rfl)
    d_row_times := c.t.d.def_ 16 (d := hd "row_times" 30) rfl
    g_row_times := He.glo_ok X G (c.t.d.fact 16 (f := .glo "row_times") rfl)
    d_back_known := c.t.d.def_ 17 (d := hd "back_known" 27) rfl
    g_back_known := He.glo_ok X G (c.t.d.fact 17 (f := .glo "back_known") rfl)
    d_lead_of := c.t.d.def_ 18 (d := hd "lead_of" 32) rfl
    g_lead_of := He.glo_ok X G (c.t.d.fact 18 (f := .glo "lead_of") rfl)
    d_scaled := c.t.d.def_ 19 (d := hd "scaled" 33) rfl
    g_scaled := He.glo_ok X G (c.t.d.fact 19 (f := .glo "scaled") rfl)
    d_difference_known := c.t.d.def_ 20 (d := hd "difference_known" 25) rfl
    g_difference_known := He.glo_ok X G (c.t.d.fact 20 (f := .glo "difference_known") rfl)
    d_row_less := c.t.d.def_ 21 (d := hd "row_less" 31) rfl
    g_row_less := He.glo_ok X G (c.t.d.fact 21 (f := .glo "row_less") rfl)
    d_with_one := c.t.d.def_ 22 (d := hd "with_one" 34) rfl
    g_with_one := He.glo_ok X G (c.t.d.fact 22 (f := .glo "with_one") rfl)
    d_lowest_known := c.t.d.def_ 23 (d := hd "lowest_known" 35) rfl
    g_lowest_known := He.glo_ok X G (c.t.d.fact 23 (f := .glo "lowest_known") rfl)
    d_null_rows := c.t.d.def_ 24 (d := hd "null_rows" 37) rfl
    g_null_rows := He.glo_ok X G (c.t.d.fact 24 (f := .glo "null_rows") rfl)
    d_rows_across := c.t.d.def_ 25 (d := hd "rows_across" 39) rfl
    g_rows_across := He.glo_ok X G (c.t.d.fact 25 (f := .glo "rows_across") rfl)
    d_dual_line := c.t.d.def_ 26 (d := hd "dual_line" 40) rfl
    g_dual_line := He.glo_ok X G (c.t.d.fact 26 (f := .glo "dual_line") rfl)
    d__law_which := c.t.d.def_ 27 (d := hd "_law_which" 56) rfl
    g__law_which := He.glo_ok X G (c.t.d.fact 27 (f := .glo "_law_which") rfl)
    d__law_said := c.t.d.def_ 28 (d := hd "_law_said" 59) rfl
    g__law_said := He.glo_ok X G (c.t.d.fact 28 (f := .glo "_law_said") rfl)
    d__law_no_field := c.t.d.def_ 29 (d := hd "_law_no_field" 57) rfl
    g__law_no_field := He.glo_ok X G (c.t.d.fact 29 (f := .glo "_law_no_field") rfl)
    d__law_whole := c.t.d.def_ 30 (d := hd "_law_whole" 53) rfl
    g__law_whole := He.glo_ok X G (c.t.d.fact 30 (f := .glo "_law_whole") rfl)
    d__law_is_row := c.t.d.def_ 31 (d := hd "_law_is_row" 54) rfl
    g__law_is_row := He.glo_ok X G (c.t.d.fact 31 (f := .glo "_law_is_row") rfl)
    d__law_is_line := c.t.d.def_ 32 (d := hd "_law_is_line" 55) rfl
    g__law_is_line := He.glo_ok X G (c.t.d.fact 32 (f := .glo "_law_is_line") rfl)
    d_law := c.t.d.def_ 33 (d := hd "law" 61) rfl
    g_law := He.glo_ok X G (c.t.d.fact 33 (f := .glo "law") rfl)
    m_ValueError := He.free_ok X G (c.t.d.fact 34 (f := .free "ValueError") rfl)
    m_abs := He.free_ok X G (c.t.d.fact 35 (f := .free "abs") rfl)
    m_all := He.free_ok X G (c.t.d.fact 36 (f := .free "all") rfl)
    m_bool := He.free_ok X G (c.t.d.fact 37 (f := .free "bool") rfl)
    m_enumerate := He.free_ok X G (c.t.d.fact 38 (f := .free "enumerate") rfl)
    m_int := He.free_ok X G (c.t.d.fact 39 (f := .free "int") rfl)
    m_isinstance := He.free_ok X G (c.t.d.fact 40 (f := .free "isinstance") rfl)
    m_len := He.free_ok X G (c.t.d.fact 41 (f := .free "len") rfl)
    m_list := He.free_ok X G (c.t.d.fact 42 (f := .free "list") rfl)
    m_max := He.free_ok X G (c.t.d.fact 43 (f := .free "max") rfl)
    m_min := He.free_ok X G (c.t.d.fact 44 (f := .free "min") rfl)
    m_range := He.free_ok X G (c.t.d.fact 45 (f := .free "range") rfl)
    m_sorted := He.free_ok X G (c.t.d.fact 46 (f := .free "sorted") rfl)
    m_tuple := He.free_ok X G (c.t.d.fact 47 (f := .free "tuple") rfl)
    m_zip := He.free_ok X G (c.t.d.fact 48 (f := .free "zip") rfl)
    x_NoField := xf_ok X G (c.t.d.fact 51 (f := .glo "NoField") rfl) (c.t.d.fact 49 (f := .exc "NoField") rfl)
    g_SpreadError := He.glo_ok X G (c.t.d.fact 50 (f := .glo "SpreadError") rfl)
    g_NoField := He.glo_ok X G (c.t.d.fact 51 (f := .glo "NoField") rfl)
    g_NoOver := He.glo_ok X G (c.t.d.fact 52 (f := .glo "NoOver") rfl)
    g_NoLine := He.glo_ok X G (c.t.d.fact 53 (f := .glo "NoLine") rfl)
    g_NoSix := He.glo_ok X G (c.t.d.fact 54 (f := .glo "NoSix") rfl)
    g_NoTurning := He.glo_ok X G (c.t.d.fact 55 (f := .glo "NoTurning") rfl)
    g_NoThree := He.glo_ok X G (c.t.d.fact 56 (f := .glo "NoThree") rfl)
    g_NoRegulus := He.glo_ok X G (c.t.d.fact 57 (f := .glo "NoRegulus") rfl)
    g_NoPartial := He.glo_ok X G (c.t.d.fact 58 (f := .glo "NoPartial") rfl)
    g_NoSpread := He.glo_ok X G (c.t.d.fact 59 (f := .glo "NoSpread") rfl)
    g_NoSet := He.glo_ok X G (c.t.d.fact 60 (f := .glo "NoSet") rfl)
    g_NoFrame := He.glo_ok X G (c.t.d.fact 61 (f := .glo "NoFrame") rfl)
    g_NoFigure := He.glo_ok X G (c.t.d.fact 62 (f := .glo "NoFigure") rfl)
    g_NoPlane := He.glo_ok X G (c.t.d.fact 63 (f := .glo "NoPlane") rfl)
    g_TooGreat := He.glo_ok X G (c.t.d.fact 64 (f := .glo "TooGreat") rfl)
    g_TooMany := He.glo_ok X G (c.t.d.fact 65 (f := .glo "TooMany") rfl)
    g_NoPaper := He.glo_ok X G (c.t.d.fact 66 (f := .glo "NoPaper") rfl)
    g_NoText := He.glo_ok X G (c.t.d.fact 67 (f := .glo "NoText") rfl)
    g_NoSaying := He.glo_ok X G (c.t.d.fact 68 (f := .glo "NoSaying") rfl)
    g_NoName := He.glo_ok X G (c.t.d.fact 69 (f := .glo "NoName") rfl)
    c_KNOWN := kst_ok X G h1
    c_PLACES := kst_ok X G h2
    xi := xi_ok h0 }
def loose0 : List Str := ["SpreadError", "NoField", "NoOver", "NoLine", "NoSix", "NoTurning", "NoThree", "NoRegulus", "NoPartial", "NoSpread", "NoSet", "NoFrame", "NoFigure", "NoPlane", "TooGreat", "TooMany", "NoPaper", "NoText", "NoSaying", "NoName", "KNOWN", "is_whole", "look_field", "difference_known", "product_known", "back_known", "PLACES", "row_times", "row_less", "lead_of"]
def loose1 : List Str := ["scaled", "with_one", "lowest_known", "null_rows", "rows_across", "dual_line", "_law_bag", "_law_take", "_law_plus", "_law_minus", "_law_times", "_law_back", "_law_more", "_law_often", "_law_lowest", "_law_line", "_law_all_points", "_law_whole", "_law_is_row", "_law_is_line", "_law_which", "_law_no_field", "_law_dual", "_law_said", "_law_drawn_line"]
abbrev loose : List Str := loose0 ++ loose1
abbrev R : PySem.W.OpenRow := PySem.W.OpenLaw.row PySem.Challenge.rw_spreadplanes_k68_dual_lines
abbrev hk : PySem.W.Hook := He.hookX 4 fa fn [] [] exB
def ob (s : PySem.W.SharedT) : He.AlX := He.obsX 4 fa fn [] [] exB (HandSHeadRun.getT s)
theorem ob_eq (s : PySem.W.SharedT) : ob s = hk.obs s.abs := He.obsX_eq (HandSHeadRun.getT_eq s)
theorem run (w : World) : HandSHeadRun.RunEq R (PySem.W.view R.prog [61]) hk ob 6000 loose w := by
  intro os
  kernel_rfl
end DL
open PySem PySem.W PySem.Calls PyProof.Rows
theorem PySem.Challenge.cw_spreadplanes_k68_dual_lines_holds : PySem.Challenge.rw_spreadplanes_k68_dual_lines.Holds := by
  w_on; o_law
  refine HandSHeadRun.head_any (r := OpenLaw.row PySem.Challenge.rw_spreadplanes_k68_dual_lines) (q := view (OpenLaw.row PySem.Challenge.rw_spreadplanes_k68_dual_lines).prog [61]) (H := DL.hk) (ob := DL.ob) (M := 6000) (loose := DL.loose) (d := HandSHeadRun.topDef (OpenLaw.row PySem.Challenge.rw_spreadplanes_k68_dual_lines).prog 61) (kwd := []) DL.ob_eq
    (by kernel_rfl) (fun s => by kernel_rfl) DL.run (by kernel_rfl) (by kernel_rfl) (by kernel_rfl) (by rfl) (by first | assumption | decide +kernel) (by decide +kernel) ⟨rfl, rfl, rfl, rfl, rfl, by decide +kernel⟩ ?hw ?hc
  case hw => w_witness2
  case hc =>
    refine DL.walk_ofW (l := PySem.Challenge.rw_spreadplanes_k68_dual_lines) (n := 63) (k := 10) (x := "_law_script") (T := fun w => L2.CX (PySem.Challenge.rw_spreadplanes_k68_dual_lines).prog w) rfl (by decide) (by kernel_rfl) ⟨rfl, by decide, by decide⟩ ?F (fun w H s e s' z => DL.cx_no H s e s' z)
    intro w mg fa h Y G hmg0
    obtain ⟨K, KX, c⟩ := Y
    have hmg : mg ("law" : PySem.Str) = some (.ref fa) := by
      have e : (HandSHeadRun.topDef (OpenLaw.row PySem.Challenge.rw_spreadplanes_k68_dual_lines).prog 61).name = ("law" : PySem.Str) := by kernel_rfl
      rw [← e]
      exact hmg0
    have F := DL.ft_of KX G c
    have ea := hmg.symm.trans F.g_law
    cases ea
    obtain ⟨fd, FD⟩ := F.d_law
    have b := L2.FunD.bindsA (ps := ["_law_script"]) FD fun _ _ _ _ _ _ us hl => match us, hl with | [_], _ => rfl
    exact ⟨K, fd, DL.spF K (DL.clsOf K) 1 DL.F_law, KX, fun s v => b s [v] rfl, fun H a ns hl _ hS => DL.law_start DL.mono_law hS (DL.law_pure ns hl), fun base _ _ => (DL.ok_law F FD).1⟩
