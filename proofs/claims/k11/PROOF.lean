import PyProof.Rows.All
import Wide.All
import OpenK.AllK
import Wide.FinOn
import HandS.ForMost
import HandS.Exc
import HandS.TryOnly
import HandS.ExcOwn
import HandS.WordsExc
import HandS.Defaults
import HandS.Lambda
import HandS.TupAny
import HandS.IsInst
import HandS.SetFor
import HandS.Wide
import HandS.Style
import HandS.Conv
import HandS.NoneIn
import HandS.Walk
import HandS.Rev
import HandS.ExcField
import HandS.ExcIs
import HandS.ExcCtx
import HandS.Dict
import KE.GoesEnum
import HandS.HeadHook1
import HandS.HeadHook2
import HandS.HeadHook4
import HandS.HotCalls
import KE.KExcIs
import HandS.EndTab
import HandS.HeadWalk
import HandS.ExcInit
import HandS.ExcSuper
import KE.KExcSuper
import KE.KSuper
import HandS.HeadHook3
import HandS.HeadEnd
import KE.KStateDown
import HandS.Head0
import HandS.Head1
import HandS.Head2
import PySem.Challenge.RW_staysandturns_k11_logs_of_long_sections
set_option Elab.async false
set_option linter.all false
set_option maxRecDepth 100000
set_option maxHeartbeats 4000000
/-! DL, part 0: plain data, what stands for it in an abstract heap, the state of a def's body (slots), one step of it. -/
namespace DL
open PySem PySem.Spec PyProof.Rows L2

/-- plain data -/
inductive D where
  | non | bl (b : Bool) | int (i : Int) | str (x : Str) | lst (xs : List D) | tup (xs : List D) | dic (kvs : List (Key × D)) | obj (x : Str) (fs : List (Str × D))
  | scr (xs : List D) | raw (v : V) | exn (a : Addr) (d : Option Addr) (x : Str) (fs : List (Str × D))
deriving Inhabited

/-- what a run may end in besides a value: not covered; an exception of an own class, with its one field -/
inductive Er where
  | bad
  | exc (x : Str) (p : Option (Str × D))

/-- the constants of a translation: the written part, own classes' addresses, the tables of code objects -/
structure Ct where
  K : PySem.W.Frag
  ca : Str → Addr
  T : List (Addr × Str)

section
variable (c : Ct) (B : Hp)
mutual
inductive Rep : V → D → Prop
  | non : Rep .non .non
  | bl (b : Bool) : Rep (.bl b) (.bl b)
  | int (i : Int) : Rep (.int i) (.int i)
  | str (x : Str) : Rep (.str x) (.str x)
  | ref {p : Addr} {o : HO} {d : D} : B p = some o → ORep o d → Rep (.ref p) d
  | scr {p : Addr} {vs : List V} {ds : List D} : (Rd B p (.lst vs) ∨ ∀ H, SqL c.K H p vs) → RepL vs ds → Rep (.ref p) (.scr ds)
  | raw (v : V) : Rep v (.raw v)
  | exn0 (a : Addr) (x : Str) : Rep (.ref a) (.exn a none x [])
  | exn1 {a p : Addr} {x : Str} {vs : List (Str × V)} {fs : List (Str × D)} : B p = some (.xd vs) → RepF vs fs → Rep (.ref a) (.exn a (some p) x fs)
inductive ORep : HO → D → Prop
  | lst {vs : List V} {ds : List D} : RepL vs ds → ORep (.lst vs) (.lst ds)
  | tup {ob : Obj} {vs : List V} {ds : List D} : ob.dict = none → ob.cls = .type "tuple" → RepL vs ds → ORep (.frz ob (.tup vs)) (.tup ds)
  | dic {vs : List (Key × V)} {ds : List (Key × D)} : RepK vs ds → ORep (.dK vs) (.dic ds)
  | ins {x : Str} {dx : Addr} {fs : List (Str × V)} {ds : List (Str × D)} : RepF fs ds → ORep (.ins (c.ca x) dx fs) (.obj x ds)
inductive RepL : List V → List D → Prop
  | nil : RepL [] []
  | cons {v : V} {d : D} {vs : List V} {ds : List D} : Rep v d → RepL vs ds → RepL (v :: vs) (d :: ds)
inductive RepK : List (Key × V) → List (Key × D) → Prop
  | nil : RepK [] []
  | cons {k : Key} {v : V} {d : D} {vs : List (Key × V)} {ds : List (Key × D)} : Rep v d → RepK vs ds → RepK ((k, v) :: vs) ((k, d) :: ds)
inductive RepF : List (Str × V) → List (Str × D) → Prop
  | nil : RepF [] []
  | cons {k : Str} {v : V} {d : D} {vs : List (Str × V)} {ds : List (Str × D)} : Rep v d → RepF vs ds → RepF ((k, v) :: vs) ((k, d) :: ds)
end
end
/-- B is part of H -/
def Sub (B H : Hp) : Prop := ∀ a o, B a = some o → H a = some o
theorem Sub.refl (B : Hp) : Sub B B := fun _ _ h => h
theorem Sub.trans {A B C : Hp} (h : Sub A B) (k : Sub B C) : Sub A C := fun a o e => k a o (h a o e)
section
variable {c : Ct} {B B' : Hp}
mutual
theorem Rep.mono (s : Sub B B') {v : V} {d : D} : Rep c B v d → Rep c B' v d
  | .non => .non
  | .bl b => .bl b
  | .int i => .int i
  | .str x => .str x
  | .ref e h => .ref (s _ _ e) (ORep.mono s h)
  | .scr e h => .scr (e.imp (fun z => z.imp (fun z => s _ _ z) fun ⟨o, z⟩ => ⟨o, s _ _ z⟩) id) (RepL.mono s h)
  | .raw v => .raw v
  | .exn0 a x => .exn0 a x
  | .exn1 e h => .exn1 (s _ _ e) (RepF.mono s h)
theorem ORep.mono (s : Sub B B') {o : HO} {d : D} : ORep c B o d → ORep c B' o d
  | .lst h => .lst (RepL.mono s h)
  | .tup e1 e2 h => .tup e1 e2 (RepL.mono s h)
  | .dic h => .dic (RepK.mono s h)
  | .ins h => .ins (RepF.mono s h)
theorem RepL.mono (s : Sub B B') {vs : List V} {ds : List D} : RepL c B vs ds → RepL c B' vs ds
  | .nil => .nil
  | .cons h t => .cons (Rep.mono s h) (RepL.mono s t)
theorem RepK.mono (s : Sub B B') {vs : List (Key × V)} {ds : List (Key × D)} : RepK c B vs ds → RepK c B' vs ds
  | .nil => .nil
  | .cons h t => .cons (Rep.mono s h) (RepK.mono s t)
theorem RepF.mono (s : Sub B B') {vs : List (Str × V)} {ds : List (Str × D)} : RepF c B vs ds → RepF c B' vs ds
  | .nil => .nil
  | .cons h t => .cons (Rep.mono s h) (RepF.mono s t)
end
theorem RepL.length {vs : List V} {ds : List D} : RepL c B vs ds → vs.length = ds.length
  | .nil => rfl
  | .cons _ t => by rw [List.length_cons, List.length_cons, RepL.length t]
theorem RepL.get : ∀ {vs : List V} {ds : List D} {i : Nat} {d : D}, RepL c B vs ds → ds[i]? = some d → ∃ v, vs[i]? = some v ∧ Rep c B v d
  | _, _, _, _, .nil, e => by simp at e
  | _, _, 0, _, .cons h _, e => by simp at e; subst e; exact ⟨_, rfl, h⟩
  | _, _, i + 1, _, .cons _ t, e => by
    obtain ⟨v, e1, e2⟩ := RepL.get (i := i) t (by simpa using e)
    exact ⟨v, by simpa using e1, e2⟩
theorem RepL.getV : ∀ {vs : List V} {ds : List D} {i : Nat} {v : V}, RepL c B vs ds → vs[i]? = some v → ∃ d, ds[i]? = some d ∧ Rep c B v d
  | _, _, _, _, .nil, e => by simp at e
  | _, _, 0, _, .cons h _, e => by simp at e; subst e; exact ⟨_, rfl, h⟩
  | _, _, i + 1, _, .cons _ t, e => by
    obtain ⟨v, e1, e2⟩ := RepL.getV (i := i) t (by simpa using e)
    exact ⟨v, by simpa using e1, e2⟩
theorem RepL.append : ∀ {vs ws : List V} {ds es : List D}, RepL c B vs ds → RepL c B ws es → RepL c B (vs ++ ws) (ds ++ es)
  | _, _, _, _, .nil, k => k
  | _, _, _, _, .cons h t, k => .cons h (RepL.append t k)
theorem RepL.take : ∀ {vs : List V} {ds : List D} (n : Nat), RepL c B vs ds → RepL c B (vs.take n) (ds.take n)
  | _, _, 0, _ => by rw [List.take_zero, List.take_zero]; exact .nil
  | _, _, _ + 1, .nil => .nil
  | _, _, n + 1, .cons h t => .cons h (RepL.take n t)
theorem RepL.drop : ∀ {vs : List V} {ds : List D} (n : Nat), RepL c B vs ds → RepL c B (vs.drop n) (ds.drop n)
  | _, _, 0, k => k
  | _, _, _ + 1, .nil => .nil
  | _, _, n + 1, .cons _ t => RepL.drop n t
theorem RepL.set : ∀ {vs : List V} {ds : List D} (n : Nat) {v : V} {d : D}, Rep c B v d → RepL c B vs ds → RepL c B (vs.set n v) (ds.set n d)
  | _, _, _, _, _, _, .nil => .nil
  | _, _, 0, _, _, r, .cons _ t => .cons r t
  | _, _, n + 1, _, _, r, .cons h t => .cons h (RepL.set n r t)
theorem RepL.reverse : ∀ {vs : List V} {ds : List D}, RepL c B vs ds → RepL c B vs.reverse ds.reverse
  | _, _, .nil => .nil
  | _, _, .cons h t => by rw [List.reverse_cons, List.reverse_cons]; exact RepL.append (RepL.reverse t) (.cons h .nil)
theorem RepL.dropLast {vs : List V} {ds : List D} (h : RepL c B vs ds) : RepL c B vs.dropLast ds.dropLast := by
  rw [List.dropLast_eq_take, List.dropLast_eq_take, h.length]
  exact h.take _
theorem RepL.eraseIdx {vs : List V} {ds : List D} (n : Nat) (h : RepL c B vs ds) : RepL c B (vs.eraseIdx n) (ds.eraseIdx n) := by
  rw [List.eraseIdx_eq_take_drop_succ, List.eraseIdx_eq_take_drop_succ]
  exact (h.take n).append (h.drop (n + 1))
theorem RepL.replicate {v : V} {d : D} (h : Rep c B v d) : ∀ n : Nat, RepL c B (List.replicate n v) (List.replicate n d)
  | 0 => .nil
  | n + 1 => .cons h (RepL.replicate h n)
/-- flat data is its own value -/
theorem Rep.int_iff {v : V} {i : Int} : Rep c B v (.int i) → v = .int i
  | .int _ => rfl
  | .ref _ h => nomatch h
theorem Rep.bl_iff {v : V} {b : Bool} : Rep c B v (.bl b) → v = .bl b
  | .bl _ => rfl
  | .ref _ h => nomatch h
theorem Rep.str_iff {v : V} {x : Str} : Rep c B v (.str x) → v = .str x
  | .str _ => rfl
  | .ref _ h => nomatch h
theorem Rep.non_iff {v : V} : Rep c B v .non → v = .non
  | .non => rfl
  | .ref _ h => nomatch h
end

/-! ### what a slot of a body holds -/
inductive Md where | un | fz | ow
deriving DecidableEq
/-- un: nothing that may be asked; fz: data that stays; ow: an object at l that is the slot's alone (and may be changed) -/
inductive Slot where
  | un (d : D) | fz (v : V) (d : D) | ow (l : Addr) (d : D)
def Slot.md : Slot → Md
  | .un _ => .un
  | .fz _ _ => .fz
  | .ow _ _ => .ow
def Slot.dt : Slot → D
  | .un d => d
  | .fz _ d => d
  | .ow _ d => d
abbrev mds (S : List Slot) : List Md := S.map Slot.md
abbrev dts (S : List Slot) : List D := S.map Slot.dt
/-- a is the object of some slot -/
def InA (S : List Slot) (a : Addr) : Prop := ∃ (i : Nat) (d : D), S[i]? = some (Slot.ow a d)
/-- what may be changed -/
def isMut : HO → Bool
  | .lst _ => true
  | .dK _ => true
  | _ => false
theorem isMut_ntb {o : HO} (h : isMut o = true) : ∀ ps, o ≠ .tbl ps := fun ps z => by rw [z] at h; cases h
def SlotOk (c : Ct) (B : Hp) (σ : L2.St) (H : Hp) (i : Nat) : Slot → Prop
  | .un _ => True
  | .fz v d => σ[i]? = some (some v) ∧ Rep c B v d
  | .ow l d => σ[i]? = some (some (.ref l)) ∧ ∃ o, H l = some o ∧ B l = none ∧ ORep c B o d ∧ isMut o = true
/-- the state: B, the part of H that stays; P, the slots whose object is the caller's -/
structure SR (c : Ct) (P : List (Nat × Addr)) (B : Hp) (σ : L2.St) (H : Hp) (S : List Slot) : Prop where
  len : S.length = σ.length
  ext : Sub B H
  ntb : ∀ a ps, B a ≠ some (.tbl ps)
  tab : LamX.Tabs c.T H
  ok : ∀ (i : Nat) (s : Slot), S[i]? = some s → SlotOk c B σ H i s
  inj : ∀ (i j : Nat) (l : Addr) (d e : D), S[i]? = some (Slot.ow l d) → S[j]? = some (Slot.ow l e) → i = j
  pin : ∀ q ∈ P, ∃ d, S[q.1]? = some (Slot.ow q.2 d)
/-- from one state to a later one -/
structure Step (S S' : List Slot) (B B' H H' : Hp) : Prop where
  grow : Sub B B'
  keep : ∀ a o, H a = some o → ¬ InA S a → (∀ ps, o ≠ .tbl ps) → H' a = some o
  stay : ∀ a, H a ≠ none → H' a ≠ none
  out : ∀ a o, H a = some o → B a = none → ¬ InA S a → isMut o = true → B' a = none
  adr : ∀ a, InA S' a → InA S a ∨ H a = none
section
variable {S S1 S2 : List Slot} {B B1 B2 H H1 H2 : Hp}
theorem Step.refl (S : List Slot) (B H : Hp) : Step S S B B H H := ⟨Sub.refl B, fun _ _ e _ _ => e, fun _ h => h, fun _ _ _ e _ _ => e, fun _ h => .inl h⟩
theorem Step.fresh (s : Step S S1 B B1 H H1) {a : Addr} (h : H1 a = none) : H a = none := by
  cases e : H a with
  | none => rfl
  | some o => exact absurd h (s.stay a (by rw [e]; exact fun z => nomatch z))
theorem Step.not_in (s : Step S S1 B B1 H H1) {a : Addr} {o : HO} (h : H a = some o) (n : ¬ InA S a) : ¬ InA S1 a := fun k => by
  rcases s.adr a k with z | z
  · exact n z
  · rw [h] at z; cases z
theorem Step.trans (s : Step S S1 B B1 H H1) (t : Step S1 S2 B1 B2 H1 H2) : Step S S2 B B2 H H2 :=
  ⟨s.grow.trans t.grow, fun a o e n k => t.keep a o (s.keep a o e n k) (s.not_in e n) k, fun a h => t.stay a (s.stay a h),
   fun a o e b n k => t.out a o (s.keep a o e n (isMut_ntb k)) (s.out a o e b n k) (s.not_in e n) k, fun a h => (t.adr a h).elim (fun z => s.adr a z) fun z => .inr (s.fresh z)⟩
end

/-! ### how a value is had: data that stays; a new object of nobody's; the object of a slot -/
inductive VM where | fz | fr | bw (i : Nat)
deriving DecidableEq
/-- H0: the heap ahead -/
def VR (c : Ct) (H0 B H : Hp) (S : List Slot) (v : V) (d : D) : VM → Prop
  | .fz => Rep c B v d
  | .fr => ∃ p o, v = .ref p ∧ H p = some o ∧ B p = none ∧ ¬ InA S p ∧ ORep c B o d ∧ isMut o = true ∧ H0 p = none
  | .bw i => ∃ l e, S[i]? = some (Slot.ow l e) ∧ v = .ref l
/-- the data behind: a slot's object is read when it is asked -/
def rd (Γ : List D) (d : D) : VM → D
  | .bw i => Γ.getD i .non
  | _ => d
/-- a value that may be read -/
def HV (c : Ct) (B H : Hp) (v : V) (d : D) : Prop := Rep c B v d ∨ ∃ p o, v = .ref p ∧ H p = some o ∧ ORep c B o d ∧ isMut o = true
def VMok (M : List Md) : VM → Prop
  | .bw i => M[i]? = some .ow
  | _ => True
section
variable {c : Ct} {P : List (Nat × Addr)} {B B1 B2 H H0 H1 H2 : Hp} {S S1 S2 : List Slot} {σ : L2.St} {v : V} {d : D} {m : VM}
theorem VR.hv (R : SR c P B σ H S) (h : VR c H0 B H S v d m) : HV c B H v (rd (dts S) d m) := by
  cases m with
  | fz => exact .inl h
  | fr =>
    obtain ⟨p, o, e, h1, _, _, r, hm, _⟩ := h
    exact .inr ⟨p, o, e, h1, r, hm⟩
  | bw i =>
    obtain ⟨l, e, hs, rfl⟩ := h
    obtain ⟨_, o, ho, _, r, hm⟩ := R.ok i _ hs
    refine .inr ⟨l, o, rfl, ho, ?_, hm⟩
    have : (dts S).getD i .non = e := by simp [List.getD, hs, Slot.dt]
    show ORep c B o ((dts S).getD i .non)
    rw [this]
    exact r
/-- behind a step of an expression (the slots' values as they were) -/
theorem VR.step (R1 : SR c P B1 σ H1 S1) (R2 : SR c P B2 σ H2 S2) (s : Step S1 S2 B1 B2 H1 H2) (k : VMok (mds S2) m) (h : VR c H0 B1 H1 S1 v d m) : VR c H0 B2 H2 S2 v d m := by
  cases m with
  | fz => exact Rep.mono s.grow h
  | fr =>
    obtain ⟨p, o, e, h1, h2, h3, r, hm, h0⟩ := h
    exact ⟨p, o, e, s.keep p o h1 h3 (isMut_ntb hm), s.out p o h1 h2 h3 hm, s.not_in h1 h3, r.mono s.grow, hm, h0⟩
  | bw i =>
    obtain ⟨l, e, hs, rfl⟩ := h
    have k' : (mds S2)[i]? = some .ow := k
    rw [List.getElem?_map] at k'
    cases q : S2[i]? with
    | none => rw [q] at k'; cases k'
    | some u =>
      rw [q] at k'
      cases u with
      | un _ => cases k'
      | fz _ _ => cases k'
      | ow l2 e2 =>
        have a1 := (R1.ok i _ hs).1
        have a2 := (R2.ok i _ q).1
        rw [a1] at a2
        cases a2
        exact ⟨l, e2, q, rfl⟩
theorem VR.back (h : VR c H1 B H S v d m) (s : ∀ a, H1 a = none → H0 a = none) : VR c H0 B H S v d m := by
  cases m with
  | fz => exact h
  | fr =>
    obtain ⟨p, o, e, h1, h2, h3, r, hm, h0⟩ := h
    exact ⟨p, o, e, h1, h2, h3, r, hm, s _ h0⟩
  | bw i => exact h
theorem HV.lst {ds : List D} (e : Sub B H) (h : HV c B H v (.lst ds)) : ∃ p vs, v = .ref p ∧ H p = some (.lst vs) ∧ RepL c B vs ds := by
  rcases h with h | ⟨p, o, rfl, ho, h, _⟩
  · cases h with
    | ref e1 h1 => cases h1 with | lst r => exact ⟨_, _, rfl, e _ _ e1, r⟩
  · cases h with | lst r => exact ⟨_, _, rfl, ho, r⟩
theorem HV.rep_tup {ds : List D} (h : HV c B H v (.tup ds)) : Rep c B v (.tup ds) := by
  rcases h with h | ⟨p, o, rfl, ho, h, hm⟩
  · exact h
  · cases h with | tup => cases hm
theorem HV.rep_obj {x : Str} {ds : List (Str × D)} (h : HV c B H v (.obj x ds)) : Rep c B v (.obj x ds) := by
  rcases h with h | ⟨p, o, rfl, ho, h, hm⟩
  · exact h
  · cases h with | ins => cases hm
theorem HV.tup {ds : List D} (e : Sub B H) (h : HV c B H v (.tup ds)) : ∃ p ob vs, v = .ref p ∧ H p = some (.frz ob (.tup vs)) ∧ ob.dict = none ∧ ob.cls = .type "tuple" ∧ RepL c B vs ds := by
  cases h.rep_tup with
  | ref e1 h1 => cases h1 with | tup k1 k2 r => exact ⟨_, _, _, rfl, e _ _ e1, k1, k2, r⟩
theorem HV.dic {ds : List (Key × D)} (e : Sub B H) (h : HV c B H v (.dic ds)) : ∃ p vs, v = .ref p ∧ H p = some (.dK vs) ∧ RepK c B vs ds := by
  rcases h with h | ⟨p, o, rfl, ho, h, _⟩
  · cases h with
    | ref e1 h1 => cases h1 with | dic r => exact ⟨_, _, rfl, e _ _ e1, r⟩
  · cases h with | dic r => exact ⟨_, _, rfl, ho, r⟩
theorem HV.obj {x : Str} {ds : List (Str × D)} (e : Sub B H) (h : HV c B H v (.obj x ds)) : ∃ p dx fs, v = .ref p ∧ H p = some (.ins (c.ca x) dx fs) ∧ RepF c B fs ds := by
  cases h.rep_obj with
  | ref e1 h1 => cases h1 with | ins r => exact ⟨_, _, _, rfl, e _ _ e1, r⟩
theorem HV.int {i : Int} (h : HV c B H v (.int i)) : v = .int i := by
  rcases h with h | ⟨p, o, rfl, ho, h, _⟩
  · exact h.int_iff
  · cases h
theorem HV.bl {b : Bool} (h : HV c B H v (.bl b)) : v = .bl b := by
  rcases h with h | ⟨p, o, rfl, ho, h, _⟩
  · exact h.bl_iff
  · cases h
theorem HV.str {x : Str} (h : HV c B H v (.str x)) : v = .str x := by
  rcases h with h | ⟨p, o, rfl, ho, h, _⟩
  · exact h.str_iff
  · cases h
theorem HV.non (h : HV c B H v .non) : v = .non := by
  rcases h with h | ⟨p, o, rfl, ho, h, _⟩
  · exact h.non_iff
  · cases h

/-! ### new objects -/
theorem Sub.upd_new {o : HO} {p : Addr} (s : Sub B H) (hp : H p = none) : Sub B (upd H p o) := fun a u e => by
  rw [upd_ne (ne_of_none (s a u e) hp)]
  exact s a u e
theorem tabs_new {T : List (Addr × Str)} {p : Addr} {o : HO} (hp : H p = none) (t : LamX.Tabs T H) : LamX.Tabs T (upd H p o) := t.ext fun b u e => by
  rw [upd_ne (ne_of_none e hp)]
  exact e
theorem SlotOk.heap {i : Nat} {s : Slot} (h : SlotOk c B σ H i s) (g : Sub B B1) (k : ∀ l d o, s = .ow l d → H l = some o → B l = none → isMut o = true → H1 l = some o ∧ B1 l = none) : SlotOk c B1 σ H1 i s := by
  cases s with
  | un _ => trivial
  | fz v d => exact ⟨h.1, h.2.mono g⟩
  | ow l d =>
    obtain ⟨h1, o, h2, h3, h4, h5⟩ := h
    obtain ⟨k1, k2⟩ := k l d o rfl h2 h3 h5
    exact ⟨h1, o, k1, k2, h4.mono g, h5⟩
/-- a new object of nobody's -/
theorem SR.new {p : Addr} {o : HO} (R : SR c P B σ H S) (hp : H p = none) : SR c P B σ (upd H p o) S where
  len := R.len
  ext := R.ext.upd_new hp
  ntb := R.ntb
  tab := tabs_new hp R.tab
  ok := fun i s e => (R.ok i s e).heap (Sub.refl B) fun l d u _ h1 h2 _ => ⟨by rw [upd_ne (ne_of_none h1 hp)]; exact h1, h2⟩
  inj := R.inj
  pin := R.pin
theorem SR.bnone (R : SR c P B σ H S) {p : Addr} (hp : H p = none) : B p = none := by
  cases e : B p with
  | none => rfl
  | some o => rw [R.ext p o e] at hp; cases hp
theorem SR.notIn (R : SR c P B σ H S) {p : Addr} (hp : H p = none) : ¬ InA S p := fun ⟨i, d, e⟩ => by
  obtain ⟨_, o, ho, _⟩ := R.ok i _ e
  rw [hp] at ho; cases ho
theorem Step.new (S : List Slot) (B : Hp) {p : Addr} {o : HO} (hp : H p = none) : Step S S B B H (upd H p o) where
  grow := Sub.refl B
  keep := fun a u e _ _ => by rw [upd_ne (ne_of_none e hp)]; exact e
  stay := fun a h => by
    by_cases e : a = p
    · rw [e, upd_same]; exact fun z => nomatch z
    · rw [upd_ne e]; exact h
  out := fun _ _ _ b _ _ => b
  adr := fun _ h => .inl h
/-- an object of nobody's is kept from now on -/
theorem SR.frozen {p : Addr} {o : HO} (R : SR c P B σ H S) (hp : H p = some o) (hb : B p = none) (hn : ¬ InA S p) (ht : ∀ ps, o ≠ .tbl ps) : SR c P (upd B p o) σ H S where
  len := R.len
  ext := fun a u e => by
    by_cases q : a = p
    · rw [q, upd_same] at e; cases e; rw [q]; exact hp
    · rw [upd_ne q] at e; exact R.ext a u e
  ntb := fun a ps e => by
    by_cases q : a = p
    · rw [q, upd_same] at e; cases e; exact ht ps rfl
    · rw [upd_ne q] at e; exact R.ntb a ps e
  tab := R.tab
  ok := fun i s e => (R.ok i s e).heap (fun a u q => by rw [upd_ne (ne_of_none q hb)]; exact q) fun l d u es h1 h2 _ => ⟨h1, by
    rw [upd_ne (fun z => hn ⟨i, d, by rw [← z, ← es]; exact e⟩)]
    exact h2⟩
  inj := R.inj
  pin := R.pin
theorem Sub.upd_at {p : Addr} {o : HO} (hb : B p = none) : Sub B (upd B p o) := fun a u q => by
  rw [upd_ne (ne_of_none q hb)]
  exact q
/-- .. a new one: H p = none ahead -/
theorem Step.frozen (S : List Slot) {p : Addr} {o : HO} (hp : H0 p = none) (hb : B p = none) : Step S S B (upd B p o) H0 H0 where
  grow := Sub.upd_at hb
  keep := fun _ _ e _ _ => e
  stay := fun _ h => h
  out := fun a u e b _ _ => by rw [upd_ne (ne_of_none e hp)]; exact b
  adr := fun _ h => .inl h
/-- a value of nobody's, kept from now on; s: what was since H0 -/
theorem VR.freeze (R : SR c P B1 σ H1 S1) (s : Step S S1 B B1 H0 H1) (h : VR c H0 B1 H1 S1 v d .fr) : ∃ B2, SR c P B2 σ H1 S1 ∧ Step S S1 B B2 H0 H1 ∧ Rep c B2 v d := by
  obtain ⟨p, o, rfl, h1, h2, h3, r, hm, h0⟩ := h
  refine ⟨upd B1 p o, R.frozen h1 h2 h3 (isMut_ntb hm), ⟨s.grow.trans (Sub.upd_at h2), s.keep, s.stay, fun a u e b n k => ?_, s.adr⟩, .ref upd_same (r.mono (Sub.upd_at h2))⟩
  rw [upd_ne (ne_of_none e h0)]
  exact s.out a u e b n k
end
end DL

set_option Elab.async false
set_option linter.all false
set_option maxRecDepth 100000
set_option maxHeartbeats 4000000
/-! DL, part 1: what a piece of syntax makes of the slots' data; names, constants, operators, comparisons, tests. -/
namespace DL
open PySem PySem.Spec PyProof.Rows L2

abbrev Rs (α : Type) := Except Er α
/-- an expression: its data and the slots' data behind -/
abbrev Dn := List D → Rs (D × List D)
abbrev Tn := List D → Rs (Bool × List D)
abbrev An := List D → Rs (List D × List D)
abbrev nope {α : Type} : Rs α := .error .bad
/-- what a body's context tells: constants, the caller's slots, the wish about exceptions -/
structure Fx where
  c : Ct
  io : List Nat
  E : XK
/-- an exception's own dict -/
def Pay (c : Ct) (B H : Hp) (dd : Option Addr) : Option (Str × D) → Prop
  | none => dd = none
  | some (f, d) => ∃ a v, dd = some a ∧ H a = some (.xd [(f, v)]) ∧ Rep c B v d
def EPost (F : Fx) (P : List (Nat × Addr)) (S : List Slot) (B H : Hp) (x : Str) (p : Option (Str × D)) : Prop :=
  ∀ B' H' S' σ' dd, SR F.c P B' σ' H' S' → Step S S' B B' H H' → Pay F.c B' H' dd p → F.E (.ref (F.c.ca x)) dd H'
def PostG {α : Type} (F : Fx) (P : List (Nat × Addr)) (S : List Slot) (B H : Hp) (r : Rs α) (k : α → Prop) : Prop :=
  match r with
  | .ok a => k a
  | .error (.exc x p) => EPost F P S B H x p
  | .error .bad => False
/-- what follows a value -/
def KE (F : Fx) (P : List (Nat × Addr)) (σ : L2.St) (M' : List Md) (m : VM) (S : List Slot) (B H : Hp) (Q : VK) : D × List D → Prop := fun x =>
  ∀ v B' H' S', SR F.c P B' σ H' S' → mds S' = M' → dts S' = x.2 → Step S S' B B' H H' → VR F.c H B' H' S' v x.1 m → Q v H'
/-- what follows a test -/
def KT (F : Fx) (P : List (Nat × Addr)) (σ : L2.St) (M' : List Md) (S : List Slot) (B H : Hp) (Q : Bool → Hp → Prop) : Bool × List D → Prop := fun x =>
  ∀ B' H' S', SR F.c P B' σ H' S' → mds S' = M' → dts S' = x.2 → Step S S' B B' H H' → Q x.1 H'
inductive VRs (c : Ct) (H0 B H : Hp) (S : List Slot) : List V → List D → List VM → Prop
  | nil : VRs c H0 B H S [] [] []
  | cons {v : V} {d : D} {m : VM} {vs : List V} {ds : List D} {ms : List VM} : VR c H0 B H S v d m → VRs c H0 B H S vs ds ms → VRs c H0 B H S (v :: vs) (d :: ds) (m :: ms)
def KA (F : Fx) (P : List (Nat × Addr)) (σ : L2.St) (M' : List Md) (ms : List VM) (S : List Slot) (B H : Hp) (Q : List V → Hp → Prop) : List D × List D → Prop := fun x =>
  ∀ vs B' H' S', SR F.c P B' σ H' S' → mds S' = M' → dts S' = x.2 → Step S S' B B' H H' → VRs F.c H B' H' S' vs x.1 ms → Q vs H'
section
variable {F : Fx} {P : List (Nat × Addr)} {S S1 : List Slot} {B B1 H H1 : Hp} {σ : L2.St} {α β : Type} {k k' : α → Prop} {r : Rs α} {M' : List Md} {m : VM}
theorem EPost.step (s : Step S S1 B B1 H H1) {x : Str} {p : Option (Str × D)} (h : EPost F P S B H x p) : EPost F P S1 B1 H1 x p := fun B' H' S' σ' dd R t y => h B' H' S' σ' dd R (s.trans t) y
theorem PostG.step (s : Step S S1 B B1 H H1) (hk : ∀ a, k a → k' a) (h : PostG F P S B H r k) : PostG F P S1 B1 H1 r k' := by
  cases r with
  | ok a => exact hk a h
  | error e =>
    cases e with
    | bad => exact h
    | exc x p => exact EPost.step s h
theorem PostG.imp (hk : ∀ a, k a → k' a) (h : PostG F P S B H r k) : PostG F P S B H r k' := h.step (Step.refl S B H) hk
theorem PostG.bind {f : α → Rs β} {kb : β → Prop} (h : PostG F P S B H (r >>= f) kb) (hk : ∀ a, r = .ok a → PostG F P S B H (f a) kb → k a) : PostG F P S B H r k := by
  cases r with
  | ok a => exact hk a rfl h
  | error e =>
    cases e with
    | bad => exact h
    | exc x p => exact h
theorem KE.step (s : Step S S1 B B1 H H1) {Q : VK} {x : D × List D} (h : KE F P σ M' m S B H Q x) : KE F P σ M' m S1 B1 H1 Q x := fun v B' H' S' R e1 e2 t w =>
  h v B' H' S' R e1 e2 (s.trans t) (w.back fun a z => s.fresh z)
theorem KT.step (s : Step S S1 B B1 H H1) {Q : Bool → Hp → Prop} {x : Bool × List D} (h : KT F P σ M' S B H Q x) : KT F P σ M' S1 B1 H1 Q x := fun B' H' S' R e1 e2 t => h B' H' S' R e1 e2 (s.trans t)
theorem VRs.back {c : Ct} {H0 : Hp} {vs : List V} {ds : List D} {ms : List VM} (s : ∀ a, H1 a = none → H0 a = none) : VRs c H1 B H S vs ds ms → VRs c H0 B H S vs ds ms
  | .nil => .nil
  | .cons h t => .cons (h.back s) (VRs.back s t)
theorem KA.step {ms : List VM} (s : Step S S1 B B1 H H1) {Q : List V → Hp → Prop} {x : List D × List D} (h : KA F P σ M' ms S B H Q x) : KA F P σ M' ms S1 B1 H1 Q x := fun vs B' H' S' R e1 e2 t w =>
  h vs B' H' S' R e1 e2 (s.trans t) (w.back fun a z => s.fresh z)
end
/-! ### the readings -/
def tE (F : Fx) (M M' : List Md) (m : VM) (den : Dn) : TE := fun σ H Q =>
  ∃ P B S, SR F.c P B σ H S ∧ P.map (·.1) = F.io ∧ mds S = M ∧ PostG F P S B H (den (dts S)) (KE F P σ M' m S B H Q)
def tT (F : Fx) (M M' : List Md) (den : Tn) : TT := fun σ H Q =>
  ∃ P B S, SR F.c P B σ H S ∧ P.map (·.1) = F.io ∧ mds S = M ∧ PostG F P S B H (den (dts S)) (KT F P σ M' S B H Q)
def tA (F : Fx) (M M' : List Md) (ms : List VM) (den : An) : TA := fun σ H Q =>
  ∃ P B S, SR F.c P B σ H S ∧ P.map (·.1) = F.io ∧ mds S = M ∧ PostG F P S B H (den (dts S)) (KA F P σ M' ms S B H Q)
abbrev JE (F : Fx) (X : Cx) (e : Expr) (M M' : List Md) (m : VM) (den : Dn) : Prop := PE X e (tE F M M' m den)
abbrev JT (F : Fx) (X : Cx) (e : Expr) (M M' : List Md) (den : Tn) : Prop := PT X e (tT F M M' den)
abbrev JW (F : Fx) (X : Cx) (e : Expr) (M M' : List Md) (den : Tn) : Prop := PW X e (tT F M M' den)
abbrev JA (F : Fx) (X : Cx) (es : List Expr) (M M' : List Md) (ms : List VM) (den : An) : Prop := PA X es (tA F M M' ms den)
theorem pe_imp {X : Cx} {e : Expr} {t t' : TE} (h : PE X e t) (k : ∀ σ H Q, t' σ H Q → t σ H Q) : PE X e t' := ⟨fun pins s σ H Q I w => h.run pins s σ H Q I (k σ H Q w)⟩
theorem pt_imp {X : Cx} {e : Expr} {t t' : TT} (h : PT X e t) (k : ∀ σ H Q, t' σ H Q → t σ H Q) : PT X e t' := ⟨fun pins s σ H Q I w => h.run pins s σ H Q I (k σ H Q w)⟩
theorem pw_imp {X : Cx} {e : Expr} {t t' : TT} (h : PW X e t) (k : ∀ σ H Q, t' σ H Q → t σ H Q) : PW X e t' := ⟨fun wh pins s σ H Q I w => h.run wh pins s σ H Q I (k σ H Q w)⟩
theorem pa_imp {X : Cx} {es : List Expr} {t t' : TA} (h : PA X es t) (k : ∀ σ H Q, t' σ H Q → t σ H Q) : PA X es t' := ⟨fun pos pins s σ H Q I w => h.run pos pins s σ H Q I (k σ H Q w)⟩

section
variable {F : Fx} {X : Cx} {e a b : Expr} {es : List Expr} {M M1 M2 M3 : List Md} {m ma mb : VM} {da db dd : Dn} {pos : Pos}
/-! ### constants, names -/
theorem je_c {x : D} {v : V} (h : PE X e (tC v)) (r : ∀ B, Rep F.c B v x) : JE F X e M M .fz (fun Γ => .ok (x, Γ)) := pe_imp h fun σ H Q ⟨P, B, S, R, _, hM, po⟩ =>
  po v B H S R hM rfl (Step.refl S B H) (r B)
theorem je_int {i : Int} {j} : JE F X (.Constant (.int i) j pos) M M .fz (fun Γ => .ok (.int i, Γ)) := je_c pe_int fun _ => .int i
theorem je_bl {i : Bool} {j} : JE F X (.Constant (.bool i) j pos) M M .fz (fun Γ => .ok (.bl i, Γ)) := je_c pe_bl fun _ => .bl i
theorem je_non {j} : JE F X (.Constant .none j pos) M M .fz (fun Γ => .ok (.non, Γ)) := je_c pe_non fun _ => .non
theorem je_str {x : Str} {j} : JE F X (.Constant (.str x) j pos) M M .fz (fun Γ => .ok (.str x, Γ)) := je_c pe_str fun _ => .str x
/-- a module's int -/
theorem je_glob {x : Str} {i : Int} (hg : Gl X x) (hm : ∃ t, X.mg x = some (.int i t)) (hd : (x == ("__debug__" : Str)) = false := by decide) : JE F X (.Name x pos) M M .fz (fun Γ => .ok (.int i, Γ)) := by
  obtain ⟨t, hm⟩ := hm
  exact je_c (pe_glob (v := .int i) hg hm ⟨t, rfl⟩ hd) fun _ => .int i
theorem md_at {S : List Slot} {i : Nat} {m : Md} (h : (mds S)[i]? = some m) : ∃ s, S[i]? = some s ∧ s.md = m := by
  rw [List.getElem?_map] at h
  cases q : S[i]? with
  | none => rw [q] at h; cases h
  | some s => rw [q] at h; exact ⟨s, rfl, Option.some.inj h⟩
theorem dt_at {S : List Slot} {i : Nat} {s : Slot} (h : S[i]? = some s) : (dts S).getD i .non = s.dt := by simp [List.getD, h]
/-- the data of a slot that stays -/
theorem je_var {i : Nat} (h : PE X e (tVar i)) (hM : M[i]? = some .fz) : JE F X e M M .fz (fun Γ => .ok (Γ.getD i .non, Γ)) := pe_imp h fun σ H Q ⟨P, B, S, R, _, e, po⟩ => by
  obtain ⟨s, hs, hm⟩ := md_at (S := S) (i := i) (m := .fz) (by rw [e]; exact hM)
  cases s with
  | un _ => cases hm
  | ow _ _ => cases hm
  | fz v d =>
    obtain ⟨h1, h2⟩ := R.ok i _ hs
    refine ⟨v, h1, po v B H S R e rfl (Step.refl S B H) ?_⟩
    show Rep F.c B v ((dts S).getD i .non)
    rw [dt_at hs]
    exact h2
/-- a slot's own object, to be read -/
theorem je_own {i : Nat} (h : PE X e (tVar i)) (hM : M[i]? = some .ow) : JE F X e M M (.bw i) (fun Γ => .ok (.non, Γ)) := pe_imp h fun σ H Q ⟨P, B, S, R, _, e, po⟩ => by
  obtain ⟨s, hs, hm⟩ := md_at (S := S) (i := i) (m := .ow) (by rw [e]; exact hM)
  cases s with
  | un _ => cases hm
  | fz _ _ => cases hm
  | ow l d =>
    obtain ⟨h1, _⟩ := R.ok i _ hs
    exact ⟨.ref l, h1, po (.ref l) B H S R e rfl (Step.refl S B H) ⟨l, d, hs, rfl⟩⟩
/-- a new object is kept from now on -/
theorem je_fz (h : JE F X e M M1 .fr da) : JE F X e M M1 .fz da := pe_imp h fun σ H Q ⟨P, B, S, R, io, e, po⟩ => by
  refine ⟨P, B, S, R, io, e, po.imp fun x k v B' H' S' R' e1 e2 s w => ?_⟩
  obtain ⟨B2, R2, s2, r⟩ := w.freeze R' s
  exact k v B2 H' S' R2 e1 e2 s2 r

/-! ### two operands -/
def binD (op : D → D → Rs D) (ma mb : VM) (a b : Dn) : Dn := fun Γ => a Γ >>= fun x => b x.2 >>= fun y => op (rd y.2 x.1 ma) (rd y.2 y.1 mb) >>= fun z => .ok (z, y.2)
/-- a two-place operation on values is what op tells of the data -/
def OpS (F : Fx) (X : Cx) (f : Value → Value → Sem Value) (m : VM) (op : D → D → Rs D) : Prop :=
  ∃ r, OpR X f r ∧ ∀ P B σ H S x y d e Q, SR F.c P B σ H S → HV F.c B H x d → HV F.c B H y e →
    PostG F P S B H (op d e) (fun z => ∀ v B' H', SR F.c P B' σ H' S → Step S S B B' H H' → VR F.c H B' H' S v z m → Q v H') → r x y H Q
theorem OpS.at2 {r : R2} {op : D → D → Rs D} {σ : L2.St} {H : Hp} {Q : VK} (hr : ∀ P B σ H S x y d e Q, SR F.c P B σ H S → HV F.c B H x d → HV F.c B H y e →
    PostG F P S B H (op d e) (fun z => ∀ v B' H', SR F.c P B' σ H' S → Step S S B B' H H' → VR F.c H B' H' S v z m → Q v H') → r x y H Q) (ka : VMok M2 ma)
    (h : tE F M M2 m (binD op ma mb da db) σ H Q) : tE F M M1 ma da σ H fun x H1 => tE F M1 M2 mb db σ H1 fun y H2 => r x y H2 Q := by
  obtain ⟨P, B, S, R, io, e, po⟩ := h
  refine ⟨P, B, S, R, io, e, po.bind fun x _ po => ?_⟩
  intro v B1 H1 S1 R1 e1 g1 s1 w1
  refine ⟨P, B1, S1, R1, io, e1, ?_⟩
  rw [g1]
  refine (po.step s1 (k' := fun z => KE F P σ M2 m S1 B1 H1 Q z) fun z k => k.step s1).bind fun y _ po => ?_
  intro u B2 H2 S2 R2 e2 g2 s2 w2
  refine hr P B2 σ H2 S2 v u _ _ Q R2 (VR.hv R2 (w1.step R1 R2 s2 (by rw [e2]; exact ka))) (VR.hv R2 w2) ?_
  rw [g2]
  refine (po.step s2 (k' := fun z => KE F P σ M2 m S2 B2 H2 Q z) fun z k => k.step s2).bind fun z _ k => ?_
  intro w B' H' R' s' w'
  exact k w B' H' S2 R' e2 g2 s' w'
theorem je_bin {op : Operator} {f : D → D → Rs D} (ho : OpS F X (binaryOp op) m f) (ha : JE F X a M M1 ma da) (hb : JE F X b M1 M2 mb db) (ka : VMok M2 ma := by first | trivial | rfl) : JE F X (.BinOp a op b pos) M M2 m (binD f ma mb da db) := by
  obtain ⟨r, hr, hs⟩ := ho
  exact pe_imp (pe_op hr ha hb) fun σ H Q h => OpS.at2 hs ka h
theorem je_cmp {op : CmpOp} {f : D → D → Rs D} (ho : OpS F X (compareOp op) m f) (ha : JE F X a M M1 ma da) (hb : JE F X b M1 M2 mb db) (ka : VMok M2 ma := by first | trivial | rfl) (hm : behindInMarks op b = false := by first | exact nomark _ | with_unfolding_all rfl) :
    JE F X (.Compare a [op] [b] pos) M M2 m (binD f ma mb da db) := by
  obtain ⟨r, hr, hs⟩ := ho
  exact pe_imp (pe_cmpR hr ha hb hm) fun σ H Q h => OpS.at2 hs ka h
/-- the truth of a bool -/
def tstD (a : Dn) : Tn := fun Γ => a Γ >>= fun x => match x.1 with
  | .bl b => .ok (b, x.2)
  | _ => nope
theorem tst_of {σ : L2.St} {H : Hp} {Q : Bool → Hp → Prop} (h : tT F M M1 (tstD da) σ H Q) : tE F M M1 .fz da σ H fun x H' => ∃ k, x = .bl k ∧ Q k H' := by
  obtain ⟨P, B, S, R, io, e, po⟩ := h
  refine ⟨P, B, S, R, io, e, po.bind fun x _ po => ?_⟩
  intro v B1 H1 S1 R1 e1 g1 s1 w1
  obtain ⟨x1, x2⟩ := x
  cases x1 with
  | bl b => exact ⟨b, Rep.bl_iff w1, po B1 H1 S1 R1 e1 g1 s1⟩
  | _ => exact False.elim po
theorem jt_cmp {op : CmpOp} {f : D → D → Rs D} (ho : OpS F X (compareOp op) .fz f) (ha : JE F X a M M1 ma da) (hb : JE F X b M1 M2 mb db) (ka : VMok M2 ma := by first | trivial | rfl) (hm : behindInMarks op b = false := by first | exact nomark _ | with_unfolding_all rfl) :
    JT F X (.Compare a [op] [b] pos) M M2 (tstD (binD f ma mb da db)) := by
  obtain ⟨r, hr, hs⟩ := ho
  exact pt_imp (pt_cmpR hr ha hb hm) fun σ H Q h => OpS.at2 hs ka (tst_of h)
/-- a op1 b op2 c -/
def chD (op op' : D → D → Rs D) (ma mb mc : VM) (a b c : Dn) : Dn := fun Γ => a Γ >>= fun x => b x.2 >>= fun y => op (rd y.2 x.1 ma) (rd y.2 y.1 mb) >>= fun z => match z with
  | .bl true => c y.2 >>= fun w => op' (rd w.2 y.1 mb) (rd w.2 w.1 mc) >>= fun t => .ok (t, w.2)
  | .bl false => .ok (.bl false, y.2)
  | _ => nope
theorem ch_at {r r' : R2} {op op' : D → D → Rs D} {dc : Dn} {mc : VM} {σ : L2.St} {H : Hp} {Q : VK} (hr : ∀ P B σ H S x y d e Q, SR F.c P B σ H S → HV F.c B H x d → HV F.c B H y e →
    PostG F P S B H (op d e) (fun z => ∀ v B' H', SR F.c P B' σ H' S → Step S S B B' H H' → VR F.c H B' H' S v z .fz → Q v H') → r x y H Q)
    (hr' : ∀ P B σ H S x y d e Q, SR F.c P B σ H S → HV F.c B H x d → HV F.c B H y e →
    PostG F P S B H (op' d e) (fun z => ∀ v B' H', SR F.c P B' σ H' S → Step S S B B' H H' → VR F.c H B' H' S v z .fz → Q v H') → r' x y H Q) (ka : VMok M2 ma) (kb : VMok M2 mb)
    (h : tE F M M2 .fz (chD op op' ma mb mc da db dc) σ H Q) : tChain r r' (tE F M M1 ma da) (tE F M1 M2 mb db) (tE F M2 M2 mc dc) σ H Q := by
  obtain ⟨P, B, S, R, io, e, po⟩ := h
  refine ⟨P, B, S, R, io, e, po.bind fun x _ po => ?_⟩
  intro v B1 H1 S1 R1 e1 g1 s1 w1
  refine ⟨P, B1, S1, R1, io, e1, ?_⟩
  rw [g1]
  refine (po.step s1 (k' := fun z => KE F P σ M2 .fz S1 B1 H1 Q z) fun z k => k.step s1).bind fun y _ po => ?_
  intro u B2 H2 S2 R2 e2 g2 s2 w2
  refine hr P B2 σ H2 S2 v u _ _ _ R2 (VR.hv R2 (w1.step R1 R2 s2 (by rw [e2]; exact ka))) (VR.hv R2 w2) ?_
  rw [g2]
  refine (po.step s2 (k' := fun z => KE F P σ M2 .fz S2 B2 H2 Q z) fun z k => k.step s2).bind fun z _ po => ?_
  intro w B3 H3 R3 s3 w3
  cases z with
  | bl t =>
    refine ⟨t, Rep.bl_iff w3, ?_⟩
    cases t with
    | false =>
      rw [if_neg Bool.false_ne_true]
      exact po (.bl false) B3 H3 S2 R3 e2 g2 s3 (.bl false)
    | true =>
      rw [if_pos rfl]
      refine ⟨P, B3, S2, R3, io, e2, ?_⟩
      rw [g2]
      refine (PostG.step s3 (k' := fun z => KE F P σ M2 .fz S2 B3 H3 Q z) (fun z k => k.step s3) po).bind fun q _ po => ?_
      intro w4 B4 H4 S4 R4 e4 g4 s4 w4'
      refine hr' P B4 σ H4 S4 u w4 _ _ Q R4 (VR.hv R4 (((w2.back (fun _ z => z)).step R2 R3 s3 (by rw [e2]; exact kb)).step R3 R4 s4 (by rw [e4]; exact kb))) (VR.hv R4 w4') ?_
      rw [g4]
      refine (PostG.step s4 (k' := fun z => KE F P σ M2 .fz S4 B4 H4 Q z) (fun z k => k.step s4) po).bind fun z _ k => ?_
      intro w5 B5 H5 R5 s5 w5'
      exact k w5 B5 H5 S4 R5 e4 g4 s5 w5'
  | _ => exact False.elim po
theorem je_chain {op op' : CmpOp} {f f' : D → D → Rs D} {c : Expr} {dc : Dn} {mc : VM} (ho : OpS F X (compareOp op) .fz f) (ho' : OpS F X (compareOp op') .fz f') (ha : JE F X a M M1 ma da) (hb : JE F X b M1 M2 mb db) (hc : JE F X c M2 M2 mc dc)
    (ka : VMok M2 ma := by first | trivial | rfl) (kb : VMok M2 mb := by first | trivial | rfl) (hm : lastMarks [op, op'] [b, c] = false := by with_unfolding_all rfl) : JE F X (.Compare a [op, op'] [b, c] pos) M M2 .fz (chD f f' ma mb mc da db dc) := by
  obtain ⟨r, hr, hs⟩ := ho
  obtain ⟨r', hr', hs'⟩ := ho'
  exact pe_imp (pe_chain hr hr' ha hb hc hm) fun σ H Q h => ch_at hs hs' ka kb h
theorem jt_chain {op op' : CmpOp} {f f' : D → D → Rs D} {c : Expr} {dc : Dn} {mc : VM} (ho : OpS F X (compareOp op) .fz f) (ho' : OpS F X (compareOp op') .fz f') (ha : JE F X a M M1 ma da) (hb : JE F X b M1 M2 mb db) (hc : JE F X c M2 M2 mc dc)
    (ka : VMok M2 ma := by first | trivial | rfl) (kb : VMok M2 mb := by first | trivial | rfl) (hm : lastMarks [op, op'] [b, c] = false := by with_unfolding_all rfl) : JT F X (.Compare a [op, op'] [b, c] pos) M M2 (tstD (chD f f' ma mb mc da db dc)) := by
  obtain ⟨r, hr, hs⟩ := ho
  obtain ⟨r', hr', hs'⟩ := ho'
  exact pt_imp (pt_chain hr hr' ha hb hc hm) fun σ H Q h => ch_at hs hs' ka kb (tst_of h)
/-- any expression whose value is a bool, as a test -/
theorem jt_val (h : JE F X e M M1 .fz da) (he : ∀ whole, isTrue e X.env whole = (do let v ← whole; standAt e.pos; holding [v] (truthy v)) := by intro _; rfl) : JT F X e M M1 (tstD da) := pt_imp (pt_val h he) fun σ H Q h => tst_of h

/-! ### and, or, not; a if t else b -/
def andT (a b : Tn) : Tn := fun Γ => a Γ >>= fun x => match x.1 with
  | true => b x.2
  | false => .ok (false, x.2)
def orT (a b : Tn) : Tn := fun Γ => a Γ >>= fun x => match x.1 with
  | false => b x.2
  | true => .ok (true, x.2)
def notT (a : Tn) : Tn := fun Γ => a Γ >>= fun x => .ok (!x.1, x.2)
variable {ta tb : Tn} {rest : List Expr}
theorem jw_and1 (ha : JT F X a M M1 ta) : JW F X (.BoolOp .And [a] pos) M M1 ta := pw_and1 ha
theorem jw_or1 (ha : JT F X a M M1 ta) : JW F X (.BoolOp .Or [a] pos) M M1 ta := pw_or1 ha
theorem jw_and (ha : JT F X a M M1 ta) (hb : JW F X (.BoolOp .And (b :: rest) pos) M1 M1 tb) : JW F X (.BoolOp .And (a :: b :: rest) pos) M M1 (andT ta tb) := pw_imp (pw_and ha hb) fun σ H Q ⟨P, B, S, R, io, e, po⟩ => by
  refine ⟨P, B, S, R, io, e, po.bind fun x _ po => ?_⟩
  intro B1 H1 S1 R1 e1 g1 s1
  obtain ⟨x1, x2⟩ := x
  cases x1 with
  | false =>
    rw [if_neg Bool.false_ne_true]
    exact po B1 H1 S1 R1 e1 g1 s1
  | true =>
    rw [if_pos rfl]
    refine ⟨P, B1, S1, R1, io, e1, ?_⟩
    rw [g1]
    exact PostG.step s1 (fun z k => k.step s1) po
theorem jw_or (ha : JT F X a M M1 ta) (hb : JW F X (.BoolOp .Or (b :: rest) pos) M1 M1 tb) : JW F X (.BoolOp .Or (a :: b :: rest) pos) M M1 (orT ta tb) := pw_imp (pw_or ha hb) fun σ H Q ⟨P, B, S, R, io, e, po⟩ => by
  refine ⟨P, B, S, R, io, e, po.bind fun x _ po => ?_⟩
  intro B1 H1 S1 R1 e1 g1 s1
  obtain ⟨x1, x2⟩ := x
  cases x1 with
  | true =>
    rw [if_pos rfl]
    exact po B1 H1 S1 R1 e1 g1 s1
  | false =>
    rw [if_neg Bool.false_ne_true]
    refine ⟨P, B1, S1, R1, io, e1, ?_⟩
    rw [g1]
    exact PostG.step s1 (fun z k => k.step s1) po
theorem jt_w (h : JW F X e M M1 ta) : JT F X e M M1 ta := PW.pt h
theorem jt_not (ha : JT F X a M M1 ta) : JT F X (.UnaryOp .Not a pos) M M1 (notT ta) := pt_imp (pt_not ha) fun σ H Q ⟨P, B, S, R, io, e, po⟩ => by
  refine ⟨P, B, S, R, io, e, po.bind fun x _ po => ?_⟩
  intro B1 H1 S1 R1 e1 g1 s1
  exact po B1 H1 S1 R1 e1 g1 s1
/-- .. as values -/
def andD (a b : Dn) : Dn := fun Γ => a Γ >>= fun x => match x.1 with
  | .bl true => b x.2
  | .bl false => .ok (.bl false, x.2)
  | _ => nope
def orD (a b : Dn) : Dn := fun Γ => a Γ >>= fun x => match x.1 with
  | .bl false => b x.2
  | .bl true => .ok (.bl true, x.2)
  | _ => nope
def notD (a : Dn) : Dn := fun Γ => a Γ >>= fun x => match x.1 with
  | .bl b => .ok (.bl (!b), x.2)
  | _ => nope
theorem je_one {op} (h : JE F X a M M1 m da) : JE F X (.BoolOp op [a] pos) M M1 m da := pe_one h
theorem je_and (ha : JE F X a M M1 .fz da) (hb : JE F X (.BoolOp .And (b :: rest) pos) M1 M1 .fz db) : JE F X (.BoolOp .And (a :: b :: rest) pos) M M1 .fz (andD da db) := pe_imp (pe_and ha hb) fun σ H Q ⟨P, B, S, R, io, e, po⟩ => by
  refine ⟨P, B, S, R, io, e, po.bind fun x _ po => ?_⟩
  intro v B1 H1 S1 R1 e1 g1 s1 w1
  obtain ⟨x1, x2⟩ := x
  cases x1 with
  | bl t =>
    refine ⟨t, Rep.bl_iff w1, ?_⟩
    cases t with
    | false =>
      rw [if_neg Bool.false_ne_true]
      exact po (.bl false) B1 H1 S1 R1 e1 g1 s1 (.bl false)
    | true =>
      rw [if_pos rfl]
      refine ⟨P, B1, S1, R1, io, e1, ?_⟩
      rw [g1]
      exact PostG.step s1 (fun z k => k.step s1) po
  | _ => exact False.elim po
theorem je_or (ha : JE F X a M M1 .fz da) (hb : JE F X (.BoolOp .Or (b :: rest) pos) M1 M1 .fz db) : JE F X (.BoolOp .Or (a :: b :: rest) pos) M M1 .fz (orD da db) := pe_imp (pe_or ha hb) fun σ H Q ⟨P, B, S, R, io, e, po⟩ => by
  refine ⟨P, B, S, R, io, e, po.bind fun x _ po => ?_⟩
  intro v B1 H1 S1 R1 e1 g1 s1 w1
  obtain ⟨x1, x2⟩ := x
  cases x1 with
  | bl t =>
    refine ⟨t, Rep.bl_iff w1, ?_⟩
    cases t with
    | true =>
      rw [if_pos rfl]
      exact po (.bl true) B1 H1 S1 R1 e1 g1 s1 (.bl true)
    | false =>
      rw [if_neg Bool.false_ne_true]
      refine ⟨P, B1, S1, R1, io, e1, ?_⟩
      rw [g1]
      exact PostG.step s1 (fun z k => k.step s1) po
  | _ => exact False.elim po
theorem je_not (ha : JE F X a M M1 .fz da) : JE F X (.UnaryOp .Not a pos) M M1 .fz (notD da) := pe_imp (pe_not ha) fun σ H Q ⟨P, B, S, R, io, e, po⟩ => by
  refine ⟨P, B, S, R, io, e, po.bind fun x _ po => ?_⟩
  intro v B1 H1 S1 R1 e1 g1 s1 w1
  obtain ⟨x1, x2⟩ := x
  cases x1 with
  | bl t => exact ⟨t, Rep.bl_iff w1, po (.bl (!t)) B1 H1 S1 R1 e1 g1 s1 (.bl _)⟩
  | _ => exact False.elim po
def ifD (t : Tn) (a b : Dn) : Dn := fun Γ => t Γ >>= fun x => match x.1 with
  | true => a x.2
  | false => b x.2
theorem je_if {c : Expr} (hc : JT F X c M M1 ta) (ha : JE F X a M1 M2 m da) (hb : JE F X b M1 M2 m db) : JE F X (.IfExp c a b pos) M M2 m (ifD ta da db) := pe_imp (pe_ifExp hc ha hb) fun σ H Q ⟨P, B, S, R, io, e, po⟩ => by
  refine ⟨P, B, S, R, io, e, po.bind fun x _ po => ?_⟩
  intro B1 H1 S1 R1 e1 g1 s1
  obtain ⟨x1, x2⟩ := x
  cases x1 with
  | true =>
    rw [if_pos rfl]
    refine ⟨P, B1, S1, R1, io, e1, ?_⟩
    rw [g1]
    exact PostG.step s1 (fun z k => k.step s1) po
  | false =>
    rw [if_neg Bool.false_ne_true]
    refine ⟨P, B1, S1, R1, io, e1, ?_⟩
    rw [g1]
    exact PostG.step s1 (fun z k => k.step s1) po

/-! ### argument lists, displays -/
theorem VRs.step {c : Ct} {P : List (Nat × Addr)} {σ : L2.St} {H0 H1 H2 B1 B2 : Hp} {S1 S2 : List Slot} (R1 : SR c P B1 σ H1 S1) (R2 : SR c P B2 σ H2 S2) (s : Step S1 S2 B1 B2 H1 H2) : ∀ {vs : List V} {ds : List D} {ms : List VM}, (∀ m ∈ ms, VMok (mds S2) m) → VRs c H0 B1 H1 S1 vs ds ms → VRs c H0 B2 H2 S2 vs ds ms
  | _, _, _, _, .nil => .nil
  | _, _, _, k, .cons h t => .cons (h.step R1 R2 s (k _ List.mem_cons_self)) (VRs.step R1 R2 s (fun m hm => k m (List.mem_cons_of_mem _ hm)) t)
def consA (a : Dn) (r : An) : An := fun Γ => a Γ >>= fun x => r x.2 >>= fun y => .ok (x.1 :: y.1, y.2)
theorem ja_nil : JA F X [] M M [] (fun Γ => .ok ([], Γ)) := pa_imp pa_nil fun σ H Q ⟨P, B, S, R, _, e, po⟩ => po [] B H S R e rfl (Step.refl S B H) .nil
theorem ja_cons {ms : List VM} {dr : An} (ha : JE F X a M M1 m da) (hr : JA F X es M1 M2 ms dr) (ka : VMok M2 m := by first | trivial | rfl) (hs : starEach (a :: es) X.env = (false, eval a X.env) :: starEach es X.env := by rfl) : JA F X (a :: es) M M2 (m :: ms) (consA da dr) := by
  refine pa_imp (pa_cons ha hr hs) fun σ H Q ⟨P, B, S, R, io, e, po⟩ => ?_
  refine ⟨P, B, S, R, io, e, po.bind fun x _ po => ?_⟩
  intro v B1 H1 S1 R1 e1 g1 s1 w1
  refine ⟨P, B1, S1, R1, io, e1, ?_⟩
  rw [g1]
  refine (PostG.step s1 (fun z k => k) po).bind fun y _ po => ?_
  intro vs B2 H2 S2 R2 e2 g2 s2 w2
  exact po (v :: vs) B2 H2 S2 R2 e2 g2 (s1.trans s2) (.cons (w1.step R1 R2 s2 (by rw [e2]; exact ka)) (w2.back fun a z => s1.fresh z))
end
end DL

set_option Elab.async false
set_option linter.all false
set_option maxRecDepth 100000
set_option maxHeartbeats 4000000
/-! DL, part 2: operators, comparisons, in. -/
namespace DL
open PySem PySem.Spec PyProof.Rows L2

theorem opr_or {X : Cx} {f : Value → Value → Sem Value} {r r' : R2} (h : OpR X f r) (h' : OpR X f r') : OpR X f (fun x y H Q => r x y H Q ∨ r' x y H Q) := by
  intro pins s σ H x y v u Q I rx ry q
  rcases q with q | q
  · exact h pins s σ H x y v u Q I rx ry q
  · exact h' pins s σ H x y v u Q I rx ry q
/-! ### new tuples, with their objects -/
section
variable {X : Cx} {pins : List (Addr × Obj)} {σ : L2.St} {H : Hp} {s : Shared}
/-- a new tuple's object is told whole -/
theorem laidF {h' : Heap} {a : Addr} {ob : Obj} {its : List Value} {xs : List V} {n t' : Nat} (I : Inv X pins σ H s) (k : ∀ b u, s.heap.get? b = some u → h'.get? b = some u) (hp : s.heap.objs.size ≤ a) (hg : h'.get? a = some ob) (hc : ob.cls = .type "tuple")
    (hd : ob.data = .seq its.toArray n) (r : Vals xs its) (hz : xs.length ≤ sizeLine) : Inv X pins σ (upd H a (.frz ob (.tup xs))) { s with heap := h', toks := t' } :=
  I.laid k hp ⟨hg, hz, its, r, ob, hg, hc, n, hd⟩
/-- what is wanted of a new tuple of these -/
def NewT (H : Hp) (xs : List V) (Q : VK) : Prop := ∀ p ob, H p = none → ob.dict = none → ob.cls = .type "tuple" → Q (.ref p) (upd H p (.frz ob (.tup xs)))
def tTupF (t : TA) : TE := fun σ H Q => t σ H fun xs H1 => xs.length ≤ sizeLine ∧ NewT H1 xs Q
theorem pe_tupF {es : List Expr} {t : TA} {pos : Pos} {x1} (h : PA X es t) : PE X (.Tuple es x1 pos) (tTupF t) := by
  refine ⟨fun pins s σ H Q I hq => ?_⟩
  refine wpAny_Tuple_spliced (thn (h.run pos pins s σ H _ I hq) fun us s1 ⟨xs, H1, I1, r, z, q⟩ => ⟨by rw [← r.length]; exact z, ?_⟩)
  have hf : H1 s1.heap.objs.size = none := I1.hok.fresh (Nat.le_refl _)
  exact ⟨.ref s1.heap.objs.size, _, laidF (ob := { cls := .type "tuple", data := .seq us.toArray }) (n := 0) I1 (fun b u e => Heap.get?_push_of_some _ e) (Nat.le_refl _) (Heap.get?_push_size _ rfl) rfl rfl r z, rfl, q _ _ hf rfl rfl⟩
/-- tuple(x) -/
theorem call_tupleF : CallR X (.type "tuple") (fun xs H Q => ∃ p ys, xs = [.ref p] ∧ ((SqL X.K H p ys ∧ NewT H ys Q) ∨ (SqT X.K H p ys ∧ Q (.ref p) H))) := by
  intro pins s σ H xs us Q I r h
  obtain ⟨p, ys, rfl, h⟩ := h
  obtain ⟨u, rfl, rx⟩ := vals1 r
  cases rx
  rcases h with ⟨hq, q⟩ | ⟨hq, q⟩
  · obtain ⟨its, r', pl, hz⟩ := I.list hq
    have hlen := r'.length
    refine call_tuple_list pl.isList (fun h' kp => ?_) (by simp only [List.size_toArray] <;> omega)
    have I1 : Inv X pins σ H { s with heap := h' } := I.kept (t' := s.toks) kp
    have I2 : Inv X pins σ (upd H h'.objs.size (.frz { cls := .type "tuple", data := .seq its.toArray } (.tup ys))) { s with heap := h'.push { cls := .type "tuple", data := .seq its.toArray } } :=
      laidF (s := { s with heap := h' }) (t' := s.toks) (n := 0) I1 (fun b o e => Heap.get?_push_of_some _ e) (Nat.le_refl _) (Heap.get?_push_size _ rfl) rfl rfl r' hz
    exact ⟨.ref h'.objs.size, _, I2, rfl, q _ _ (I1.hok.fresh (Nat.le_refl _)) rfl rfl⟩
  · obtain ⟨its, r', pl, hz⟩ := I.tuple hq
    exact call_tuple_same pl ⟨.ref p, H, I, rfl, q⟩
/-- t + u -/
def rCatF (K : PySem.W.Frag) : R2 := fun x y H Q => ∃ a b xs ys, x = .ref a ∧ y = .ref b ∧ SqT K H a xs ∧ SqT K H b ys ∧ xs.length + ys.length ≤ sizeLine ∧
  (xs = [] → Q (.ref b) H) ∧ (xs ≠ [] → ys = [] → Q (.ref a) H) ∧ (xs ≠ [] → ys ≠ [] → NewT H (xs ++ ys) Q)
theorem op_catF : OpR X (binaryOp .Add) (rCatF X.K) := by
  intro pins s σ H x y v u Q I rx ry h
  obtain ⟨a, b, xs, ys, rfl, rfl, ha, hb, hz, q0, q1, q2⟩ := h
  by_cases hx : xs = []
  · exact op_catA pins s σ H _ _ v u Q I rx ry ⟨a, b, xs, ys, rfl, rfl, ha, hb, hz, q0, fun z => absurd hx z, fun z => absurd hx z⟩
  · cases rx
    cases ry
    obtain ⟨its, r1, p1, _⟩ := I.tuple ha
    obtain ⟨its2, r2, p2, _⟩ := I.tuple hb
    refine HT.cat_tup p1 p2 (fun z => hx (r1.nil_iff.mp z)) (fun z => ⟨.ref a, H, I, rfl, q1 hx (r2.nil_iff.mp z)⟩) (fun z => ?_) (by rw [← r1.length, ← r2.length]; exact hz)
    exact ⟨.ref s.heap.objs.size, _, laidF (t' := s.toks) (n := 0) I (fun b ob q => Heap.get?_push_of_some _ q) (Nat.le_refl _) (Heap.get?_push_size _ rfl) rfl rfl (r1.append r2) (by rw [List.length_append]; exact hz), rfl,
      q2 hx (fun w => z (r2.nil_iff.mpr w)) _ _ (I.hok.fresh (Nat.le_refl _)) rfl rfl⟩
/-- t[lo:hi] -/
def rSlF (K : PySem.W.Frag) : V → Option Int → Option Int → Hp → VK → Prop := fun x lo hi H Q => ∃ a xs, x = .ref a ∧ SqT K H a xs ∧
  (HT.sIx xs.length 0 lo = 0 ∧ HT.sIx xs.length xs.length hi = xs.length → Q (.ref a) H) ∧ (¬ (HT.sIx xs.length 0 lo = 0 ∧ HT.sIx xs.length xs.length hi = xs.length) → NewT H (cutV xs lo hi) Q)
theorem sl_tupF : SlR X (rSlF X.K) := by
  intro pins s σ H x v vl vu lo hi sl Q I rx hs pl pu h
  obtain ⟨a, xs, rfl, hx, q1, q2⟩ := h
  by_cases hw : HT.sIx xs.length 0 lo = 0 ∧ HT.sIx xs.length xs.length hi = xs.length
  · exact sl_tupA pins s σ H _ v vl vu lo hi sl Q I rx hs pl pu ⟨a, xs, rfl, hx, q1, fun z => absurd hw z⟩
  · cases rx
    obtain ⟨its, r, ht, hz⟩ := I.tuple hx
    have hlen : its.toArray.size = xs.length := by rw [List.size_toArray]; exact r.length.symm
    refine ⟨"tuple", _, PyProof.Rows.slot_tuple_getitem.lookup, ht.typeIs, ?_⟩
    refine HT.getItem_tuple_cut ht hs pl pu (by rw [hlen]; exact hw) ?_ (by rw [hlen]; exact hz)
    rw [hlen]
    exact ⟨.ref s.heap.objs.size, _, laidF (t' := s.toks) (n := 0) I (fun b ob q => Heap.get?_push_of_some _ q) (Nat.le_refl _) (Heap.get?_push_size _ rfl) rfl rfl
      ((r.drop (HT.sIx xs.length 0 lo)).take (HT.sIx xs.length xs.length hi - HT.sIx xs.length 0 lo)) (Nat.le_trans (cutV_length xs lo hi) hz), rfl, q2 hw _ _ (I.hok.fresh (Nat.le_refl _)) rfl rfl⟩
end

/-! ### new data in the state -/
section
variable {c : Ct} {P : List (Nat × Addr)} {B H : Hp} {S : List Slot} {σ : L2.St}
theorem new_fz {p : Addr} {o : HO} {d : D} {Q : VK} (R : SR c P B σ H S) (hp : H p = none) (r : ORep c B o d) (ht : ∀ ps, o ≠ .tbl ps)
    (q : ∀ v B' H', SR c P B' σ H' S → Step S S B B' H H' → VR c H B' H' S v d .fz → Q v H') : Q (.ref p) (upd H p o) := by
  have R1 := R.new (o := o) hp
  have bn := R.bnone hp
  have ni := R.notIn hp
  have R2 := R1.frozen upd_same bn ni ht
  have s1 := Step.new S B (o := o) hp
  refine q (.ref p) (upd B p o) _ R2 ⟨Sub.upd_at bn, s1.keep, s1.stay, fun a u e b n k => ?_, s1.adr⟩ (.ref upd_same (r.mono (Sub.upd_at bn)))
  rw [upd_ne (ne_of_none e hp)]
  exact b
theorem new_fr {p : Addr} {o : HO} {d : D} {Q : VK} (R : SR c P B σ H S) (hp : H p = none) (r : ORep c B o d) (hm : isMut o = true)
    (q : ∀ v B' H', SR c P B' σ H' S → Step S S B B' H H' → VR c H B' H' S v d .fr → Q v H') : Q (.ref p) (upd H p o) :=
  q (.ref p) B _ (R.new hp) (Step.new S B hp) ⟨p, o, rfl, upd_same, R.bnone hp, R.notIn hp, r, hm, hp⟩
theorem new_tup {vs : List V} {ds : List D} {Q : VK} (R : SR c P B σ H S) (r : RepL c B vs ds)
    (q : ∀ v B' H', SR c P B' σ H' S → Step S S B B' H H' → VR c H B' H' S v (.tup ds) .fz → Q v H') : NewT H vs Q := fun p ob hp e1 e2 =>
  new_fz R hp (.tup e1 e2 r) (fun ps z => by cases z) q
/-- a value as it is -/
theorem as_is {v : V} {d : D} {Q : VK} (R : SR c P B σ H S) (r : Rep c B v d) (q : ∀ v B' H', SR c P B' σ H' S → Step S S B B' H H' → VR c H B' H' S v d .fz → Q v H') : Q v H := q v B H R (Step.refl S B H) r
end

/-! ### + - * // % ** -/
abbrev szl : Nat := 16777216
theorem szl_eq : sizeLine = szl := sizeLine_eq
def addD : D → D → Rs D
  | .int i, .int j => .ok (.int (i + j))
  | .str x, .str y => if x.length + y.length ≤ szl then .ok (.str (x ++ y)) else nope
  | .tup xs, .tup ys => if xs.length + ys.length ≤ szl then .ok (.tup (xs ++ ys)) else nope
  | _, _ => nope
/-- lists: a new one -/
def catD : D → D → Rs D
  | .lst xs, .lst ys => if xs.length + ys.length ≤ szl then .ok (.lst (xs ++ ys)) else nope
  | _, _ => nope
def subD : D → D → Rs D
  | .int i, .int j => .ok (.int (i - j))
  | _, _ => nope
instance (i j : Int) : Decidable (CMul i j) := by unfold CMul; infer_instance
instance (i j : Int) : Decidable (CMulW i j) := by unfold CMulW; infer_instance
instance (i j : Int) : Decidable (CDiv i j) := by unfold CDiv; infer_instance
instance (i j : Int) : Decidable (CDivW i j) := by unfold CDivW; infer_instance
def mulD : D → D → Rs D
  | .int i, .int j => if CMul i j ∨ CMulW i j then .ok (.int (i * j)) else nope
  | _, _ => nope
def repD : D → D → Rs D
  | .lst xs, .int k => if -(2 ^ 63) ≤ k ∧ k < 2 ^ 63 ∧ xs.length * k.toNat ≤ szl then .ok (.lst (List.replicate k.toNat xs).flatten) else nope
  | _, _ => nope
def modD : D → D → Rs D
  | .int i, .int j => if 0 < j then .ok (.int (i % j)) else nope
  | _, _ => nope
def fdivD : D → D → Rs D
  | .int i, .int j => if CDiv i j ∨ CDivW i j then .ok (.int (i / j)) else nope
  | _, _ => nope
def powD : D → D → Rs D
  | .int i, .int j => if 0 ≤ j ∧ (Builtin.Int.intBits i : Int) * j ≤ 2 ^ 27 then .ok (.int (i ^ j.toNat)) else nope
  | _, _ => nope
section
variable {F : Fx} {X : Cx}
theorem post_nope {α : Type} {F : Fx} {P : List (Nat × Addr)} {S : List Slot} {B H : Hp} {k : α → Prop} {G : Prop} (h : PostG F P S B H (nope : Rs α) k) : G := False.elim h
theorem o_add : OpS F X (binaryOp .Add) .fz addD := by
  refine ⟨_, opr_or op_add (opr_or op_add_str op_catF), fun P B σ H S x y d e Q R hx hy po => ?_⟩
  unfold addD at po
  split at po
  · rename_i i j
    exact .inl ⟨i, j, hx.int, hy.int, as_is R (.int _) po⟩
  · rename_i i j
    split at po
    · rename_i hz
      exact .inr (.inl ⟨i, j, hx.str, hy.str, by rw [szl_eq]; exact hz, as_is R (.str _) po⟩)
    · exact post_nope po
  · rename_i xs ys
    split at po
    · rename_i hz
      obtain ⟨p, ob, vs, rfl, hp, k1, k2, r⟩ := hx.tup R.ext
      obtain ⟨p', ob', vs', rfl, hp', k1', k2', r'⟩ := hy.tup R.ext
      have l1 := r.length
      have l2 := r'.length
      refine .inr (.inr ⟨p, p', vs, vs', rfl, rfl, .inl (.inr ⟨ob, hp⟩), .inl (.inr ⟨ob', hp'⟩), by rw [l1, l2, szl_eq]; exact hz, fun z => ?_, fun _ z => ?_, fun _ _ => new_tup R (r.append r') po⟩)
      · subst z
        cases r
        exact as_is R hy.rep_tup po
      · subst z
        cases r'
        rw [List.append_nil] at po
        exact as_is R hx.rep_tup po
    · exact post_nope po
  · exact post_nope po
theorem o_cat : OpS F X (binaryOp .Add) .fr catD := by
  refine ⟨_, op_cat, fun P B σ H S x y d e Q R hx hy po => ?_⟩
  unfold catD at po
  split at po
  · split at po
    · rename_i hz
      obtain ⟨p, vs, rfl, hp, r⟩ := hx.lst R.ext
      obtain ⟨p', vs', rfl, hp', r'⟩ := hy.lst R.ext
      exact ⟨p, p', vs, vs', rfl, rfl, hp, hp', by rw [r.length, r'.length, szl_eq]; exact hz, fun q hq => new_fr R hq (.lst (r.append r')) rfl po⟩
    · exact post_nope po
  · exact post_nope po
theorem o_sub : OpS F X (binaryOp .Sub) .fz subD := by
  refine ⟨_, op_sub, fun P B σ H S x y d e Q R hx hy po => ?_⟩
  unfold subD at po
  split at po
  · exact ⟨_, _, hx.int, hy.int, as_is R (.int _) po⟩
  · exact post_nope po
theorem o_mul : OpS F X (binaryOp .Mult) .fz mulD := by
  refine ⟨_, opr_or op_mul op_mulW, fun P B σ H S x y d e Q R hx hy po => ?_⟩
  unfold mulD at po
  split at po
  · split at po
    · rename_i hz
      rcases hz with hz | hz
      · exact .inl ⟨_, _, hx.int, hy.int, hz, as_is R (.int _) po⟩
      · exact .inr ⟨_, _, hx.int, hy.int, hz, as_is R (.int _) po⟩
    · exact post_nope po
  · exact post_nope po
theorem RepL.flat {c : Ct} {B : Hp} {vs : List V} {ds : List D} (r : RepL c B vs ds) : ∀ n : Nat, RepL c B (List.replicate n vs).flatten (List.replicate n ds).flatten
  | 0 => .nil
  | n + 1 => by
    rw [List.replicate_succ, List.replicate_succ, List.flatten_cons, List.flatten_cons]
    exact r.append (RepL.flat r n)
theorem o_rep : OpS F X (binaryOp .Mult) .fr repD := by
  refine ⟨_, op_rep, fun P B σ H S x y d e Q R hx hy po => ?_⟩
  unfold repD at po
  split at po
  · split at po
    · rename_i hz
      obtain ⟨p, vs, rfl, hp, r⟩ := hx.lst R.ext
      exact ⟨p, _, vs, rfl, hy.int, hp, hz.1, hz.2.1, by rw [r.length, szl_eq]; exact hz.2.2, fun q hq => new_fr R hq (.lst (r.flat _)) rfl po⟩
    · exact post_nope po
  · exact post_nope po
theorem o_mod : OpS F X (binaryOp .Mod) .fz modD := by
  refine ⟨_, op_mod, fun P B σ H S x y d e Q R hx hy po => ?_⟩
  unfold modD at po
  split at po
  · split at po
    · rename_i hz
      exact ⟨_, _, hx.int, hy.int, hz, as_is R (.int _) po⟩
    · exact post_nope po
  · exact post_nope po
theorem o_fdiv : OpS F X (binaryOp .FloorDiv) .fz fdivD := by
  refine ⟨_, opr_or op_fdiv op_fdivW, fun P B σ H S x y d e Q R hx hy po => ?_⟩
  unfold fdivD at po
  split at po
  · split at po
    · rename_i hz
      rcases hz with hz | hz
      · exact .inl ⟨_, _, hx.int, hy.int, hz, as_is R (.int _) po⟩
      · exact .inr ⟨_, _, hx.int, hy.int, hz, as_is R (.int _) po⟩
    · exact post_nope po
  · exact post_nope po
theorem op_powW : OpR X (binaryOp .Pow) (rI (fun i j => 0 ≤ j ∧ (Builtin.Int.intBits i : Int) * j ≤ 2 ^ 27) fun i j => .int (i ^ j.toNat)) := by
  intro pins s σ H x y v u Q I rx ry h
  obtain ⟨i, j, rfl, rfl, hc, q⟩ := h
  obtain ⟨t, rfl⟩ := rx
  obtain ⟨t', rfl⟩ := ry
  exact pow_int hc.1 hc.2 ⟨.int (i ^ j.toNat), H, I.tok _, ⟨_, rfl⟩, q⟩
theorem o_pow : OpS F X (binaryOp .Pow) .fz powD := by
  refine ⟨_, op_powW, fun P B σ H S x y d e Q R hx hy po => ?_⟩
  unfold powD at po
  split at po
  · split at po
    · rename_i hz
      exact ⟨_, _, hx.int, hy.int, hz, as_is R (.int _) po⟩
    · exact post_nope po
  · exact post_nope po

/-! ### < <= > >= -/
def cmpD (g : Int → Int → Bool) (gs : Str → Str → Bool) : D → D → Rs D
  | .int i, .int j => .ok (.bl (g i j))
  | .str x, .str y => .ok (.bl (gs x y))
  | _, _ => nope
abbrev ltD : D → D → Rs D := cmpD (fun i j => decide (i < j)) fun i j => decide (i.cps.toList < j.cps.toList)
abbrev leD : D → D → Rs D := cmpD (fun i j => decide (i ≤ j)) fun i j => !decide (j.cps.toList < i.cps.toList)
abbrev gtD : D → D → Rs D := cmpD (fun i j => decide (j < i)) fun i j => decide (j.cps.toList < i.cps.toList)
abbrev geD : D → D → Rs D := cmpD (fun i j => decide (j ≤ i)) fun i j => !decide (i.cps.toList < j.cps.toList)
theorem o_cmp {op : CmpOp} {g : Int → Int → Bool} {gs : Str → Str → Bool} (h : OpR X (compareOp op) (rI0 fun i j => .bl (g i j))) (h' : OpR X (compareOp op) (fun x y H Q => ∃ i j, x = .str i ∧ y = .str j ∧ Q (.bl (gs i j)) H)) : OpS F X (compareOp op) .fz (cmpD g gs) := by
  refine ⟨_, opr_or h h', fun P B σ H S x y d e Q R hx hy po => ?_⟩
  unfold cmpD at po
  split at po
  · exact .inl ⟨_, _, hx.int, hy.int, as_is R (.bl _) po⟩
  · exact .inr ⟨_, _, hx.str, hy.str, as_is R (.bl _) po⟩
  · exact post_nope po
theorem o_lt : OpS F X (compareOp .Lt) .fz ltD := o_cmp op_lt op_lt_str
theorem o_le : OpS F X (compareOp .LtE) .fz leD := o_cmp op_le op_le_str
theorem o_gt : OpS F X (compareOp .Gt) .fz gtD := o_cmp op_gt op_gt_str
theorem o_ge : OpS F X (compareOp .GtE) .fz geD := o_cmp op_ge op_ge_str

/-! ### == != -/
mutual
def py : D → PyData
  | .non => .none
  | .bl b => .bool b
  | .int i => .int i
  | .str x => .str x
  | .lst xs => .list (pyL xs)
  | .tup xs => .tuple (pyL xs)
  | .dic _ => .dict []
  | .obj _ _ => .dict []
  | .scr _ => .dict []
  | .raw _ => .dict []
  | .exn _ _ _ _ => .dict []
def pyL : List D → List PyData
  | [] => []
  | d :: ds => py d :: pyL ds
end
mutual
theorem Rep.dp {c : Ct} {B H : Hp} {K : PySem.W.Frag} (e : Sub B H) {v : V} : ∀ {d : D}, Rep c B v d → (py d).canLay0 = true → Dp K H v (py d)
  | _, .non, _ => .non
  | _, .bl b, _ => .bl b
  | _, .int i, _ => .int i
  | _, .str x, _ => .str x
  | _, .ref h o, k => ORep.dp e (e _ _ h) o k
  | _, .scr _ _, k => by cases k
  | _, .raw _, k => by cases k
  | _, .exn0 _ _, k => by cases k
  | _, .exn1 _ _, k => by cases k
theorem ORep.dp {c : Ct} {B H : Hp} {K : PySem.W.Frag} (e : Sub B H) {p : Addr} {o : HO} (ho : H p = some o) : ∀ {d : D}, ORep c B o d → (py d).canLay0 = true → Dp K H (.ref p) (py d)
  | _, .lst r, k => .lst (.inl (.inl ho)) (RepL.dp e r k)
  | _, .tup _ _ r, k => .tup (.inl (.inr ⟨_, ho⟩)) (RepL.dp e r k)
  | _, .dic _, k => by cases k
  | _, .ins _, k => by cases k
theorem RepL.dp {c : Ct} {B H : Hp} {K : PySem.W.Frag} (e : Sub B H) : ∀ {vs : List V} {ds : List D}, RepL c B vs ds → PyData.canLayAll0 (pyL ds) = true → DpAll K H vs (pyL ds)
  | _, _, .nil, _ => .nil
  | _, _, .cons h t, k => by
    have k' := Bool.and_eq_true_iff.mp (show (PyData.canLay0 (py _) && PyData.canLayAll0 (pyL _)) = true from k)
    exact .cons (Rep.dp e h k'.1) (RepL.dp e t k'.2)
end
theorem HV.dp {c : Ct} {B H : Hp} {K : PySem.W.Frag} (e : Sub B H) {v : V} {d : D} (h : HV c B H v d) (k : (py d).canLay0 = true) : Dp K H v (py d) := by
  rcases h with h | ⟨p, o, rfl, ho, r, _⟩
  · exact h.dp e k
  · exact r.dp e ho k
/-- == of data: none where it is not covered -/
def eqB : D → D → Option Bool
  | .int i, .int j => some (decide (i = j))
  | .str x, .str y => some (decide (x = y))
  | .bl a, .bl b => some (decide (a = b))
  | .non, .non => some true
  | .non, .int _ => some false
  | .int _, .non => some false
  | .non, .bl _ => some false
  | .bl _, .non => some false
  | .non, .str _ => some false
  | .str _, .non => some false
  | .int _, .str _ => some false
  | .str _, .int _ => some false
  | .bl _, .str _ => some false
  | .str _, .bl _ => some false
  | d, e => if SeqAt.shaped (py d) && SeqAt.shaped (py e) then some (PyData.eqv (py d) (py e)) else none
def eqD (d e : D) : Rs D := match eqB d e with
  | some b => .ok (.bl b)
  | none => nope
def neD (d e : D) : Rs D := match eqB d e with
  | some b => .ok (.bl (!b))
  | none => nope
theorem eqB_snd {c : Ct} {B H : Hp} {K : PySem.W.Frag} (e : Sub B H) {x y : V} {d d' : D} (hx : HV c B H x d) (hy : HV c B H y d') {b : Bool} (h : eqB d d' = some b) :
    (scal x y = true ∧ decide (x = y) = b) ∨ ∃ a a', Dp K H x a ∧ Dp K H y a' ∧ SeqAt.shaped a = true ∧ SeqAt.shaped a' = true ∧ PyData.eqv a a' = b := by
  unfold eqB at h
  split at h
  · rw [hx.int, hy.int]; exact .inl ⟨rfl, by simpa using h⟩
  · rw [hx.str, hy.str]; exact .inl ⟨rfl, by simpa using h⟩
  · rw [hx.bl, hy.bl]; exact .inl ⟨rfl, by simpa using h⟩
  · rw [hx.non, hy.non]; exact .inl ⟨rfl, by simpa using h⟩
  · rw [hx.non, hy.int]; exact .inl ⟨rfl, by simpa using h⟩
  · rw [hx.int, hy.non]; exact .inl ⟨rfl, by simpa using h⟩
  · rw [hx.non, hy.bl]; exact .inl ⟨rfl, by simpa using h⟩
  · rw [hx.bl, hy.non]; exact .inl ⟨rfl, by simpa using h⟩
  · rw [hx.non, hy.str]; exact .inl ⟨rfl, by simpa using h⟩
  · rw [hx.str, hy.non]; exact .inl ⟨rfl, by simpa using h⟩
  · rw [hx.int, hy.str]; exact .inl ⟨rfl, by simpa using h⟩
  · rw [hx.str, hy.int]; exact .inl ⟨rfl, by simpa using h⟩
  · rw [hx.bl, hy.str]; exact .inl ⟨rfl, by simpa using h⟩
  · rw [hx.str, hy.bl]; exact .inl ⟨rfl, by simpa using h⟩
  · split at h
    · rename_i hs
      obtain ⟨s1, s2⟩ := Bool.and_eq_true_iff.mp hs
      exact .inr ⟨_, _, hx.dp e (SeqAt.canLay_of_shaped s1), hy.dp e (SeqAt.canLay_of_shaped s2), s1, s2, Option.some.inj h⟩
    · cases h
theorem o_eq {k : Nat} (hr : Room k X.A) : OpS F X (compareOp .Eq) .fz eqD := by
  refine ⟨_, opr_or op_eq (op_eqD hr.units), fun P B σ H S x y d e Q R hx hy po => ?_⟩
  unfold eqD at po
  split at po
  · rename_i b hb
    rcases eqB_snd (K := X.K) R.ext hx hy hb with ⟨h1, h2⟩ | ⟨a, a', h1, h2, h3, h4, h5⟩
    · exact .inl ⟨h1, by rw [h2]; exact as_is R (.bl b) po⟩
    · exact .inr ⟨a, a', h1, h2, h3, h4, by rw [h5]; exact as_is R (.bl b) po⟩
  · exact post_nope po
theorem o_ne {k : Nat} (hr : Room k X.A) : OpS F X (compareOp .NotEq) .fz neD := by
  refine ⟨_, opr_or op_ne (op_neD hr.units), fun P B σ H S x y d e Q R hx hy po => ?_⟩
  unfold neD at po
  split at po
  · rename_i b hb
    rcases eqB_snd (K := X.K) R.ext hx hy hb with ⟨h1, h2⟩ | ⟨a, a', h1, h2, h3, h4, h5⟩
    · exact .inl ⟨h1, by rw [h2]; exact as_is R (.bl _) po⟩
    · exact .inr ⟨a, a', h1, h2, h3, h4, by rw [h5]; exact as_is R (.bl _) po⟩
  · exact post_nope po

/-! ### in, not in; is -/
def vof : D → V
  | .bl b => .bl b
  | .int i => .int i
  | .str x => .str x
  | _ => .non
def flatD : D → Bool
  | .non => true
  | .bl _ => true
  | .int _ => true
  | .str _ => true
  | _ => false
def inB (x : D) (ds : List D) : Option Bool := if flatD x && ds.all flatD then some (inV (vof x) (ds.map vof)) else none
def itemsD : D → Option (List D)
  | .lst xs => some xs
  | .tup xs => some xs
  | _ => none
def inD (x y : D) : Rs D := match itemsD y with
  | some ds => (match inB x ds with
    | some b => .ok (.bl b)
    | none => nope)
  | none => nope
def notInD (x y : D) : Rs D := match itemsD y with
  | some ds => (match inB x ds with
    | some b => .ok (.bl (!b))
    | none => nope)
  | none => nope
theorem HV.flat {c : Ct} {B H : Hp} {v : V} {d : D} (h : HV c B H v d) (f : flatD d = true) : v = vof d ∧ flatV v = true := by
  cases d with
  | non => rw [h.non]; exact ⟨rfl, rfl⟩
  | bl b => rw [h.bl]; exact ⟨rfl, rfl⟩
  | int i => rw [h.int]; exact ⟨rfl, rfl⟩
  | str x => rw [h.str]; exact ⟨rfl, rfl⟩
  | _ => cases f
theorem RepL.flats {c : Ct} {B : Hp} : ∀ {vs : List V} {ds : List D}, RepL c B vs ds → ds.all flatD = true → vs = ds.map vof ∧ vs.all flatV = true
  | _, _, .nil, _ => ⟨rfl, rfl⟩
  | _, _, .cons h t, f => by
    rw [List.all_cons, Bool.and_eq_true] at f
    obtain ⟨e1, e2⟩ := HV.flat (H := B) (.inl h) f.1
    obtain ⟨e3, e4⟩ := RepL.flats t f.2
    exact ⟨by rw [List.map_cons, ← e1, ← e3], by rw [List.all_cons, e2, e4] <;> rfl⟩
theorem HV.items {c : Ct} {B H : Hp} {K : PySem.W.Frag} (e : Sub B H) {v : V} {d : D} {ds : List D} (h : HV c B H v d) (k : itemsD d = some ds) : ∃ p vs, v = .ref p ∧ (SqL K H p vs ∨ SqT K H p vs) ∧ RepL c B vs ds := by
  cases d with
  | lst xs =>
    obtain rfl := Option.some.inj k
    obtain ⟨p, vs, rfl, hp, r⟩ := h.lst e
    exact ⟨p, vs, rfl, .inl (.inl (.inl hp)), r⟩
  | tup xs =>
    obtain rfl := Option.some.inj k
    obtain ⟨p, ob, vs, rfl, hp, _, _, r⟩ := h.tup e
    exact ⟨p, vs, rfl, .inr (.inl (.inr ⟨ob, hp⟩)), r⟩
  | _ => cases k
theorem in_snd {c : Ct} {B H : Hp} {K : PySem.W.Frag} (e : Sub B H) {x y : V} {d d' : D} {ds : List D} {b : Bool} (hx : HV c B H x d) (hy : HV c B H y d') (k : itemsD d' = some ds) (h : inB d ds = some b) :
    ∃ p vs, y = .ref p ∧ (SqL K H p vs ∨ SqT K H p vs) ∧ flatV x = true ∧ vs.all flatV = true ∧ inV x vs = b := by
  unfold inB at h
  split at h
  · rename_i hf
    obtain ⟨f1, f2⟩ := Bool.and_eq_true_iff.mp hf
    obtain ⟨p, vs, rfl, hq, r⟩ := hy.items (K := K) e k
    obtain ⟨e1, e2⟩ := hx.flat f1
    obtain ⟨e3, e4⟩ := r.flats f2
    exact ⟨p, vs, rfl, hq, e2, e4, by rw [e1, e3]; exact Option.some.inj h⟩
  · cases h
theorem o_in : OpS F X (compareOp .In) .fz inD := by
  refine ⟨_, op_in_seq, fun P B σ H S x y d e Q R hx hy po => ?_⟩
  unfold inD at po
  split at po
  · rename_i ds hd
    split at po
    · rename_i b hb
      obtain ⟨p, vs, h1, h2, h3, h4, h5⟩ := in_snd (K := X.K) R.ext hx hy hd hb
      refine ⟨p, vs, h1, h2, h3, h4, ?_⟩
      rw [if_neg Bool.false_ne_true, h5]
      exact as_is R (.bl b) po
    · exact post_nope po
  · exact post_nope po
theorem o_notIn : OpS F X (compareOp .NotIn) .fz notInD := by
  refine ⟨_, op_notIn_seq, fun P B σ H S x y d e Q R hx hy po => ?_⟩
  unfold notInD at po
  split at po
  · rename_i ds hd
    split at po
    · rename_i b hb
      obtain ⟨p, vs, h1, h2, h3, h4, h5⟩ := in_snd (K := X.K) R.ext hx hy hd hb
      refine ⟨p, vs, h1, h2, h3, h4, ?_⟩
      rw [if_pos rfl, h5]
      exact as_is R (.bl _) po
    · exact post_nope po
  · exact post_nope po
/-- x is None, True, False -/
def sameC : D → D → Option Bool
  | .non, .non => some true
  | .bl a, .bl b => some (decide (a = b))
  | .raw _, _ => none
  | _, .non => some false
  | _, .bl _ => some false
  | _, _ => none
def isD (d e : D) : Rs D := match sameC d e with
  | some b => .ok (.bl b)
  | none => nope
def isNotD (d e : D) : Rs D := match sameC d e with
  | some b => .ok (.bl (!b))
  | none => nope
theorem relV_bl_iff {x : V} {v : Value} {b : Bool} (r : RelV x v) : v = .bool b ↔ x = .bl b := by
  cases x with
  | bl a => cases (show v = Value.bool a from r); exact ⟨fun h => by cases h; rfl, fun h => by cases h; rfl⟩
  | non => cases (show v = Value.none from r); exact ⟨(fun h => nomatch h), (fun h => nomatch h)⟩
  | int i => obtain ⟨t, rfl⟩ := (show ∃ t, v = Value.int i t from r); exact ⟨(fun h => nomatch h), (fun h => nomatch h)⟩
  | str i => obtain ⟨t, rfl⟩ := (show ∃ t, v = Value.str i t from r); exact ⟨(fun h => nomatch h), (fun h => nomatch h)⟩
  | byt i => obtain ⟨t, rfl⟩ := (show ∃ t, v = Value.bytes i t from r); exact ⟨(fun h => nomatch h), (fun h => nomatch h)⟩
  | flt i => obtain ⟨t, rfl⟩ := (show ∃ t, v = Value.float i t from r); exact ⟨(fun h => nomatch h), (fun h => nomatch h)⟩
  | ref a => cases (show v = Value.ref a from r); exact ⟨(fun h => nomatch h), (fun h => nomatch h)⟩
  | ty n => cases (show v = Value.type n from r); exact ⟨(fun h => nomatch h), (fun h => nomatch h)⟩
theorem plain_bl {x : V} {v : Value} {b : Bool} (r : RelV x v) : plainIs v (.bool b) = true := by
  cases x with
  | bl a => cases (show v = Value.bool a from r); rfl
  | non => cases (show v = Value.none from r); rfl
  | int i => obtain ⟨t, rfl⟩ := (show ∃ t, v = Value.int i t from r); rfl
  | str i => obtain ⟨t, rfl⟩ := (show ∃ t, v = Value.str i t from r); rfl
  | byt i => obtain ⟨t, rfl⟩ := (show ∃ t, v = Value.bytes i t from r); rfl
  | flt i => obtain ⟨t, rfl⟩ := (show ∃ t, v = Value.float i t from r); rfl
  | ref a => cases (show v = Value.ref a from r); rfl
  | ty n => cases (show v = Value.type n from r); rfl
theorem op_isB : OpR X (compareOp .Is) (fun x y H Q => ∃ b : Bool, y = .bl b ∧ Q (.bl (decide (x = .bl b))) H) := by
  intro pins s σ H x y v u Q I rx ry h
  obtain ⟨b, rfl, q⟩ := h
  cases (show u = Value.bool b from ry)
  by_cases e : x = .bl b
  · subst e
    cases (show v = Value.bool b from rx)
    exact wpAny_is_self rfl ⟨.bl true, H, I, rfl, by simpa using q⟩
  · exact wpAny_is_other (plain_bl rx) (fun z => e ((relV_bl_iff rx).mp z)) ⟨.bl false, H, I, rfl, by simpa [e] using q⟩
theorem op_notB : OpR X (compareOp .IsNot) (fun x y H Q => ∃ b : Bool, y = .bl b ∧ Q (.bl (!decide (x = .bl b))) H) := by
  intro pins s σ H x y v u Q I rx ry h
  obtain ⟨b, rfl, q⟩ := h
  cases (show u = Value.bool b from ry)
  by_cases e : x = .bl b
  · subst e
    cases (show v = Value.bool b from rx)
    exact wpAny_isNot_self rfl ⟨.bl false, H, I, rfl, by simpa using q⟩
  · exact wpAny_isNot_other (plain_bl rx) (fun z => e ((relV_bl_iff rx).mp z)) ⟨.bl true, H, I, rfl, by simpa [e] using q⟩
def isRaw : D → Bool
  | .raw _ => true
  | _ => false
theorem HV.ref {c : Ct} {B H : Hp} {v : V} {d : D} (h : HV c B H v d) (f : flatD d = false) (g : isRaw d = false := by rfl) : ∃ p, v = .ref p := by
  rcases h with h | ⟨p, _, rfl, _⟩
  · cases h with
    | ref _ _ => exact ⟨_, rfl⟩
    | scr _ _ => exact ⟨_, rfl⟩
    | exn0 _ _ => exact ⟨_, rfl⟩
    | exn1 _ _ => exact ⟨_, rfl⟩
    | raw _ => cases g
    | _ => cases f
  · exact ⟨p, rfl⟩
theorem same_snd {c : Ct} {B H : Hp} {x y : V} {d e : D} {b : Bool} (hx : HV c B H x d) (hy : HV c B H y e) (h : sameC d e = some b) : (y = .non ∧ decide (x = .non) = b) ∨ ∃ a, y = .bl a ∧ decide (x = .bl a) = b := by
  cases e with
  | non =>
    refine .inl ⟨hy.non, ?_⟩
    cases d with
    | non => rw [hx.non]; simpa [sameC] using h
    | bl a => rw [hx.bl]; simpa [sameC] using h
    | int a => rw [hx.int]; simpa [sameC] using h
    | str a => rw [hx.str]; simpa [sameC] using h
    | raw a => cases h
    | _ => obtain ⟨p, rfl⟩ := hx.ref rfl; simpa [sameC] using h
  | bl a =>
    refine .inr ⟨a, hy.bl, ?_⟩
    cases d with
    | non => rw [hx.non]; simpa [sameC] using h
    | bl a => rw [hx.bl]; simpa [sameC] using h
    | int a => rw [hx.int]; simpa [sameC] using h
    | str a => rw [hx.str]; simpa [sameC] using h
    | raw a => cases h
    | _ => obtain ⟨p, rfl⟩ := hx.ref rfl; simpa [sameC] using h
  | _ => cases d <;> cases h
theorem o_is : OpS F X (compareOp .Is) .fz isD := by
  refine ⟨_, opr_or op_isN op_isB, fun P B σ H S x y d e Q R hx hy po => ?_⟩
  unfold isD at po
  split at po
  · rename_i b hb
    rcases same_snd hx hy hb with ⟨h1, h2⟩ | ⟨a, h1, h2⟩
    · exact .inl ⟨h1, by rw [h2]; exact as_is R (.bl b) po⟩
    · exact .inr ⟨a, h1, by rw [h2]; exact as_is R (.bl b) po⟩
  · exact post_nope po
theorem o_isNot : OpS F X (compareOp .IsNot) .fz isNotD := by
  refine ⟨_, opr_or op_notN op_notB, fun P B σ H S x y d e Q R hx hy po => ?_⟩
  unfold isNotD at po
  split at po
  · rename_i b hb
    rcases same_snd hx hy hb with ⟨h1, h2⟩ | ⟨a, h1, h2⟩
    · exact .inl ⟨h1, by rw [h2]; exact as_is R (.bl _) po⟩
    · exact .inr ⟨a, h1, by rw [h2]; exact as_is R (.bl _) po⟩
  · exact post_nope po
end
end DL

set_option Elab.async false
set_option linter.all false
set_option maxRecDepth 100000
set_option maxHeartbeats 4000000
/-! DL, part 3: displays, items, slices, calls of what is built in, methods. -/
namespace DL
open PySem PySem.Spec PyProof.Rows L2

section
variable {c : Ct} {P : List (Nat × Addr)} {B H H0 : Hp} {S : List Slot} {σ : L2.St}
def allFz (ms : List VM) : Bool := ms.all fun m => m == .fz
theorem VRs.reps : ∀ {vs : List V} {ds : List D} {ms : List VM}, VRs c H0 B H S vs ds ms → allFz ms = true → RepL c B vs ds
  | _, _, _, .nil, _ => .nil
  | _, _, m :: ms, .cons h t, f => by
    have f' : (m == VM.fz && allFz ms) = true := f
    obtain ⟨f1, f2⟩ := Bool.and_eq_true_iff.mp f'
    have e : m = .fz := eq_of_beq f1
    subst e
    exact .cons h (VRs.reps t f2)
theorem VRs.length : ∀ {vs : List V} {ds : List D} {ms : List VM}, VRs c H0 B H S vs ds ms → vs.length = ms.length
  | _, _, _, .nil => rfl
  | _, _, _, .cons _ t => by rw [List.length_cons, List.length_cons, VRs.length t]
inductive HVs (c : Ct) (B H : Hp) : List V → List D → Prop
  | nil : HVs c B H [] []
  | cons {v : V} {d : D} {vs : List V} {ds : List D} : HV c B H v d → HVs c B H vs ds → HVs c B H (v :: vs) (d :: ds)
def rds (Γ : List D) : List D → List VM → List D
  | d :: ds, m :: ms => rd Γ d m :: rds Γ ds ms
  | _, _ => []
theorem VRs.hvs (R : SR c P B σ H S) : ∀ {vs : List V} {ds : List D} {ms : List VM}, VRs c H0 B H S vs ds ms → HVs c B H vs (rds (dts S) ds ms)
  | _, _, _, .nil => .nil
  | _, _, _, .cons h t => .cons (h.hv R) (VRs.hvs R t)
end

section
variable {F : Fx} {X : Cx} {e a b o : Expr} {es : List Expr} {M M1 M2 M3 : List Md} {m ma mb : VM} {ms : List VM} {da db : Dn} {dA : An} {pos p2 : Pos}
/-! ### displays -/
def tupD (a : An) : Dn := fun Γ => a Γ >>= fun x => .ok (.tup x.1, x.2)
def lstD (a : An) : Dn := fun Γ => a Γ >>= fun x => .ok (.lst x.1, x.2)
theorem small_line {n : Nat} (h : n ≤ 1000) : n ≤ sizeLine := Nat.le_trans h (by rw [sizeLine_eq]; decide)
theorem je_tup {x1} (h : JA F X es M M1 ms dA) (hf : allFz ms = true := by rfl) (hl : ms.length ≤ 1000 := by decide) : JE F X (.Tuple es x1 pos) M M1 .fz (tupD dA) := pe_imp (pe_tupF h) fun σ H Q ⟨P, B, S, R, io, e, po⟩ => by
  refine ⟨P, B, S, R, io, e, po.bind fun x _ po => ?_⟩
  intro vs B1 H1 S1 R1 e1 g1 s1 w1
  refine ⟨small_line (by rw [w1.length]; exact hl), new_tup R1 (w1.reps hf) fun v B2 H2 R2 s2 w2 => ?_⟩
  exact po v B2 H2 S1 R2 e1 g1 (s1.trans s2) w2
theorem je_lst (h : JA F X es M M1 ms dA) (hf : allFz ms = true := by rfl) (hl : ms.length ≤ 1000 := by decide) : JE F X (.List es pos) M M1 .fr (lstD dA) := pe_imp (pe_lst h) fun σ H Q ⟨P, B, S, R, io, e, po⟩ => by
  refine ⟨P, B, S, R, io, e, po.bind fun x _ po => ?_⟩
  intro vs B1 H1 S1 R1 e1 g1 s1 w1
  refine ⟨small_line (by rw [w1.length]; exact hl), fun p hp => new_fr R1 hp (.lst (w1.reps hf)) rfl fun v B2 H2 R2 s2 w2 => ?_⟩
  exact po v B2 H2 S1 R2 e1 g1 (s1.trans s2) (w2.back fun a z => s1.fresh z)
theorem je_dic0 : JE F X (.Dict [] [] pos) M M .fr (fun Γ => .ok (.dic [], Γ)) := pe_imp pe_dnewK fun σ H Q ⟨P, B, S, R, io, e, po⟩ => by
  intro p hp
  exact new_fr R hp (.dic .nil) rfl fun v B2 H2 R2 s2 w2 => po v B2 H2 S R2 e rfl s2 w2

/-! ### items -/
theorem atI_rep {c : Ct} {B : Hp} {vs : List V} {ds : List D} {i : Int} {d : D} (r : RepL c B vs ds) (h : atI ds i = some d) : ∃ v, atI vs i = some v ∧ Rep c B v d := by
  unfold atI at h ⊢
  rw [r.length]
  cases q : ixN ds.length i with
  | none => rw [q] at h; cases h
  | some j =>
    rw [q] at h
    exact r.get h
def ixD (d i : D) : Rs D := match i with
  | .int k => (match d with
    | .lst xs => (match atI xs k with
      | some z => .ok z
      | none => nope)
    | .tup xs => (match atI xs k with
      | some z => .ok z
      | none => nope)
    | .str x => if x.length ≤ szl then (match atI x.cps.toList k with
        | some z => .ok (.str ⟨#[z]⟩)
        | none => nope) else nope
    | _ => nope)
  | _ => nope
theorem je_ix (ha : JE F X a M M1 ma da) (hb : JE F X b M1 M2 mb db) (ka : VMok M2 ma := by first | trivial | rfl) (hs : PlainIx b := by exact fun _ _ => rfl) : JE F X (.Subscript a b pos) M M2 .fz (binD ixD ma mb da db) := by
  refine pe_imp (pe_ix ix_seq ha hb hs) fun σ H Q h => OpS.at2 (fun P B σ H S x y d e Q R hx hy po => ?_) ka h
  unfold ixD at po
  split at po
  · rename_i k
    split at po
    · split at po
      · rename_i z hz
        obtain ⟨p, vs, rfl, hp, r⟩ := hx.lst R.ext
        obtain ⟨v, h1, h2⟩ := atI_rep r hz
        exact .inl ⟨p, vs, k, v, rfl, hy.int, .inl (.inl hp), h1, as_is R h2 po⟩
      · exact post_nope po
    · split at po
      · rename_i z hz
        obtain ⟨p, ob, vs, rfl, hp, _, _, r⟩ := hx.tup R.ext
        obtain ⟨v, h1, h2⟩ := atI_rep r hz
        exact .inr (.inl ⟨p, vs, k, v, rfl, hy.int, .inl (.inr ⟨ob, hp⟩), h1, as_is R h2 po⟩)
      · exact post_nope po
    · split at po
      · rename_i hl
        split at po
        · rename_i z hz
          exact .inr (.inr ⟨_, k, z, hx.str, hy.int, by rw [szl_eq]; exact hl, hz, as_is R (.str _) po⟩)
        · exact post_nope po
      · exact post_nope po
    · exact post_nope po
  · exact post_nope po

/-! ### slices -/
abbrev On := List D → Rs (Option Int × List D)
def KO (F : Fx) (P : List (Nat × Addr)) (σ : L2.St) (M' : List Md) (S : List Slot) (B H : Hp) (Q : Option Int → Hp → Prop) : Option Int × List D → Prop := fun x =>
  ∀ B' H' S', SR F.c P B' σ H' S' → mds S' = M' → dts S' = x.2 → Step S S' B B' H H' → Q x.1 H'
def tO (F : Fx) (M M' : List Md) (den : On) : TO := fun σ H Q =>
  ∃ P B S, SR F.c P B σ H S ∧ P.map (·.1) = F.io ∧ mds S = M ∧ PostG F P S B H (den (dts S)) (KO F P σ M' S B H Q)
abbrev JO (F : Fx) (X : Cx) (e : Option Expr) (M M' : List Md) (den : On) : Prop := PO X e (tO F M M' den)
theorem po_imp {e : Option Expr} {t t' : TO} (h : PO X e t) (k : ∀ σ H Q, t' σ H Q → t σ H Q) : PO X e t' := ⟨fun pins s σ H Q I w => h.run pins s σ H Q I (k σ H Q w)⟩
def someO (a : Dn) : On := fun Γ => a Γ >>= fun x => match x.1 with
  | .int i => .ok (some i, x.2)
  | _ => nope
theorem jo_none : JO F X none M M (fun Γ => .ok (none, Γ)) := po_imp po_none fun σ H Q ⟨P, B, S, R, io, e, po⟩ => po B H S R e rfl (Step.refl S B H)
theorem jo_some (h : JE F X e M M1 .fz da) : JO F X (some e) M M1 (someO da) := po_imp (po_some h) fun σ H Q ⟨P, B, S, R, io, e, po⟩ => by
  refine ⟨P, B, S, R, io, e, po.bind fun x _ po => ?_⟩
  intro v B1 H1 S1 R1 e1 g1 s1 w1
  obtain ⟨x1, x2⟩ := x
  cases x1 with
  | int i => exact ⟨i, Rep.int_iff w1, po B1 H1 S1 R1 e1 g1 s1⟩
  | _ => exact post_nope po
/-- the part of a list -/
def cutL {α : Type} (xs : List α) (lo hi : Option Int) : List α := (xs.drop (HT.sIx xs.length 0 lo)).take (HT.sIx xs.length xs.length hi - HT.sIx xs.length 0 lo)
theorem cutL_rep {c : Ct} {B : Hp} {vs : List V} {ds : List D} {lo hi : Option Int} (r : RepL c B vs ds) : RepL c B (cutV vs lo hi) (cutL ds lo hi) := by
  unfold cutV cutL
  rw [r.length]
  exact (r.drop _).take _
def slcD (op : D → Option Int → Option Int → Rs D) (ma : VM) (a : Dn) (lo hi : On) : Dn := fun Γ => a Γ >>= fun x => lo x.2 >>= fun l => hi l.2 >>= fun u => op (rd u.2 x.1 ma) l.1 u.1 >>= fun z => .ok (z, u.2)
def slL : D → Option Int → Option Int → Rs D
  | .lst xs, lo, hi => .ok (.lst (cutL xs lo hi))
  | _, _, _ => nope
def slA : D → Option Int → Option Int → Rs D
  | .lst xs, lo, hi => .ok (.lst (cutL xs lo hi))
  | .tup xs, lo, hi => .ok (.tup (cutL xs lo hi))
  | .str x, lo, hi => if x.length ≤ szl then .ok (.str (cutS x lo hi)) else nope
  | _, _, _ => nope
theorem sl_at {r : V → Option Int → Option Int → Hp → VK → Prop} {op : D → Option Int → Option Int → Rs D} {dl dh : On} {σ : L2.St} {H : Hp} {Q : VK} (hr : ∀ P B σ H S x d lo hi Q, SR F.c P B σ H S → HV F.c B H x d →
    PostG F P S B H (op d lo hi) (fun z => ∀ v B' H', SR F.c P B' σ H' S → Step S S B B' H H' → VR F.c H B' H' S v z m → Q v H') → r x lo hi H Q) (ka : VMok M3 ma)
    (h : tE F M M3 m (slcD op ma da dl dh) σ H Q) : tSl r (tE F M M1 ma da) (tO F M1 M2 dl) (tO F M2 M3 dh) σ H Q := by
  obtain ⟨P, B, S, R, io, e, po⟩ := h
  refine ⟨P, B, S, R, io, e, po.bind fun x _ po => ?_⟩
  intro v B1 H1 S1 R1 e1 g1 s1 w1
  refine ⟨P, B1, S1, R1, io, e1, ?_⟩
  rw [g1]
  refine (po.step s1 fun z k => k).bind fun y _ po => ?_
  intro B2 H2 S2 R2 e2 g2 s2
  refine ⟨P, B2, S2, R2, io, e2, ?_⟩
  rw [g2]
  refine (po.step s2 fun z k => k).bind fun y _ po => ?_
  intro B3 H3 S3 R3 e3 g3 s3
  refine hr P B3 σ H3 S3 v _ _ _ Q R3 (VR.hv R3 (w1.step R1 R3 (s2.trans s3) (by rw [e3]; exact ka))) ?_
  rw [g3]
  refine (po.step s3 fun z k => k).bind fun z _ k => ?_
  intro w B' H' R' s' w'
  exact k w B' H' S3 R' e3 g3 (((s1.trans s2).trans s3).trans s') (w'.back fun a z => ((s1.trans s2).trans s3).fresh z)
variable {lo hi : Option Expr} {dl dh : On}
/-- of a list: a new one -/
theorem je_slL (ha : JE F X a M M1 ma da) (hl : JO F X lo M1 M2 dl) (hh : JO F X hi M2 M3 dh) (ka : VMok M3 ma := by first | trivial | rfl) : JE F X (.Subscript a (.Slice lo hi none p2) pos) M M3 .fr (slcD slL ma da dl dh) := by
  refine pe_imp (pe_slice sl_list ha hl hh) fun σ H Q h => sl_at (fun P B σ H S x d lo hi Q R hx po => ?_) ka h
  unfold slL at po
  split at po
  · obtain ⟨p, vs, rfl, hp, r⟩ := hx.lst R.ext
    exact ⟨p, vs, rfl, .inl (.inl hp), fun q hq => new_fr R hq (.lst (cutL_rep r)) rfl po⟩
  · exact post_nope po
theorem whole_cut {vs : List V} {lo hi : Option Int} (h : HT.sIx vs.length 0 lo = 0 ∧ HT.sIx vs.length vs.length hi = vs.length) {ds : List D} (hl : vs.length = ds.length) : cutL ds lo hi = ds := by
  unfold cutL
  rw [← hl, h.1, h.2, Nat.sub_zero, List.drop_zero, hl, List.take_length]
/-- of a list, a tuple, a text: kept as it is -/
theorem je_sl (ha : JE F X a M M1 ma da) (hl : JO F X lo M1 M2 dl) (hh : JO F X hi M2 M3 dh) (ka : VMok M3 ma := by first | trivial | rfl) : JE F X (.Subscript a (.Slice lo hi none p2) pos) M M3 .fz (slcD slA ma da dl dh) := by
  refine pe_imp (pe_slice (sl_list.or (sl_tupF.or sl_str)) ha hl hh) fun σ H Q h => sl_at (fun P B σ H S x d lo hi Q R hx po => ?_) ka h
  unfold slA at po
  split at po
  · obtain ⟨p, vs, rfl, hp, r⟩ := hx.lst R.ext
    exact .inl ⟨p, vs, rfl, .inl (.inl hp), fun q hq => new_fz R hq (.lst (cutL_rep r)) (fun ps z => by cases z) po⟩
  · obtain ⟨p, ob, vs, e, hp, _, _, r⟩ := hx.tup R.ext
    have hr := hx.rep_tup
    subst e
    refine .inr (.inl ⟨p, vs, rfl, .inl (.inr ⟨ob, hp⟩), fun hw => ?_, fun _ => new_tup R (cutL_rep r) po⟩)
    rw [whole_cut hw r.length] at po
    exact as_is R hr po
  · split at po
    · rename_i hz
      exact .inr (.inr ⟨_, hx.str, by rw [szl_eq]; exact hz, as_is R (.str _) po⟩)
    · exact post_nope po
  · exact post_nope po
/-- xs[::-1], a list: a new one -/
def unD (op : D → Rs D) (ma : VM) (a : Dn) : Dn := fun Γ => a Γ >>= fun x => op (rd x.2 x.1 ma) >>= fun z => .ok (z, x.2)
def revL : D → Rs D
  | .lst xs => .ok (.lst xs.reverse)
  | _ => nope
theorem un_at {r : V → Hp → VK → Prop} {op : D → Rs D} {σ : L2.St} {H : Hp} {Q : VK} (hr : ∀ P B σ H S x d Q, SR F.c P B σ H S → HV F.c B H x d →
    PostG F P S B H (op d) (fun z => ∀ v B' H', SR F.c P B' σ H' S → Step S S B B' H H' → VR F.c H B' H' S v z m → Q v H') → r x H Q)
    (h : tE F M M1 m (unD op ma da) σ H Q) : tE F M M1 ma da σ H fun x H1 => r x H1 Q := by
  obtain ⟨P, B, S, R, io, e, po⟩ := h
  refine ⟨P, B, S, R, io, e, po.bind fun x _ po => ?_⟩
  intro v B1 H1 S1 R1 e1 g1 s1 w1
  refine hr P B1 σ H1 S1 v _ Q R1 (VR.hv R1 w1) ?_
  rw [g1]
  refine (po.step s1 fun z k => k).bind fun z _ k => ?_
  intro w B' H' R' s' w'
  exact k w B' H' S1 R' e1 g1 (s1.trans s') (w'.back fun a z => s1.fresh z)
theorem je_revL {k : Nat} {p1 p3 : Pos} (ha : JE F X a M M1 ma da) : JE F X (.Subscript a (.Slice none none (some (.UnaryOp .USub (.Constant (.int 1) k p1) p2)) p3) pos) M M1 .fr (unD revL ma da) := by
  refine pe_imp (pe_revL ha) fun σ H Q h => un_at (r := fun x H1 Q => ∃ a xs, x = .ref a ∧ SqL X.K H1 a xs ∧ ∀ p, H1 p = none → Q (.ref p) (upd H1 p (.lst xs.reverse))) (fun P B σ H S x d Q R hx po => ?_) h
  unfold revL at po
  split at po
  · obtain ⟨p, vs, rfl, hp, r⟩ := hx.lst R.ext
    exact ⟨p, vs, rfl, .inl (.inl hp), fun q hq => new_fr R hq (.lst r.reverse) rfl po⟩
  · exact post_nope po
def negD : D → Rs D
  | .int i => .ok (.int (-i))
  | _ => nope
theorem je_neg (ha : JE F X a M M1 ma da) : JE F X (.UnaryOp .USub a pos) M M1 .fz (unD negD ma da) := by
  refine pe_imp (pe_un un_neg ha) fun σ H Q h => un_at (fun P B σ H S x d Q R hx po => ?_) h
  unfold negD at po
  split at po
  · exact ⟨_, hx.int, as_is R (.int _) po⟩
  · exact post_nope po

/-! ### calls of what is built in -/
def callD (op : List D → Rs D) (ms : List VM) (a : An) : Dn := fun Γ => a Γ >>= fun x => op (rds x.2 x.1 ms) >>= fun z => .ok (z, x.2)
def CallS (F : Fx) (X : Cx) (f : Value) (m : VM) (op : List D → Rs D) : Prop :=
  ∃ r, CallR X f r ∧ ∀ P B σ H S vs ds Q, SR F.c P B σ H S → HVs F.c B H vs ds →
    PostG F P S B H (op ds) (fun z => ∀ v B' H', SR F.c P B' σ H' S → Step S S B B' H H' → VR F.c H B' H' S v z m → Q v H') → r vs H Q
theorem call_at {r : List V → Hp → VK → Prop} {op : List D → Rs D} {σ : L2.St} {H : Hp} {Q : VK} (hr : ∀ P B σ H S vs ds Q, SR F.c P B σ H S → HVs F.c B H vs ds →
    PostG F P S B H (op ds) (fun z => ∀ v B' H', SR F.c P B' σ H' S → Step S S B B' H H' → VR F.c H B' H' S v z m → Q v H') → r vs H Q)
    (h : tE F M M1 m (callD op ms dA) σ H Q) : tA F M M1 ms dA σ H fun xs H1 => r xs H1 Q := by
  obtain ⟨P, B, S, R, io, e, po⟩ := h
  refine ⟨P, B, S, R, io, e, po.bind fun x _ po => ?_⟩
  intro vs B1 H1 S1 R1 e1 g1 s1 w1
  refine hr P B1 σ H1 S1 vs _ Q R1 (w1.hvs R1) ?_
  rw [g1]
  refine (po.step s1 fun z k => k).bind fun z _ k => ?_
  intro w B' H' R' s' w'
  exact k w B' H' S1 R' e1 g1 (s1.trans s') (w'.back fun a z => s1.fresh z)
theorem je_callB {id : String} {x : Str} {p : Pos} {op : List D → Rs D} (hc : CallS F X (.builtin id) m op) (hg : Gl X x) (hm : X.mg x = none) (hv : bootBuiltins x = some (.builtin id)) (ha : JA F X (e :: es) M M1 ms dA)
    (hn : x ≠ "__name__" := by decide) (hdb : (x == ("__debug__" : Str)) = false := by decide) (he : starEach (e :: es) X.env = (false, eval e X.env) :: starEach es X.env := by rfl) (hpl : (backTo pos (starEach es X.env)).any (·.1) = false := by rfl) :
    JE F X (.Call (.Name x p) (e :: es) [] pos) M M1 m (callD op ms dA) := by
  obtain ⟨r, hr, hs⟩ := hc
  exact pe_imp (pe_callB hr hg hm hv ha hn hdb he hpl) fun σ H Q h => call_at hs h
theorem je_callTy {T : String} {x : Str} {p : Pos} {op : List D → Rs D} (hc : CallS F X (.type T) m op) (hg : Gl X x) (hm : X.mg x = none) (hv : bootBuiltins x = some (.type T)) (ha : JA F X (e :: es) M M1 ms dA)
    (hn : x ≠ "__name__" := by decide) (hdb : (x == ("__debug__" : Str)) = false := by decide) (he : starEach (e :: es) X.env = (false, eval e X.env) :: starEach es X.env := by rfl) (hpl : (backTo pos (starEach es X.env)).any (·.1) = false := by rfl) :
    JE F X (.Call (.Name x p) (e :: es) [] pos) M M1 m (callD op ms dA) := by
  obtain ⟨r, hr, hs⟩ := hc
  exact pe_imp (pe_callTy hr hg hm hv ha hn hdb he hpl) fun σ H Q h => call_at hs h
theorem HVs.one {c : Ct} {B H : Hp} {vs : List V} {d : D} : HVs c B H vs [d] → ∃ v, vs = [v] ∧ HV c B H v d
  | .cons h .nil => ⟨_, rfl, h⟩
theorem HVs.two {c : Ct} {B H : Hp} {vs : List V} {d e : D} : HVs c B H vs [d, e] → ∃ v w, vs = [v, w] ∧ HV c B H v d ∧ HV c B H w e
  | .cons h (.cons k .nil) => ⟨_, _, rfl, h, k⟩
/-- len -/
def lenB : List D → Rs D
  | [.lst xs] => .ok (.int xs.length)
  | [.tup xs] => .ok (.int xs.length)
  | [.str x] => if x.length ≤ szl then .ok (.int x.length) else nope
  | _ => nope
theorem b_len : CallS F X (.builtin "len") .fz lenB := by
  refine ⟨_, CallR.or call_len_seq call_len, fun P B σ H S vs ds Q R hv po => ?_⟩
  unfold lenB at po
  split at po
  · obtain ⟨v, rfl, h⟩ := hv.one
    obtain ⟨p, vs, rfl, hp, r⟩ := h.lst R.ext
    exact .inl ⟨p, vs, rfl, .inl (.inl (.inl hp)), by rw [r.length]; exact as_is R (.int _) po⟩
  · obtain ⟨v, rfl, h⟩ := hv.one
    obtain ⟨p, ob, vs, rfl, hp, _, _, r⟩ := h.tup R.ext
    exact .inl ⟨p, vs, rfl, .inr (.inl (.inr ⟨ob, hp⟩)), by rw [r.length]; exact as_is R (.int _) po⟩
  · split at po
    · rename_i hz
      obtain ⟨v, rfl, h⟩ := hv.one
      refine .inr ⟨v, _, rfl, ?_, as_is R (.int _) po⟩
      rw [h.str]
      exact ⟨by rw [szl_eq]; exact hz, rfl⟩
    · exact post_nope po
  · exact post_nope po
/-- list(x): a new one -/
def listB : List D → Rs D
  | [d] => (match itemsD d with
    | some ds => .ok (.lst ds)
    | none => nope)
  | _ => nope
theorem b_list : CallS F X (.type "list") .fr listB := by
  refine ⟨_, call_list_of, fun P B σ H S vs ds Q R hv po => ?_⟩
  unfold listB at po
  split at po
  · split at po
    · rename_i hd
      obtain ⟨v, rfl, h⟩ := hv.one
      obtain ⟨p, vs, rfl, hq, r⟩ := h.items (K := X.K) R.ext hd
      exact ⟨p, vs, rfl, hq, fun q hq => new_fr R hq (.lst r) rfl po⟩
    · exact post_nope po
  · exact post_nope po
def tupleB : List D → Rs D
  | [d] => (match itemsD d with
    | some ds => .ok (.tup ds)
    | none => nope)
  | _ => nope
theorem b_tuple : CallS F X (.type "tuple") .fz tupleB := by
  refine ⟨_, call_tupleF, fun P B σ H S vs ds Q R hv po => ?_⟩
  unfold tupleB at po
  split at po
  · rename_i d
    obtain ⟨v, rfl, h⟩ := hv.one
    cases d with
    | lst xs =>
      obtain ⟨p, vs, rfl, hp, r⟩ := h.lst R.ext
      exact ⟨p, vs, rfl, .inl ⟨.inl (.inl hp), new_tup R r po⟩⟩
    | tup xs =>
      obtain ⟨p, ob, vs, e, hp, _, _, r⟩ := h.tup R.ext
      have hr := h.rep_tup
      subst e
      exact ⟨p, vs, rfl, .inr ⟨.inl (.inr ⟨ob, hp⟩), as_is R hr po⟩⟩
    | _ => exact post_nope po
  · exact post_nope po
def intB : List D → Rs D
  | [.int i] => .ok (.int i)
  | [.bl b] => .ok (.int (if b then 1 else 0))
  | _ => nope
theorem b_int : CallS F X (.type "int") .fz intB := by
  refine ⟨_, call_int1, fun P B σ H S vs ds Q R hv po => ?_⟩
  unfold intB at po
  split at po
  · obtain ⟨v, rfl, h⟩ := hv.one
    exact .inl ⟨_, by rw [h.int], as_is R (.int _) po⟩
  · obtain ⟨v, rfl, h⟩ := hv.one
    exact .inr ⟨_, by rw [h.bl], as_is R (.int _) po⟩
  · exact post_nope po
/-- lists of ints -/
def intsOf : List D → Option (List Int)
  | [] => some []
  | .int i :: ds => (intsOf ds).map (i :: ·)
  | _ :: _ => none
theorem intsOf_rep {c : Ct} {B : Hp} : ∀ {ds : List D} {ns : List Int} {vs : List V}, intsOf ds = some ns → RepL c B vs ds → vs = ns.map V.int
  | [], _, _, h, .nil => by cases h; rfl
  | .int i :: ds, ns, _, h, .cons r t => by
    have h' : (intsOf ds).map (i :: ·) = some ns := h
    cases q : intsOf ds with
    | none => rw [q] at h'; cases h'
    | some ms =>
      rw [q] at h'
      cases h'
      rw [r.int_iff, intsOf_rep q t]
      rfl
  | .non :: _, _, _, h, _ => by cases h
  | .bl _ :: _, _, _, h, _ => by cases h
  | .str _ :: _, _, _, h, _ => by cases h
  | .lst _ :: _, _, _, h, _ => by cases h
  | .tup _ :: _, _, _, h, _ => by cases h
  | .dic _ :: _, _, _, h, _ => by cases h
  | .obj _ _ :: _, _, _, h, _ => by cases h
  | .scr _ :: _, _, _, h, _ => by cases h
  | .raw _ :: _, _, _, h, _ => by cases h
  | .exn _ _ _ _ :: _, _, _, h, _ => by cases h
def sumB : List D → Rs D
  | [.lst xs] => (match intsOf xs with
    | some ns => .ok (.int ns.sum)
    | none => nope)
  | _ => nope
theorem b_sum (hc : X.calm = true) : CallS F X (.builtin "sum") .fz sumB := by
  refine ⟨_, cr_sum hc, fun P B σ H S vs ds Q R hv po => ?_⟩
  unfold sumB at po
  split at po
  · split at po
    · rename_i hn
      obtain ⟨v, rfl, h⟩ := hv.one
      obtain ⟨p, vs, rfl, hp, r⟩ := h.lst R.ext
      exact ⟨p, _, rfl, by rw [← intsOf_rep hn r]; exact .inl (.inl hp), as_is R (.int _) po⟩
    · exact post_nope po
  · exact post_nope po

/-! ### isinstance -/
def tyD : D → Option String
  | .non => some "NoneType"
  | .bl _ => some "bool"
  | .int _ => some "int"
  | .str _ => some "str"
  | .lst _ => some "list"
  | .tup _ => some "tuple"
  | .dic _ => some "dict"
  | _ => none
theorem tyX_of {c : Ct} {B H : Hp} {K : PySem.W.Frag} (e : Sub B H) {v : V} {d : D} {t : String} (h : HV c B H v d) (k : tyD d = some t) : TyX K H v (.type t) := by
  cases d with
  | non => cases k; rw [h.non]; exact .base .non
  | bl b => cases k; rw [h.bl]; exact .base (.bl b)
  | int i => cases k; rw [h.int]; exact .base (.int i)
  | str x => cases k; rw [h.str]; exact .base (.str x)
  | lst xs => cases k; obtain ⟨p, vs, rfl, hp, _⟩ := h.lst e; exact .base (.lst hp)
  | tup xs => cases k; obtain ⟨p, ob, vs, rfl, hp, _⟩ := h.tup e; exact .fTuple hp
  | dic xs => cases k; obtain ⟨p, vs, rfl, hp, _⟩ := h.dic e; exact .base (.dK hp)
  | obj _ _ => cases k
  | scr _ => cases k
  | raw _ => cases k
  | exn _ _ _ _ => cases k
/-- is data of type t an instance of the built-in class T -/
def isT (T : String) : D → Option Bool
  | .non => some false
  | .bl _ => some (T == "bool" || T == "int")
  | .int _ => some (T == "int")
  | .str _ => some (T == "str")
  | .lst _ => some (T == "list")
  | .tup _ => some (T == "tuple")
  | .dic _ => some (T == "dict")
  | _ => none
def TyOkC (T : String) : Prop := ∀ d t, tyD d = some t → kitB t T = isT T d
theorem tok_int : TyOkC "int" := fun d t k => by
  cases d <;> cases k <;> first
    | (show kitB _ _ = some true; decide +kernel)
    | (show kitB _ _ = some false; decide +kernel)
theorem tok_bool : TyOkC "bool" := fun d t k => by
  cases d <;> cases k <;> first
    | (show kitB _ _ = some true; decide +kernel)
    | (show kitB _ _ = some false; decide +kernel)
theorem tok_str : TyOkC "str" := fun d t k => by
  cases d <;> cases k <;> first
    | (show kitB _ _ = some true; decide +kernel)
    | (show kitB _ _ = some false; decide +kernel)
theorem tok_list : TyOkC "list" := fun d t k => by
  cases d <;> cases k <;> first
    | (show kitB _ _ = some true; decide +kernel)
    | (show kitB _ _ = some false; decide +kernel)
theorem tok_tuple : TyOkC "tuple" := fun d t k => by
  cases d <;> cases k <;> first
    | (show kitB _ _ = some true; decide +kernel)
    | (show kitB _ _ = some false; decide +kernel)
theorem isT_some {T : String} {d : D} {b : Bool} (h : isT T d = some b) : ∃ t, tyD d = some t := by
  cases d with
  | obj _ _ => cases h
  | scr _ => cases h
  | raw _ => cases h
  | exn _ _ _ _ => cases h
  | _ => exact ⟨_, rfl⟩
/-- a built-in class by its name -/
theorem pe_ty {x : Str} {T : String} {p : Pos} (hg : Gl X x) (hm : X.mg x = none) (hv : bootBuiltins x = some (.type T)) (hn : x ≠ "__name__" := by decide) (hd : (x == ("__debug__" : Str)) = false := by decide) : PE X (.Name x p) (tC (.ty T)) :=
  ⟨fun pins s σ H Q I h => ld_blt I hg hm hv ⟨.ty T, H, I, rfl, h⟩ hn hd⟩
def isiD (T : String) (d : D) : Rs D := match isT T d with
  | some b => .ok (.bl b)
  | none => nope
/-- isinstance(e, T) -/
theorem je_isi {T : String} {n : Expr} {p : Pos} (hT : TyOkC T) (ht : PE X n (tC (.ty T))) (hg : Gl X "isinstance") (hm : X.mg "isinstance" = none) (ha : JE F X e M M1 ma da)
    (he : starEach [e, n] X.env = (false, eval e X.env) :: starEach [n] X.env := by rfl) (hpl : (backTo pos (starEach [n] X.env)).any (·.1) = false := by rfl) (hs : starEach [n] X.env = (false, eval n X.env) :: starEach [] X.env := by rfl) :
    JE F X (.Call (.Name "isinstance" p) [e, n] [] pos) M M1 .fz (unD (isiD T) ma da) := by
  refine pe_imp (pe_callB call_isi hg hm (by decide +kernel) (pa_cons ha (pa_cons ht pa_nil hs) he) (by decide) (by decide) he hpl) fun σ H Q h => un_at (r := fun x H1 Q => rIsi X.K [x, .ty T] H1 Q) (fun P B σ H S x d Q R hx po => ?_) h
  unfold isiD at po
  split at po
  · rename_i b hb
    obtain ⟨t, ht⟩ := isT_some hb
    exact ⟨x, .ty T, .type t, .type T, b, rfl, .ty T, tyX_of R.ext hx ht, kit_ty (by rw [hT d t ht]; exact hb), as_is R (.bl b) po⟩
  · exact post_nope po
/-- isinstance(e, (T, U)) -/
def isi2D (T U : String) (d : D) : Rs D := match isT T d, isT U d with
  | some a, some b => .ok (.bl (a || b))
  | _, _ => nope
theorem je_isi2 {T U : String} {n1 n2 : Expr} {p p3 : Pos} {k : Nat} (hT : TyOkC T) (hU : TyOkC U) (h1 : PE X n1 (tC (.ty T))) (h2 : PE X n2 (tC (.ty U))) (hg : Gl X "isinstance") (hm : X.mg "isinstance" = none) (ha : JE F X e M M1 ma da)
    (he : starEach [e, .Tuple [n1, n2] k p3] X.env = (false, eval e X.env) :: starEach [.Tuple [n1, n2] k p3] X.env := by rfl) (hpl : (backTo pos (starEach [.Tuple [n1, n2] k p3] X.env)).any (·.1) = false := by rfl)
    (hs : starEach [.Tuple [n1, n2] k p3] X.env = (false, eval (.Tuple [n1, n2] k p3) X.env) :: starEach [] X.env := by rfl) (hs1 : starEach [n1, n2] X.env = (false, eval n1 X.env) :: starEach [n2] X.env := by rfl) (hs2 : starEach [n2] X.env = (false, eval n2 X.env) :: starEach [] X.env := by rfl) :
    JE F X (.Call (.Name "isinstance" p) [e, .Tuple [n1, n2] k p3] [] pos) M M1 .fz (unD (isi2D T U) ma da) := by
  refine pe_imp (pe_callB call_isiT hg hm (by decide +kernel) (pa_cons ha (pa_cons (pe_tup (pa_cons h1 (pa_cons h2 pa_nil hs2) hs1)) pa_nil hs) he) (by decide) (by decide) he hpl) fun σ H Q h =>
    un_at (r := fun x H1 Q => 2 ≤ sizeLine ∧ ∀ q, H1 q = none → rIsiT X.K [x, .ref q] (upd H1 q (.tup [.ty T, .ty U])) Q) (fun P B σ H S x d Q R hx po => ?_) h
  unfold isi2D at po
  split at po
  · rename_i a b hb hb'
    obtain ⟨t, ht⟩ := isT_some hb
    refine ⟨small_line (by decide), fun q hq => ?_⟩
    have R2 := R.new (o := .tup [.ty T, .ty U]) hq
    refine ⟨x, q, _, .type t, [.type T, .type U], (a || b), rfl, upd_same, .cons (.ty T) (.cons (.ty U) .nil), tyX_of (c := F.c) R2.ext ?_ ht, ?_, ?_⟩
    · rcases hx with hx | ⟨p, o, rfl, ho, hx, hm⟩
      · exact .inl hx
      · exact .inr ⟨p, o, rfl, by rw [upd_ne (ne_of_none ho hq)]; exact ho, hx, hm⟩
    · have k1 : PySem.W.kitOne X.K (.type t) (.type T) = some a := kit_ty (by rw [hT d t ht]; exact hb)
      have k2 : PySem.W.kitOne X.K (.type t) (.type U) = some b := kit_ty (by rw [hU d t ht]; exact hb')
      refine kitAny_cons k1 (fun ea => ?_) fun ea => by rw [ea]; rfl
      refine kitAny_cons k2 (fun eb => ?_) fun eb => by rw [eb, Bool.or_true]
      rw [ea, eb]
      exact kitAny_nil
    · exact po (.bl (a || b)) B _ R2 (Step.new S B hq) (.bl _)
  · exact post_nope po
end
end DL

set_option Elab.async false
set_option linter.all false
set_option maxRecDepth 100000
set_option maxHeartbeats 4000000
/-! DL, part 4: statements. -/
namespace DL
open PySem PySem.Spec PyProof.Rows L2

inductive Out where
  | nx (Γ : List D) | brk (Γ : List D) | cnt (Γ : List D) | ret (d : D) (Γ : List D)
abbrev Sn := List D → Rs Out
def KS (F : Fx) (P : List (Nat × Addr)) (Mn Mb Mc : List Md) (rm : VM) (S : List Slot) (B H : Hp) (E : Ends) : Out → Prop
  | .nx Γ => ∀ σ' B' H' S', SR F.c P B' σ' H' S' → mds S' = Mn → dts S' = Γ → Step S S' B B' H H' → E.nx σ' H'
  | .brk Γ => ∀ σ' B' H' S', SR F.c P B' σ' H' S' → mds S' = Mb → dts S' = Γ → Step S S' B B' H H' → E.bk σ' H'
  | .cnt Γ => ∀ σ' B' H' S', SR F.c P B' σ' H' S' → mds S' = Mc → dts S' = Γ → Step S S' B B' H H' → E.ct σ' H'
  | .ret d Γ => ∀ v σ' B' H' S', SR F.c P B' σ' H' S' → dts S' = Γ → Step S S' B B' H H' → VR F.c H B' H' S' v d rm → E.rt v H'
def tS (F : Fx) (M Mn Mb Mc : List Md) (rm : VM) (den : Sn) : TS := fun E σ H =>
  ∃ P B S, SR F.c P B σ H S ∧ P.map (·.1) = F.io ∧ mds S = M ∧ PostG F P S B H (den (dts S)) (KS F P Mn Mb Mc rm S B H E)
abbrev JS (F : Fx) (X : Cx) (s : Stmt) (M Mn Mb Mc : List Md) (rm : VM) (den : Sn) : Prop := PS X s (tS F M Mn Mb Mc rm den)
abbrev JB (F : Fx) (X : Cx) (s : List Stmt) (M Mn Mb Mc : List Md) (rm : VM) (den : Sn) : Prop := PSs X s (tS F M Mn Mb Mc rm den)
theorem ps_imp {X : Cx} {e : Stmt} {t t' : TS} (h : PS X e t) (k : ∀ E σ H, t' E σ H → t E σ H) : PS X e t' := ⟨fun pins s σ H D I w => h.run pins s σ H D I (k D σ H w)⟩
theorem pss_imp {X : Cx} {e : List Stmt} {t t' : TS} (h : PSs X e t) (k : ∀ E σ H, t' E σ H → t E σ H) : PSs X e t' := ⟨fun pins s σ H D I w => h.run pins s σ H D I (k D σ H w)⟩

section
variable {F : Fx} {P : List (Nat × Addr)} {S S1 : List Slot} {B B1 H H1 : Hp} {σ : L2.St} {Mn Mb Mc : List Md} {rm : VM} {E : Ends}
theorem KS.step (s : Step S S1 B B1 H H1) {o : Out} (h : KS F P Mn Mb Mc rm S B H E o) : KS F P Mn Mb Mc rm S1 B1 H1 E o := by
  cases o with
  | nx Γ => exact fun σ' B' H' S' R e1 e2 t => h σ' B' H' S' R e1 e2 (s.trans t)
  | brk Γ => exact fun σ' B' H' S' R e1 e2 t => h σ' B' H' S' R e1 e2 (s.trans t)
  | cnt Γ => exact fun σ' B' H' S' R e1 e2 t => h σ' B' H' S' R e1 e2 (s.trans t)
  | ret d Γ => exact fun v σ' B' H' S' R e2 t w => h v σ' B' H' S' R e2 (s.trans t) (w.back fun a z => s.fresh z)

/-! ### storing in a slot -/
theorem SR.set {c : Ct} (R : SR c P B σ H S) {i : Nat} {v : V} {s : Slot} (ok : SlotOk c B (σ.set i (some v)) H i s) (hi : ∀ l d, s = .ow l d → ¬ InA S l) (hP : ∀ q ∈ P, q.1 ≠ i) : SR c P B (σ.set i (some v)) H (S.set i s) where
  len := by rw [List.length_set, List.length_set]; exact R.len
  ext := R.ext
  ntb := R.ntb
  tab := R.tab
  ok := fun j s' e => by
    by_cases hj : i = j
    · subst hj
      by_cases hl : i < S.length
      · rw [List.getElem?_set_self hl] at e
        cases e
        exact ok
      · rw [List.getElem?_eq_none (by simpa using hl)] at e
        cases e
    · rw [List.getElem?_set_ne hj] at e
      have h := R.ok j s' e
      cases s' with
      | un _ => trivial
      | fz v d => exact ⟨by rw [List.getElem?_set_ne hj]; exact h.1, h.2⟩
      | ow l d => exact ⟨by rw [List.getElem?_set_ne hj]; exact h.1, h.2⟩
  inj := fun j k l d e h1 h2 => by
    by_cases hj : i = j
    · by_cases hk : i = k
      · omega
      · subst hj
        rw [List.getElem?_set_ne hk] at h2
        by_cases hl : i < S.length
        · rw [List.getElem?_set_self hl] at h1
          cases h1
          exact absurd ⟨k, e, h2⟩ (hi l d rfl)
        · rw [List.getElem?_eq_none (by simpa using hl)] at h1
          cases h1
    · rw [List.getElem?_set_ne hj] at h1
      by_cases hk : i = k
      · subst hk
        by_cases hl : i < S.length
        · rw [List.getElem?_set_self hl] at h2
          cases h2
          exact absurd ⟨j, d, h1⟩ (hi l e rfl)
        · rw [List.getElem?_eq_none (by simpa using hl)] at h2
          cases h2
      · rw [List.getElem?_set_ne hk] at h2
        exact R.inj j k l d e h1 h2
  pin := fun q hq => by
    obtain ⟨d, e⟩ := R.pin q hq
    exact ⟨d, by rw [List.getElem?_set_ne (Ne.symm (hP q hq))]; exact e⟩
theorem inA_set {i : Nat} {s : Slot} {a : Addr} (h : InA (S.set i s) a) : InA S a ∨ ∃ d, s = .ow a d := by
  obtain ⟨j, d, e⟩ := h
  by_cases hj : i = j
  · subst hj
    by_cases hl : i < S.length
    · rw [List.getElem?_set_self hl] at e
      exact .inr ⟨d, Option.some.inj e⟩
    · rw [List.getElem?_eq_none (by simpa using hl)] at e
      cases e
  · rw [List.getElem?_set_ne hj] at e
    exact .inl ⟨j, d, e⟩
def mdOf : VM → Md
  | .fr => .ow
  | _ => .fz
theorem set_val {c : Ct} (R : SR c P B1 σ H1 S1) (st : Step S S1 B B1 H H1) {i : Nat} {v : V} {d : D} {m : VM} (w : VR c H B1 H1 S1 v d m) (hm : m = .fz ∨ m = .fr) (hP : ∀ q ∈ P, q.1 ≠ i) (hl : i < S1.length) :
    ∃ s, s.md = mdOf m ∧ s.dt = d ∧ SR c P B1 (σ.set i (some v)) H1 (S1.set i s) ∧ Step S (S1.set i s) B B1 H H1 := by
  have hσ : i < σ.length := by rw [← R.len]; exact hl
  rcases hm with rfl | rfl
  · refine ⟨.fz v d, rfl, rfl, R.set ⟨List.getElem?_set_self hσ, w⟩ (fun l d e => nomatch e) hP, st.grow, st.keep, st.stay, st.out, fun a h => ?_⟩
    rcases inA_set h with h | ⟨_, h⟩
    · exact st.adr a h
    · cases h
  · obtain ⟨p, o, rfl, h1, h2, h3, h4, h5, h6⟩ := w
    refine ⟨.ow p d, rfl, rfl, R.set ⟨List.getElem?_set_self hσ, o, h1, h2, h4, h5⟩ (fun l d e => by cases e; exact h3) hP, st.grow, st.keep, st.stay, st.out, fun a h => ?_⟩
    rcases inA_set h with h | ⟨_, h⟩
    · exact st.adr a h
    · cases h
      exact .inr h6
theorem notIo {i : Nat} (io : P.map (·.1) = F.io) (h : F.io.contains i = false) : ∀ q ∈ P, q.1 ≠ i := fun q hq e => by
  have hm : q.1 ∈ F.io := by rw [← io]; exact List.mem_map.mpr ⟨q, hq, rfl⟩
  rw [e] at hm
  rw [List.contains_iff_mem.mpr hm] at h
  cases h
end

section
variable {F : Fx} {X : Cx} {e a b : Expr} {M M1 M2 M3 Mn Mb Mc : List Md} {m rm : VM} {da db : Dn} {pos : Pos} {d1 d2 : Sn} {st : Stmt} {rest : List Stmt}
/-! ### blocks -/
def seqS (a b : Sn) : Sn := fun Γ => a Γ >>= fun o => match o with
  | .nx Γ1 => b Γ1
  | o => .ok o
theorem jb_nil : JB F X [] M M Mb Mc rm (fun Γ => .ok (.nx Γ)) := pss_imp pss_nil fun E σ H ⟨P, B, S, R, io, e, po⟩ => po σ B H S R e rfl (Step.refl S B H)
theorem jb_cons (h : JS F X st M M1 Mb Mc rm d1) (k : JB F X rest M1 Mn Mb Mc rm d2) : JB F X (st :: rest) M Mn Mb Mc rm (seqS d1 d2) := pss_imp (pss_cons h k) fun E σ H ⟨P, B, S, R, io, e, po⟩ => by
  refine ⟨P, B, S, R, io, e, po.bind fun o _ po => ?_⟩
  cases o with
  | nx Γ =>
    intro σ1 B1 H1 S1 R1 e1 g1 s1
    refine ⟨P, B1, S1, R1, io, e1, ?_⟩
    rw [g1]
    exact PostG.step s1 (fun z k => k.step s1) po
  | brk Γ => exact po
  | cnt Γ => exact po
  | ret d Γ => exact po
theorem jb_one (h : JS F X st M Mn Mb Mc rm d1) : JB F X [st] M Mn Mb Mc rm d1 := pss_one h
theorem js_pass : JS F X (.Pass pos) M M Mb Mc rm (fun Γ => .ok (.nx Γ)) := ps_imp ps_pass fun E σ H ⟨P, B, S, R, io, e, po⟩ => po σ B H S R e rfl (Step.refl S B H)
theorem js_break : JS F X (.Break pos) M Mn M Mc rm (fun Γ => .ok (.brk Γ)) := ps_imp ps_break fun E σ H ⟨P, B, S, R, io, e, po⟩ => po σ B H S R e rfl (Step.refl S B H)
theorem js_continue : JS F X (.Continue pos) M Mn Mb M rm (fun Γ => .ok (.cnt Γ)) := ps_imp ps_continue fun E σ H ⟨P, B, S, R, io, e, po⟩ => po σ B H S R e rfl (Step.refl S B H)
def dropS (a : Dn) : Sn := fun Γ => a Γ >>= fun x => .ok (.nx x.2)
theorem js_expr (h : JE F X e M M1 m da) (hs : swapsWith e none pos.line X.env = pure false := by rfl) : JS F X (.Expr e pos) M M1 Mb Mc rm (dropS da) := ps_imp (ps_expr h hs) fun E σ H ⟨P, B, S, R, io, e, po⟩ => by
  refine ⟨P, B, S, R, io, e, po.bind fun x _ po => ?_⟩
  intro v B1 H1 S1 R1 e1 g1 s1 w1
  exact po σ B1 H1 S1 R1 e1 g1 s1
def retS (a : Dn) : Sn := fun Γ => a Γ >>= fun x => .ok (.ret x.1 x.2)
theorem js_ret (h : JE F X e M M1 rm da) : JS F X (.Return (some e) pos) M Mn Mb Mc rm (retS da) := ps_imp (ps_ret h) fun E σ H ⟨P, B, S, R, io, e, po⟩ => by
  refine ⟨P, B, S, R, io, e, po.bind fun x _ po => ?_⟩
  intro v B1 H1 S1 R1 e1 g1 s1 w1
  exact po v σ B1 H1 S1 R1 g1 s1 w1
theorem js_retN : JS F X (.Return none pos) M Mn Mb Mc .fz (fun Γ => .ok (.ret .non Γ)) := ps_imp ps_retN fun E σ H ⟨P, B, S, R, io, e, po⟩ => po .non σ B H S R rfl (Step.refl S B H) .non
def ifS (t : Tn) (a b : Sn) : Sn := fun Γ => t Γ >>= fun x => match x.1 with
  | true => a x.2
  | false => b x.2
theorem js_if {c : Expr} {x y : List Stmt} {dt : Tn} (hc : JT F X c M M1 dt) (ha : JB F X x M1 Mn Mb Mc rm d1) (hb : JB F X y M1 Mn Mb Mc rm d2) : JS F X (.If c x y pos) M Mn Mb Mc rm (ifS dt d1 d2) := ps_imp (ps_if hc ha hb) fun E σ H ⟨P, B, S, R, io, e, po⟩ => by
  refine ⟨P, B, S, R, io, e, po.bind fun x _ po => ?_⟩
  intro B1 H1 S1 R1 e1 g1 s1
  obtain ⟨x1, x2⟩ := x
  cases x1 with
  | true =>
    rw [if_pos rfl]
    refine ⟨P, B1, S1, R1, io, e1, ?_⟩
    rw [g1]
    exact PostG.step s1 (fun z k => k.step s1) po
  | false =>
    rw [if_neg Bool.false_ne_true]
    refine ⟨P, B1, S1, R1, io, e1, ?_⟩
    rw [g1]
    exact PostG.step s1 (fun z k => k.step s1) po

/-! ### less known of the slots -/
/-- a slot that stays may be forgotten -/
def leMd : Md → Md → Bool
  | _, .un => true
  | .fz, .fz => true
  | .ow, .ow => true
  | _, _ => false
def leM : List Md → List Md → Bool
  | [], [] => true
  | a :: as, b :: bs => leMd a b && leM as bs
  | _, _ => false
def weakTo : List Slot → List Md → List Slot
  | s :: ss, .un :: ms => .un s.dt :: weakTo ss ms
  | s :: ss, _ :: ms => s :: weakTo ss ms
  | ss, _ => ss
theorem weak_at : ∀ {S : List Slot} {M : List Md} {i : Nat} {s : Slot}, (weakTo S M)[i]? = some s → (∃ d, s = .un d) ∨ S[i]? = some s
  | [], M, i, s, h => by cases M <;> (simp [weakTo] at h)
  | t :: ss, [], i, s, h => .inr h
  | t :: ss, .un :: ms, 0, s, h => .inl ⟨t.dt, (Option.some.inj h).symm⟩
  | t :: ss, .fz :: ms, 0, s, h => .inr h
  | t :: ss, .ow :: ms, 0, s, h => .inr h
  | t :: ss, .un :: ms, i + 1, s, h => weak_at (S := ss) (M := ms) (i := i) h
  | t :: ss, .fz :: ms, i + 1, s, h => weak_at (S := ss) (M := ms) (i := i) h
  | t :: ss, .ow :: ms, i + 1, s, h => weak_at (S := ss) (M := ms) (i := i) h
theorem weak_md : ∀ {S : List Slot} {M : List Md}, leM (mds S) M = true → mds (weakTo S M) = M
  | [], [], _ => rfl
  | [], _ :: _, h => by cases h
  | _ :: _, [], h => by cases h
  | t :: ss, m :: ms, h => by
    obtain ⟨h1, h2⟩ := Bool.and_eq_true_iff.mp (show (leMd t.md m && leM (mds ss) ms) = true from h)
    have ih := weak_md h2
    cases m with
    | un => show Md.un :: mds (weakTo ss ms) = _; rw [ih]
    | fz =>
      show t.md :: mds (weakTo ss ms) = _
      rw [ih]
      cases t <;> first | rfl | cases h1
    | ow =>
      show t.md :: mds (weakTo ss ms) = _
      rw [ih]
      cases t <;> first | rfl | cases h1
theorem weak_dt : ∀ {S : List Slot} {M : List Md}, dts (weakTo S M) = dts S
  | [], M => by cases M <;> rfl
  | _ :: _, [] => rfl
  | t :: ss, m :: ms => by
    have ih := weak_dt (S := ss) (M := ms)
    cases m with
    | un => show t.dt :: dts (weakTo ss ms) = t.dt :: dts ss; rw [ih]
    | fz => show t.dt :: dts (weakTo ss ms) = t.dt :: dts ss; rw [ih]
    | ow => show t.dt :: dts (weakTo ss ms) = t.dt :: dts ss; rw [ih]
theorem weak_len : ∀ {S : List Slot} {M : List Md}, (weakTo S M).length = S.length
  | [], M => by cases M <;> rfl
  | _ :: _, [] => rfl
  | t :: ss, m :: ms => by
    have ih := weak_len (S := ss) (M := ms)
    cases m <;> (show (weakTo ss ms).length + 1 = ss.length + 1; rw [ih])
/-- the caller's slots are not forgotten -/
def keepsIo (io : List Nat) (M : List Md) : Bool := io.all fun i => M[i]? == some .ow
theorem weak_pin : ∀ {S : List Slot} {M : List Md} {i : Nat} {l : Addr} {d : D}, S[i]? = some (Slot.ow l d) → M[i]? = some .ow → (weakTo S M)[i]? = some (Slot.ow l d)
  | [], M, i, l, d, h, _ => by simp at h
  | t :: ss, [], i, l, d, h, k => by simp at k
  | t :: ss, .un :: ms, 0, l, d, h, k => by cases k
  | t :: ss, .fz :: ms, 0, l, d, h, k => by cases k
  | t :: ss, .ow :: ms, 0, l, d, h, k => h
  | t :: ss, .un :: ms, i + 1, l, d, h, k => weak_pin (S := ss) (M := ms) (i := i) h k
  | t :: ss, .fz :: ms, i + 1, l, d, h, k => weak_pin (S := ss) (M := ms) (i := i) h k
  | t :: ss, .ow :: ms, i + 1, l, d, h, k => weak_pin (S := ss) (M := ms) (i := i) h k
theorem SR.weak {c : Ct} {P : List (Nat × Addr)} {S : List Slot} {B H : Hp} {σ : L2.St} {io : List Nat} {M : List Md} (R : SR c P B σ H S) (hio : P.map (·.1) = io) (hk : keepsIo io M = true) : SR c P B σ H (weakTo S M) where
  len := weak_len.trans R.len
  ext := R.ext
  ntb := R.ntb
  tab := R.tab
  ok := fun i s e => by
    rcases weak_at e with ⟨d, rfl⟩ | e
    · trivial
    · exact R.ok i s e
  inj := fun i j l d e h1 h2 => by
    rcases weak_at h1 with ⟨_, h1⟩ | h1
    · cases h1
    · rcases weak_at h2 with ⟨_, h2⟩ | h2
      · cases h2
      · exact R.inj i j l d e h1 h2
  pin := fun q hq => by
    obtain ⟨d, e⟩ := R.pin q hq
    have hm : q.1 ∈ io := by rw [← hio]; exact List.mem_map.mpr ⟨q, hq, rfl⟩
    exact ⟨d, weak_pin e (eq_of_beq (List.all_eq_true.mp hk q.1 hm))⟩
theorem Step.weak {S S1 : List Slot} {B B1 H H1 : Hp} {M : List Md} (s : Step S S1 B B1 H H1) : Step S (weakTo S1 M) B B1 H H1 := ⟨s.grow, s.keep, s.stay, s.out, fun a ⟨i, d, e⟩ => by
  rcases weak_at e with ⟨_, e⟩ | e
  · cases e
  · exact s.adr a ⟨i, d, e⟩⟩
theorem weak_KS {P : List (Nat × Addr)} {S : List Slot} {B H : Hp} {E : Ends} {o : Out} {Mn' Mb' Mc' : List Md} (io : P.map (·.1) = F.io) (hn : leM Mn Mn' = true) (hb : leM Mb Mb' = true) (hc : leM Mc Mc' = true)
    (kn : keepsIo F.io Mn' = true) (kb : keepsIo F.io Mb' = true) (kc : keepsIo F.io Mc' = true) (h : KS F P Mn' Mb' Mc' rm S B H E o) : KS F P Mn Mb Mc rm S B H E o := by
  cases o with
  | nx Γ => exact fun σ' B' H' S' R e1 e2 t => h σ' B' H' _ (R.weak io kn) (weak_md (by rw [e1]; exact hn)) (weak_dt.trans e2) t.weak
  | brk Γ => exact fun σ' B' H' S' R e1 e2 t => h σ' B' H' _ (R.weak io kb) (weak_md (by rw [e1]; exact hb)) (weak_dt.trans e2) t.weak
  | cnt Γ => exact fun σ' B' H' S' R e1 e2 t => h σ' B' H' _ (R.weak io kc) (weak_md (by rw [e1]; exact hc)) (weak_dt.trans e2) t.weak
  | ret d Γ => exact h
theorem jb_weak {ss : List Stmt} {Mn' Mb' Mc' : List Md} (h : JB F X ss M Mn Mb Mc rm d1) (hn : leM Mn Mn' = true := by rfl) (hb : leM Mb Mb' = true := by rfl) (hc : leM Mc Mc' = true := by rfl)
    (kn : keepsIo F.io Mn' = true := by rfl) (kb : keepsIo F.io Mb' = true := by rfl) (kc : keepsIo F.io Mc' = true := by rfl) : JB F X ss M Mn' Mb' Mc' rm d1 := pss_imp h fun E σ H ⟨P, B, S, R, io, e, po⟩ =>
  ⟨P, B, S, R, io, e, po.imp fun o k => weak_KS io hn hb hc kn kb kc k⟩
/-- .. ahead -/
theorem jb_pre {ss : List Stmt} {M' : List Md} (h : JB F X ss M' Mn Mb Mc rm d1) (hn : leM M M' = true := by rfl) (kn : keepsIo F.io M' = true := by rfl) : JB F X ss M Mn Mb Mc rm d1 := pss_imp h fun E σ H ⟨P, B, S, R, io, e, po⟩ => by
  refine ⟨P, B, weakTo S M', R.weak io kn, io, weak_md (by rw [e]; exact hn), ?_⟩
  rw [weak_dt]
  exact PostG.step (Step.refl S B H).weak (fun z k => k.step (Step.refl S B H).weak) po

/-! ### targets, assignments -/
abbrev Gn := D → List D → Rs (List D)
/-- a value that is stored; q: it may be a tuple that is nobody's, to be taken apart -/
def HG (q : Bool) (c : Ct) (B H : Hp) (v : V) (d : D) : Prop := Rep c B v d ∨ (q = true ∧ ∃ T vs ds, v = .ref T ∧ H T = some (.tup vs) ∧ d = .tup ds ∧ RepL c B vs ds)
/-- only these slots' values are changed -/
def Zr : Option (List Nat) → L2.St → L2.St → Prop
  | none, _, _ => True
  | some vs, σ, σ' => wipe σ' vs = wipe σ vs
theorem Zr.refl : ∀ {z : Option (List Nat)} {σ : L2.St}, Zr z σ σ
  | none, _ => trivial
  | some _, _ => rfl
theorem Zr.trans : ∀ {z : Option (List Nat)} {σ σ1 σ2 : L2.St}, Zr z σ σ1 → Zr z σ1 σ2 → Zr z σ σ2
  | none, _, _, _, _, _ => trivial
  | some _, _, _, _, h, k => Eq.trans k h
theorem wipe_set {σ : L2.St} {i : Nat} {v : Option V} : ∀ {vs : List Nat}, i ∈ vs → wipe (σ.set i v) vs = wipe σ vs
  | w :: vs, h => by
    unfold wipe
    by_cases hi : i ∈ vs
    · rw [wipe_set hi]
    · have e : i = w := (List.mem_cons.mp h).resolve_right hi
      subst e
      have key : ∀ us : List Nat, i ∉ us → (wipe (σ.set i v) us) = (wipe σ us).set i v := fun us => by
        induction us with
        | nil => intro _; rfl
        | cons u us ih =>
          intro hu
          unfold wipe
          rw [ih (fun z => hu (List.mem_cons_of_mem _ z)), List.set_comm]
          exact fun z => hu (by rw [z]; exact List.mem_cons_self)
      rw [key vs hi, List.set_set]
def zHas : Option (List Nat) → Nat → Bool
  | none, _ => true
  | some vs, i => vs.contains i
theorem Zr.set : ∀ {z : Option (List Nat)} {σ : L2.St} {i : Nat} {v : Option V}, zHas z i = true → Zr z σ (σ.set i v)
  | none, _, _, _, _ => trivial
  | some vs, _, _, _, h => wipe_set (List.contains_iff_mem.mp h)
def tG (F : Fx) (z : Option (List Nat)) (q : Bool) (M M' : List Md) (den : Gn) : TG := fun v σ H Q =>
  ∃ P B S d, SR F.c P B σ H S ∧ P.map (·.1) = F.io ∧ mds S = M ∧ HG q F.c B H v d ∧ PostG F P S B H (den d (dts S)) (fun Γ => ∀ σ' B' H' S', SR F.c P B' σ' H' S' → mds S' = M' → dts S' = Γ → Step S S' B B' H H' → Zr z σ σ' → Q σ' H')
abbrev JG (F : Fx) (X : Cx) (z : Option (List Nat)) (q : Bool) (tg : Expr) (M M' : List Md) (den : Gn) : Prop := PG X tg (tG F z q M M' den)
abbrev Gns := List D → List D → Rs (List D)
def tGs (F : Fx) (z : Option (List Nat)) (M M' : List Md) (den : Gns) : TGs := fun vs σ H Q =>
  ∃ P B S ds, SR F.c P B σ H S ∧ P.map (·.1) = F.io ∧ mds S = M ∧ RepL F.c B vs ds ∧ PostG F P S B H (den ds (dts S)) (fun Γ => ∀ σ' B' H' S', SR F.c P B' σ' H' S' → mds S' = M' → dts S' = Γ → Step S S' B B' H H' → Zr z σ σ' → Q σ' H')
abbrev JGs (F : Fx) (X : Cx) (z : Option (List Nat)) (tg : List Expr) (M M' : List Md) (den : Gns) : Prop := PGs X tg (tGs F z M M' den)
theorem pg_imp {tg : Expr} {t t' : TG} (h : PG X tg t) (k : ∀ v σ H Q, t' v σ H Q → t v σ H Q) : PG X tg t' := ⟨fun pins s σ H v u Q I r w => h.run pins s σ H v u Q I r (k v σ H Q w)⟩
theorem pgs_imp {tg : List Expr} {t t' : TGs} (h : PGs X tg t) (k : ∀ v σ H Q, t' v σ H Q → t v σ H Q) : PGs X tg t' := ⟨fun pins s σ H v u Q I r w => h.run pins s σ H v u Q I r (k v σ H Q w)⟩
theorem pg_or {tg : Expr} {t t' : TG} (h : PG X tg t) (h' : PG X tg t') : PG X tg (fun v σ H Q => t v σ H Q ∨ t' v σ H Q) := ⟨fun pins s σ H v u Q I r w => w.elim (fun w => h.run pins s σ H v u Q I r w) fun w => h'.run pins s σ H v u Q I r w⟩
theorem jg_name {z : Option (List Nat)} {i : Nat} (h : PG X a (gName i)) (hl : i < M.length := by decide) (hio : F.io.contains i = false := by rfl) (hz : zHas z i = true := by rfl) : JG F X z false a M (M.set i .fz) (fun d Γ => .ok (Γ.set i d)) := pg_imp h fun v σ H Q ⟨P, B, S, d, R, io, e, r, po⟩ => by
  have r : Rep F.c B v d := r.elim id fun k => nomatch k.1
  obtain ⟨s, h1, h2, h3, h4⟩ := set_val (m := .fz) (i := i) R (Step.refl S B H) r (.inl rfl) (notIo io hio) (by have := congrArg List.length e; rw [List.length_map] at this; omega)
  exact po (σ.set i (some v)) B H (S.set i s) h3 (by rw [mds, List.map_set, h1, ← e]; rfl) (by rw [dts, List.map_set, h2]) h4 (.set hz)
theorem jgs_nil {z : Option (List Nat)} : JGs F X z [] M M (fun ds Γ => match ds with
  | [] => .ok Γ
  | _ => nope) := pgs_imp pgs_nil fun vs σ H Q ⟨P, B, S, ds, R, io, e, r, po⟩ => by
  cases r with
  | nil => exact ⟨rfl, po σ B H S R e rfl (Step.refl S B H) .refl⟩
  | cons _ _ => exact post_nope po
def consG (g : Gn) (k : Gns) : Gns := fun ds Γ => match ds with
  | [] => nope
  | d :: ds => g d Γ >>= fun Γ1 => k ds Γ1
theorem jgs_cons {z : Option (List Nat)} {tg : Expr} {ts : List Expr} {g : Gn} {k : Gns} (h : JG F X z false tg M M1 g) (h' : JGs F X z ts M1 M2 k) (hs : (assignEach (tg :: ts) X.env).map (·.2) = assign tg X.env :: (assignEach ts X.env).map (·.2) := by rfl) : JGs F X z (tg :: ts) M M2 (consG g k) :=
  pgs_imp (pgs_cons h h' hs) fun vs σ H Q ⟨P, B, S, ds, R, io, e, r, po⟩ => by
    cases r with
    | nil => exact post_nope po
    | cons r t =>
      refine ⟨_, _, rfl, P, B, S, _, R, io, e, .inl r, PostG.bind po fun Γ _ po => ?_⟩
      intro σ1 B1 H1 S1 R1 e1 g1 s1 z1
      refine ⟨P, B1, S1, _, R1, io, e1, t.mono s1.grow, ?_⟩
      rw [g1]
      exact PostG.step s1 (fun z k σ' B' H' S' R' e' g' s' z' => k σ' B' H' S' R' e' g' (s1.trans s') (z1.trans z')) po
/-- a, b, .. = a list or tuple -/
def unpG (n : Nat) (k : Gns) : Gn := fun d Γ => match itemsD d with
  | some ds => if ds.length = n then k ds Γ else nope
  | none => nope
theorem jg_tup {z : Option (List Nat)} {q : Bool} {es : List Expr} {k : Nat} {g : Gns} {n : Nat} (hc : X.calm = true) (h : JGs F X z es M M1 g) (hn : (assignEach es X.env).length = n := by rfl) (hst : (assignEach es X.env).findIdx? (·.1) = none := by rfl) : JG F X z q (.Tuple es k pos) M M1 (unpG n g) := by
  refine pg_imp (pg_or (pg_tup hc h hn hst) (pg_unl hc h hn hst)) fun v σ H Q ⟨P, B, S, d, R, io, e, r, po⟩ => ?_
  unfold unpG at po
  split at po
  · rename_i ds hd
    split at po
    · rename_i hl
      rcases r with r | ⟨_, T, vs, ds', rfl, hT, rfl, rl⟩
      case inr =>
        obtain rfl := Option.some.inj hd
        exact .inl ⟨T, vs, rfl, .inl (.inl hT), rl.length.trans hl, P, B, S, _, R, io, e, rl, po⟩
      cases d with
      | lst xs =>
        obtain rfl := Option.some.inj hd
        obtain ⟨p, vs, rfl, hp, rl⟩ := HV.lst R.ext (.inl r)
        exact .inr ⟨p, vs, rfl, .inl (.inl hp), rl.length.trans hl, P, B, S, _, R, io, e, rl, po⟩
      | tup xs =>
        obtain rfl := Option.some.inj hd
        obtain ⟨p, ob, vs, rfl, hp, _, _, rl⟩ := HV.tup R.ext (.inl r)
        exact .inl ⟨p, vs, rfl, .inl (.inr ⟨ob, hp⟩), rl.length.trans hl, P, B, S, _, R, io, e, rl, po⟩
      | _ => cases hd
    · exact post_nope po
  · exact post_nope po
def setS (i : Nat) (a : Dn) : Sn := fun Γ => a Γ >>= fun x => .ok (.nx (x.2.set i x.1))
/-- name = e -/
theorem js_set {i : Nat} {x : Str} {px : Pos} (h : JE F X e M M1 m da) (hN : X.N.Nodup) (hi : X.N[i]? = some x) (hx : Loc X.env.scope x) (hm : m = .fz ∨ m = .fr := by first | exact .inl rfl | exact .inr rfl) (hl : i < M1.length := by decide) (hio : F.io.contains i = false := by rfl)
    (hs : swapsWith e (some (.Name x px)) pos.line X.env = pure false := by rfl) (hf : X.fn x = true ∨ X.env.scope.names.lookup x = some .local := by first | exact .inl rfl | exact .inr rfl | assumption) : JS F X (.Assign [.Name x px] e pos) M (M1.set i (mdOf m)) Mb Mc rm (setS i da) :=
  ps_imp (ps_set hN hi hx h hs hf) fun E σ H ⟨P, B, S, R, io, e, po⟩ => by
    refine ⟨P, B, S, R, io, e, po.bind fun x _ po => ?_⟩
    intro v B1 H1 S1 R1 e1 g1 s1 w1
    obtain ⟨s, h1, h2, h3, h4⟩ := set_val R1 s1 w1 hm (notIo io hio) (by have := congrArg List.length e1; rw [List.length_map] at this; omega)
    exact po (σ.set i (some v)) B1 H1 (S1.set i s) h3 (by rw [mds, List.map_set, h1, ← e1]) (by rw [dts, List.map_set, h2, ← g1]) h4
/-- (a, b, ..) = e -/
def asgS (g : Gn) (a : Dn) : Sn := fun Γ => a Γ >>= fun x => g x.1 x.2 >>= fun Γ1 => .ok (.nx Γ1)
theorem js_asg {tg : Expr} {g : Gn} (h : JE F X e M M1 .fz da) (hg : JG F X none false tg M1 M2 g) (hs : swapsWithSole [tg] e pos.line X.env = pure false := by rfl) (hw : swappedStores [tg] e X.env = pure none := by rfl)
    (h1 : (assignEach [tg] X.env).map (·.2) = [assign tg X.env] := by rfl) : JS F X (.Assign [tg] e pos) M M2 Mb Mc rm (asgS g da) := ps_imp (ps_asg h hg hs hw h1) fun E σ H ⟨P, B, S, R, io, e, po⟩ => by
  refine ⟨P, B, S, R, io, e, po.bind fun x _ po => ?_⟩
  intro v B1 H1 S1 R1 e1 g1 s1 w1
  refine ⟨P, B1, S1, x.1, R1, io, e1, .inl w1, ?_⟩
  rw [g1]
  refine (PostG.step s1 (fun z k => k) po).bind fun Γ _ po => ?_
  intro σ2 B2 H2 S2 R2 e2 g2 s2 _
  exact po σ2 B2 H2 S2 R2 e2 g2 (s1.trans s2)
/-- name op= e -/
def augS (i : Nat) (op : D → D → Rs D) (m : VM) (a : Dn) : Sn := fun Γ => a Γ >>= fun x => op (Γ.getD i .non) (rd x.2 x.1 m) >>= fun z => .ok (.nx (x.2.set i z))
theorem js_aug {i : Nat} {x : Str} {px : Pos} {op : Operator} {f : D → D → Rs D} (h : JE F X e M M1 m da) (ho : OpS F X (inplaceOp op) .fz f) (hN : X.N.Nodup) (hi : X.N[i]? = some x) (hx : Loc X.env.scope x) (hM : M[i]? = some .fz := by rfl) (hl : i < M1.length := by decide) (hio : F.io.contains i = false := by rfl)
    (hf : X.fn x = true ∨ X.env.scope.names.lookup x = some .local := by first | exact .inl rfl | exact .inr rfl | assumption) : JS F X (.AugAssign (.Name x px) op e pos) M (M1.set i .fz) Mb Mc rm (augS i f m da) := by
  obtain ⟨r, hr, hop⟩ := ho
  refine ps_imp (ps_aug (ti := r) hN hi hx h hr hf) fun E σ H ⟨P, B, S, R, io, e, po⟩ => ?_
  obtain ⟨s, hs, hm⟩ := md_at (S := S) (i := i) (m := .fz) (by rw [e]; exact hM)
  cases s with
  | un _ => cases hm
  | ow _ _ => cases hm
  | fz v0 d0 =>
    obtain ⟨k1, k2⟩ := R.ok i _ hs
    refine ⟨v0, k1, P, B, S, R, io, e, po.bind fun x _ po => ?_⟩
    intro v B1 H1 S1 R1 e1 g1 s1 w1
    refine hop P B1 σ H1 S1 v0 v _ _ _ R1 (.inl (k2.mono s1.grow)) (VR.hv R1 w1) ?_
    rw [dt_at hs] at po
    rw [g1]
    refine (PostG.step s1 (fun z k => k) po).bind fun z _ po => ?_
    intro w B2 H2 R2 s2 w2
    obtain ⟨s, h1, h2, h3, h4⟩ := set_val (m := .fz) R2 (s1.trans s2) w2 (.inl rfl) (notIo io hio) (by have := congrArg List.length e1; rw [List.length_map] at this; omega)
    exact po (σ.set i (some w)) B2 H2 (S1.set i s) h3 (by rw [mds, List.map_set, h1, ← e1]; rfl) (by rw [dts, List.map_set, h2, ← g1]) h4
end
end DL

set_option Elab.async false
set_option linter.all false
set_option maxRecDepth 100000
set_option maxHeartbeats 4000000
/-! DL, part 5: loops; a slot's own object changed. -/
namespace DL
open PySem PySem.Spec PyProof.Rows L2

/-- an iterator that gives these, while what stood at its making stands -/
def Wk (q : Bool) (c : Ct) (J : It) (B0 : Hp) (ds : List D) : Prop :=
  ∃ G Y, Walk J ds.length G Y ∧ (∀ H, Sub B0 H → G H) ∧ ∀ i P B σ H S x H', i < ds.length → SR c P B σ H S → Sub B0 B → Y i H x H' → SR c P B σ H' S ∧ Step S S B B H H' ∧ ∃ d, ds[i]? = some d ∧ HG q c B H' x d
def tI (F : Fx) (q : Bool) (M M' : List Md) (den : An) : TI := fun σ H R =>
  ∃ P B S, SR F.c P B σ H S ∧ P.map (·.1) = F.io ∧ mds S = M ∧ PostG F P S B H (den (dts S)) (fun x => ∀ J B' H' S', SR F.c P B' σ H' S' → mds S' = M' → dts S' = x.2 → Step S S' B B' H H' → Wk q F.c J B' x.1 → R J H')
abbrev JI (F : Fx) (X : Cx) (q : Bool) (tg iter : Expr) (M M' : List Md) (den : An) : Prop := PI X tg iter (tI F q M M' den)
theorem pi_imp {X : Cx} {tg e : Expr} {t t' : TI} (h : PI X tg e t) (k : ∀ σ H R, t' σ H R → t σ H R) : PI X tg e t' := ⟨fun pins s σ H R I w => h.run pins s σ H R I (k σ H R w)⟩
theorem pi_or {X : Cx} {tg e : Expr} {t t' : TI} (h : PI X tg e t) (h' : PI X tg e t') : PI X tg e (fun σ H R => t σ H R ∨ t' σ H R) := ⟨fun pins s σ H R I w => w.elim (fun w => h.run pins s σ H R I w) fun w => h'.run pins s σ H R I w⟩
section
variable {F : Fx} {X : Cx} {tg e : Expr} {es : List Expr} {M M1 M2 M0 : List Md} {m rm : VM} {da : Dn} {dA : An} {pos : Pos} {q : Bool}
theorem wk_at {c : Ct} {J : It} {B0 : Hp} {ds : List D} {vs : List V} (w : Walk J vs.length G (YAt vs)) (r : RepL c B0 vs ds) (hG : ∀ H, Sub B0 H → G H) : Wk false c J B0 ds := by
  rw [r.length] at w
  refine ⟨_, _, w, hG, fun i P B σ H S x H' hi R s y => ?_⟩
  obtain ⟨rfl, hx⟩ := y
  obtain ⟨d, hd, rd⟩ := r.getV hx
  exact ⟨R, Step.refl S B H', d, hd, .inl (rd.mono s)⟩
def seqI (a : Dn) : An := fun Γ => a Γ >>= fun x => match itemsD x.1 with
  | some ds => .ok (ds, x.2)
  | none => nope
/-- over a list or a tuple that stays -/
theorem ji_seq (h : JE F X e M M1 .fz da) : JI F X false tg e M M1 (seqI da) := by
  refine pi_imp (pi_or (pi_list h) (pi_tup h)) fun σ H R ⟨P, B, S, Rr, io, eM, po⟩ => ?_
  cases hd : da (dts S) with
  | error er =>
    refine .inl ⟨P, B, S, Rr, io, eM, ?_⟩
    unfold seqI at po
    rw [hd] at po ⊢
    cases er with
    | bad => exact post_nope po
    | exc x p => exact po
  | ok x =>
    obtain ⟨x1, x2⟩ := x
    unfold seqI at po
    rw [hd] at po
    have po : PostG F P S B H (match itemsD x1 with
      | some ds => .ok (ds, x2)
      | none => nope) (fun x => ∀ J B' H' S', SR F.c P B' σ H' S' → mds S' = M1 → dts S' = x.2 → Step S S' B B' H H' → Wk false F.c J B' x.1 → R J H') := po
    cases x1 with
    | lst xs =>
      refine .inl ⟨P, B, S, Rr, io, eM, ?_⟩
      rw [hd]
      intro v B1 H1 S1 R1 e1 g1 s1 w1
      cases w1 with
      | ref hb ho =>
        cases ho with
        | lst r => exact ⟨_, rfl, ⟨_, .inl (.inl (R1.ext _ _ hb))⟩, po _ B1 H1 S1 R1 e1 g1 s1 (wk_at walk_list r fun H h => .inl (.inl (h _ _ hb)))⟩
    | tup xs =>
      refine .inr ⟨P, B, S, Rr, io, eM, ?_⟩
      rw [hd]
      intro v B1 H1 S1 R1 e1 g1 s1 w1
      cases w1 with
      | ref hb ho =>
        cases ho with
        | tup k1 k2 r => exact ⟨_, rfl, ⟨_, .inl (.inr ⟨_, R1.ext _ _ hb⟩)⟩, po _ B1 H1 S1 R1 e1 g1 s1 (wk_at walk_tup r fun H h => .inl (.inr ⟨_, h _ _ hb⟩))⟩
    | _ => exact post_nope po
/-- over the script -/
def scrI (a : Dn) : An := fun Γ => a Γ >>= fun x => match x.1 with
  | .scr ds => .ok (ds, x.2)
  | _ => nope
theorem ji_scr (hK : F.c.K = X.K) (h : JE F X e M M1 .fz da) : JI F X false tg e M M1 (scrI da) := by
  refine pi_imp (pi_list h) fun σ H R ⟨P, B, S, Rr, io, eM, po⟩ => ?_
  refine ⟨P, B, S, Rr, io, eM, po.bind fun x _ po => ?_⟩
  intro v B1 H1 S1 R1 e1 g1 s1 w1
  obtain ⟨x1, x2⟩ := x
  cases x1 with
  | scr ds =>
    cases w1 with
    | scr hb r =>
      have sq : ∀ H, Sub B1 H → SqL X.K H _ _ := fun H hs => by
        rw [← hK]
        rcases hb with hb | hb
        · exact .inl (hb.imp (fun z => hs _ _ z) fun ⟨o, z⟩ => ⟨o, hs _ _ z⟩)
        · exact hb H
      exact ⟨_, rfl, ⟨_, sq H1 R1.ext⟩, po _ B1 H1 S1 R1 e1 g1 s1 (wk_at walk_list r sq)⟩
    | ref _ h => cases h
  | _ => exact post_nope po
/-- range -/
def upto (lo : Int) (n : Nat) : List D := (List.range n).map fun (i : Nat) => D.int (lo + (i : Int))
def rng1 (m : VM) (a : An) : An := fun Γ => a Γ >>= fun x => match rds x.2 x.1 [m] with
  | [.int j] => if -(2 ^ 62) ≤ j ∧ j < 2 ^ 62 then .ok (upto 0 j.toNat, x.2) else nope
  | _ => nope
def rng2 (m m' : VM) (a : An) : An := fun Γ => a Γ >>= fun x => match rds x.2 x.1 [m, m'] with
  | [.int i, .int j] => if -(2 ^ 62) ≤ i ∧ i < 2 ^ 62 ∧ -(2 ^ 62) ≤ j ∧ j < 2 ^ 62 then .ok (upto i (j - i).toNat, x.2) else nope
  | _ => nope
theorem wk_range {c : Ct} {B0 : Hp} (lo : Int) (n : Nat) : Wk false c (Itr lo n) B0 (upto lo n) := by
  have hl : (upto lo n).length = n := by simp [upto]
  refine ⟨_, _, by rw [hl]; exact walk_range, fun _ _ => trivial, fun i P B σ H S x H' hi R s y => ?_⟩
  obtain ⟨rfl, rfl⟩ := y
  rw [hl] at hi
  exact ⟨R, Step.refl S B H', .int (lo + i), by simp [upto, hi], .inl (.int _)⟩
theorem ji_range1 {a : Expr} {p : Pos} (hg : Gl X "range") (hm : X.mg "range" = none) (ha : JA F X [a] M M1 [m] dA) (hs : starEach [a] X.env = [(false, eval a X.env)] := by rfl) : JI F X false tg (.Call (.Name "range" p) [a] [] pos) M M1 (rng1 m dA) :=
  pi_imp (pi_range1 hg hm ha hs) fun σ H R ⟨P, B, S, Rr, io, eM, po⟩ => by
    refine ⟨P, B, S, Rr, io, eM, po.bind fun x _ po => ?_⟩
    intro vs B1 H1 S1 R1 e1 g1 s1 w1
    have hv := w1.hvs R1
    rw [g1] at hv
    split at po
    · rename_i j hj
      rw [hj] at hv
      obtain ⟨v, rfl, h⟩ := hv.one
      split at po
      · rename_i hz
        exact ⟨j, by rw [h.int], hz.1, hz.2, po _ B1 H1 S1 R1 e1 g1 s1 (wk_range 0 _)⟩
      · exact post_nope po
    · exact post_nope po
theorem ji_range2 {a b : Expr} {p : Pos} {m' : VM} (hg : Gl X "range") (hm : X.mg "range" = none) (ha : JA F X [a, b] M M1 [m, m'] dA) (hs : starEach [a, b] X.env = [(false, eval a X.env), (false, eval b X.env)] := by rfl) (hs2 : starEach [b] X.env = [(false, eval b X.env)] := by rfl) :
    JI F X false tg (.Call (.Name "range" p) [a, b] [] pos) M M1 (rng2 m m' dA) :=
  pi_imp (pi_range2 hg hm ha hs hs2) fun σ H R ⟨P, B, S, Rr, io, eM, po⟩ => by
    refine ⟨P, B, S, Rr, io, eM, po.bind fun x _ po => ?_⟩
    intro vs B1 H1 S1 R1 e1 g1 s1 w1
    have hv := w1.hvs R1
    rw [g1] at hv
    split at po
    · rename_i i j hj
      rw [hj] at hv
      obtain ⟨v, w, rfl, h, h'⟩ := hv.two
      split at po
      · rename_i hz
        exact ⟨i, j, by rw [h.int, h'.int], hz, po _ B1 H1 S1 R1 e1 g1 s1 (wk_range i _)⟩
      · exact post_nope po
    · exact post_nope po
/-- reversed(list or tuple that stays) -/
def revI (a : Dn) : An := fun Γ => a Γ >>= fun x => match itemsD x.1 with
  | some ds => .ok (ds.reverse, x.2)
  | none => nope
theorem wk_rev {c : Ct} {J : It} {B0 : Hp} {ds : List D} {vs : List V} {G : Hp → Prop} (w : Walk J vs.length G (fun i H x H' => H' = H ∧ vs[vs.length - 1 - i]? = some x)) (r : RepL c B0 vs ds) (hG : ∀ H, Sub B0 H → G H) : Wk false c J B0 ds.reverse := by
  have hl := r.length
  refine ⟨_, _, by rw [List.length_reverse, ← hl]; exact w, hG, fun i P B σ H S x H' hi R s y => ?_⟩
  obtain ⟨rfl, hx⟩ := y
  rw [List.length_reverse] at hi
  have hx' : vs.reverse[i]? = some x := by
    rw [List.getElem?_reverse (by omega)]
    exact hx
  obtain ⟨d, hd, rd⟩ := r.reverse.getV hx'
  exact ⟨R, Step.refl S B H', d, hd, .inl (rd.mono s)⟩
theorem walk_revT {K : PySem.W.Frag} {a : Addr} {xs : List V} : Walk (RT.ItvT K a xs.length) xs.length (fun H => SqT K H a xs) (fun i H x H' => H' = H ∧ xs[xs.length - 1 - i]? = some x) :=
  ⟨fun i _ hi q => ⟨hi, xs, xs[xs.length - 1 - i]'(by omega), q, by simp [show xs.length - 1 - i < xs.length by omega]⟩, fun _ _ => Nat.le_refl _, fun _ _ _ _ _ q y => ⟨y.1, y.2 xs q⟩⟩
theorem ji_rev {p : Pos} (hg : Gl X "reversed") (hm : X.mg "reversed" = none) (h : JE F X e M M1 .fz da) (hs : starEach [e] X.env = (false, eval e X.env) :: starEach [] X.env := by rfl) : JI F X false tg (.Call (.Name "reversed" p) [e] [] pos) M M1 (revI da) :=
  pi_imp (RT.pi_revA hg hm h hs) fun σ H R ⟨P, B, S, Rr, io, eM, po⟩ => by
    refine ⟨P, B, S, Rr, io, eM, po.bind fun x _ po => ?_⟩
    intro v B1 H1 S1 R1 e1 g1 s1 w1
    obtain ⟨x1, x2⟩ := x
    cases x1 with
    | lst xs =>
      cases w1 with
      | ref hb ho => cases ho with
        | lst r => exact ⟨_, _, rfl, .inl ⟨.inl (.inl (R1.ext _ _ hb)), po _ B1 H1 S1 R1 e1 g1 s1 (wk_rev walk_rev r fun H h => .inl (.inl (h _ _ hb)))⟩⟩
    | tup xs =>
      cases w1 with
      | ref hb ho => cases ho with
        | tup k1 k2 r => exact ⟨_, _, rfl, .inr ⟨.inl (.inr ⟨_, R1.ext _ _ hb⟩), po _ B1 H1 S1 R1 e1 g1 s1 (wk_rev walk_revT r fun H h => .inl (.inr ⟨_, h _ _ hb⟩))⟩⟩
    | _ => exact post_nope po

/-! ### for -/
def forD (f : D → Sn) : List D → Sn
  | [], Γ => .ok (.nx Γ)
  | x :: xs, Γ => f x Γ >>= fun o => match o with
    | .nx Γ1 => forD f xs Γ1
    | .cnt Γ1 => forD f xs Γ1
    | .brk Γ1 => .ok (.nx Γ1)
    | .ret d Γ1 => .ok (.ret d Γ1)
def forS (it : An) (g : Gn) (b : Sn) : Sn := fun Γ => it Γ >>= fun x => forD (fun d Γ => g d Γ >>= fun Γ1 => b Γ1) x.1 x.2
theorem js_for {body : List Stmt} {di : An} {g : Gn} {b : Sn} {Mb Mc : List Md} (hp : PassesOwn (model X.prog X.w) X.A X.env X.xe) (hc : X.calm = true) (hi : JI F X q tg e M M1 di) (hg : JG F X none q tg M0 M2 g) (hb : JB F X body M2 M0 M0 M0 rm b) (hle : leM M1 M0 = true := by rfl) (hk : keepsIo F.io M0 = true := by rfl)
    (hs : ∀ x, foldedSetIterable e X.env x = pure x := by intro _; rfl) : JS F X (.For tg e body [] pos) M M0 Mb Mc rm (forS di g b) := ps_imp (ps_for hp hc hi hg hb hs) fun E σ H ⟨P, B, S, R, io, eM, po⟩ => by
  refine ⟨P, B, S, R, io, eM, po.bind fun x _ po => ?_⟩
  intro J B1 H1 S1 R1 e1 g1 s1 ⟨G, Y, w, hG, hY⟩
  refine for_it w (fun i σ H => ∃ B2 S2, SR F.c P B2 σ H S2 ∧ mds S2 = M0 ∧ Sub B1 B2 ∧ PostG F P S2 B2 H (forD (fun d Γ => g d Γ >>= fun Γ1 => b Γ1) (x.1.drop i) (dts S2)) (KS F P M0 Mb Mc rm S2 B2 H E)) ?_ ?_ ?_ ?_
  · refine ⟨B1, weakTo S1 M0, R1.weak io hk, weak_md (by rw [e1]; exact hle), Sub.refl _, ?_⟩
    rw [weak_dt, g1, List.drop_zero]
    exact PostG.step s1.weak (fun z k => k.step s1.weak) po
  · rintro i σ2 H2 _ ⟨B2, S2, R2, _, sb, _⟩
    exact hG H2 (sb.trans R2.ext)
  · rintro i v σ2 H2 H3 hi ⟨B2, S2, R2, e2, sb, po⟩ y
    obtain ⟨R3, st3, d, hd, hv⟩ := hY i P B2 σ2 H2 S2 v H3 hi R2 sb y
    have hdr : x.1.drop i = d :: x.1.drop (i + 1) := by
      rw [List.drop_eq_getElem_cons hi]
      rw [List.getElem?_eq_getElem hi] at hd
      rw [Option.some.inj hd]
    rw [hdr] at po
    have po : PostG F P S2 B2 H2 ((g d (dts S2) >>= fun Γ1 => b Γ1) >>= fun o => match o with
      | .nx Γ1 => forD (fun d Γ => g d Γ >>= fun Γ1 => b Γ1) (x.1.drop (i + 1)) Γ1
      | .cnt Γ1 => forD (fun d Γ => g d Γ >>= fun Γ1 => b Γ1) (x.1.drop (i + 1)) Γ1
      | .brk Γ1 => .ok (.nx Γ1)
      | .ret d Γ1 => .ok (.ret d Γ1)) (KS F P M0 Mb Mc rm S2 B2 H2 E) := po
    refine ⟨P, B2, S2, d, R3, io, e2, hv, ?_⟩
    cases hgd : g d (dts S2) with
    | error er =>
      rw [hgd] at po
      cases er with
      | bad => exact post_nope po
      | exc x p => exact EPost.step st3 po
    | ok Γ1 =>
      rw [hgd] at po
      have po := PostG.step st3 (fun z k => k.step st3) (show PostG F P S2 B2 H2 (b Γ1 >>= _) _ from po)
      intro σ4 B4 H4 S4 R4 e4 g4 s4 _
      refine ⟨P, B4, S4, R4, io, e4, ?_⟩
      rw [g4]
      refine (PostG.step s4 (fun z k => KS.step s4 k) po).bind fun o _ po => ?_
      cases o with
      | nx Γ2 =>
        intro σ5 B5 H5 S5 R5 e5 g5 s5
        refine ⟨B5, S5, R5, e5, (sb.trans s4.grow).trans s5.grow, ?_⟩
        rw [g5]
        exact PostG.step s5 (fun z k => k.step s5) po
      | cnt Γ2 =>
        intro σ5 B5 H5 S5 R5 e5 g5 s5
        refine ⟨B5, S5, R5, e5, (sb.trans s4.grow).trans s5.grow, ?_⟩
        rw [g5]
        exact PostG.step s5 (fun z k => k.step s5) po
      | brk Γ2 => exact po
      | ret d Γ2 => exact po
  · rintro σ2 H2 ⟨B2, S2, R2, e2, sb, po⟩
    rw [List.drop_length] at po
    exact po σ2 B2 H2 S2 R2 e2 rfl (Step.refl S2 B2 H2)

/-! ### while -/
def whileD (t : Tn) (b : Sn) : Nat → Sn
  | 0, _ => nope
  | n + 1, Γ => t Γ >>= fun x => match x.1 with
    | false => .ok (.nx x.2)
    | true => b x.2 >>= fun o => match o with
      | .nx Γ1 => whileD t b n Γ1
      | .cnt Γ1 => whileD t b n Γ1
      | .brk Γ1 => .ok (.nx Γ1)
      | .ret d Γ1 => .ok (.ret d Γ1)
theorem js_while {body : List Stmt} {dt : Tn} {b : Sn} {Mb Mc : List Md} (n : Nat) (hp : PassesOwn (model X.prog X.w) X.A X.env X.xe) (hc : JT F X e M0 M0 dt) (hb : JB F X body M0 M0 M0 M0 rm b) (hle : leM M M0 = true := by rfl) (hk : keepsIo F.io M0 = true := by rfl) :
    JS F X (.While e body [] pos) M M0 Mb Mc rm (whileD dt b n) := ps_imp (ps_while hp hc hb) fun E σ H ⟨P, B, S, R, io, eM, po⟩ => by
  refine ⟨fun k σ H => ∃ B2 S2, SR F.c P B2 σ H S2 ∧ mds S2 = M0 ∧ PostG F P S2 B2 H (whileD dt b k (dts S2)) (KS F P M0 Mb Mc rm S2 B2 H E), ⟨n, B, weakTo S M0, R.weak io hk, weak_md (by rw [eM]; exact hle), ?_⟩, ?_⟩
  · rw [weak_dt]
    exact PostG.step (Step.refl S B H).weak (fun z k => k.step (Step.refl S B H).weak) po
  · rintro k σ2 H2 ⟨B2, S2, R2, e2, po⟩
    cases k with
    | zero => exact post_nope po
    | succ k =>
      have po : PostG F P S2 B2 H2 (dt (dts S2) >>= fun x => match x.1 with
        | false => .ok (.nx x.2)
        | true => b x.2 >>= fun o => match o with
          | .nx Γ1 => whileD dt b k Γ1
          | .cnt Γ1 => whileD dt b k Γ1
          | .brk Γ1 => .ok (.nx Γ1)
          | .ret d Γ1 => .ok (.ret d Γ1)) (KS F P M0 Mb Mc rm S2 B2 H2 E) := po
      refine ⟨P, B2, S2, R2, io, e2, po.bind fun x _ po => ?_⟩
      intro B3 H3 S3 R3 e3 g3 s3
      obtain ⟨x1, x2⟩ := x
      cases x1 with
      | false =>
        rw [if_neg Bool.false_ne_true]
        exact po σ2 B3 H3 S3 R3 e3 g3 s3
      | true =>
        rw [if_pos rfl]
        refine ⟨fun σ' H' => ∃ B2 S2, SR F.c P B2 σ' H' S2 ∧ mds S2 = M0 ∧ PostG F P S2 B2 H' (whileD dt b k (dts S2)) (KS F P M0 Mb Mc rm S2 B2 H' E), fun σ' H' w => ⟨k, Nat.lt_succ_self k, w⟩, P, B3, S3, R3, io, e3, ?_⟩
        rw [g3]
        refine (PostG.step s3 (fun z k => KS.step s3 k) po).bind fun o _ po => ?_
        cases o with
        | nx Γ2 =>
          intro σ5 B5 H5 S5 R5 e5 g5 s5
          refine ⟨B5, S5, R5, e5, ?_⟩
          rw [g5]
          exact PostG.step s5 (fun z k => k.step s5) po
        | cnt Γ2 =>
          intro σ5 B5 H5 S5 R5 e5 g5 s5
          refine ⟨B5, S5, R5, e5, ?_⟩
          rw [g5]
          exact PostG.step s5 (fun z k => k.step s5) po
        | brk Γ2 => exact po
        | ret d Γ2 => exact po
end

/-! ### a slot's own object changed -/
section
variable {c : Ct} {P : List (Nat × Addr)} {B H : Hp} {S : List Slot} {σ : L2.St}
theorem own_at {i : Nat} {M : List Md} (R : SR c P B σ H S) (e : mds S = M) (hM : M[i]? = some .ow) : ∃ l d o, S[i]? = some (Slot.ow l d) ∧ σ[i]? = some (some (.ref l)) ∧ (dts S).getD i .non = d ∧ H l = some o ∧ B l = none ∧ ORep c B o d ∧ isMut o = true := by
  obtain ⟨s, hs, hm⟩ := md_at (S := S) (i := i) (m := .ow) (by rw [e]; exact hM)
  cases s with
  | un _ => cases hm
  | fz _ _ => cases hm
  | ow l d =>
    obtain ⟨h1, o, h2, h3, h4, h5⟩ := R.ok i _ hs
    exact ⟨l, d, o, hs, h1, dt_at hs, h2, h3, h4, h5⟩
theorem own_upd {i : Nat} {l : Addr} {d d' : D} {o o' : HO} (R : SR c P B σ H S) (hs : S[i]? = some (Slot.ow l d)) (ho : H l = some o) (hb : B l = none) (hm0 : isMut o = true) (r : ORep c B o' d') (hm : isMut o' = true) :
    SR c P B σ (upd H l o') (S.set i (.ow l d')) ∧ Step S (S.set i (.ow l d')) B B H (upd H l o') ∧ mds (S.set i (.ow l d')) = mds S ∧ dts (S.set i (.ow l d')) = (dts S).set i d' := by
  have hi : i < S.length := (List.getElem?_eq_some_iff.mp hs).1
  have hin : InA S l := ⟨i, d, hs⟩
  refine ⟨⟨by rw [List.length_set]; exact R.len, fun a u e => ?_, R.ntb, ?_, fun j s e => ?_, fun j k l' d1 d2 h1 h2 => ?_, fun q hq => ?_⟩, ⟨Sub.refl B, fun a u e n _ => ?_, fun a h => ?_, fun a u _ b _ _ => b, fun a h => ?_⟩, ?_, ?_⟩
  · rw [upd_ne (fun z => by rw [z, hb] at e; cases e)]
    exact R.ext a u e
  · intro p hp
    obtain ⟨ps, h1, h2, h3⟩ := R.tab p hp
    refine ⟨ps, ?_, h2, fun pos cv hc => ?_⟩
    · rw [upd_ne (fun z => by rw [z, ho] at h1; cases h1; cases hm0)]
      exact h1
    · obtain ⟨k, e1, e2⟩ := h3 pos cv hc
      refine ⟨k, e1, ?_⟩
      rw [upd_ne (fun z => by
        rw [z, ho] at e2
        unfold LamX.CodeO at e2
        cases e2
        cases hm0)]
      exact e2
  · by_cases hj : i = j
    · subst hj
      rw [List.getElem?_set_self hi] at e
      cases e
      exact ⟨(R.ok i _ hs).1, o', upd_same, hb, r, hm⟩
    · rw [List.getElem?_set_ne hj] at e
      refine (R.ok j s e).heap (Sub.refl B) fun l' d1 u es h1 h2 _ => ⟨?_, h2⟩
      subst es
      rw [upd_ne (fun z => hj (R.inj i j l d d1 hs (by rw [← z]; exact e)))]
      exact h1
  · have key : ∀ {j : Nat} {l' : Addr} {d1 : D}, (S.set i (.ow l d'))[j]? = some (Slot.ow l' d1) → ∃ d2, S[j]? = some (Slot.ow l' d2) := fun {j l' d1} h => by
      by_cases hj : i = j
      · subst hj
        rw [List.getElem?_set_self hi] at h
        cases h
        exact ⟨d, hs⟩
      · rw [List.getElem?_set_ne hj] at h
        exact ⟨d1, h⟩
    obtain ⟨d3, k1⟩ := key h1
    obtain ⟨d4, k2⟩ := key h2
    exact R.inj j k l' d3 d4 k1 k2
  · obtain ⟨d1, e⟩ := R.pin q hq
    by_cases hj : i = q.1
    · rw [← hj, hs] at e
      cases e
      exact ⟨d', by rw [← hj]; exact List.getElem?_set_self hi⟩
    · exact ⟨d1, by rw [List.getElem?_set_ne hj]; exact e⟩
  · rw [upd_ne (fun z => n (by rw [z]; exact hin))]
    exact e
  · by_cases e : a = l
    · rw [e, upd_same]; exact fun z => nomatch z
    · rw [upd_ne e]; exact h
  · rcases inA_set h with h | ⟨_, h⟩
    · exact .inl h
    · cases h
      exact .inl hin
  · have hs' : (mds S)[i]? = some .ow := by rw [List.getElem?_map, hs] <;> rfl
    rw [mds, List.map_set]
    refine List.ext_getElem? fun j => ?_
    by_cases hj : i = j
    · subst hj
      rw [List.getElem?_set_self (by rw [List.length_map]; exact hi)]
      exact hs'.symm
    · rw [List.getElem?_set_ne hj]
  · rw [dts, List.map_set] <;> rfl
end
section
variable {F : Fx} {X : Cx} {e o : Expr} {es : List Expr} {M M1 M2 : List Md} {m rm : VM} {ms : List VM} {da : Dn} {dA : An} {pos apos : Pos} {i : Nat}
/-- a method that changes its list: by values -/
def MutS (X : Cx) (id : String) (op : List D → List D → Rs (D × List D)) : Prop :=
  ∃ r, MtR X id r ∧ ∀ (F : Fx) (P : List (Nat × Addr)) (S : List Slot) (B H : Hp) (l : Addr) (xs vs : List V) (ds es : List D) (Q : VK), H l = some (.lst xs) → RepL F.c B xs ds → RepL F.c B vs es →
    PostG F P S B H (op ds es) (fun z => ∀ v ys, RepL F.c B ys z.2 → Rep F.c B v z.1 → Q v (upd H l (.lst ys))) → r (.ref l) vs H Q
/-- x.m(e, ..), x the i-th slot's own list -/
def isLst : D → Bool
  | .lst _ => true
  | _ => false
def mutD (i : Nat) (op : List D → List D → Rs (D × List D)) (a : An) : Dn := fun Γ => if isLst (Γ.getD i .non) then a Γ >>= fun x => (match x.2.getD i .non with
  | .lst xs => op xs x.1 >>= fun z => .ok (z.1, x.2.set i (.lst z.2))
  | _ => nope) else nope
theorem lst_of {c : Ct} {B : Hp} {o : HO} {d : D} (r : ORep c B o d) (h : isLst d = true) : ∃ vs ds, o = .lst vs ∧ d = .lst ds ∧ RepL c B vs ds := by
  cases r with
  | lst r => exact ⟨_, _, rfl, rfl, r⟩
  | _ => cases h
theorem mut_at {r : V → List V → Hp → VK → Prop} {op : List D → List D → Rs (D × List D)} {σ : L2.St} {H : Hp} {Q : VK}
    (hop : ∀ (F : Fx) (P : List (Nat × Addr)) (S : List Slot) (B H : Hp) (l : Addr) (xs vs : List V) (ds es : List D) (Q : VK), H l = some (.lst xs) → RepL F.c B xs ds → RepL F.c B vs es →
    PostG F P S B H (op ds es) (fun z => ∀ v ys, RepL F.c B ys z.2 → Rep F.c B v z.1 → Q v (upd H l (.lst ys))) → r (.ref l) vs H Q) (hM : M[i]? = some .ow) (hM1 : M1[i]? = some .ow) (hf : allFz ms = true)
    (h : tE F M M1 .fz (mutD i op dA) σ H Q) : tBM X.K "list" r (tVar i) (tA F M M1 ms dA) σ H Q := by
  obtain ⟨P, B, S, R, io, eM, po⟩ := h
  obtain ⟨l, d, ob, hs, hσ, hd, hl, hb, hrep, hmu⟩ := own_at R eM hM
  unfold mutD at po
  rw [hd] at po
  split at po
  · rename_i hL
    obtain ⟨vs0, ds0, rfl, rfl, r0⟩ := lst_of hrep hL
    refine ⟨.ref l, hσ, .inl ⟨rfl, _, .inl (.inl hl)⟩, P, B, S, R, io, eM, po.bind fun x _ po => ?_⟩
    intro vs B1 H1 S1 R1 e1 g1 s1 w1
    obtain ⟨l1, d1, ob1, hs1, hσ1, hd1, hl1, hb1, hrep1, hmu1⟩ := own_at R1 e1 hM1
    rw [hσ] at hσ1
    cases hσ1
    rw [← g1] at po
    rw [hd1] at po
    cases d1 with
    | lst ds =>
      obtain ⟨xs, ds', rfl, e2, r1⟩ := lst_of hrep1 rfl
      cases e2
      refine hop F P S1 B1 H1 l xs vs ds x.1 Q hl1 r1 (w1.reps hf) ?_
      refine (PostG.step s1 (fun z k => k) po).bind fun z _ po => ?_
      intro v ys ry rv
      obtain ⟨R2, s2, e2, g2⟩ := own_upd R1 hs1 hl1 hb1 hmu1 (.lst ry) rfl
      exact po v B1 _ _ R2 (e2.trans e1) g2 (s1.trans s2) rv
    | _ => exact post_nope po
  · exact post_nope po
theorem je_mut {id : String} {name : Str} {op : List D → List D → Rs (D × List D)} (slot : PySem.Slot "list" name id) (hty : typeOf (.builtin id) = pure (.type "method_descriptor")) (hm : MutS X id op) (ho : PE X o (tVar i)) (hM : M[i]? = some .ow) (ha : JA F X (e :: es) M M1 ms dA) (hM1 : M1[i]? = some .ow)
    (hf : allFz ms = true := by rfl) (hbase : attributeBase o name X.env (eval o X.env) = eval o X.env := by rfl)
    (hfew : ((backTo pos (starEach (e :: es) X.env)).all (fun x => !x.1) && (backToKw pos (keywordEach [] X.env)).all (fun x => x.1.isSome) && decide ((e :: es).length + ([] : List Keyword).length + (if ([] : List Keyword).isEmpty then 0 else 1) < 30)) = true := by rfl)
    (hline : (apos.endLine == pos.line) = true := by rfl) (hs : starEach (e :: es) X.env = (false, eval e X.env) :: starEach es X.env := by rfl) (hplain : (backTo pos (starEach es X.env)).any (·.1) = false := by rfl) :
    JE F X (.Call (.Attribute o name apos) (e :: es) [] pos) M M1 .fz (mutD i op dA) := by
  obtain ⟨r, hr, hop⟩ := hm
  exact pe_imp (pe_bm PySem.F.plainAttrs_list slot hty hr ho ha hbase hfew hline hs hplain) fun σ H Q h => mut_at hop hM hM1 hf h
theorem je_mut0 {id : String} {name : Str} {op : List D → List D → Rs (D × List D)} (slot : PySem.Slot "list" name id) (hty : typeOf (.builtin id) = pure (.type "method_descriptor")) (hm : MutS X id op) (ho : PE X o (tVar i)) (hM : M[i]? = some .ow)
    (hbase : attributeBase o name X.env (eval o X.env) = eval o X.env := by rfl) (hline : (apos.endLine == pos.line) = true := by rfl) :
    JE F X (.Call (.Attribute o name apos) [] [] pos) M M .fz (mutD i op (fun Γ => .ok ([], Γ))) := by
  obtain ⟨r, hr, hop⟩ := hm
  refine pe_imp (pe_bm0 PySem.F.plainAttrs_list slot hty hr ho hbase hline) fun σ H Q h => ?_
  have h2 := mut_at (X := X) (ms := []) (M1 := M) hop hM hM rfl h
  obtain ⟨v, hv, ty, P, B, S, R, io, eM, po⟩ := h2
  exact ⟨v, hv, ty, po [] B H S R eM rfl (Step.refl S B H) .nil⟩
def appM : List D → List D → Rs (D × List D)
  | xs, [d] => if xs.length < szl then .ok (.non, xs ++ [d]) else nope
  | _, _ => nope
theorem m_append : MutS X "list.append" appM := by
  refine ⟨_, mt_append, fun F P S B H l xs vs ds es Q hl r rv po => ?_⟩
  unfold appM at po
  split at po
  · split at po
    · rename_i hz
      cases rv with
      | cons h t =>
        cases t
        exact ⟨l, xs, _, rfl, rfl, hl, by rw [r.length, szl_eq]; exact hz, po .non _ (r.append (.cons h .nil)) .non⟩
    · exact post_nope po
  · exact post_nope po
/-- pop(): the last -/
def popM : List D → List D → Rs (D × List D)
  | xs, [] => (match xs[xs.length - 1]? with
    | some d => .ok (d, xs.dropLast)
    | none => nope)
  | _, _ => nope
theorem m_pop : MutS X "list.pop" popM := by
  refine ⟨_, mt_pop, fun F P S B H l xs vs ds es Q hl r rv po => ?_⟩
  unfold popM at po
  split at po
  · split at po
    · rename_i d hd
      cases rv
      obtain ⟨v, hv, rd⟩ := r.get hd
      exact ⟨l, xs, v, rfl, rfl, hl, by rw [r.length]; exact hv, po v _ r.dropLast rd⟩
    · exact post_nope po
  · exact post_nope po
/-- pop(i), 0 ≤ i -/
def popAtM : List D → List D → Rs (D × List D)
  | xs, [.int i] => if 0 ≤ i then (match xs[i.toNat]? with
    | some d => if i < 2 ^ 63 then .ok (d, xs.eraseIdx i.toNat) else nope
    | none => nope) else nope
  | _, _ => nope
theorem m_popAt : MutS X "list.pop" popAtM := by
  refine ⟨_, mt_popAt, fun F P S B H l xs vs ds es Q hl r rv po => ?_⟩
  unfold popAtM at po
  split at po
  · rename_i i
    split at po
    · rename_i h0
      split at po
      · rename_i d hd
        split at po
        · rename_i hi
          cases rv with
          | cons h t =>
            cases t
            obtain ⟨v, hv, rd⟩ := r.get hd
            have hlt : i.toNat < xs.length := (List.getElem?_eq_some_iff.mp hv).1
            exact ⟨l, xs, i, i.toNat, v, rfl, by rw [h.int_iff], hl, by omega, hi, seqIndex_of h0 (by omega), hv, po v _ (r.eraseIdx _) rd⟩
        · exact post_nope po
      · exact post_nope po
    · exact post_nope po
  · exact post_nope po
/-- insert(i, x), 0 ≤ i -/
def insM : List D → List D → Rs (D × List D)
  | xs, [.int i, d] => if 0 ≤ i ∧ i < 2 ^ 63 ∧ xs.length < szl then .ok (.non, xs.take i.toNat ++ [d] ++ xs.drop i.toNat) else nope
  | _, _ => nope
theorem m_insert : MutS X "list.insert" insM := by
  refine ⟨_, mt_insert, fun F P S B H l xs vs ds es Q hl r rv po => ?_⟩
  unfold insM at po
  split at po
  · split at po
    · rename_i hz
      cases rv with
      | cons h t =>
        cases t with
        | cons h' t =>
          cases t
          exact ⟨l, xs, _, _, rfl, by rw [h.int_iff], hl, by rw [r.length, szl_eq]; exact hz.2.2, hz.1, hz.2.1, po .non _ (((r.take _).append (.cons h' .nil)).append (r.drop _)) .non⟩
    · exact post_nope po
  · exact post_nope po

/-! ### x[j] = e, x the i-th slot's own list -/
def setAt (i : Nat) (a b : Dn) : Sn := fun Γ => a Γ >>= fun x => b x.2 >>= fun y => match y.2.getD i .non, y.1 with
  | .lst xs, .int k => (match ixN xs.length k with
    | some j => .ok (.nx (y.2.set i (.lst (xs.set j x.1))))
    | none => nope)
  | _, _ => nope
theorem js_setAt {b : Expr} {db : Dn} {Mb Mc : List Md} {p2 : Pos} (h : JE F X e M M1 .fz da) (ho : PE X o (tVar i)) (hM : M1[i]? = some .ow) (hb : JE F X b M1 M2 .fz db) (hM2 : M2[i]? = some .ow) (hs : swapsWithSole [.Subscript o b p2] e pos.line X.env = pure false := by rfl) (hw : swappedStores [.Subscript o b p2] e X.env = pure none := by rfl)
    (h1 : (assignEach [.Subscript o b p2] X.env).map (·.2) = [assign (.Subscript o b p2) X.env] := by rfl)
    (ha : ∀ v, assign (.Subscript o b p2) X.env v = (do
      let ov ← holding [v] (eval o X.env)
      let iv ← holding [v, ov] (eval b X.env)
      standAt p2
      holding [v, ov, iv] (setItem ov iv v)
      release [v, ov, iv] []) := by intro _; rfl) : JS F X (.Assign [.Subscript o b p2] e pos) M M2 Mb Mc rm (setAt i da db) :=
  ps_imp (ps_asg h (pg_sub ho hb set_list ha) hs hw h1) fun E σ H ⟨P, B, S, R, io, eM, po⟩ => by
    refine ⟨P, B, S, R, io, eM, po.bind fun x _ po => ?_⟩
    intro v B1 H1 S1 R1 e1 g1 s1 w1
    obtain ⟨l, d, ob, hs1, hσ, hd, hl, hbn, hrep, hmu⟩ := own_at R1 e1 hM
    refine ⟨.ref l, hσ, P, B1, S1, R1, io, e1, ?_⟩
    rw [g1]
    refine (PostG.step s1 (fun z k => k) po).bind fun y _ po => ?_
    intro w B2 H2 S2 R2 e2 g2 s2 w2
    obtain ⟨l1, d1, ob1, hs2, hσ1, hd1, hl1, hb1, hrep1, hmu1⟩ := own_at R2 e2 hM2
    rw [hσ] at hσ1
    cases hσ1
    rw [← g2, hd1] at po
    split at po
    · rename_i xs k hk2
      split at po
      · rename_i j hj
        obtain ⟨vs, ds', rfl, e3, r1⟩ := lst_of hrep1 rfl
        cases e3
        rw [hk2] at w2
        refine ⟨l, vs, k, j, rfl, Rep.int_iff w2, hl1, by rw [r1.length]; exact hj, ?_⟩
        obtain ⟨R3, s3, e3, g3⟩ := own_upd R2 hs2 hl1 hb1 hmu1 (.lst (r1.set j (Rep.mono s2.grow w1))) rfl
        refine po σ B2 _ _ R3 (e3.trans e2) ?_ ((s1.trans s2).trans s3)
        rw [g3]
      · exact post_nope po
    · exact post_nope po
end
end DL

set_option Elab.async false
set_option linter.all false
set_option maxRecDepth 100000
set_option maxHeartbeats 4000000
/-! DL, part 6: defs, calls, raise. -/
namespace DL
open PySem PySem.Spec PyProof.Rows L2

/-- what a def makes of its arguments' data: what it hands back, the data of its first argument's object behind (where that is changed) -/
abbrev Fn := List D → Rs (D × D)
def argM (b : Bool) (n : Nat) : List Md := if b then .ow :: List.replicate (n - 1) .fz else List.replicate n .fz
def ioOf (b : Bool) : List Nat := if b then [0] else []
def putA (b : Bool) (d : D) (Γ : List D) : List D := if b then Γ.set 0 d else Γ
def spD (c : Ct) (b : Bool) (n : Nat) (rm : VM) (den : Fn) : Sp := fun vs H Q E =>
  ∃ P B S, SR c P B (vs.map some) H S ∧ P.map (·.1) = ioOf b ∧ mds S = argM b n ∧ PostG ⟨c, ioOf b, E⟩ P S B H (den (dts S)) (fun x =>
    ∀ v B' H' S', SR c P B' (vs.map some) H' S' → mds S' = argM b n → dts S' = putA b x.2 (dts S) → Step S S' B B' H H' → VR c H B' H' S' v x.1 rm → Q v H')
/-- the end of a body -/
def endF (b : Bool) (rm : VM) : Out → Rs (D × D)
  | .nx Γ => if rm = .fz then .ok (.non, if b then Γ.getD 0 .non else .non) else nope
  | .ret d Γ => .ok (d, if b then Γ.getD 0 .non else .non)
  | _ => nope
def fnD (b : Bool) (rm : VM) (m : Nat) (d : Sn) : Fn := fun ds => d (ds ++ List.replicate m .non) >>= endF b rm

section
variable {c : Ct} {P P' : List (Nat × Addr)} {B B' H H' H0 : Hp} {S S' : List Slot} {σ σ' : L2.St}
theorem allfz_notIn {n : Nat} (h : mds S = List.replicate n .fz) (a : Addr) : ¬ InA S a := fun ⟨i, d, e⟩ => by
  have h1 : (mds S)[i]? = some .ow := by rw [List.getElem?_map, e] <;> rfl
  rw [h, List.getElem?_replicate] at h1
  split at h1 <;> cases h1
theorem SlotOk.ext {i : Nat} {s : Slot} {m : Nat} (h : SlotOk c B σ H i s) : SlotOk c B (σ ++ List.replicate m none) H i s := by
  have key : ∀ v : V, σ[i]? = some (some v) → (σ ++ List.replicate m none)[i]? = some (some v) := fun v e => by
    rw [List.getElem?_append_left (List.getElem?_eq_some_iff.mp e).1]
    exact e
  cases s with
  | un _ => trivial
  | fz v d => exact ⟨key v h.1, h.2⟩
  | ow l d => exact ⟨key _ h.1, h.2⟩
/-- the body's slots at its entry -/
theorem SR.enter (m : Nat) (R : SR c P B σ H S) : SR c P B (σ ++ List.replicate m none) H (S ++ List.replicate m (.un .non)) where
  len := by rw [List.length_append, List.length_append, List.length_replicate, List.length_replicate, R.len]
  ext := R.ext
  ntb := R.ntb
  tab := R.tab
  ok := fun i s e => by
    by_cases hi : i < S.length
    · rw [List.getElem?_append_left hi] at e
      exact (R.ok i s e).ext
    · rw [List.getElem?_append_right (by omega), List.getElem?_replicate] at e
      split at e
      · cases e; trivial
      · cases e
  inj := fun i j l d e h1 h2 => by
    have key : ∀ {k : Nat} {d : D}, (S ++ List.replicate m (.un .non))[k]? = some (Slot.ow l d) → S[k]? = some (Slot.ow l d) := fun {k d} h => by
      by_cases hi : k < S.length
      · rw [List.getElem?_append_left hi] at h
        exact h
      · rw [List.getElem?_append_right (by omega), List.getElem?_replicate] at h
        split at h <;> cases h
    exact R.inj i j l d e (key h1) (key h2)
  pin := fun q hq => by
    obtain ⟨d, e⟩ := R.pin q hq
    exact ⟨d, by rw [List.getElem?_append_left (List.getElem?_eq_some_iff.mp e).1]; exact e⟩
theorem inA_enter {m : Nat} {a : Addr} (h : InA (S ++ List.replicate m (.un .non)) a) : InA S a := by
  obtain ⟨k, d, h⟩ := h
  by_cases hi : k < S.length
  · rw [List.getElem?_append_left hi] at h
    exact ⟨k, d, h⟩
  · rw [List.getElem?_append_right (by omega), List.getElem?_replicate] at h
    split at h <;> cases h
theorem in_enter {m : Nat} {a : Addr} (h : InA S a) : InA (S ++ List.replicate m (.un .non)) a := by
  obtain ⟨k, d, h⟩ := h
  exact ⟨k, d, by rw [List.getElem?_append_left (List.getElem?_eq_some_iff.mp h).1]; exact h⟩
theorem Step.enter {m : Nat} (s : Step (S ++ List.replicate m (.un .non)) S' B B' H H') : Step S S' B B' H H' :=
  ⟨s.grow, fun a o e n k => s.keep a o e (fun z => n (inA_enter z)) k, s.stay, fun a o e b n k => s.out a o e b (fun z => n (inA_enter z)) k, fun a h => (s.adr a h).imp inA_enter id⟩
/-- from a body's end, or from a callee's, back to the arguments' slots: none is changed -/
theorem back0 {Sa : List Slot} (R : SR c P B σ H S) (R' : SR c P' B' σ' H' S') (s : Step Sa S' B B' H H') (hn : ∀ a, InA Sa a → False) : SR c P B' σ H' S ∧ Step S S B B' H H' := by
  have keep : ∀ a o, H a = some o → (∀ ps, o ≠ .tbl ps) → H' a = some o := fun a o e k => s.keep a o e (fun z => hn a z) k
  refine ⟨⟨R.len, R'.ext, R'.ntb, R'.tab, fun i t e => ?_, R.inj, R.pin⟩, ⟨s.grow, fun a o e _ k => keep a o e k, s.stay, fun a o e b _ k => s.out a o e b (fun z => hn a z) k, fun a h => .inl h⟩⟩
  exact (R.ok i t e).heap s.grow fun l d o _ h1 h2 hm => ⟨keep l o h1 (isMut_ntb hm), s.out l o h1 h2 (fun z => hn l z) hm⟩
/-- .. the object at l of the slot j is changed -/
theorem back1 {Sa : List Slot} {j i0 : Nat} {l : Addr} {d0 d' : D} (R : SR c P B σ H S) (hs : S[j]? = some (Slot.ow l d0)) (R' : SR c P' B' σ' H' S') (s : Step Sa S' B B' H H') (hn : ∀ a, InA Sa a → a = l) (h0 : S'[i0]? = some (Slot.ow l d')) :
    SR c P B' σ H' (S.set j (.ow l d')) ∧ Step S (S.set j (.ow l d')) B B' H H' ∧ mds (S.set j (.ow l d')) = mds S ∧ dts (S.set j (.ow l d')) = (dts S).set j d' := by
  have hj : j < S.length := (List.getElem?_eq_some_iff.mp hs).1
  obtain ⟨_, o', ho', hb', hr', hm'⟩ := R'.ok i0 _ h0
  have keep : ∀ a o, H a = some o → a ≠ l → (∀ ps, o ≠ .tbl ps) → H' a = some o := fun a o e n k => s.keep a o e (fun z => n (hn a z)) k
  have key : ∀ {k : Nat} {l' : Addr} {d1 : D}, (S.set j (.ow l d'))[k]? = some (Slot.ow l' d1) → ∃ d2, S[k]? = some (Slot.ow l' d2) := fun {k l' d1} h => by
    by_cases hk : j = k
    · subst hk
      rw [List.getElem?_set_self hj] at h
      cases h
      exact ⟨d0, hs⟩
    · rw [List.getElem?_set_ne hk] at h
      exact ⟨d1, h⟩
  refine ⟨⟨by rw [List.length_set]; exact R.len, R'.ext, R'.ntb, R'.tab, fun i t e => ?_, fun i k l' d1 d2 h1 h2 => ?_, fun q hq => ?_⟩, ⟨s.grow, fun a o e n k => keep a o e (fun z => n (by rw [z]; exact ⟨j, d0, hs⟩)) k, s.stay, fun a o e b n k => s.out a o e b (fun z => n (by rw [hn a z]; exact ⟨j, d0, hs⟩)) k, fun a h => ?_⟩, ?_, ?_⟩
  · by_cases hk : j = i
    · subst hk
      rw [List.getElem?_set_self hj] at e
      cases e
      exact ⟨(R.ok j _ hs).1, o', ho', hb', hr', hm'⟩
    · rw [List.getElem?_set_ne hk] at e
      refine (R.ok i t e).heap s.grow fun l' d o et h1 h2 hm => ?_
      have nl : l' ≠ l := fun z => hk (R.inj j i l d0 d hs (by rw [← z, ← et]; exact e))
      exact ⟨keep l' o h1 nl (isMut_ntb hm), s.out l' o h1 h2 (fun z => nl (hn l' z)) hm⟩
  · obtain ⟨d3, k1⟩ := key h1
    obtain ⟨d4, k2⟩ := key h2
    exact R.inj i k l' d3 d4 k1 k2
  · obtain ⟨d1, e⟩ := R.pin q hq
    by_cases hk : j = q.1
    · rw [← hk, hs] at e
      cases e
      exact ⟨d', by rw [← hk]; exact List.getElem?_set_self hj⟩
    · exact ⟨d1, by rw [List.getElem?_set_ne hk]; exact e⟩
  · obtain ⟨k, d1, h⟩ := h
    obtain ⟨d2, h⟩ := key h
    exact .inl ⟨k, d2, h⟩
  · have hs' : (mds S)[j]? = some .ow := by rw [List.getElem?_map, hs] <;> rfl
    rw [mds, List.map_set]
    refine List.ext_getElem? fun k => ?_
    by_cases hk : j = k
    · subst hk
      rw [List.getElem?_set_self (by rw [List.length_map]; exact hj)]
      exact hs'.symm
    · rw [List.getElem?_set_ne hk]
  · rw [dts, List.map_set] <;> rfl
/-- a new object stays nobody's -/
theorem VR.reown {m : VM} {v : V} {d : D} {T : List Slot} (h : VR c H0 B' H' S' v d m) (hm : m = .fz ∨ m = .fr) (hT : ∀ a, InA T a → H0 a ≠ none) : VR c H0 B' H' T v d m := by
  rcases hm with rfl | rfl
  · exact h
  · obtain ⟨p, o, e, h1, h2, _, h4, h5, h6⟩ := h
    exact ⟨p, o, e, h1, h2, fun z => hT p z h6, h4, h5, h6⟩
theorem SR.tracked (R : SR c P B σ H S) {a : Addr} (h : InA S a) : H a ≠ none := fun z => by
  obtain ⟨i, d, e⟩ := h
  obtain ⟨_, o, ho, _⟩ := R.ok i _ e
  rw [z] at ho
  cases ho
end

/-! ### a def's body keeps its promise -/
section
variable {pr : Program} {w : World} {K : PySem.W.Frag} {mg : Str → Option Value} {base : Heap} {x qual : Str} {params : Arguments} {body : List Stmt} {scope : Scope} {dvs : List V} {kws : List (Str × V)} {f : Addr} {fd : FuncData} {N ps : List Str} {k n m : Nat} {rm : VM} {c : Ct} {d : Sn}
theorem funOkC {CX : CXT} {sp : Sp} (F : FunD K x qual params body scope dvs kws f fd) (S : FnScope N ps scope) (len : ∀ vs H Q E, sp vs H Q E → vs.length = ps.length)
    (hbody : ∀ (cdv : Value) (A : Around) (outer : List Env) (s : Shared) (H : Hp) (vs : List V) (Q : VK) (E : XK), fd.code = cdv → Room k (A.deeper (envOfC qual scope s.heap.objs.size f cdv)) → sp vs H Q E →
      ∃ t, PSs (cxOf CX pr w K mg base N qual scope f cdv A outer s H E) body t ∧ t { nx := fun _ H' => Q .non H', rt := Q } (L2.start N vs) H) : FnOk pr w K mg base CX (k + 1) f fd ps sp := by
  obtain ⟨oc, od, dV, kV, doc, pm, an, cdv, ct, osl, rfl, lk, hcd, _, _⟩ := F.ex
  exact fn_of lk hcd S len fun A outer s H vs Q E hr hsp => hbody cdv A outer s H vs Q E rfl hr hsp
theorem fn_ok (b : Bool) (F : FunD K x qual params body scope dvs kws f fd) (S : FnScope N ps scope) (hn : ps.length = n) (hN : N.length = n + m) (h1 : b = true → 0 < n) (hrm : rm = .fz ∨ rm = .fr) {Mn Mb Mc : List Md}
    (hb : ∀ (cdv : Value) (A : Around) (outer : List Env) (s : Shared) (H : Hp) (E : XK), fd.code = cdv → Room k (A.deeper (envOfC qual scope s.heap.objs.size f cdv)) →
      JB ⟨c, ioOf b, E⟩ (cxOf (L2N.CX pr w) pr w K mg base N qual scope f cdv A outer s H E) body (argM b n ++ List.replicate m .un) Mn Mb Mc rm d) :
    FnOk pr w K mg base (L2N.CX pr w) (k + 1) f fd ps (spD c b n rm (fnD b rm m d)) := by
  have lenM : (argM b n).length = n := by
    unfold argM
    cases b with
    | true => simp only [if_true, List.length_cons, List.length_replicate]; have := h1 rfl; omega
    | false => simp
  have lenV : ∀ {vs : List V} {H : Hp} {Q : VK} {E : XK}, spD c b n rm (fnD b rm m d) vs H Q E → vs.length = n := fun {vs H Q E} h => by
    obtain ⟨P, B, Sl, R, _, hM, _⟩ := h
    have e1 := R.len
    have e2 := congrArg List.length hM
    rw [List.length_map, lenM] at e2
    rw [List.length_map] at e1
    omega
  refine funOkC F S (fun vs H Q E h => (lenV h).trans hn.symm) fun cdv A outer s H vs Q E hcd hr h => ⟨_, hb cdv A outer s H E hcd hr, ?_⟩
  have lv := lenV h
  obtain ⟨P, B, Sl, R, hio, hM, po⟩ := h
  have est : L2.start N vs = vs.map some ++ List.replicate m none := by
    unfold L2.start
    rw [hN, lv, Nat.add_sub_cancel_left]
  have R0 := R.enter m
  refine ⟨P, B, Sl ++ List.replicate m (.un .non), by rw [est]; exact R0, hio, by rw [mds, List.map_append, List.map_replicate, ← hM] <;> rfl, ?_⟩
  have ed : dts (Sl ++ List.replicate m (.un .non)) = dts Sl ++ List.replicate m .non := by rw [dts, List.map_append, List.map_replicate] <;> rfl
  rw [ed]
  have po := PostG.step (S1 := Sl ++ List.replicate m (.un .non)) (B1 := B) (H1 := H) ⟨Sub.refl B, fun a o e _ _ => e, fun _ h => h, fun _ _ _ b _ _ => b, fun a h => .inl (inA_enter h)⟩ (fun z k => k) po
  refine PostG.bind po fun o _ po => ?_
  -- the end
  have fin : ∀ v d' Γ σ' B' H' S', SR c P B' σ' H' S' → dts S' = Γ → Step (Sl ++ List.replicate m (.un .non)) S' B B' H H' → VR c H B' H' S' v d' rm →
      (∀ v B' H' S', SR c P B' (vs.map some) H' S' → mds S' = argM b n → dts S' = putA b (if b then Γ.getD 0 .non else .non) (dts Sl) → Step Sl S' B B' H H' → VR c H B' H' S' v d' rm → Q v H') → Q v H' := by
    intro v d' Γ σ' B' H' S' R' eΓ st w q
    have st := st.enter
    cases b with
    | false =>
      obtain ⟨R2, s2⟩ := back0 R R' st fun a z => allfz_notIn (S := Sl) (n := n) hM a z
      exact q v B' H' Sl R2 hM rfl s2 (w.reown hrm fun a z => R.tracked z)
    | true =>
      obtain ⟨l, rfl⟩ : ∃ l, P = [(0, l)] := by
        have hio' : P.map (·.1) = [0] := hio
        cases P with
        | nil => exact absurd (congrArg List.length hio') (by simp)
        | cons pq r =>
          obtain ⟨i0, l⟩ := pq
          cases r with
          | nil =>
            have e0 : i0 = 0 := (List.cons.inj hio').1
            subst e0
            exact ⟨l, rfl⟩
          | cons _ _ => exact absurd (congrArg List.length hio') (by simp)
      obtain ⟨d0, hs⟩ := R.pin (0, l) List.mem_cons_self
      obtain ⟨d1, hs'⟩ := R'.pin (0, l) List.mem_cons_self
      have hin : ∀ a, InA Sl a → a = l := fun a ⟨i, d, e⟩ => by
        have hi : i = 0 := by
          have h1 : (mds Sl)[i]? = some .ow := by rw [List.getElem?_map, e] <;> rfl
          rw [hM] at h1
          cases i with
          | zero => rfl
          | succ i =>
            have h2 : (List.replicate (n - 1) Md.fz)[i]? = some .ow := h1
            rw [List.getElem?_replicate] at h2
            split at h2 <;> cases h2
        subst hi
        have hs0 : Sl[0]? = some (Slot.ow l d0) := hs
        rw [hs0] at e
        cases e
        rfl
      obtain ⟨R2, s2, e2, g2⟩ := back1 (j := 0) (i0 := 0) R hs R' st hin hs'
      refine q v B' H' _ R2 (e2.trans hM) ?_ s2 (w.reown hrm fun a z => ?_)
      · rw [g2]
        have : Γ.getD 0 .non = d1 := by rw [← eΓ]; exact dt_at hs'
        show _ = (dts Sl).set 0 (if true = true then Γ.getD 0 .non else .non)
        rw [if_pos rfl, this]
      · rcases inA_set z with z | ⟨_, z⟩
        · exact R.tracked z
        · cases z
          exact R.tracked ⟨0, d0, hs⟩
  cases o with
  | nx Γ =>
    intro σ' B' H' S' R' _ g' st
    have po : PostG ⟨c, ioOf b, E⟩ P (Sl ++ List.replicate m (Slot.un D.non)) B H (if rm = .fz then .ok (.non, if b then Γ.getD 0 .non else .non) else nope) (fun x =>
      ∀ v B' H' S', SR c P B' (vs.map some) H' S' → mds S' = argM b n → dts S' = putA b x.2 (dts Sl) → Step Sl S' B B' H H' → VR c H B' H' S' v x.1 rm → Q v H') := po
    by_cases hz : rm = .fz
    · rw [if_pos hz] at po
      have po : ∀ v B' H' S', SR c P B' (vs.map some) H' S' → mds S' = argM b n → dts S' = putA b (if b then Γ.getD 0 .non else .non) (dts Sl) → Step Sl S' B B' H H' → VR c H B' H' S' v .non rm → Q v H' := po
      refine fin .non .non Γ σ' B' H' S' R' g' st ?_ po
      rw [hz]
      exact .non
    · rw [if_neg hz] at po
      exact post_nope po
  | ret d' Γ =>
    intro v σ' B' H' S' R' g' st w
    exact fin v d' Γ σ' B' H' S' R' g' st w po
  | brk Γ => exact post_nope po
  | cnt Γ => exact post_nope po
end

/-! ### what a body's context lets out -/
structure CxF (F : Fx) (X : Cx) : Prop where
  pass : Passes (L2N.CX X.prog X.w) X F.E
  own : PassesOwn (model X.prog X.w) X.A X.env X.xe
  tk : L2N.Takes X (fun cls d _ H => F.E cls d H)
section
variable {F : Fx} {X : Cx} {e : Expr} {es : List Expr} {M M1 Mn Mb Mc : List Md} {rm m : VM} {ms : List VM} {dA : An} {pos p : Pos} {k : Nat} {f : Addr} {fd : FuncData} {ps : List Str} {x : Str} {den : Fn} {n : Nat}
theorem cxf_def {pr : Program} {w : World} {K : PySem.W.Frag} {mg : Str → Option Value} {base : Heap} {N : List Str} {qual : Str} {scope : Scope} {f : Addr} {cdv : Value} {A : Around} {outer : List Env} {s : Shared} {H : Hp} {E : XK} {c : Ct} {io : List Nat} :
    CxF ⟨c, io, E⟩ (cxOf (L2N.CX pr w) pr w K mg base N qual scope f cdv A outer s H E) :=
  have tk := L2N.takes_of (X := cxOf (L2N.CX pr w) pr w K mg base N qual scope f cdv A outer s H E) (E := E) rfl rfl rfl rfl
  ⟨L2N.passes_call tk fun _ _ _ _ h => h, passes_of rfl, tk⟩
theorem passN {X : Cx} : Passes (L2N.CX X.prog X.w) X E0 := fun _ _ _ _ _ _ _ h => by
  obtain ⟨_, _, _, _, _, _, _, _, _, _, _, _, z⟩ := h
  exact z.elim
theorem takesN {X : Cx} : L2N.Takes X (fun _ _ _ _ => False) := fun _ _ x => by
  obtain ⟨_, _, _, _, _, _, _, _, _, _, _, _, _, _, _, _, z⟩ := x
  exact z.elim
theorem cxf_none {c : Ct} {io : List Nat} (h : X.xe = fun _ _ => False) : CxF ⟨c, io, E0⟩ X := ⟨passN, by rw [h]; exact PassesOwn.never, takesN⟩
/-! ### calls -/
def fzS : List V → List D → List Slot
  | v :: vs, d :: ds => .fz v d :: fzS vs ds
  | _, _ => []
theorem fzS_at {c : Ct} {B : Hp} : ∀ {vs : List V} {ds : List D} {i : Nat} {s : Slot}, RepL c B vs ds → (fzS vs ds)[i]? = some s → ∃ v d, s = .fz v d ∧ vs[i]? = some v ∧ Rep c B v d
  | _, _, _, _, .nil, h => by simp [fzS] at h
  | _, _, 0, _, .cons r _, h => by
    have h := Option.some.inj (show some _ = some _ from h)
    exact ⟨_, _, h.symm, rfl, r⟩
  | _, _, i + 1, _, .cons _ t, h => fzS_at (i := i) t h
theorem fzS_md {c : Ct} {B : Hp} : ∀ {vs : List V} {ds : List D}, RepL c B vs ds → mds (fzS vs ds) = List.replicate ds.length .fz
  | _, _, .nil => rfl
  | _, _, .cons _ t => by show Md.fz :: mds (fzS _ _) = Md.fz :: List.replicate _ .fz; rw [fzS_md t]
theorem fzS_dt {c : Ct} {B : Hp} : ∀ {vs : List V} {ds : List D}, RepL c B vs ds → dts (fzS vs ds) = ds
  | _, _, .nil => rfl
  | _, _, .cons _ t => by show _ :: dts (fzS _ _) = _; rw [fzS_dt t] <;> rfl
theorem fzS_len {c : Ct} {B : Hp} : ∀ {vs : List V} {ds : List D}, RepL c B vs ds → (fzS vs ds).length = vs.length
  | _, _, .nil => rfl
  | _, _, .cons _ t => by show (fzS _ _).length + 1 = _; rw [fzS_len t]; rfl
theorem fzS_in {c : Ct} {B : Hp} {vs : List V} {ds : List D} {a : Addr} (r : RepL c B vs ds) : ¬ InA (fzS vs ds) a := fun ⟨i, d, e⟩ => by
  obtain ⟨v, d', es, _⟩ := fzS_at r e
  cases es
theorem SR.args {c : Ct} {P : List (Nat × Addr)} {B H : Hp} {σ : L2.St} {S : List Slot} (R : SR c P B σ H S) {vs : List V} {ds : List D} (r : RepL c B vs ds) : SR c [] B (vs.map some) H (fzS vs ds) where
  len := by rw [fzS_len r, List.length_map]
  ext := R.ext
  ntb := R.ntb
  tab := R.tab
  ok := fun i s e => by
    obtain ⟨v, d, rfl, hv, rv⟩ := fzS_at r e
    exact ⟨by rw [List.getElem?_map, hv] <;> rfl, rv⟩
  inj := fun i j l d e h1 _ => absurd ⟨i, d, h1⟩ (fzS_in r)
  pin := fun q hq => nomatch hq
/-- the data of a call: nothing that is handed in is changed -/
def call0 (den : Fn) (a : An) : Dn := fun Γ => a Γ >>= fun x => den x.1 >>= fun z => .ok (z.1, x.2)
theorem VRs.lenD {c : Ct} {H0 B H : Hp} {S : List Slot} : ∀ {vs : List V} {ds : List D} {ms : List VM}, VRs c H0 B H S vs ds ms → ds.length = ms.length
  | _, _, _, .nil => rfl
  | _, _, _, .cons _ t => by rw [List.length_cons, List.length_cons, VRs.lenD t]
theorem call0_at {σ : L2.St} {H : Hp} {Q : VK} (hf : allFz ms = true) (hn : ms.length = n) (hrm : rm = .fz ∨ rm = .fr) (h : tE F M M1 rm (call0 den dA) σ H Q) :
    tCall (spD F.c false n rm den) [] F.E (tA F M M1 ms dA) σ H Q := by
  obtain ⟨P, B, S, R, io, eM, po⟩ := h
  refine ⟨P, B, S, R, io, eM, po.bind fun x _ po => ?_⟩
  intro vs B1 H1 S1 R1 e1 g1 s1 w1
  have rp := w1.reps hf
  rw [List.append_nil]
  refine ⟨[], B1, fzS vs x.1, R1.args rp, rfl, by rw [fzS_md rp, w1.lenD, hn] <;> rfl, ?_⟩
  rw [fzS_dt rp]
  have po := PostG.step s1 (fun z k => k) po
  cases hd : den x.1 with
  | error er =>
    rw [hd] at po
    cases er with
    | bad => exact post_nope po
    | exc y p =>
      intro B' H' S' σ' dd R' st pay
      obtain ⟨R2, s2⟩ := back0 R1 R' st fun a z => fzS_in rp z
      exact (show EPost F P S1 B1 H1 y p from po) B' H' S1 σ dd R2 s2 pay
  | ok z =>
    rw [hd] at po
    have po : KE F P σ M1 rm S B H Q (z.1, x.2) := po
    intro v B' H' S' R' _ _ st w
    obtain ⟨R2, s2⟩ := back0 R1 R' st fun a z => fzS_in rp z
    exact po v B' H' S1 R2 e1 g1 (s1.trans s2) ((w.reown hrm fun a z => R1.tracked z).back fun a z => s1.fresh z)
theorem je_call (hx : CxF F X) (G : FnOk X.prog X.w X.K X.mg X.base (L2N.CX X.prog X.w) k f fd ps (spD F.c false n rm den)) (hr : Room k X.A) (hg : Gl X x) (hm : X.mg x = some (.ref f)) (hk : PySem.W.keepIn X.K (.ref f) = true) (hb : Binds X.K fd ps []) (ha : JA F X (e :: es) M M1 ms dA)
    (hf : allFz ms = true := by rfl) (hn : ms.length = n := by rfl) (hrm : rm = .fz ∨ rm = .fr := by first | exact .inl rfl | exact .inr rfl) (hdb : (x == ("__debug__" : Str)) = false := by decide)
    (he : starEach (e :: es) X.env = (false, eval e X.env) :: starEach es X.env := by rfl) (hpl : (backTo pos (starEach es X.env)).any (·.1) = false := by rfl) : JE F X (.Call (.Name x p) (e :: es) [] pos) M M1 rm (call0 den dA) :=
  pe_imp (pe_call G hr hg hm hk hb .nil hx.pass ha hdb he hpl) fun σ H Q h => call0_at hf hn hrm h
/-- .. the first argument's object (the j-th slot's own) is changed -/
def call1 (j : Nat) (den : Fn) (a : An) : Dn := fun Γ => a Γ >>= fun x => den (x.2.getD j .non :: x.1.tail) >>= fun z => .ok (z.1, x.2.set j z.2)
theorem call1_at {σ : L2.St} {H : Hp} {Q : VK} {j : Nat} (hf : allFz ms = true) (hn : ms.length + 1 = n) (hM : M1[j]? = some .ow) (hrm : rm = .fz ∨ rm = .fr) (h : tE F M M1 rm (call1 j den dA) σ H Q) :
    tCall (spD F.c true n rm den) [] F.E (tA F M M1 (.bw j :: ms) dA) σ H Q := by
  obtain ⟨P, B, S, R, io, eM, po⟩ := h
  refine ⟨P, B, S, R, io, eM, po.bind fun x hx0 po => ?_⟩
  intro vs B1 H1 S1 R1 e1 g1 s1 w1
  obtain ⟨x1, x2⟩ := x
  cases w1 with
  | cons wl wr =>
    rename_i v0 d0 vs ds
    have rp := wr.reps hf
    obtain ⟨l, e0, hs, rfl⟩ := wl
    rw [List.append_nil]
    have g1 : dts S1 = x2 := g1
    have hd0 : x2.getD j .non = e0 := by rw [← g1]; exact dt_at hs
    subst hd0
    obtain ⟨hσ, ob, ho, hbn, hrep, hmu⟩ := R1.ok j _ hs
    have Ra : SR F.c [(0, l)] B1 ((V.ref l :: vs).map some) H1 (.ow l (x2.getD j .non) :: fzS vs ds) := by
      have R0 := R1.args rp
      refine ⟨by rw [List.length_cons, R0.len, List.length_map, List.length_map, List.length_cons], R1.ext, R1.ntb, R1.tab, fun i s e => ?_, fun i k l' d1 d2 h1 h2 => ?_, fun q hq => ?_⟩
      · cases i with
        | zero =>
          have e := Option.some.inj (show some _ = some _ from e)
          rw [← e]
          exact ⟨rfl, ob, ho, hbn, hrep, hmu⟩
        | succ i =>
          have q := R0.ok i s e
          cases s with
          | un _ => trivial
          | fz v d => exact ⟨q.1, q.2⟩
          | ow l' d => exact ⟨q.1, q.2⟩
      · cases i with
        | zero =>
          cases k with
          | zero => rfl
          | succ k => exact absurd ⟨k, d2, h2⟩ (fzS_in rp)
        | succ i => exact absurd ⟨i, d1, h1⟩ (fzS_in rp)
      · have e : q = (0, l) := by simpa using hq
        rw [e]
        exact ⟨_, rfl⟩
    have hin : ∀ a, InA (.ow l (x2.getD j .non) :: fzS vs ds) a → a = l := fun a ⟨i, d, e⟩ => by
      cases i with
      | zero =>
        have e := Option.some.inj (show some _ = some _ from e)
        cases e
        rfl
      | succ i => exact absurd ⟨i, d, e⟩ (fzS_in rp)
    refine ⟨[(0, l)], B1, .ow l (x2.getD j .non) :: fzS vs ds, Ra, rfl, ?_, ?_⟩
    · show Md.ow :: mds (fzS vs ds) = Md.ow :: List.replicate (n - 1) .fz
      rw [fzS_md rp, wr.lenD, ← hn, Nat.add_sub_cancel]
    · show PostG _ _ _ _ _ (den (x2.getD j .non :: dts (fzS vs ds))) _
      rw [fzS_dt rp]
      have po := PostG.step s1 (fun z k => k) po
      have po : PostG F P S1 B1 H1 (den (x2.getD j .non :: ds) >>= fun z => .ok (z.1, x2.set j z.2)) (KE F P σ M1 rm S B H Q) := po
      cases hd : den (x2.getD j .non :: ds) with
      | error er =>
        rw [hd] at po
        cases er with
        | bad => exact post_nope po
        | exc y p =>
          intro B' H' S' σ' dd R' st pay
          obtain ⟨d1, hs'⟩ := R'.pin (0, l) List.mem_cons_self
          obtain ⟨R2, s2, e2, g2⟩ := back1 (j := j) (i0 := 0) R1 hs R' st hin hs'
          exact (show EPost F P S1 B1 H1 y p from po) B' H' _ σ dd R2 s2 pay
      | ok z =>
        rw [hd] at po
        have po : KE F P σ M1 rm S B H Q (z.1, x2.set j z.2) := po
        intro v B' H' S' R' _ g' st w
        obtain ⟨d1, hs'⟩ := R'.pin (0, l) List.mem_cons_self
        have ed : d1 = z.2 := by
          have q := dt_at hs'
          rw [g'] at q
          exact q.symm
        subst ed
        obtain ⟨R2, s2, e2, g2⟩ := back1 (j := j) (i0 := 0) R1 hs R' st hin hs'
        refine po v B' H' _ R2 (e2.trans e1) (by rw [g2, g1]) (s1.trans s2) ((w.reown hrm fun a z => ?_).back fun a z => s1.fresh z)
        rcases inA_set z with z | ⟨_, z⟩
        · exact R1.tracked z
        · cases z
          exact R1.tracked ⟨j, _, hs⟩
theorem je_callS {j : Nat} (hx : CxF F X) (G : FnOk X.prog X.w X.K X.mg X.base (L2N.CX X.prog X.w) k f fd ps (spD F.c true n rm den)) (hr : Room k X.A) (hg : Gl X x) (hm : X.mg x = some (.ref f)) (hk : PySem.W.keepIn X.K (.ref f) = true) (hb : Binds X.K fd ps []) (ha : JA F X (e :: es) M M1 (.bw j :: ms) dA)
    (hM : M1[j]? = some .ow := by rfl) (hf : allFz ms = true := by rfl) (hn : ms.length + 1 = n := by rfl) (hrm : rm = .fz ∨ rm = .fr := by first | exact .inl rfl | exact .inr rfl) (hdb : (x == ("__debug__" : Str)) = false := by decide)
    (he : starEach (e :: es) X.env = (false, eval e X.env) :: starEach es X.env := by rfl) (hpl : (backTo pos (starEach es X.env)).any (·.1) = false := by rfl) : JE F X (.Call (.Name x p) (e :: es) [] pos) M M1 rm (call1 j den dA) :=
  pe_imp (pe_call G hr hg hm hk hb .nil hx.pass ha hdb he hpl) fun σ H Q h => call1_at hf hn hM hrm h

/-! ### raise -/
/-- raise x('..'), x an own class without __init__ -/
theorem js_raise {B newId initId : String} {bmB : List Value} {txt : Str} {j : Nat} {p2 p3 : Pos} (hx : CxF F X) (hc : X.calm = true) (Fb : ExcBaseFacts B newId initId bmB) (q : PySem.W.excIn X.K (F.c.ca x) bmB newId = true) (gC : X.mg x = some (.ref (F.c.ca x))) (kC : PySem.W.keepIn X.K (.ref (F.c.ca x)) = true)
    (r : Raises X (.ref (F.c.ca x))) (hg : Gl X x) (hdb : (x == ("__debug__" : Str)) = false := by decide) : JS F X (.Raise (some (.Call (.Name x p) [.Constant (.str txt) j p2] [] pos)) none p3) M Mn Mb Mc rm (fun _ => .error (.exc x none)) :=
  ps_imp (L2N.ps_raise hc hx.tk (L2N.pmk_own Fb q gC kC r hg hdb)) fun E σ H ⟨P, B, S, R, io, eM, po⟩ => po B H S σ none R (Step.refl S B H) rfl
end
end DL

set_option Elab.async false
set_option linter.all false
set_option maxRecDepth 100000
set_option maxHeartbeats 4000000
/-! DL, part 7: a slot's own object kept from now on; list comprehensions. -/
namespace DL
open PySem PySem.Spec PyProof.Rows L2

section
variable {c : Ct} {P : List (Nat × Addr)} {B B1 B2 H H0 H1 H2 : Hp} {S S1 S2 : List Slot} {σ : L2.St}
/-- the i-th slot's own object is kept from now on -/
theorem own_frz {i : Nat} {l : Addr} {d : D} {o : HO} (R : SR c P B σ H S) (hs : S[i]? = some (Slot.ow l d)) (ho : H l = some o) (hb : B l = none) (r : ORep c B o d) (hm : isMut o = true) (hp : ∀ q ∈ P, q.1 ≠ i) :
    SR c P (upd B l o) σ H (S.set i (.fz (.ref l) d)) ∧ Step S (S.set i (.fz (.ref l) d)) B (upd B l o) H H ∧ Rep c (upd B l o) (.ref l) d := by
  have hi : i < S.length := (List.getElem?_eq_some_iff.mp hs).1
  have rp : Rep c (upd B l o) (.ref l) d := .ref upd_same (r.mono (Sub.upd_at hb))
  have key : ∀ {j : Nat} {l' : Addr} {d1 : D}, (S.set i (.fz (.ref l) d))[j]? = some (Slot.ow l' d1) → S[j]? = some (Slot.ow l' d1) ∧ i ≠ j := fun {j l' d1} h => by
    by_cases hj : i = j
    · subst hj
      rw [List.getElem?_set_self hi] at h
      cases h
    · rw [List.getElem?_set_ne hj] at h
      exact ⟨h, hj⟩
  refine ⟨⟨by rw [List.length_set]; exact R.len, fun a u e => ?_, fun a ps e => ?_, R.tab, fun j s e => ?_, fun j k l' d1 d2 h1 h2 => ?_, fun q hq => ?_⟩, ⟨Sub.upd_at hb, fun a u e n _ => e, fun a h => h, fun a u e b n _ => ?_, fun a ⟨j, d1, h⟩ => .inl ⟨j, d1, (key h).1⟩⟩, rp⟩
  · by_cases q : a = l
    · rw [q, upd_same] at e; cases e; rw [q]; exact ho
    · rw [upd_ne q] at e; exact R.ext a u e
  · by_cases q : a = l
    · rw [q, upd_same] at e; cases e; cases hm
    · rw [upd_ne q] at e; exact R.ntb a ps e
  · by_cases hj : i = j
    · subst hj
      rw [List.getElem?_set_self hi] at e
      cases e
      exact ⟨(R.ok i _ hs).1, rp⟩
    · rw [List.getElem?_set_ne hj] at e
      refine (R.ok j s e).heap (Sub.upd_at hb) fun l' d1 u es h1 h2 _ => ⟨h1, ?_⟩
      subst es
      rw [upd_ne (fun z => hj (R.inj i j l d d1 hs (by rw [← z]; exact e)))]
      exact h2
  · exact R.inj j k l' d1 d2 (key h1).1 (key h2).1
  · obtain ⟨d1, e⟩ := R.pin q hq
    exact ⟨d1, by rw [List.getElem?_set_ne (hp q hq).symm]; exact e⟩
  · rw [upd_ne (fun z => n (by rw [z]; exact ⟨i, d, hs⟩))]
    exact b
theorem pins_ne {P : List (Nat × Addr)} {io : List Nat} {i : Nat} (io' : P.map (·.1) = io) (h : io.contains i = false) : ∀ q ∈ P, q.1 ≠ i := fun q hq e => by
  have hm : q.1 ∈ io := by rw [← io']; exact List.mem_map.mpr ⟨q, hq, rfl⟩
  rw [e] at hm
  rw [List.contains_iff_mem.mpr hm] at h
  cases h
end
section
variable {F : Fx} {X : Cx} {e : Expr} {M M1 : List Md} {m : VM}
theorem je_frz {i : Nat} (h : PE X e (tVar i)) (hM : M[i]? = some .ow) (hio : F.io.contains i = false := by rfl) : JE F X e M (M.set i .fz) .fz (fun Γ => .ok (Γ.getD i .non, Γ)) := pe_imp h fun σ H Q ⟨P, B, S, R, io, e, po⟩ => by
  obtain ⟨l, d, ob, hs, hσ, hd, hl, hb, hrep, hmu⟩ := own_at R e hM
  obtain ⟨R2, s2, rp⟩ := own_frz R hs hl hb hrep hmu (pins_ne io hio)
  refine ⟨.ref l, hσ, po (.ref l) _ H _ R2 (by rw [mds, List.map_set, ← e] <;> rfl) ?_ s2 ?_⟩
  · rw [dts, List.map_set]
    refine List.ext_getElem? fun j => ?_
    by_cases hj : i = j
    · subst hj
      rw [List.getElem?_set_self (by rw [List.length_map]; exact (List.getElem?_eq_some_iff.mp hs).1), List.getElem?_map, hs]
      rfl
    · rw [List.getElem?_set_ne hj]
  · show Rep _ _ _ ((dts S).getD i .non)
    rw [hd]
    exact rp
end

/-! ### the slots of a block's own names -/
def restS (S1 S : List Slot) : List Nat → List Slot
  | [] => S
  | v :: vs => (restS S1 S vs).set v (S1.getD v (.un .non))
def restD (D1 D0 : List D) : List Nat → List D
  | [] => D0
  | v :: vs => (restD D1 D0 vs).set v (D1.getD v .non)
def wipeM (M : List Md) : List Nat → List Md
  | [] => M
  | v :: vs => (wipeM M vs).set v .un
def notOw (M : List Md) (vs : List Nat) : Bool := vs.all fun i => match M[i]? with
  | some .ow => false
  | some _ => true
  | none => false
theorem restS_len {S1 S : List Slot} : ∀ vs : List Nat, (restS S1 S vs).length = S.length
  | [] => rfl
  | v :: vs => by unfold restS; rw [List.length_set, restS_len vs]
theorem restS_at {S1 S : List Slot} {i : Nat} {s : Slot} : ∀ {vs : List Nat}, (restS S1 S vs)[i]? = some s → (i ∈ vs ∧ s = S1.getD i (.un .non)) ∨ (i ∉ vs ∧ S[i]? = some s)
  | [], h => .inr ⟨by simp, h⟩
  | v :: vs, h => by
    unfold restS at h
    by_cases e : v = i
    · subst e
      by_cases hl : v < (restS S1 S vs).length
      · rw [List.getElem?_set_self hl] at h
        exact .inl ⟨List.mem_cons_self, (Option.some.inj h).symm⟩
      · rw [List.getElem?_eq_none (by rw [List.length_set]; omega)] at h
        cases h
    · rw [List.getElem?_set_ne e] at h
      rcases restS_at h with ⟨h1, h2⟩ | ⟨h1, h2⟩
      · exact .inl ⟨List.mem_cons_of_mem _ h1, h2⟩
      · refine .inr ⟨fun z => ?_, h2⟩
        rcases List.mem_cons.mp z with z | z
        · exact e z.symm
        · exact h1 z
theorem restS_out {S1 S : List Slot} {i : Nat} : ∀ {vs : List Nat}, i ∉ vs → (restS S1 S vs)[i]? = S[i]?
  | [], h => rfl
  | v :: vs, h => by
    unfold restS
    rw [List.getElem?_set_ne (fun z => h (by rw [z]; exact List.mem_cons_self))]
    exact restS_out fun z => h (List.mem_cons_of_mem _ z)
theorem restS_dt {S1 S : List Slot} : ∀ vs : List Nat, dts (restS S1 S vs) = restD (dts S1) (dts S) vs
  | [] => rfl
  | v :: vs => by
    unfold restS restD
    rw [dts, List.map_set, ← restS_dt vs]
    congr 1
    cases h : S1[v]? with
    | none => simp [List.getD, h, Slot.dt]
    | some s => simp [List.getD, h]
theorem restS_md0 {S : List Slot} : ∀ vs : List Nat, mds (restS [] S vs) = wipeM (mds S) vs
  | [] => rfl
  | v :: vs => by
    unfold restS wipeM
    rw [mds, List.map_set, ← restS_md0 vs]
    rfl
theorem restS_md {S1 S : List Slot} {M1 : List Md} (h1 : mds S1 = M1) : ∀ {vs : List Nat}, mds S = wipeM M1 vs → (∀ v ∈ vs, v < M1.length) → mds (restS S1 S vs) = M1 := fun {vs} h2 hv => by
  have hl : ∀ us : List Nat, (wipeM M1 us).length = M1.length := fun us => by
    induction us with
    | nil => rfl
    | cons u us ih => unfold wipeM; rw [List.length_set, ih]
  have hw : ∀ (us : List Nat) (i : Nat), i ∉ us → (wipeM M1 us)[i]? = M1[i]? := fun us => by
    induction us with
    | nil => intro i _; rfl
    | cons u us ih =>
      intro i hi
      unfold wipeM
      rw [List.getElem?_set_ne (fun z => hi (by rw [z]; exact List.mem_cons_self))]
      exact ih i fun z => hi (List.mem_cons_of_mem _ z)
  have hS : S.length = M1.length := by
    have := congrArg List.length h2
    rw [List.length_map, hl] at this
    exact this
  have hS1 : S1.length = M1.length := by
    have := congrArg List.length h1
    rw [List.length_map] at this
    exact this
  refine List.ext_getElem? fun i => ?_
  rw [List.getElem?_map]
  cases q : (restS S1 S vs)[i]? with
  | none =>
    have := List.getElem?_eq_none_iff.mp q
    rw [restS_len] at this
    rw [List.getElem?_eq_none (by omega)]
    rfl
  | some s =>
    rcases restS_at q with ⟨hm, rfl⟩ | ⟨hm, hs⟩
    · have hlt := hv i hm
      rw [← h1, List.getElem?_map, List.getD, List.getElem?_eq_getElem (by omega)] <;> rfl
    · rw [← hw vs i hm, ← h2, List.getElem?_map, hs]
theorem wipe_at {σ : L2.St} {i : Nat} {v : V} {vs : List Nat} (h : i ∉ vs) (e : σ[i]? = some (some v)) : (wipe σ vs)[i]? = some (some v) := by rw [wipe_out h]; exact e
theorem md_of {S : List Slot} {i : Nat} {l : Addr} {d : D} (h : S[i]? = some (Slot.ow l d)) : (mds S)[i]? = some .ow := by rw [List.getElem?_map, h] <;> rfl
theorem notOw_at {M : List Md} {vs : List Nat} {i : Nat} (h : notOw M vs = true) (hi : i ∈ vs) : i < M.length ∧ M[i]? ≠ some .ow := by
  have q := List.all_eq_true.mp h i hi
  cases e : M[i]? with
  | none => rw [e] at q; cases q
  | some m =>
    refine ⟨(List.getElem?_eq_some_iff.mp e).1, fun z => ?_⟩
    rw [e] at q
    cases Option.some.inj z
    cases q
section
variable {c : Ct} {P : List (Nat × Addr)} {B B1 B2 H H0 H1 H2 : Hp} {S S1 S2 : List Slot} {σ : L2.St} {vs : List Nat}
/-- into the block -/
theorem SR.wiped (R : SR c P B σ H S) (hn : notOw (mds S) vs = true) : SR c P B (wipe σ vs) H (restS [] S vs) where
  len := by rw [restS_len, wipe_length, R.len]
  ext := R.ext
  ntb := R.ntb
  tab := R.tab
  ok := fun i s e => by
    rcases restS_at e with ⟨_, rfl⟩ | ⟨h, e⟩
    · trivial
    · have q := R.ok i s e
      cases s with
      | un _ => trivial
      | fz v d => exact ⟨wipe_at h q.1, q.2⟩
      | ow l d => exact ⟨wipe_at h q.1, q.2⟩
  inj := fun i j l d e h1 h2 => by
    rcases restS_at h1 with ⟨_, h1⟩ | ⟨_, h1⟩
    · cases h1
    · rcases restS_at h2 with ⟨_, h2⟩ | ⟨_, h2⟩
      · cases h2
      · exact R.inj i j l d e h1 h2
  pin := fun q hq => by
    obtain ⟨d, e⟩ := R.pin q hq
    exact ⟨d, by rw [restS_out (fun z => (notOw_at hn z).2 (md_of e))]; exact e⟩
theorem inA_wiped {a : Addr} (h : InA (restS [] S vs) a) : InA S a := by
  obtain ⟨i, d, h⟩ := h
  rcases restS_at h with ⟨_, h⟩ | ⟨_, h⟩
  · cases h
  · exact ⟨i, d, h⟩
theorem Step.wiped : Step S (restS [] S vs) B B H H := ⟨Sub.refl B, fun _ _ e _ _ => e, fun _ h => h, fun _ _ _ b _ _ => b, fun _ h => .inl (inA_wiped h)⟩
/-- and out of it -/
theorem inA_rest {a : Addr} (hn : notOw (mds S1) vs = true) (h : InA (restS S1 S vs) a) : InA S a := by
  obtain ⟨i, d, h⟩ := h
  rcases restS_at h with ⟨hm, e⟩ | ⟨_, h⟩
  · obtain ⟨hl, hne⟩ := notOw_at hn hm
    cases q : S1[i]? with
    | none => rw [List.getD, q] at e; cases e
    | some s =>
      rw [List.getD, q] at e
      exact absurd (md_of (by rw [q]; exact congrArg some e.symm)) hne
  · exact ⟨i, d, h⟩
theorem SR.rest (R1 : SR c P B1 σ H1 S1) (hn : notOw (mds S1) vs = true) (g : Sub B1 B2) (R2 : SR c P B2 (wipe σ vs) H2 S2) : SR c P B2 σ H2 (restS S1 S2 vs) where
  len := by rw [restS_len, R2.len, wipe_length]
  ext := R2.ext
  ntb := R2.ntb
  tab := R2.tab
  ok := fun i s e => by
    rcases restS_at e with ⟨hm, rfl⟩ | ⟨h, e⟩
    · obtain ⟨hl, hne⟩ := notOw_at hn hm
      cases q : S1[i]? with
      | none => rw [List.getD, q]; trivial
      | some s =>
        rw [List.getD, q]
        have k := R1.ok i s q
        cases s with
        | un _ => trivial
        | fz v d => exact ⟨k.1, k.2.mono g⟩
        | ow l d => exact absurd (md_of q) hne
    · have q := R2.ok i s e
      cases s with
      | un _ => trivial
      | fz v d => exact ⟨(wipe_some q.1).1, q.2⟩
      | ow l d => exact ⟨(wipe_some q.1).1, q.2⟩
  inj := fun i j l d e h1 h2 => by
    have key : ∀ {k : Nat} {d : D}, (restS S1 S2 vs)[k]? = some (Slot.ow l d) → S2[k]? = some (Slot.ow l d) := fun {k d} h => by
      rcases restS_at h with ⟨hm, e⟩ | ⟨_, h⟩
      · obtain ⟨hl, hne⟩ := notOw_at hn hm
        cases q : S1[k]? with
        | none => rw [List.getD, q] at e; cases e
        | some s =>
          rw [List.getD, q] at e
          exact absurd (md_of (by rw [q]; exact congrArg some e.symm)) hne
      · exact h
    exact R2.inj i j l d e (key h1) (key h2)
  pin := fun q hq => by
    obtain ⟨d, e⟩ := R2.pin q hq
    refine ⟨d, ?_⟩
    rw [restS_out]
    · exact e
    · intro z
      obtain ⟨d1, e1⟩ := R1.pin q hq
      exact (notOw_at hn z).2 (md_of e1)
theorem Step.rest (hn : notOw (mds S1) vs = true) (s : Step S S2 B B2 H H2) : Step S (restS S1 S2 vs) B B2 H H2 := ⟨s.grow, s.keep, s.stay, s.out, fun a h => s.adr a (inA_rest hn h)⟩
/-- an object of nobody's is changed -/
theorem SR.loose {p : Addr} {o o' : HO} (R : SR c P B σ H S) (hp : H p = some o) (hb : B p = none) (hn : ¬ InA S p) (hm : isMut o = true) : SR c P B σ (upd H p o') S where
  len := R.len
  ext := fun a u e => by rw [upd_ne (fun z => by rw [z, hb] at e; cases e)]; exact R.ext a u e
  ntb := R.ntb
  tab := by
    intro q hq
    obtain ⟨ps, h1, h2, h3⟩ := R.tab q hq
    refine ⟨ps, ?_, h2, fun pos cv hc => ?_⟩
    · rw [upd_ne (fun z => by rw [z, hp] at h1; cases h1; cases hm)]
      exact h1
    · obtain ⟨k, e1, e2⟩ := h3 pos cv hc
      refine ⟨k, e1, ?_⟩
      rw [upd_ne (fun z => by
        rw [z, hp] at e2
        unfold LamX.CodeO at e2
        cases e2
        cases hm)]
      exact e2
  ok := fun i s e => (R.ok i s e).heap (Sub.refl B) fun l d u es h1 h2 _ => ⟨by
    subst es
    rw [upd_ne (fun z => hn ⟨i, d, by rw [← z]; exact e⟩)]
    exact h1, h2⟩
  inj := R.inj
  pin := R.pin
theorem Step.loose {p : Addr} {o' : HO} (s : Step S S1 B B1 H H1) (hp : H p = none) : Step S S1 B B1 H (upd H1 p o') := ⟨s.grow, fun a u e n k => by
    rw [upd_ne (ne_of_none e hp)]
    exact s.keep a u e n k, fun a h => by
    by_cases e : a = p
    · rw [e, upd_same]; exact fun z => nomatch z
    · rw [upd_ne e]; exact s.stay a h, s.out, s.adr⟩
end

/-! ### list comprehensions -/
abbrev Fx.blk (F : Fx) : Fx := ⟨F.c, F.io, E0⟩
def lcGo (vs : List Nat) (g : Gn) (t : Tn) (e : Dn) : List D → List D → Rs (List D × List D)
  | [], Γ => .ok ([], Γ)
  | d :: ds, Γ => g d Γ >>= fun Γ1 => t Γ1 >>= fun b => match b.1 with
    | true => e b.2 >>= fun z => lcGo vs g t e ds (restD [] z.2 vs) >>= fun r => .ok (z.1 :: r.1, r.2)
    | false => lcGo vs g t e ds (restD [] b.2 vs)
def lcD (vs : List Nat) (di : An) (g : Gn) (t : Tn) (e : Dn) : Dn := fun Γ => di Γ >>= fun x => if x.1.length < szl then (match lcGo vs g t e x.1 (restD [] x.2 vs) with
  | .ok y => .ok (.lst y.1, restD x.2 y.2 vs)
  | .error _ => nope) else nope
section
variable {F : Fx} {X : Cx} {M M1 M3 M4 M5 : List Md} {di : An} {g : Gn} {t : Tn} {e : Dn} {vs : List Nat} {q : Bool}
theorem post_ok {α : Type} {F : Fx} {P : List (Nat × Addr)} {S : List Slot} {B H : Hp} {a : α} {r : Rs α} {k : α → Prop} (h : r = .ok a) (hk : k a) : PostG F P S B H r k := by rw [h]; exact hk
theorem bind_ok {α β : Type} {r : Rs α} {f : α → Rs β} {b : β} (h : (r >>= f) = .ok b) : ∃ a, r = .ok a ∧ f a = .ok b := by
  cases r with
  | ok a => exact ⟨a, rfl, h⟩
  | error e => cases h
theorem lc_at {σ : L2.St} {H : Hp} {Q : VK} (hM1 : notOw M1 vs = true) (hM4 : wipeM M4 vs = wipeM M1 vs) (hM5 : wipeM M5 vs = wipeM M1 vs) (hn4 : notOw M4 vs = true) (hn5 : notOw M5 vs = true) (h : tE F M M1 .fr (lcD vs di g t e) σ H Q) :
    tLc (tI F q M M1 di) (tG F.blk (some vs) q (wipeM M1 vs) M3 g) (tT F.blk M3 M4 t) (tE F.blk M4 M5 .fz e) vs σ H Q := by
  obtain ⟨P, B, S, R, io, eM, po⟩ := h
  refine ⟨P, B, S, R, io, eM, po.bind fun x _ po => ?_⟩
  split at po
  case isFalse => exact post_nope po
  rename_i hlen
  split at po
  case h_2 => exact post_nope po
  rename_i y hy
  intro J B1 H1 S1 R1 e1 g1 s1 ⟨G, Y, w, hG, hY⟩ D hD
  have nb : notOw (mds S1) vs = true := by rw [e1]; exact hM1
  refine lc_it w (fun i Hi => ∃ B2 S2 acc ds r, SR F.c P B2 (wipe σ vs) Hi S2 ∧ mds S2 = wipeM M1 vs ∧ Step (restS [] S1 vs) S2 B1 B2 H1 Hi ∧ Hi D = some (.lst acc) ∧ B2 D = none ∧ ¬ InA S2 D ∧ RepL F.c B2 acc ds ∧ acc.length ≤ i ∧
    lcGo vs g t e (x.1.drop i) (dts S2) = .ok r ∧ ds ++ r.1 = y.1 ∧ r.2 = y.2) ?_ ?_ ?_ ?_
  · refine ⟨B1, restS [] S1 vs, [], [], y, (R1.wiped nb).new hD, by rw [restS_md0, e1], Step.new _ _ hD, upd_same, R1.bnone hD, (R1.wiped nb).notIn hD, .nil, Nat.zero_le _, ?_, rfl, rfl⟩
    rw [restS_dt, List.drop_zero, g1]
    exact hy
  · rintro i Hi _ ⟨B2, S2, acc, ds, r, R2, _, st, _⟩
    exact hG Hi (st.grow.trans R2.ext)
  · rintro i v H2 H3 hi ⟨B2, S2, acc, ds, r, R2, e2, st, hDa, hDb, hDn, ra, la, hgo, hr1, hr2⟩ yy
    obtain ⟨R3, st3, d, hd, hv⟩ := hY i P B2 (wipe σ vs) H2 S2 v H3 hi R2 st.grow yy
    have hdr : x.1.drop i = d :: x.1.drop (i + 1) := by
      rw [List.drop_eq_getElem_cons hi]
      rw [List.getElem?_eq_getElem hi] at hd
      rw [Option.some.inj hd]
    rw [hdr] at hgo
    obtain ⟨Γ1, hg1, hgo⟩ := bind_ok (show (g d (dts S2) >>= _) = _ from hgo)
    obtain ⟨b, ht1, hgo⟩ := bind_ok hgo
    have hD3 : H3 D = some (.lst acc) := st3.keep D _ hDa hDn (by intro ps z; cases z)
    refine ⟨P, B2, S2, d, R3, io, e2, hv, post_ok hg1 ?_⟩
    intro σ4 B4 H4 S4 R4 e4 g4 s4 z4
    have z4 : wipe σ4 vs = wipe σ vs := (show wipe σ4 vs = wipe (wipe σ vs) vs from z4).trans (by
      have : ∀ us : List Nat, (∀ u ∈ us, u ∈ vs) → wipe (wipe σ vs) us = wipe σ vs := fun us => by
        induction us with
        | nil => intro _; rfl
        | cons u us ih =>
          intro hu
          show (wipe (wipe σ vs) us).set u none = wipe σ vs
          rw [ih fun w hw => hu w (List.mem_cons_of_mem _ hw)]
          have : ∀ {ws : List Nat} {i : Nat}, i ∈ ws → ∀ τ : L2.St, (wipe τ ws).set i none = wipe τ ws := fun {ws} => by
            induction ws with
            | nil => intro i h; cases h
            | cons w ws ih2 =>
              intro i h τ
              by_cases hi : i = w
              · subst hi
                show ((wipe τ ws).set i none).set i none = (wipe τ ws).set i none
                rw [List.set_set]
              · show ((wipe τ ws).set w none).set i none = (wipe τ ws).set w none
                rw [List.set_comm _ _ (Ne.symm hi), ih2 ((List.mem_cons.mp h).resolve_left hi)]
          exact this (hu u List.mem_cons_self) σ
      exact this vs fun u h => h)
    have hD4 : H4 D = some (.lst acc) := s4.keep D _ hD3 hDn (by intro ps z; cases z)
    have hB4 : B4 D = none := s4.out D _ hD3 hDb hDn rfl
    have hN4 : ¬ InA S4 D := s4.not_in hD3 hDn
    have s4' := st3.trans s4
    refine ⟨z4, P, B4, S4, R4, io, e4, post_ok (by rw [g4]; exact ht1) ?_⟩
    intro B5 H5 S5 R5 e5 g5 s5
    have hD5 : H5 D = some (.lst acc) := s5.keep D _ hD4 hN4 (by intro ps z; cases z)
    have hB5 : B5 D = none := s5.out D _ hD4 hB4 hN4 rfl
    have hN5 : ¬ InA S5 D := s5.not_in hD4 hN4
    have s5' := s4'.trans s5
    obtain ⟨b1, b2⟩ := b
    cases b1 with
    | false =>
      rw [if_neg Bool.false_ne_true]
      have n5 : notOw (mds S5) vs = true := by rw [e5]; exact hn4
      have R6 := R5.wiped n5
      rw [z4] at R6
      refine ⟨B5, restS [] S5 vs, acc, ds, r, R6, by rw [restS_md0, e5]; exact hM4, (st.trans s5').trans Step.wiped, hD5, hB5, fun z => hN5 (inA_wiped z), ra.mono s5'.grow, Nat.le_succ_of_le la, ?_, hr1, hr2⟩
      rw [restS_dt, g5]
      exact hgo
    | true =>
      rw [if_pos rfl]
      obtain ⟨z, he1, hgo⟩ := bind_ok (show (e b2 >>= _) = _ from hgo)
      obtain ⟨r', hgo', hr'⟩ := bind_ok hgo
      refine ⟨P, B5, S5, R5, io, e5, post_ok (by rw [g5]; exact he1) ?_⟩
      intro u B6 H6 S6 R6 e6 g6 s6 w6
      have hD6 : H6 D = some (.lst acc) := s6.keep D _ hD5 hN5 (by intro ps z; cases z)
      have hB6 : B6 D = none := s6.out D _ hD5 hB5 hN5 rfl
      have hN6 : ¬ InA S6 D := s6.not_in hD5 hN5
      have s6' := s5'.trans s6
      have n6 : notOw (mds S6) vs = true := by rw [e6]; exact hn5
      have R7 := R6.wiped n6
      rw [z4] at R7
      have hN7 : ¬ InA (restS [] S6 vs) D := fun z => hN6 (inA_wiped z)
      refine ⟨acc, hD6, by rw [szl_eq] at *; omega, B6, restS [] S6 vs, acc ++ [u], ds ++ [z.1], r', R7.loose hD6 hB6 hN7 rfl, by rw [restS_md0, e6]; exact hM5, ((st.trans s6').trans Step.wiped).loose hD, upd_same, hB6, hN7, (ra.mono s6'.grow).append (.cons w6 .nil), by rw [List.length_append]; simpa using la, ?_, ?_, ?_⟩
      · rw [restS_dt, g6]
        exact hgo'
      · cases hr'
        rw [← hr1, List.append_assoc]
        rfl
      · cases hr'
        exact hr2
  · rintro Hn ⟨B2, S2, acc, ds, r, R2, e2, st, hDa, hDb, hDn, ra, la, hgo, hr1, hr2⟩
    rw [List.drop_length] at hgo
    cases hgo
    rw [List.append_nil] at hr1
    have hv : ∀ v ∈ vs, v < M1.length := fun v h => (notOw_at hM1 h).1
    have po : KE F P σ M1 .fr S B H Q (.lst y.1, restD x.2 y.2 vs) := po
    refine po (.ref D) B2 Hn (restS S1 S2 vs) (SR.rest R1 nb st.grow R2) (restS_md e1 e2 hv) ?_ (s1.trans ((Step.wiped.trans st).rest nb)) ?_
    · rw [restS_dt, g1, ← hr2]
    · exact ⟨D, _, rfl, hDa, hDb, fun z => hDn (inA_rest nb z), .lst (by rw [← hr1]; exact ra), rfl, s1.fresh hD⟩
/-- the tests of a clause -/
abbrev JTs (F : Fx) (X : Cx) (ifs : List Expr) (M M' : List Md) (den : Tn) : Prop := PTs X ifs (tT F M M' den)
theorem jts_nil : JTs F X [] M M (fun Γ => .ok (true, Γ)) := ⟨fun pins s σ H Q I ⟨P, B, S, R, io, eM, po⟩ => pts_nil.run pins s σ H Q I (po B H S R eM rfl (Step.refl S B H))⟩
theorem jts_one {c : Expr} (h : JT F X c M M1 t) : JTs F X [c] M M1 t := pts_one h
theorem je_lc {elt tg iter : Expr} {ifs : List Expr} {scope : Scope} {own : List (Str × Nat)} {pos : Pos} (hc : X.calm = true) (hN : X.N.Nodup) (ok : BlkOk X.N X.env.scope scope own) (hi : JI F X q tg iter M M1 di)
    (hb : ∀ (s : Shared) (H : Hp) (C : Addr) (cl : List (Str × Addr)) (fp : List Addr), JG F.blk (X.blk s H scope (compEnvC scope cl C X.env) fp) (some (own.map (·.2))) q tg (wipeM M1 (own.map (·.2))) M3 g ∧ JTs F.blk (X.blk s H scope (compEnvC scope cl C X.env) fp) ifs M3 M4 t ∧ JE F.blk (X.blk s H scope (compEnvC scope cl C X.env) fp) elt M4 M5 .fz e)
    (hM1 : notOw M1 (own.map (·.2)) = true := by rfl) (hM4 : wipeM M4 (own.map (·.2)) = wipeM M1 (own.map (·.2)) := by rfl) (hM5 : wipeM M5 (own.map (·.2)) = wipeM M1 (own.map (·.2)) := by rfl) (hn4 : notOw M4 (own.map (·.2)) = true := by rfl) (hn5 : notOw M5 (own.map (·.2)) = true := by rfl)
    (hs : ∀ x, foldedSetIterable iter X.env x = pure x := by intro _; rfl) :
    JE F X (.ListComp elt [⟨tg, iter, ifs, 0⟩] scope pos) M M1 .fr (lcD (own.map (·.2)) di g t e) :=
  pe_imp (pe_lc hc hN hi ok (fun s H C cl fp => (hb s H C cl fp).1) (fun s H C cl fp => (hb s H C cl fp).2.1) (fun s H C cl fp => (hb s H C cl fp).2.2) hs) fun σ H Q h => lc_at hM1 hM4 hM5 hn4 hn5 h
/-- name = [..] -/
theorem js_setLc {i : Nat} {x : Str} {px : Pos} {elt tg iter : Expr} {ifs : List Expr} {scope : Scope} {own : List (Str × Nat)} {pos spos : Pos} {Mb Mc : List Md} {rm : VM} (hc : X.calm = true) (hN : X.N.Nodup) (hy : X.N[i]? = some x) (ok : BlkOk X.N X.env.scope scope own) (hi : JI F X q tg iter M M1 di)
    (hb : ∀ (s : Shared) (H : Hp) (C : Addr) (cl : List (Str × Addr)) (fp : List Addr), JG F.blk (X.blk s H scope (compEnvC scope cl C X.env) fp) (some (own.map (·.2))) q tg (wipeM M1 (own.map (·.2))) M3 g ∧ JTs F.blk (X.blk s H scope (compEnvC scope cl C X.env) fp) ifs M3 M4 t ∧ JE F.blk (X.blk s H scope (compEnvC scope cl C X.env) fp) elt M4 M5 .fz e)
    (hyl : X.env.scope.names.lookup x = some .local := by rfl) (hsw : swapsWith (.ListComp elt [⟨tg, iter, ifs, 0⟩] scope pos) (some (.Name x px)) spos.line X.env = pure true := by rfl)
    (hl : i < M1.length := by decide) (hio : F.io.contains i = false := by rfl)
    (hM1 : notOw M1 (own.map (·.2)) = true := by rfl) (hM4 : wipeM M4 (own.map (·.2)) = wipeM M1 (own.map (·.2)) := by rfl) (hM5 : wipeM M5 (own.map (·.2)) = wipeM M1 (own.map (·.2)) := by rfl) (hn4 : notOw M4 (own.map (·.2)) = true := by rfl) (hn5 : notOw M5 (own.map (·.2)) = true := by rfl)
    (hs : ∀ x, foldedSetIterable iter X.env x = pure x := by intro _; rfl) :
    JS F X (.Assign [.Name x px] (.ListComp elt [⟨tg, iter, ifs, 0⟩] scope pos) spos) M (M1.set i .ow) Mb Mc rm (setS i (lcD (own.map (·.2)) di g t e)) :=
  ps_imp (ps_setLc hc hN hy hyl hsw hi ok (fun s H C cl fp => (hb s H C cl fp).1) (fun s H C cl fp => (hb s H C cl fp).2.1) (fun s H C cl fp => (hb s H C cl fp).2.2) hs) fun E σ H ⟨P, B, S, R, io, e, po⟩ => by
    refine lc_at hM1 hM4 hM5 hn4 hn5 ⟨P, B, S, R, io, e, po.bind fun x _ po => ?_⟩
    intro v B1 H1 S1 R1 e1 g1 s1 w1
    obtain ⟨s, h1, h2, h3, h4⟩ := set_val R1 s1 w1 (.inr rfl) (notIo io hio) (by have := congrArg List.length e1; rw [List.length_map] at this; omega)
    exact po (σ.set i (some v)) B1 H1 (S1.set i s) h3 (by rw [mds, List.map_set, h1, ← e1] <;> rfl) (by rw [dts, List.map_set, h2, ← g1]) h4
/-- .. the list kept from now on -/
theorem js_setLcF {i : Nat} {x : Str} {px : Pos} {elt tg iter : Expr} {ifs : List Expr} {scope : Scope} {own : List (Str × Nat)} {pos spos : Pos} {Mb Mc : List Md} {rm : VM} (hc : X.calm = true) (hN : X.N.Nodup) (hy : X.N[i]? = some x) (ok : BlkOk X.N X.env.scope scope own) (hi : JI F X q tg iter M M1 di)
    (hb : ∀ (s : Shared) (H : Hp) (C : Addr) (cl : List (Str × Addr)) (fp : List Addr), JG F.blk (X.blk s H scope (compEnvC scope cl C X.env) fp) (some (own.map (·.2))) q tg (wipeM M1 (own.map (·.2))) M3 g ∧ JTs F.blk (X.blk s H scope (compEnvC scope cl C X.env) fp) ifs M3 M4 t ∧ JE F.blk (X.blk s H scope (compEnvC scope cl C X.env) fp) elt M4 M5 .fz e)
    (hyl : X.env.scope.names.lookup x = some .local := by rfl) (hsw : swapsWith (.ListComp elt [⟨tg, iter, ifs, 0⟩] scope pos) (some (.Name x px)) spos.line X.env = pure true := by rfl)
    (hl : i < M1.length := by decide) (hio : F.io.contains i = false := by rfl)
    (hM1 : notOw M1 (own.map (·.2)) = true := by rfl) (hM4 : wipeM M4 (own.map (·.2)) = wipeM M1 (own.map (·.2)) := by rfl) (hM5 : wipeM M5 (own.map (·.2)) = wipeM M1 (own.map (·.2)) := by rfl) (hn4 : notOw M4 (own.map (·.2)) = true := by rfl) (hn5 : notOw M5 (own.map (·.2)) = true := by rfl)
    (hs : ∀ x, foldedSetIterable iter X.env x = pure x := by intro _; rfl) :
    JS F X (.Assign [.Name x px] (.ListComp elt [⟨tg, iter, ifs, 0⟩] scope pos) spos) M (M1.set i .fz) Mb Mc rm (setS i (lcD (own.map (·.2)) di g t e)) :=
  ps_imp (ps_setLc hc hN hy hyl hsw hi ok (fun s H C cl fp => (hb s H C cl fp).1) (fun s H C cl fp => (hb s H C cl fp).2.1) (fun s H C cl fp => (hb s H C cl fp).2.2) hs) fun E σ H ⟨P, B, S, R, io, e, po⟩ => by
    refine lc_at hM1 hM4 hM5 hn4 hn5 ⟨P, B, S, R, io, e, po.bind fun x _ po => ?_⟩
    intro v B1 H1 S1 R1 e1 g1 s1 w1
    obtain ⟨B2, R2, s2, r2⟩ := w1.freeze R1 s1
    obtain ⟨s, h1, h2, h3, h4⟩ := set_val (m := .fz) R2 s2 r2 (.inl rfl) (notIo io hio) (by have := congrArg List.length e1; rw [List.length_map] at this; omega)
    exact po (σ.set i (some v)) B2 H1 (S1.set i s) h3 (by rw [mds, List.map_set, h1, ← e1] <;> rfl) (by rw [dts, List.map_set, h2, ← g1]) h4
end
end DL

set_option Elab.async false
set_option linter.all false
set_option maxRecDepth 100000
set_option maxHeartbeats 4000000
/-! DL, part 8: methods that read, sets that are counted, dicts, enumerate. -/
namespace DL
open PySem PySem.Spec PyProof.Rows L2

/-! ### methods that read: lists and tuples -/
section
variable {X : Cx} {o e : Expr} {es : List Expr} {to to' : TE} {t : TA} {name : Str} {apos cpos : Pos} {id : String} {r : V → List V → Hp → VK → Prop}
theorem pe_or {t t' : TE} (h : PE X e t) (h' : PE X e t') : PE X e (fun σ H Q => t σ H Q ∨ t' σ H Q) := ⟨fun pins s σ H Q I w => w.elim (fun w => h.run pins s σ H Q I w) fun w => h'.run pins s σ H Q I w⟩
/-- a tuple whose object is told -/
def IsF (x : V) (H : Hp) : Prop := ∃ p ob vs, x = .ref p ∧ H p = some (.frz ob (.tup vs)) ∧ ob.dict = none ∧ ob.cls = .type "tuple"
def tBMT (r : V → List V → Hp → VK → Prop) (to : TE) (t : TA) : TE := fun σ H Q => to σ H fun x H1 => IsF x H1 ∧ t σ H1 fun xs H2 => r x xs H2 Q
theorem pe_bmT (slot : PySem.Slot "tuple" name id) (hty : typeOf (.builtin id) = pure (.type "method_descriptor")) (hm : MtR X id r) (ho : PE X o to) (ha : PA X (e :: es) t)
    (hbase : attributeBase o name X.env (eval o X.env) = eval o X.env := by rfl)
    (hfew : ((backTo cpos (starEach (e :: es) X.env)).all (fun x => !x.1) && (backToKw cpos (keywordEach [] X.env)).all (fun x => x.1.isSome)
      && decide ((e :: es).length + ([] : List Keyword).length + (if ([] : List Keyword).isEmpty then 0 else 1) < 30)) = true := by rfl)
    (hline : (apos.endLine == cpos.line) = true := by rfl) (hs : starEach (e :: es) X.env = (false, eval e X.env) :: starEach es X.env := by rfl) (hplain : (backTo cpos (starEach es X.env)).any (·.1) = false := by rfl) :
    PE X (.Call (.Attribute o name apos) (e :: es) [] cpos) (tBMT r to t) := by
  refine ⟨fun pins s σ H Q I h => ?_⟩
  refine wpAny_Call_method_late hbase hfew hline rfl (thn (ho.run pins s σ H _ I h) fun v s1 ⟨x, H1, I1, r1, ty, q1⟩ => ?_)
  obtain ⟨p, ob, vs, rfl, hp, hd, hc⟩ := ty
  cases r1
  have hg : s1.heap.get? p = some ob := (I1.hok p _ hp).1
  refine ⟨"tuple", id, PySem.F.plainAttrs_tuple, slot, hty, ⟨ob, hg, hc⟩, fun a e => by cases e; exact ⟨ob, hg, hd⟩, ?_⟩
  have hA := ha.run cpos pins s1 σ H1 _ I1 q1
  rw [hs] at hA ⊢
  refine Calls.callWith_builtin (by show (false || (backTo cpos (starEach es X.env)).any (·.1)) = false; rw [hplain] <;> rfl) (Calls.evalArgs_plain ?_)
  exact thn hA fun us s2 ⟨vs, H2, I2, r2, q2⟩ => hm pins s2 σ H2 (.ref p) vs _ us Q I2 rfl r2 q2
def rCntT (K : PySem.W.Frag) : V → List V → Hp → VK → Prop := fun x xs H Q => ∃ (p : Addr) (ns : List Int) (k : Int), x = .ref p ∧ xs = [.int k] ∧ SqT K H p (ns.map V.int) ∧ Q (.int (ns.count k : Nat)) H
theorem mt_tcount : MtR X "tuple.count" (rCntT X.K) := by
  intro pins s σ H x xs v us Q I rx rxs h
  obtain ⟨p, ns, k, rfl, rfl, hs, q⟩ := h
  cases rx
  obtain ⟨u, rfl, ru⟩ := rxs.one
  obtain ⟨t, rfl⟩ := ru
  obtain ⟨its, rv, ⟨⟨cls, dd, data, sl⟩, ho, hc, n, hd⟩, hlen⟩ := I.tuple hs
  simp only at hc hd
  subst hc hd
  have hi := ints_of_vals rv
  refine call_meets PySem.F.slot_tuple_count ⟨_, ho, rfl⟩ PySem.F.entry_tuple_count (PySem.F.args_tuple_count_2 _ _)
    (SeqAt.tuple_countAt p its.toArray n dd sl (.int k t) (eqk k)) ⟨ho, fun y hy => (eqk_gives hi y (by simpa using hy)).at _ _, ?_⟩
  have ec : its.toArray.toList.countP (eqk k) = ns.count k := eqk_count hi
  refine ⟨.int (ns.count k : Nat), H, I.tok _, ⟨s.toks, ?_⟩, q⟩
  show Value.int ((its.toArray.toList.countP (eqk k) : Nat) : Int) s.toks = Value.int ((ns.count k : Nat) : Int) s.toks
  rw [ec]
end
section
variable {F : Fx} {X : Cx} {o e : Expr} {es : List Expr} {M M1 M2 : List Md} {ma m : VM} {ms : List VM} {da : Dn} {dA : An} {name : Str} {apos pos : Pos}
/-- the receiver ahead of the arguments and behind them: of one kind -/
def isSq : D → Bool
  | .lst _ => true
  | .tup _ => true
  | _ => false
def methD (op : D → List D → Rs D) (ma : VM) (a : Dn) (as : An) : Dn := fun Γ => a Γ >>= fun x => if isSq (rd x.2 x.1 ma) then as x.2 >>= fun y => (if isLst (rd x.2 x.1 ma) = isLst (rd y.2 x.1 ma) then op (rd y.2 x.1 ma) y.1 >>= fun z => .ok (z, y.2) else nope) else nope
def cntM (d : D) (as : List D) : Rs D := match itemsD d, as with
  | some ds, [.int k] => (match intsOf ds with
    | some ns => .ok (.int (ns.count k : Nat))
    | none => nope)
  | _, _ => nope
theorem cntM_ok {d : D} {as : List D} {z : D} (h : cntM d as = .ok z) : ∃ ds k ns, itemsD d = some ds ∧ as = [.int k] ∧ intsOf ds = some ns ∧ z = .int (ns.count k : Nat) := by
  unfold cntM at h
  split at h
  · split at h
    · rename_i h1 _ _ h2
      cases h
      exact ⟨_, _, _, h1, rfl, h2, rfl⟩
    · cases h
  · cases h
theorem HV.isF {c : Ct} {B H : Hp} {v : V} {ds : List D} (e : Sub B H) (h : HV c B H v (.tup ds)) : IsF v H := by
  obtain ⟨p, ob, vs, rfl, hp, h1, h2, _⟩ := h.tup e
  exact ⟨p, ob, vs, rfl, hp, h1, h2⟩
theorem je_count (ho : JE F X o M M1 ma da) (ha : JA F X [e] M1 M2 ms dA) (ka : VMok M2 ma := by first | trivial | rfl) (hf : allFz ms = true := by rfl)
    (hbase : attributeBase o "count" X.env (eval o X.env) = eval o X.env := by rfl)
    (hfew : ((backTo pos (starEach [e] X.env)).all (fun x => !x.1) && (backToKw pos (keywordEach [] X.env)).all (fun x => x.1.isSome)
      && decide (([e] : List Expr).length + ([] : List Keyword).length + (if ([] : List Keyword).isEmpty then 0 else 1) < 30)) = true := by rfl)
    (hline : (apos.endLine == pos.line) = true := by rfl) (hs : starEach [e] X.env = (false, eval e X.env) :: starEach [] X.env := by rfl) (hplain : (backTo pos (starEach [] X.env)).any (·.1) = false := by rfl) :
    JE F X (.Call (.Attribute o "count" apos) [e] [] pos) M M2 .fz (methD cntM ma da dA) := by
  refine pe_imp (pe_or (pe_bm PySem.F.plainAttrs_list PySem.F.slot_list_count PySem.F.type_list_count mt_lcount ho ha hbase hfew hline hs hplain) (pe_bmT PySem.F.slot_tuple_count PySem.F.type_tuple_count mt_tcount ho ha hbase hfew hline hs hplain))
    fun σ H Q ⟨P, B, S, R, io, eM, po⟩ => ?_
  -- which kind it is
  unfold methD at po
  cases hda : da (dts S) with
  | error er =>
    rw [hda] at po
    refine .inl ⟨P, B, S, R, io, eM, ?_⟩
    rw [hda]
    cases er with
    | bad => exact post_nope po
    | exc x p => exact po
  | ok x =>
    rw [hda] at po
    have po : PostG F P S B H (if isSq (rd x.2 x.1 ma) then dA x.2 >>= fun y => (if isLst (rd x.2 x.1 ma) = isLst (rd y.2 x.1 ma) then cntM (rd y.2 x.1 ma) y.1 >>= fun z => .ok (z, y.2) else nope) else nope) (KE F P σ M2 .fz S B H Q) := po
    by_cases hsq : isSq (rd x.2 x.1 ma) = true
    case neg =>
      rw [if_neg hsq] at po
      exact post_nope po
    rw [if_pos hsq] at po
    have core : ∀ (w : Bool), isLst (rd x.2 x.1 ma) = w → ∀ v B1 H1 S1, SR F.c P B1 σ H1 S1 → mds S1 = M1 → dts S1 = x.2 → Step S S1 B B1 H H1 → VR F.c H B1 H1 S1 v x.1 ma →
        tA F M1 M2 ms dA σ H1 fun xs H2 => (if w then rCntI X.K v xs H2 Q else rCntT X.K v xs H2 Q) := by
      intro w hw v B1 H1 S1 R1 e1 g1 s1 w1
      refine ⟨P, B1, S1, R1, io, e1, ?_⟩
      rw [g1]
      refine (PostG.step s1 (fun z k => k) po).bind fun y _ po => ?_
      intro us B2 H2 S2 R2 e2 g2 s2 w2
      rw [hw] at po
      split at po
      case isFalse => exact post_nope po
      rename_i hw2
      have hv := VR.hv R2 (w1.step R1 R2 s2 (by rw [e2]; exact ka))
      rw [g2] at hv
      cases hz : cntM (rd y.2 x.1 ma) y.1 with
      | error er =>
        rw [hz] at po
        cases er with
        | bad => exact post_nope po
        | exc a b =>
          unfold cntM at hz
          split at hz
          · split at hz
            · cases hz
            · cases hz
          · cases hz
      | ok z =>
        rw [hz] at po
        have po : KE F P σ M2 .fz S B H Q (z, y.2) := po
        obtain ⟨ds, k, ns, h1, h2, h3, rfl⟩ := cntM_ok hz
        have ra := w2.reps hf
        rw [h2] at ra
        have hus : us = [.int k] := by
          cases ra with
          | cons r t => cases t; rw [r.int_iff]
        have fin : Q (.int (ns.count k : Nat)) H2 := po _ B2 H2 S2 R2 e2 g2 (s1.trans s2) (.int _)
        cases q : rd y.2 x.1 ma with
        | lst xs =>
          rw [q] at h1 hw2 hv
          obtain rfl := Option.some.inj h1
          obtain ⟨p, vs, rfl, hp, r⟩ := hv.lst R2.ext
          have : w = true := hw2
          subst this
          rw [if_pos rfl]
          exact ⟨p, ns, k, rfl, hus, by rw [← intsOf_rep h3 r]; exact .inl (.inl hp), fin⟩
        | tup xs =>
          rw [q] at h1 hw2 hv
          obtain rfl := Option.some.inj h1
          obtain ⟨p, ob, vs, rfl, hp, _, _, r⟩ := hv.tup R2.ext
          have : w = false := hw2
          subst this
          rw [if_neg Bool.false_ne_true]
          exact ⟨p, ns, k, rfl, hus, by rw [← intsOf_rep h3 r]; exact .inl (.inr ⟨ob, hp⟩), fin⟩
        | _ =>
          rw [q] at h1
          cases h1
    cases hk : rd x.2 x.1 ma with
    | lst xs =>
      refine .inl ⟨P, B, S, R, io, eM, ?_⟩
      rw [hda]
      intro v B1 H1 S1 R1 e1 g1 s1 w1
      have hv := VR.hv R1 w1
      rw [g1, hk] at hv
      obtain ⟨p, vs, rfl, hp, r⟩ := hv.lst R1.ext
      exact ⟨.inl ⟨rfl, _, .inl (.inl hp)⟩, core true (by rw [hk]; rfl) _ B1 H1 S1 R1 e1 g1 s1 w1⟩
    | tup xs =>
      refine .inr ⟨P, B, S, R, io, eM, ?_⟩
      rw [hda]
      intro v B1 H1 S1 R1 e1 g1 s1 w1
      have hv := VR.hv R1 w1
      rw [g1, hk] at hv
      exact ⟨hv.isF R1.ext, core false (by rw [hk]; rfl) _ B1 H1 S1 R1 e1 g1 s1 w1⟩
    | _ =>
      rw [hk] at hsq
      cases hsq
end

/-! ### sets that are counted -/
def nub : List Int → List Int
  | [] => []
  | x :: xs => if x ∈ xs then nub xs else x :: nub xs
theorem mem_nub {k : Int} : ∀ {l : List Int}, k ∈ nub l ↔ k ∈ l
  | [] => Iff.rfl
  | x :: xs => by
    unfold nub
    split
    · rename_i h
      rw [mem_nub, List.mem_cons]
      exact ⟨.inr, fun z => z.elim (fun e => by rw [e]; exact h) id⟩
    · rw [List.mem_cons, List.mem_cons, mem_nub]
theorem nub_nodup : ∀ l : List Int, (nub l).Nodup
  | [] => List.nodup_nil
  | x :: xs => by
    unfold nub
    split
    · exact nub_nodup xs
    · rename_i h
      exact List.nodup_cons.mpr ⟨fun z => h (mem_nub.mp z), nub_nodup xs⟩
theorem nub_len {l ns : List Int} (h : l.Nodup) (k : ∀ x, x ∈ l ↔ x ∈ ns) : l.length = (nub ns).length :=
  ((List.perm_ext_iff_of_nodup h (nub_nodup ns)).mpr fun x => (k x).trans mem_nub.symm).length_eq
section
variable {F : Fx} {X : Cx} {a : Expr} {M M1 : List Md} {da : Dn}
/-- len(set(xs)), xs a tuple of ints -/
def tLenSetI (K : PySem.W.Frag) (ta : TE) : TE := fun σ H Q => ta σ H fun x H1 => ∃ (l : Addr) (ns : List Int), x = .ref l ∧ SqT K H1 l (ns.map V.int) ∧ ns.length ≤ 1000 ∧ Q (.int (nub ns).length) H1
theorem pe_lenSetI {ta : TE} {p p2 q pos : Pos} (hc : X.calm = true) (hg : Gl X "len") (hm : X.mg "len" = none) (hg2 : Gl X "set") (hm2 : X.mg "set" = none) (ha : PE X a ta)
    (na : starEach [a] X.env = (false, eval a X.env) :: starEach [] X.env := by rfl) : PE X (.Call (.Name "len" p) [.Call (.Name "set" p2) [a] [] q] [] pos) (tLenSetI X.K ta) := by
  refine ⟨fun pins s σ H Q I h => ?_⟩
  refine Call_ (ld_blt I hg hm boot_len ?_)
  refine PyProof.Rows.callWith_builtin1 (PyProof.Rows.args_cons ?_ rfl) rfl rfl
  refine Call_ (ld_blt I hg2 hm2 PyProof.Rows.boot_set ?_)
  refine PyProof.Rows.callWith_type1 (PyProof.Rows.args_cons (thn (ha.run pins s σ H _ I h) fun v s1 ⟨x, H1, I1, r1, q1⟩ => PyProof.Rows.args_nil ?_) na) na rfl
  obtain ⟨l, ns, rfl, hq, h1, q1⟩ := q1
  cases r1
  obtain ⟨its, rv, pt, hz⟩ := I1.tuple hq
  have hi : IntsAre its.toArray.toList ns := ints_of_vals rv
  refine call_set_tupI ns (I1.ok.hd hc) (show s1.heap.IsTuple l its.toArray from pt) hi (by unfold scanBound; omega) fun h' tk c R1 hcn k => ?_
  refine PyProof.Rows.args_nil ?_
  obtain ⟨o, es, ep, t, ho, hex, hdt, g, nd, hm2, hb, hf, hn, hr, hl2⟩ := R1
  have I2 : Inv X pins σ H1 { s1 with heap := h', toks := tk } := I1.kept fun b o e => k b o e
  have hl : es.size = (nub ns).length := by
    rw [← nub_len nd fun x => (hm2 x).symm.trans decide_eq_true_iff, List.length_map, Array.length_toList]
  refine call_len_set ho hex hdt hf (by rw [hn] <;> omega) ⟨.int (nub ns).length, H1, I2.tok _, ⟨_, by rw [hl]⟩, q1⟩
def lenSetD (d : D) : Rs D := match d with
  | .tup ds => (match intsOf ds with
    | some ns => if ns.length ≤ 1000 then .ok (.int (nub ns).length) else nope
    | none => nope)
  | _ => nope
theorem je_lenSet {p p2 q pos : Pos} (hc : X.calm = true) (hg : Gl X "len") (hm : X.mg "len" = none) (hg2 : Gl X "set") (hm2 : X.mg "set" = none) (ha : JE F X a M M1 .fz da)
    (na : starEach [a] X.env = (false, eval a X.env) :: starEach [] X.env := by rfl) : JE F X (.Call (.Name "len" p) [.Call (.Name "set" p2) [a] [] q] [] pos) M M1 .fz (unD lenSetD .fz da) :=
  pe_imp (pe_lenSetI hc hg hm hg2 hm2 ha na) fun σ H Q h => un_at (m := .fz) (r := fun x H1 Q => ∃ (l : Addr) (ns : List Int), x = .ref l ∧ SqT X.K H1 l (ns.map V.int) ∧ ns.length ≤ 1000 ∧ Q (.int (nub ns).length) H1) (fun P B σ H S x d Q R hv po => by
    unfold lenSetD at po
    split at po
    · split at po
      · rename_i hn
        split at po
        · rename_i hl
          obtain ⟨p, ob, vs, rfl, hp, _, _, r⟩ := hv.tup R.ext
          exact ⟨p, _, rfl, by rw [← intsOf_rep hn r]; exact .inl (.inr ⟨ob, hp⟩), hl, as_is R (.int _) po⟩
        · exact post_nope po
      · exact post_nope po
    · exact post_nope po) h
end
end DL

set_option Elab.async false
set_option linter.all false
set_option maxRecDepth 100000
set_option maxHeartbeats 4000000
/-! DL, part 9: dicts, enumerate. -/
namespace DL
open PySem PySem.Spec PyProof.Rows L2

/-! ### dicts -/
def keyD : D → Option Key
  | .int i => some (.inl i)
  | .str x => some (.inr x)
  | _ => none
def valK {α : Type} (kvs : List (Key × α)) (k : Key) : Option α := (kvs.find? fun kv => decide (kv.1 = k)).map (·.2)
def putD {α : Type} (kvs : List (Key × α)) (k : Key) (v : α) : List (Key × α) :=
  if (kvs.any fun kv => decide (kv.1 = k)) = true then kvs.map (fun kv => if kv.1 = k then (kv.1, v) else kv) else kvs ++ [(k, v)]
theorem keyD_kV {c : Ct} {B H : Hp} {v : V} {d : D} {k : Key} (h : HV c B H v d) (e : keyD d = some k) : v = kV k := by
  cases d with
  | int i => cases e; exact h.int
  | str x => cases e; exact h.str
  | _ => cases e
section
variable {c : Ct} {B : Hp}
theorem RepK.val {k : Key} : ∀ {vs : List (Key × V)} {ds : List (Key × D)}, RepK c B vs ds → (valK ds k = none ∧ valV vs k = none) ∨ ∃ d v, valK ds k = some d ∧ valV vs k = some v ∧ Rep c B v d
  | _, _, .nil => .inl ⟨rfl, rfl⟩
  | _, _, .cons (k := k0) (v := v) (d := d) r t => by
    by_cases e : k0 = k
    · exact .inr ⟨d, v, by simp [valK, List.find?_cons, e], by simp [valV, List.find?_cons, e], r⟩
    · rcases RepK.val (k := k) t with ⟨h1, h2⟩ | ⟨d', v', h1, h2, h3⟩
      · exact .inl ⟨by simpa [valK, List.find?_cons, e] using h1, by simpa [valV, List.find?_cons, e] using h2⟩
      · exact .inr ⟨d', v', by simpa [valK, List.find?_cons, e] using h1, by simpa [valV, List.find?_cons, e] using h2, h3⟩
theorem RepK.length : ∀ {vs : List (Key × V)} {ds : List (Key × D)}, RepK c B vs ds → vs.length = ds.length
  | _, _, .nil => rfl
  | _, _, .cons _ t => by rw [List.length_cons, List.length_cons, RepK.length t]
theorem RepK.any {k : Key} : ∀ {vs : List (Key × V)} {ds : List (Key × D)}, RepK c B vs ds → (vs.any fun kv => decide (kv.1 = k)) = ds.any fun kv => decide (kv.1 = k)
  | _, _, .nil => rfl
  | _, _, .cons _ t => by rw [List.any_cons, List.any_cons, RepK.any t]
theorem RepK.mapPut {k : Key} {v : V} {d : D} (r0 : Rep c B v d) : ∀ {vs : List (Key × V)} {ds : List (Key × D)}, RepK c B vs ds → RepK c B (vs.map fun kv => if kv.1 = k then (kv.1, v) else kv) (ds.map fun kv => if kv.1 = k then (kv.1, d) else kv)
  | _, _, .nil => .nil
  | _, _, .cons (k := k0) r t => by
    rw [List.map_cons, List.map_cons]
    by_cases e : k0 = k
    · simp only [e, if_true]
      exact .cons r0 (RepK.mapPut r0 t)
    · simp only [e, if_false]
      exact .cons r (RepK.mapPut r0 t)
theorem RepK.append : ∀ {vs ws : List (Key × V)} {ds es : List (Key × D)}, RepK c B vs ds → RepK c B ws es → RepK c B (vs ++ ws) (ds ++ es)
  | _, _, _, _, .nil, k => k
  | _, _, _, _, .cons h t, k => .cons h (RepK.append t k)
theorem RepK.put {vs : List (Key × V)} {ds : List (Key × D)} {k : Key} {v : V} {d : D} (r : RepK c B vs ds) (r0 : Rep c B v d) : RepK c B (putK vs k v) (putD ds k d) := by
  unfold putK putD
  rw [r.any]
  split
  · exact r.mapPut r0
  · exact r.append (.cons r0 .nil)
end
section
variable {F : Fx} {X : Cx} {a b e o : Expr} {es : List Expr} {M M1 M2 M3 : List Md} {m ma mb rm : VM} {ms : List VM} {da db dd : Dn} {dA : An} {pos apos : Pos} {k : Nat}
theorem room_un (hr : Room k X.A) : X.A.units + 1 < cLine := by have := hr.un; omega
def dgetD (d i : D) : Rs D := match d, keyD i with
  | .dic kvs, some k => (match valK kvs k with
    | some z => .ok z
    | none => nope)
  | _, _ => nope
theorem je_dget (hr : Room k X.A) (ha : JE F X a M M1 ma da) (hb : JE F X b M1 M2 mb db) (ka : VMok M2 ma := by first | trivial | rfl) (hs : NoSl b := by exact fun _ _ => rfl) : JE F X (.Subscript a b pos) M M2 .fz (binD dgetD ma mb da db) := by
  refine pe_imp (pe_dget (room_un hr) ha hb hs) fun σ H Q h => OpS.at2 (r := fun x y H2 Q => ∃ a v, x = .ref a ∧ DGet H2 a y (some v) ∧ Q v H2) (fun P B σ H S x y d e Q R hx hy po => ?_) ka h
  unfold dgetD at po
  split at po
  · rename_i kvs k hk
    split at po
    · rename_i z hz
      obtain ⟨p, vs, rfl, hp, r⟩ := hx.dic R.ext
      rcases r.val (k := k) with ⟨h1, _⟩ | ⟨d, v, h1, h2, h3⟩
      · rw [h1] at hz; cases hz
      · rw [h1] at hz
        cases hz
        refine ⟨p, v, rfl, ?_, as_is R h3 po⟩
        rw [keyD_kV hy hk, ← h2]
        exact DGet.k hp
    · exact post_nope po
  · exact post_nope po
def dinD (i d : D) : Rs D := match d, keyD i with
  | .dic kvs, some k => .ok (.bl (valK kvs k).isSome)
  | _, _ => nope
def dnotInD (i d : D) : Rs D := match d, keyD i with
  | .dic kvs, some k => .ok (.bl (!(valK kvs k).isSome))
  | _, _ => nope
theorem RepK.isSome {c : Ct} {B : Hp} {vs : List (Key × V)} {ds : List (Key × D)} {k : Key} (r : RepK c B vs ds) : (valV vs k).isSome = (valK ds k).isSome := by
  rcases r.val (k := k) with ⟨h1, h2⟩ | ⟨_, _, h1, h2, _⟩ <;> rw [h1, h2] <;> rfl
theorem o_din (hr : Room k X.A) : OpS F X (compareOp .In) .fz dinD := by
  refine ⟨fun y x H Q => ∃ a o, x = .ref a ∧ DGet H a y o ∧ Q (.bl o.isSome) H, fun pins s σ H x y v u Q I rx ry ⟨a, o, ex, g, q⟩ => ?_, fun P B σ H S x y d e Q R hx hy po => ?_⟩
  · subst ex
    obtain rfl : u = Value.ref a := ry
    exact d_in (room_un hr) I g rx fun s3 I3 => ⟨.bl o.isSome, H, I3, rfl, q⟩
  · unfold dinD at po
    split at po
    · rename_i kvs k hk
      obtain ⟨p, vs, rfl, hp, r⟩ := hy.dic R.ext
      refine ⟨p, valV vs k, rfl, by rw [keyD_kV hx hk]; exact DGet.k hp, ?_⟩
      rw [r.isSome]
      exact as_is R (.bl _) po
    · exact post_nope po
theorem o_dnotIn (hr : Room k X.A) : OpS F X (compareOp .NotIn) .fz dnotInD := by
  refine ⟨fun y x H Q => ∃ a o, x = .ref a ∧ DGet H a y o ∧ Q (.bl (!o.isSome)) H, fun pins s σ H x y v u Q I rx ry ⟨a, o, ex, g, q⟩ => ?_, fun P B σ H S x y d e Q R hx hy po => ?_⟩
  · subst ex
    obtain rfl : u = Value.ref a := ry
    exact d_notIn (room_un hr) I g rx fun s3 I3 => ⟨.bl (!o.isSome), H, I3, rfl, q⟩
  · unfold dnotInD at po
    split at po
    · rename_i kvs k hk
      obtain ⟨p, vs, rfl, hp, r⟩ := hy.dic R.ext
      refine ⟨p, valV vs k, rfl, by rw [keyD_kV hx hk]; exact DGet.k hp, ?_⟩
      rw [r.isSome]
      exact as_is R (.bl _) po
    · exact post_nope po
/-- x[k] = e, x the i-th slot's own dict -/
def isDic : D → Bool
  | .dic _ => true
  | _ => false
def dputS (i : Nat) (a b : Dn) : Sn := fun Γ => a Γ >>= fun x => b x.2 >>= fun y => match y.2.getD i .non, keyD y.1 with
  | .dic kvs, some k => if kvs.length < szl then .ok (.nx (y.2.set i (.dic (putD kvs k x.1)))) else nope
  | _, _ => nope
theorem dic_of {c : Ct} {B : Hp} {o : HO} {ds : List (Key × D)} (r : ORep c B o (.dic ds)) : ∃ vs, o = .dK vs ∧ RepK c B vs ds := by
  cases r with
  | dic r => exact ⟨_, rfl, r⟩
theorem js_dput {i : Nat} {Mb Mc : List Md} {p2 : Pos} (hr : Room k X.A) (h : JE F X e M M1 .fz da) (ho : PE X o (tVar i)) (hM : M1[i]? = some .ow) (hb : JE F X b M1 M2 .fz db) (hM2 : M2[i]? = some .ow := by rfl)
    (hs : swapsWith e (some (.Subscript o b p2)) pos.line X.env = pure false := by rfl) : JS F X (.Assign [.Subscript o b p2] e pos) M M2 Mb Mc rm (dputS i da db) :=
  ps_imp (ps_dput (room_un hr) ho hb h hs) fun E σ H ⟨P, B, S, R, io, eM, po⟩ => by
    refine ⟨P, B, S, R, io, eM, po.bind fun x _ po => ?_⟩
    intro v B1 H1 S1 R1 e1 g1 s1 w1
    obtain ⟨l, d, ob, hs1, hσ, hd, hl, hbn, hrep, hmu⟩ := own_at R1 e1 hM
    refine ⟨.ref l, hσ, P, B1, S1, R1, io, e1, ?_⟩
    rw [g1]
    refine (PostG.step s1 (fun z k => k) po).bind fun y _ po => ?_
    intro w B2 H2 S2 R2 e2 g2 s2 w2
    obtain ⟨l1, d1, ob1, hs2, hσ1, hd1, hl1, hb1, hrep1, hmu1⟩ := own_at R2 e2 hM2
    rw [hσ] at hσ1
    cases hσ1
    rw [← g2, hd1] at po
    split at po
    · rename_i kvs k hk
      split at po
      · rename_i hlen
        obtain ⟨vs, rfl, r1⟩ := dic_of hrep1
        have hw : w = kV k := keyD_kV (H := H2) (.inl w2) hk
        obtain ⟨R3, s3, e3, g3⟩ := own_upd R2 hs2 hl1 hb1 hmu1 (.dic (r1.put (k := k) (Rep.mono s2.grow w1))) rfl
        refine ⟨l, _, rfl, by rw [hw]; exact DPut.k hl1 (by rw [r1.length, szl_eq]; exact hlen), ?_⟩
        refine po σ B2 _ _ R3 (e3.trans e2) ?_ ((s1.trans s2).trans s3)
        rw [g3]
      · exact post_nope po
    · exact post_nope po
end

/-! ### enumerate(tuple) -/
open PySem.AutoSeq1 in
theorem meets_enum_newB1 {v : Value} {o : Obj} {H : Heap → Prop} (B : Begins v o H) :
    Meets (Builtin.«enumerate.__new__» ⟨[.type "enumerate", v], []⟩) (fun _ R s => H s.heap ∧
      R (.ok (.ret (.ref (s.heap.push o).objs.size))) { s with heap := (s.heap.push o).push { cls := .type "enumerate", data := .fields #[.none, .bool false, .ref s.heap.objs.size, rawInt 0, .none, .none] } }) :=
  .of_wp fun prog w A R s h => by
    obtain ⟨hp, g, d, tk, os⟩ := s; obtain ⟨h1, h⟩ := h
    have hsub := sub_enumerate
    have q1 : ∀ {A' : Around} {E : Value → Shared → Prop} {Q : Value → Shared → Prop}, Q (.ref hp.objs.size) ⟨hp.push o, g, d, tk, os⟩ → wpAny (model prog w) A' (pyIter v) Q E ⟨hp, g, d, tk, os⟩ :=
      fun q => B.iter prog w _ _ ⟨hp, g, d, tk, os⟩ _ h1 q
    wp_walk using q1
    refine wpAny_stack_any fun st => wpAny_pure ?_
    split
    · rename_i c _ _ _ _ _
      cases (c == Value.type "enumerate")
      · wp_walk using q1
        exact ⟨_, rfl, h⟩
      · wp_walk using q1
        exact ⟨_, rfl, h⟩
    · wp_walk using q1
      exact ⟨_, rfl, h⟩
section
variable {prog : Program} {w : World} {A : Around} {E : Value → Shared → Prop} {s : Shared}
theorem enum_begins1 {v : Value} {o : Obj} {H : Heap → Prop} {Q : Value → Shared → Prop} (B : Begins v o H) (h1 : H s.heap)
    (h : ∀ h', IsEnum h' (s.heap.objs.size + 1) s.heap.objs.size 0 .none → h'.get? s.heap.objs.size = some o → h'.objs.size = s.heap.objs.size + 2 →
      (∀ b o, s.heap.get? b = some o → h'.get? b = some o) → Q (.ref (s.heap.objs.size + 1)) { s with heap := h' }) :
    wpAny (model prog w) A (call (.type "enumerate") [v]) Q E s := by
  refine callType_new PySem.F.called_enumerate (by decide) (PySem.F.typeCall_enumerate_1 _) (PySem.F.newCall_enumerate_1 _) (fun obj => PySem.F.args_object_init_2 obj _) PySem.F.entry_enumerate_new
    (meets_enum_newB1 B) ⟨h1, ?_⟩
  have hz : (s.heap.push o).objs.size = s.heap.objs.size + 1 := Heap.size_push ..
  show _ ∧ _
  rw [hz]
  have he : IsEnum ((s.heap.push o).push { cls := .type "enumerate", data := .fields #[.none, .bool false, .ref s.heap.objs.size, rawInt 0, .none, .none] }) (s.heap.objs.size + 1) s.heap.objs.size 0 .none := by
    have := Heap.get?_push_size (s.heap.push o) (o := { cls := .type "enumerate", data := .fields #[.none, .bool false, .ref s.heap.objs.size, rawInt 0, .none, .none] }) rfl
    rw [hz] at this; exact this
  refine ⟨⟨_, he, rfl⟩, h _ he (Heap.get?_push_of_some _ (Heap.get?_push_size _ B.free)) (by rw [Heap.size_push, hz]) fun b o x => Heap.get?_push_of_some _ (Heap.get?_push_of_some _ x)⟩
end
def IteT (K : PySem.W.Frag) (a : Addr) : It :=
  ⟨fun i H => ∃ (xs : List V) (x : V), SqT K H a xs ∧ xs[i]? = some x, fun i H v H' => ∃ T x, v = .ref T ∧ H T = none ∧ H' = upd H T (.tup [.int (i : Nat), x]) ∧ ∀ xs, SqT K H a xs → xs[i]? = some x, fun i H => ∃ xs : List V, SqT K H a xs ∧ xs.length = i⟩
theorem tup_inj {X : Cx} {pins : List (Addr × Obj)} {σ : L2.St} {H : Hp} {s : Shared} {a : Addr} {xs ys : List V} (I : Inv X pins σ H s) (h : SqT X.K H a xs) (h' : SqT X.K H a ys) : xs = ys := by
  first
  | exact I.tuple_inj h h'
  | exact I.tup_inj h h'
theorem turn_enumT {P : Program} {w : World} {K : PySem.W.Frag} {elts : List Expr} {kk : Nat} {tpos : Pos} (a e it : Addr) :
    Turn P w K (.Tuple elts kk tpos) (IteT K a) [e, it] e (fun i h => (∃ old, IsEnum h e it ((i : Nat) : Int) old) ∧ h.IsTupleIter it a i ∧ e ≠ it ∧ a ≠ it ∧ a ≠ e) where
  mem := by simp
  obj := fun i h st b hb => by
    obtain ⟨⟨old, he⟩, ⟨o, ho, hc, hd⟩, _⟩ := st
    have e' : b = e ∨ b = it := by simpa using hb
    rcases e' with z | z
    · rw [z]; exact ⟨_, he, fun v q => nomatch q⟩
    · rw [z]; exact ⟨o, ho, fun v q => by rw [hd] at q; cases q⟩
  keep := fun i h h' st k => let ⟨⟨old, he⟩, hi, hne⟩ := st; ⟨⟨old, k e (by simp) _ he⟩, hi.at fun o q => k it (by simp) o q, hne⟩
  item := by
    intro X hP hw hK hc i pins s σ H E I hf st hg
    subst hP hw hK
    obtain ⟨⟨old, he⟩, hit, hne, hai, hae⟩ := st
    obtain ⟨xs, x, hq, hx⟩ := hg
    obtain ⟨its, rv, p, hz⟩ := I.tuple hq
    obtain ⟨u, hu, ru⟩ := rv.get hx
    have hel : e < s.heap.objs.size := Heap.lt_size he
    have hil : it < s.heap.objs.size := by obtain ⟨_, q, _⟩ := hit; exact Heap.lt_size q
    have hlt : i < its.toArray.size := by
      have := (List.getElem?_eq_some_iff.mp hu).1
      simpa using this
    have pT : s.heap.IsTuple a its.toArray := p
    refine wpAny_pyNext_enum_itemC (Draws.tuple (A := X.A.in1) (I.ok.hd hc) it a hai its.toArray) he ⟨hit, pT⟩ hlt hne (by
      intro z
      rcases List.mem_cons.mp z with z | z
      · exact hne z
      · exact hae (List.mem_singleton.mp z).symm) fun x' h' tk hP ho hst hT hsz hk => ?_
    have ex : x' = u := by
      have : its.toArray[i]? = some x' := hP
      rw [List.getElem?_toArray, hu] at this
      exact (Option.some.inj this).symm
    subst ex
    refine ⟨_, rfl, wpAny_letOwnedTupleGo_enum (s := { s with heap := h', toks := tk + 1 }) ho fun h'' he' sb => ?_⟩
    have hT2 : h''.get? s.heap.objs.size = some { cls := .type "tuple", data := .seq #[.int i tk, x'] } := (sb.2 _ (Nat.ne_of_gt hel)).trans hT
    have new : ObjOk X.prog X.w (upd H s.heap.objs.size (.tup [.int (i : Nat), x])) h'' s.heap.objs.size (.tup [.int (i : Nat), x]) :=
      ⟨by show 2 ≤ sizeLine; decide, [.int i tk, x'], .cons ⟨_, rfl⟩ (.cons ru .nil), ⟨_, hT2, rfl, _, rfl⟩⟩
    have I1 : Inv X pins σ (upd H s.heap.objs.size (.tup [.int (i : Nat), x])) { s with heap := h'', toks := tk + 1 } :=
      I.turnedNew (ch := [e, it]) (fun b ob hb q => (sb.2 b (fun z => hb (by simp [z]))).trans (hk b ob (fun z => hb (by simp [z])) (fun z => hb (by simp [z])) q)) hf (Nat.le_refl _) new
    refine ⟨.ref s.heap.objs.size, _, I1, rfl, ⟨_, x, rfl, I.hok.fresh (Nat.le_refl _), rfl, fun ys hy => by rw [tup_inj I hy hq]; exact hx⟩, ⟨⟨x', ?_⟩, hst.1.at fun o q => (sb.2 it (Ne.symm hne)).trans q, hne, hai, hae⟩, fun b hb => ?_⟩
    · have e1 : ((i + 1 : Nat) : Int) = (i : Int) + 1 := by omega
      rw [e1]; exact he'
    · have hb' : b < s.heap.objs.size := by
        have e' : b = e ∨ b = it := by simpa using hb
        rcases e' with z | z
        · rw [z]; exact hel
        · rw [z]; exact hil
      rw [upd_ne (Nat.ne_of_lt hb')]
      exact (hf b hb).1
  done := by
    intro X hP hw hK hc i pins s σ H E I hf st hg
    subst hP hw hK
    obtain ⟨⟨old, he⟩, hit, hne, hai, hae⟩ := st
    obtain ⟨xs, hq, hx⟩ := hg
    obtain ⟨its, rv, p, hz⟩ := I.tuple hq
    obtain ⟨f0, f1, f2, f3, f4, f5⟩ := hf it (by simp)
    have hl := rv.length
    have ei : i = its.toArray.size := by rw [List.size_toArray]; omega
    subst ei
    exact wpAny_pyNext_enum_endD (Draws.tuple (A := X.A.in1) (I.ok.hd hc) it a hai its.toArray) he ⟨hit, p⟩ fun h' eb => ⟨rfl, I.turned (t' := s.toks) (fun b o hb q => eb b o hb q) f0 f1 f3 f4 f5⟩
  self := fun A i s Q E st h => let ⟨⟨_, he⟩, _⟩ := st; wpAny_pyIter_enum he h
def iEnumT (K : PySem.W.Frag) (ta : TA) : TI := fun σ H R => ta σ H fun vs H1 => ∃ a xs, vs = [.ref a] ∧ SqT K H1 a xs ∧ R (IteT K a) H1
theorem pi_enumT {X : Cx} {e : Expr} {ta : TA} {p pos tpos : Pos} {elts : List Expr} {kk : Nat} (hg : Gl X "enumerate") (hm : X.mg "enumerate" = none) (ha : PA X [e] ta) (hs : starEach [e] X.env = [(false, eval e X.env)] := by rfl) :
    PI X (.Tuple elts kk tpos) (.Call (.Name "enumerate" p) [e] [] pos) (iEnumT X.K ta) := by
  refine ⟨fun pins s σ H R I h => ?_⟩
  refine Call_ (ld_blt I hg hm boot_enumerate (PyProof.Rows.callWith_type1 (thn (ha.run pos pins s σ H _ I h) fun us s1 ⟨vs, H1, I1, r1, q1⟩ => ?_) hs rfl))
  obtain ⟨a, xs, ex, hq, q⟩ := q1
  subst ex
  cases r1 with
  | cons r rr =>
    cases rr
    cases r
    obtain ⟨its, rv, p', hz⟩ := I1.tuple hq
    have hlt : a < s1.heap.objs.size := p'.lt
    refine enum_begins1 (begins_tuple a its.toArray) p' fun h' he hit hsz hk => wpAny_pyIter_enum he ?_
    have I2 : Inv X pins σ H1 { s1 with heap := h' } := I1.kept (t' := s1.toks) hk
    refine ⟨s1.heap.objs.size + 1, [s1.heap.objs.size + 1, s1.heap.objs.size], _, _, H1, rfl, I2, turn_enumT a (s1.heap.objs.size + 1) s1.heap.objs.size, ⟨⟨.none, he⟩, ⟨_, hit, rfl, rfl⟩, Nat.succ_ne_self _, Nat.ne_of_lt hlt, Nat.ne_of_lt (Nat.lt_succ_of_lt hlt)⟩, fun b hb => ?_, q⟩
    have e' : b = s1.heap.objs.size + 1 ∨ b = s1.heap.objs.size := by simpa using hb
    have hle : s1.heap.objs.size ≤ b := by
      rcases e' with z | z
      · rw [z]; exact Nat.le_add_right _ _
      · rw [z]; exact Nat.le_refl _
    exact I1.fpOk hle (I1.hok.fresh hle)
theorem walk_enumT {K : PySem.W.Frag} {a : Addr} {xs : List V} : Walk (IteT K a) xs.length (fun H => SqT K H a xs) (YPair (fun i => some (.int (i : Nat))) (fun i => xs[i]?)) := by
  refine ⟨fun i _ hi q => ⟨xs, xs[i], q, by simp [hi]⟩, fun _ q => ⟨xs, q, rfl⟩, fun i H v H' _ q y => ?_⟩
  obtain ⟨T, x, h1, h2, h3, h4⟩ := y
  exact ⟨T, .int (i : Nat), x, h1, h2, h3, rfl, h4 xs q⟩
def numbered : List D → Nat → List D
  | [], _ => []
  | d :: ds, i => .tup [.int (i : Nat), d] :: numbered ds (i + 1)
theorem numbered_len : ∀ (ds : List D) (i : Nat), (numbered ds i).length = ds.length
  | [], _ => rfl
  | d :: ds, i => by show (numbered ds (i + 1)).length + 1 = _; rw [numbered_len ds (i + 1)] <;> rfl
theorem numbered_at : ∀ {ds : List D} {j i : Nat} {d : D}, ds[j]? = some d → (numbered ds i)[j]? = some (.tup [.int ((i + j : Nat) : Int), d])
  | [], j, i, d, h => by simp at h
  | x :: ds, 0, i, d, h => by
    simp at h
    subst h
    rfl
  | x :: ds, j + 1, i, d, h => by
    have := numbered_at (ds := ds) (j := j) (i := i + 1) (d := d) (by simpa using h)
    show (numbered ds (i + 1))[j]? = _
    rw [this, show i + 1 + j = i + (j + 1) by omega]
theorem wk_pair {c : Ct} {J : It} {B0 : Hp} {ds : List D} {vs : List V} {G : Hp → Prop} (w : Walk J vs.length G (YPair (fun i => some (.int (i : Nat))) (fun i => vs[i]?))) (r : RepL c B0 vs ds) (hG : ∀ H, Sub B0 H → G H) : Wk true c J B0 (numbered ds 0) := by
  have hl := r.length
  refine ⟨_, _, by rw [numbered_len, ← hl]; exact w, hG, fun i P B σ H S x H' hi R s y => ?_⟩
  obtain ⟨T, x1, x2, rfl, hT, rfl, e1, e2⟩ := y
  obtain ⟨d, hd, rd⟩ := r.getV e2
  cases e1
  refine ⟨R.new hT, Step.new S B hT, _, numbered_at hd, .inr ⟨rfl, T, [.int (i : Nat), x2], [.int (i : Nat), d], rfl, upd_same, by rw [Nat.zero_add], .cons (.int _) (.cons (rd.mono s) .nil)⟩⟩
section
variable {F : Fx} {X : Cx} {e : Expr} {M M1 : List Md} {da : Dn} {dA : An} {pos p tpos : Pos} {elts : List Expr} {kk : Nat}
def enumI (a : An) : An := fun Γ => a Γ >>= fun x => match x.1 with
  | [d] => (match itemsD d with
    | some ds => .ok (numbered ds 0, x.2)
    | none => nope)
  | _ => nope
/-- enumerate(list or tuple that stays) -/
theorem ji_enum (hg : Gl X "enumerate") (hm : X.mg "enumerate" = none) (ha : JA F X [e] M M1 [.fz] dA) (hs : starEach [e] X.env = [(false, eval e X.env)] := by rfl) :
    JI F X true (.Tuple elts kk tpos) (.Call (.Name "enumerate" p) [e] [] pos) M M1 (enumI dA) := by
  refine pi_imp (pi_or (pi_enum hg hm ha hs) (pi_enumT hg hm ha hs)) fun σ H R ⟨P, B, S, Rr, io, eM, po⟩ => ?_
  cases hd : dA (dts S) with
  | error er =>
    refine .inl ⟨P, B, S, Rr, io, eM, ?_⟩
    unfold enumI at po
    rw [hd] at po ⊢
    cases er with
    | bad => exact post_nope po
    | exc x p => exact po
  | ok x =>
    obtain ⟨x1, x2⟩ := x
    unfold enumI at po
    rw [hd] at po
    have po : PostG F P S B H (match x1 with
      | [d] => (match itemsD d with
        | some ds => .ok (numbered ds 0, x2)
        | none => nope)
      | _ => nope) (fun x => ∀ J B' H' S', SR F.c P B' σ H' S' → mds S' = M1 → dts S' = x.2 → Step S S' B B' H H' → Wk true F.c J B' x.1 → R J H') := po
    rcases x1 with _ | ⟨d, _ | ⟨d2, x1⟩⟩
    · exact post_nope po
    case cons.cons => exact post_nope po
    cases d with
    | lst xs =>
      refine .inl ⟨P, B, S, Rr, io, eM, ?_⟩
      rw [hd]
      intro vs B1 H1 S1 R1 e1 g1 s1 w1
      cases w1 with
      | cons w0 t =>
        cases t
        cases w0 with
        | ref hb ho =>
          cases ho with
          | lst r => exact ⟨_, _, rfl, .inl (.inl (R1.ext _ _ hb)), po _ B1 H1 S1 R1 e1 g1 s1 (wk_pair walk_enum r fun H h => .inl (.inl (h _ _ hb)))⟩
    | tup xs =>
      refine .inr ⟨P, B, S, Rr, io, eM, ?_⟩
      rw [hd]
      intro vs B1 H1 S1 R1 e1 g1 s1 w1
      cases w1 with
      | cons w0 t =>
        cases t
        cases w0 with
        | ref hb ho =>
          cases ho with
          | tup k1 k2 r => exact ⟨_, _, rfl, .inl (.inr ⟨_, R1.ext _ _ hb⟩), po _ B1 H1 S1 R1 e1 g1 s1 (wk_pair walk_enumT r fun H h => .inl (.inr ⟨_, h _ _ hb⟩))⟩
    | _ => exact post_nope po
end
end DL

set_option Elab.async false
set_option linter.all false
set_option maxRecDepth 100000
set_option maxHeartbeats 4000000
/-! DL, part 10: one of two readings; calls with defaults; facts. -/
namespace DL
open PySem PySem.Spec PyProof.Rows L2

def eiD (f g : D → D → Rs D) : D → D → Rs D := fun d e => match f d e with
  | .ok z => .ok z
  | .error _ => g d e
section
variable {F : Fx} {X : Cx} {a b e : Expr} {es : List Expr} {M M1 M2 M3 : List Md} {m ma mb rm : VM} {ms : List VM} {da db dd : Dn} {dA : An} {pos p : Pos} {k n : Nat} {f g : D → D → Rs D} {op : Value → Value → Sem Value}
/-- a new object is kept at once -/
theorem OpS.fz (h : OpS F X op .fr f) : OpS F X op .fz f := by
  obtain ⟨r, hr, hs⟩ := h
  refine ⟨r, hr, fun P B σ H S x y d e Q R hx hy po => hs P B σ H S x y d e Q R hx hy (po.imp fun z k v B' H' R' s' w' => ?_)⟩
  obtain ⟨B2, R2, s2, r2⟩ := w'.freeze R' s'
  exact k v B2 H' R2 s2 r2
theorem OpS.or (h : OpS F X op m f) (h' : OpS F X op m g) : OpS F X op m (eiD f g) := by
  obtain ⟨r, hr, hs⟩ := h
  obtain ⟨r', hr', hs'⟩ := h'
  refine ⟨_, opr_or hr hr', fun P B σ H S x y d e Q R hx hy po => ?_⟩
  unfold eiD at po
  split at po
  · rename_i z hz
    refine .inl (hs P B σ H S x y d e Q R hx hy ?_)
    rw [hz]
    exact po
  · exact .inr (hs' P B σ H S x y d e Q R hx hy po)
def addA : D → D → Rs D := eiD addD catD
theorem o_addA : OpS F X (binaryOp .Add) .fz addA := o_add.or o_cat.fz
def mulA : D → D → Rs D := eiD mulD repD
theorem o_mulA : OpS F X (binaryOp .Mult) .fz mulA := o_mul.or o_rep.fz
def inA : D → D → Rs D := eiD inD dinD
def notInA : D → D → Rs D := eiD notInD dnotInD
theorem o_inA (hr : Room k X.A) : OpS F X (compareOp .In) .fz inA := o_in.or (o_din hr)
theorem o_notInA (hr : Room k X.A) : OpS F X (compareOp .NotIn) .fz notInA := o_notIn.or (o_dnotIn hr)
/-- in += -/
theorem binD_or {σ : L2.St} {H : Hp} {Q : VK} (h : tE F M M2 m (binD (eiD f g) ma mb da db) σ H Q) : tE F M M2 m (binD f ma mb da db) σ H Q ∨ tE F M M2 m (binD g ma mb da db) σ H Q := by
  obtain ⟨P, B, S, R, io, e, po⟩ := h
  unfold binD at po
  cases ha : da (dts S) with
  | error er =>
    rw [ha] at po
    exact .inl ⟨P, B, S, R, io, e, by unfold binD; rw [ha]; exact po⟩
  | ok x =>
    rw [ha] at po
    cases hb : db x.2 with
    | error er =>
      have po : PostG F P S B H (db x.2 >>= fun y => eiD f g (rd y.2 x.1 ma) (rd y.2 y.1 mb) >>= fun z => .ok (z, y.2)) _ := po
      rw [hb] at po
      refine .inl ⟨P, B, S, R, io, e, ?_⟩
      unfold binD
      rw [ha]
      show PostG F P S B H (db x.2 >>= _) _
      rw [hb]
      exact po
    | ok y =>
      have po : PostG F P S B H (db x.2 >>= fun y => eiD f g (rd y.2 x.1 ma) (rd y.2 y.1 mb) >>= fun z => .ok (z, y.2)) _ := po
      rw [hb] at po
      have po : PostG F P S B H (eiD f g (rd y.2 x.1 ma) (rd y.2 y.1 mb) >>= fun z => .ok (z, y.2)) _ := po
      unfold eiD at po
      split at po
      · rename_i z hz
        refine .inl ⟨P, B, S, R, io, e, ?_⟩
        unfold binD
        rw [ha]
        show PostG F P S B H (db x.2 >>= _) _
        rw [hb]
        show PostG F P S B H (f _ _ >>= _) _
        rw [hz]
        exact po
      · refine .inr ⟨P, B, S, R, io, e, ?_⟩
        unfold binD
        rw [ha]
        show PostG F P S B H (db x.2 >>= _) _
        rw [hb]
        exact po
def ixA : D → D → Rs D := eiD ixD dgetD
theorem je_ixA (hr : Room k X.A) (ha : JE F X a M M1 ma da) (hb : JE F X b M1 M2 mb db) (ka : VMok M2 ma := by first | trivial | rfl) (hs : PlainIx b := by exact fun _ _ => rfl) (hs2 : NoSl b := by exact fun _ _ => rfl) : JE F X (.Subscript a b pos) M M2 .fz (binD ixA ma mb da db) :=
  pe_imp (pe_or (je_ix ha hb ka hs) (je_dget hr ha hb ka hs2)) fun σ H Q h => binD_or h

/-! ### a call that leaves the last arguments to their defaults -/
def call0D (den : Fn) (dfl : List D) (a : An) : Dn := fun Γ => a Γ >>= fun x => den (x.1 ++ dfl) >>= fun z => .ok (z.1, x.2)
theorem repInts {c : Ct} {B : Hp} : ∀ is : List Int, RepL c B (is.map V.int) (is.map D.int)
  | [] => .nil
  | i :: is => .cons (.int i) (repInts is)
theorem call0D_at {σ : L2.St} {H : Hp} {Q : VK} {den : Fn} {is : List Int} (hf : allFz ms = true) (hn : ms.length + is.length = n) (hrm : rm = .fz ∨ rm = .fr) (h : tE F M M1 rm (call0D den (is.map D.int) dA) σ H Q) :
    tCall (spD F.c false n rm den) (is.map V.int) F.E (tA F M M1 ms dA) σ H Q := by
  obtain ⟨P, B, S, R, io, eM, po⟩ := h
  refine ⟨P, B, S, R, io, eM, po.bind fun x _ po => ?_⟩
  intro vs B1 H1 S1 R1 e1 g1 s1 w1
  have rp := (w1.reps hf).append (repInts (c := F.c) (B := B1) is)
  refine ⟨[], B1, fzS (vs ++ is.map V.int) (x.1 ++ is.map D.int), R1.args rp, rfl, by rw [fzS_md rp, List.length_append, List.length_map, w1.lenD, hn] <;> rfl, ?_⟩
  rw [fzS_dt rp]
  have po := PostG.step s1 (fun z k => k) po
  cases hd : den (x.1 ++ is.map D.int) with
  | error er =>
    rw [hd] at po
    cases er with
    | bad => exact post_nope po
    | exc y p =>
      intro B' H' S' σ' dd R' st pay
      obtain ⟨R2, s2⟩ := back0 R1 R' st fun a z => fzS_in rp z
      exact (show EPost F P S1 B1 H1 y p from po) B' H' S1 σ dd R2 s2 pay
  | ok z =>
    rw [hd] at po
    have po : KE F P σ M1 rm S B H Q (z.1, x.2) := po
    intro v B' H' S' R' _ _ st w
    obtain ⟨R2, s2⟩ := back0 R1 R' st fun a z => fzS_in rp z
    exact po v B' H' S1 R2 e1 g1 (s1.trans s2) ((w.reown hrm fun a z => R1.tracked z).back fun a z => s1.fresh z)
/-- a def that may be called by name: what it promises, where it stands -/
structure Cal (pr : Program) (w : World) (K : PySem.W.Frag) (mg : Str → Option Value) (base : Heap) (c : Ct) (x : Str) (k : Nat) (ps : List Str) (b : Bool) (n : Nat) (rm : VM) (den : Fn) (is : List Int) : Prop where
  ok : ∃ f fd, FnOk pr w K mg base (L2N.CX pr w) k f fd ps (spD c b n rm den) ∧ mg x = some (.ref f) ∧ PySem.W.keepIn K (.ref f) = true ∧ ∃ us, Vals (is.map V.int) us ∧ Binds K fd ps us
theorem je_calD {x : Str} {den : Fn} {ps : List Str} {is : List Int} {j : Nat} (hx : CxF F X) (C : Cal X.prog X.w X.K X.mg X.base F.c x k ps false n rm den is) (hr : Room j X.A) (hg : Gl X x) (ha : JA F X (e :: es) M M1 ms dA) (hk : k ≤ j := by decide)
    (hf : allFz ms = true := by rfl) (hn : ms.length + is.length = n := by rfl) (hrm : rm = .fz ∨ rm = .fr := by first | exact .inl rfl | exact .inr rfl) (hdb : (x == ("__debug__" : Str)) = false := by decide)
    (he : starEach (e :: es) X.env = (false, eval e X.env) :: starEach es X.env := by rfl) (hpl : (backTo pos (starEach es X.env)).any (·.1) = false := by rfl) : JE F X (.Call (.Name x p) (e :: es) [] pos) M M1 rm (call0D den (is.map D.int) dA) := by
  obtain ⟨f, fd, G, hm, hkp, us, hv, hb⟩ := C.ok
  exact pe_imp (pe_call G (hr.mono hk) hg hm hkp hb hv hx.pass ha hdb he hpl) fun σ H Q h => call0D_at hf hn hrm h
theorem je_cal {x : Str} {den : Fn} {ps : List Str} {j : Nat} (hx : CxF F X) (C : Cal X.prog X.w X.K X.mg X.base F.c x k ps false n rm den []) (hr : Room j X.A) (hg : Gl X x) (ha : JA F X (e :: es) M M1 ms dA) (hk : k ≤ j := by decide)
    (hf : allFz ms = true := by rfl) (hn : ms.length = n := by rfl) (hrm : rm = .fz ∨ rm = .fr := by first | exact .inl rfl | exact .inr rfl) (hdb : (x == ("__debug__" : Str)) = false := by decide)
    (he : starEach (e :: es) X.env = (false, eval e X.env) :: starEach es X.env := by rfl) (hpl : (backTo pos (starEach es X.env)).any (·.1) = false := by rfl) : JE F X (.Call (.Name x p) (e :: es) [] pos) M M1 rm (call0 den dA) := by
  obtain ⟨f, fd, G, hm, hkp, us, hv, hb⟩ := C.ok
  cases hv
  exact je_call hx G (hr.mono hk) hg hm hkp hb ha hf hn hrm hdb he hpl
theorem je_calS {x : Str} {den : Fn} {ps : List Str} {j i : Nat} (hx : CxF F X) (C : Cal X.prog X.w X.K X.mg X.base F.c x k ps true n rm den []) (hr : Room j X.A) (hg : Gl X x) (ha : JA F X (e :: es) M M1 (.bw i :: ms) dA) (hk : k ≤ j := by decide)
    (hM : M1[i]? = some .ow := by rfl) (hf : allFz ms = true := by rfl) (hn : ms.length + 1 = n := by rfl) (hrm : rm = .fz ∨ rm = .fr := by first | exact .inl rfl | exact .inr rfl) (hdb : (x == ("__debug__" : Str)) = false := by decide)
    (he : starEach (e :: es) X.env = (false, eval e X.env) :: starEach es X.env := by rfl) (hpl : (backTo pos (starEach es X.env)).any (·.1) = false := by rfl) : JE F X (.Call (.Name x p) (e :: es) [] pos) M M1 rm (call1 i den dA) := by
  obtain ⟨f, fd, G, hm, hkp, us, hv, hb⟩ := C.ok
  cases hv
  exact je_callS hx G (hr.mono hk) hg hm hkp hb ha hM hf hn hrm hdb he hpl
end

theorem mkCal {pr : Program} {w : World} {K : PySem.W.Frag} {mg : Str → Option Value} {base : Heap} {c : Ct} {x : Str} {k n : Nat} {ps : List Str} {b : Bool} {rm : VM} {den : Fn} {f : Addr} {fd : FuncData} (G : FnOk pr w K mg base (L2N.CX pr w) k f fd ps (spD c b n rm den)) (hm : mg x = some (.ref f)) (hk : PySem.W.keepIn K (.ref f) = true)
    (hb : Binds K fd ps []) : Cal pr w K mg base c x k ps b n rm den [] := ⟨f, fd, G, hm, hk, [], .nil, hb⟩
theorem mkCalD {pr : Program} {w : World} {K : PySem.W.Frag} {mg : Str → Option Value} {base : Heap} {c : Ct} {x : Str} {k n : Nat} {ps : List Str} {b : Bool} {rm : VM} {den : Fn} {f : Addr} {fd : FuncData} {is : List Int} (G : FnOk pr w K mg base (L2N.CX pr w) k f fd ps (spD c b n rm den)) (hm : mg x = some (.ref f)) (hk : PySem.W.keepIn K (.ref f) = true)
    (hb : ∃ us, Vals (is.map V.int) us ∧ Binds K fd ps us) : Cal pr w K mg base c x k ps b n rm den is := ⟨f, fd, G, hm, hk, hb⟩
end DL

set_option Elab.async false
set_option linter.all false
set_option maxRecDepth 100000
set_option maxHeartbeats 4000000
/-! DL, part 11: short names for the generator's print. -/
namespace DL
open PySem PySem.Spec PyProof.Rows L2
abbrev cc (K : PySem.W.Frag) (T : List (Addr × Str)) : Ct := ⟨K, He.ga K, T⟩
def kI (i : Int) : Dn := fun Γ => .ok (.int i, Γ)
def kS (x : Str) : Dn := fun Γ => .ok (.str x, Γ)
def kB (b : Bool) : Dn := fun Γ => .ok (.bl b, Γ)
def kN : Dn := fun Γ => .ok (.non, Γ)
def kD : Dn := fun Γ => .ok (.dic [], Γ)
def gV (i : Nat) : Dn := fun Γ => .ok (Γ.getD i .non, Γ)
def nilA : An := fun Γ => .ok ([], Γ)
def noO : On := fun Γ => .ok (none, Γ)
def gN (i : Nat) : Gn := fun d Γ => .ok (Γ.set i d)
def gsNil : Gns := fun ds Γ => match ds with
  | [] => .ok Γ
  | _ => nope
def nxS : Sn := fun Γ => .ok (.nx Γ)
def brS : Sn := fun Γ => .ok (.brk Γ)
def ctS : Sn := fun Γ => .ok (.cnt Γ)
def rNS : Sn := fun Γ => .ok (.ret .non Γ)
def rsS (x : Str) (p : Option (Str × D)) : Sn := fun _ => .error (.exc x p)
def yesT : Tn := fun Γ => .ok (true, Γ)
section
variable {F : Fx} {X : Cx} {e : Expr} {es : List Expr} {M : List Md} {pos p : Pos} {m ma : VM} {ms : List VM} {da : Dn} {dA : An} {M1 : List Md}
theorem e_i {i : Int} {j} : JE F X (.Constant (.int i) j pos) M M .fz (kI i) := je_int
theorem e_s {x : Str} {j} : JE F X (.Constant (.str x) j pos) M M .fz (kS x) := je_str
theorem e_b {i : Bool} {j} : JE F X (.Constant (.bool i) j pos) M M .fz (kB i) := je_bl
theorem e_n {j} : JE F X (.Constant .none j pos) M M .fz kN := je_non
theorem e_d : JE F X (.Dict [] [] pos) M M .fr kD := je_dic0
theorem e_v (i : Nat) {x : Str} (hM : M[i]? = some .fz := by rfl) (hN : X.N[i]? = some x := by rfl) (hv : Vis X.env.scope x := by first | exact Or.inl rfl | exact Or.inr (Or.inl rfl) | exact Or.inr (Or.inr rfl)) (hd : (x == ("__debug__" : Str)) = false := by decide)
    (hcd : (x == ("__classdict__" : Str)) = false := by decide) : JE F X (.Name x pos) M M .fz (gV i) := je_var (pe_var hN hv hd hcd) hM
theorem e_o (i : Nat) {x : Str} (hM : M[i]? = some .ow := by rfl) (hN : X.N[i]? = some x := by rfl) (hv : Vis X.env.scope x := by first | exact Or.inl rfl | exact Or.inr (Or.inl rfl) | exact Or.inr (Or.inr rfl)) (hd : (x == ("__debug__" : Str)) = false := by decide)
    (hcd : (x == ("__classdict__" : Str)) = false := by decide) : JE F X (.Name x pos) M M (.bw i) kN := je_own (pe_var hN hv hd hcd) hM
theorem e_f (i : Nat) {x : Str} (hM : M[i]? = some .ow := by rfl) (hN : X.N[i]? = some x := by rfl) (hio : F.io.contains i = false := by rfl) (hv : Vis X.env.scope x := by first | exact Or.inl rfl | exact Or.inr (Or.inl rfl) | exact Or.inr (Or.inr rfl)) (hd : (x == ("__debug__" : Str)) = false := by decide)
    (hcd : (x == ("__classdict__" : Str)) = false := by decide) : JE F X (.Name x pos) M (M.set i .fz) .fz (gV i) := je_frz (pe_var hN hv hd hcd) hM hio
theorem e_g {x : Str} {i : Int} (hm : ∃ t, X.mg x = some (.int i t)) (hg : Gl X x := by rfl) (hd : (x == ("__debug__" : Str)) = false := by decide) : JE F X (.Name x pos) M M .fz (kI i) := je_glob hg hm hd
theorem e_len (hm : X.mg "len" = none) (ha : JA F X (e :: es) M M1 ms dA) (hg : Gl X "len" := by rfl) (he : starEach (e :: es) X.env = (false, eval e X.env) :: starEach es X.env := by rfl) (hpl : (backTo pos (starEach es X.env)).any (·.1) = false := by rfl) :
    JE F X (.Call (.Name "len" p) (e :: es) [] pos) M M1 .fz (callD lenB ms dA) := je_callB b_len hg hm boot_len ha (by decide) (by decide) he hpl
theorem e_sum (hm : X.mg "sum" = none) (ha : JA F X (e :: es) M M1 ms dA) (hc : X.calm = true := by rfl) (hg : Gl X "sum" := by rfl) (he : starEach (e :: es) X.env = (false, eval e X.env) :: starEach es X.env := by rfl) (hpl : (backTo pos (starEach es X.env)).any (·.1) = false := by rfl) :
    JE F X (.Call (.Name "sum" p) (e :: es) [] pos) M M1 .fz (callD sumB ms dA) := je_callB (b_sum hc) hg hm (by decide +kernel) ha (by decide) (by decide) he hpl
theorem e_list (hm : X.mg "list" = none) (ha : JA F X (e :: es) M M1 ms dA) (hg : Gl X "list" := by rfl) (he : starEach (e :: es) X.env = (false, eval e X.env) :: starEach es X.env := by rfl) (hpl : (backTo pos (starEach es X.env)).any (·.1) = false := by rfl) :
    JE F X (.Call (.Name "list" p) (e :: es) [] pos) M M1 .fr (callD listB ms dA) := je_callTy b_list hg hm (by decide +kernel) ha (by decide) (by decide) he hpl
theorem e_tuple (hm : X.mg "tuple" = none) (ha : JA F X (e :: es) M M1 ms dA) (hg : Gl X "tuple" := by rfl) (he : starEach (e :: es) X.env = (false, eval e X.env) :: starEach es X.env := by rfl) (hpl : (backTo pos (starEach es X.env)).any (·.1) = false := by rfl) :
    JE F X (.Call (.Name "tuple" p) (e :: es) [] pos) M M1 .fz (callD tupleB ms dA) := je_callTy b_tuple hg hm (by decide +kernel) ha (by decide) (by decide) he hpl
theorem e_int (hm : X.mg "int" = none) (ha : JA F X (e :: es) M M1 ms dA) (hg : Gl X "int" := by rfl) (he : starEach (e :: es) X.env = (false, eval e X.env) :: starEach es X.env := by rfl) (hpl : (backTo pos (starEach es X.env)).any (·.1) = false := by rfl) :
    JE F X (.Call (.Name "int" p) (e :: es) [] pos) M M1 .fz (callD intB ms dA) := je_callTy b_int hg hm (by decide +kernel) ha (by decide) (by decide) he hpl
theorem t_int (hm : X.mg "int" = none) (hg : Gl X "int" := by rfl) : PE X (.Name "int" p) (tC (.ty "int")) := pe_ty hg hm (by decide +kernel)
theorem t_bool (hm : X.mg "bool" = none) (hg : Gl X "bool" := by rfl) : PE X (.Name "bool" p) (tC (.ty "bool")) := pe_ty hg hm (by decide +kernel)
theorem t_str (hm : X.mg "str" = none) (hg : Gl X "str" := by rfl) : PE X (.Name "str" p) (tC (.ty "str")) := pe_ty hg hm (by decide +kernel)
theorem t_list (hm : X.mg "list" = none) (hg : Gl X "list" := by rfl) : PE X (.Name "list" p) (tC (.ty "list")) := pe_ty hg hm (by decide +kernel)
theorem t_tuple (hm : X.mg "tuple" = none) (hg : Gl X "tuple" := by rfl) : PE X (.Name "tuple" p) (tC (.ty "tuple")) := pe_ty hg hm (by decide +kernel)
theorem e_app {o : Expr} {apos : Pos} (i : Nat) (ho : PE X o (tVar i)) (ha : JA F X (e :: es) M M1 ms dA) (hM : M[i]? = some .ow := by rfl) (hM1 : M1[i]? = some .ow := by rfl)
    (hf : allFz ms = true := by rfl) (hbase : attributeBase o "append" X.env (eval o X.env) = eval o X.env := by rfl)
    (hfew : ((backTo pos (starEach (e :: es) X.env)).all (fun x => !x.1) && (backToKw pos (keywordEach [] X.env)).all (fun x => x.1.isSome) && decide ((e :: es).length + ([] : List Keyword).length + (if ([] : List Keyword).isEmpty then 0 else 1) < 30)) = true := by rfl)
    (hline : (apos.endLine == pos.line) = true := by rfl) (hs : starEach (e :: es) X.env = (false, eval e X.env) :: starEach es X.env := by rfl) (hplain : (backTo pos (starEach es X.env)).any (·.1) = false := by rfl) :
    JE F X (.Call (.Attribute o "append" apos) (e :: es) [] pos) M M1 .fz (mutD i appM dA) := je_mut PySem.F.slot_list_append PySem.F.type_list_append m_append ho hM ha hM1 hf hbase hfew hline hs hplain
theorem e_pop {o : Expr} {apos : Pos} (i : Nat) (ho : PE X o (tVar i)) (hM : M[i]? = some .ow := by rfl) (hbase : attributeBase o "pop" X.env (eval o X.env) = eval o X.env := by rfl) (hline : (apos.endLine == pos.line) = true := by rfl) :
    JE F X (.Call (.Attribute o "pop" apos) [] [] pos) M M .fz (mutD i popM nilA) := je_mut0 PySem.F.slot_list_pop PySem.F.type_list_pop m_pop ho hM hbase hline
theorem g_n {z : Option (List Nat)} (i : Nat) {x : Str} (hl : i < M.length := by decide) (hio : F.io.contains i = false := by rfl) (hz : zHas z i = true := by rfl) (hN : X.N.Nodup := by decide) (hi : X.N[i]? = some x := by rfl) (hx : Loc X.env.scope x := by first | exact .inl rfl | exact .inr rfl)
    (hf : X.fn x = true ∨ X.env.scope.names.lookup x = some .local := by first | exact .inl rfl | exact .inr rfl | assumption) : JG F X z false (.Name x pos) M (M.set i .fz) (gN i) := jg_name (pg_name hN hi hx hf) hl hio hz
theorem g_0 {z : Option (List Nat)} : JGs F X z [] M M gsNil := jgs_nil
theorem wHx {ss : List Stmt} {Mn Mb Mc : List Md} {rm : VM} {d : Sn} (hx : CxF F X) (k : CxF F X → JB F X ss M Mn Mb Mc rm d) : JB F X ss M Mn Mb Mc rm d := k hx
theorem wHb {z : Option (List Nat)} {q : Bool} {tg elt : Expr} {ifs : List Expr} {M3 M4 M5 : List Md} {g : Gn} {t : Tn} (hx : CxF F X) (k : CxF F X → JG F X z q tg M M3 g ∧ JTs F X ifs M3 M4 t ∧ JE F X elt M4 M5 m da) : JG F X z q tg M M3 g ∧ JTs F X ifs M3 M4 t ∧ JE F X elt M4 M5 m da := k hx
theorem jb_weakN {ss : List Stmt} {Mn Mn' Mb Mc : List Md} {rm : VM} {d1 : Sn} (h : JB F X ss M Mn Mb Mc rm d1) (hn : leM Mn Mn' = true := by rfl) (kn : keepsIo F.io Mn' = true := by rfl) : JB F X ss M Mn' Mb Mc rm d1 := pss_imp h fun E σ H ⟨P, B, S, R, io, e, po⟩ =>
  ⟨P, B, S, R, io, e, po.imp fun o k => by
    cases o with
    | nx Γ => exact fun σ' B' H' S' R e1 e2 t => k σ' B' H' _ (R.weak io kn) (weak_md (by rw [e1]; exact hn)) (weak_dt.trans e2) t.weak
    | brk Γ => exact k
    | cnt Γ => exact k
    | ret d Γ => exact k⟩
theorem wHe {M2 : List Md} (hx : CxF F X) (k : CxF F X → JE F X e M M2 m da) : JE F X e M M2 m da := k hx
def addI : D → D → Rs D
  | .int i, .int j => .ok (.int (i + j))
  | _, _ => nope
theorem i_add : OpS F X (inplaceOp .Add) .fz addI := by
  refine ⟨_, iop_add, fun P B σ H S x y d e Q R hx hy po => ?_⟩
  unfold addI at po
  split at po
  · exact ⟨_, _, hx.int, hy.int, as_is R (.int _) po⟩
  · exact post_nope po
theorem i_sub : OpS F X (inplaceOp .Sub) .fz subD := by
  refine ⟨_, iop_sub, fun P B σ H S x y d e Q R hx hy po => ?_⟩
  unfold subD at po
  split at po
  · exact ⟨_, _, hx.int, hy.int, as_is R (.int _) po⟩
  · exact post_nope po
end
end DL

set_option Elab.async false
set_option linter.all false
set_option maxRecDepth 100000
set_option maxHeartbeats 4000000
/-! DL, part 12: comprehensions over a range while an exception is handled. -/
namespace DL
open PySem PySem.Spec PyProof.Rows L2

/-- the block's context, what is pinned kept -/
abbrev blkP (X : Cx) (s : Shared) (H : Hp) (scope : Scope) (cenv : Env) (fp : List Addr) : Cx := { X.blk s H scope cenv fp with pn := X.pn }
/-- an iterator's turn while an exception is handled -/
structure TurnH (P : Program) (w : World) (K : PySem.W.Frag) (tg : Expr) (J : It) (fp : List Addr) (it : Addr) (tn : Nat → Heap → Prop) : Prop where
  mem : it ∈ fp
  obj : ∀ i h, tn i h → ∀ b ∈ fp, ∃ o, h.get? b = some o ∧ ∀ v, o.data ≠ .cell v
  keep : ∀ i h h', tn i h → (∀ b ∈ fp, ∀ o, h.get? b = some o → h'.get? b = some o) → tn i h'
  item : ∀ (X : Cx), X.prog = P → X.w = w → X.K = K → L2H.HotC X → ∀ (i : Nat) (pins : List (Addr × Obj)) (s : Shared) (σ : L2.St) (H : Hp) (E : Value → Shared → Prop), Inv X pins σ H s → (∀ b ∈ fp, FpOk X pins H b) → tn i s.heap → J.go i H →
    wpAny (model P w) X.A (pyNext (.ref it)) (fun r s1 => ∃ u, r = some u ∧
      wpAny (model P w) X.A (letOwnedTupleGo tg (.ref it) u) (fun _ s2 => ∃ x H', Inv X pins σ H' s2 ∧ RelV x u ∧ J.yld i H x H' ∧ tn (i + 1) s2.heap ∧ ∀ b ∈ fp, H' b = none) E s1) E s
  done : ∀ (X : Cx), X.prog = P → X.w = w → X.K = K → L2H.HotC X → ∀ (i : Nat) (pins : List (Addr × Obj)) (s : Shared) (σ : L2.St) (H : Hp) (E : Value → Shared → Prop), Inv X pins σ H s → (∀ b ∈ fp, FpOk X pins H b) → tn i s.heap → J.stop i H →
    wpAny (model P w) X.A (pyNext (.ref it)) (fun r s1 => r = none ∧ Inv X pins σ H s1) E s
  self : ∀ (A : Around) (i : Nat) (s : Shared) (Q : Value → Shared → Prop) (E : Value → Shared → Prop), tn i s.heap → Q (.ref it) s → wpAny (model P w) A (pyIter (.ref it)) Q E s
def PIEH (X : Cx) (pins : List (Addr × Obj)) (σ : L2.St) (tg : Expr) (R : It → Hp → Prop) (itv : Value) (s2 : Shared) : Prop :=
  ∃ (it : Addr) (fp : List Addr) (tn : Nat → Heap → Prop) (J : It) (H' : Hp), itv = .ref it ∧ Inv X pins σ H' s2 ∧ TurnH X.prog X.w X.K tg J fp it tn ∧ tn 0 s2.heap ∧ (∀ b ∈ fp, FpOk X pins H' b) ∧ R J H'
structure PIH (X : Cx) (tg iter : Expr) (wi : TI) : Prop where
  run : ∀ (pins : List (Addr × Obj)) (s : Shared) (σ : L2.St) (H : Hp) (R : It → Hp → Prop), Inv X pins σ H s → wi σ H R →
    wpAny (model X.prog X.w) X.A (eval iter X.env) (fun v s1 => wpAny (model X.prog X.w) X.A (pyIter v) (PIEH X pins σ tg R) X.xe s1) X.xe s
theorem pih_imp {X : Cx} {tg e : Expr} {t t' : TI} (h : PIH X tg e t) (k : ∀ σ H R, t' σ H R → t σ H R) : PIH X tg e t' := ⟨fun pins s σ H R I w => h.run pins s σ H R I (k σ H R w)⟩
theorem turnH_range {P : Program} {w : World} {K : PySem.W.Frag} {tg : Expr} (it : Addr) (lo : Int) (n : Nat) : TurnH P w K tg (Itr lo n) [it] it (fun i h => IsRangeIter h it (lo + (i : Nat) * 1) ((n : Int) - (i : Nat)) 1) where
  mem := by simp
  obj := fun i h st b hb => by
    have e : b = it := by simpa using hb
    subst e
    exact ⟨_, st, fun v z => by
      have z' : Data.fields _ = Data.cell v := z
      cases z'⟩
  keep := fun i h h' st k => k it (by simp) _ st
  item := by
    intro X hP hw hK hc i pins s σ H E I hf st hg
    subst hP hw hK
    obtain ⟨f0, f1, f2, f3, f4, f5⟩ := hf it (by simp)
    have hg : i < n := hg
    refine wpAny_pyNext_range_item st (by omega) fun h' st' sb => ?_
    have st2 : IsRangeIter h' it (lo + ((i + 1 : Nat) : Int) * 1) ((n : Int) - ((i + 1 : Nat) : Int)) 1 := by
      have e1 : lo + ((i + 1 : Nat) : Int) * 1 = lo + (i : Nat) * 1 + 1 := by omega
      have e2 : (n : Int) - ((i + 1 : Nat) : Int) = (n : Int) - (i : Nat) - 1 := by omega
      rw [e1, e2]
      exact st'
    have I1 : Inv X pins σ H { s with heap := h', toks := s.toks + 1 } := I.turned (fun b o hb e => (sb.2 b hb).trans e) f0 f1 f3 f4 f5
    refine ⟨_, rfl, go_of (s := { s with heap := h', toks := s.toks + 1 }) (n := "range_iterator") st2 rfl rfl (by decide) ⟨.int (lo + i), H, I1, ⟨s.toks, ?_⟩, ⟨rfl, rfl⟩, st2, fun b hb => (hf b hb).1⟩⟩
    rw [Int.mul_one]
  done := by
    intro X hP hw hK hc i pins s σ H E I hf st hg
    subst hP hw hK
    obtain ⟨f0, f1, f2, f3, f4, f5⟩ := hf it (by simp)
    obtain ⟨x1, hot⟩ := hc.at I
    exact HotX.pyNext_range_end_hot hot st (by have : n ≤ i := hg; omega) fun h' eb => ⟨rfl, I.turned (t' := s.toks) (fun b o hb e => eb b o e) f0 f1 f3 f4 f5⟩
  self := fun _ _ _ _ _ st h => wpAny_pyIter_rangeiter st h
theorem rangeH_it {X : Cx} {tg : Expr} {pins : List (Addr × Obj)} {σ : L2.St} {H : Hp} {s : Shared} {R : It → Hp → Prop} {E : Value → Shared → Prop} {lo hi : Int} {t u v : Tok} {tk : Nat} (I : Inv X pins σ H s) (h1 : -(2 ^ 62) ≤ lo) (h2 : lo < 2 ^ 62) (h3 : -(2 ^ 62) ≤ hi) (h4 : hi < 2 ^ 62)
    (q : R (Itr lo (hi - lo).toNat) H) : wpAny (model X.prog X.w) X.A (pyIter (.ref s.heap.objs.size)) (PIEH X pins σ tg R) E { s with heap := s.heap.push { cls := .type "range", data := .fields #[.int lo t, .int hi u, .int 1 v] }, toks := tk } := by
  refine wpAny_pyIter_range (IsRange.new ..) (small_one h1 h2 h3 h4) ?_
  have I1 : Inv X pins σ H { s with heap := s.heap.push { cls := .type "range", data := .fields #[.int lo t, .int hi u, .int 1 v] }, toks := tk } := I.kept fun b o e => Heap.get?_push_of_some _ e
  refine ⟨(s.heap.push { cls := .type "range", data := .fields #[.int lo t, .int hi u, .int 1 v] }).objs.size, [(s.heap.push { cls := .type "range", data := .fields #[.int lo t, .int hi u, .int 1 v] }).objs.size], _, _, H, rfl,
    I1.kept (t' := tk) fun b o e => Heap.get?_push_of_some _ e, turnH_range _ lo (hi - lo).toNat, ?_, fun b hb => ?_, q⟩
  · have e1 : lo + ((0 : Nat) : Int) * 1 = lo := by simp
    have e2 : (((hi - lo).toNat : Nat) : Int) - ((0 : Nat) : Int) = Builtin.Range.rangeSize lo hi 1 := by rw [rangeSize_one]; split <;> omega
    show IsRangeIter _ _ (lo + ((0 : Nat) : Int) * 1) ((((hi - lo).toNat : Nat) : Int) - ((0 : Nat) : Int)) 1
    rw [e1, e2]
    exact Heap.get?_push_size _ rfl
  · have e : b = (s.heap.push { cls := .type "range", data := .fields #[.int lo t, .int hi u, .int 1 v] }).objs.size := by simpa using hb
    subst e
    exact I1.fpOk (Nat.le_refl _) (I1.hok.fresh (Nat.le_refl _))
theorem pih_range1 {X : Cx} {tg : Expr} {a : Expr} {ta : TA} {p pos : Pos} (hg : Gl X "range") (hm : X.mg "range" = none) (ha : PA X [a] ta) (hs : starEach [a] X.env = [(false, eval a X.env)] := by rfl) : PIH X tg (.Call (.Name "range" p) [a] [] pos) (iRng1 ta) := by
  refine ⟨fun pins s σ H R I h => ?_⟩
  refine Call_ (ld_blt I hg hm boot_range (PyProof.Rows.callWith_type1 (thn (ha.run pos pins s σ H _ I h) fun us s1 ⟨vs, H1, I1, r1, q1⟩ => ?_) hs rfl))
  obtain ⟨j, e, q1, q2, q⟩ := q1
  subst e
  cases r1 with
  | cons r rr =>
    cases rr
    obtain ⟨t, rfl⟩ := r
    exact call_range_1 (rangeH_it I1 (by omega) (by omega) q1 q2 (by simpa using q))
section
variable {X : Cx} {pins : List (Addr × Obj)} {σ σ' : L2.St} {H H' : Hp} {s s' : Shared}
theorem inv_blkP {scope : Scope} {ce : Env} {fp : List Addr} (I : Inv X pins σ H s) (J : Inv (X.blk s H scope ce fp) [] σ' H s') (k : ∀ b o, s.heap.get? b = some o → s'.heap.get? b = some o) (hL : ce.locals = s.heap.objs.size) : Inv (blkP X s H scope ce fp) [] σ' H s' :=
  ⟨⟨J.ok.mod, J.ok.kind, J.ok.glob, J.ok.blt, J.ok.above, J.ok.inj, J.ok.has, J.ok.cab, J.ok.hd, J.ok.frames, J.ok.stk, J.ok.exf, J.ok.bs, J.ok.bsz, J.ok.noex, J.ok.exfs, J.ok.funs, J.ok.frf⟩, J.os, J.bare, J.base, J.loc, J.cell, J.free, J.freeC, fun p hp => by
    have hp' : p ∈ X.pn := by have z : p ∈ X.pn ++ [] := hp; simpa using z
    obtain ⟨h1, h2, h3, h4, h5⟩ := I.pin p (List.mem_append_left _ hp')
    refine ⟨k _ _ h1, h2, fun z => ?_, fun z => ?_, h5⟩
    · have z : p.1 = s.heap.objs.size := z.trans hL
      exact absurd (Heap.lt_size h1) (by rw [z]; exact Nat.lt_irrefl _)
    · rcases List.mem_cons.mp (I.stkSub p.1 z) with z | z
      · exact h3 z
      · exact h4 z, J.hok, J.len⟩
end
section
variable {X : Cx}
theorem lcH_core {pins : List (Addr × Obj)} {s : Shared} {σ : L2.St} {H : Hp} {Q : VK} {elt tg iter : Expr} {ifs : List Expr} {scope : Scope} {own : List (Str × Nat)} {pos pos' : Pos} {wi : TI} {g : TG} {tt : TT} {te : TE} {use : Option (Value → Sem Unit)} {Qf : Value → Shared → Prop}
    (hc : L2H.HotC X) (hN : X.N.Nodup) (I : L2.Inv X pins σ H s) (hi : PIH X tg iter wi) (ok : BlkOk X.N X.env.scope scope own)
    (hg : ∀ (s : Shared) (H : Hp) (C : Addr) (cl : List (Str × Addr)) (fp : List Addr), PG (blkP X s H scope (compEnvC scope cl C X.env) fp) tg g) (ht : ∀ (s : Shared) (H : Hp) (C : Addr) (cl : List (Str × Addr)) (fp : List Addr), PTs (blkP X s H scope (compEnvC scope cl C X.env) fp) ifs tt)
    (he : ∀ (s : Shared) (H : Hp) (C : Addr) (cl : List (Str × Addr)) (fp : List Addr), PE (blkP X s H scope (compEnvC scope cl C X.env) fp) elt te) (hs : ∀ x, foldedSetIterable iter X.env x = pure x)
    (h : tLc wi g tt te (own.map (·.2)) σ H Q)
    (hRR : ∀ D C s' m H', L2.Inv X pins σ H' s' → Q (.ref D) H' → s'.heap.Ns C m → FpOk X pins H' C → compPost (model X.prog X.w) X.A X.xe use Qf (.ref D) C (.ok .next) s') :
    wpAny (model X.prog X.w) X.A (comprehension (.ListComp elt [⟨tg, iter, ifs, 0⟩] scope pos) scope X.env pos' (newList []) false (eval iter X.env) use) Qf X.xe s := by
  have hfree : ∀ y ∈ scope.names, y.2 = .free → ∃ c, X.env.cells.lookup y.1 = some c := fun y hy e => by
    rcases ok.free y hy e with k | k
    · exact I.ok.has _ (.inl k)
    · exact I.ok.has _ (.inr k)
  refine wpAny_comprehension_free (use := use) rfl hs (closure_ok hfree) ok.kind (fun y hy e => by rw [ok.uniq y hy, e])
    (thn (hi.run pins s σ H _ I h) fun xv s1 hx => thn hx fun itv s2 h2 => ?_)
  obtain ⟨it, fp, tn, J, H2, e, I2, T, st2, f2, q⟩ := h2
  subst e
  refine wpAny_newObj_type (newEnv_comp ?_) (by show 0 ≤ sizeLine; decide)
  generalize hD : s2.heap.objs.size = D
  have hDn : H2 D = none := I2.hok.fresh (Nat.le_of_eq hD)
  obtain ⟨W, ⟨m0, w0⟩, turn⟩ := q D hDn
  -- the new list
  generalize hs3 : ({ s2 with heap := s2.heap.push { cls := .type "list", data := .seq ([] : List Value).toArray } } : Shared) = s3
  have I3 : L2.Inv X pins σ (upd H2 D (.lst [])) s3 := by
    rw [← hs3]
    refine I2.laid (t' := s2.toks) (fun b o e => Heap.get?_push_of_some _ e) (Nat.le_of_eq hD) ⟨Nat.zero_le _, [], 0, .nil, ?_⟩
    rw [← hD]
    exact Heap.get?_push_size _ rfl
  have h3 : s3.heap = s2.heap.push { cls := .type "list", data := .seq ([] : List Value).toArray } := by rw [← hs3]
  have sz : ∀ b ∈ fp, b < s2.heap.objs.size := fun b hb => by
    obtain ⟨o, e, _⟩ := T.obj _ _ st2 b hb
    exact Heap.lt_size e
  have f3 : ∀ b ∈ fp, FpOk X pins (upd H2 D (.lst [])) b ∧ b < s3.heap.objs.size := fun b hb => by
    have hlt := sz b hb
    refine ⟨⟨?_, (f2 b hb).2⟩, by rw [h3, Heap.size_push]; exact Nat.lt_succ_of_lt hlt⟩
    rw [upd_ne (by rw [← hD]; exact Nat.ne_of_lt hlt)]
    exact (f2 b hb).1
  have st3 : tn 0 s3.heap := T.keep _ _ _ st2 fun b _ o e => by rw [h3]; exact Heap.get?_push_of_some _ e
  have I4 := inv_blkP I3 (block_start I3 ok hN f3) (fun b o e => pushCells_keeps _ _ _ _ (Heap.get?_push_of_some _ e)) rfl
  have pg := hg s3 (upd H2 D (.lst [])) s3.heap.objs.size (cellsFrom (s3.heap.objs.size + 1) scope.names (cloFrom X.env.cells scope.names [])) fp
  have pt := ht s3 (upd H2 D (.lst [])) s3.heap.objs.size (cellsFrom (s3.heap.objs.size + 1) scope.names (cloFrom X.env.cells scope.names [])) fp
  have pe := he s3 (upd H2 D (.lst [])) s3.heap.objs.size (cellsFrom (s3.heap.objs.size + 1) scope.names (cloFrom X.env.cells scope.names [])) fp
  show codeAny _ _ (.compStart (.ListComp elt [⟨tg, iter, ifs, 0⟩] scope pos) 0 (.ref it) (.ref D) (compEnvC scope (cellsFrom (s3.heap.objs.size + 1) scope.names (cloFrom X.env.cells scope.names [])) s3.heap.objs.size X.env)) (compPost (model X.prog X.w) X.A X.xe use Qf (.ref D) s3.heap.objs.size) { s3 with heap := pushCells (s3.heap.push { cls := .type "dict", data := .dict #[] }) scope.names }
  have nfp : ∀ b ∈ fp, (upd H2 D (.lst [])) b = none := fun b hb => (f3 b hb).1.1
  generalize hce : compEnvC scope (cellsFrom (s3.heap.objs.size + 1) scope.names (cloFrom X.env.cells scope.names [])) s3.heap.objs.size X.env = ce at I4 pg pt pe ⊢
  have cL : ce.locals = s3.heap.objs.size := by subst hce; rfl
  generalize hH3 : upd H2 D (.lst []) = H3 at I3 I4 pg pt pe w0 nfp f3
  generalize hs4 : ({ s3 with heap := pushCells (s3.heap.push { cls := .type "dict", data := .dict #[] }) scope.names } : Shared) = s4 at I4 ⊢
  have st4 : tn 0 s4.heap := T.keep _ _ _ st3 fun b _ o e => by rw [← hs4]; exact pushCells_keeps _ _ _ _ (Heap.get?_push_of_some _ e)
  have stat : ∀ {σ' : L2.St} {H' : Hp} {s' : Shared}, L2.Inv (blkP X s3 H3 scope ce fp) [] σ' H' s' → (∀ b ∈ fp, H' b = none) → ∀ b ∈ fp, FpOk (blkP X s3 H3 scope ce fp) [] H' b := fun {σ' H' s'} I' hn b hb =>
    ⟨hn b hb, (I'.ok.exf b hb).1, I'.ok.exfs b hb, .inl hb, fun x c e => (I'.ok.exf b hb).2 x c e, fun p hp => (f3 b hb).1.2.2.2.2.2 p (List.mem_append_left _ (show p ∈ X.pn from by have z : p ∈ X.pn ++ [] := hp; simpa using z))⟩
  have loop : codeAny (model X.prog X.w) X.A (.compLoop (.ListComp elt [⟨tg, iter, ifs, 0⟩] scope pos) 0 (.ref it) (.ref D) ce) (compPost (model X.prog X.w) X.A X.xe use Qf (.ref D) s3.heap.objs.size) s4 := by
    refine compLoop_any (fun n s' => ∃ i H', L2.Inv (blkP X s3 H3 scope ce fp) [] (wipe σ (own.map (·.2))) H' s' ∧ tn i s'.heap ∧ (∀ b ∈ fp, H' b = none) ∧ W i n H') ?_ m0 ⟨0, H3, I4, st4, nfp, w0⟩
    rintro n s5 ⟨i, H5, I5, st5, n5, w5⟩
    rcases turn i n H5 w5 with ⟨stop, qq⟩ | ⟨go, Nx, hNx, step⟩
    · have td := T.done (blkP X s3 H3 scope ce fp) rfl rfl rfl (by obtain ⟨p, h1, h2⟩ := hc; exact ⟨p, h1, h2⟩) i [] s5 _ H5 (fun _ _ => False) I5 (stat I5 n5) st5 stop
      refine thnF td fun r s6 ⟨hr, I6⟩ => ?_
      subst hr
      -- back in the def's context
      have I7 : L2.Inv X pins σ H5 s6 := I3.call' (ch := fp) I6.os I6.base I6.hok I6.bare fun b hb => ⟨(f3 b hb).1.2.2.2.1, (f3 b hb).1.2.1, (f3 b hb).1.2.2.2.2.1, (f3 b hb).1.2.2.2.2.2⟩
      have nC : H5 s3.heap.objs.size = none := by
        have z : H5 ce.locals = none := I6.free
        rw [cL] at z
        exact z
      obtain ⟨m, hn, _⟩ := I6.loc
      have hn : s6.heap.Ns ce.locals m := hn
      rw [cL] at hn
      exact hRR D s3.heap.objs.size s6 m H5 I7 qq hn (I3.fpOk (Nat.le_refl _) nC)
    · have ti := T.item (blkP X s3 H3 scope ce fp) rfl rfl rfl (by obtain ⟨p, h1, h2⟩ := hc; exact ⟨p, h1, h2⟩) i [] s5 _ H5 (fun _ _ => False) I5 (stat I5 n5) st5 go
      refine thnF ti fun r s6 ⟨u, hr, h6⟩ => ?_
      subst hr
      refine thnF h6 fun _ s7 ⟨x, H7, I7, r7, y7, st7, n7⟩ => ?_
      have I7' := I7.pinned (stat I7 n7) (T.obj _ _ st7)
      refine thnF (pg.run _ s7 _ H7 x u _ I7' r7 (step x H7 y7)) fun _ s8 ⟨σ8, H8, I8, hw8, q8⟩ => ?_
      refine thnF (pt.run _ s8 σ8 H8 _ I8 q8) fun b s9 ⟨H9, I9, q9⟩ => ?_
      -- the turn's end
      have fin : ∀ {s' : Shared} {H' : Hp}, L2.Inv (blkP X s3 H3 scope ce fp) ([] ++ pinsAt fp s7.heap) σ8 H' s' → Nx H' → ∃ m, m < n ∧ ∃ i H', L2.Inv (blkP X s3 H3 scope ce fp) [] (wipe σ (own.map (·.2))) H' s' ∧ tn i s'.heap ∧ (∀ b ∈ fp, H' b = none) ∧ W i m H' := fun {s' H'} I' nx => by
        obtain ⟨m', hm, w'⟩ := hNx H' nx
        have pin' : ∀ b ∈ fp, ∀ o, s7.heap.get? b = some o → s'.heap.get? b = some o ∧ H' b = none := fun b hb o e =>
          let z := I'.pin (b, o) (List.mem_append_right _ (List.mem_append_right _ (mem_pinsAt hb e)))
          ⟨z.1, z.2.1⟩
        have hl : (wipe σ (own.map (·.2))).length = σ8.length := by rw [← hw8, wipe_length]
        refine ⟨m', hm, i + 1, H', (I'.unpinned (pins := [])).weak hl (fun j v e => ?_), T.keep _ _ _ st7 fun b hb o e => (pin' b hb o e).1, fun b hb => ?_, w'⟩
        · rw [← hw8] at e
          exact (wipe_some e).1
        · obtain ⟨o, e, _⟩ := T.obj _ _ st7 b hb
          exact (pin' b hb o e).2
      cases b with
      | false =>
        simp only [Bool.false_eq_true, if_false] at q9 ⊢
        exact fin I9 q9
      | true =>
        simp only [if_true] at q9 ⊢
        refine thnF (pe.run _ s9 σ8 H9 _ I9 q9) fun z s10 ⟨yv, H10, I10, r10, acc, hD10, hz10, nx⟩ => ?_
        exact app_ok (X := blkP X s3 H3 scope ce fp) I10 hD10 hz10 r10 fun s11 I11 => fin I11 nx
  exact codeAny_compStart_list loop (T.self X.A 0 _ _ _ st4 loop)
theorem pe_lcH {elt tg iter : Expr} {ifs : List Expr} {scope : Scope} {own : List (Str × Nat)} {pos : Pos} {wi : TI} {g : TG} {tt : TT} {te : TE} (hc : L2H.HotC X) (hN : X.N.Nodup) (hi : PIH X tg iter wi) (ok : BlkOk X.N X.env.scope scope own)
    (hg : ∀ (s : Shared) (H : Hp) (C : Addr) (cl : List (Str × Addr)) (fp : List Addr), PG (blkP X s H scope (compEnvC scope cl C X.env) fp) tg g) (ht : ∀ (s : Shared) (H : Hp) (C : Addr) (cl : List (Str × Addr)) (fp : List Addr), PTs (blkP X s H scope (compEnvC scope cl C X.env) fp) ifs tt)
    (he : ∀ (s : Shared) (H : Hp) (C : Addr) (cl : List (Str × Addr)) (fp : List Addr), PE (blkP X s H scope (compEnvC scope cl C X.env) fp) elt te) (hs : ∀ x, foldedSetIterable iter X.env x = pure x := by intro _; rfl) :
    PE X (.ListComp elt [⟨tg, iter, ifs, 0⟩] scope pos) (tLc wi g tt te (own.map (·.2))) := by
  refine ⟨fun pins s σ H Q I h => ?_⟩
  rw [eval_ListComp]
  refine lcH_core hc hN I hi ok hg ht he hs h fun D C s' m H' I' q hn f => ⟨m, hn, fun h'' sb => ?_⟩
  obtain ⟨f0, f1, f2, f3, f4, f5⟩ := f
  exact ⟨.ref D, H', I'.turned (t' := s'.toks) (fun b o hb e => (sb.2 b hb).trans e) f0 f1 f3 f4 f5, rfl, q⟩
end
section
variable {F : Fx} {X : Cx} {M M1 M3 M4 M5 : List Md} {di : An} {dA : An} {m : VM} {g : Gn} {t : Tn} {e : Dn} {q : Bool} {pos : Pos}
abbrev JIH (F : Fx) (X : Cx) (q : Bool) (tg iter : Expr) (M M' : List Md) (den : An) : Prop := PIH X tg iter (tI F q M M' den)
theorem jih_range1 {tg a : Expr} {p : Pos} (hg : Gl X "range") (hm : X.mg "range" = none) (ha : JA F X [a] M M1 [m] dA) (hs : starEach [a] X.env = [(false, eval a X.env)] := by rfl) : JIH F X false tg (.Call (.Name "range" p) [a] [] pos) M M1 (rng1 m dA) :=
  pih_imp (pih_range1 hg hm ha hs) fun σ H R ⟨P, B, S, Rr, io, eM, po⟩ => by
    refine ⟨P, B, S, Rr, io, eM, po.bind fun x _ po => ?_⟩
    intro vs B1 H1 S1 R1 e1 g1 s1 w1
    have hv := w1.hvs R1
    rw [g1] at hv
    split at po
    · rename_i j hj
      rw [hj] at hv
      obtain ⟨v, rfl, h⟩ := hv.one
      split at po
      · rename_i hz
        exact ⟨j, by rw [h.int], hz.1, hz.2, po _ B1 H1 S1 R1 e1 g1 s1 (wk_range 0 _)⟩
      · exact post_nope po
    · exact post_nope po
theorem je_lcH {elt tg iter : Expr} {ifs : List Expr} {scope : Scope} {own : List (Str × Nat)} {pos : Pos} (hc : L2H.HotC X) (hN : X.N.Nodup) (ok : BlkOk X.N X.env.scope scope own) (hi : JIH F X q tg iter M M1 di)
    (hb : ∀ (s : Shared) (H : Hp) (C : Addr) (cl : List (Str × Addr)) (fp : List Addr), JG F.blk (blkP X s H scope (compEnvC scope cl C X.env) fp) (some (own.map (·.2))) q tg (wipeM M1 (own.map (·.2))) M3 g ∧ JTs F.blk (blkP X s H scope (compEnvC scope cl C X.env) fp) ifs M3 M4 t ∧ JE F.blk (blkP X s H scope (compEnvC scope cl C X.env) fp) elt M4 M5 .fz e)
    (hM1 : notOw M1 (own.map (·.2)) = true := by rfl) (hM4 : wipeM M4 (own.map (·.2)) = wipeM M1 (own.map (·.2)) := by rfl) (hM5 : wipeM M5 (own.map (·.2)) = wipeM M1 (own.map (·.2)) := by rfl) (hn4 : notOw M4 (own.map (·.2)) = true := by rfl) (hn5 : notOw M5 (own.map (·.2)) = true := by rfl)
    (hs : ∀ x, foldedSetIterable iter X.env x = pure x := by intro _; rfl) :
    JE F X (.ListComp elt [⟨tg, iter, ifs, 0⟩] scope pos) M M1 .fr (lcD (own.map (·.2)) di g t e) :=
  pe_imp (pe_lcH hc hN hi ok (fun s H C cl fp => (hb s H C cl fp).1) (fun s H C cl fp => (hb s H C cl fp).2.1) (fun s H C cl fp => (hb s H C cl fp).2.2) hs) fun σ H Q h => lc_at hM1 hM4 hM5 hn4 hn5 h
end
end DL

set_option Elab.async false
set_option linter.all false
set_option maxRecDepth 100000
set_option maxHeartbeats 4000000
/-! DL, part 13: a lambda handed to a def that calls it, what it raises noted with its context (after HandS.Lambda, over L2N). -/
namespace DL
open PySem PySem.Spec PyProof.Rows L2 LamX

/-- all but the tables is kept, nothing goes -/
def ExtT (H H' : Hp) : Prop := ExtN H H' ∧ ∀ b, H b ≠ none → H' b ≠ none
/-- the context of the lambda's body -/
def lamCxN (X : Cx) (A : Around) (outer : List Env) (s : Shared) (H : Hp) (E : XK) (scope : Scope) (f c' : Addr) : Cx :=
  { lamCx X A outer s H E scope f c' with xe := fun e s' => wpAny (model X.prog X.w) (A.deeper (lamEnv X scope s.heap.objs.size f c')) (leaving (lamEnv X scope s.heap.objs.size f c') e) (fun _ s'' => L2N.CX X.prog X.w outer H s E e s'') (fun e' s'' => L2N.CX X.prog X.w outer H s E e' s'') s' }
theorem lam_startN {X : Cx} {A : Around} {outer : List Env} {s s1 : Shared} {H H' : Hp} {E : XK} {scope : Scope} {f c' : Addr} {pins : List (Addr × Obj)} {σ : L2.St} (J : Inv (lamCx X A outer s H E scope f c') pins σ H' s1) : Inv (lamCxN X A outer s H E scope f c') pins σ H' s1 :=
  ⟨⟨J.ok.mod, J.ok.kind, J.ok.glob, J.ok.blt, J.ok.above, J.ok.inj, J.ok.has, J.ok.cab, J.ok.hd, J.ok.frames, J.ok.stk, J.ok.exf, J.ok.bs, J.ok.bsz, J.ok.noex, J.ok.exfs, J.ok.funs, J.ok.frf⟩, J.os, J.bare, J.base, J.loc, J.cell, J.free, J.freeC, J.pin, J.hok, J.len⟩
theorem cxf_lam {X : Cx} {A : Around} {outer : List Env} {s : Shared} {H : Hp} {E : XK} {scope : Scope} {f c' : Addr} {c : Ct} {io : List Nat} : CxF ⟨c, io, E⟩ (lamCxN X A outer s H E scope f c') :=
  have tk := L2N.takes_of (X := lamCxN X A outer s H E scope f c') (E := E) rfl rfl rfl rfl
  ⟨L2N.passes_call tk fun _ _ _ _ h => h, passes_of rfl, tk⟩
section
variable {X : Cx} {pins : List (Addr × Obj)} {σ : L2.St} {H HZ : Hp} {s s1 : Shared}
/-- the lambda is made: its code object is new, or found in the table -/
theorem lam_makeN {T : List (Addr × Str)} {c P : Addr} {params : Arguments} {body : Expr} {scope : Scope} {pos : Pos} {E : Value → Shared → Prop} {Q : Value → Shared → Prop} (I : Inv X pins σ H s) (TB : TabB X.base X.mg c P) (hcode : X.env.code = .ref c)
    (hm : (P, X.env.qual ++ "<lambda>") ∈ T) (hu : ∀ p ∈ T, p.1 = P → p.2 = X.env.qual ++ "<lambda>") (hT : Tabs T H) (hdef : defaultsOf params X.env = ([], [])) (hfree : ∀ y ∈ scope.names, y.2 = .free → ∃ c, X.env.cells.lookup y.1 = some c)
    (h : ∀ (f c' : Addr) (pm ctv : Value) (H1 : Hp) (s' : Shared), Inv X pins σ H1 s' → ExtT H H1 → Tabs T H1 →
      s'.heap.get? f = some (PySem.W.kla_obj "<lambda>" (X.env.qual ++ "<lambda>") params body scope (cloFrom X.env.cells scope.names []) pm c' ctv) → H1 f = none → f ∉ frs X.stack → H1 c' = some (CodeO c' (X.env.qual ++ "<lambda>")) → Q (.ref f) s') :
    wpAny (model X.prog X.w) X.A (eval (.Lambda params body scope pos) X.env) Q E s := by
  obtain ⟨ps, hP, ht, ha⟩ := hT _ hm
  refine PySem.W.kla_eval hdef ?_
  have bP : s.heap.BuiltinsAt X.mg P := TB.bm.keeps I.bk
  have hP' : s.heap.get? P = some { cls := .none, data := .fields ps } := I.hok P _ hP
  have nofr : ∀ f, s.heap.objs.size ≤ f → f ∉ frs X.stack := fun f hf z => by
    rcases List.mem_cons.mp (I.stkSub _ z) with e | e
    · have h1 := I.lt
      rw [← e] at h1
      exact Nat.lt_irrefl _ (Nat.lt_of_lt_of_le h1 hf)
    · exact I.nofs hf e
  cases hc : codeAmong pos ps.toList with
  | none =>
    refine PySem.W.kla_makeFunction (mg := X.mg) (c := c) (P := P) (ps := ps) (closure_ok hfree) I.ok.glob (I.mod.glob.keeps I.bk) hcode (TB.code.keeps I.bk) hP' ht hc TB.gP bP fun c' ctv h' tk hx hge hlt hrec htb => ?_
    obtain ⟨c2, oc, vs, t, e2, hoc, hd, hv⟩ := hrec
    cases e2
    have hsz : s.heap.objs.size ≤ h'.objs.size := Nat.le_trans hge (Nat.le_of_lt hlt)
    have nC : H c' = none := I.hok.fresh hge
    have I1 := inv_table (t' := tk) (more := #[rawInt pos.line, rawInt pos.col, .ref c']) (h' := h'.push (PySem.W.kla_obj "<lambda>" (X.env.qual ++ "<lambda>") params body scope (cloFrom X.env.cells scope.names []) ((X.mg "__name__").getD .none) c' ctv)) I hP
      (fun b o hb e => Heap.get?_push_of_some _ (hx b o hb e)) (Heap.get?_push_of_some _ htb) hge ⟨oc, vs, t, Heap.get?_push_of_some _ hoc, hd, hv⟩
    have hE : ExtN H (upd (upd H P (.tbl (ps ++ #[rawInt pos.line, rawInt pos.col, .ref c']))) c' (CodeO c' (X.env.qual ++ "<lambda>"))) := fun b o e n => by
      rw [upd_ne (ne_of_none e nC), upd_ne (fun z => n ps (Option.some.inj (e.symm.trans (by rw [z]; exact hP))))]
      exact e
    have eL : (ps ++ #[rawInt pos.line, rawInt pos.col, .ref c']).toList = ps.toList ++ [rawInt pos.line, rawInt pos.col, .ref c'] := by simp
    refine h h'.objs.size c' ((X.mg "__name__").getD .none) ctv _ _ I1 ⟨hE, fun b hb => ?_⟩ (fun p hp => ?_) (Heap.get?_push_size _ rfl) ?_ (nofr _ hsz) upd_same
    · by_cases e1 : b = c'
      · rw [e1, upd_same]; exact fun z => nomatch z
      · rw [upd_ne e1]
        by_cases e2 : b = P
        · rw [e2, upd_same]; exact fun z => nomatch z
        · rw [upd_ne e2]; exact hb
    · by_cases hb : p.1 = P
      · rw [hu p hp hb, hb]
        refine ⟨_, by rw [upd_ne (ne_of_none hP nC), upd_same], by rw [eL]; exact PySem.TriplesOk_snoc _ _ _ _ ht, fun p' cv hcv => ?_⟩
        rw [eL] at hcv
        rcases among_app _ ht hcv with z | z
        · obtain ⟨c0, e1, e2⟩ := ha p' cv z
          exact ⟨c0, e1, hE _ _ e2 codeO_ne⟩
        · exact ⟨c', z, upd_same⟩
      · obtain ⟨ps', a1, a2, a3⟩ := hT p hp
        refine ⟨ps', by rw [upd_ne (ne_of_none a1 nC), upd_ne hb]; exact a1, a2, fun p' cv hcv => ?_⟩
        obtain ⟨c0, e1, e2⟩ := a3 p' cv hcv
        exact ⟨c0, e1, hE _ _ e2 codeO_ne⟩
    · have n1 : h'.objs.size ≠ c' := Nat.ne_of_gt hlt
      have n2 : h'.objs.size ≠ P := Nat.ne_of_gt (Nat.lt_of_lt_of_le (Heap.lt_size hP') hsz)
      rw [upd_ne n1, upd_ne n2]
      exact I.hok.fresh hsz
  | some cv =>
    obtain ⟨c', e, hco⟩ := ha pos cv hc
    subst e
    refine PySem.W.kla_makeFunctionHit (mg := X.mg) (c := c) (P := P) (ps := ps) (closure_ok hfree) I.ok.glob (I.mod.glob.keeps I.bk) hcode (TB.code.keeps I.bk) hP' ht hc bP fun ctv h' tk hx hsz => ?_
    have I1 : Inv X pins σ H { s with heap := h'.push (PySem.W.kla_obj "<lambda>" (X.env.qual ++ "<lambda>") params body scope (cloFrom X.env.cells scope.names []) ((X.mg "__name__").getD .none) c' ctv), toks := tk } := I.kept fun b o e => Heap.get?_push_of_some _ (hx b o e)
    exact h h'.objs.size c' ((X.mg "__name__").getD .none) ctv H _ I1 ⟨ExtN.refl H, fun _ h => h⟩ hT (Heap.get?_push_size _ rfl) (I.hok.fresh hsz) (nofr _ hsz) hco
/-- x(), in the def that got the lambda: Z is that def's context, entered at s -/
theorem pe_actN {CXg : CXT} {Eg : XK} {Ng : List Str} {qg : Str} {sg : Scope} {g f c' : Addr} {cdg pm ctv : Value} {params : Arguments} {body : Expr} {scope : Scope} {k i : Nat} {a : Str} {pn : List (Addr × Obj)} {xe : Value → Shared → Prop} {W : WX} {tb : XK → TE} {p1 p2 : Pos}
    (I : Inv X pins σ H s) (L : LamS X.env.scope scope) (hf : s.heap.get? f = some (PySem.W.kla_obj "<lambda>" (X.env.qual ++ "<lambda>") params body scope (cloFrom X.env.cells scope.names []) pm c' ctv)) (hfn : H f = none) (hfr : f ∉ frs X.stack)
    (hbind : bindArgs (PySem.W.kla_fn "<lambda>" (X.env.qual ++ "<lambda>") params body scope (cloFrom X.env.cells scope.names []) pm (.ref c') ctv) ⟨[], []⟩ = pure [])
    (tk : L2N.Takes ((cxOf CXg X.prog X.w X.K X.mg X.base Ng qg sg g cdg X.A X.stack s H Eg).tr pn xe) W) (hr : Room (k + 1) (X.A.deeper (envOfC qg sg s.heap.objs.size g cdg)))
    (hbody : ∀ (A : Around) (outer : List Env) (s : Shared) (H : Hp) (E : XK), Room k (A.deeper (lamEnv X scope s.heap.objs.size f c')) → PE (lamCxN X A outer s H E scope f c') body (tb E))
    (hN : Ng[i]? = some a) (hv : Vis sg a) (hd : (a == ("__debug__" : Str)) = false := by decide) (hcd : (a == ("__classdict__" : Str)) = false := by decide) :
    PE ((cxOf CXg X.prog X.w X.K X.mg X.base Ng qg sg g cdg X.A X.stack s H Eg).tr pn xe) (.Call (.Name a p1) [] [] p2)
      (fun σZ HZ Q => ∃ E : XK, (∀ cls d H', E cls d H' → W cls d σZ H') ∧ σZ[i]? = some (some (.ref f)) ∧ HZ c' = some (CodeO c' (X.env.qual ++ "<lambda>")) ∧ tb E σ HZ Q) := by
  refine ⟨fun pinsZ sZ σZ HZ Q IZ h => ?_⟩
  obtain ⟨E, hW, hs, hc, ht⟩ := h
  refine wpAny_Call_Name_kw (thn ((pe_var (pos := p1) (i := i) hN hv hd hcd).run pinsZ sZ σZ HZ (fun v H1 => v = .ref f ∧ H1 = HZ) IZ ⟨.ref f, hs, rfl, rfl⟩) fun u s1 ⟨v, H1, I1, r1, q1⟩ => ?_)
  obtain ⟨ev, eH⟩ := q1
  subst ev
  rw [eH] at I1
  obtain rfl : u = Value.ref f := r1
  have of1 : s1.heap.get? f = some (PySem.W.kla_obj "<lambda>" (X.env.qual ++ "<lambda>") params body scope (cloFrom X.env.cells scope.names []) pm c' ctv) := I1.base.keep f _ hf hfn hfr (fun z => nomatch (show f ∈ ([] : List Addr) from z))
  refine PySem.W.callWith_F0 ⟨_, _, _, _, of1⟩ ?_
  have un : Un (frs X.stack) [] H HZ s.heap s1.heap := I1.base
  obtain ⟨⟨oc, vs, t, hoc, hdc, hvc⟩, _, _⟩ := I1.hok c' _ hc
  have rc : codeAny (model X.prog X.w) (X.A.deeper (envOfC qg sg s.heap.objs.size g cdg)) (.call (.ref f) ⟨[], []⟩) (CR (L2N.CX X.prog X.w) (envOfC qg sg s.heap.objs.size g cdg :: X.stack) X.prog X.w HZ s1 Q E) s1 := by
    refine PySem.W.kla_callFunE hr.depth of1 rfl L.co L.gen rfl ⟨c', oc, vs, t, rfl, hoc, hdc, hvc⟩ ?_
    rw [hbind]
    refine wpAny_pure (wpAny_newFunctionEnv (fun y hy => (L.own y hy).2) (fun y hy => absurd hy (by simp)) (fun h₁ hns hsb => ⟨I1.nolimit.fresh _ hsb, ?_⟩) L.kind)
    show codeAny _ _ (.expr body (lamEnv X scope s1.heap.objs.size f c')) _ _
    have kp : ∀ b o, s1.heap.get? b = some o → h₁.get? b = some o := fun b o e => hsb.extBut b o (Nat.ne_of_lt (Heap.lt_size e)) (Heap.get?_push_of_some _ e)
    have J : Inv (lamCxN X (X.A.deeper (envOfC qg sg s.heap.objs.size g cdg)) (envOfC qg sg s.heap.objs.size g cdg :: X.stack) s1 HZ E scope f c') [] σ HZ { s1 with heap := h₁, toks := s1.toks + ([] : List (Str × Value)).length } :=
      lam_startN (lam_start2 I L I1.env0 hr.hd un hns kp)
    refine PySem.W.kla_codeExpr (wpAny_mono ((hbody _ _ s1 HZ E (hr.deeper _)).run [] _ _ HZ Q J ht) (fun v s' hq => ?_) fun e s' hq => hq)
    obtain ⟨w', H', J', rv, q⟩ := hq
    exact ⟨w', H', J'.os, J'.bare, J'.base, J'.hok, rv, q⟩
  refine wpAny_call (codeAny_mono rc fun r s' hq => ?_)
  cases r with
  | error e =>
    obtain ⟨a, B, H', cls, d, h1, h2, h3, h4, h5, h6, h7, h8⟩ := hq
    exact tk e s' (L2N.XE.of_call (E := WE W σZ) I1 (fun _ _ _ h => h) ⟨a, B, H', cls, d, h1, h2, h3, h4, h5, h6, h7, hW _ _ _ h8⟩)
  | ok fl =>
    cases fl with
    | ret u => exact I1.after hq
    | next => exact False.elim hq
    | brk => exact False.elim hq
    | cont => exact False.elim hq
end
/-- the def that calls what it got: a calls it; TT: what it makes of the lambda's reading -/
def GivesToN (X : Cx) (Ng : List Str) (x : Str) (sg : Scope) (g : Addr) (cdg : Value) (bg : List Stmt) (a : Str) (q : Str) (TT : (XK → Hp → VK → Prop) → Hp → VK → Prop) : Prop :=
  ∀ (f c' : Addr) (s : Shared) (H : Hp) (Q : VK) (tl : XK → Hp → VK → Prop),
    (∀ (W : WX) (pn : List (Addr × Obj)) (xe : Value → Shared → Prop) (p1 p2 : Pos), L2N.Takes ((cxOf C8.CX0 X.prog X.w X.K X.mg X.base Ng x sg g cdg X.A X.stack s H C8.E0).tr pn xe) W →
      PE ((cxOf C8.CX0 X.prog X.w X.K X.mg X.base Ng x sg g cdg X.A X.stack s H C8.E0).tr pn xe) (.Call (.Name a p1) [] [] p2) (fun σZ HZ Q => ∃ E : XK, (∀ cls d H', E cls d H' → W cls d σZ H') ∧ σZ[0]? = some (some (.ref f)) ∧ HZ c' = some (CodeO c' q) ∧ tl E HZ Q)) →
    H c' = some (CodeO c' q) → TT tl H Q →
    ∃ t, PSs (cxOf C8.CX0 X.prog X.w X.K X.mg X.base Ng x sg g cdg X.A X.stack s H C8.E0).nox bg t ∧ t { nx := fun _ H' => Q .non H', rt := Q } (L2.start Ng [.ref f]) H
def tLamN (T : List (Addr × Str)) (TT : (XK → Hp → VK → Prop) → Hp → VK → Prop) (t : XK → TE) : TE := fun σ H Q => Tabs T H ∧ ∀ H1, ExtT H H1 → Tabs T H1 → TT (fun E H' Q' => t E σ H' Q') H1 Q
section
variable {X : Cx}
/-- x(lambda: body) -/
theorem pe_lamcallN {T : List (Addr × Str)} {TT : (XK → Hp → VK → Prop) → Hp → VK → Prop} {x a : Str} {g c P : Addr} {k : Nat} {pg : Arguments} {bg : List Stmt} {sg : Scope} {dV kV doc pm cdv ct oc : Value} {an od : Option Addr} {osl : Array (Option Value)} {Ng : List Str}
    {params : Arguments} {body : Expr} {scope : Scope} {t : XK → TE} {p lpos pos : Pos} (hg : Gl X x) (hm : X.mg x = some (.ref g)) (hk : PySem.W.keepIn X.K (.ref g) = true)
    (lk : X.K.lookup g = some ⟨oc, od, .func (PySem.W.fnOf x x pg bg sg dV kV doc pm an cdv ct), osl⟩) (hcg : PySem.W.codeIn X.K cdv x = true) (hb : L2.Binds X.K (PySem.W.fnOf x x pg bg sg dV kV doc pm an cdv ct) [a] []) (Sg : FnScope Ng [a] sg) (hNg : Ng[0]? = some a) (hva : Vis sg a)
    (hG : GivesToN X Ng x sg g cdv bg a (X.env.qual ++ "<lambda>") TT)
    (TB : TabB X.base X.mg c P) (hcode : X.env.code = .ref c) (hmT : (P, X.env.qual ++ "<lambda>") ∈ T) (hu : ∀ p ∈ T, p.1 = P → p.2 = X.env.qual ++ "<lambda>") (hr : Room (k + 2) X.A) (L : LamS X.env.scope scope) (hdef : defaultsOf params X.env = ([], []))
    (hbind : ∀ (q : Str) (cl : List (Str × Addr)) (pm cv ctv : Value), bindArgs (PySem.W.kla_fn "<lambda>" q params body scope cl pm cv ctv) ⟨[], []⟩ = pure [])
    (hbody : ∀ (A : Around) (outer : List Env) (s : Shared) (H : Hp) (E : XK) (f c' : Addr), Room k (A.deeper (lamEnv X scope s.heap.objs.size f c')) → PE (lamCxN X A outer s H E scope f c') body (t E))
    (hdb : (x == ("__debug__" : Str)) = false := by decide) (hd : (a == ("__debug__" : Str)) = false := by decide) (hcd : (a == ("__classdict__" : Str)) = false := by decide) :
    PE X (.Call (.Name x p) [.Lambda params body scope lpos] [] pos) (tLamN T TT t) := by
  refine ⟨fun pins s σ H Q I h => ?_⟩
  obtain ⟨hT, h⟩ := h
  refine wpAny_Call_Name_kw (ld_glob I hg hm ?_ hdb)
  refine PySem.W.callWith_K (h₀ := X.base) I.ok.mod.kin hk ?_ (by rfl) (by rfl)
  show wpAny _ _ (spliced ((false, eval (.Lambda params body scope lpos) X.env) :: backTo pos (starEach [] X.env))) _ _ s
  refine Calls.spliced_cons (lam_makeN I TB hcode hmT hu hT hdef (L.has I.ok) fun f c' pm' ctv H1 s' I1 eN T1 hf hfn hfr hco => ?_)
  refine Calls.spliced_nil ⟨I1.kIn, ?_⟩
  have rc : codeAny (model X.prog X.w) X.A (.call (.ref g) ⟨[.ref f], []⟩) (CR C8.CX0 X.stack X.prog X.w H1 s' Q C8.E0) s' := by
    refine run_ofS (N := Ng) (ps := [a]) (us := [.ref f]) (vs := [.ref f]) lk hcg Sg hr I1.env0 (hb s' [.ref f] I1.kIn rfl) (.cons rfl .nil) rfl fun hr' => ?_
    obtain ⟨t', ht', hq'⟩ := hG f c' s' H1 Q (fun E H' Q' => t E σ H' Q') (fun W pn xe p1 p2 tk => pe_actN (i := 0) (tb := t) I1 L hf hfn hfr (hbind _ _ _ _ _) tk hr' (fun A outer s H E hr2 => hbody A outer s H E f c' hr2) hNg hva hd hcd) hco (h H1 eN T1)
    exact ⟨t', ht'.nox, hq'⟩
  refine wpAny_call (codeAny_mono rc fun r s2 hq => ?_)
  cases r with
  | error e => exact (show False from hq).elim
  | ok fl =>
    cases fl with
    | ret u => exact I1.after hq
    | next => exact False.elim hq
    | brk => exact False.elim hq
    | cont => exact False.elim hq
end
end DL

set_option Elab.async false
set_option linter.all false
set_option maxRecDepth 100000
set_option maxHeartbeats 4000000
/-! DL, part 14: what a caught exception is asked; f(lambda: e) with f(call): try: return ('..', call()) / except x as e: ... -/
namespace DL
open PySem PySem.Spec PyProof.Rows L2

/-! ### isinstance(e, y), e.f -/
theorem RepF.look {c : Ct} {B : Hp} {f : Str} : ∀ {vs : List (Str × V)} {ds : List (Str × D)}, RepF c B vs ds → (ds.lookup f = none) ∨ ∃ d v, ds.lookup f = some d ∧ vs.lookup f = some v ∧ Rep c B v d
  | _, _, .nil => .inl rfl
  | _, _, .cons (k := k) (v := v) (d := d) r t => by
    rw [List.lookup_cons, List.lookup_cons]
    cases q : (f == k) with
    | true => exact .inr ⟨d, v, rfl, rfl, r⟩
    | false => exact RepF.look t
section
variable {F : Fx} {X : Cx} {a C : Addr} {oe : Obj} {d : Option Addr} {pn : List (Addr × Obj)} {M : List Md} {pos p pe py : Pos} {x y e f : Str} {i : Nat}
theorem call_isE2 (hC : ExcC X.K C) (hz : Zc (.ref C) d oe) (hf : ∃ vs, oe.data = .fields vs) : CallR (X.suite a ((a, oe) :: pn)) (.builtin "isinstance") (fun xs H Q => ∃ (c : V) (cv : Value) (b : Bool), xs = [.ref a, c] ∧ (∀ u, RelV c u → u = cv) ∧ PySem.W.kitOne X.K (.ref C) cv = some b ∧
    (∀ dd, d = some dd → ∃ fs, H dd = some (.xd fs)) ∧ Q (.bl b) H) := by
  intro pins s σ H xs us Q I r h
  obtain ⟨c, cv, b, rfl, hcv, e, hdd, q⟩ := h
  cases r with
  | cons rx rr =>
    cases rr with
    | cons rt rr =>
      cases rr
      cases rx
      have ec := hcv _ rt
      subst ec
      obtain ⟨hget, _⟩ := I.pin (a, oe) (List.mem_append.mpr (.inl List.mem_cons_self))
      obtain ⟨vs, hv⟩ := hf
      obtain ⟨cd, hcl, _⟩ := PySem.W.any_some hC.hd
      have J : ∃ od, PySem.W.InstAt s.heap a oe C od := by
        obtain ⟨oc, odd, oda, osl⟩ := oe
        obtain ⟨h1, h2⟩ := hz
        dsimp only at h1 h2 hv
        subst h1 h2 hv
        cases odd with
        | none => exact ⟨none, hget, rfl, rfl, trivial⟩
        | some dd =>
          obtain ⟨fs, hx⟩ := hdd dd rfl
          obtain ⟨mA, hns, _⟩ : ObjOk X.prog X.w H s.heap dd (.xd fs) := I.hok dd _ hx
          obtain ⟨od, ho, _⟩ := lookIn_ns hns
          exact ⟨some od, hget, rfl, rfl, ho⟩
      obtain ⟨od, J⟩ := J
      exact PySem.W.kia_one (PySem.W.kitx_exc (by rw [hcl]; rfl) hC.hg hC.hk hC.hs hC.ha hC.hn hC.ht hC.hm) I.kIn J e (fun z => nomatch z) fun tk => ⟨.bl b, H, I.kept (t' := tk) fun _ _ z => z, rfl, q⟩
/-- a: the exception's object, d: its dict, x: its class -/
def isE (a : Addr) (d : Option Addr) (x : Str) (b : Bool) : D → Rs D
  | .exn a' d' x' _ => if a' = a ∧ d' = d ∧ x' = x then .ok (.bl b) else nope
  | _ => nope
def fldE (a : Addr) (d : Option Addr) (x f : Str) : D → Rs D
  | .exn a' d' x' fs => if a' = a ∧ d' = d ∧ x' = x then (match fs.lookup f with
    | some z => if d = none then nope else .ok z
    | none => nope) else nope
  | _ => nope
theorem exn_at {c : Ct} {B H : Hp} {v : V} {a : Addr} {d : Option Addr} {x : Str} {fs : List (Str × D)} (e : Sub B H) (h : HV c B H v (.exn a d x fs)) : v = .ref a ∧ (∀ dd, d = some dd → ∃ vs, H dd = some (.xd vs) ∧ RepF c B vs fs) := by
  rcases h with h | ⟨p, o, rfl, ho, h, hm⟩
  · cases h with
    | exn0 _ _ => exact ⟨rfl, fun dd z => by cases z⟩
    | exn1 h1 h2 => exact ⟨rfl, fun dd z => by cases z; exact ⟨_, e _ _ h1, h2⟩⟩
    | ref _ h => cases h
  · cases h
/-- isinstance(e, y), y: what RelV c cv tells -/
theorem je_isEv {b : Bool} {n : Expr} {c : V} {cv : Value} (hC : ExcC X.K C) (hz : L2N.Zn (.ref C) d oe) (hf : ∃ vs, oe.data = .fields vs) (hk : PySem.W.kitOne X.K (.ref C) cv = some b) (hcv : ∀ u, RelV c u → u = cv) (hm : X.mg "isinstance" = none) (hn : PE (X.suite a ((a, oe) :: pn)) n (tC c)) (hg : Gl X "isinstance" := by rfl)
    (hM : M[i]? = some .fz := by rfl) (hN : X.N[i]? = some e := by rfl) (hv : Vis X.env.scope e := by first | exact Or.inl rfl | exact Or.inr (Or.inl rfl) | exact Or.inr (Or.inr rfl)) (hd : (e == ("__debug__" : Str)) = false := by decide) (hcd : (e == ("__classdict__" : Str)) = false := by decide)
    (he : starEach [.Name e pe, n] X.env = (false, eval (.Name e pe) X.env) :: starEach [n] X.env := by rfl) (hpl : (backTo pos (starEach [n] X.env)).any (·.1) = false := by rfl) (hs : starEach [n] X.env = (false, eval n X.env) :: starEach [] X.env := by rfl) :
    JE F (X.suite a ((a, oe) :: pn)) (.Call (.Name "isinstance" p) [.Name e pe, n] [] pos) M M .fz (unD (isE a d x b) .fz (gV i)) := by
  have hv' : JE F (X.suite a ((a, oe) :: pn)) (.Name e pe) M M .fz (gV i) := je_var (pe_var hN hv hd hcd) hM
  refine pe_imp (pe_callB (call_isE2 hC hz.zc hf) hg hm (by decide +kernel) (pa_cons hv' (pa_cons hn pa_nil hs) he) (by decide) (by decide) he hpl) fun σ H Q h => un_at (m := .fz) (r := fun z H1 Q => ∃ (c' : V) (cv' : Value) (b' : Bool), ([z, c] : List V) = [.ref a, c'] ∧ (∀ u, RelV c' u → u = cv') ∧ PySem.W.kitOne X.K (.ref C) cv' = some b' ∧
    (∀ dd, d = some dd → ∃ fs, H1 dd = some (.xd fs)) ∧ Q (.bl b') H1) (fun P B σ H S z dz Q R hx po => ?_) h
  unfold isE at po
  split at po
  · split at po
    · rename_i hq
      obtain ⟨rfl, rfl, rfl⟩ := hq
      obtain ⟨h1, h2⟩ := exn_at R.ext hx
      refine ⟨c, cv, b, by rw [h1], hcv, hk, fun dd e => ?_, as_is R (.bl b) po⟩
      obtain ⟨vs, h3, _⟩ := h2 dd e
      exact ⟨vs, h3⟩
    · exact post_nope po
  · exact post_nope po
/-- y a class of the text -/
theorem je_isE {b : Bool} {Cy : Addr} (hC : ExcC X.K C) (hz : L2N.Zn (.ref C) d oe) (hf : ∃ vs, oe.data = .fields vs) (hk : PySem.W.kitOne X.K (.ref C) (.ref Cy) = some b) (hm : X.mg "isinstance" = none) (hy : X.mg y = some (.ref Cy)) (hg : Gl X "isinstance" := by rfl) (hgy : Gl X y := by rfl)
    (hM : M[i]? = some .fz := by rfl) (hN : X.N[i]? = some e := by rfl) (hv : Vis X.env.scope e := by first | exact Or.inl rfl | exact Or.inr (Or.inl rfl) | exact Or.inr (Or.inr rfl)) (hd : (e == ("__debug__" : Str)) = false := by decide) (hcd : (e == ("__classdict__" : Str)) = false := by decide) (hdy : (y == ("__debug__" : Str)) = false := by decide)
    (he : starEach [.Name e pe, .Name y py] X.env = (false, eval (.Name e pe) X.env) :: starEach [.Name y py] X.env := by rfl) (hpl : (backTo pos (starEach [.Name y py] X.env)).any (·.1) = false := by rfl) (hs : starEach [.Name y py] X.env = (false, eval (.Name y py) X.env) :: starEach [] X.env := by rfl) :
    JE F (X.suite a ((a, oe) :: pn)) (.Call (.Name "isinstance" p) [.Name e pe, .Name y py] [] pos) M M .fz (unD (isE a d x b) .fz (gV i)) :=
  je_isEv (c := .ref Cy) (cv := .ref Cy) hC hz hf hk (fun u r => by cases r; rfl) hm (pe_glob (X := X.suite a ((a, oe) :: pn)) (v := .ref Cy) hgy hy rfl hdy) hg hM hN hv hd hcd he hpl hs
/-- y built in -/
theorem je_isEB {T : String} {b : Bool} (hC : ExcC X.K C) (hz : L2N.Zn (.ref C) d oe) (hf : ∃ vs, oe.data = .fields vs) (hk : PySem.W.kitOne X.K (.ref C) (.type T) = some b) (hm : X.mg "isinstance" = none) (hy : X.mg y = none) (hb : bootBuiltins y = some (.type T)) (hg : Gl X "isinstance" := by rfl) (hgy : Gl X y := by rfl)
    (hM : M[i]? = some .fz := by rfl) (hN : X.N[i]? = some e := by rfl) (hv : Vis X.env.scope e := by first | exact Or.inl rfl | exact Or.inr (Or.inl rfl) | exact Or.inr (Or.inr rfl)) (hd : (e == ("__debug__" : Str)) = false := by decide) (hcd : (e == ("__classdict__" : Str)) = false := by decide) (hny : y ≠ "__name__" := by decide) (hdy : (y == ("__debug__" : Str)) = false := by decide)
    (he : starEach [.Name e pe, .Name y py] X.env = (false, eval (.Name e pe) X.env) :: starEach [.Name y py] X.env := by rfl) (hpl : (backTo pos (starEach [.Name y py] X.env)).any (·.1) = false := by rfl) (hs : starEach [.Name y py] X.env = (false, eval (.Name y py) X.env) :: starEach [] X.env := by rfl) :
    JE F (X.suite a ((a, oe) :: pn)) (.Call (.Name "isinstance" p) [.Name e pe, .Name y py] [] pos) M M .fz (unD (isE a d x b) .fz (gV i)) :=
  je_isEv (c := .ty T) (cv := .type T) hC hz hf hk (fun u r => r) hm (pe_ty (X := X.suite a ((a, oe) :: pn)) hgy hy hb hny hdy) hg hM hN hv hd hcd he hpl hs
/-- e.f -/
theorem je_fldE (T : XfC X.K C) (hno : PySem.W.findIn X.K (.ref C) f = some none) (hz : L2N.Zn (.ref C) d oe) (hf : ∃ vs, oe.data = .fields vs)
    (hM : M[i]? = some .fz := by rfl) (hN : X.N[i]? = some e := by rfl) (hv : Vis X.env.scope e := by first | exact Or.inl rfl | exact Or.inr (Or.inl rfl) | exact Or.inr (Or.inr rfl)) (hd : (e == ("__debug__" : Str)) = false := by decide) (hcd : (e == ("__classdict__" : Str)) = false := by decide)
    (hb : attributeBase (.Name e pe) f X.env (eval (.Name e pe) X.env) = eval (.Name e pe) X.env := by rfl) :
    JE F (X.suite a ((a, oe) :: pn)) (.Attribute (.Name e pe) f pos) M M .fz (unD (fldE a d x f) .fz (gV i)) := by
  have hv' : JE F (X.suite a ((a, oe) :: pn)) (.Name e pe) M M .fz (gV i) := je_var (pe_var hN hv hd hcd) hM
  refine pe_imp (pe_xf T hno hz.zc hf hv' hb) fun σ H Q h => un_at (m := .fz) (r := fun z H1 Q => z = .ref a ∧ (.ref C : Value) = .ref C ∧ ∃ (dd : Addr) (fs : List (Str × V)) (v : V), d = some dd ∧ H1 dd = some (.xd fs) ∧ fs.lookup f = some v ∧ Q v H1) (fun P B σ H S z dz Q R hx po => ?_) h
  unfold fldE at po
  split at po
  · split at po
    · rename_i hq
      obtain ⟨rfl, rfl, rfl⟩ := hq
      obtain ⟨h1, h2⟩ := exn_at R.ext hx
      split at po
      · rename_i z hz
        split at po
        · exact post_nope po
        · rename_i hne
          obtain ⟨dd, hdd⟩ := Option.ne_none_iff_exists'.mp hne
          obtain ⟨vs, h3, h4⟩ := h2 dd hdd
          rcases h4.look (f := f) with h5 | ⟨d5, v5, h5, h6, h7⟩
          · rw [h5] at hz; cases hz
          · rw [h5] at hz
            cases hz
            exact ⟨h1, rfl, dd, vs, v5, hdd, h3, h6, as_is R h7 po⟩
      · exact post_nope po
    · exact post_nope po
  · exact post_nope po
end
end DL

set_option Elab.async false
set_option linter.all false
set_option maxRecDepth 100000
set_option maxHeartbeats 4000000
/-! DL, part 15: answer(lambda: e), answer(call): try: return ('..', call()) / except x as e: ... -/
namespace DL
open PySem PySem.Spec PyProof.Rows L2 LamX

def fsOf : Option (Str × D) → List (Str × D)
  | none => []
  | some q => [q]
def ddOk : Option Addr → Option (Str × D) → Bool
  | none, none => true
  | some _, some _ => true
  | _, _ => false
theorem sr0 {c : Ct} {B H : Hp} (h1 : Sub B H) (h2 : ∀ a ps, B a ≠ some (.tbl ps)) (h3 : LamX.Tabs c.T H) : SR c [] B [] H [] where
  len := rfl
  ext := h1
  ntb := h2
  tab := h3
  ok := fun i s e => by simp at e
  inj := fun i j l d e h _ => by simp at h
  pin := fun q h => nomatch h
theorem noIn0 (a : Addr) : ¬ InA [] a := fun ⟨i, d, e⟩ => by simp at e
/-- what stands while the answer is made: the maker's slots, kept through what is new -/
def GoodS (c : Ct) (G : Hp → Hp → Prop) : Prop :=
  (∀ B H, G B H → Sub B H ∧ (∀ a ps, B a ≠ some (.tbl ps)) ∧ LamX.Tabs c.T H) ∧
  (∀ B H B' H' σ S S', G B H → SR c [] B' σ H' S' → Step S S' B B' H H' → (∀ a, ¬ InA S a) → G B' H')
/-- what the answering def makes of a lambda whose reading is tl -/
def TTans (c : Ct) (xs : List Str) (told : Str) (CS : Addr) (ansE : Str → Option (Str × D) → Rs D) : (XK → Hp → VK → Prop) → Hp → VK → Prop := fun tl H Q =>
  ∃ (G : Hp → Hp → Prop) (B : Hp) (r : Rs D), GoodS c G ∧ G B H ∧
    (∀ (E : XK) (Q' : VK), (match r with
      | .ok d => ∀ v B' H', G B' H' → Rep c B' v d → Q' v H'
      | .error (.exc x p) => ∀ B' H' dd, G B' H' → Pay c B' H' dd p → E (.ref (c.ca x)) dd H'
      | .error .bad => False) → tl E H Q') ∧
    (match r with
      | .ok d => ∀ v B' H', G B' H' → Rep c B' v (.tup [.str told, d]) → Q v H'
      | .error (.exc x p) => x ∈ xs ∧ PySem.W.exmOne c.K (.ref (c.ca x)) (.ref CS) = some true ∧ ∃ d, ansE x p = .ok d ∧ ∀ v B' H', G B' H' → Rep c B' v d → Q v H'
      | .error .bad => False)
theorem hot_suite {Z : Cx} {a : Addr} {oe : Obj} {cls : Value} {d : Option Addr} {pn : List (Addr × Obj)} (hz : L2N.Zn cls d oe) (hf : ∃ vs, oe.data = .fields vs) : L2H.HotC (Z.suite a ((a, oe) :: pn)) := by
  obtain ⟨vs, h⟩ := hf
  exact ⟨(a, oe), ⟨rfl, vs, h, hz.2.2 vs h⟩, List.mem_cons_self⟩
theorem start_one {n : Nat} {f : Addr} {Ng : List Str} (h : Ng.length = n + 1) : L2.start Ng [V.ref f] = some (.ref f) :: List.replicate n none := by
  unfold L2.start
  rw [h]
  rfl
section
variable {X : Cx} {Ng : List Str} {x a en n q told : Str} {sg : Scope} {g CS : Addr} {cdg : Value} {i m k : Nat} {b₀ : Stmt} {suite : List Stmt} {j : Nat} {p1 p2 p3 p4 p7 p8 p9 p10 : Pos} {c : Ct} {xs : List Str} {ansE : Str → Option (Str × D) → Rs D} {ds : Addr → Option Addr → Str → Sn} {Mn Mb Mc : List Md}
theorem ans_gives (hcK : c.K = X.K) (hNl : Ng.length = m + 1) (hNd : Ng.Nodup) (hi : Ng[i]? = some n) (hln : sg.names.lookup n = some .local) (hi0 : i ≠ 0) (hge : sg.names.lookup en = some .globalImplicit) (hme : X.mg en = some (.ref CS)) (hde : (en == ("__debug__" : Str)) = false)
    (hsuite : ∀ (s : Shared) (H : Hp) (a0 : Addr) (oe : Obj) (x0 : Str) (dd : Option Addr) (pn : List (Addr × Obj)), x0 ∈ xs → L2N.Zn (.ref (c.ca x0)) dd oe → (∃ vs, oe.data = .fields vs) →
      JB ⟨c, [], E0⟩ ((cxOf C8.CX0 X.prog X.w X.K X.mg X.base Ng x sg g cdg X.A X.stack s H C8.E0).nox.suite a0 ((a0, oe) :: pn)) (b₀ :: suite) ((Md.fz :: List.replicate m Md.un).set i .fz) Mn Mb Mc .fz (ds a0 dd x0))
    (hev : ∀ (a0 : Addr) (dd : Option Addr) (x0 : Str) (p : Option (Str × D)) (d0 : D) (f : Addr), x0 ∈ xs → ddOk dd p = true → ansE x0 p = .ok d0 → ∃ Γ, ds a0 dd x0 ((D.raw (.ref f) :: List.replicate m .non).set i (.exn a0 dd x0 (fsOf p))) = .ok (.ret d0 Γ)) :
    GivesToN X Ng x sg g cdg [.Try [.Return (some (.Tuple [.Constant (.str told) j p9, .Call (.Name a p1) [] [] p2] k p10)) p3] [.ExceptHandler (some (.Name en p4)) (some n) (b₀ :: suite) p7] [] [] p8] a q (TTans c xs told CS ansE) := by
  intro f c' s H Q tl act hc h
  obtain ⟨G, B, r, ⟨g1, g2⟩, hG, hl, hr⟩ := h
  have est := start_one (f := f) hNl
  have hil : i < m + 1 := by
    rw [← hNl]
    exact (List.getElem?_eq_some_iff.mp hi).1
  refine ⟨_, pss_one (L2N.ps_try_as (X := (cxOf C8.CX0 X.prog X.w X.K X.mg X.base Ng x sg g cdg X.A X.stack s H C8.E0).nox) (n := n) (i := i) (c := .ref CS) (x := en)
      (tb := fun W => tRet (tTupF (tCons (tC (.str told)) (tCons (fun σZ HZ Q => ∃ E : XK, (∀ cls d H', E cls d H' → W cls d σZ H') ∧ σZ[0]? = some (some (.ref f)) ∧ HZ c' = some (CodeO c' q) ∧ tl E HZ Q) tNil))))
      (ts := fun a0 cls d D σ H => ∃ x0, cls = .ref (c.ca x0) ∧ x0 ∈ xs ∧ tS ⟨c, [], E0⟩ ((Md.fz :: List.replicate m Md.un).set i .fz) Mn Mb Mc .fz (ds a0 d x0) D σ H)
      rfl rfl hNd hi hln ⟨hge, hde, .inl hme⟩ takesN (fun W pn xe tk own => ?_) (fun a0 oe cls d pn hz hf => ?_)), ?_⟩
  · have hp := act W pn xe p1 p2 tk
    have hq := pss_one (ps_ret (pos := p3) (pe_tupF (pos := p10) (x1 := k) (pa_cons (e := .Constant (.str told) j p9) pe_str (pa_cons hp pa_nil rfl) rfl)))
    exact ⟨fun pins s σ H D I h' => hq.run pins s σ H D I h'⟩
  · refine ⟨fun pins s σ H D I ⟨x0, ecls, hx0, w⟩ => ?_⟩
    subst ecls
    exact (hsuite _ _ a0 oe x0 d pn hx0 hz hf).run pins s σ H D I w
  · show ∃ E : XK, _
    refine ⟨fun cls d H' => wAs X.K (.ref CS) i (fun a0 cls d D σ H => ∃ x0, cls = .ref (c.ca x0) ∧ x0 ∈ xs ∧ tS ⟨c, [], E0⟩ ((Md.fz :: List.replicate m Md.un).set i .fz) Mn Mb Mc .fz (ds a0 d x0) D σ H) (fun _ _ _ _ => False) { nx := fun _ H' => Q .non H', rt := Q } cls d (L2.start Ng [V.ref f]) H', fun _ _ _ z => z, by rw [est]; rfl, hc, hl _ _ ?_⟩
    cases r with
    | ok d =>
      intro v B' H' hG' rv
      obtain ⟨h1, h2, h3⟩ := g1 _ _ hG'
      refine ⟨small_line (by show 2 ≤ 1000; decide), ?_⟩
      exact new_tup (sr0 h1 h2 h3) (.cons (.str told) (.cons rv .nil)) fun v B2 H2 R2 s2 w2 => hr v B2 H2 (g2 B' H' B2 H2 [] [] [] hG' R2 s2 noIn0) w2
    | error er =>
      cases er with
      | bad => exact hr.elim
      | exc x0 p =>
        obtain ⟨hx0, hex, d0, hd0, hq⟩ := hr
        intro B' H' dd hG' pay
        obtain ⟨h1, h2, h3⟩ := g1 _ _ hG'
        refine ⟨true, by rw [← hcK]; exact hex, fun _ a0 ha0 => ⟨x0, rfl, hx0, ?_⟩, fun z => nomatch z⟩
        -- the exception's dict is kept
        obtain ⟨B2, hs2, he2, hn2, ho2, hrep, hdd⟩ : ∃ B2 : Hp, Sub B' B2 ∧ Sub B2 H' ∧ (∀ a ps, B2 a ≠ some (.tbl ps)) ∧ (∀ a o, H' a = some o → B' a = none → isMut o = true → B2 a = none) ∧ Rep c B2 (.ref a0) (.exn a0 dd x0 (fsOf p)) ∧ ddOk dd p = true := by
          cases p with
          | none =>
            obtain rfl : dd = none := pay
            exact ⟨B', Sub.refl _, h1, h2, fun _ _ _ b _ => b, .exn0 a0 x0, rfl⟩
          | some fd =>
            obtain ⟨f0, d1⟩ := fd
            obtain ⟨aa, v1, rfl, ha, r1⟩ := pay
            cases hb : B' aa with
            | some o =>
              have e1 := h1 aa o hb
              rw [ha] at e1
              cases e1
              exact ⟨B', Sub.refl _, h1, h2, fun _ _ _ b _ => b, .exn1 hb (.cons r1 .nil), rfl⟩
            | none =>
              refine ⟨upd B' aa (.xd [(f0, v1)]), Sub.upd_at hb, fun b o e => ?_, fun b ps e => ?_, fun b o e hbn hm => ?_, .exn1 upd_same (.cons (r1.mono (Sub.upd_at hb)) .nil), rfl⟩
              · by_cases q : b = aa
                · rw [q, upd_same] at e; cases e; rw [q]; exact ha
                · rw [upd_ne q] at e; exact h1 b o e
              · by_cases q : b = aa
                · rw [q, upd_same] at e; cases e
                · rw [upd_ne q] at e; exact h2 b ps e
              · by_cases q : b = aa
                · rw [q, ha] at e; cases e; cases hm
                · rw [upd_ne q]; exact hbn
        obtain ⟨Γ1, hev1⟩ := hev a0 dd x0 p d0 f hx0 hdd hd0
        have R : SR c [] B2 ((L2.start Ng [V.ref f]).set i (some (.ref a0))) H' ((Slot.fz (.ref f) (.raw (.ref f)) :: List.replicate m (.un .non)).set i (.fz (.ref a0) (.exn a0 dd x0 (fsOf p)))) := by
          refine ⟨by rw [est]; simp, he2, hn2, h3, fun y s e => ?_, fun y z l d e h1 _ => ?_, fun q hq => nomatch hq⟩
          · by_cases hy : i = y
            · subst hy
              rw [List.getElem?_set_self (by simp; omega)] at e
              cases e
              exact ⟨by rw [est, List.getElem?_set_self (by simp; omega)], hrep⟩
            · rw [List.getElem?_set_ne hy] at e
              cases y with
              | zero =>
                cases e
                exact ⟨by rw [List.getElem?_set_ne hy, est] <;> rfl, .raw _⟩
              | succ y =>
                rw [List.getElem?_cons_succ, List.getElem?_replicate] at e
                split at e
                · cases e; trivial
                · cases e
          · exfalso
            by_cases hy : i = y
            · subst hy
              rw [List.getElem?_set_self (by simp; omega)] at h1
              cases h1
            · rw [List.getElem?_set_ne hy] at h1
              cases y with
              | zero => cases h1
              | succ y =>
                rw [List.getElem?_cons_succ, List.getElem?_replicate] at h1
                split at h1 <;> cases h1
        have hno : ∀ b, ¬ InA ((Slot.fz (.ref f) (.raw (.ref f)) :: List.replicate m (.un .non)).set i (.fz (.ref a0) (.exn a0 dd x0 (fsOf p)))) b := fun b ⟨y, d, h1⟩ => by
          by_cases hy : i = y
          · subst hy
            rw [List.getElem?_set_self (by simp; omega)] at h1
            cases h1
          · rw [List.getElem?_set_ne hy] at h1
            cases y with
            | zero => cases h1
            | succ y =>
              rw [List.getElem?_cons_succ, List.getElem?_replicate] at h1
              split at h1 <;> cases h1
        refine ⟨[], B2, _, R, rfl, by rw [mds, List.map_set, List.map_cons, List.map_replicate] <;> rfl, post_ok (a := .ret d0 Γ1) ?_ ?_⟩
        · rw [dts, List.map_set, List.map_cons, List.map_replicate]
          exact hev1
        · intro v σ' Bf Hf Sf Rf gf st w
          refine hq v Bf Hf (g2 B' H' Bf Hf σ' _ Sf hG' ?_ ?_ hno) w
          · exact ⟨Rf.len, Rf.ext, Rf.ntb, Rf.tab, Rf.ok, Rf.inj, Rf.pin⟩
          · exact ⟨hs2.trans st.grow, st.keep, st.stay, fun b o e hb n hm => st.out b o e (ho2 b o e hb hm) n hm, st.adr⟩
end
end DL

set_option Elab.async false
set_option linter.all false
set_option maxRecDepth 100000
set_option maxHeartbeats 4000000
/-! DL, part 16: the call answer(lambda: e) as an expression. -/
namespace DL
open PySem PySem.Spec PyProof.Rows L2 LamX

/-- a def that answers a lambda -/
structure AnsC (pr : Program) (w : World) (K : PySem.W.Frag) (mg : Str → Option Value) (base : Heap) (c : Ct) (x : Str) (told : Str) (xs : List Str) (ansE : Str → Option (Str × D) → Rs D) : Prop where
  ok : ∃ (a : Str) (g CS : Addr) (pg : Arguments) (bg : List Stmt) (sg : Scope) (dV kV doc pm cdv ct oc : Value) (an od : Option Addr) (osl : Array (Option Value)) (Ng : List Str),
    mg x = some (.ref g) ∧ PySem.W.keepIn K (.ref g) = true ∧ K.lookup g = some ⟨oc, od, .func (PySem.W.fnOf x x pg bg sg dV kV doc pm an cdv ct), osl⟩ ∧ PySem.W.codeIn K cdv x = true ∧ Binds K (PySem.W.fnOf x x pg bg sg dV kV doc pm an cdv ct) [a] [] ∧ FnScope Ng [a] sg ∧
    Ng[0]? = some a ∧ Vis sg a ∧ (a == ("__debug__" : Str)) = false ∧ (a == ("__classdict__" : Str)) = false ∧ (∀ x p d, ansE x p = .ok d → x ∈ xs ∧ PySem.W.exmOne c.K (.ref (c.ca x)) (.ref CS) = some true) ∧
    ∀ (X : Cx) (q : Str), X.prog = pr → X.w = w → X.K = K → X.mg = mg → X.base = base → GivesToN X Ng x sg g cdv bg a q (TTans c xs told CS ansE)
/-- what a def with lambdas must know of its code object -/
structure LamT (base : Heap) (mg : Str → Option Value) (T : List (Addr × Str)) (cd : Value) (q : Str) : Prop where
  ok : ∃ c P : Addr, cd = .ref c ∧ TabB base mg c P ∧ (P, q) ∈ T ∧ ∀ p ∈ T, p.1 = P → p.2 = q
def hideM (M : List Md) : List Md := M.map fun m => match m with
  | .ow => .un
  | m => m
theorem hide_le : ∀ M : List Md, leM M (hideM M) = true
  | [] => rfl
  | m :: M => by
    have ih := hide_le M
    cases m <;> exact ih
theorem hide_no {M : List Md} {i : Nat} (h : (hideM M)[i]? = some .ow) : False := by
  unfold hideM at h
  rw [List.getElem?_map] at h
  cases q : M[i]? with
  | none => rw [q] at h; cases h
  | some m => rw [q] at h; cases m <;> cases h
def ansD (told : Str) (ansE : Str → Option (Str × D) → Rs D) (den : Dn) : Dn := fun Γ => match den Γ with
  | .ok z => .ok (.tup [.str told, z.1], Γ)
  | .error (.exc x p) => (match ansE x p with
    | .ok d => .ok (d, Γ)
    | .error _ => nope)
  | .error .bad => nope
theorem SR.extT {c : Ct} {P : List (Nat × Addr)} {B H H1 : Hp} {σ : L2.St} {S : List Slot} (R : SR c P B σ H S) (e : ExtT H H1) (t : LamX.Tabs c.T H1) : SR c P B σ H1 S where
  len := R.len
  ext := fun a o h => e.1 a o (R.ext a o h) fun ps z => R.ntb a ps (by rw [h, z])
  ntb := R.ntb
  tab := t
  ok := fun i s h => (R.ok i s h).heap (Sub.refl B) fun l d o _ h1 h2 hm => ⟨e.1 l o h1 (isMut_ntb hm), h2⟩
  inj := R.inj
  pin := R.pin
theorem ExtT.step {B H H1 : Hp} {S : List Slot} (e : ExtT H H1) : Step S S B B H H1 := ⟨Sub.refl B, fun a o h _ k => e.1 a o h k, e.2, fun _ _ _ b _ _ => b, fun _ h => .inl h⟩
section
variable {F : Fx} {X : Cx} {M Mh' : List Md} {den : Dn} {x told : Str} {xs : List Str} {ansE : Str → Option (Str × D) → Rs D} {params : Arguments} {body : Expr} {scope : Scope} {p lpos pos : Pos} {k : Nat}
theorem je_ans (C : AnsC X.prog X.w X.K X.mg X.base F.c x told xs ansE) (LT : LamT X.base X.mg F.c.T X.env.code (X.env.qual ++ "<lambda>")) (hr : Room (k + 2) X.A)
    (hbody : ∀ (A : Around) (outer : List Env) (s : Shared) (H : Hp) (E : XK) (f c' : Addr), Room k (A.deeper (lamEnv X scope s.heap.objs.size f c')) → JE ⟨F.c, [], E⟩ (lamCxN X A outer s H E scope f c') body (hideM M) Mh' .fz den)
    (hg : Gl X x := by rfl) (L : LamS X.env.scope scope := by exact LamX.lamS_by (by rfl)) (hdef : defaultsOf params X.env = ([], []) := by rfl)
    (hbind : ∀ (q : Str) (cl : List (Str × Addr)) (pm cv ctv : Value), bindArgs (PySem.W.kla_fn "<lambda>" q params body scope cl pm cv ctv) ⟨[], []⟩ = pure [] := by intro _ _ _ _ _; rfl)
    (hdb : (x == ("__debug__" : Str)) = false := by decide) :
    JE F X (.Call (.Name x p) [.Lambda params body scope lpos] [] pos) M M .fz (ansD told ansE den) := by
  obtain ⟨a, g, CS, pg, bg, sg, dV, kV, doc, pm, cdv, ct, oc, an, od, osl, Ng, hm, hk, lk, hcg, hb, Sg, hNg, hva, hda, hdca, hxs, hG⟩ := C.ok
  obtain ⟨c, P, hcode, TB, hmT, hu⟩ := LT.ok
  refine pe_imp (pe_lamcallN (T := F.c.T) (TT := TTans F.c xs told CS ansE) (t := fun E => tE ⟨F.c, [], E⟩ (hideM M) Mh' .fz den) hg hm hk lk hcg hb Sg hNg hva (hG X _ rfl rfl rfl rfl rfl) TB hcode hmT hu hr L hdef hbind hbody hdb hda hdca) fun σ H Q ⟨P, B, S, R, io, eM, po⟩ => ?_
  refine ⟨R.tab, fun H1 hE hT1 => ?_⟩
  have R1 := R.extT hE hT1
  have s1 : Step S S B B H H1 := hE.step
  have Rh : SR F.c [] B σ H1 (weakTo S (hideM M)) := SR.weak (io := []) (⟨R1.len, R1.ext, R1.ntb, R1.tab, R1.ok, R1.inj, fun q h => nomatch h⟩ : SR F.c [] B σ H1 S) rfl rfl
  have eh : mds (weakTo S (hideM M)) = hideM M := weak_md (by rw [eM]; exact hide_le M)
  have hno : ∀ b, ¬ InA (weakTo S (hideM M)) b := fun b ⟨i, d, e⟩ => by
    have z := md_of e
    rw [eh] at z
    exact hide_no z
  refine ⟨fun B' H' => SR F.c P B' σ H' S ∧ Step S S B B' H H', B, (match den (dts S) with
    | .ok z => .ok z.1
    | .error er => .error er), ⟨fun B' H' G => ⟨G.1.ext, G.1.ntb, G.1.tab⟩, fun B' H' B2 H2 σ2 S2 S3 G R2 st hn => ?_⟩, ⟨R1, s1⟩, fun E Q' hm => ?_, ?_⟩
  · obtain ⟨R3, s3⟩ := back0 G.1 R2 st hn
    exact ⟨R3, G.2.trans s3⟩
  · refine ⟨[], B, weakTo S (hideM M), Rh, rfl, eh, ?_⟩
    rw [weak_dt]
    cases hd : den (dts S) with
    | ok z =>
      rw [hd] at hm
      intro v B' H' S' R' _ _ st w
      obtain ⟨R3, s3⟩ := back0 R1 R' st hno
      exact hm v B' H' ⟨R3, s1.trans s3⟩ w
    | error er =>
      rw [hd] at hm
      cases er with
      | bad => exact hm.elim
      | exc y p =>
        intro B' H' S' σ' dd R' st pay
        obtain ⟨R3, s3⟩ := back0 R1 R' st hno
        exact hm B' H' dd ⟨R3, s1.trans s3⟩ pay
  · have po : PostG F P S B H (ansD told ansE den (dts S)) (KE F P σ M .fz S B H Q) := po
    unfold ansD at po
    cases hd : den (dts S) with
    | ok z =>
      rw [hd] at po
      exact fun v B' H' G rv => po v B' H' S G.1 eM rfl G.2 rv
    | error er =>
      rw [hd] at po
      cases er with
      | bad => exact post_nope po
      | exc y p =>
        have po : PostG F P S B H (match ansE y p with
          | .ok d => .ok (d, dts S)
          | .error _ => nope) (KE F P σ M .fz S B H Q) := po
        cases ha : ansE y p with
        | error er =>
          rw [ha] at po
          exact post_nope po
        | ok d =>
          rw [ha] at po
          obtain ⟨h1, h2⟩ := hxs y p d ha
          exact ⟨h1, h2, d, ha, fun v B' H' G rv => po v B' H' S G.1 eM rfl G.2 rv⟩
end
end DL

set_option Elab.async false
set_option linter.all false
set_option maxRecDepth 100000
set_option maxHeartbeats 4000000
/-! DL, part 17: answering defs and defs that call themselves, for the generator's print. -/
namespace DL
open PySem PySem.Spec PyProof.Rows L2 LamX
section
variable {pr : Program} {w : World} {K : PySem.W.Frag} {mg : Str → Option Value} {base : Heap} {c : Ct} {x : Str}
theorem mkAns {told a : Str} {xs : List Str} {ansE : Str → Option (Str × D) → Rs D} {pg : Arguments} {bg : List Stmt} {sg : Scope} {g CS : Addr} {fd : FuncData} {Ng : List Str} (F : FunD K x x pg bg sg [] [] g fd) (hm : mg x = some (.ref g)) (Sg : FnScope Ng [a] sg) (hb : Binds K fd [a] [])
    (hNg : Ng[0]? = some a) (hva : Vis sg a) (hda : (a == ("__debug__" : Str)) = false) (hdca : (a == ("__classdict__" : Str)) = false)
    (hxs : ∀ x p d, ansE x p = .ok d → x ∈ xs ∧ PySem.W.exmOne c.K (.ref (c.ca x)) (.ref CS) = some true)
    (hG : ∀ (X : Cx) (q : Str) (cdv : Value), X.prog = pr → X.w = w → X.K = K → X.mg = mg → X.base = base → GivesToN X Ng x sg g cdv bg a q (TTans c xs told CS ansE)) : AnsC pr w K mg base c x told xs ansE := by
  obtain ⟨oc, od, dV, kV, doc, pm, an, cdv, ct, osl, rfl, lk, hcd, _, _⟩ := F.ex
  exact ⟨a, g, CS, pg, bg, sg, dV, kV, doc, pm, cdv, ct, oc, an, od, osl, Ng, hm, F.kp, lk, hcd, hb, Sg, hNg, hva, hda, hdca, hxs, fun X q h1 h2 h3 h4 h5 => hG X q cdv h1 h2 h3 h4 h5⟩
/-- a promise of nothing -/
theorem cal_nope {k n : Nat} {ps : List Str} {rm : VM} {f : Addr} {fd : FuncData} (hm : mg x = some (.ref f)) (hk : PySem.W.keepIn K (.ref f) = true) (hb : Binds K fd ps []) : Cal pr w K mg base c x k ps false n rm (fun _ => nope) [] := by
  have no : ∀ vs H Q E, spD c false n rm (fun _ => nope) vs H Q E → False := fun vs H Q E ⟨P, B, S, _, _, _, po⟩ => po
  exact mkCal ⟨fun vs H Q E h => (no vs H Q E h).elim, fun A outer s H args us vs Q E _ _ _ _ h => (no vs H Q E h).elim⟩ hm hk hb
end
def trySuite : List Stmt → List Stmt
  | [.Try _ [.ExceptHandler _ _ b _] _ _ _] => b
  | _ => []
end DL

set_option Elab.async false
set_option linter.all false
set_option maxRecDepth 100000
set_option maxHeartbeats 4000000
/-! DL, part 18: the end of a row; the facts as tests. -/
namespace DL
open PySem PySem.Spec PyProof.Rows L2 LamX

/-! ### facts of exception classes, as tests -/
def excB (K : PySem.W.Frag) (D : Addr) : Bool :=
  decide (PySem.W.findIn K (.ref D) "__getattribute__" = some (some (.builtin "BaseException.__getattribute__"))) && (decide (PySem.W.findIn K (.ref D) "__getattr__" = some none) && (decide (PySem.W.subIn K (.ref D) (.type "BaseException") = some true) && (PySem.W.hasDictIn K D &&
  (decide (PySem.W.findIn K (.ref D) "__class__" = some (some (.builtin "object.__class__"))) && (decide (PySem.W.specialIn K (.builtin "object.__class__") "__get__" = some (some (.builtin "getset_descriptor.__get__"))) &&
  (decide (PySem.W.takesIn K (.builtin "object.__class__") = some true) && decide (PySem.W.mroIn K D (.type "object") = some true)))))))
theorem excB_ok {K : PySem.W.Frag} {D : Addr} (h : excB K D = true) : ExcC K D := by
  obtain ⟨h1, h⟩ := Bool.and_eq_true_iff.mp h
  obtain ⟨h2, h⟩ := Bool.and_eq_true_iff.mp h
  obtain ⟨h3, h⟩ := Bool.and_eq_true_iff.mp h
  obtain ⟨h4, h⟩ := Bool.and_eq_true_iff.mp h
  obtain ⟨h5, h⟩ := Bool.and_eq_true_iff.mp h
  obtain ⟨h6, h⟩ := Bool.and_eq_true_iff.mp h
  obtain ⟨h7, h8⟩ := Bool.and_eq_true_iff.mp h
  exact ⟨of_decide_eq_true h1, of_decide_eq_true h2, of_decide_eq_true h3, h4, of_decide_eq_true h5, of_decide_eq_true h6, of_decide_eq_true h7, of_decide_eq_true h8⟩
def exB (xs ys fs : List Str) (sub : Str → Str → Bool) (root : Str) (K : PySem.W.Frag) : Bool := xs.all fun x =>
  excB K (He.ga K x) && ((ys.all fun y => decide (PySem.W.kitOne K (.ref (He.ga K x)) (.ref (He.ga K y)) = some (sub x y))) && (decide (PySem.W.kitOne K (.ref (He.ga K x)) (.type "ValueError") = some true) && (xfB K (He.ga K x) &&
  ((fs.all fun f => decide (PySem.W.findIn K (.ref (He.ga K x)) f = some none)) && decide (PySem.W.exmOne K (.ref (He.ga K x)) (.ref (He.ga K root)) = some true)))))
theorem exB_ok {xs ys fs : List Str} {sub : Str → Str → Bool} {root : Str} {K : PySem.W.Frag} (h : exB xs ys fs sub root K = true) : (∀ x ∈ xs, ExcC K (He.ga K x)) ∧ (∀ x ∈ xs, ∀ y ∈ ys, PySem.W.kitOne K (.ref (He.ga K x)) (.ref (He.ga K y)) = some (sub x y)) ∧
    (∀ x ∈ xs, PySem.W.kitOne K (.ref (He.ga K x)) (.type "ValueError") = some true) ∧ (∀ x ∈ xs, XfC K (He.ga K x)) ∧ (∀ x ∈ xs, ∀ f ∈ fs, PySem.W.findIn K (.ref (He.ga K x)) f = some none) ∧ ∀ x ∈ xs, PySem.W.exmOne K (.ref (He.ga K x)) (.ref (He.ga K root)) = some true := by
  have key := fun x hx => List.all_eq_true.mp h x hx
  have k1 : ∀ x ∈ xs, excB K (He.ga K x) = true ∧ (ys.all fun y => decide (PySem.W.kitOne K (.ref (He.ga K x)) (.ref (He.ga K y)) = some (sub x y))) = true ∧ decide (PySem.W.kitOne K (.ref (He.ga K x)) (.type "ValueError") = some true) = true ∧ xfB K (He.ga K x) = true ∧
      (fs.all fun f => decide (PySem.W.findIn K (.ref (He.ga K x)) f = some none)) = true ∧ decide (PySem.W.exmOne K (.ref (He.ga K x)) (.ref (He.ga K root)) = some true) = true := fun x hx => by
    have z := key x hx
    obtain ⟨h1, z⟩ := Bool.and_eq_true_iff.mp z
    obtain ⟨h2, z⟩ := Bool.and_eq_true_iff.mp z
    obtain ⟨h3, z⟩ := Bool.and_eq_true_iff.mp z
    obtain ⟨h4, z⟩ := Bool.and_eq_true_iff.mp z
    obtain ⟨h5, h6⟩ := Bool.and_eq_true_iff.mp z
    exact ⟨h1, h2, h3, h4, h5, h6⟩
  exact ⟨fun x hx => excB_ok (k1 x hx).1, fun x hx y hy => of_decide_eq_true (List.all_eq_true.mp (k1 x hx).2.1 y hy), fun x hx => of_decide_eq_true (k1 x hx).2.2.1, fun x hx => xfB_ok (k1 x hx).2.2.2.1,
    fun x hx f hf => of_decide_eq_true (List.all_eq_true.mp (k1 x hx).2.2.2.2.1 f hf), fun x hx => of_decide_eq_true (k1 x hx).2.2.2.2.2⟩
/-! ### tables -/
def lamQ (p : He.Defn) : Str := ((p.1 ++ (".<locals>." : Str)) ++ ("<lambda>" : Str))
def tabT (K : PySem.W.Frag) (tf : List He.Defn) : List (Addr × Str) := tf.map fun p => ((He.cT K p).2, lamQ p)
def tabCs (K : PySem.W.Frag) (tf : List He.Defn) : List (Addr × Addr) := tf.map fun p => He.cT K p
def tabNd (tf : List He.Defn) (K : PySem.W.Frag) : Bool := decide ((tf.map fun p => (He.cT K p).2).Nodup)
theorem lamT_of {base : Heap} {mg : Str → Option Value} {K : PySem.W.Frag} {tf : List He.Defn} (hn : tabNd tf K = true) (h : ∀ p ∈ tabCs K tf, TabB base mg p.1 p.2) {p : He.Defn} (hp : p ∈ tf) : LamT base mg (tabT K tf) (.ref (He.codeOf K p)) (lamQ p) := by
  refine ⟨(He.cT K p).1, (He.cT K p).2, rfl, h _ (List.mem_map.mpr ⟨p, hp, rfl⟩), List.mem_map.mpr ⟨p, hp, rfl⟩, fun q hq e => ?_⟩
  obtain ⟨p', hp', rfl⟩ := List.mem_map.mp hq
  have nd : (tf.map fun p => (He.cT K p).2).Nodup := of_decide_eq_true hn
  have inj : ∀ {l : List He.Defn}, (l.map fun p => (He.cT K p).2).Nodup → ∀ a ∈ l, ∀ b ∈ l, (He.cT K a).2 = (He.cT K b).2 → a = b := fun {l} => by
    induction l with
    | nil => intro _ a ha; cases ha
    | cons x l ih =>
      intro hnd a ha b hb hab
      rw [List.map_cons, List.nodup_cons] at hnd
      rcases List.mem_cons.mp ha with e1 | ha2
      · rcases List.mem_cons.mp hb with e2 | hb2
        · rw [e1, e2]
        · exact absurd (show (He.cT K x).2 ∈ l.map (fun p => (He.cT K p).2) from List.mem_map.mpr ⟨b, hb2, by rw [← hab, e1]⟩) hnd.1
      · rcases List.mem_cons.mp hb with e2 | hb2
        · exact absurd (show (He.cT K x).2 ∈ l.map (fun p => (He.cT K p).2) from List.mem_map.mpr ⟨a, ha2, by rw [hab, e2]⟩) hnd.1
        · exact ih hnd.2 a ha2 b hb2 hab
  rw [inj nd p' hp' p hp e]
/-! ### the law's promise -/
theorem RepL.ints {c : Ct} {B : Hp} : ∀ ns : List Int, RepL c B (ns.map V.int) (ns.map D.int) := repInts
theorem law_sp {K : PySem.W.Frag} {tf : List He.Defn} {d : Fn} {ns : List Int} {a : Addr} {H : Hp} {z : D} (hp : d [.scr (ns.map D.int)] = .ok (.bl true, z)) (hT : ∀ p ∈ tabCs K tf, H p.2 = some (.tbl #[])) (hS : SqL K H a (ns.map V.int)) :
    spD (cc K (tabT K tf)) false 1 .fz d [.ref a] H (fun v _ => v = .bl true) fun _ _ _ => False := by
  have tabs : LamX.Tabs (tabT K tf) H := fun q hq => by
    obtain ⟨p, hp, rfl⟩ := List.mem_map.mp hq
    exact LamX.TabS.nil (hT _ (List.mem_map.mpr ⟨p, hp, rfl⟩))
  obtain ⟨B, h1, h2, h3⟩ : ∃ B : Hp, Sub B H ∧ (∀ a ps, B a ≠ some (.tbl ps)) ∧ Rep (cc K (tabT K tf)) B (.ref a) (.scr (ns.map D.int)) := by
    rcases hS with hS | hS
    · refine ⟨fun b => if b = a then H a else none, fun b o e => ?_, fun b ps e => ?_, .scr (.inl ?_) (repInts ns)⟩
      · have e : (if b = a then H a else none) = some o := e
        by_cases q : b = a
        · rw [if_pos q] at e; rw [q]; exact e
        · rw [if_neg q] at e; cases e
      · have e : (if b = a then H a else none) = some (.tbl ps) := e
        by_cases q : b = a
        · rw [if_pos q] at e
          rcases hS with z | ⟨o, z⟩ <;> rw [z] at e <;> cases e
        · rw [if_neg q] at e; cases e
      · rcases hS with z | ⟨o, z⟩
        · exact .inl (show (if a = a then H a else none) = _ by rw [if_pos rfl]; exact z)
        · exact .inr ⟨o, show (if a = a then H a else none) = _ by rw [if_pos rfl]; exact z⟩
    · exact ⟨fun _ => none, fun b o e => (nomatch e), fun b ps e => (nomatch e), .scr (.inr fun H => .inr hS) (repInts ns)⟩
  refine ⟨[], B, [.fz (.ref a) (.scr (ns.map D.int))], ⟨rfl, h1, h2, tabs, fun i s e => ?_, fun i j l d e hi _ => ?_, fun q hq => nomatch hq⟩, rfl, rfl, post_ok hp ?_⟩
  · cases i with
    | zero => cases e; exact ⟨rfl, h3⟩
    | succ i => cases e
  · cases i with
    | zero => cases hi
    | succ i => cases hi
  · intro v B' H' S' _ _ _ _ w
    exact Rep.bl_iff w
end DL
namespace DL
open PySem PySem.Spec PyProof.Rows L2 LamX
theorem code_eq {K : PySem.W.Frag} {x q : Str} {pg : Arguments} {bg : List Stmt} {sg : Scope} {dvs : List V} {kws : List (Str × V)} {p : He.Defn} {fd : FuncData} (F : FunD K x q pg bg sg dvs kws (He.fAd K p) fd) : fd.code = .ref (He.codeOf K p) := by
  obtain ⟨oc, od, dV, kV, doc, pm, an, cdv, ct, osl, rfl, lk, hcd, _, _⟩ := F.ex
  obtain ⟨c, rfl⟩ := He.codeIn_ref hcd
  unfold He.codeOf
  rw [lk]
theorem cx_out {P : Program} {w : World} {H : Hp} {s : Shared} {e : Value} {s' : Shared} (h : L2N.CX P w [] H s (fun _ _ _ => False) e s') : False := by
  obtain ⟨_, _, _, _, _, _, _, _, _, _, _, _, z⟩ := h
  exact z
end DL

set_option Elab.async false
set_option linter.all false
set_option maxRecDepth 100000
set_option maxHeartbeats 4000000
/-! DL, part 19: raise C(e), C's own __init__ saying super().__init__('..'); slf.f = x. -/
namespace DL
open PySem PySem.W PySem.Calls PyProof.Rows

section
variable {prog : Program} {w : World} {A : Around} {E : Value → Shared → Prop} {h : Heap} {g : Array GenState} {d : Drawn} {t : Nat} {os : OsState}
variable {nm q : Str} {C N : Addr} {bs bm : List Value} {hdct : Bool} {sn : List Str} {sub : List Value} {ab : Bool} {col : Option Bool} {dd : Option Addr} {k0 k1 k2 k3 k5 : Option Value}
theorem call_mwV {u e t0 : Addr} {rest : List Value} {Q : Value → Shared → Prop}
    (hC : h.get? C = some (excClassObj nm q C N bs bm hdct sn sub ab col dd k0 k1 k2 k3 k5 "ValueError.__new__")) (he : h.get? e = some (HandSPX.excO C t0)) (hu : h.get? u = some (kxs_mw "ValueError.__init__" e)) (hrest : rest.length ≤ sizeLine)
    (hq : ∀ h' t1, (∀ b o, b ≠ e → h.get? b = some o → h'.get? b = some o) → h'.get? e = some (HandSPX.excO C t1) → Q .none ⟨h', g, d, t, os⟩) :
    wpAny (model prog w) A (call (.ref u) rest) Q E ⟨h, g, d, t, os⟩ := by
  refine wpAny_call (codeAny_of_tree ?_)
  show wpAny _ A.in1 (callAny (.ref u) ⟨rest, []⟩) _ _ _
  simp only [callAny]
  refine wpAny_bind (wpAny_load hu ?_)
  simp only [kxs_mw, show (Value.type "method-wrapper" == Value.type "method" || Value.type "method-wrapper" == Value.type "builtin_function_or_method" || Value.type "method-wrapper" == Value.type "method-wrapper") = true by decide, if_true]
  refine W.KFB.if_so (by decide) ?_
  refine wpAny_bind (ESX.check_bound F.excBase_ValueError hC he rfl ?_)
  refine wpAny_bind (wpAny_pure (wpAny_pure ?_))
  refine ⟨Code.quiet_builtin _ (by decide +kernel), codeAny_builtin F.excBase_ValueError.initEntry ?_⟩
  rw [Around.under_plainId F.excBase_ValueError.init.plain _]
  wp_walk
  refine hq _ h.objs.size (fun b o hb ho => ?_) ?_
  · rw [Heap.get?_update_other _ _ (Ne.symm hb)]
    exact Heap.get?_push_of_some _ ho
  · rw [Heap.get?_update_self _ (Heap.get?_push_of_some _ he) rfl]
    rfl
theorem callWith_mw {M : Model} {s : Shared} {pos : Pos} {env : Env} {e : Expr} {rest : List Expr} {i : String} {u x : Addr} {Q : Value → Shared → Prop}
    (h : wpAny M A (spliced (backTo pos (starEach (e :: rest) env))) (fun vs s₁ => KxsAt i u x s₁.heap ∧ wpAny M A (call (.ref u) vs) Q E s₁) E s)
    (he : starEach (e :: rest) env = (false, eval e env) :: starEach rest env := by rfl) (hplain : (backTo pos (starEach rest env)).any (·.1) = false := by rfl) :
    wpAny M A (callWith pos (.ref u) [] (backTo pos (starEach (e :: rest) env)) []) Q E s := by
  rw [he] at h ⊢
  refine kxs_callWith (i := i) (x := x) (by show (false || (backTo pos (starEach rest env)).any (·.1)) = false; rw [hplain]; rfl) ?_
  exact evalArgs_plain h
theorem ns_but {h h' : Heap} {L e : Addr} {m : Str → Option Value} (hn : h.Ns L m) (hL : L ≠ e) (k : ∀ b o, b ≠ e → h.get? b = some o → h'.get? b = some o) : h'.Ns L m := by
  obtain ⟨o, es, ep, e1, r⟩ := hn
  exact ⟨o, es, ep, k _ _ hL e1, r⟩
end

/-- what the written part says of such an __init__ -/
structure IniK (prog : Program) (K : Frag) (C fI cda cc : Addr) (q : Str) (pa : Arguments) (body : List Stmt) (sc : Scope) (slf lim f : Str) : Prop where
  T : L2.OexC K C
  iC : findIn K (.ref C) "__init__" = some (some (.ref fI))
  tI : typeIn K (.ref fI) = some (.type "function")
  fn : ∃ oc od osl dV kV doc pm an ct, K.lookup fI = some ⟨oc, od, .func (ksFn "__init__" q pa body sc dV kV doc pm an (.ref cda) ct cc), osl⟩ ∧ ∀ (s : Shared) (e u : Value), BindsTo s (ksFn "__init__" q pa body sc dV kV doc pm an (.ref cda) ct cc) ⟨[e, u], []⟩ [(slf, e), (lim, u)]
  cd : codeIn K (.ref cda) q = true
  co : ∃ ccl cdd vs ccs file tf, K.lookup cda = some ⟨ccl, cdd, .fields vs, ccs⟩ ∧ vs[2]? = some (.str file tf) ∧ ((prog.main.file : Str) == file) = true
  ce : ∃ cl cld csl, K.lookup cc = some ⟨cl, cld, .cell (some (.ref C)), csl⟩
  ho : nsIn K cStatics "thirdparty.any" = some none
  sm : ks_superIn K C C "__init__" = some (some (.builtin "ValueError.__init__"))
  sB : subIn K (.ref C) (.type "ValueError") = some true
  sC : mroIn K C (.ref C) = some true
  no : findIn K (.ref C) f = some none
/-- its scope, its parameters -/
structure IniS (prog : Program) (pa : Arguments) (sc : Scope) (slf lim : Str) : Prop where
  kind : sc.kind = .function
  cell : ∀ x ∈ sc.names, x.2 ≠ .cell
  nS : sc.names.lookup slf = some .local
  nL : sc.names.lookup lim = some .local
  ne : slf ≠ lim
  nU : sc.names.lookup ("super" : Str) = some .globalImplicit
  nC : sc.names.lookup ("__class__" : Str) = some .free
  co : sc.isCoroutine = false
  ge : sc.isGenerator = false
  hd : ∃ ar, (pa.posonlyargs ++ pa.args).head? = some ar ∧ ar.arg = slf
  tp : (prog.main.scope.names.lookup ("super" : Str)).isSome = false
  dS : (slf == ("__debug__" : Str)) = false
  dL : (lim == ("__debug__" : Str)) = false

section
variable {prog : Program} {w : World} {A : Around} {R : Result → Shared → Prop} {h : Heap} {g : Array GenState} {d : Drawn} {t : Nat} {os : OsState} {K : Frag} {mg mb : Str → Option Value}
variable {C fI cda cc e t0 : Addr} {q slf lim f txt : Str} {pa : Arguments} {sc : Scope} {u : Value} {p0 p1 p2 p3 p4 p5 p6 p7 p8 p9 : Pos} {j : Nat}
theorem ini_run (I : IniK prog K C fI cda cc q pa [.Expr (.Call (.Attribute (.Call (.Name "super" p0) [] [] p1) "__init__" p2) [.Constant (.str txt) j p3] [] p4) p5, .Assign [.Attribute (.Name slf p6) f p7] (.Name lim p8) p9] sc slf lim f) (S : IniS prog pa sc slf lim)
    (hcall : ∀ env : Env, ∃ pl : Sem Bool, eval (.Call (.Attribute (.Call (.Name "super" p0) [] [] p1) "__init__" p2) [.Constant (.str txt) j p3] [] p4) env = (do
      let ov ← attributeBase (.Call (.Name "super" p0) [] [] p1) "__init__" env (eval (.Call (.Name "super" p0) [] [] p1) env)
      standAt p2.atName
      let (f, first) ← holding [ov] (getMethod ov "__init__" pl)
      callWith p4 f first (backTo p4 (starEach [.Constant (.str txt) j p3] env)) []))
    (hsw1 : ∀ env : Env, swapsWith (.Call (.Attribute (.Call (.Name "super" p0) [] [] p1) "__init__" p2) [.Constant (.str txt) j p3] [] p4) none p5.line env = pure false)
    (hsw2 : ∀ env : Env, swapsWith (.Name lim p8) (some (.Attribute (.Name slf p6) f p7)) p9.line env = pure false)
    (hroom : A.depth < recursionLimit) (X : K.In h) (hg : h.Ns mainGlobals mg) (hm : mg "super" = none) (hb : h.Ns builtinsNs mb) (hbb : mb "super" = some (.type "super")) (hlim : h.NoLimit)
    (he : h.get? e = some (HandSPX.excO C t0)) (hKe : K.lookup e = none)
    (hq : ∀ h' tk' dx t1, (∀ b o, b ≠ e → h.get? b = some o → h'.get? b = some o) → h.objs.size ≤ dx → dx ≠ e → h'.get? e = some { cls := .ref C, dict := some dx, data := .fields #[.ref t1, .none, .none, .none, .bool false, .none] } →
      h'.Ns1 dx (fun y => if y = f then some u else none) → R (.ok (.ret .none)) ⟨h', g, d, tk', os⟩) :
    codeAny (model prog w) A (.call (.ref fI) ⟨[.ref e, u], []⟩) R ⟨h, g, d, t, os⟩ := by
  obtain ⟨nm, qn, N, bs, bm, sn, sub, ab, col, dd, k0, k1, k2, k3, k5, hC, hbm⟩ := I.T.cls
  have hcl : clsIn K C = some { name := nm, bases := bs, mro := .ref C :: bm, ns := N, qualname := qn, hasDict := true, slotNames := sn, subclasses := sub, abstract := ab, collection := col, hasDel := false } := by unfold clsIn; rw [hC] <;> rfl
  obtain ⟨oc, od, osl, dV, kV, doc, pm, an, ct, ho, hbind⟩ := I.fn
  obtain ⟨ccl, cdd, vs, ccs, file, tf, hcode, hvs, hfile⟩ := I.co
  obtain ⟨cl, cld, csl, hcell⟩ := I.ce
  obtain ⟨ar, har, hara⟩ := S.hd
  have hCe : C ≠ e := fun z => by rw [z, hKe] at hC; cases hC
  refine ks_codeAny_call_defAt (fd := ksFn "__init__" q pa _ sc dV kV doc pm an (.ref cda) ct cc) (binds := [(slf, .ref e), (lim, u)]) hroom (X _ _ ho) rfl hlim (codeRec_of X I.cd) rfl (hbind _ _ _) S.cell (fun x hx => ?_) (fun h₀ hns k₀ => ?_) S.co S.ge S.kind
  · simp only [List.mem_cons, List.not_mem_nil, or_false] at hx
    rcases hx with rfl | rfl
    · exact S.nS
    · exact S.nL
  have hL : h.objs.size ≠ e := fun z => Nat.lt_irrefl _ (by have := Heap.lt_size he; rw [← z] at this; exact this)
  have lS : ([(slf, Value.ref e), (lim, u)] : List (Str × Value)).reverse.lookup slf = some (.ref e) := by
    have : (slf == lim) = false := by simpa using S.ne
    simp [List.lookup, this]
  have lL : ([(slf, Value.ref e), (lim, u)] : List (Str × Value)).reverse.lookup lim = some u := by
    simp [List.lookup]
  have X0 : K.In h₀ := X.keeps k₀
  have he0 := k₀ _ _ he
  refine ks_wpAt_execs_cons (ks_wpAt_Expr_any ?_ (by show ((sc.kind == .module) && _) = false; rw [S.kind]; rfl) (hsw1 _))
  obtain ⟨pl, hev⟩ := hcall (callEnv (ksFn "__init__" q pa [.Expr (.Call (.Attribute (.Call (.Name "super" p0) [] [] p1) "__init__" p2) [.Constant (.str txt) j p3] [] p4) p5, .Assign [.Attribute (.Name slf p6) f p7] (.Name lim p8) p9] sc dV kV doc pm an (.ref cda) ct cc) h.objs.size fI)
  refine ks_wpAt_MethodCall (pl := pl) ?_ hev
  refine ks_wpAt_super_base S.nU S.nC (by decide) rfl (X0 _ _ ho) rfl har rfl (X0 _ _ hcode) rfl hvs hfile S.tp ?_
  refine ks_loadName_global S.kind S.nU (loadGlobal_builtin (hg.keeps k₀) hm (hb.keeps k₀) hbb ⟨rfl, ?_⟩)
  refine wpAny_loadName_free S.kind S.nC rfl ⟨_, X0 _ _ hcell, rfl⟩ ?_
  refine wpAny_loadName_local S.kind (by rw [hara]; exact S.nS) hns (by rw [hara]; exact lS) ?_
  refine ks_wpAny_isType_cls (X0 _ _ hC) rfl ⟨rfl, ?_⟩
  refine ks_wpAny_call_super (X0 _ _ hC) rfl he0 rfl (fun c z => by cases z) (looks_mroIn X0 I.sC) (fun h1 e1 kk1 => ?_)
  have X1 : K.In h1 := X0.keeps kk1
  have he1 := kk1 _ _ he0
  have I1 : InstAt h1 e (HandSPX.excO C t0) C none := ⟨he1, rfl, rfl, trivial⟩
  have hmm : alongIn K "__init__" (((Value.ref C :: bm).dropWhile (· != .ref C)).drop 1) = some (some (.builtin "ValueError.__init__")) := by
    have := I.sm
    unfold ks_superIn at this
    rw [hcl] at this
    exact this
  refine kxs_getMethod kxs_ValueError e1 (looks_opaque X1 I.ho) (l₀ := .ref C :: bm) (fun A Q E s k q => wpAny_bind ((looks_clsIn X1 hcl) A _ E s k (wpAny_pure q))) rfl X1 hmm (I1.type.andThen (looks_subIn X1 I.sB)) (Ne.symm hCe) (by decide) ?_
  have hmw : (h1.push (kxs_mw "ValueError.__init__" e)).get? h1.objs.size = some (kxs_mw "ValueError.__init__" e) := Heap.get?_push_at rfl rfl
  refine callWith_mw (i := "ValueError.__init__") (x := e) (spliced_more (Constant_str (spliced_none ⟨hmw, ?_⟩)))
  have k2 : ∀ b o, h1.get? b = some o → (h1.push (kxs_mw "ValueError.__init__" e)).get? b = some o := fun b o z => Heap.get?_push_of_some _ z
  refine call_mwV (k2 _ _ (X1 _ _ hC)) (k2 _ _ he1) hmw (by rw [sizeLine_eq]; simp) fun h3 t1 k3 he3 => ?_
  have K3 : ∀ b o, b ≠ e → h.get? b = some o → h3.get? b = some o := fun b o hb z => k3 b o hb (k2 _ _ (kk1 _ _ (k₀ _ _ z)))
  have X3 : K.In h3 := fun b o z => k3 b o (fun y => by rw [y, hKe] at z; cases z) (k2 _ _ (X1 _ _ z))
  have hns3 : h3.Ns h.objs.size _ := ns_but ((hns.keeps kk1).keeps k2) hL k3
  have sz0 : h.objs.size < h₀.objs.size := hns.lt
  refine ks_wpAt_execs_cons (ks_wpAt_Assign_Attr (wpAt_of_wpAny (ESX.ldL hns3 lL ?_ S.kind S.nL S.dL)) (hsw2 _))
  refine ESX.ldL hns3 lS ?_ S.kind S.nS S.dS
  refine set_plain X3 (ox := HandSPX.excO C t1) (od := none) ⟨he3, rfl, rfl, trivial⟩ I.T.sa ?_
  refine HandSPX.exc_osa X3 he3 hcl (show HandSPX.refsVE (.ref C :: bm) = true from hbm) rfl I.no (fun h4 tk4 dx k4 dn dne hx hn => ?_)
  refine wpAt_of_wpAny ?_
  rw [execs_nil]
  refine wpAny_pure (hq h4 tk4 dx t1 (fun b o hb z => k4 b o hb (K3 b o hb z)) ?_ dne hx hn)
  exact Nat.le_trans (Nat.le_of_lt hns3.lt) dn
end
end DL

namespace DL
open PySem PySem.Spec PyProof.Rows L2
section
variable {X : Cx} {C fI cda cc : Addr} {x q slf lim f txt : Str} {pa : Arguments} {sc : Scope} {p p0 p1 p2 p3 p4 p5 p6 p7 p8 p9 pos : Pos} {j k : Nat} {e : Expr} {ta : TA}
theorem pmk_ini (I : IniK X.prog X.K C fI cda cc q pa [.Expr (.Call (.Attribute (.Call (.Name "super" p0) [] [] p1) "__init__" p2) [.Constant (.str txt) j p3] [] p4) p5, .Assign [.Attribute (.Name slf p6) f p7] (.Name lim p8) p9] sc slf lim f) (S : IniS X.prog pa sc slf lim)
    (hcall : ∀ env : Env, ∃ pl : Sem Bool, eval (.Call (.Attribute (.Call (.Name "super" p0) [] [] p1) "__init__" p2) [.Constant (.str txt) j p3] [] p4) env = (do
      let ov ← attributeBase (.Call (.Name "super" p0) [] [] p1) "__init__" env (eval (.Call (.Name "super" p0) [] [] p1) env)
      standAt p2.atName
      let (f, first) ← holding [ov] (getMethod ov "__init__" pl)
      callWith p4 f first (backTo p4 (starEach [.Constant (.str txt) j p3] env)) []))
    (hsw1 : ∀ env : Env, swapsWith (.Call (.Attribute (.Call (.Name "super" p0) [] [] p1) "__init__" p2) [.Constant (.str txt) j p3] [] p4) none p5.line env = pure false)
    (hsw2 : ∀ env : Env, swapsWith (.Name lim p8) (some (.Attribute (.Name slf p6) f p7)) p9.line env = pure false)
    (hr : Room (k + 1) X.A) (hg : Gl X x) (hm : X.mg x = some (.ref C)) (hsu : X.mg "super" = none) (ha : PA X [e] ta)
    (hdb : (x == ("__debug__" : Str)) = false) (he : starEach [e] X.env = (false, eval e X.env) :: starEach [] X.env) :
    L2N.PMk X (.Call (.Name x p) [e] [] pos) (fun σ H Q => ta σ H fun vs H1 => ∃ y, vs = [y] ∧ ∀ dx, H1 dx = none → Q (.ref C) (some dx) (upd H1 dx (.xd [(f, y)]))) := by
  intro pins s σ H Q I0 h
  obtain ⟨nm, qn, N, bs, bm, sn, sub, ab, col, dd, k0, k1, k2, k3, k5, hC, hbm⟩ := I.T.cls
  refine wpAny_Call_Name_kw (ld_glob I0 hg hm ?_ hdb)
  refine PySem.W.callWith_K (h₀ := X.base) I0.ok.mod.kin I.T.kC (thn (ha.run pos pins s σ H _ I0 h) fun us s1 ⟨vs, H1, I1, r1, y, ev, q1⟩ => ⟨I1.kIn, ?_⟩) he rfl
  show wpAny _ _ (call (.ref C) us) _ _ _
  subst ev
  cases r1 with
  | @cons _ u _ us' ry rn =>
    cases rn
    obtain ⟨hp, g, dr, tk, os⟩ := s1
    have hn : H1 (hp.objs.size + 1) = none := I1.hok.fresh (Nat.le_succ _)
    have kk : ∀ b o, hp.get? b = some o → ((hp.push (PySem.W.kdv_tup [u])).push (PySem.HandSPX.excO C hp.objs.size)).get? b = some o := fun b o e => Heap.get?_push_of_some _ (Heap.get?_push_of_some _ e)
    have hget : ((hp.push (PySem.W.kdv_tup [u])).push (PySem.HandSPX.excO C hp.objs.size)).get? (hp.objs.size + 1) = some (PySem.HandSPX.excO C hp.objs.size) := by heap_get
    have hK : X.K.lookup (hp.objs.size + 1) = none := by
      cases z : X.K.lookup (hp.objs.size + 1) with
      | none => rfl
      | some o =>
        have := Heap.lt_size (I1.kIn _ _ z)
        exact absurd this (by show ¬ _ < hp.objs.size; omega)
    obtain ⟨mb, hb1, hb2⟩ := I1.mod.blt
    have bk : ∀ b o, X.base.get? b = some o → ((hp.push (PySem.W.kdv_tup [u])).push (PySem.HandSPX.excO C hp.objs.size)).get? b = some o := fun b o z => kk b o (I1.bk b o z)
    refine wpAny_call (PySem.HandSPX.call_own F.excBase_ValueError (fun Y => PySem.HandSPX.refsVE_contains Y bm hbm) (I1.kIn _ _ hC) (PySem.W.looks_findIn I1.kIn I.iC) (fun self => PySem.W.bind_fn I1.kIn self I.tI) (by rw [sizeLine_eq]; simp)
      (ini_run I S hcall hsw1 hsw2 ?_ (PySem.W.Frag.In.keeps I1.kIn kk) (I1.mod.glob.keeps bk) hsu (hb1.keeps bk) (hb2 _ (by decide)) (I1.mod.nolimit.keeps bk) hget hK fun h' tk' dx t1 kh dn dne hx hns => ?_))
    · have := (hr.make C [u] []).dp
      exact Nat.lt_of_le_of_lt (by omega) this
    · refine ⟨rfl, ?_⟩
      have nha : ∀ {b : Addr} {o : Obj}, hp.get? b = some o → b ≠ hp.objs.size + 1 := fun {b o} z => Nat.ne_of_lt (Nat.lt_succ_of_lt (Heap.lt_size z))
      obtain ⟨G, g1', g2'⟩ := restrict h' fun b => decide (b ≠ hp.objs.size + 1)
      have gk : ∀ b, b ≠ hp.objs.size + 1 → G.get? b = h'.get? b := fun b hb => g1' b (decide_eq_true hb)
      have ge : G.get? (hp.objs.size + 1) = none := g2' _ (by simp)
      have kG : ∀ b o, G.get? b = some o → h'.get? b = some o := fun b o z => by
        by_cases hb : b = hp.objs.size + 1
        · rw [hb, ge] at z; cases z
        · exact (gk b hb).symm.trans z
      have khG : ∀ b o, hp.get? b = some o → G.get? b = some o := fun b o z => (gk b (nha z)).trans (kh b o (nha z) (kk b o z))
      have sz : hp.objs.size ≤ dx := by
        have e1 : ((hp.push (PySem.W.kdv_tup [u])).push (PySem.HandSPX.excO C hp.objs.size)).objs.size = hp.objs.size + 2 := by simp [Heap.push]
        rw [e1] at dn
        omega
      have hdx : H1 dx = none := I1.hok.fresh sz
      have J := I1.laid (t' := tk') (a := dx) (o := .xd [(f, y)]) (h' := G) khG sz ⟨_, hns.at fun o z => (gk dx dne).trans z, relO_put ry fun g => True.intro⟩
      exact ⟨hp.objs.size + 1, _, _, ⟨G, g, dr, tk', os⟩, upd H1 dx (.xd [(f, y)]), .ref C, some dx, rfl, J, kG, ge, hx, ⟨rfl, rfl, fun vs e => by cases e; rfl⟩, rfl, rfl, (upd_ne (Ne.symm dne)).trans hn, rfl, I1.bare, raises_own I.T.exC I.T.tyC, q1 dx hdx⟩
end
/-- all of it, of the class at C and its field f -/
structure IniY (pr : Program) (K : PySem.W.Frag) (C : Addr) (f : Str) : Prop where
  ok : ∃ (fI cda cc : Addr) (q slf lim txt : Str) (pa : Arguments) (sc : Scope) (p0 p1 p2 p3 p4 p5 p6 p7 p8 p9 : Pos) (j : Nat),
    IniK pr K C fI cda cc q pa [.Expr (.Call (.Attribute (.Call (.Name "super" p0) [] [] p1) "__init__" p2) [.Constant (.str txt) j p3] [] p4) p5, .Assign [.Attribute (.Name slf p6) f p7] (.Name lim p8) p9] sc slf lim f ∧ IniS pr pa sc slf lim ∧
    (∀ env : Env, ∃ pl : Sem Bool, eval (.Call (.Attribute (.Call (.Name "super" p0) [] [] p1) "__init__" p2) [.Constant (.str txt) j p3] [] p4) env = (do
      let ov ← attributeBase (.Call (.Name "super" p0) [] [] p1) "__init__" env (eval (.Call (.Name "super" p0) [] [] p1) env)
      standAt p2.atName
      let (f, first) ← holding [ov] (getMethod ov "__init__" pl)
      callWith p4 f first (backTo p4 (starEach [.Constant (.str txt) j p3] env)) [])) ∧
    (∀ env : Env, swapsWith (.Call (.Attribute (.Call (.Name "super" p0) [] [] p1) "__init__" p2) [.Constant (.str txt) j p3] [] p4) none p5.line env = pure false) ∧
    (∀ env : Env, swapsWith (.Name lim p8) (some (.Attribute (.Name slf p6) f p7)) p9.line env = pure false)
def rsF (x f : Str) (a : Dn) : Sn := fun Γ => a Γ >>= fun z => .error (.exc x (some (f, z.1)))
/-- raise x(e), x an own class whose __init__ sets the field f -/
theorem js_raiseF {F : Fx} {X : Cx} {e : Expr} {M M1 Mn Mb Mc : List Md} {rm : VM} {da : Dn} {x f : Str} {p pos p3 : Pos} {k : Nat} (hx : CxF F X) (hc : X.calm = true) (y : IniY X.prog X.K (F.c.ca x) f) (gC : X.mg x = some (.ref (F.c.ca x))) (hsu : X.mg "super" = none) (hr : Room (k + 1) X.A) (hg : Gl X x) (h : JE F X e M M1 .fz da)
    (hdb : (x == ("__debug__" : Str)) = false := by decide) (he : starEach [e] X.env = (false, eval e X.env) :: starEach [] X.env := by rfl) : JS F X (.Raise (some (.Call (.Name x p) [e] [] pos)) none p3) M Mn Mb Mc rm (rsF x f da) := by
  obtain ⟨fI, cda, cc, q, slf, lim, txt, pa, sc, p0, p1, p2, p3', p4, p5, p6, p7, p8, p9, j, I, S, h1, h2, h3⟩ := y.ok
  refine ps_imp (L2N.ps_raise hc hx.tk (pmk_ini I S h1 h2 h3 hr hg gC hsu (pa_cons h pa_nil he) hdb he)) fun E σ H ⟨P, B, S', R, io, eM, po⟩ => ?_
  refine ⟨P, B, S', R, io, eM, ?_⟩
  unfold rsF at po
  cases z : da (dts S') with
  | error er =>
    rw [z] at po
    cases er <;> exact po
  | ok z1 =>
    rw [z] at po
    intro v B' H' S1 R1 m1 d1 st vr
    refine ⟨v, rfl, fun dx hdx => ?_⟩
    exact po B' (upd H' dx (.xd [(f, v)])) S1 σ (some dx) (R1.new hdx) (st.trans (Step.new S1 B' hdx)) ⟨dx, v, rfl, upd_same, vr⟩
end DL

set_option Elab.async false
set_option linter.all false
set_option maxRecDepth 100000
set_option maxHeartbeats 4000000
/-! DL, part 20: the facts of such classes as tests; the head's Hook with more addresses. -/
namespace DL
open PySem PySem.Spec PyProof.Rows L2

/-! ### tests -/
def oexB (K : PySem.W.Frag) (C : Addr) : Bool := match K.lookup C with
  | some ⟨.type c, _, .cls cd, sl⟩ => decide (c = "type") && ((match cd.mro with
    | .ref c0 :: bm => decide (c0 = C) && PySem.HandSPX.refsVE bm
    | _ => false) && (cd.hasDict && (!cd.hasDel && (match sl.toList with
    | [_, _, _, _, some (.builtin n), _] => decide (n = "ValueError.__new__")
    | _ => false))))
  | _ => false
theorem oexB_ok {K : PySem.W.Frag} {C : Addr} (h : oexB K C = true) : ∃ nm q N bs bm sn sub ab col dd k0 k1 k2 k3 k5, K.lookup C = some (excClassObj nm q C N bs bm true sn sub ab col dd k0 k1 k2 k3 k5 "ValueError.__new__") ∧ PySem.HandSPX.refsVE bm = true := by
  unfold oexB at h
  cases e : K.lookup C with
  | none => rw [e] at h; cases h
  | some o =>
    obtain ⟨oc, od, dt, sl⟩ := o
    rw [e] at h
    cases oc with
    | type c =>
      cases dt with
      | cls cd =>
        obtain ⟨h1, h⟩ := He.ba h
        obtain ⟨h2, h⟩ := He.ba h
        obtain ⟨h3, h⟩ := He.ba h
        obtain ⟨h4, h5⟩ := He.ba h
        have e1 : c = "type" := of_decide_eq_true h1
        subst e1
        obtain ⟨nm, bs, mro, ns, qn, hd, sn, sb, ab, col, del⟩ := cd
        dsimp only at h2 h3 h4
        subst h3
        have e4 : del = false := by cases del <;> first | rfl | cases h4
        subst e4
        cases mro with
        | nil => cases h2
        | cons c0 bm =>
          cases c0 with
          | ref c0 =>
            obtain ⟨h6, h7⟩ := He.ba h2
            have e6 : c0 = C := of_decide_eq_true h6
            subst e6
            obtain ⟨sl⟩ := sl
            dsimp only at h5
            rcases sl with _ | ⟨s0, _ | ⟨s1, _ | ⟨s2, _ | ⟨s3, _ | ⟨s4, _ | ⟨s5, _ | ⟨s6, sl⟩⟩⟩⟩⟩⟩⟩
            · cases h5
            · cases h5
            · cases h5
            · cases h5
            · cases h5
            · rcases s4 with _ | s4
              · cases h5
              · cases s4 <;> cases h5
            · rcases s4 with _ | s4
              · cases h5
              · cases s4 with
                | builtin n =>
                  have e8 : n = "ValueError.__new__" := of_decide_eq_true h5
                  subst e8
                  exact ⟨nm, qn, ns, bs, bm, sn, sb, ab, col, od, s0, s1, s2, s3, s5, rfl, h7⟩
                | _ => cases h5
            · rcases s4 with _ | s4
              · cases h5
              · cases s4 <;> cases h5
          | _ => cases h2
      | _ => cases h
    | _ => cases dt <;> cases h
/-- an own class's __init__ -/
structure InD where
  cls : Str
  fld : Str
  qual : Str
  params : Arguments
  body : List Stmt
  scope : Scope
abbrev InV : Type := Option (Str × Str × Arguments × FuncBody × Scope × Addr × List Str × Value × Addr)
def InD.val (d : InD) : InV := some ("__init__", d.qual, d.params, .stmts d.body, d.scope, mainGlobals, ["__class__"], .none, builtinsNs)
def inAd (K : PySem.W.Frag) (x : Str) : Addr := He.ma K (He.ga K x) "__init__"
def inObs (K : PySem.W.Frag) (x : Str) : InV := match K.lookup (inAd K x) with
  | some ⟨_, _, .func fd, _⟩ => some (fd.name, fd.qualname, fd.params, fd.body, fd.scope, fd.globals, fd.closure.map (·.1), fd.defaults, fd.builtins)
  | _ => none
def codB (K : PySem.W.Frag) (file : Str) (cda : Addr) : Bool := match K.lookup cda with
  | some ⟨_, _, .fields vs, _⟩ => (match (vs[2]? : Option Value) with
    | some (.str fl _) => decide (fl = file)
    | _ => false)
  | _ => false
def celB (K : PySem.W.Frag) (C cc : Addr) : Bool := match K.lookup cc with
  | some ⟨_, _, .cell (some (.ref D)), _⟩ => decide (D = C)
  | _ => false
def funB (K : PySem.W.Frag) (file q : Str) (C fI : Addr) : Bool := match K.lookup fI with
  | some ⟨_, _, .func fd, _⟩ => (match fd.code, fd.closure with
    | .ref cda, [(_, cc)] => PySem.W.codeIn K (.ref cda) q && (codB K file cda && celB K C cc)
    | _, _ => false)
  | _ => false
def iniB (file : Str) (K : PySem.W.Frag) (d : InD) : Bool :=
  oexB K (He.ga K d.cls) && (He.eqO (PySem.W.findIn K (.ref (He.ga K d.cls)) "__setattr__") (some (some (.builtin "object.__setattr__"))) && (decide (PySem.W.subIn K (.ref (He.ga K d.cls)) (.type "BaseException") = some true) && (decide (PySem.W.typeIn K (.ref (He.ga K d.cls)) = some (.type "type")) &&
  (PySem.W.keepIn K (.ref (He.ga K d.cls)) && (He.eqO (PySem.W.findIn K (.ref (He.ga K d.cls)) "__init__") (some (some (.ref (inAd K d.cls)))) && (decide (PySem.W.typeIn K (.ref (inAd K d.cls)) = some (.type "function")) && (funB K file d.qual (He.ga K d.cls) (inAd K d.cls) &&
  (He.eqO (PySem.W.nsIn K cStatics "thirdparty.any") (some none) && (He.eqO (PySem.W.ks_superIn K (He.ga K d.cls) (He.ga K d.cls) "__init__") (some (some (.builtin "ValueError.__init__"))) && (decide (PySem.W.subIn K (.ref (He.ga K d.cls)) (.type "ValueError") = some true) && (decide (PySem.W.mroIn K (He.ga K d.cls) (.ref (He.ga K d.cls)) = some true) &&
  He.eqO (PySem.W.findIn K (.ref (He.ga K d.cls)) d.fld) (some none))))))))))))
theorem iniB_ok {pr : Program} {file : Str} {K : PySem.W.Frag} {d : InD} {slf lim : Str} (h : iniB file K d = true) (ho : inObs K d.cls = d.val) (hf : (pr.main.file : Str) = file)
    (hb : ∀ (kV doc pm : Value) (an : Option Addr) (cdv ct : Value) (cc : Addr) (e u : Value), bindArgs (PySem.W.ksFn "__init__" d.qual d.params d.body d.scope .none kV doc pm an cdv ct cc) ⟨[e, u], []⟩ = pure [(slf, e), (lim, u)]) :
    ∃ cda cc, IniK pr K (He.ga K d.cls) (inAd K d.cls) cda cc d.qual d.params d.body d.scope slf lim d.fld := by
  unfold iniB at h
  obtain ⟨h1, h⟩ := He.ba h
  obtain ⟨h2, h⟩ := He.ba h
  obtain ⟨h3, h⟩ := He.ba h
  obtain ⟨h4, h⟩ := He.ba h
  obtain ⟨h5, h⟩ := He.ba h
  obtain ⟨h6, h⟩ := He.ba h
  obtain ⟨h7, h⟩ := He.ba h
  obtain ⟨h8, h⟩ := He.ba h
  obtain ⟨h9, h⟩ := He.ba h
  obtain ⟨h10, h⟩ := He.ba h
  obtain ⟨h11, h⟩ := He.ba h
  obtain ⟨h12, h13⟩ := He.ba h
  unfold inObs at ho
  unfold funB at h8
  cases q : K.lookup (inAd K d.cls) with
  | none => rw [q] at h8; cases h8
  | some o =>
    obtain ⟨oc, od, dt, osl⟩ := o
    rw [q] at h8 ho
    cases dt with
    | func fd =>
      obtain ⟨n1, n2, n3, n4, n5, n6, n7, n8, n9, n10, n11, n12, n13, n14, n15⟩ := fd
      dsimp only at h8
      have e2 : (some (n1, n2, n3, n4, n5, n6, n7.map (·.1), n8, n15) : InV) = d.val := ho
      simp only [InD.val, Option.some.injEq, Prod.mk.injEq] at e2
      obtain ⟨r1, r2, r3, r4, r5, r6, r7, r8, r9⟩ := e2
      subst r1 r2 r3 r4 r5 r6 r8 r9
      cases n13 with
      | ref cda =>
        rcases n7 with _ | ⟨⟨cn, cc⟩, _ | ⟨c2, n7⟩⟩
        · cases h8
        · have r7' : cn = "__class__" := by simpa using r7
          subst r7'
          obtain ⟨a1, h8⟩ := He.ba h8
          obtain ⟨a2, a3⟩ := He.ba h8
          refine ⟨cda, cc, ⟨⟨oexB_ok h1, He.eqO_ok h2, of_decide_eq_true h3, of_decide_eq_true h4, h5⟩, He.eqO_ok h6, of_decide_eq_true h7, ⟨oc, od, osl, .none, n9, n10, n11, n12, n14, q, fun s e u => .of_eq (hb _ _ _ _ _ _ _ _ _)⟩, a1, ?_, ?_, He.eqO_ok h9, He.eqO_ok h10, of_decide_eq_true h11, of_decide_eq_true h12, He.eqO_ok h13⟩⟩
          · unfold codB at a2
            cases z : K.lookup cda with
            | none => rw [z] at a2; cases a2
            | some o2 =>
              obtain ⟨oc2, od2, dt2, osl2⟩ := o2
              rw [z] at a2
              cases dt2 with
              | fields vs =>
                dsimp only at a2
                cases z2 : vs[2]? with
                | none => rw [z2] at a2; cases a2
                | some v2 =>
                  rw [z2] at a2
                  cases v2 with
                  | str fl tf =>
                    have e3 : fl = file := of_decide_eq_true a2
                    exact ⟨oc2, od2, vs, osl2, fl, tf, rfl, z2, by rw [e3, hf]; exact beq_self_eq_true _⟩
                  | _ => cases a2
              | _ => cases a2
          · unfold celB at a3
            cases z : K.lookup cc with
            | none => rw [z] at a3; cases a3
            | some o2 =>
              obtain ⟨oc2, od2, dt2, osl2⟩ := o2
              rw [z] at a3
              cases dt2 with
              | cell v =>
                cases v with
                | none => cases a3
                | some v =>
                  cases v with
                  | ref D =>
                    have e3 : D = He.ga K d.cls := of_decide_eq_true a3
                    subst e3
                    exact ⟨oc2, od2, osl2, rfl⟩
                  | _ => cases a3
              | _ => cases a3
        · cases h8
      | _ => cases h8
    | _ => cases h8
def cInit (s : Stmt) : Stmt := match s with
  | .ClassDef _ _ _ b _ _ _ _ _ _ _ => b.getD 0 (.Pass ⟨0, 0, 0, 0⟩)
  | _ => .Pass ⟨0, 0, 0, 0⟩

/-! ### the Hook -/
/-- closure cells of what is looked at, and cStatics -/
def asY (g : Addr → Option Obj) (n : Nat) : List Addr := (He.asD g n ++ (He.asD g n).flatMap fun a => match g a with
  | some ⟨_, _, .func fd, _⟩ => fd.closure.map (·.2)
  | _ => []) ++ [cStatics]
structure SaysY (fa : List He.Fa) (fn : List He.DefD) (tf : List He.Defn) (ex : PySem.W.Frag → Bool) (ins : List InD) (w : World) (h : Heap) (K : PySem.W.Frag) : Prop where
  x : He.SaysX fa fn [] tf ex w h K
  ins : (ins.map fun d => inObs K d.cls) = ins.map InD.val
abbrev AlY : Type := He.AlX × List InV
def obsY (n : Nat) (fa : List He.Fa) (fn : List He.DefD) (tf : List He.Defn) (ex : PySem.W.Frag → Bool) (ins : List InD) (g : Addr → Option Obj) : AlY :=
  ((He.obsT fa fn [] (He.frT g (asY g n)), ex (He.frT g (asY g n)) && He.tabsB g tf (He.frT g (asY g n))), ins.map fun d => inObs (He.frT g (asY g n)) d.cls)
def valY (fn : List He.DefD) (ins : List InD) (w : World) : AlY := (He.valX fn [] w, ins.map InD.val)
theorem saysY_of {n : Nat} {fa : List He.Fa} {fn : List He.DefD} {tf : List He.Defn} {ex : PySem.W.Frag → Bool} {ins : List InD} {w : World} {h : Heap} (e : obsY n fa fn tf ex ins h.get? = valY fn ins w) : SaysY fa fn tf ex ins w h (He.frT h.get? (asY h.get? n)) := by
  have e0 : ((He.obsT fa fn [] (He.frT h.get? (asY h.get? n)), ex (He.frT h.get? (asY h.get? n)) && He.tabsB h.get? tf (He.frT h.get? (asY h.get? n))) : He.AlX) = He.valX fn [] w := congrArg (fun z : AlY => z.1) e
  have e1 : He.obsT fa fn [] (He.frT h.get? (asY h.get? n)) = He.valT fn [] w := congrArg (fun z : He.AlX => z.1) e0
  have e2 : (ex (He.frT h.get? (asY h.get? n)) && He.tabsB h.get? tf (He.frT h.get? (asY h.get? n))) = true := congrArg (fun z : He.AlX => z.2) e0
  have e3 : (ins.map fun d => inObs (He.frT h.get? (asY h.get? n)) d.cls) = ins.map InD.val := congrArg (fun z : AlY => z.2) e
  obtain ⟨h1, h2⟩ := He.ba e2
  have key : ∀ p ∈ tf, PySem.W.codeHdIn (He.frT h.get? (asY h.get? n)) (He.cT (He.frT h.get? (asY h.get? n)) p).1 (He.cT (He.frT h.get? (asY h.get? n)) p).2 = true ∧ ∃ o, h.get? (He.cT (He.frT h.get? (asY h.get? n)) p).2 = some o ∧ He.emptyTab o = true := fun p hp => by
    obtain ⟨h3, h4⟩ := He.ba (List.all_eq_true.mp h2 p hp)
    refine ⟨h3, ?_⟩
    cases q : h.get? (He.cT (He.frT h.get? (asY h.get? n)) p).2 with
    | none =>
      rw [q] at h4
      cases h4
    | some o =>
      rw [q] at h4
      exact ⟨o, rfl, h4⟩
  exact ⟨⟨e1, h1, fun p hp => (key p hp).1, fun p hp => by
    obtain ⟨_, o, q, z⟩ := key p hp
    exact He.frT_none q z, fun p hp => by
    obtain ⟨_, o, q, z⟩ := key p hp
    rw [q, He.emptyTab_eq z]⟩, e3⟩
def hookY (n : Nat) (fa : List He.Fa) (fn : List He.DefD) (tf : List He.Defn) (ex : PySem.W.Frag → Bool) (ins : List InD) : PySem.W.Hook where
  α := AlY
  obs := fun s => obsY n fa fn tf ex ins s.heap.get?
  val := fun w => valY fn ins w
  says := fun w h => ∃ K : PySem.W.Frag, K.In h ∧ SaysY fa fn tf ex ins w h K
  of := fun _ _ e => ⟨_, He.frT_in, saysY_of e⟩
  keeps := fun _ _ _ ⟨K, hK, c⟩ k => ⟨K, PySem.W.Frag.In.keeps hK k, ⟨⟨c.x.t, c.x.more, c.x.hd, c.x.out, fun p hp => k _ _ (c.x.empty p hp)⟩, c.ins⟩⟩
theorem obsY_eq {n : Nat} {fa : List He.Fa} {fn : List He.DefD} {tf : List He.Defn} {ex : PySem.W.Frag → Bool} {ins : List InD} {g : Addr → Option Obj} {s : Shared} (h : ∀ a, g a = s.heap.get? a) : obsY n fa fn tf ex ins g = (hookY n fa fn tf ex ins).obs s := by
  have e : g = s.heap.get? := funext h
  rw [e] <;> rfl
theorem SaysY.in_ {fa : List He.Fa} {fn : List He.DefD} {tf : List He.Defn} {ex : PySem.W.Frag → Bool} {ins : List InD} {w : World} {h : Heap} {K : PySem.W.Frag} (c : SaysY fa fn tf ex ins w h K) {d : InD} (i : Nat) (hd : ins[i]? = some d) : inObs K d.cls = d.val := by
  have e := c.ins
  have e2 : (ins.map fun d => inObs K d.cls)[i]? = (ins.map InD.val)[i]? := by rw [e]
  rw [List.getElem?_map, List.getElem?_map, hd] at e2
  exact Option.some.inj e2
end DL

set_option Elab.async false
set_option linter.all false
set_option maxRecDepth 100000
set_option maxHeartbeats 8000000
namespace My
open PySem PySem.Spec PyProof.Rows L2 DL
def xsE : List Str := ["BadNumber", "BadTable", "BadKind", "BadLot", "BadOrder", "BadBatch", "BadRow", "BadFold", "BadRing", "BadSlot", "BadPaper", "BadRule", "Outside", "BadText", "TooMany", "Gains"]
def subE (x y : Str) : Bool := decide (x = y) || decide (y = "WorksError")
def ansE (x : Str) (p : Option (Str × D)) : Rs D :=
  if x = "BadText" then (match p with
    | some (f, v) => if f = "line" then .ok (.tup [.str "raised", .lst [.str x], v]) else nope
    | none => nope) else
  if x = "TooMany" then (match p with
    | some (f, v) => if f = "limit" then .ok (.tup [.str "raised", .lst [.str x], v]) else nope
    | none => nope) else
  if x = "Gains" then (match p with
    | some (f, v) => if f = "ring" then .ok (.tup [.str "raised", .lst [.str x], v]) else nope
    | none => nope) else
  if x ∈ xsE then (match p with
    | none => .ok (.tup [.str "raised", .lst [.str x], .non])
    | some _ => nope) else nope
def s_is_whole : Sn := (retS (andD (unD (isiD "int") .fz (gV 0)) (notD (unD (isiD "bool") .fz (gV 0)))))
def d_is_whole : Fn := fnD false .fz 0 s_is_whole
def s_is_kind : Sn := (retS (andD (call0 d_is_whole (consA (gV 0) nilA)) (chD leD ltD .fz .fz .fz (kI 0) (gV 0) (gV 1))))
def d_is_kind : Fn := fnD false .fz 0 s_is_kind
def s_is_row : Sn := (seqS (ifS (orT (notT (tstD (unD (isi2D "list" "tuple") .fz (gV 0)))) (tstD (binD gtD .fz .fz (callD lenB [.fz] (consA (gV 0) nilA)) (kI 200)))) (retS (kB false)) nxS) (seqS (forS (seqI (gV 0)) (gN 2) (ifS (notT (tstD (call0 d_is_kind (consA (gV 2) (consA (gV 1) nilA))))) (retS (kB false)) nxS)) (retS (kB true))))
def d_is_row : Fn := fnD false .fz 1 s_is_row
def s_checked_row : Sn := (seqS (ifS (notT (tstD (call0 d_is_row (consA (gV 0) (consA (gV 1) nilA))))) (rsS "BadRow" none) nxS) (retS (callD tupleB [.fz] (consA (gV 0) nilA))))
def d_checked_row : Fn := fnD false .fz 0 s_checked_row
def s_singles_of : Sn := (retS (callD tupleB [.fr] (consA (lcD [1] (rng1 .fz (consA (kI 8) nilA)) (gN 1) (tstD (binD eqD .fz .fz (methD cntM .fz (gV 0) (consA (gV 1) nilA)) (kI 1))) (gV 1)) nilA)))
def d_singles_of : Fn := fnD false .fz 1 s_singles_of
def s_gaps_of : Sn := (seqS (setS 1 (call0 d_singles_of (consA (gV 0) nilA))) (seqS (setS 2 (lstD nilA)) (seqS (setS 3 (lstD nilA)) (seqS (forS (seqI (gV 0)) (gN 4) (ifS (tstD (binD inA .fz .fz (gV 4) (gV 1))) (seqS (dropS (mutD 2 appM (consA (callD tupleB [(.bw 3)] (consA kN nilA)) nilA))) (setS 3 (lstD nilA))) (dropS (mutD 3 appM (consA (gV 4) nilA))))) (seqS (dropS (mutD 2 appM (consA (callD tupleB [(.bw 3)] (consA kN nilA)) nilA))) (retS (callD tupleB [(.bw 2)] (consA kN nilA))))))))
def d_gaps_of : Fn := fnD false .fz 4 s_gaps_of
def s_is_short : Sn := (seqS (setS 1 (call0D d_checked_row ([8].map D.int) (consA (gV 0) nilA))) (seqS (ifS (tstD (binD eqD .fz .fz (callD lenB [.fz] (consA (gV 1) nilA)) (kI 0))) (retS (kB false)) nxS) (seqS (forS (seqI (call0 d_gaps_of (consA (gV 1) nilA))) (gN 2) (ifS (tstD (binD ltD .fz .fz (unD lenSetD .fz (gV 2)) (callD lenB [.fz] (consA (gV 2) nilA)))) (retS (kB false)) nxS)) (retS (kB true)))))
def d_is_short : Fn := fnD false .fz 2 s_is_short
def s_first_places : Sn := (seqS (setS 1 kD) (seqS (forS (enumI (consA (gV 0) nilA)) (unpG 2 (consG (gN 2) (consG (gN 3) gsNil))) (ifS (tstD (binD notInA .fz (.bw 1) (gV 3) kN)) (dputS 1 (gV 2) (gV 3)) nxS)) (retS (gV 1))))
def d_first_places : Fn := fnD false .fz 3 s_first_places
def s_last_places : Sn := (seqS (setS 1 kD) (seqS (forS (enumI (consA (gV 0) nilA)) (unpG 2 (consG (gN 2) (consG (gN 3) gsNil))) (dputS 1 (gV 2) (gV 3))) (retS (gV 1))))
def d_last_places : Fn := fnD false .fz 3 s_last_places
def s_start_for : Sn := (seqS (setS 4 (binD subD .fz .fz (gV 1) (kI 1))) (seqS (whileD (andT (tstD (binD geD .fz .fz (gV 4) (kI 0))) (andT (tstD (binD neD .fz .fz (binD ixA .fz .fz (gV 0) (gV 4)) (binD ixA .fz .fz (gV 0) (gV 1)))) (tstD (binD notInA .fz .fz (binD ixA .fz .fz (gV 0) (gV 4)) (slcD slA .fz (gV 0) (someO (binD addA .fz .fz (gV 4) (kI 1))) (someO (gV 1))))))) (augS 4 subD .fz (kI 1)) 1000000) (seqS (ifS (orT (tstD (binD ltD .fz .fz (gV 4) (kI 0))) (tstD (binD neD .fz .fz (binD ixA .fz .fz (gV 0) (gV 4)) (binD ixA .fz .fz (gV 0) (gV 1))))) (retS kN) nxS) (seqS (forS (seqI (slcD slA .fz (gV 0) (someO (gV 4)) (someO (gV 1)))) (gN 5) (ifS (andT (tstD (binD geD .fz .fz (binD ixA .fz .fz (gV 2) (gV 5)) (gV 4))) (tstD (binD ltD .fz .fz (binD ixA .fz .fz (gV 3) (gV 5)) (gV 1)))) (retS kN) nxS)) (retS (gV 4))))))
def d_start_for : Fn := fnD false .fz 2 s_start_for
def s_first_of : Sn := (seqS (setS 1 (call0 d_first_places (consA (gV 0) nilA))) (seqS (setS 2 (call0 d_last_places (consA (gV 0) nilA))) (seqS (forS (rng1 .fz (consA (callD lenB [.fz] (consA (gV 0) nilA)) nilA)) (gN 3) (seqS (setS 4 (call0 d_start_for (consA (gV 0) (consA (gV 3) (consA (gV 1) (consA (gV 2) nilA)))))) (ifS (tstD (binD isNotD .fz .fz (gV 4) kN)) (retS (tupD (consA (gV 4) (consA (gV 3) nilA)))) nxS))) (retS kN))))
def d_first_of : Fn := fnD false .fz 4 s_first_of
def s_is_cut : Sn := (seqS (ifS (orT (tstD (binD geD .fz .fz (gV 1) (gV 2))) (tstD (binD geD .fz .fz (gV 2) (callD lenB [.fz] (consA (gV 0) nilA))))) (retS (kB false)) nxS) (retS (binD eqD .fz .fz (call0 d_start_for (consA (gV 0) (consA (gV 2) (consA (call0 d_first_places (consA (gV 0) nilA)) (consA (call0 d_last_places (consA (gV 0) nilA)) nilA))))) (gV 1))))
def d_is_cut : Fn := fnD false .fz 0 s_is_cut
def s_checked_log : Sn := (seqS (ifS (orT (notT (tstD (unD (isi2D "list" "tuple") .fz (gV 0)))) (tstD (binD gtD .fz .fz (callD lenB [.fz] (consA (gV 0) nilA)) (kI 200)))) (rsS "BadPaper" none) nxS) (seqS (setS 1 (lstD nilA)) (seqS (forS (seqI (gV 0)) (gN 2) (seqS (ifS (orT (notT (tstD (unD (isi2D "list" "tuple") .fz (gV 2)))) (tstD (binD neD .fz .fz (callD lenB [.fz] (consA (gV 2) nilA)) (kI 2)))) (rsS "BadPaper" none) nxS) (seqS (asgS (unpG 2 (consG (gN 3) (consG (gN 4) gsNil))) (gV 2)) (seqS (ifS (orT (notT (tstD (call0 d_is_whole (consA (gV 3) nilA)))) (tstD (binD ltD .fz .fz (gV 3) (kI 0)))) (rsS "BadPaper" none) nxS) (seqS (ifS (orT (notT (tstD (call0 d_is_row (consA (gV 4) (consA (kI 8) nilA))))) (tstD (binD ltD .fz .fz (callD lenB [.fz] (consA (gV 4) nilA)) (kI 1)))) (rsS "BadPaper" none) nxS) (dropS (mutD 1 appM (consA (tupD (consA (gV 3) (consA (callD tupleB [.fz] (consA (gV 4) nilA)) nilA))) nilA)))))))) (retS (gV 1)))))
def d_checked_log : Fn := fnD false .fz 4 s_checked_log
def s_cut_down : Sn := (seqS (setS 1 (call0D d_checked_row ([8].map D.int) (consA (gV 0) nilA))) (seqS (ifS (tstD (binD eqD .fz .fz (callD lenB [.fz] (consA (gV 1) nilA)) (kI 0))) (rsS "BadRow" none) nxS) (seqS (setS 2 (lstD nilA)) (seqS (setS 3 (call0 d_first_of (consA (gV 1) nilA))) (seqS (whileD (tstD (binD isNotD .fz .fz (gV 3) kN)) (seqS (asgS (unpG 2 (consG (gN 4) (consG (gN 5) gsNil))) (gV 3)) (seqS (dropS (mutD 2 appM (consA (tupD (consA (gV 4) (consA (slcD slA .fz (gV 1) (someO (gV 4)) (someO (gV 5))) nilA))) nilA))) (seqS (setS 1 (binD addA .fz .fz (slcD slA .fz (gV 1) noO (someO (gV 4))) (slcD slA .fz (gV 1) (someO (gV 5)) noO))) (setS 3 (call0 d_first_of (consA (gV 1) nilA)))))) 1000000) (retS (tupD (consA (gV 1) (consA (callD tupleB [(.bw 2)] (consA kN nilA)) nilA)))))))))
def d_cut_down : Fn := fnD false .fz 5 s_cut_down
def s_grow : Sn := (seqS (setS 2 (call0D d_checked_row ([8].map D.int) (consA (gV 0) nilA))) (seqS (setS 3 (call0 d_checked_log (consA (gV 1) nilA))) (seqS (setS 4 (callD lenB [.fz] (consA (gV 2) nilA))) (seqS (forS (seqI (gV 3)) (unpG 2 (consG (gN 5) (consG (gN 6) gsNil))) (augS 4 addI .fz (callD lenB [.fz] (consA (gV 6) nilA)))) (seqS (ifS (tstD (binD gtD .fz .fz (gV 4) (kI 200))) (rsF "TooMany" "limit" (kI 200)) nxS) (seqS (forS (revI (gV 3)) (unpG 2 (consG (gN 5) (consG (gN 6) gsNil))) (seqS (ifS (tstD (binD gtD .fz .fz (gV 5) (callD lenB [.fz] (consA (gV 2) nilA)))) (rsS "Outside" none) nxS) (setS 2 (binD addA .fz .fz (binD addA .fz .fz (slcD slA .fz (gV 2) noO (someO (gV 5))) (gV 6)) (slcD slA .fz (gV 2) (someO (gV 5)) noO))))) (retS (gV 2))))))))
def d_grow : Fn := fnD false .fz 5 s_grow
def s_judge_log : Sn := (seqS (setS 3 (call0D d_checked_row ([8].map D.int) (consA (gV 0) nilA))) (seqS (setS 4 (call0 d_checked_log (consA (gV 1) nilA))) (seqS (ifS (notT (tstD (call0 d_is_row (consA (gV 2) (consA (kI 8) nilA))))) (rsS "BadPaper" none) nxS) (seqS (forS (seqI (gV 4)) (unpG 2 (consG (gN 5) (consG (gN 6) gsNil))) (seqS (setS 7 (binD addA .fz .fz (gV 5) (callD lenB [.fz] (consA (gV 6) nilA)))) (seqS (ifS (orT (notT (tstD (call0 d_is_cut (consA (gV 3) (consA (gV 5) (consA (gV 7) nilA)))))) (tstD (binD neD .fz .fz (slcD slA .fz (gV 3) (someO (gV 5)) (someO (gV 7))) (gV 6)))) (retS (kS "cut")) nxS) (setS 3 (binD addA .fz .fz (slcD slA .fz (gV 3) noO (someO (gV 5))) (slcD slA .fz (gV 3) (someO (gV 7)) noO)))))) (seqS (ifS (tstD (binD neD .fz .fz (gV 3) (callD tupleB [.fz] (consA (gV 2) nilA)))) (retS (kS "left")) nxS) (seqS (ifS (notT (tstD (call0 d_is_short (consA (gV 3) nilA)))) (retS (kS "long")) nxS) (retS (kS "good"))))))))
def d_judge_log : Fn := fnD false .fz 5 s_judge_log
def s__law_store : Sn := (seqS (setS 1 (lstD nilA)) (seqS (setS 2 (kI 17562)) (seqS (forS (scrI (gV 0)) (gN 3) (seqS (setS 4 (binD modD .fz .fz (callD intB [.fz] (consA (gV 3) nilA)) (kI 2147483647))) (seqS (setS 2 (binD modD .fz .fz (callD intB [.fz] (consA (binD addA .fz .fz (binD addA .fz .fz (binD mulA .fz .fz (gV 2) (kI 48271)) (gV 4)) (kI 7)) nilA)) (kI 2147483647))) (ifS (tstD (binD ltD .fz .fz (gV 3) (binD powD .fz .fz (kI 10) (kI 18)))) (dropS (mutD 1 appM (consA (tupD (consA (kI 0) (consA (gV 4) nilA))) nilA))) (dropS (mutD 1 appM (consA (tupD (consA (kI 1) (consA (binD modD .fz .fz (callD intB [.fz] (consA (gV 3) nilA)) (binD powD .fz .fz (binD powD .fz .fz (kI 10) (kI 60)) (kI 10))) nilA))) nilA))))))) (retS (lstD (consA (gV 1) (consA (kI 0) (consA (kI 0) (consA (kI 0) (consA (gV 2) nilA))))))))))
def d__law_store : Fn := fnD false .fr 4 s__law_store
def s__law_mix : Sn := (seqS (setS 2 (binD modD .fz .fz (callD intB [.fz] (consA (binD addA .fz .fz (binD addA .fz .fz (binD mulA .fz .fz (gV 0) (kI 48271)) (binD mulA .fz .fz (gV 1) (kI 69621))) (kI 12345)) nilA)) (kI 2147483647))) (seqS (setS 3 (binD modD .fz .fz (callD intB [.fz] (consA (binD addA .fz .fz (binD addA .fz .fz (binD mulA .fz .fz (gV 2) (gV 2)) (binD mulA .fz .fz (gV 1) (kI 16807))) (gV 0)) nilA)) (kI 2147483629))) (seqS (setS 4 (binD modD .fz .fz (callD intB [.fz] (consA (binD addA .fz .fz (binD addA .fz .fz (binD mulA .fz .fz (gV 3) (kI 39373)) (binD mulA .fz .fz (gV 2) (kI 3))) (gV 1)) nilA)) (kI 2147483587))) (retS (binD addA .fz .fz (binD mulA .fz .fz (gV 3) (kI 2147483587)) (gV 4))))))
def d__law_mix : Fn := fnD false .fz 3 s__law_mix
def s__law_take : Sn := (seqS (ifS (tstD (binD ltD .fz .fz (gV 1) (kI 2))) (retS (kI 0)) nxS) (seqS (setAt 0 (binD addA .fz .fz (binD ixA (.bw 0) .fz kN (kI 2)) (kI 1)) (kI 2)) (seqS (ifS (andT (tstD (binD eqD .fz .fz (binD ixA (.bw 0) .fz kN (kI 3)) (kI 0))) (tstD (binD ltD .fz .fz (binD ixA (.bw 0) .fz kN (kI 1)) (callD lenB [.fz] (consA (binD ixA (.bw 0) .fz kN (kI 0)) nilA))))) (seqS (asgS (unpG 2 (consG (gN 2) (consG (gN 3) gsNil))) (binD ixA .fz .fz (binD ixA (.bw 0) .fz kN (kI 0)) (binD ixA (.bw 0) .fz kN (kI 1)))) (seqS (setAt 0 (binD addA .fz .fz (binD ixA (.bw 0) .fz kN (kI 1)) (kI 1)) (kI 1)) (seqS (ifS (tstD (binD eqD .fz .fz (gV 2) (kI 0))) (retS (binD modD .fz .fz (callD intB [.fz] (consA (call0 d__law_mix (consA (gV 3) (consA (binD ixA (.bw 0) .fz kN (kI 2)) nilA))) nilA)) (gV 1))) nxS) (setAt 0 (gV 3) (kI 3))))) nxS) (seqS (ifS (tstD (binD gtD .fz .fz (binD ixA (.bw 0) .fz kN (kI 3)) (kI 0))) (seqS (setS 4 (binD modD .fz .fz (callD intB [.fz] (consA (binD ixA (.bw 0) .fz kN (kI 3)) nilA)) (gV 1))) (seqS (setAt 0 (binD fdivD .fz .fz (binD ixA (.bw 0) .fz kN (kI 3)) (gV 1)) (kI 3)) (retS (gV 4)))) nxS) (seqS (setAt 0 (binD modD .fz .fz (callD intB [.fz] (consA (binD addA .fz .fz (binD addA .fz .fz (binD mulA .fz .fz (binD ixA (.bw 0) .fz kN (kI 4)) (kI 48271)) (binD mulA .fz .fz (binD ixA (.bw 0) .fz kN (kI 2)) (kI 69621))) (kI 1)) nilA)) (kI 2147483647)) (kI 4)) (retS (binD modD .fz .fz (callD intB [.fz] (consA (call0 d__law_mix (consA (binD ixA (.bw 0) .fz kN (kI 4)) (consA (binD ixA (.bw 0) .fz kN (kI 2)) nilA))) nilA)) (gV 1))))))))
def d__law_take : Fn := fnD true .fz 3 s__law_take
def s__law_pick : Sn := (retS (binD ixA .fz .fz (gV 1) (call1 0 d__law_take (consA kN (consA (callD lenB [.fz] (consA (gV 1) nilA)) nilA)))))
def d__law_pick : Fn := fnD true .fz 0 s__law_pick
def s__law_shaped (rec : Fn) : Sn := (seqS (ifS (notT (tstD (unD (isi2D "list" "tuple") .fz (gV 0)))) (retS (gV 0)) nxS) (seqS (setS 2 (lcD [3] (seqI (gV 0)) (gN 3) yesT (call0 rec (consA (gV 3) (consA (binD fdivD .fz .fz (gV 1) (kI 2)) nilA))))) (seqS (ifS (tstD (binD eqD .fz .fz (binD modD .fz .fz (callD intB [.fz] (consA (gV 1) nilA)) (kI 2)) (kI 0))) (retS (gV 2)) nxS) (retS (callD tupleB [.fz] (consA (gV 2) nilA))))))
def d__law_shaped : Nat → Fn
  | 0 => fun _ => nope
  | n + 1 => fnD false .fz 2 (s__law_shaped (d__law_shaped n))
def s__law_same : Sn := (seqS (setS 2 (lstD (consA (tupD (consA (gV 0) (consA (gV 1) nilA))) nilA))) (seqS (whileD (tstD (binD gtD .fz .fz (callD lenB [(.bw 2)] (consA kN nilA)) (kI 0))) (seqS (asgS (unpG 2 (consG (gN 3) (consG (gN 4) gsNil))) (mutD 2 popM nilA)) (ifS (orT (tstD (binD isD .fz .fz (gV 4) kN)) (orT (tstD (binD isD .fz .fz (gV 4) (kB true))) (tstD (binD isD .fz .fz (gV 4) (kB false))))) (seqS (ifS (andT (notT (tstD (unD (isiD "bool") .fz (gV 3)))) (tstD (binD isNotD .fz .fz (gV 3) kN))) (retS (kB false)) nxS) (ifS (orT (tstD (binD neD .fz .fz (binD isD .fz .fz (gV 3) kN) (binD isD .fz .fz (gV 4) kN))) (tstD (binD neD .fz .fz (binD isD .fz .fz (gV 3) (kB true)) (binD isD .fz .fz (gV 4) (kB true))))) (retS (kB false)) nxS)) (ifS (tstD (unD (isiD "int") .fz (gV 4))) (ifS (orT (notT (tstD (unD (isiD "int") .fz (gV 3)))) (orT (tstD (unD (isiD "bool") .fz (gV 3))) (tstD (binD neD .fz .fz (gV 3) (gV 4))))) (retS (kB false)) nxS) (ifS (tstD (unD (isiD "str") .fz (gV 4))) (ifS (orT (notT (tstD (unD (isiD "str") .fz (gV 3)))) (tstD (binD neD .fz .fz (gV 3) (gV 4)))) (retS (kB false)) nxS) (ifS (tstD (unD (isi2D "list" "tuple") .fz (gV 4))) (seqS (ifS (orT (notT (tstD (unD (isi2D "list" "tuple") .fz (gV 3)))) (tstD (binD neD .fz .fz (unD (isiD "list") .fz (gV 3)) (unD (isiD "list") .fz (gV 4))))) (retS (kB false)) nxS) (seqS (ifS (tstD (binD neD .fz .fz (callD lenB [.fz] (consA (gV 3) nilA)) (callD lenB [.fz] (consA (gV 4) nilA)))) (retS (kB false)) nxS) (forS (rng1 .fz (consA (callD lenB [.fz] (consA (gV 4) nilA)) nilA)) (gN 5) (dropS (mutD 2 appM (consA (tupD (consA (binD ixA .fz .fz (gV 3) (gV 5)) (consA (binD ixA .fz .fz (gV 4) (gV 5)) nilA))) nilA)))))) (retS (kB false))))))) 1000000) (retS (kB true))))
def d__law_same : Fn := fnD false .fz 4 s__law_same
def s__law_plain : Sn := (seqS (setS 1 (lstD (consA (gV 0) nilA))) (seqS (forS (rng1 .fz (consA (kI 100000) nilA)) (gN 2) (seqS (ifS (tstD (binD eqD .fz .fz (callD lenB [(.bw 1)] (consA kN nilA)) (kI 0))) (retS (kB true)) nxS) (seqS (setS 3 (mutD 1 popM nilA)) (ifS (tstD (unD (isiD "tuple") .fz (gV 3))) (forS (seqI (gV 3)) (gN 4) (dropS (mutD 1 appM (consA (gV 4) nilA)))) (ifS (andT (tstD (binD isNotD .fz .fz (gV 3) kN)) (notT (tstD (unD (isi2D "int" "str") .fz (gV 3))))) (retS (kB false)) nxS))))) (retS (kB false))))
def d__law_plain : Fn := fnD false .fz 4 s__law_plain
def s__law_answer (a0 : Addr) (dd : Option Addr) (x0 : Str) : Sn := (seqS (setS 2 (lstD (consA (unD (isE a0 dd x0 (subE x0 "BadNumber")) .fz (gV 1)) (consA (unD (isE a0 dd x0 (subE x0 "BadTable")) .fz (gV 1)) (consA (unD (isE a0 dd x0 (subE x0 "BadKind")) .fz (gV 1)) (consA (unD (isE a0 dd x0 (subE x0 "BadLot")) .fz (gV 1)) nilA)))))) (seqS (setS 2 (binD catD (.bw 2) .fr kN (lstD (consA (unD (isE a0 dd x0 (subE x0 "BadOrder")) .fz (gV 1)) (consA (unD (isE a0 dd x0 (subE x0 "BadBatch")) .fz (gV 1)) (consA (unD (isE a0 dd x0 (subE x0 "BadRow")) .fz (gV 1)) nilA)))))) (seqS (setS 2 (binD catD (.bw 2) .fr kN (lstD (consA (unD (isE a0 dd x0 (subE x0 "BadFold")) .fz (gV 1)) (consA (unD (isE a0 dd x0 (subE x0 "BadRing")) .fz (gV 1)) (consA (unD (isE a0 dd x0 (subE x0 "BadSlot")) .fz (gV 1)) nilA)))))) (seqS (setS 2 (binD catD (.bw 2) .fr kN (lstD (consA (unD (isE a0 dd x0 (subE x0 "BadPaper")) .fz (gV 1)) (consA (unD (isE a0 dd x0 (subE x0 "BadRule")) .fz (gV 1)) (consA (unD (isE a0 dd x0 (subE x0 "Outside")) .fz (gV 1)) nilA)))))) (seqS (setS 2 (binD catD (.bw 2) .fr kN (lstD (consA (unD (isE a0 dd x0 (subE x0 "BadText")) .fz (gV 1)) (consA (unD (isE a0 dd x0 (subE x0 "TooMany")) .fz (gV 1)) (consA (unD (isE a0 dd x0 (subE x0 "Gains")) .fz (gV 1)) nilA)))))) (seqS (dropS (mutD 2 appM (consA (notD (unD (isE a0 dd x0 true) .fz (gV 1))) nilA))) (seqS (setS 3 (lstD (consA (kS "BadNumber") (consA (kS "BadTable") (consA (kS "BadKind") (consA (kS "BadLot") (consA (kS "BadOrder") (consA (kS "BadBatch") (consA (kS "BadRow") (consA (kS "BadFold") (consA (kS "BadRing") nilA))))))))))) (seqS (setS 3 (binD addA .fz .fr (gV 3) (lstD (consA (kS "BadSlot") (consA (kS "BadPaper") (consA (kS "BadRule") (consA (kS "Outside") (consA (kS "BadText") (consA (kS "TooMany") (consA (kS "Gains") (consA (kS "odd") nilA))))))))))) (seqS (setS 4 kN) (seqS (ifS (tstD (unD (isE a0 dd x0 (subE x0 "BadText")) .fz (gV 1))) (setS 4 (unD (fldE a0 dd x0 "line") .fz (gV 1))) (ifS (tstD (unD (isE a0 dd x0 (subE x0 "TooMany")) .fz (gV 1))) (setS 4 (unD (fldE a0 dd x0 "limit") .fz (gV 1))) (ifS (tstD (unD (isE a0 dd x0 (subE x0 "Gains")) .fz (gV 1))) (setS 4 (unD (fldE a0 dd x0 "ring") .fz (gV 1))) nxS))) (retS (tupD (consA (kS "raised") (consA (lcD [5] (rng1 .fz (consA (kI 17) nilA)) (gN 5) (tstD (binD ixD (.bw 2) .fz kN (gV 5))) (binD ixD .fz .fz (gV 3) (gV 5))) (consA (gV 4) nilA)))))))))))))))
def s__law_refused : Sn := (seqS (ifS (orT (tstD (binD neD .fz .fz (binD ixA .fz .fz (gV 0) (kI 0)) (kS "raised"))) (tstD (binD neD .fz .fr (binD ixA .fz .fz (gV 0) (kI 1)) (lstD (consA (gV 1) nilA))))) (retS (kB false)) nxS) (retS (orD (binD eqD .fz .fz (gV 1) (kS "Gains")) (call0 d__law_same (consA (binD ixA .fz .fz (gV 0) (kI 2)) (consA (gV 2) nilA))))))
def d__law_refused : Fn := fnD false .fz 0 s__law_refused
def s__law_is_short : Sn := (seqS (setS 1 (lstD nilA)) (seqS (forS (seqI (gV 0)) (gN 2) (ifS (tstD (binD eqD .fz .fz (methD cntM .fr (callD listB [.fz] (consA (gV 0) nilA)) (consA (gV 2) nilA)) (kI 1))) (setS 1 (lstD nilA)) (ifS (tstD (binD inA .fz (.bw 1) (gV 2) kN)) (retS (kB false)) (dropS (mutD 1 appM (consA (gV 2) nilA)))))) (retS (binD gtD .fz .fz (callD lenB [.fz] (consA (gV 0) nilA)) (kI 0)))))
def d__law_is_short : Fn := fnD false .fz 2 s__law_is_short
def s__law_drawn_row : Sn := (seqS (setS 1 (call1 0 d__law_pick (consA kN (consA (lstD (consA (kI 1) (consA (kI 2) (consA (kI 3) (consA (kI 3) (consA (kI 4) (consA (kI 5) (consA (kI 8) nilA)))))))) nilA)))) (seqS (setS 2 (call1 0 d__law_pick (consA kN (consA (lstD (consA (call1 0 d__law_take (consA kN (consA (kI 9) nilA))) (consA (call1 0 d__law_take (consA kN (consA (kI 9) nilA))) (consA (call1 0 d__law_take (consA kN (consA (kI 41) nilA))) (consA (kI 0) (consA (kI 12) nilA)))))) nilA)))) (seqS (ifS (tstD (binD eqD .fz .fz (call1 0 d__law_take (consA kN (consA (kI 10) nilA))) (kI 0))) (setS 2 (binD subD .fz .fz (kI 200) (call1 0 d__law_take (consA kN (consA (kI 3) nilA))))) nxS) (seqS (setS 3 (lcD [4] (rng1 .fz (consA (binD addA .fz .fz (kI 1) (call1 0 d__law_take (consA kN (consA (kI 5) nilA)))) nilA)) (gN 4) yesT (call1 0 d__law_take (consA kN (consA (gV 1) nilA))))) (seqS (ifS (tstD (binD eqD .fz .fz (call1 0 d__law_take (consA kN (consA (kI 3) nilA))) (kI 0))) (retS (slcD slA .fz (binD mulA .fz .fz (gV 3) (kI 200)) noO (someO (gV 2)))) nxS) (retS (lcD [4] (rng1 .fz (consA (gV 2) nilA)) (gN 4) yesT (call1 0 d__law_take (consA kN (consA (gV 1) nilA))))))))))
def d__law_drawn_row : Fn := fnD true .fz 4 s__law_drawn_row
def s__law_a_cut : Sn := (seqS (setS 2 (callD lenB [.fz] (consA (gV 1) nilA))) (seqS (setS 3 (call1 0 d__law_take (consA kN (consA (gV 2) nilA)))) (seqS (forS (rng1 .fz (consA (gV 2) nilA)) (gN 4) (seqS (setS 5 (binD modD .fz .fz (callD intB [.fz] (consA (binD addA .fz .fz (gV 3) (gV 4)) nilA)) (gV 2))) (forS (rng2 .fz .fz (consA (kI 1) (consA (kI 9) nilA))) (gN 6) (seqS (setS 7 (binD subD .fz .fz (gV 5) (gV 6))) (ifS (andT (tstD (binD geD .fz .fz (gV 7) (kI 0))) (andT (tstD (binD eqD .fz .fz (binD ixA .fz .fz (gV 1) (gV 7)) (binD ixA .fz .fz (gV 1) (gV 5)))) (tstD (binD notInA .fz .fz (binD ixA .fz .fz (gV 1) (gV 5)) (slcD slA .fz (gV 1) (someO (binD addA .fz .fz (gV 7) (kI 1))) (someO (gV 5))))))) (seqS (setS 8 (lcD [9] (seqI (slcD slA .fz (gV 1) (someO (gV 7)) (someO (gV 5)))) (gN 9) (orT (tstD (binD gtD .fz .fz (methD cntM .fz (slcD slA .fz (gV 1) (someO (gV 7)) (someO (gV 5))) (consA (gV 9) nilA)) (kI 1))) (tstD (binD ltD .fz .fz (methD cntM .fz (gV 1) (consA (gV 9) nilA)) (kI 2)))) (gV 9))) (ifS (tstD (binD eqD .fz .fz (callD lenB [.fz] (consA (gV 8) nilA)) (kI 0))) (retS (tupD (consA (gV 7) (consA (gV 5) nilA)))) nxS)) nxS))))) (retS (tupD nilA)))))
def d__law_a_cut : Fn := fnD true .fz 8 s__law_a_cut
def s__law_cut_any : Sn := (seqS (setS 3 (callD listB [.fz] (consA (gV 1) nilA))) (seqS (setS 4 (lstD nilA)) (seqS (forS (rng1 .fz (consA (gV 2) nilA)) (gN 5) (seqS (setS 6 (call1 0 d__law_a_cut (consA kN (consA (gV 3) nilA)))) (seqS (ifS (tstD (binD eqD .fz .fz (gV 6) (tupD nilA))) (retS (tupD (consA (gV 3) (consA (gV 4) nilA)))) nxS) (seqS (dropS (mutD 4 appM (consA (tupD (consA (binD ixA .fz .fz (gV 6) (kI 0)) (consA (slcD slA .fz (gV 3) (someO (binD ixA .fz .fz (gV 6) (kI 0))) (someO (binD ixA .fz .fz (gV 6) (kI 1)))) nilA))) nilA))) (setS 3 (binD addA .fz .fz (slcD slA .fz (gV 3) noO (someO (binD ixA .fz .fz (gV 6) (kI 0)))) (slcD slA .fz (gV 3) (someO (binD ixA .fz .fz (gV 6) (kI 1))) noO))))))) (retS (tupD (consA (gV 3) (consA (gV 4) nilA)))))))
def d__law_cut_any : Fn := fnD true .fz 4 s__law_cut_any
def s__law_word : Sn := (seqS (setS 3 (callD listB [.fz] (consA (gV 0) nilA))) (seqS (forS (seqI (gV 1)) (unpG 2 (consG (gN 4) (consG (gN 5) gsNil))) (seqS (setS 6 (binD addA .fz .fz (gV 4) (callD lenB [.fz] (consA (gV 5) nilA)))) (seqS (ifS (orT (tstD (binD geD .fz .fz (gV 6) (callD lenB [.fz] (consA (gV 3) nilA)))) (orT (tstD (binD neD .fz .fr (slcD slA .fz (gV 3) (someO (gV 4)) (someO (gV 6))) (callD listB [.fz] (consA (gV 5) nilA)))) (tstD (binD neD .fz .fz (binD ixA .fz .fz (gV 3) (gV 4)) (binD ixA .fz .fz (gV 3) (gV 6)))))) (retS (kS "cut")) nxS) (seqS (ifS (tstD (binD gtD .fz .fz (callD lenB [.fr] (consA (lcD [7] (seqI (gV 5)) (gN 7) (orT (tstD (binD gtD .fz .fz (methD cntM .fr (callD listB [.fz] (consA (gV 5) nilA)) (consA (gV 7) nilA)) (kI 1))) (tstD (binD ltD .fz .fz (methD cntM .fz (gV 3) (consA (gV 7) nilA)) (kI 2)))) (gV 7)) nilA)) (kI 0))) (retS (kS "cut")) nxS) (setS 3 (binD addA .fz .fz (slcD slA .fz (gV 3) noO (someO (gV 4))) (slcD slA .fz (gV 3) (someO (gV 6)) noO))))))) (seqS (ifS (tstD (binD neD .fz .fr (gV 3) (callD listB [.fz] (consA (gV 2) nilA)))) (retS (kS "left")) nxS) (retS (ifD (tstD (call0 d__law_is_short (consA (gV 3) nilA))) (kS "good") (kS "long"))))))
def d__law_word : Fn := fnD false .fz 5 s__law_word
def s__law_grown : Sn := (seqS (ifS (tstD (binD gtD .fz .fz (binD addA .fz .fz (callD lenB [.fz] (consA (gV 0) nilA)) (callD sumB [.fr] (consA (lcD [6] (seqI (gV 1)) (gN 6) yesT (callD lenB [.fz] (consA (binD ixA .fz .fz (gV 6) (kI 1)) nilA))) nilA))) (kI 200))) (retS (tupD (consA (kS "TooMany") (consA (kI 200) nilA)))) nxS) (seqS (setS 2 (callD listB [.fz] (consA (gV 0) nilA))) (seqS (forS (rng1 .fz (consA (callD lenB [.fz] (consA (gV 1) nilA)) nilA)) (gN 3) (seqS (asgS (unpG 2 (consG (gN 4) (consG (gN 5) gsNil))) (binD ixA .fz .fz (gV 1) (binD subD .fz .fz (binD subD .fz .fz (callD lenB [.fz] (consA (gV 1) nilA)) (kI 1)) (gV 3)))) (seqS (ifS (tstD (binD gtD .fz .fz (gV 4) (callD lenB [.fz] (consA (gV 2) nilA)))) (retS (tupD (consA (kS "Outside") (consA kN nilA)))) nxS) (setS 2 (binD addA .fz .fz (binD addA .fz .fr (slcD slA .fz (gV 2) noO (someO (gV 4))) (callD listB [.fz] (consA (gV 5) nilA))) (slcD slA .fz (gV 2) (someO (gV 4)) noO)))))) (retS (tupD (consA (kS "told") (consA (callD tupleB [.fz] (consA (gV 2) nilA)) nilA)))))))
def d__law_grown : Fn := fnD false .fz 5 s__law_grown
def s__law_judged : Sn := (seqS (setS 4 (binD mulA .fz .fz (kI 2) (call1 0 d__law_pick (consA kN (consA (lstD (consA (kI 0) (consA (kI 63) (consA (kI 1) (consA (kI 2) (consA (kI 5) (consA (kI 10) nilA))))))) nilA))))) (seqS (setS 5 (call0 (d__law_shaped 8) (consA (lstD (consA (gV 1) (consA (gV 2) (consA (gV 3) nilA)))) (consA (gV 4) nilA)))) (seqS (ifS (notT (tstD (call0 d__law_same (consA (call0 d_judge_log (consA (binD ixA .fz .fz (gV 5) (kI 0)) (consA (binD ixA .fz .fz (gV 5) (kI 1)) (consA (binD ixA .fz .fz (gV 5) (kI 2)) nilA)))) (consA (call0 d__law_word (consA (gV 1) (consA (gV 2) (consA (gV 3) nilA)))) nilA))))) (retS (kB false)) nxS) (seqS (setS 6 (ansD "told" ansE (call0 d_grow (consA (binD ixA .fz .fz (gV 5) (kI 2)) (consA (binD ixA .fz .fz (gV 5) (kI 1)) nilA))))) (seqS (setS 7 (call0 d__law_grown (consA (gV 3) (consA (gV 2) nilA)))) (seqS (ifS (tstD (binD eqD .fz .fz (binD ixA .fz .fz (gV 7) (kI 0)) (kS "told"))) (setS 8 (call0 d__law_same (consA (gV 6) (consA (gV 7) nilA)))) (setS 8 (call0 d__law_refused (consA (gV 6) (consA (binD ixA .fz .fz (gV 7) (kI 0)) (consA (binD ixA .fz .fz (gV 7) (kI 1)) nilA)))))) (retS (andD (gV 8) (call0 d__law_same (consA (gV 5) (consA (call0 (d__law_shaped 8) (consA (lstD (consA (gV 1) (consA (gV 2) (consA (gV 3) nilA)))) (consA (gV 4) nilA))) nilA)))))))))))
def d__law_judged : Fn := fnD true .fz 5 s__law_judged
def s__law_bent_logs : Sn := (seqS (setS 3 (binD subD .fz .fz (binD subD .fz .fz (kI 200) (callD lenB [.fz] (consA (gV 2) nilA))) (callD sumB [.fr] (consA (lcD [10] (seqI (gV 1)) (gN 10) yesT (callD lenB [.fz] (consA (binD ixA .fz .fz (gV 10) (kI 1)) nilA))) nilA)))) (seqS (setS 4 (call1 0 d__law_pick (consA kN (consA (lstD (consA (kI 0) (consA (callD lenB [.fz] (consA (gV 2) nilA)) (consA (kI 200) (consA (binD powD .fz .fz (kI 10) (kI 40)) nilA))))) nilA)))) (seqS (setS 5 (call1 0 d__law_take (consA kN (consA (kI 8) nilA)))) (seqS (setS 6 (call1 0 d__law_take (consA kN (consA (binD addA .fz .fz (callD lenB [.fz] (consA (gV 1) nilA)) (kI 1)) nilA)))) (seqS (setS 7 (lstD (consA (binD addA .fz .fz (binD addA .fz .fr (slcD slA .fz (gV 1) noO (someO (gV 6))) (lstD (consA (tupD (consA (gV 4) (consA (binD mulA .fr .fz (lstD (consA (gV 5) nilA)) (kI 200)) nilA))) nilA))) (slcD slA .fz (gV 1) (someO (gV 6)) noO)) (consA (binD addA .fz .fr (gV 1) (lstD (consA (tupD (consA (gV 4) (consA (binD mulA .fr .fz (lstD (consA (gV 5) nilA)) (kI 200)) nilA))) (consA (tupD (consA (kI 0) (consA (lstD (consA (gV 5) nilA)) nilA))) nilA)))) nilA)))) (seqS (dropS (mutD 7 appM (consA (binD addA .fz .fz (binD addA .fz .fr (slcD slA .fz (gV 1) noO (someO (gV 6))) (lstD (consA (tupD (consA (gV 4) (consA (lstD (consA (gV 5) nilA)) nilA))) nilA))) (slcD slA .fz (gV 1) (someO (gV 6)) noO)) nilA))) (seqS (ifS (tstD (binD gtD .fz .fz (gV 3) (kI 0))) (seqS (dropS (mutD 7 appM (consA (binD addA .fz .fr (gV 1) (lstD (consA (tupD (consA (gV 4) (consA (binD mulA .fr .fz (lstD (consA (gV 5) nilA)) (gV 3)) nilA))) nilA))) nilA))) (seqS (dropS (mutD 7 appM (consA (binD addA .fr .fz (lstD (consA (tupD (consA (kI 0) (consA (binD mulA .fr .fz (lstD (consA (gV 5) nilA)) (gV 3)) nilA))) nilA)) (gV 1)) nilA))) (dropS (mutD 7 appM (consA (binD addA .fz .fz (binD addA .fz .fr (slcD slA .fz (gV 1) noO (someO (gV 6))) (lstD (consA (tupD (consA (gV 4) (consA (binD mulA .fr .fz (lstD (consA (gV 5) nilA)) (gV 3)) nilA))) (consA (tupD (consA (kI 0) (consA (lstD (consA (binD subD .fz .fz (kI 7) (gV 5)) nilA)) nilA))) nilA)))) (slcD slA .fz (gV 1) (someO (gV 6)) noO)) nilA))))) nxS) (seqS (ifS (tstD (binD gtD .fz .fz (callD lenB [.fz] (consA (gV 1) nilA)) (kI 0))) (seqS (setS 6 (call1 0 d__law_take (consA kN (consA (callD lenB [.fz] (consA (gV 1) nilA)) nilA)))) (seqS (asgS (unpG 2 (consG (gN 8) (consG (gN 9) gsNil))) (binD ixA .fz .fz (gV 1) (gV 6))) (seqS (setS 7 (binD catD (.bw 7) .fr kN (lcD [10] (seqI (lstD (consA (tupD (consA (binD addA .fz .fz (gV 8) (kI 1)) (consA (gV 9) nilA))) (consA (tupD (consA (gV 8) (consA (binD addA .fz .fr (gV 9) (lstD (consA (gV 5) nilA))) nilA))) nilA)))) (gN 10) yesT (binD addA .fz .fz (binD addA .fz .fr (slcD slA .fz (gV 1) noO (someO (gV 6))) (lstD (consA (gV 10) nilA))) (slcD slA .fz (gV 1) (someO (binD addA .fz .fz (gV 6) (kI 1))) noO))))) (seqS (setS 7 (binD catD (.bw 7) .fr kN (lstD (consA (binD addA .fz .fz (slcD slA .fz (gV 1) noO (someO (gV 6))) (slcD slA .fz (gV 1) (someO (binD addA .fz .fz (gV 6) (kI 1))) noO)) (consA (binD addA .fz .fz (binD addA .fz .fr (slcD slA .fz (gV 1) noO (someO (gV 6))) (lstD (consA (binD ixA .fz .fz (gV 1) (gV 6)) (consA (binD ixA .fz .fz (gV 1) (gV 6)) nilA)))) (slcD slA .fz (gV 1) (someO (binD addA .fz .fz (gV 6) (kI 1))) noO)) (consA (unD revL .fz (gV 1)) nilA)))))) (dropS (mutD 7 appM (consA (binD addA .fz .fz (binD addA .fz .fr (slcD slA .fz (gV 1) noO (someO (gV 6))) (lstD (consA (tupD (consA (gV 8) (consA (binD addA .fz .fr (slcD slA .fz (gV 9) noO (someO (unD negD .fz (kI 1)))) (lstD (consA (gV 5) nilA))) nilA))) nilA))) (slcD slA .fz (gV 1) (someO (binD addA .fz .fz (gV 6) (kI 1))) noO)) nilA))))))) nxS) (retS (lcD [11] (seqI (gV 7)) (gN 11) (tstD (binD leD .fz .fz (callD lenB [.fz] (consA (gV 11) nilA)) (kI 200))) (gV 11)))))))))))
def d__law_bent_logs : Fn := fnD true .fz 9 s__law_bent_logs
def s__law_refusals : Sn := (seqS (setS 4 (lstD (consA (tupD (consA (unD negD .fz (kI 1)) (consA (lstD (consA (kI 0) nilA)) nilA))) (consA (tupD (consA (kI 0) (consA (lstD nilA) nilA))) (consA (tupD (consA (kI 0) (consA (binD mulA .fr .fz (lstD (consA (kI 0) nilA)) (kI 201)) nilA))) (consA (tupD (consA (kI 0) (consA (lstD (consA (kI 8) nilA)) nilA))) (consA (tupD (consA (kI 0) (consA (lstD (consA (kB true) nilA)) nilA))) (consA (tupD (consA (kB true) (consA (lstD (consA (kI 0) nilA)) nilA))) (consA (tupD (consA kN (consA (lstD (consA (kI 0) nilA)) nilA))) (consA (tupD (consA (kI 0) (consA (lstD (consA (kI 0) nilA)) (consA (kI 0) nilA)))) (consA (tupD (consA (kI 0) nilA)) nilA))))))))))) (seqS (setS 5 (call1 0 d__law_pick (consA kN (consA (binD addA .fz .fr (gV 4) (lstD (consA (tupD (consA (lstD (consA (kI 0) nilA)) (consA (kI 0) nilA))) (consA (tupD (consA (kI 0) (consA (kI 0) nilA))) (consA kN (consA (kI 0) (consA kD (consA (kS "a") nilA)))))))) nilA)))) (seqS (setS 6 (call1 0 d__law_take (consA kN (consA (binD addA .fz .fz (callD lenB [.fz] (consA (gV 2) nilA)) (kI 1)) nilA)))) (seqS (setS 7 (lstD (consA (binD addA .fz .fz (binD addA .fz .fr (slcD slA .fz (gV 2) noO (someO (gV 6))) (lstD (consA (gV 5) nilA))) (slcD slA .fz (gV 2) (someO (gV 6)) noO)) (consA (binD mulA .fr .fz (lstD (consA (tupD (consA (kI 0) (consA (lstD (consA (kI 0) nilA)) nilA))) nilA)) (kI 201)) (consA kN (consA (kI 0) (consA (kS "0") (consA kD nilA)))))))) (seqS (setS 8 (call1 0 d__law_pick (consA kN (consA (lstD (consA (binD ixA .fz .fz (gV 7) (kI 0)) (consA (binD ixA .fz .fz (gV 7) (kI 0)) (consA (call1 0 d__law_pick (consA kN (consA (gV 7) nilA))) nilA)))) nilA)))) (seqS (setS 9 (call1 0 d__law_pick (consA kN (consA (lstD (consA (lstD (consA (kI 8) nilA)) (consA (binD mulA .fr .fz (lstD (consA (kI 0) nilA)) (kI 201)) (consA (lstD (consA (unD negD .fz (kI 1)) nilA)) (consA (lstD (consA (kB true) nilA)) (consA kN (consA (kS "0") (consA (kI 0) (consA (lstD (consA (lstD (consA (kI 0) nilA)) nilA)) (consA kD nilA)))))))))) nilA)))) (seqS (setS 10 (lstD (consA (tupD (consA (ansD "told" ansE (call0 d_judge_log (consA (gV 1) (consA (gV 8) (consA (gV 3) nilA))))) (consA (kS "BadPaper") nilA))) nilA))) (seqS (dropS (mutD 10 appM (consA (tupD (consA (ansD "told" ansE (call0 d_judge_log (consA (gV 1) (consA (gV 2) (consA (gV 9) nilA))))) (consA (kS "BadPaper") nilA))) nilA))) (seqS (dropS (mutD 10 appM (consA (tupD (consA (ansD "told" ansE (call0 d_judge_log (consA (gV 9) (consA (gV 8) (consA (gV 9) nilA))))) (consA (kS "BadRow") nilA))) nilA))) (seqS (dropS (mutD 10 appM (consA (tupD (consA (ansD "told" ansE (call0 d_grow (consA (binD mulA .fr .fz (lstD (consA (kI 0) nilA)) (kI 200)) (consA (gV 8) nilA)))) (consA (kS "BadPaper") nilA))) nilA))) (seqS (dropS (mutD 10 appM (consA (tupD (consA (ansD "told" ansE (call0 d_grow (consA (gV 9) (consA (gV 8) nilA)))) (consA (kS "BadRow") nilA))) nilA))) (seqS (dropS (mutD 10 appM (consA (tupD (consA (ansD "told" ansE (call0 d_cut_down (consA (lstD nilA) nilA))) (consA (kS "BadRow") nilA))) nilA))) (seqS (forS (seqI (gV 10)) (unpG 2 (consG (gN 11) (consG (gN 12) gsNil))) (ifS (notT (tstD (call0 d__law_refused (consA (gV 11) (consA (gV 12) (consA kN nilA)))))) (retS (kB false)) nxS)) (retS (kB true)))))))))))))))
def d__law_refusals : Fn := fnD true .fz 9 s__law_refusals
def s_law : Sn := (seqS (setS 1 (call0 d__law_store (consA (gV 0) nilA))) (seqS (setS 2 (call1 1 d__law_drawn_row (consA kN nilA))) (seqS (asgS (unpG 2 (consG (gN 3) (consG (gN 4) gsNil))) (call1 1 d__law_cut_any (consA kN (consA (gV 2) (consA (call1 1 d__law_pick (consA kN (consA (lstD (consA (kI 200) (consA (kI 200) (consA (call1 1 d__law_take (consA kN (consA (kI 9) nilA))) (consA (kI 0) nilA))))) nilA))) nilA))))) (seqS (ifS (orT (notT (tstD (call1 1 d__law_judged (consA kN (consA (gV 2) (consA (gV 4) (consA (gV 3) nilA))))))) (notT (tstD (call0 d__law_same (consA (call0 d_is_short (consA (gV 3) nilA)) (consA (call0 d__law_is_short (consA (gV 3) nilA)) nilA)))))) (retS (kB false)) nxS) (seqS (setS 5 (call1 1 d__law_bent_logs (consA kN (consA (gV 4) (consA (gV 3) nilA))))) (seqS (ifS (tstD (binD gtD .fz .fz (callD lenB [.fz] (consA (gV 2) nilA)) (kI 60))) (setS 5 (lcD [9] (rng1 .fz (consA (kI 4) nilA)) (gN 9) yesT (call1 1 d__law_pick (consA kN (consA (gV 5) nilA))))) nxS) (seqS (forS (seqI (gV 5)) (gN 6) (ifS (notT (tstD (call1 1 d__law_judged (consA kN (consA (gV 2) (consA (gV 6) (consA (gV 3) nilA))))))) (retS (kB false)) nxS)) (seqS (ifS (orT (notT (tstD (call1 1 d__law_judged (consA kN (consA (gV 2) (consA (gV 4) (consA (slcD slA .fz (gV 3) (someO (kI 1)) noO) nilA))))))) (notT (tstD (call1 1 d__law_judged (consA kN (consA (gV 2) (consA (gV 4) (consA (binD addA .fz .fr (slcD slA .fz (gV 3) noO (someO (kI 199))) (lstD (consA (kI 0) nilA))) nilA)))))))) (retS (kB false)) nxS) (seqS (ifS (notT (tstD (call1 1 d__law_refusals (consA kN (consA (gV 2) (consA (gV 4) (consA (gV 3) nilA))))))) (retS (kB false)) nxS) (seqS (ifS (tstD (binD eqD .fz .fz (callD lenB [.fz] (consA (gV 2) nilA)) (kI 0))) (retS (kB true)) nxS) (seqS (setS 7 (call0 d_cut_down (consA (callD tupleB [.fz] (consA (gV 2) nilA)) nilA))) (seqS (ifS (orT (notT (tstD (call0 d__law_plain (consA (gV 7) nilA)))) (orT (notT (tstD (unD (isiD "tuple") .fz (gV 7)))) (orT (tstD (binD neD .fz .fz (callD lenB [.fz] (consA (gV 7) nilA)) (kI 2))) (notT (tstD (unD (isiD "tuple") .fz (binD ixA .fz .fz (gV 7) (kI 1)))))))) (retS (kB false)) nxS) (seqS (setS 8 (lcD [10] (seqI (binD ixA .fz .fz (gV 7) (kI 1))) (gN 10) yesT (tupD (consA (binD ixA .fz .fz (gV 10) (kI 0)) (consA (callD listB [.fz] (consA (binD ixA .fz .fz (gV 10) (kI 1)) nilA)) nilA))))) (seqS (ifS (orT (tstD (binD neD .fz .fz (call0 d__law_word (consA (gV 2) (consA (gV 8) (consA (binD ixA .fz .fz (gV 7) (kI 0)) nilA)))) (kS "good"))) (notT (tstD (call0 d__law_same (consA (call0 d_grow (consA (binD ixA .fz .fz (gV 7) (kI 0)) (consA (binD ixA .fz .fz (gV 7) (kI 1)) nilA))) (consA (callD tupleB [.fz] (consA (gV 2) nilA)) nilA)))))) (retS (kB false)) nxS) (retS (call0 d__law_same (consA (call0 d_judge_log (consA (callD listB [.fz] (consA (gV 2) nilA)) (consA (binD ixA .fz .fz (gV 7) (kI 1)) (consA (binD ixA .fz .fz (gV 7) (kI 0)) nilA)))) (consA (kS "good") nilA))))))))))))))))))
def d_law : Fn := fnD false .fz 10 s_law
end My

set_option Elab.async false
set_option linter.all false
set_option maxRecDepth 100000
set_option maxHeartbeats 1000000
namespace My
open PySem PySem.Spec PyProof.Rows L2 DL
structure Tg {α : Type} (a : α) : Type where
def bnd {α β : Type} (a : Rs α) (f : α → Rs β) (t : Tg f := ⟨⟩) : Rs β := a >>= f
@[simp] theorem bnd_ok {α β : Type} (a : α) (f : α → Rs β) (t : Tg f) : bnd (.ok a) f t = f a := .trans rfl rfl
@[simp] theorem bnd_er {α β : Type} (e : Er) (f : α → Rs β) (t : Tg f) : bnd (.error e : Rs α) f t = .error e := .trans rfl rfl
def sel {α : Type} (c : Bool) (a b : Rs α) (ta : Tg a := ⟨⟩) (tb : Tg b := ⟨⟩) : Rs α := match c with
  | true => a
  | false => b
@[simp] theorem sel_t {α : Type} (a b : Rs α) (ta : Tg a) (tb : Tg b) : sel true a b ta tb = a := .trans rfl rfl
@[simp] theorem sel_f {α : Type} (a b : Rs α) (ta : Tg a) (tb : Tg b) : sel false a b ta tb = b := .trans rfl rfl
def selO (o : Out) (b : Sn) (t : Tg b := ⟨⟩) : Rs Out := match o with
  | .nx Γ1 => b Γ1
  | o => .ok o
@[simp] theorem selO_nx (Γ : List D) (b : Sn) (t : Tg b) : selO (.nx Γ) b t = b Γ := .trans rfl rfl
@[simp] theorem selO_ret (d : D) (Γ : List D) (b : Sn) (t : Tg b) : selO (.ret d Γ) b t = .ok (.ret d Γ) := .trans rfl rfl
@[simp] theorem seqS_ap (a b : Sn) (Γ : List D) : seqS a b Γ = bnd (a Γ) fun o => selO o b := by
  unfold seqS bnd
  congr 1
@[simp] theorem dropS_ap (a : Dn) (Γ : List D) : dropS a Γ = bnd (a Γ) fun x => .ok (.nx x.2) := .trans rfl rfl
@[simp] theorem retS_ap (a : Dn) (Γ : List D) : retS a Γ = bnd (a Γ) fun x => .ok (.ret x.1 x.2) := .trans rfl rfl
@[simp] theorem ifS_ap (t : Tn) (a b : Sn) (Γ : List D) : ifS t a b Γ = bnd (t Γ) fun x => sel x.1 (a x.2) (b x.2) := by
  unfold ifS bnd sel
  rfl
@[simp] theorem setS_ap (i : Nat) (a : Dn) (Γ : List D) : setS i a Γ = bnd (a Γ) fun x => .ok (.nx (x.2.set i x.1)) := .trans rfl rfl
@[simp] theorem asgS_ap (g : Gn) (a : Dn) (Γ : List D) : asgS g a Γ = bnd (a Γ) fun x => bnd (g x.1 x.2) fun Γ1 => .ok (.nx Γ1) := .trans rfl rfl
@[simp] theorem augS_ap (i : Nat) (op : D → D → Rs D) (m : VM) (a : Dn) (Γ : List D) : augS i op m a Γ = bnd (a Γ) fun x => bnd (op (Γ.getD i .non) (rd x.2 x.1 m)) fun z => .ok (.nx (x.2.set i z)) := .trans rfl rfl
@[simp] theorem nxS_ap (Γ : List D) : nxS Γ = .ok (.nx Γ) := .trans rfl rfl
@[simp] theorem rsS_ap (x : Str) (p : Option (Str × D)) (Γ : List D) : rsS x p Γ = .error (.exc x p) := .trans rfl rfl
@[simp] theorem rsF_ap (x f : Str) (a : Dn) (Γ : List D) : rsF x f a Γ = bnd (a Γ) fun z => .error (.exc x (some (f, z.1))) := .trans rfl rfl
@[simp] theorem gV_ap (i : Nat) (Γ : List D) : gV i Γ = .ok (Γ.getD i .non, Γ) := .trans rfl rfl
@[simp] theorem kI_ap (i : Int) (Γ : List D) : kI i Γ = .ok (.int i, Γ) := .trans rfl rfl
@[simp] theorem kS_ap (x : Str) (Γ : List D) : kS x Γ = .ok (.str x, Γ) := .trans rfl rfl
@[simp] theorem kB_ap (b : Bool) (Γ : List D) : kB b Γ = .ok (.bl b, Γ) := .trans rfl rfl
@[simp] theorem kN_ap (Γ : List D) : kN Γ = .ok (.non, Γ) := .trans rfl rfl
@[simp] theorem kD_ap (Γ : List D) : kD Γ = .ok (.dic [], Γ) := .trans rfl rfl
@[simp] theorem nilA_ap (Γ : List D) : nilA Γ = .ok ([], Γ) := .trans rfl rfl
@[simp] theorem consA_ap (a : Dn) (r : An) (Γ : List D) : consA a r Γ = bnd (a Γ) fun x => bnd (r x.2) fun y => .ok (x.1 :: y.1, y.2) := .trans rfl rfl
@[simp] theorem noO_ap (Γ : List D) : noO Γ = .ok (none, Γ) := .trans rfl rfl
def asI (d : D) (Γ : List D) : Rs (Option Int × List D) := match d with
  | .int i => .ok (some i, Γ)
  | _ => nope
@[simp] theorem asI_int (i : Int) (Γ : List D) : asI (.int i) Γ = .ok (some i, Γ) := .trans rfl rfl
@[simp] theorem someO_ap (a : Dn) (Γ : List D) : someO a Γ = bnd (a Γ) fun x => asI x.1 x.2 := .trans rfl rfl
@[simp] theorem gN_ap (i : Nat) (d : D) (Γ : List D) : gN i d Γ = .ok (Γ.set i d) := .trans rfl rfl
@[simp] theorem gsNil_ap (Γ : List D) : gsNil [] Γ = .ok Γ := .trans rfl rfl
@[simp] theorem consG_ap (g : Gn) (k : Gns) (d : D) (ds : List D) (Γ : List D) : consG g k (d :: ds) Γ = bnd (g d Γ) fun Γ1 => k ds Γ1 := .trans rfl rfl
@[simp] theorem unpG_lst2 (k : Gns) (d e : D) (Γ : List D) : unpG 2 k (.lst [d, e]) Γ = k [d, e] Γ := .trans rfl rfl
@[simp] theorem unpG_tup2 (k : Gns) (d e : D) (Γ : List D) : unpG 2 k (.tup [d, e]) Γ = k [d, e] Γ := .trans rfl rfl
@[simp] theorem yesT_ap (Γ : List D) : yesT Γ = .ok (true, Γ) := .trans rfl rfl
@[simp] theorem binD_ap (op : D → D → Rs D) (ma mb : VM) (a b : Dn) (Γ : List D) : binD op ma mb a b Γ = bnd (a Γ) fun x => bnd (b x.2) fun y => bnd (op (rd y.2 x.1 ma) (rd y.2 y.1 mb)) fun z => .ok (z, y.2) := .trans rfl rfl
@[simp] theorem unD_ap (op : D → Rs D) (ma : VM) (a : Dn) (Γ : List D) : unD op ma a Γ = bnd (a Γ) fun x => bnd (op (rd x.2 x.1 ma)) fun z => .ok (z, x.2) := .trans rfl rfl
@[simp] theorem slcD_ap (op : D → Option Int → Option Int → Rs D) (ma : VM) (a : Dn) (lo hi : On) (Γ : List D) : slcD op ma a lo hi Γ = bnd (a Γ) fun x => bnd (lo x.2) fun l => bnd (hi l.2) fun u => bnd (op (rd u.2 x.1 ma) l.1 u.1) fun z => .ok (z, u.2) := .trans rfl rfl
@[simp] theorem callD_ap (op : List D → Rs D) (ms : List VM) (a : An) (Γ : List D) : callD op ms a Γ = bnd (a Γ) fun x => bnd (op (rds x.2 x.1 ms)) fun z => .ok (z, x.2) := .trans rfl rfl
@[simp] theorem tupD_ap (a : An) (Γ : List D) : tupD a Γ = bnd (a Γ) fun x => .ok (.tup x.1, x.2) := .trans rfl rfl
@[simp] theorem lstD_ap (a : An) (Γ : List D) : lstD a Γ = bnd (a Γ) fun x => .ok (.lst x.1, x.2) := .trans rfl rfl
def asB {α : Type} (d : D) (k : Bool → Rs α) (t : Tg k := ⟨⟩) : Rs α := match d with
  | .bl b => k b
  | _ => nope
@[simp] theorem asB_bl {α : Type} (b : Bool) (k : Bool → Rs α) (t : Tg k) : asB (.bl b) k t = k b := .trans rfl rfl
@[simp] theorem tstD_ap (a : Dn) (Γ : List D) : tstD a Γ = bnd (a Γ) fun x => asB x.1 fun b => .ok (b, x.2) := by
  unfold tstD bnd asB
  rfl
@[simp] theorem andT_ap (a b : Tn) (Γ : List D) : andT a b Γ = bnd (a Γ) fun x => sel x.1 (b x.2) (.ok (false, x.2)) := by
  unfold andT bnd sel
  rfl
@[simp] theorem orT_ap (a b : Tn) (Γ : List D) : orT a b Γ = bnd (a Γ) fun x => sel x.1 (.ok (true, x.2)) (b x.2) := by
  unfold orT bnd sel
  congr 1
  funext x
  cases x.1 <;> rfl
@[simp] theorem notT_ap (a : Tn) (Γ : List D) : notT a Γ = bnd (a Γ) fun x => .ok (!x.1, x.2) := .trans rfl rfl
@[simp] theorem andD_ap (a b : Dn) (Γ : List D) : andD a b Γ = bnd (a Γ) fun x => asB x.1 fun c => sel c (b x.2) (.ok (.bl false, x.2)) := by
  unfold andD bnd sel asB
  congr 1
  funext x
  rcases x with ⟨d, Γ'⟩
  cases d <;> try rfl
  rename_i b
  cases b <;> rfl
@[simp] theorem orD_ap (a b : Dn) (Γ : List D) : orD a b Γ = bnd (a Γ) fun x => asB x.1 fun c => sel c (.ok (.bl true, x.2)) (b x.2) := by
  unfold orD bnd sel asB
  congr 1
  funext x
  rcases x with ⟨d, Γ'⟩
  cases d <;> try rfl
  rename_i b
  cases b <;> rfl
@[simp] theorem notD_ap (a : Dn) (Γ : List D) : notD a Γ = bnd (a Γ) fun x => asB x.1 fun c => .ok (.bl (!c), x.2) := by
  unfold notD bnd asB
  rfl
@[simp] theorem ifD_ap (t : Tn) (a b : Dn) (Γ : List D) : ifD t a b Γ = bnd (t Γ) fun x => sel x.1 (a x.2) (b x.2) := by
  unfold ifD bnd sel
  rfl
@[simp] theorem chD_ap (op op' : D → D → Rs D) (ma mb mc : VM) (a b c : Dn) (Γ : List D) : chD op op' ma mb mc a b c Γ = bnd (a Γ) fun x => bnd (b x.2) fun y => bnd (op (rd y.2 x.1 ma) (rd y.2 y.1 mb)) fun z => asB z fun t => sel t (bnd (c y.2) fun w => bnd (op' (rd w.2 y.1 mb) (rd w.2 w.1 mc)) fun t => .ok (t, w.2)) (.ok (.bl false, y.2)) := by
  unfold chD bnd sel asB
  congr 1
  funext x
  congr 1
  funext y
  congr 1
  funext z
  cases z <;> try rfl
  rename_i b
  cases b <;> rfl
def fbody (g : Gn) (b : Sn) : D → Sn := fun d Γ => g d Γ >>= fun Γ1 => b Γ1
@[simp] theorem fbody_ap (g : Gn) (b : Sn) (d : D) (Γ : List D) : fbody g b d Γ = bnd (g d Γ) fun Γ1 => b Γ1 := .trans rfl rfl
@[simp] theorem forS_ap (it : An) (g : Gn) (b : Sn) (Γ : List D) : forS it g b Γ = bnd (it Γ) fun x => forD (fbody g b) x.1 x.2 := .trans rfl rfl
def forK (o : Out) (f : D → Sn) (xs : List D) : Rs Out := match o with
  | .nx Γ1 => forD f xs Γ1
  | .cnt Γ1 => forD f xs Γ1
  | .brk Γ1 => .ok (.nx Γ1)
  | .ret d Γ1 => .ok (.ret d Γ1)
@[simp] theorem forK_nx (Γ : List D) (f : D → Sn) (xs : List D) : forK (.nx Γ) f xs = forD f xs Γ := .trans rfl rfl
@[simp] theorem forK_ret (d : D) (Γ : List D) (f : D → Sn) (xs : List D) : forK (.ret d Γ) f xs = .ok (.ret d Γ) := .trans rfl rfl
@[simp] theorem forD_nil (f : D → Sn) (Γ : List D) : forD f [] Γ = .ok (.nx Γ) := .trans rfl rfl
theorem forD_cons (f : D → Sn) (x : D) (xs : List D) (Γ : List D) : forD f (x :: xs) Γ = bnd (f x Γ) fun o => forK o f xs := by
  unfold bnd forK
  rw [forD]
  all_goals congr 1
def whK (o : Out) (t : Tn) (b : Sn) (n : Nat) : Rs Out := match o with
  | .nx Γ1 => whileD t b n Γ1
  | .cnt Γ1 => whileD t b n Γ1
  | .brk Γ1 => .ok (.nx Γ1)
  | .ret d Γ1 => .ok (.ret d Γ1)
@[simp] theorem whK_nx (Γ : List D) (t : Tn) (b : Sn) (n : Nat) : whK (.nx Γ) t b n = whileD t b n Γ := .trans rfl rfl
@[simp] theorem whK_ret (d : D) (Γ : List D) (t : Tn) (b : Sn) (n : Nat) : whK (.ret d Γ) t b n = .ok (.ret d Γ) := .trans rfl rfl
theorem whileD_succ (t : Tn) (b : Sn) (n : Nat) (Γ : List D) : whileD t b (n + 1) Γ = bnd (t Γ) fun x => sel x.1 (bnd (b x.2) fun o => whK o t b n) (.ok (.nx x.2)) := by
  unfold bnd whK sel
  rw [whileD]
  congr 1
  funext x
  cases x.1 <;> rfl
def lcR (vs : List Nat) (g : Gn) (t : Tn) (e : Dn) (ds Γ : List D) : Rs (D × List D) := if ds.length < szl then (match lcGo vs g t e ds (restD [] Γ vs) with
  | .ok y => .ok (.lst y.1, restD Γ y.2 vs)
  | .error _ => nope) else nope
@[simp] theorem lcD_ap (vs : List Nat) (di : An) (g : Gn) (t : Tn) (e : Dn) (Γ : List D) : lcD vs di g t e Γ = bnd (di Γ) fun x => lcR vs g t e x.1 x.2 := .trans rfl rfl
@[simp] theorem lcGo_nil (vs : List Nat) (g : Gn) (t : Tn) (e : Dn) (Γ : List D) : lcGo vs g t e [] Γ = .ok ([], Γ) := .trans rfl rfl
theorem lcGo_cons (vs : List Nat) (g : Gn) (t : Tn) (e : Dn) (d : D) (ds Γ : List D) : lcGo vs g t e (d :: ds) Γ = bnd (g d Γ) fun Γ1 => bnd (t Γ1) fun b => sel b.1 (bnd (e b.2) fun z => bnd (lcGo vs g t e ds (restD [] z.2 vs)) fun r => .ok (z.1 :: r.1, r.2)) (lcGo vs g t e ds (restD [] b.2 vs)) := by
  unfold bnd sel
  rw [lcGo]
  all_goals congr 1
theorem lcR_of {vs : List Nat} {g : Gn} {t : Tn} {e : Dn} {ds Γ : List D} {r : List D} {Γ1 : List D} (hl : ds.length < 16777216) (h : lcGo vs g t e ds (restD [] Γ vs) = .ok (r, Γ1)) : lcR vs g t e ds Γ = .ok (.lst r, restD Γ Γ1 vs) := by
  unfold lcR
  rw [if_pos hl, h]
@[simp] theorem rest1 (D1 D0 : List D) (v : Nat) : restD D1 D0 [v] = D0.set v (D1.getD v .non) := .trans rfl rfl
@[simp] theorem getD_nil' (i : Nat) (d : D) : ([] : List D).getD i d = d := by cases i <;> rfl
@[simp] theorem rd_fz (Γ : List D) (d : D) : rd Γ d .fz = d := .trans rfl rfl
@[simp] theorem rd_fr (Γ : List D) (d : D) : rd Γ d .fr = d := .trans rfl rfl
@[simp] theorem rd_bw (Γ : List D) (d : D) (i : Nat) : rd Γ d (.bw i) = Γ.getD i .non := .trans rfl rfl
@[simp] theorem rds_nil (Γ ds : List D) : rds Γ ds [] = [] := by cases ds <;> rfl
@[simp] theorem rds_cons (Γ ds : List D) (d : D) (m : VM) (ms : List VM) : rds Γ (d :: ds) (m :: ms) = rd Γ d m :: rds Γ ds ms := .trans rfl rfl
@[simp] theorem call0_ap (den : Fn) (a : An) (Γ : List D) : call0 den a Γ = bnd (a Γ) fun x => bnd (den x.1) fun z => .ok (z.1, x.2) := .trans rfl rfl
@[simp] theorem call0D_ap (den : Fn) (dfl : List D) (a : An) (Γ : List D) : call0D den dfl a Γ = bnd (a Γ) fun x => bnd (den (x.1 ++ dfl)) fun z => .ok (z.1, x.2) := .trans rfl rfl
@[simp] theorem call1_ap (j : Nat) (den : Fn) (a : An) (Γ : List D) : call1 j den a Γ = bnd (a Γ) fun x => bnd (den (x.2.getD j .non :: x.1.tail)) fun z => .ok (z.1, x.2.set j z.2) := .trans rfl rfl
theorem fnD_ap (b : Bool) (rm : VM) (m : Nat) (d : Sn) (ds : List D) : fnD b rm m d ds = bnd (d (ds ++ List.replicate m .non)) (endF b rm) := .trans rfl rfl
@[simp] theorem endF_rf (rm : VM) (d : D) (Γ : List D) : endF false rm (.ret d Γ) = .ok (d, .non) := .trans rfl rfl
@[simp] theorem endF_rt (rm : VM) (d : D) (Γ : List D) : endF true rm (.ret d Γ) = .ok (d, Γ.getD 0 .non) := .trans rfl rfl
def mutK (i : Nat) (op : List D → List D → Rs (D × List D)) (d : D) (as : List D) (Γ : List D) : Rs (D × List D) := match d with
  | .lst xs => op xs as >>= fun z => .ok (z.1, Γ.set i (.lst z.2))
  | _ => nope
@[simp] theorem mutK_lst (i : Nat) (op : List D → List D → Rs (D × List D)) (xs as : List D) (Γ : List D) : mutK i op (.lst xs) as Γ = bnd (op xs as) fun z => .ok (z.1, Γ.set i (.lst z.2)) := .trans rfl rfl
@[simp] theorem mutD_ap (i : Nat) (op : List D → List D → Rs (D × List D)) (a : An) (Γ : List D) : mutD i op a Γ = sel (isLst (Γ.getD i .non)) (bnd (a Γ) fun x => mutK i op (x.2.getD i .non) x.1 x.2) nope := by
  unfold mutD bnd sel mutK
  cases isLst (Γ.getD i .non) <;> rfl
@[simp] theorem isLst_lst (xs : List D) : isLst (.lst xs) = true := .trans rfl rfl
@[simp] theorem isLst_tup (xs : List D) : isLst (.tup xs) = false := .trans rfl rfl
theorem appM_ok {xs : List D} {d : D} (h : xs.length < 16777216) : appM xs [d] = .ok (.non, xs ++ [d]) := if_pos h
theorem popM_ok (xs : List D) (d : D) : popM (xs ++ [d]) [] = .ok (d, xs) := by
  unfold popM
  simp
def itK (d : D) (Γ : List D) : Rs (List D × List D) := match itemsD d with
  | some ds => .ok (ds, Γ)
  | none => nope
@[simp] theorem itK_lst (xs Γ : List D) : itK (.lst xs) Γ = .ok (xs, Γ) := .trans rfl rfl
@[simp] theorem itK_tup (xs Γ : List D) : itK (.tup xs) Γ = .ok (xs, Γ) := .trans rfl rfl
theorem itK_of {d : D} {ds : List D} (h : itemsD d = some ds) (Γ : List D) : itK d Γ = .ok (ds, Γ) := by unfold itK; rw [h]
@[simp] theorem seqI_ap (a : Dn) (Γ : List D) : seqI a Γ = bnd (a Γ) fun x => itK x.1 x.2 := .trans rfl rfl
def rng1K (r : List D) (Γ : List D) : Rs (List D × List D) := match r with
  | [.int j] => if -(2 ^ 62) ≤ j ∧ j < 2 ^ 62 then .ok (upto 0 j.toNat, Γ) else nope
  | _ => nope
@[simp] theorem rng1_ap (m : VM) (a : An) (Γ : List D) : rng1 m a Γ = bnd (a Γ) fun x => rng1K (rds x.2 x.1 [m]) x.2 := .trans rfl rfl
theorem rng1K_nat {n : Nat} (h : n ≤ 16777216) (Γ : List D) : rng1K [.int (n : Int)] Γ = .ok (upto 0 n, Γ) := by
  unfold rng1K
  dsimp only
  rw [if_pos (by omega), Int.toNat_natCast]
def revK (d : D) (Γ : List D) : Rs (List D × List D) := match itemsD d with
  | some ds => .ok (ds.reverse, Γ)
  | none => nope
@[simp] theorem revK_lst (xs Γ : List D) : revK (.lst xs) Γ = .ok (xs.reverse, Γ) := .trans rfl rfl
@[simp] theorem revI_ap (a : Dn) (Γ : List D) : revI a Γ = bnd (a Γ) fun x => revK x.1 x.2 := .trans rfl rfl
def enumK (r : List D) (Γ : List D) : Rs (List D × List D) := match r with
  | [d] => (match itemsD d with
    | some ds => .ok (numbered ds 0, Γ)
    | none => nope)
  | _ => nope
@[simp] theorem enumK_tup (xs Γ : List D) : enumK [.tup xs] Γ = .ok (numbered xs 0, Γ) := .trans rfl rfl
@[simp] theorem enumI_ap (a : An) (Γ : List D) : enumI a Γ = bnd (a Γ) fun x => enumK x.1 x.2 := .trans rfl rfl
def methK (op : D → List D → Rs D) (ma : VM) (a : D) (as : An) (Γ : List D) : Rs (D × List D) := if isSq (rd Γ a ma) then as Γ >>= fun y => (if isLst (rd Γ a ma) = isLst (rd y.2 a ma) then op (rd y.2 a ma) y.1 >>= fun z => .ok (z, y.2) else nope) else nope
@[simp] theorem methK_fz_lst (op : D → List D → Rs D) (xs : List D) (as : An) (Γ : List D) : methK op .fz (.lst xs) as Γ = bnd (as Γ) fun y => bnd (op (.lst xs) y.1) fun z => .ok (z, y.2) := .trans rfl rfl
@[simp] theorem methK_fr_lst (op : D → List D → Rs D) (xs : List D) (as : An) (Γ : List D) : methK op .fr (.lst xs) as Γ = bnd (as Γ) fun y => bnd (op (.lst xs) y.1) fun z => .ok (z, y.2) := .trans rfl rfl
@[simp] theorem methK_fz_tup (op : D → List D → Rs D) (xs : List D) (as : An) (Γ : List D) : methK op .fz (.tup xs) as Γ = bnd (as Γ) fun y => bnd (op (.tup xs) y.1) fun z => .ok (z, y.2) := .trans rfl rfl
@[simp] theorem methD_ap (op : D → List D → Rs D) (ma : VM) (a : Dn) (as : An) (Γ : List D) : methD op ma a as Γ = bnd (a Γ) fun x => methK op ma x.1 as x.2 := .trans rfl rfl
def dputK (i : Nat) (v k t : D) (Γ : List D) : Rs Out := match t, keyD k with
  | .dic kvs, some k => if kvs.length < szl then .ok (.nx (Γ.set i (.dic (putD kvs k v)))) else nope
  | _, _ => nope
@[simp] theorem dputS_ap (i : Nat) (a b : Dn) (Γ : List D) : dputS i a b Γ = bnd (a Γ) fun x => bnd (b x.2) fun y => dputK i x.1 y.1 (y.2.getD i .non) y.2 := .trans rfl rfl
theorem dputK_ok {i : Nat} {v : D} {k : Int} {kvs : List (Key × D)} {Γ : List D} (h : kvs.length < 16777216) : dputK i v (.int k) (.dic kvs) Γ = .ok (.nx (Γ.set i (.dic (putD kvs (.inl k) v)))) := if_pos h
def setK (i : Nat) (v k t : D) (Γ : List D) : Rs Out := match t, k with
  | .lst xs, .int k => (match ixN xs.length k with
    | some j => .ok (.nx (Γ.set i (.lst (xs.set j v))))
    | none => nope)
  | _, _ => nope
@[simp] theorem setAt_ap (i : Nat) (a b : Dn) (Γ : List D) : setAt i a b Γ = bnd (a Γ) fun x => bnd (b x.2) fun y => setK i x.1 y.1 (y.2.getD i .non) y.2 := .trans rfl rfl
def ansK (told : Str) (ansE : Str → Option (Str × D) → Rs D) (r : Rs (D × List D)) (Γ : List D) : Rs (D × List D) := match r with
  | .ok z => .ok (.tup [.str told, z.1], Γ)
  | .error (.exc x p) => (match ansE x p with
    | .ok d => .ok (d, Γ)
    | .error _ => nope)
  | .error .bad => nope
@[simp] theorem ansD_ap (told : Str) (ansE : Str → Option (Str × D) → Rs D) (a : Dn) (Γ : List D) : ansD told ansE a Γ = ansK told ansE (a Γ) Γ := .trans rfl rfl
@[simp] theorem ansK_ok (told : Str) (ansE : Str → Option (Str × D) → Rs D) (z : D × List D) (Γ : List D) : ansK told ansE (.ok z) Γ = .ok (.tup [.str told, z.1], Γ) := .trans rfl rfl
theorem ansK_er {told : Str} {ansE : Str → Option (Str × D) → Rs D} {x : Str} {p : Option (Str × D)} {d : D} (h : ansE x p = .ok d) (Γ : List D) : ansK told ansE (.error (.exc x p)) Γ = .ok (d, Γ) := by
  simp only [ansK, h]
/-! operators -/
@[simp] theorem addA_int (i j : Int) : addA (.int i) (.int j) = .ok (.int (i + j)) := .trans rfl rfl
@[simp] theorem addI_int (i j : Int) : addI (.int i) (.int j) = .ok (.int (i + j)) := .trans rfl rfl
@[simp] theorem subD_int (i j : Int) : subD (.int i) (.int j) = .ok (.int (i - j)) := .trans rfl rfl
theorem addA_tup {xs ys : List D} (h : xs.length + ys.length ≤ 16777216) : addA (.tup xs) (.tup ys) = .ok (.tup (xs ++ ys)) := by
  simp only [addA, eiD, addD, szl, h, if_true]
theorem addA_lst {xs ys : List D} (h : xs.length + ys.length ≤ 16777216) : addA (.lst xs) (.lst ys) = .ok (.lst (xs ++ ys)) := by
  simp only [addA, eiD, addD, catD, szl, h, if_true, nope]
theorem catD_lst {xs ys : List D} (h : xs.length + ys.length ≤ 16777216) : catD (.lst xs) (.lst ys) = .ok (.lst (xs ++ ys)) := if_pos h
theorem mulA_int {i j : Int} (h : CMul i j ∨ CMulW i j) : mulA (.int i) (.int j) = .ok (.int (i * j)) := by
  simp only [mulA, eiD, mulD, h, if_true]
theorem repD_lst {xs : List D} {k : Nat} (h : xs.length * k ≤ 16777216) (hk : k < 16777216) : repD (.lst xs) (.int (k : Int)) = .ok (.lst (List.replicate k xs).flatten) := by
  have h2 : -(2 ^ 63) ≤ (k : Int) ∧ (k : Int) < 2 ^ 63 ∧ xs.length * (k : Int).toNat ≤ szl := ⟨by omega, by omega, by rw [Int.toNat_natCast]; exact h⟩
  unfold repD
  dsimp only
  rw [if_pos h2, Int.toNat_natCast]
theorem mulA_lst {xs : List D} {k : Nat} (h : xs.length * k ≤ 16777216) (hk : k < 16777216) : mulA (.lst xs) (.int (k : Int)) = .ok (.lst (List.replicate k xs).flatten) := by
  have e : ∀ z, mulA (.lst xs) (.int z) = repD (.lst xs) (.int z) := fun z => rfl
  rw [e, repD_lst h hk]
theorem modD_int {i j : Int} (h : 0 < j) : modD (.int i) (.int j) = .ok (.int (i % j)) := if_pos h
theorem fdivD_int {i j : Int} (h : 0 < j) (h' : j < 1073741824) : fdivD (.int i) (.int j) = .ok (.int (i / j)) := if_pos (.inl ⟨h, h'⟩)
@[simp] theorem ltD_int (i j : Int) : ltD (.int i) (.int j) = .ok (.bl (decide (i < j))) := .trans rfl rfl
@[simp] theorem leD_int (i j : Int) : leD (.int i) (.int j) = .ok (.bl (decide (i ≤ j))) := .trans rfl rfl
@[simp] theorem gtD_int (i j : Int) : gtD (.int i) (.int j) = .ok (.bl (decide (j < i))) := .trans rfl rfl
@[simp] theorem geD_int (i j : Int) : geD (.int i) (.int j) = .ok (.bl (decide (j ≤ i))) := .trans rfl rfl
@[simp] theorem eqD_int (i j : Int) : eqD (.int i) (.int j) = .ok (.bl (decide (i = j))) := .trans rfl rfl
@[simp] theorem neD_int (i j : Int) : neD (.int i) (.int j) = .ok (.bl (!decide (i = j))) := .trans rfl rfl
@[simp] theorem eqD_str (x y : Str) : eqD (.str x) (.str y) = .ok (.bl (decide (x = y))) := .trans rfl rfl
@[simp] theorem neD_str (x y : Str) : neD (.str x) (.str y) = .ok (.bl (!decide (x = y))) := .trans rfl rfl
@[simp] theorem neD_bl (x y : Bool) : neD (.bl x) (.bl y) = .ok (.bl (!decide (x = y))) := .trans rfl rfl
@[simp] theorem eqD_nn : eqD .non .non = .ok (.bl true) := .trans rfl rfl
@[simp] theorem eqD_ni (i : Int) : eqD .non (.int i) = .ok (.bl false) := .trans rfl rfl
@[simp] theorem lenB_lst (xs : List D) : lenB [.lst xs] = .ok (.int xs.length) := .trans rfl rfl
@[simp] theorem lenB_tup (xs : List D) : lenB [.tup xs] = .ok (.int xs.length) := .trans rfl rfl
@[simp] theorem listB_lst (xs : List D) : listB [.lst xs] = .ok (.lst xs) := .trans rfl rfl
@[simp] theorem listB_tup (xs : List D) : listB [.tup xs] = .ok (.lst xs) := .trans rfl rfl
@[simp] theorem tupleB_lst (xs : List D) : tupleB [.lst xs] = .ok (.tup xs) := .trans rfl rfl
@[simp] theorem tupleB_tup (xs : List D) : tupleB [.tup xs] = .ok (.tup xs) := .trans rfl rfl
@[simp] theorem intB_int (i : Int) : intB [.int i] = .ok (.int i) := .trans rfl rfl
@[simp] theorem negD_int (i : Int) : negD (.int i) = .ok (.int (-i)) := .trans rfl rfl
@[simp] theorem revL_lst (xs : List D) : revL (.lst xs) = .ok (.lst xs.reverse) := .trans rfl rfl
@[simp] theorem slA_lst (xs : List D) (lo hi : Option Int) : slA (.lst xs) lo hi = .ok (.lst (cutL xs lo hi)) := .trans rfl rfl
@[simp] theorem slA_tup (xs : List D) (lo hi : Option Int) : slA (.tup xs) lo hi = .ok (.tup (cutL xs lo hi)) := .trans rfl rfl
theorem ixA_lst {xs : List D} {k : Int} {z : D} (h : atI xs k = some z) : ixA (.lst xs) (.int k) = .ok z := by
  simp only [ixA, eiD, ixD, h]
theorem ixA_tup {xs : List D} {k : Int} {z : D} (h : atI xs k = some z) : ixA (.tup xs) (.int k) = .ok z := by
  simp only [ixA, eiD, ixD, h]
theorem atI_nat {α : Type} (xs : List α) (k : Nat) : atI xs (k : Int) = xs[k]? := by
  unfold atI ixN
  rw [if_pos (by omega)]
  by_cases h : (k : Int) < xs.length
  · rw [if_pos h]
    simp
  · rw [if_neg h]
    simp
    omega
theorem ixA_lst_nat {xs : List D} {k : Nat} {z : D} (h : xs[k]? = some z) : ixA (.lst xs) (.int (k : Int)) = .ok z := ixA_lst (by rw [atI_nat, h])
theorem ixA_tup_nat {xs : List D} {k : Nat} {z : D} (h : xs[k]? = some z) : ixA (.tup xs) (.int (k : Int)) = .ok z := ixA_tup (by rw [atI_nat, h])
@[simp] theorem isNotD_nn : isNotD .non .non = .ok (.bl false) := .trans rfl rfl
@[simp] theorem isNotD_in (i : Int) : isNotD (.int i) .non = .ok (.bl true) := .trans rfl rfl
@[simp] theorem isNotD_tn (xs : List D) : isNotD (.tup xs) .non = .ok (.bl true) := .trans rfl rfl
@[simp] theorem isD_in (i : Int) : isD (.int i) .non = .ok (.bl false) := .trans rfl rfl
@[simp] theorem isD_ib (i : Int) (b : Bool) : isD (.int i) (.bl b) = .ok (.bl false) := .trans rfl rfl
@[simp] theorem isD_sn (x : Str) : isD (.str x) .non = .ok (.bl false) := .trans rfl rfl
@[simp] theorem isD_sb (x : Str) (b : Bool) : isD (.str x) (.bl b) = .ok (.bl false) := .trans rfl rfl
@[simp] theorem isD_tn (xs : List D) : isD (.tup xs) .non = .ok (.bl false) := .trans rfl rfl
@[simp] theorem isD_tb (xs : List D) (b : Bool) : isD (.tup xs) (.bl b) = .ok (.bl false) := .trans rfl rfl
@[simp] theorem isD_ln (xs : List D) : isD (.lst xs) .non = .ok (.bl false) := .trans rfl rfl
@[simp] theorem isD_lb (xs : List D) (b : Bool) : isD (.lst xs) (.bl b) = .ok (.bl false) := .trans rfl rfl
@[simp] theorem isD_nn : isD .non .non = .ok (.bl true) := .trans rfl rfl
@[simp] theorem isD_nb (b : Bool) : isD .non (.bl b) = .ok (.bl false) := .trans rfl rfl
@[simp] theorem isD_bn (b : Bool) : isD (.bl b) .non = .ok (.bl false) := .trans rfl rfl
@[simp] theorem isD_bb (a b : Bool) : isD (.bl a) (.bl b) = .ok (.bl (decide (a = b))) := .trans rfl rfl
@[simp] theorem isNotD_bn (b : Bool) : isNotD (.bl b) .non = .ok (.bl true) := .trans rfl rfl
@[simp] theorem isNotD_sn (x : Str) : isNotD (.str x) .non = .ok (.bl true) := .trans rfl rfl

@[simp] theorem gd0 (a0 : D) (Γ : List D) (d : D) : (a0 :: Γ).getD 0 d = a0 := rfl
@[simp] theorem st0 (a0 x : D) (Γ : List D) : (a0 :: Γ).set 0 x = x :: Γ := rfl
@[simp] theorem gd1 (a0 a1 : D) (Γ : List D) (d : D) : (a0 :: a1 :: Γ).getD 1 d = a1 := rfl
@[simp] theorem st1 (a0 a1 x : D) (Γ : List D) : (a0 :: a1 :: Γ).set 1 x = a0 :: x :: Γ := rfl
@[simp] theorem gd2 (a0 a1 a2 : D) (Γ : List D) (d : D) : (a0 :: a1 :: a2 :: Γ).getD 2 d = a2 := rfl
@[simp] theorem st2 (a0 a1 a2 x : D) (Γ : List D) : (a0 :: a1 :: a2 :: Γ).set 2 x = a0 :: a1 :: x :: Γ := rfl
@[simp] theorem gd3 (a0 a1 a2 a3 : D) (Γ : List D) (d : D) : (a0 :: a1 :: a2 :: a3 :: Γ).getD 3 d = a3 := rfl
@[simp] theorem st3 (a0 a1 a2 a3 x : D) (Γ : List D) : (a0 :: a1 :: a2 :: a3 :: Γ).set 3 x = a0 :: a1 :: a2 :: x :: Γ := rfl
@[simp] theorem gd4 (a0 a1 a2 a3 a4 : D) (Γ : List D) (d : D) : (a0 :: a1 :: a2 :: a3 :: a4 :: Γ).getD 4 d = a4 := rfl
@[simp] theorem st4 (a0 a1 a2 a3 a4 x : D) (Γ : List D) : (a0 :: a1 :: a2 :: a3 :: a4 :: Γ).set 4 x = a0 :: a1 :: a2 :: a3 :: x :: Γ := rfl
@[simp] theorem gd5 (a0 a1 a2 a3 a4 a5 : D) (Γ : List D) (d : D) : (a0 :: a1 :: a2 :: a3 :: a4 :: a5 :: Γ).getD 5 d = a5 := rfl
@[simp] theorem st5 (a0 a1 a2 a3 a4 a5 x : D) (Γ : List D) : (a0 :: a1 :: a2 :: a3 :: a4 :: a5 :: Γ).set 5 x = a0 :: a1 :: a2 :: a3 :: a4 :: x :: Γ := rfl
@[simp] theorem gd6 (a0 a1 a2 a3 a4 a5 a6 : D) (Γ : List D) (d : D) : (a0 :: a1 :: a2 :: a3 :: a4 :: a5 :: a6 :: Γ).getD 6 d = a6 := rfl
@[simp] theorem st6 (a0 a1 a2 a3 a4 a5 a6 x : D) (Γ : List D) : (a0 :: a1 :: a2 :: a3 :: a4 :: a5 :: a6 :: Γ).set 6 x = a0 :: a1 :: a2 :: a3 :: a4 :: a5 :: x :: Γ := rfl
@[simp] theorem gd7 (a0 a1 a2 a3 a4 a5 a6 a7 : D) (Γ : List D) (d : D) : (a0 :: a1 :: a2 :: a3 :: a4 :: a5 :: a6 :: a7 :: Γ).getD 7 d = a7 := rfl
@[simp] theorem st7 (a0 a1 a2 a3 a4 a5 a6 a7 x : D) (Γ : List D) : (a0 :: a1 :: a2 :: a3 :: a4 :: a5 :: a6 :: a7 :: Γ).set 7 x = a0 :: a1 :: a2 :: a3 :: a4 :: a5 :: a6 :: x :: Γ := rfl
@[simp] theorem gd8 (a0 a1 a2 a3 a4 a5 a6 a7 a8 : D) (Γ : List D) (d : D) : (a0 :: a1 :: a2 :: a3 :: a4 :: a5 :: a6 :: a7 :: a8 :: Γ).getD 8 d = a8 := rfl
@[simp] theorem st8 (a0 a1 a2 a3 a4 a5 a6 a7 a8 x : D) (Γ : List D) : (a0 :: a1 :: a2 :: a3 :: a4 :: a5 :: a6 :: a7 :: a8 :: Γ).set 8 x = a0 :: a1 :: a2 :: a3 :: a4 :: a5 :: a6 :: a7 :: x :: Γ := rfl
@[simp] theorem gd9 (a0 a1 a2 a3 a4 a5 a6 a7 a8 a9 : D) (Γ : List D) (d : D) : (a0 :: a1 :: a2 :: a3 :: a4 :: a5 :: a6 :: a7 :: a8 :: a9 :: Γ).getD 9 d = a9 := rfl
@[simp] theorem st9 (a0 a1 a2 a3 a4 a5 a6 a7 a8 a9 x : D) (Γ : List D) : (a0 :: a1 :: a2 :: a3 :: a4 :: a5 :: a6 :: a7 :: a8 :: a9 :: Γ).set 9 x = a0 :: a1 :: a2 :: a3 :: a4 :: a5 :: a6 :: a7 :: a8 :: x :: Γ := rfl
@[simp] theorem gd10 (a0 a1 a2 a3 a4 a5 a6 a7 a8 a9 a10 : D) (Γ : List D) (d : D) : (a0 :: a1 :: a2 :: a3 :: a4 :: a5 :: a6 :: a7 :: a8 :: a9 :: a10 :: Γ).getD 10 d = a10 := rfl
@[simp] theorem st10 (a0 a1 a2 a3 a4 a5 a6 a7 a8 a9 a10 x : D) (Γ : List D) : (a0 :: a1 :: a2 :: a3 :: a4 :: a5 :: a6 :: a7 :: a8 :: a9 :: a10 :: Γ).set 10 x = a0 :: a1 :: a2 :: a3 :: a4 :: a5 :: a6 :: a7 :: a8 :: a9 :: x :: Γ := rfl
@[simp] theorem gd11 (a0 a1 a2 a3 a4 a5 a6 a7 a8 a9 a10 a11 : D) (Γ : List D) (d : D) : (a0 :: a1 :: a2 :: a3 :: a4 :: a5 :: a6 :: a7 :: a8 :: a9 :: a10 :: a11 :: Γ).getD 11 d = a11 := rfl
@[simp] theorem st11 (a0 a1 a2 a3 a4 a5 a6 a7 a8 a9 a10 a11 x : D) (Γ : List D) : (a0 :: a1 :: a2 :: a3 :: a4 :: a5 :: a6 :: a7 :: a8 :: a9 :: a10 :: a11 :: Γ).set 11 x = a0 :: a1 :: a2 :: a3 :: a4 :: a5 :: a6 :: a7 :: a8 :: a9 :: a10 :: x :: Γ := rfl
@[simp] theorem gd12 (a0 a1 a2 a3 a4 a5 a6 a7 a8 a9 a10 a11 a12 : D) (Γ : List D) (d : D) : (a0 :: a1 :: a2 :: a3 :: a4 :: a5 :: a6 :: a7 :: a8 :: a9 :: a10 :: a11 :: a12 :: Γ).getD 12 d = a12 := rfl
@[simp] theorem st12 (a0 a1 a2 a3 a4 a5 a6 a7 a8 a9 a10 a11 a12 x : D) (Γ : List D) : (a0 :: a1 :: a2 :: a3 :: a4 :: a5 :: a6 :: a7 :: a8 :: a9 :: a10 :: a11 :: a12 :: Γ).set 12 x = a0 :: a1 :: a2 :: a3 :: a4 :: a5 :: a6 :: a7 :: a8 :: a9 :: a10 :: a11 :: x :: Γ := rfl
@[simp] theorem gd13 (a0 a1 a2 a3 a4 a5 a6 a7 a8 a9 a10 a11 a12 a13 : D) (Γ : List D) (d : D) : (a0 :: a1 :: a2 :: a3 :: a4 :: a5 :: a6 :: a7 :: a8 :: a9 :: a10 :: a11 :: a12 :: a13 :: Γ).getD 13 d = a13 := rfl
@[simp] theorem st13 (a0 a1 a2 a3 a4 a5 a6 a7 a8 a9 a10 a11 a12 a13 x : D) (Γ : List D) : (a0 :: a1 :: a2 :: a3 :: a4 :: a5 :: a6 :: a7 :: a8 :: a9 :: a10 :: a11 :: a12 :: a13 :: Γ).set 13 x = a0 :: a1 :: a2 :: a3 :: a4 :: a5 :: a6 :: a7 :: a8 :: a9 :: a10 :: a11 :: a12 :: x :: Γ := rfl
@[simp] theorem rp0 : List.replicate 0 D.non = [] := rfl
@[simp] theorem rp1 : List.replicate 1 D.non = [.non] := rfl
@[simp] theorem rp2 : List.replicate 2 D.non = [.non, .non] := rfl
@[simp] theorem rp3 : List.replicate 3 D.non = [.non, .non, .non] := rfl
@[simp] theorem rp4 : List.replicate 4 D.non = [.non, .non, .non, .non] := rfl
@[simp] theorem rp5 : List.replicate 5 D.non = [.non, .non, .non, .non, .non] := rfl
@[simp] theorem rp6 : List.replicate 6 D.non = [.non, .non, .non, .non, .non, .non] := rfl
@[simp] theorem rp7 : List.replicate 7 D.non = [.non, .non, .non, .non, .non, .non, .non] := rfl
@[simp] theorem rp8 : List.replicate 8 D.non = [.non, .non, .non, .non, .non, .non, .non, .non] := rfl
@[simp] theorem rp9 : List.replicate 9 D.non = [.non, .non, .non, .non, .non, .non, .non, .non, .non] := rfl
@[simp] theorem rp10 : List.replicate 10 D.non = [.non, .non, .non, .non, .non, .non, .non, .non, .non, .non] := rfl
@[simp] theorem rp11 : List.replicate 11 D.non = [.non, .non, .non, .non, .non, .non, .non, .non, .non, .non, .non] := rfl
@[simp] theorem is_int_non  : isiD "int" .non = .ok (.bl false) := rfl
@[simp] theorem is_bool_non  : isiD "bool" .non = .ok (.bl false) := rfl
@[simp] theorem is_str_non  : isiD "str" .non = .ok (.bl false) := rfl
@[simp] theorem is_list_non  : isiD "list" .non = .ok (.bl false) := rfl
@[simp] theorem is_tuple_non  : isiD "tuple" .non = .ok (.bl false) := rfl
@[simp] theorem is2_list_non  : isi2D "list" "tuple" .non = .ok (.bl false) := rfl
@[simp] theorem is2_int_non  : isi2D "int" "str" .non = .ok (.bl false) := rfl
@[simp] theorem is_int_bl (b : Bool) : isiD "int" (.bl b) = .ok (.bl true) := rfl
@[simp] theorem is_bool_bl (b : Bool) : isiD "bool" (.bl b) = .ok (.bl true) := rfl
@[simp] theorem is_str_bl (b : Bool) : isiD "str" (.bl b) = .ok (.bl false) := rfl
@[simp] theorem is_list_bl (b : Bool) : isiD "list" (.bl b) = .ok (.bl false) := rfl
@[simp] theorem is_tuple_bl (b : Bool) : isiD "tuple" (.bl b) = .ok (.bl false) := rfl
@[simp] theorem is2_list_bl (b : Bool) : isi2D "list" "tuple" (.bl b) = .ok (.bl false) := rfl
@[simp] theorem is2_int_bl (b : Bool) : isi2D "int" "str" (.bl b) = .ok (.bl true) := rfl
@[simp] theorem is_int_int (i : Int) : isiD "int" (.int i) = .ok (.bl true) := rfl
@[simp] theorem is_bool_int (i : Int) : isiD "bool" (.int i) = .ok (.bl false) := rfl
@[simp] theorem is_str_int (i : Int) : isiD "str" (.int i) = .ok (.bl false) := rfl
@[simp] theorem is_list_int (i : Int) : isiD "list" (.int i) = .ok (.bl false) := rfl
@[simp] theorem is_tuple_int (i : Int) : isiD "tuple" (.int i) = .ok (.bl false) := rfl
@[simp] theorem is2_list_int (i : Int) : isi2D "list" "tuple" (.int i) = .ok (.bl false) := rfl
@[simp] theorem is2_int_int (i : Int) : isi2D "int" "str" (.int i) = .ok (.bl true) := rfl
@[simp] theorem is_int_str (x : Str) : isiD "int" (.str x) = .ok (.bl false) := rfl
@[simp] theorem is_bool_str (x : Str) : isiD "bool" (.str x) = .ok (.bl false) := rfl
@[simp] theorem is_str_str (x : Str) : isiD "str" (.str x) = .ok (.bl true) := rfl
@[simp] theorem is_list_str (x : Str) : isiD "list" (.str x) = .ok (.bl false) := rfl
@[simp] theorem is_tuple_str (x : Str) : isiD "tuple" (.str x) = .ok (.bl false) := rfl
@[simp] theorem is2_list_str (x : Str) : isi2D "list" "tuple" (.str x) = .ok (.bl false) := rfl
@[simp] theorem is2_int_str (x : Str) : isi2D "int" "str" (.str x) = .ok (.bl true) := rfl
@[simp] theorem is_int_lst (xs : List D) : isiD "int" (.lst xs) = .ok (.bl false) := rfl
@[simp] theorem is_bool_lst (xs : List D) : isiD "bool" (.lst xs) = .ok (.bl false) := rfl
@[simp] theorem is_str_lst (xs : List D) : isiD "str" (.lst xs) = .ok (.bl false) := rfl
@[simp] theorem is_list_lst (xs : List D) : isiD "list" (.lst xs) = .ok (.bl true) := rfl
@[simp] theorem is_tuple_lst (xs : List D) : isiD "tuple" (.lst xs) = .ok (.bl false) := rfl
@[simp] theorem is2_list_lst (xs : List D) : isi2D "list" "tuple" (.lst xs) = .ok (.bl true) := rfl
@[simp] theorem is2_int_lst (xs : List D) : isi2D "int" "str" (.lst xs) = .ok (.bl false) := rfl
@[simp] theorem is_int_tup (xs : List D) : isiD "int" (.tup xs) = .ok (.bl false) := rfl
@[simp] theorem is_bool_tup (xs : List D) : isiD "bool" (.tup xs) = .ok (.bl false) := rfl
@[simp] theorem is_str_tup (xs : List D) : isiD "str" (.tup xs) = .ok (.bl false) := rfl
@[simp] theorem is_list_tup (xs : List D) : isiD "list" (.tup xs) = .ok (.bl false) := rfl
@[simp] theorem is_tuple_tup (xs : List D) : isiD "tuple" (.tup xs) = .ok (.bl true) := rfl
@[simp] theorem is2_list_tup (xs : List D) : isi2D "list" "tuple" (.tup xs) = .ok (.bl true) := rfl
@[simp] theorem is2_int_tup (xs : List D) : isi2D "int" "str" (.tup xs) = .ok (.bl false) := rfl
@[simp] theorem is_int_dic (k : List (Key × D)) : isiD "int" (.dic k) = .ok (.bl false) := rfl
@[simp] theorem is_bool_dic (k : List (Key × D)) : isiD "bool" (.dic k) = .ok (.bl false) := rfl
@[simp] theorem is_str_dic (k : List (Key × D)) : isiD "str" (.dic k) = .ok (.bl false) := rfl
@[simp] theorem is_list_dic (k : List (Key × D)) : isiD "list" (.dic k) = .ok (.bl false) := rfl
@[simp] theorem is_tuple_dic (k : List (Key × D)) : isiD "tuple" (.dic k) = .ok (.bl false) := rfl
@[simp] theorem is2_list_dic (k : List (Key × D)) : isi2D "list" "tuple" (.dic k) = .ok (.bl false) := rfl
@[simp] theorem is2_int_dic (k : List (Key × D)) : isi2D "int" "str" (.dic k) = .ok (.bl false) := rfl
end My

set_option Elab.async false
set_option linter.all false
set_option maxRecDepth 100000
set_option maxHeartbeats 1000000
namespace My
open PySem PySem.Spec PyProof.Rows L2 DL
/-! wishes -/
def Wp {α : Type} (r : Rs α) (P : Rs α → Prop) (t : Tg P := ⟨⟩) : Prop := P r
theorem wp_ok {α : Type} {a : α} {P : Rs α → Prop} {t : Tg P} (h : P (.ok a)) : Wp (.ok a) P t := h
theorem wp_er {α : Type} {e : Er} {P : Rs α → Prop} {t : Tg P} (h : P (.error e)) : Wp (.error e) P t := h
theorem wp_of {α : Type} {r : Rs α} {a : Rs α} (h : Wp r fun x => x = a) : r = a := h
theorem wp_sel {α : Type} {c : Bool} {a b : Rs α} {ta : Tg a} {tb : Tg b} {P : Rs α → Prop} {t : Tg P} (ht : c = true → Wp a P) (hf : c = false → Wp b P) : Wp (sel c a b ta tb) P t := by
  cases c
  · exact hf rfl
  · exact ht rfl
@[simp] theorem bnd_bnd {α β γ : Type} (a : Rs α) (f : α → Rs β) (g : β → Rs γ) (t : Tg f) (t' : Tg g) : bnd (bnd a f t) g t' = bnd a fun x => bnd (f x) g := by
  cases a <;> rfl
@[simp] theorem bnd_sel {α β : Type} (c : Bool) (a b : Rs α) (f : α → Rs β) (ta : Tg a) (tb : Tg b) (t : Tg f) : bnd (sel c a b ta tb) f t = sel c (bnd a f) (bnd b f) := by
  cases c <;> rfl
theorem forD_wp {β : Type} {f : D → Sn} {k : Out → Rs β} {t : Tg k} {P : Rs β → Prop} {xs Γ : List D} (Inv : List D → List D → Prop) (h0 : Inv xs Γ)
    (hs : ∀ x xs Γ, Inv (x :: xs) Γ → Wp (f x Γ) fun r => (∃ Γ', r = .ok (.nx Γ') ∧ Inv xs Γ') ∨ (∃ d Γ', r = .ok (.ret d Γ') ∧ Wp (k (.ret d Γ')) P) ∨ (∃ e, r = .error e ∧ Wp (.error e) P))
    (he : ∀ Γ', Inv [] Γ' → Wp (k (.nx Γ')) P) : Wp (bnd (forD f xs Γ) k t) P := by
  induction xs generalizing Γ with
  | nil => exact he Γ h0
  | cons x xs ih =>
    rw [forD_cons, bnd_bnd]
    rcases hs x xs Γ h0 with ⟨Γ', e, h⟩ | ⟨d, Γ', e, h⟩ | ⟨x', e, h⟩
    · rw [e]
      exact ih h
    · rw [e]
      exact h
    · rw [e]
      exact h
def wst (t : Tn) (b : Sn) (Γ : List D) : Rs (Out × Bool) := bnd (t Γ) fun x => sel x.1 (bnd (b x.2) fun o => .ok (o, true)) (.ok (.nx x.2, false))
theorem whileD_wp {β : Type} {tt : Tn} {b : Sn} {n : Nat} {k : Out → Rs β} {t : Tg k} {P : Rs β → Prop} {Γ : List D} (Inv : Nat → List D → Prop) (m : Nat) (hm : m < n) (h0 : Inv m Γ)
    (hs : ∀ m Γ, Inv m Γ → Wp (wst tt b Γ) fun r => (∃ Γ' m', r = .ok (.nx Γ', true) ∧ m' < m ∧ Inv m' Γ') ∨ (∃ Γ', r = .ok (.nx Γ', false) ∧ Wp (k (.nx Γ')) P) ∨ (∃ d Γ', r = .ok (.ret d Γ', true) ∧ Wp (k (.ret d Γ')) P)) :
    Wp (bnd (whileD tt b n Γ) k t) P := by
  induction n generalizing m Γ with
  | zero => omega
  | succ n ih =>
    have h := hs m Γ h0
    rw [whileD_succ]
    unfold Wp wst at h
    rw [bnd_bnd]
    cases e1 : tt Γ with
    | error x => rw [e1] at h; simp at h
    | ok x =>
      rw [e1] at h
      simp only [bnd_ok] at h ⊢
      cases e2 : x.1 with
      | false =>
        rw [e2] at h
        simp only [sel_f, bnd_ok] at h ⊢
        rcases h with ⟨Γ', m', e, h⟩ | ⟨Γ', e, h⟩ | ⟨d, Γ', e, h⟩
        · simp at e
        · simp only [Except.ok.injEq, Prod.mk.injEq, Out.nx.injEq] at e
          rw [e.1]
          exact h
        · simp at e
      | true =>
        rw [e2] at h
        simp only [sel_t] at h ⊢
        cases e3 : b x.2 with
        | error x => rw [e3] at h; simp at h
        | ok o =>
          rw [e3] at h
          simp only [bnd_ok] at h ⊢
          rcases h with ⟨Γ', m', e, hm', h⟩ | ⟨Γ', e, h⟩ | ⟨d, Γ', e, h⟩
          · simp only [Except.ok.injEq, Prod.mk.injEq, and_true] at e
            rw [e]
            exact ih m' (by omega) h
          · simp at e
          · simp only [Except.ok.injEq, Prod.mk.injEq, and_true] at e
            rw [e]
            exact h
def lst1 (vs : List Nat) (g : Gn) (t : Tn) (e : Dn) (d : D) (Γ : List D) : Rs (Option D × List D) := bnd (g d Γ) fun Γ1 => bnd (t Γ1) fun b => sel b.1 (bnd (e b.2) fun z => .ok (some z.1, restD [] z.2 vs)) (.ok (none, restD [] b.2 vs))
theorem lcR_wp {β : Type} {vs : List Nat} {g : Gn} {t : Tn} {e : Dn} {ds Γ : List D} {k : D × List D → Rs β} {tk : Tg k} {P : Rs β → Prop} (Inv : List D → List D → List D → Prop) (hl : ds.length < 16777216) (h0 : Inv ds [] (restD [] Γ vs))
    (hs : ∀ d ds acc Γ, Inv (d :: ds) acc Γ → Wp (lst1 vs g t e d Γ) fun r => ∃ o Γ', r = .ok (o, Γ') ∧ Inv ds (acc ++ o.toList) Γ')
    (he : ∀ acc Γ', Inv [] acc Γ' → Wp (k (.lst acc, restD Γ Γ' vs)) P) : Wp (bnd (lcR vs g t e ds Γ) k tk) P := by
  have go : ∀ (ds acc Γ : List D), Inv ds acc Γ → ∃ r Γ', lcGo vs g t e ds Γ = .ok (r, Γ') ∧ Inv [] (acc ++ r) Γ' := by
    intro ds
    induction ds with
    | nil => intro acc Γ h; exact ⟨[], Γ, rfl, by simpa using h⟩
    | cons d ds ih =>
      intro acc Γ h
      obtain ⟨o, Γ', e1, h1⟩ := hs d ds acc Γ h
      obtain ⟨r, Γ2, e2, h2⟩ := ih _ _ h1
      rw [lcGo_cons]
      unfold lst1 at e1
      cases e3 : g d Γ with
      | error x => rw [e3] at e1; simp at e1
      | ok Γ1 =>
        rw [e3] at e1
        simp only [bnd_ok] at e1 ⊢
        cases e4 : t Γ1 with
        | error x => rw [e4] at e1; simp at e1
        | ok b =>
          rw [e4] at e1
          simp only [bnd_ok] at e1 ⊢
          cases e5 : b.1 with
          | false =>
            rw [e5] at e1
            simp only [sel_f, Except.ok.injEq, Prod.mk.injEq] at e1 ⊢
            obtain ⟨rfl, rfl⟩ := e1
            exact ⟨r, Γ2, e2, by simpa using h2⟩
          | true =>
            rw [e5] at e1
            simp only [sel_t] at e1 ⊢
            cases e6 : e b.2 with
            | error x => rw [e6] at e1; simp at e1
            | ok z =>
              rw [e6] at e1
              simp only [bnd_ok, Except.ok.injEq, Prod.mk.injEq] at e1 ⊢
              obtain ⟨rfl, rfl⟩ := e1
              rw [e2]
              exact ⟨z.1 :: r, Γ2, rfl, by simpa using h2⟩
  obtain ⟨r, Γ', e1, h1⟩ := go ds [] _ h0
  rw [lcR_of hl e1]
  exact he _ _ (by simpa using h1)
/-! ints -/
def I (rs : List Int) : List D := rs.map D.int
@[simp] theorem I_nil : I [] = [] := rfl
@[simp] theorem I_cons (r : Int) (rs : List Int) : I (r :: rs) = .int r :: I rs := rfl
@[simp] theorem I_len (rs : List Int) : (I rs).length = rs.length := List.length_map ..
theorem I_app (rs ss : List Int) : I (rs ++ ss) = I rs ++ I ss := List.map_append ..
@[simp] theorem I_ints (rs : List Int) : intsOf (I rs) = some rs := by
  induction rs with
  | nil => rfl
  | cons r rs ih => rw [I_cons, intsOf, ih]; rfl
theorem I_at (rs : List Int) (k : Nat) : (I rs)[k]? = rs[k]?.map D.int := List.getElem?_map ..
theorem I_inj {rs ss : List Int} (h : I rs = I ss) : rs = ss := by
  have := congrArg intsOf h
  simpa using this
@[simp] theorem cntM_lst (rs : List Int) (k : Int) : cntM (.lst (I rs)) [.int k] = .ok (.int (rs.count k : Nat)) := by
  unfold cntM
  simp [itemsD]
@[simp] theorem cntM_tup (rs : List Int) (k : Int) : cntM (.tup (I rs)) [.int k] = .ok (.int (rs.count k : Nat)) := by
  unfold cntM
  simp [itemsD]
theorem sIx_n (n d k : Nat) : HT.sIx n d (some (k : Int)) = min k n := HT.sIx_nat n d k
theorem cut_to {α : Type} (xs : List α) (k : Nat) : cutL xs none (some (k : Int)) = xs.take k := by
  unfold cutL
  rw [sIx_n, HT.sIx_none]
  simp
theorem cut_from {α : Type} (xs : List α) (k : Nat) : cutL xs (some (k : Int)) none = xs.drop k := by
  unfold cutL
  rw [sIx_n, HT.sIx_none]
  rw [List.take_of_length_le (by rw [List.length_drop]; omega)]
  by_cases h : k ≤ xs.length
  · rw [Nat.min_eq_left h]
  · rw [Nat.min_eq_right (by omega), List.drop_of_length_le (Nat.le_refl _), List.drop_of_length_le (by omega)]
theorem cut_mid {α : Type} (xs : List α) (j k : Nat) : cutL xs (some (j : Int)) (some (k : Int)) = (xs.drop j).take (k - j) := by
  unfold cutL
  rw [sIx_n, sIx_n]
  by_cases h : j ≤ xs.length
  · rw [Nat.min_eq_left h]
    by_cases h2 : k ≤ xs.length
    · rw [Nat.min_eq_left h2]
    · rw [Nat.min_eq_right (by omega), List.take_of_length_le (by rw [List.length_drop]; omega), List.take_of_length_le (by rw [List.length_drop]; omega)]
  · rw [Nat.min_eq_right (by omega : xs.length ≤ j), List.drop_of_length_le (Nat.le_refl _), List.drop_of_length_le (by omega : xs.length ≤ j)]
    simp
theorem I_take (rs : List Int) (k : Nat) : (I rs).take k = I (rs.take k) := (List.map_take ..).symm
theorem I_drop (rs : List Int) (k : Nat) : (I rs).drop k = I (rs.drop k) := (List.map_drop ..).symm
@[simp] theorem inB_I (x : Int) (rs : List Int) : inB (.int x) (I rs) = some (decide (x ∈ rs)) := by
  unfold inB
  have h1 : (I rs).all flatD = true := by
    simp only [List.all_eq_true]
    intro d hd
    obtain ⟨r, _, rfl⟩ := List.mem_map.mp hd
    rfl
  simp only [flatD, h1, Bool.and_self, if_true]
  congr 1
  unfold inV vof
  rw [Bool.eq_iff_iff]
  simp only [List.any_map, List.any_eq_true, decide_eq_true_eq, I]
  constructor
  · rintro ⟨r, hr, h⟩
    have : x = r := by
      have h3 : eqV (V.int r) (V.int x) = true := h
      simp [eqV] at h3
      omega
    rw [this]; exact hr
  · intro h
    exact ⟨x, h, by simp [eqV]⟩
@[simp] theorem inA_lst (x : Int) (rs : List Int) : inA (.int x) (.lst (I rs)) = .ok (.bl (decide (x ∈ rs))) := by simp [inA, eiD, inD, itemsD]
@[simp] theorem inA_tup (x : Int) (rs : List Int) : inA (.int x) (.tup (I rs)) = .ok (.bl (decide (x ∈ rs))) := by simp [inA, eiD, inD, itemsD]
@[simp] theorem notInA_lst (x : Int) (rs : List Int) : notInA (.int x) (.lst (I rs)) = .ok (.bl (!decide (x ∈ rs))) := by simp [notInA, eiD, notInD, itemsD]
@[simp] theorem notInA_tup (x : Int) (rs : List Int) : notInA (.int x) (.tup (I rs)) = .ok (.bl (!decide (x ∈ rs))) := by simp [notInA, eiD, notInD, itemsD]
/-! whole numbers, kinds, rows -/
def ty1 : D → Bool
  | .non => true
  | .bl _ => true
  | .int _ => true
  | .str _ => true
  | .lst _ => true
  | .tup _ => true
  | .dic _ => true
  | .raw _ => false
  | .exn _ _ _ _ => false
  | .obj _ _ => false
  | .scr _ => false
def isInt : D → Bool
  | .int _ => true
  | _ => false
def kindB : D → Bool
  | .int i => decide (0 ≤ i) && decide (i < 8)
  | _ => false
theorem is_whole_ok {d : D} (h : ty1 d = true) : d_is_whole [d] = .ok (.bl (isInt d), .non) := by
  cases d <;> first | (simp [ty1] at h; done) | (simp [d_is_whole, s_is_whole, fnD_ap, isInt])
theorem is_kind_ok {d : D} (h : ty1 d = true) : d_is_kind [d, .int 8] = .ok (.bl (kindB d), .non) := by
  have e := is_whole_ok h
  simp [d_is_kind, s_is_kind, fnD_ap, e]
  cases d <;> first | (simp [ty1] at h; done) | skip
  case int i =>
    simp [isInt, kindB]
    by_cases h : 0 ≤ i <;> simp [h]
  all_goals simp [isInt, kindB]
def rowB (v : D) : Bool := match itemsD v with
  | some ds => decide (ds.length ≤ 200) && ds.all kindB
  | none => false
def ty2 (v : D) : Bool := ty1 v && (match itemsD v with
  | some ds => ds.all ty1
  | none => true)
theorem is_row_sq {v : D} {ds : List D} (hv : v = .lst ds ∨ v = .tup ds) (h : ds.all ty1 = true) : d_is_row [v, .int 8] = .ok (.bl (rowB v), .non) := by
  have hr : rowB v = (decide (ds.length ≤ 200) && ds.all kindB) := by rcases hv with rfl | rfl <;> rfl
  have h2 : isi2D "list" "tuple" v = .ok (.bl true) := by rcases hv with rfl | rfl <;> rfl
  have h3 : lenB [v] = .ok (.int ds.length) := by rcases hv with rfl | rfl <;> rfl
  have h4 : ∀ Γ, itK v Γ = .ok (ds, Γ) := fun Γ => by rcases hv with rfl | rfl <;> rfl
  rw [hr]
  apply wp_of
  simp -dsimp [d_is_row, s_is_row, fnD_ap, h2, h3, h4]
  refine wp_sel (fun hc => ?_) fun hc => ?_
  · simp -dsimp
    simp at hc
    have : ¬ ds.length ≤ 200 := by omega
    exact wp_ok (by simp [this])
  · simp at hc
    have hl : ds.length ≤ 200 := by omega
    simp -dsimp [h4]
    refine forD_wp (fun xs Γ => (∃ j, Γ = [v, .int 8, j]) ∧ xs.all ty1 = true ∧ xs.all kindB = ds.all kindB) ⟨⟨_, rfl⟩, h, rfl⟩ ?_ ?_
    · rintro x xs _ ⟨⟨j, rfl⟩, ht, hk⟩
      simp only [List.all_cons, Bool.and_eq_true] at ht
      simp -dsimp [is_kind_ok ht.1]
      refine wp_sel (fun hc => ?_) fun hc => ?_
      · simp at hc
        simp -dsimp
        refine wp_ok (.inr (.inl ⟨_, _, rfl, wp_ok ?_⟩))
        rw [← hk]
        simp [hc]
      · simp at hc
        simp -dsimp
        refine wp_ok (.inl ⟨_, rfl, ⟨_, rfl⟩, ht.2, ?_⟩)
        rw [← hk]
        simp [hc]
    · rintro _ ⟨⟨j, rfl⟩, ht, hk⟩
      simp -dsimp
      refine wp_ok ?_
      rw [← hk]
      simp [hl]
theorem is_row_ok {v : D} (h : ty2 v = true) : d_is_row [v, .int 8] = .ok (.bl (rowB v), .non) := by
  unfold ty2 at h
  simp only [Bool.and_eq_true] at h
  cases v <;> first | (simp [ty1] at h; done) | skip
  case lst ds => exact is_row_sq (.inl rfl) h.2
  case tup ds => exact is_row_sq (.inr rfl) h.2
  all_goals simp [d_is_row, s_is_row, fnD_ap, rowB, itemsD]
theorem checked_row_ok {v : D} (h : ty2 v = true) : d_checked_row [v, .int 8] = if rowB v then (match itemsD v with
    | some ds => .ok (.tup ds, .non)
    | none => nope) else .error (.exc "BadRow" none) := by
  simp only [d_checked_row, s_checked_row, fnD_ap]
  simp [is_row_ok h]
  cases hr : rowB v
  · simp
  · simp
    cases v <;> first | (simp [rowB, itemsD] at hr; done) | skip
    all_goals simp [itemsD]
end My

set_option Elab.async false
set_option linter.all false
set_option maxRecDepth 100000
set_option maxHeartbeats 1000000
namespace My
open PySem PySem.Spec PyProof.Rows L2 DL
/-! dicts of places -/
theorem any_find {α : Type} (l : List (Key × α)) (k : Key) : l.any (fun kv => decide (kv.1 = k)) = (l.find? fun kv => decide (kv.1 = k)).isSome := by
  induction l with
  | nil => rfl
  | cons a l ih => simp only [List.any_cons, List.find?_cons]; cases decide (a.1 = k) <;> simp [ih]
theorem valK_cons {α : Type} (a : Key × α) (l : List (Key × α)) (k : Key) : valK (a :: l) k = if a.1 = k then some a.2 else valK l k := by
  unfold valK
  rw [List.find?_cons]
  by_cases h : a.1 = k
  · rw [if_pos h, decide_eq_true h]; rfl
  · rw [if_neg h, decide_eq_false h]
theorem valK_map {α : Type} (l : List (Key × α)) (k : Key) (v : α) (k' : Key) : valK (l.map fun kv => if kv.1 = k then (kv.1, v) else kv) k' = if k' = k then (if (valK l k).isSome then some v else none) else valK l k' := by
  induction l with
  | nil => simp [valK]
  | cons a l ih =>
    rw [List.map_cons, valK_cons, valK_cons, valK_cons, ih]
    by_cases h1 : a.1 = k
    · rw [if_pos h1, if_pos h1]
      by_cases h2 : k' = k
      · subst h2; simp [h1]
      · have h3 : ¬ a.1 = k' := fun h => h2 (h.symm.trans h1)
        simp [h2, h3]
    · rw [if_neg h1, if_neg h1]
      by_cases h2 : k' = k
      · subst h2; simp [h1]
      · simp [h2]
theorem valK_app {α : Type} (l : List (Key × α)) (k : Key) (v : α) (k' : Key) : valK (l ++ [(k, v)]) k' = match valK l k' with
    | some x => some x
    | none => if k' = k then some v else none := by
  induction l with
  | nil =>
    rw [List.nil_append, valK_cons]
    by_cases h : k = k'
    · simp [h, valK]
    · have : ¬ k' = k := fun e => h e.symm
      simp [h, this, valK]
  | cons a l ih =>
    rw [List.cons_append, valK_cons, valK_cons, ih]
    by_cases h : a.1 = k'
    · rw [if_pos h, if_pos h]
    · rw [if_neg h, if_neg h]
theorem valK_put {α : Type} (l : List (Key × α)) (k : Key) (v : α) (k' : Key) : valK (putD l k v) k' = if k' = k then some v else valK l k' := by
  unfold putD
  have e : (valK l k).isSome = (l.find? fun kv => decide (kv.1 = k)).isSome := by unfold valK; exact Option.isSome_map ..
  split
  · next h =>
    rw [any_find, ← e] at h
    rw [valK_map, if_pos h]
  · next h =>
    rw [any_find, ← e] at h
    rw [valK_app]
    by_cases h2 : k' = k
    · subst h2
      have : valK l k' = none := by simpa using h
      rw [this]
    · rw [if_neg h2, if_neg h2]
      cases valK l k' <;> rfl
theorem len_put {α : Type} (l : List (Key × α)) (k : Key) (v : α) : (putD l k v).length ≤ l.length + 1 := by
  unfold putD
  split <;> simp
theorem notInA_dic (x : Int) (l : List (Key × D)) : notInA (.int x) (.dic l) = .ok (.bl (!(valK l (.inl x)).isSome)) := rfl
theorem ixA_dic {x : Int} {l : List (Key × D)} {v : D} (h : valK l (.inl x) = some v) : ixA (.dic l) (.int x) = .ok v := by
  simp only [ixA, eiD, ixD, dgetD, keyD, nope, h]
def FirstI (rs : List Int) (k : Int) (i : Nat) : Prop := rs[i]? = some k ∧ ∀ j, j < i → rs[j]? ≠ some k
def LastI (rs : List Int) (k : Int) (i : Nat) : Prop := rs[i]? = some k ∧ ∀ j, i < j → rs[j]? ≠ some k
def PlOk (P : List Int → Int → Nat → Prop) (rs : List Int) (l : List (Key × D)) : Prop := ∀ k, k ∈ rs → ∃ i : Nat, valK l (.inl k) = some (.int (i : Int)) ∧ P rs k i
theorem drop_get {rs : List Int} {n : Nat} {x : Int} {xs : List Int} (h : rs.drop n = x :: xs) : rs[n]? = some x ∧ rs.drop (n + 1) = xs ∧ n < rs.length := by
  have h1 : n < rs.length := by
    rcases Nat.lt_or_ge n rs.length with h1 | h1
    · exact h1
    · rw [List.drop_of_length_le h1] at h; cases h
  refine ⟨?_, ?_, h1⟩
  · rw [← List.head?_drop, h]; rfl
  · rw [← List.tail_drop, h]; rfl
theorem first_places_ok (rs : List Int) (hl : rs.length ≤ 200) : ∃ l, d_first_places [.tup (I rs)] = .ok (.dic l, .non) ∧ PlOk FirstI rs l := by
  have key : Wp (d_first_places [.tup (I rs)]) fun r => ∃ l, r = .ok (.dic l, .non) ∧ PlOk FirstI rs l := by
    simp -dsimp [d_first_places, s_first_places, fnD_ap]
    refine forD_wp (fun xs Γ => ∃ n l j1 j2, Γ = [.tup (I rs), .dic l, j1, j2] ∧ n ≤ rs.length ∧ xs = DL.numbered (I (rs.drop n)) n ∧ l.length ≤ n ∧ (∀ k v, valK l (.inl k) = some v → ∃ i : Nat, i < n ∧ v = .int i ∧ FirstI rs k i) ∧ ∀ k i, i < n → rs[i]? = some k → (valK l (.inl k)).isSome) ?_ ?_ ?_
    · exact ⟨0, [], _, _, rfl, by omega, by simp, by simp, fun k v h => by simp [valK] at h, fun k i h => by omega⟩
    · rintro x xs _ ⟨n, l, j1, j2, rfl, hn, hx, hll, h1, h2⟩
      cases hd : rs.drop n with
      | nil => rw [hd] at hx; cases hx
      | cons y ys =>
        rw [hd] at hx
        simp only [I_cons, DL.numbered, List.cons.injEq] at hx
        obtain ⟨rfl, rfl⟩ := hx
        obtain ⟨hy, hdr, hlt⟩ := drop_get hd
        simp -dsimp [notInA_dic]
        refine wp_sel (fun hc => ?_) fun hc => ?_
        · simp at hc
          simp -dsimp [dputK_ok (show l.length < 16777216 by omega)]
          refine wp_ok (.inl ⟨_, rfl, n + 1, _, _, _, rfl, by omega, by rw [hdr], ?_, ?_, ?_⟩)
          · exact Nat.le_trans (len_put ..) (by omega)
          · intro k v hk
            rw [valK_put] at hk
            by_cases e : (Sum.inl k : Key) = .inl y
            · rw [if_pos e] at hk
              cases e
              cases hk
              refine ⟨n, by omega, rfl, hy, ?_⟩
              intro j hj hjk
              have := h2 _ _ hj hjk
              rw [hc] at this
              cases this
            · rw [if_neg e] at hk
              obtain ⟨i, hi, hv, hf⟩ := h1 k v hk
              exact ⟨i, by omega, hv, hf⟩
          · intro k i hi hk
            rw [valK_put]
            by_cases e : (Sum.inl k : Key) = .inl y
            · rw [if_pos e]; rfl
            · rw [if_neg e]
              refine h2 k i ?_ hk
              rcases Nat.lt_or_ge i n with h | h
              · exact h
              · have : i = n := by omega
                subst this
                rw [hy] at hk
                cases hk
                exact absurd rfl e
        · simp at hc
          simp -dsimp
          refine wp_ok (.inl ⟨_, rfl, n + 1, _, _, _, rfl, by omega, by rw [hdr], by omega, ?_, ?_⟩)
          · intro k v hk
            obtain ⟨i, hi, hv, hf⟩ := h1 k v hk
            exact ⟨i, by omega, hv, hf⟩
          · intro k i hi hk
            rcases Nat.lt_or_ge i n with h | h
            · exact h2 k i h hk
            · have : i = n := by omega
              subst this
              rw [hy] at hk
              cases hk
              exact hc
    · rintro _ ⟨n, l, j1, j2, rfl, hn, hx, hll, h1, h2⟩
      have hd : rs.drop n = [] := by
        cases hd : rs.drop n with
        | nil => rfl
        | cons y ys => rw [hd] at hx; cases hx
      have hn2 : rs.length ≤ n := by simpa using hd
      simp -dsimp
      refine wp_ok ⟨l, rfl, ?_⟩
      intro k hk
      obtain ⟨i, he⟩ := List.mem_iff_getElem?.mp hk
      have hi := (List.getElem?_eq_some_iff.mp he).1
      have := h2 k i (by omega) he
      cases hv : valK l (.inl k) with
      | none => rw [hv] at this; cases this
      | some v =>
        obtain ⟨i', _, rfl, hf⟩ := h1 k v hv
        exact ⟨i', rfl, hf⟩
  exact key
theorem last_places_ok (rs : List Int) (hl : rs.length ≤ 200) : ∃ l, d_last_places [.tup (I rs)] = .ok (.dic l, .non) ∧ PlOk LastI rs l := by
  have key : Wp (d_last_places [.tup (I rs)]) fun r => ∃ l, r = .ok (.dic l, .non) ∧ PlOk LastI rs l := by
    simp -dsimp [d_last_places, s_last_places, fnD_ap]
    refine forD_wp (fun xs Γ => ∃ n l j1 j2, Γ = [.tup (I rs), .dic l, j1, j2] ∧ n ≤ rs.length ∧ xs = DL.numbered (I (rs.drop n)) n ∧ l.length ≤ n ∧ ∀ k i, i < n → rs[i]? = some k → ∃ i' : Nat, valK l (.inl k) = some (.int i') ∧ i' < n ∧ rs[i']? = some k ∧ ∀ j, i' < j → j < n → rs[j]? ≠ some k) ?_ ?_ ?_
    · exact ⟨0, [], _, _, rfl, by omega, by simp, by simp, fun k i h => by omega⟩
    · rintro x xs _ ⟨n, l, j1, j2, rfl, hn, hx, hll, h2⟩
      cases hd : rs.drop n with
      | nil => rw [hd] at hx; cases hx
      | cons y ys =>
        rw [hd] at hx
        simp only [I_cons, DL.numbered, List.cons.injEq] at hx
        obtain ⟨rfl, rfl⟩ := hx
        obtain ⟨hy, hdr, hlt⟩ := drop_get hd
        simp -dsimp [dputK_ok (show l.length < 16777216 by omega)]
        refine wp_ok (.inl ⟨_, rfl, n + 1, _, _, _, rfl, by omega, by rw [hdr], ?_, ?_⟩)
        · exact Nat.le_trans (len_put ..) (by omega)
        · intro k i hi hk
          rw [valK_put]
          by_cases e : (Sum.inl k : Key) = .inl y
          · rw [if_pos e]
            cases e
            exact ⟨n, rfl, by omega, hy, fun j h1 h2 => by omega⟩
          · rw [if_neg e]
            have hin : i < n := by
              rcases Nat.lt_or_ge i n with h | h
              · exact h
              · have : i = n := by omega
                subst this
                rw [hy] at hk
                cases hk
                exact absurd rfl e
            obtain ⟨i', e1, e2, e3, e4⟩ := h2 k i hin hk
            refine ⟨i', e1, by omega, e3, ?_⟩
            intro j hj1 hj2
            rcases Nat.lt_or_ge j n with h | h
            · exact e4 j hj1 h
            · have : j = n := by omega
              subst this
              rw [hy]
              intro h
              cases h
              exact e rfl
    · rintro _ ⟨n, l, j1, j2, rfl, hn, hx, hll, h2⟩
      have hd : rs.drop n = [] := by
        cases hd : rs.drop n with
        | nil => rfl
        | cons y ys => rw [hd] at hx; cases hx
      have hn2 : rs.length ≤ n := by simpa using hd
      simp -dsimp
      refine wp_ok ⟨l, rfl, ?_⟩
      intro k hk
      obtain ⟨i, he⟩ := List.mem_iff_getElem?.mp hk
      have hi := (List.getElem?_eq_some_iff.mp he).1
      obtain ⟨i', e1, e2, e3, e4⟩ := h2 k i (by omega) he
      refine ⟨i', e1, e3, ?_⟩
      intro j hj
      rcases Nat.lt_or_ge j n with h | h
      · exact e4 j hj h
      · rw [List.getElem?_eq_none (by omega)]
        exact fun h => by cases h
  exact key
/-! start_for -/
def sec (rs : List Int) (p q : Nat) : List Int := (rs.drop p).take (q - p)
def at0 (rs : List Int) (k : Nat) : Int := rs.getD k 0
def down (rs : List Int) (q : Nat) : Nat → Option Nat
  | 0 => none
  | s + 1 => if at0 rs s = at0 rs q ∨ at0 rs s ∈ sec rs (s + 1) q then some s else down rs q s
def outB (rs : List Int) (p q : Nat) (k : Int) : Bool := decide (k ∈ rs.take p) || decide (k ∈ rs.drop q)
def startF (rs : List Int) (q : Nat) : Option Nat := match down rs q q with
  | none => none
  | some s => if at0 rs s = at0 rs q then (if (sec rs s q).all (outB rs s q) then some s else none) else none
def oD : Option Nat → D
  | none => .non
  | some s => .int (s : Int)
theorem I_get {rs : List Int} {k : Nat} (h : k < rs.length) : (I rs)[k]? = some (.int (at0 rs k)) := by
  rw [I_at, List.getElem?_eq_getElem h]
  simp [at0, List.getD, List.getElem?_eq_getElem h]
theorem first_ge {rs : List Int} {k : Int} {i s : Nat} (h : FirstI rs k i) : s ≤ i ↔ k ∉ rs.take s := by
  constructor
  · intro hs hm
    obtain ⟨j, hj⟩ := List.mem_iff_getElem?.mp hm
    rw [List.getElem?_take] at hj
    split at hj
    · exact h.2 j (by omega) hj
    · cases hj
  · intro hm
    rcases Nat.lt_or_ge i s with hi | hi
    · exact absurd (List.mem_iff_getElem?.mpr ⟨i, by rw [List.getElem?_take, if_pos hi]; exact h.1⟩) hm
    · exact hi
theorem last_lt {rs : List Int} {k : Int} {i q : Nat} (h : LastI rs k i) : i < q ↔ k ∉ rs.drop q := by
  constructor
  · intro hs hm
    obtain ⟨j, hj⟩ := List.mem_iff_getElem?.mp hm
    rw [List.getElem?_drop] at hj
    exact h.2 _ (by omega) hj
  · intro hm
    rcases Nat.lt_or_ge i q with hi | hi
    · exact hi
    · refine absurd (List.mem_iff_getElem?.mpr ⟨i - q, ?_⟩) hm
      rw [List.getElem?_drop, show q + (i - q) = i by omega]
      exact h.1
theorem sec_mem {rs : List Int} {p q : Nat} {k : Int} (h : k ∈ sec rs p q) : k ∈ rs := List.mem_of_mem_drop (List.mem_of_mem_take h)
theorem start_for_ok {rs : List Int} {q : Nat} {lf ll : List (Key × D)} (hq : q < rs.length) (hl : rs.length ≤ 200) (hf : PlOk FirstI rs lf) (hla : PlOk LastI rs ll) :
    d_start_for [.tup (I rs), .int (q : Int), .dic lf, .dic ll] = .ok (oD (startF rs q), .non) := by
  apply wp_of
  simp -dsimp [d_start_for, s_start_for, fnD_ap]
  refine whileD_wp (fun m Γ => m ≤ q ∧ down rs q m = down rs q q ∧ ∃ j, Γ = [.tup (I rs), .int (q : Int), .dic lf, .dic ll, .int ((m : Int) - 1), j]) q (by omega) ⟨by omega, rfl, _, rfl⟩ ?_
  rintro m _ ⟨hm, hdn, j, rfl⟩
  unfold wst
  cases m with
  | zero =>
    simp -dsimp
    refine wp_ok (.inr (.inl ⟨_, rfl, ?_⟩))
    simp -dsimp
    refine wp_ok ?_
    simp [startF, ← hdn, down, oD]
  | succ s =>
    have e0 : ((s + 1 : Nat) : Int) - 1 = (s : Int) := by omega
    rw [e0]
    have hs : s < rs.length := by omega
    have a1 := ixA_tup_nat (I_get hs)
    have a2 := ixA_tup_nat (I_get hq)
    obtain ⟨s1, hs1⟩ : ∃ s1, s1 = s + 1 := ⟨_, rfl⟩
    have e1 : ((s : Int) + 1) = (s1 : Int) := by omega
    have e2 : decide ((s : Int) < 0) = false := by simp
    simp -dsimp [a1, a2, e1, cut_mid, I_take, I_drop, show (0 : Int) ≤ (s : Int) by omega]
    refine wp_sel (fun hc => ?_) fun hc => ?_
    · simp at hc
      simp -dsimp [a1, a2, e1, cut_mid, I_take, I_drop]
      refine wp_sel (fun hc2 => ?_) fun hc2 => ?_
      · simp at hc2
        simp -dsimp
        refine wp_ok (.inl ⟨_, s, rfl, by omega, by omega, ?_, _, rfl⟩)
        rw [← hdn, down, if_neg]
        rintro (h | h)
        · exact hc h
        · rw [hs1] at hc2; exact hc2 h
      · simp at hc2
        simp -dsimp
        refine wp_ok (.inr (.inl ⟨_, rfl, ?_⟩))
        simp -dsimp [a1, a2, hc, e2]
        refine wp_ok ?_
        simp only [startF, ← hdn, down]
        rw [hs1] at hc2
        rw [if_pos (.inr hc2)]
        simp [hc, oD]
    · simp at hc
      simp -dsimp
      refine wp_ok (.inr (.inl ⟨_, rfl, ?_⟩))
      simp -dsimp [a1, a2, hc, e2, cut_mid, I_take, I_drop]
      have hst : startF rs q = if (sec rs s q).all (outB rs s q) then some s else none := by
        simp only [startF, ← hdn, down]
        rw [if_pos (.inl hc)]
        simp only [hc, if_true]
      rw [hst]
      have hmem : ∀ k, k ∈ sec rs s q → k ∈ rs := fun k h => sec_mem h
      refine forD_wp (fun xs Γ => ∃ ks j, xs = I ks ∧ (∀ k, k ∈ ks → k ∈ rs) ∧ ks.all (outB rs s q) = (sec rs s q).all (outB rs s q) ∧ Γ = [.tup (I rs), .int (q : Int), .dic lf, .dic ll, .int (s : Int), j]) ⟨sec rs s q, _, rfl, hmem, rfl, rfl⟩ ?_ ?_
      · rintro x xs _ ⟨ks, j, hx, hk, hall, rfl⟩
        cases ks with
        | nil => simp at hx
        | cons k ks =>
          simp only [I_cons, List.cons.injEq] at hx
          obtain ⟨rfl, rfl⟩ := hx
          obtain ⟨i1, v1, f1⟩ := hf k (hk k (List.mem_cons_self ..))
          obtain ⟨i2, v2, f2⟩ := hla k (hk k (List.mem_cons_self ..))
          simp -dsimp [ixA_dic v1, ixA_dic v2]
          have g1 := first_ge (s := s) f1
          have g2 := last_lt (q := q) f2
          refine wp_sel (fun hc1 => ?_) fun hc1 => ?_
          · simp at hc1
            simp -dsimp [ixA_dic v2]
            refine wp_sel (fun hc2 => ?_) fun hc2 => ?_
            · simp at hc2
              simp -dsimp
              refine wp_ok (.inr (.inl ⟨_, _, rfl, ?_⟩))
              simp -dsimp
              refine wp_ok ?_
              rw [← hall]
              have : outB rs s q k = false := by
                unfold outB
                simp [g1.mp (by omega), g2.mp (by omega)]
              simp [this, oD]
            · simp at hc2
              simp -dsimp
              refine wp_ok (.inl ⟨_, rfl, ks, _, rfl, fun k' h => hk k' (List.mem_cons_of_mem _ h), ?_, rfl⟩)
              rw [← hall]
              have : outB rs s q k = true := by
                unfold outB
                have : k ∈ rs.drop q := by
                  rcases Classical.em (k ∈ rs.drop q) with h | h
                  · exact h
                  · have := g2.mpr h; omega
                simp [this]
              simp [this]
          · simp at hc1
            simp -dsimp
            refine wp_ok (.inl ⟨_, rfl, ks, _, rfl, fun k' h => hk k' (List.mem_cons_of_mem _ h), ?_, rfl⟩)
            rw [← hall]
            have : outB rs s q k = true := by
              unfold outB
              have : k ∈ rs.take s := by
                rcases Classical.em (k ∈ rs.take s) with h | h
                · exact h
                · have := g1.mpr h; omega
              simp [this]
            simp [this]
      · rintro _ ⟨ks, j, hx, hk, hall, rfl⟩
        have : ks = [] := by
          cases ks with
          | nil => rfl
          | cons k ks => simp at hx
        subst this
        simp -dsimp
        refine wp_ok ?_
        rw [← hall]
        simp [oD]
end My

set_option Elab.async false
set_option linter.all false
set_option maxRecDepth 100000
set_option maxHeartbeats 1000000
namespace My
open PySem PySem.Spec PyProof.Rows L2 DL
/-! == of sequences of ints -/
theorem pyL_I (rs : List Int) : pyL (I rs) = rs.map PyData.int := by
  induction rs with
  | nil => rfl
  | cons r rs ih => simp [pyL, py, ih]
theorem eqvAll_ints : ∀ ns ms : List Int, PyData.eqvAll (ns.map PyData.int) (ms.map PyData.int) = decide (ns = ms)
  | [], [] => by simp [PyData.eqvAll]
  | [], _ :: _ => by simp [PyData.eqvAll]
  | _ :: _, [] => by simp [PyData.eqvAll]
  | a :: r, b :: t => by
    simp only [List.map_cons, PyData.eqvAll, PyData.eqv, eqvAll_ints r t]
    by_cases h : a = b <;> by_cases h' : r = t <;> simp [h, h']
theorem lay_ints : ∀ ns : List Int, PyData.canLayAll0 (ns.map PyData.int) = true
  | [] => rfl
  | _ :: r => by simp [PyData.canLayAll0, PyData.canLay0, lay_ints r]
theorem dep_ints : ∀ ns : List Int, PyData.depthAll (ns.map PyData.int) = 0
  | [] => rfl
  | _ :: r => by simp [PyData.depthAll, PyData.depth, dep_ints r]
theorem shp_lst (rs : List Int) : SeqAt.shaped (py (.lst (I rs))) = true := by
  simp [py, pyL_I, SeqAt.shaped, PyData.canLay0, PyData.depth, lay_ints, dep_ints]
theorem shp_tup (rs : List Int) : SeqAt.shaped (py (.tup (I rs))) = true := by
  simp [py, pyL_I, SeqAt.shaped, PyData.canLay0, PyData.depth, lay_ints, dep_ints]
theorem eqB_tup (rs ss : List Int) : eqB (.tup (I rs)) (.tup (I ss)) = some (decide (rs = ss)) := by
  unfold eqB
  simp only [shp_tup, Bool.and_self, if_true]
  simp [py, pyL_I, PyData.eqv, eqvAll_ints]
theorem eqB_lst (rs ss : List Int) : eqB (.lst (I rs)) (.lst (I ss)) = some (decide (rs = ss)) := by
  unfold eqB
  simp only [shp_lst, Bool.and_self, if_true]
  simp [py, pyL_I, PyData.eqv, eqvAll_ints]
theorem eqD_tup (rs ss : List Int) : eqD (.tup (I rs)) (.tup (I ss)) = .ok (.bl (decide (rs = ss))) := by unfold eqD; rw [eqB_tup]
theorem neD_tup (rs ss : List Int) : neD (.tup (I rs)) (.tup (I ss)) = .ok (.bl (!decide (rs = ss))) := by unfold neD; rw [eqB_tup]
theorem neD_lst (rs ss : List Int) : neD (.lst (I rs)) (.lst (I ss)) = .ok (.bl (!decide (rs = ss))) := by unfold neD; rw [eqB_lst]
/-! first_of, is_cut -/
def firstF (rs : List Int) : Option (Nat × Nat) := (List.range rs.length).findSome? fun q => (startF rs q).map fun s => (s, q)
def pD : Option (Nat × Nat) → D
  | none => .non
  | some z => .tup [.int (z.1 : Int), .int (z.2 : Int)]
theorem first_of_ok {rs : List Int} (hl : rs.length ≤ 200) : d_first_of [.tup (I rs)] = .ok (pD (firstF rs), .non) := by
  obtain ⟨lf, e1, h1⟩ := first_places_ok rs hl
  obtain ⟨ll, e2, h2⟩ := last_places_ok rs hl
  apply wp_of
  simp -dsimp [d_first_of, s_first_of, fnD_ap, e1, e2, rng1K_nat (show rs.length ≤ 16777216 by omega)]
  refine forD_wp (fun xs Γ => ∃ (ks : List Nat) (j1 j2 : D), xs = ks.map (fun i : Nat => D.int (0 + (i : Int))) ∧ (∀ k, k ∈ ks → k < rs.length) ∧ (ks.findSome? fun q => (startF rs q).map fun s => (s, q)) = firstF rs ∧ Γ = [.tup (I rs), .dic lf, .dic ll, j1, j2]) ⟨List.range rs.length, _, _, rfl, fun k h => List.mem_range.mp h, rfl, rfl⟩ ?_ ?_
  · rintro x xs _ ⟨ks, j1, j2, hx, hk, hf, rfl⟩
    cases ks with
    | nil => simp at hx
    | cons k ks =>
      simp only [List.map_cons, List.cons.injEq] at hx
      obtain ⟨rfl, rfl⟩ := hx
      have e3 := start_for_ok (hk k (List.mem_cons_self ..)) hl h1 h2
      simp -dsimp [e3]
      rw [List.findSome?_cons] at hf
      cases hs : startF rs k with
      | none =>
        rw [hs] at hf
        simp -dsimp [oD]
        exact wp_ok (.inl ⟨_, rfl, ks, _, _, by simp, fun k' h => hk k' (List.mem_cons_of_mem _ h), hf, rfl⟩)
      | some s =>
        rw [hs] at hf
        simp -dsimp [oD]
        refine wp_ok (.inr (.inl ⟨_, _, rfl, ?_⟩))
        simp -dsimp
        refine wp_ok ?_
        rw [← hf]
        simp [pD]
  · rintro _ ⟨ks, j1, j2, hx, hk, hf, rfl⟩
    have : ks = [] := by
      cases ks with
      | nil => rfl
      | cons k ks => simp at hx
    subst this
    simp -dsimp
    refine wp_ok ?_
    rw [← hf]
    simp [pD]
def isCutB (rs : List Int) (p q : Nat) : Bool := decide (p < q) && decide (q < rs.length) && decide (startF rs q = some p)
theorem is_cut_ok {rs : List Int} (hl : rs.length ≤ 200) (p q : Nat) : d_is_cut [.tup (I rs), .int (p : Int), .int (q : Int)] = .ok (.bl (isCutB rs p q), .non) := by
  obtain ⟨lf, e1, h1⟩ := first_places_ok rs hl
  obtain ⟨ll, e2, h2⟩ := last_places_ok rs hl
  apply wp_of
  simp -dsimp [d_is_cut, s_is_cut, fnD_ap]
  refine wp_sel (fun hc => ?_) fun hc => ?_
  · simp at hc
    simp -dsimp
    refine wp_ok ?_
    have : ¬ p < q := by omega
    simp [isCutB, this]
  · simp at hc
    simp -dsimp
    refine wp_sel (fun hc2 => ?_) fun hc2 => ?_
    · simp at hc2
      simp -dsimp
      refine wp_ok ?_
      have : ¬ q < rs.length := by omega
      simp [isCutB, this]
    · simp at hc2
      have e3 := start_for_ok (show q < rs.length by omega) hl h1 h2
      simp -dsimp [e1, e2, e3]
      have e4 : eqD (oD (startF rs q)) (.int (p : Int)) = .ok (.bl (isCutB rs p q)) := by
        have g1 : p < q := by omega
        have g2 : q < rs.length := by omega
        cases hs : startF rs q with
        | none => simp [oD, isCutB, g1, g2, hs]
        | some s => simp [oD, isCutB, g1, g2, hs]; omega
      simp -dsimp [e4]
      exact wp_ok rfl
/-! logs -/
def tyN : Nat → D → Bool
  | 0, d => ty1 d
  | n + 1, d => ty1 d && (match itemsD d with
    | some ds => ds.all (tyN n)
    | none => true)
theorem tyN_1 {n : Nat} {d : D} (h : tyN n d = true) : ty1 d = true := by
  cases n with
  | zero => exact h
  | succ n => simp [tyN] at h; exact h.1
theorem tyN_lt {n : Nat} {d : D} (h : tyN (n + 1) d = true) : tyN n d = true := by
  induction n generalizing d with
  | zero => exact tyN_1 h
  | succ n ih =>
    rw [tyN] at h ⊢
    simp only [Bool.and_eq_true] at h ⊢
    refine ⟨h.1, ?_⟩
    cases hd : itemsD d with
    | none => rfl
    | some ds =>
      rw [hd] at h
      simp only [List.all_eq_true] at h ⊢
      exact fun x hx => ih (h.2 x hx)
theorem tyN_ty2 {d : D} (h : tyN 1 d = true) : ty2 d = true := h
theorem tyN_items {n : Nat} {d : D} {ds : List D} (h : tyN (n + 1) d = true) (hd : itemsD d = some ds) : ds.all (tyN n) = true := by
  rw [tyN, hd] at h
  simp only [Bool.and_eq_true] at h
  exact h.2
def rowInts (v : D) : List Int := match itemsD v with
  | some ds => (intsOf ds).getD []
  | none => []
def okRow (rs : List Int) : Prop := rs.length ≤ 200 ∧ ∀ k, k ∈ rs → 0 ≤ k ∧ k < 8
theorem kinds_ints : ∀ {ds : List D}, ds.all kindB = true → ∃ rs, ds = I rs ∧ ∀ k, k ∈ rs → 0 ≤ k ∧ k < 8
  | [], _ => ⟨[], rfl, fun k h => by simp at h⟩
  | d :: ds, h => by
    simp only [List.all_cons, Bool.and_eq_true] at h
    obtain ⟨rs, rfl, hr⟩ := kinds_ints h.2
    cases d <;> first | (simp [kindB] at h; done) | skip
    case int i =>
      simp [kindB] at h
      refine ⟨i :: rs, rfl, ?_⟩
      intro k hk
      rcases List.mem_cons.mp hk with rfl | hk
      · exact h.1
      · exact hr k hk
theorem rowB_ints {v : D} (h : rowB v = true) : itemsD v = some (I (rowInts v)) ∧ okRow (rowInts v) := by
  unfold rowB at h
  cases hd : itemsD v with
  | none => rw [hd] at h; cases h
  | some ds =>
    rw [hd] at h
    simp only [Bool.and_eq_true, decide_eq_true_eq] at h
    obtain ⟨rs, rfl, hr⟩ := kinds_ints h.2
    have e : rowInts v = rs := by unfold rowInts; rw [hd]; simp
    rw [e]
    exact ⟨rfl, by simpa using h.1, hr⟩
theorem rowB_of {v : D} {rs : List Int} (hd : itemsD v = some (I rs)) (h : okRow rs) : rowB v = true ∧ rowInts v = rs := by
  constructor
  · unfold rowB
    rw [hd]
    simp only [Bool.and_eq_true, decide_eq_true_eq, List.all_eq_true]
    refine ⟨by simpa using h.1, ?_⟩
    intro x hx
    obtain ⟨k, hk, rfl⟩ := List.mem_map.mp hx
    have := h.2 k hk
    simp [kindB, this]
  · unfold rowInts
    rw [hd]
    simp
theorem items_sq {v : D} {ds : List D} (h : itemsD v = some ds) : v = .lst ds ∨ v = .tup ds := by
  cases v <;> first | (simp [itemsD] at h; done) | skip
  case lst xs => simp [itemsD] at h; exact .inl (by rw [h])
  case tup xs => simp [itemsD] at h; exact .inr (by rw [h])
abbrev Ent := Nat × List Int
def entD (e : Ent) : D := .tup [.int (e.1 : Int), .tup (I e.2)]
def entOf (e : D) : Option Ent := match itemsD e with
  | some [.int p, s] => if decide (0 ≤ p) && (rowB s && decide (1 ≤ (rowInts s).length)) then some (p.toNat, rowInts s) else none
  | _ => none
def entsOf : List D → Option (List Ent)
  | [] => some []
  | d :: ds => match entOf d, entsOf ds with
    | some e, some es => some (e :: es)
    | _, _ => none
def logOf (v : D) : Option (List Ent) := match itemsD v with
  | some ds => if ds.length ≤ 200 then entsOf ds else none
  | none => none
def logR (o : Option (List Ent)) : Rs (D × D) := match o with
  | some es => .ok (.lst (es.map entD), .non)
  | none => .error (.exc "BadPaper" none)
theorem entsOf_len : ∀ {ds : List D} {es : List Ent}, entsOf ds = some es → es.length = ds.length
  | [], es, h => by simp [entsOf] at h; subst h; rfl
  | d :: ds, es, h => by
    unfold entsOf at h
    cases h1 : entOf d with
    | none => rw [h1] at h; simp at h
    | some e =>
      cases h2 : entsOf ds with
      | none => rw [h1, h2] at h; simp at h
      | some es' =>
        rw [h1, h2] at h
        simp at h
        subst h
        simp [entsOf_len h2]
theorem lenB_of {v : D} {ds : List D} (h : itemsD v = some ds) : lenB [v] = .ok (.int ds.length) := by rcases items_sq h with rfl | rfl <;> rfl
theorem tupleB_of {v : D} {ds : List D} (h : itemsD v = some ds) : tupleB [v] = .ok (.tup ds) := by rcases items_sq h with rfl | rfl <;> rfl
theorem isi2_of {v : D} {ds : List D} (h : itemsD v = some ds) : isi2D "list" "tuple" v = .ok (.bl true) := by rcases items_sq h with rfl | rfl <;> rfl
theorem isi2_no {v : D} (ht : ty1 v = true) (h : itemsD v = none) : isi2D "list" "tuple" v = .ok (.bl false) := by
  cases v <;> first | (simp [ty1] at ht; done) | (simp [itemsD] at h; done) | simp
theorem unp2_of {v : D} {a b : D} (k : Gns) (Γ : List D) (h : itemsD v = some [a, b]) : unpG 2 k v Γ = k [a, b] Γ := by rcases items_sq h with rfl | rfl <;> rfl
theorem checked_log_ok {v : D} (ht : tyN 3 v = true) : d_checked_log [v] = logR (logOf v) := by
  apply wp_of
  simp -dsimp [d_checked_log, s_checked_log, fnD_ap]
  cases hd : itemsD v with
  | none =>
    simp -dsimp [isi2_no (tyN_1 ht) hd]
    exact wp_er (by simp [logOf, hd, logR])
  | some ds =>
    simp -dsimp [isi2_of hd, lenB_of hd]
    refine wp_sel (fun hc => ?_) fun hc => ?_
    · simp at hc
      simp -dsimp
      exact wp_er (by simp [logOf, hd, logR, show ¬ ds.length ≤ 200 by omega])
    · simp at hc
      have hl : ds.length ≤ 200 := by omega
      have hlog : logOf v = entsOf ds := by simp [logOf, hd, hl]
      rw [hlog]
      simp -dsimp [itK_of hd]
      refine forD_wp (fun xs Γ => ∃ (es : List Ent) (j1 j2 j3 : D), Γ = [v, .lst (es.map entD), j1, j2, j3] ∧ xs.all (tyN 2) = true ∧ es.length + xs.length = ds.length ∧ entsOf ds = (match entsOf xs with
        | some es' => some (es ++ es')
        | none => none)) ⟨[], _, _, _, rfl, tyN_items ht hd, by simp, by cases entsOf ds <;> simp⟩ ?_ ?_
      · rintro x xs _ ⟨es, j1, j2, j3, rfl, ht2, hlen, he⟩
        simp only [List.all_cons, Bool.and_eq_true] at ht2
        simp at hlen
        have bad : entOf x = none → entsOf ds = none := by
          intro h
          rw [he, entsOf, h]
        cases hx : itemsD x with
        | none =>
          simp -dsimp [isi2_no (tyN_1 ht2.1) hx]
          refine wp_er (.inr (.inr ⟨_, rfl, wp_er ?_⟩))
          rw [bad (by simp [entOf, hx])]
          rfl
        | some cs =>
          simp -dsimp [isi2_of hx, lenB_of hx]
          refine wp_sel (fun hc2 => ?_) fun hc2 => ?_
          · simp at hc2
            simp -dsimp
            refine wp_er (.inr (.inr ⟨_, rfl, wp_er ?_⟩))
            rw [bad ?_]
            · rfl
            · unfold entOf
              rw [hx]
              rcases cs with _ | ⟨a, _ | ⟨b, _ | ⟨c, cs⟩⟩⟩
              · rfl
              · cases a <;> rfl
              · exact absurd (by simp) hc2
              · cases a <;> rfl
          · simp at hc2
            rcases cs with _ | ⟨a, _ | ⟨b, _ | ⟨c, cs⟩⟩⟩
            · simp at hc2
            · simp at hc2
            · have hab := tyN_items ht2.1 hx
              simp only [List.all_cons, List.all_nil, Bool.and_true, Bool.and_eq_true] at hab
              simp -dsimp [unp2_of _ _ hx, is_whole_ok (tyN_1 hab.1)]
              cases a <;> first | (have := tyN_1 hab.1; simp [ty1] at this; done) | skip
              case int p =>
                simp -dsimp [isInt]
                refine wp_sel (fun hc3 => ?_) fun hc3 => ?_
                · simp at hc3
                  simp -dsimp
                  refine wp_er (.inr (.inr ⟨_, rfl, wp_er ?_⟩))
                  rw [bad (by simp [entOf, hx]; omega)]
                  rfl
                · simp at hc3
                  simp -dsimp [is_row_ok (tyN_ty2 hab.2)]
                  cases hr : rowB b with
                  | false =>
                    simp -dsimp
                    refine wp_er (.inr (.inr ⟨_, rfl, wp_er ?_⟩))
                    rw [bad (by simp [entOf, hx, hr])]
                    rfl
                  | true =>
                    obtain ⟨hb, hbr⟩ := rowB_ints hr
                    simp -dsimp [lenB_of hb, tupleB_of hb]
                    refine wp_sel (fun hc4 => ?_) fun hc4 => ?_
                    · simp at hc4
                      simp -dsimp
                      refine wp_er (.inr (.inr ⟨_, rfl, wp_er ?_⟩))
                      have hz : (rowInts b).length = 0 := by omega
                      rw [bad (by simp [entOf, hx, hr, hz])]
                      rfl
                    · simp at hc4
                      simp -dsimp [lenB_of hb, tupleB_of hb]
                      rw [appM_ok (by simp; omega)]
                      simp -dsimp
                      have hent : entOf x = some (p.toNat, rowInts b) := by
                        have hp : 0 ≤ p := by omega
                        have h1 : 1 ≤ (rowInts b).length := by omega
                        have e : (decide (0 ≤ p) && (rowB b && decide (1 ≤ (rowInts b).length))) = true := by simp only [hr, decide_eq_true hp, decide_eq_true h1, Bool.and_self]
                        simp only [entOf, hx, e, if_true]
                      refine wp_ok (.inl ⟨_, rfl, es ++ [(p.toNat, rowInts b)], x, .int p, b, ?_, ht2.2, by simp; omega, ?_⟩)
                      · simp [entD]
                        omega
                      · rw [he, entsOf, hent]
                        cases entsOf xs <;> simp
              all_goals
                simp -dsimp [isInt]
                refine wp_er (.inr (.inr ⟨_, rfl, wp_er ?_⟩))
                rw [bad (by simp [entOf, hx])]
                rfl
            · simp at hc2; omega
      · rintro _ ⟨es, j1, j2, j3, rfl, ht2, hlen, he⟩
        simp -dsimp
        refine wp_ok ?_
        rw [he]
        simp [entsOf, logR]
end My

set_option Elab.async false
set_option linter.all false
set_option maxRecDepth 100000
set_option maxHeartbeats 1000000
namespace My
open PySem PySem.Spec PyProof.Rows L2 DL
/-! short rows -/
theorem checked_row_t {v : D} (ht : ty2 v = true) (h : rowB v = true) : d_checked_row [v, .int 8] = .ok (.tup (I (rowInts v)), .non) := by
  rw [checked_row_ok ht, if_pos h, (rowB_ints h).1]
theorem checked_row_f {v : D} (ht : ty2 v = true) (h : rowB v = false) : d_checked_row [v, .int 8] = .error (.exc "BadRow" none) := by
  rw [checked_row_ok ht, if_neg (by rw [h]; simp)]
theorem upto8 : upto 0 8 = I [0, 1, 2, 3, 4, 5, 6, 7] := rfl
theorem rng8 (Γ : List D) : rng1K [.int 8] Γ = .ok (I [0, 1, 2, 3, 4, 5, 6, 7], Γ) := by
  have := rng1K_nat (n := 8) (by decide) Γ
  rw [← upto8]
  exact this
theorem singles_ok (rs : List Int) : ∃ al, d_singles_of [.tup (I rs)] = .ok (.tup (I al), .non) ∧ ∀ k, k ∈ al ↔ (k ∈ [0, 1, 2, 3, 4, 5, 6, (7 : Int)] ∧ rs.count k = 1) := by
  have key : Wp (d_singles_of [.tup (I rs)]) fun r => ∃ al, r = .ok (.tup (I al), .non) ∧ ∀ k, k ∈ al ↔ (k ∈ [0, 1, 2, 3, 4, 5, 6, (7 : Int)] ∧ rs.count k = 1) := by
    simp -dsimp [d_singles_of, s_singles_of, fnD_ap, rng8]
    generalize hall : [0, 1, 2, 3, 4, 5, 6, (7 : Int)] = all
    have hlen : all.length = 8 := by rw [← hall]; rfl
    have hI : [D.int 0, D.int 1, D.int 2, D.int 3, D.int 4, D.int 5, D.int 6, D.int 7] = I all := by rw [← hall]; rfl
    rw [hI]
    refine lcR_wp (fun xs acc Γ => ∃ (ks dn : List Int) (j : D), xs = I ks ∧ dn ++ ks = all ∧ acc = I (dn.filter fun k => decide (rs.count k = 1)) ∧ Γ = [.tup (I rs), j]) (by simp [hlen]) ⟨all, [], _, rfl, rfl, rfl, rfl⟩ ?_ ?_
    · rintro d ds acc _ ⟨ks, dn, j, hx, hk, rfl, rfl⟩
      cases ks with
      | nil => cases hx
      | cons k ks =>
        simp only [I_cons, List.cons.injEq] at hx
        obtain ⟨rfl, rfl⟩ := hx
        unfold lst1
        simp -dsimp
        refine wp_sel (fun hc => ?_) fun hc => ?_
        · simp at hc
          simp -dsimp
          refine wp_ok ⟨_, _, rfl, ks, dn ++ [k], _, rfl, by simpa using hk, ?_, rfl⟩
          rw [List.filter_append]
          have : rs.count k = 1 := by omega
          simp [I_app, this]
        · simp at hc
          simp -dsimp
          refine wp_ok ⟨_, _, rfl, ks, dn ++ [k], _, rfl, by simpa using hk, ?_, rfl⟩
          rw [List.filter_append]
          have : ¬ rs.count k = 1 := by omega
          simp [I_app, this]
    · rintro acc _ ⟨ks, dn, j, hx, hk, rfl, rfl⟩
      have : ks = [] := by
        cases ks with
        | nil => rfl
        | cons k ks => cases hx
      subst this
      simp at hk
      subst hk
      simp -dsimp
      refine wp_ok ⟨_, rfl, ?_⟩
      intro k
      simp
  exact key
def gapsGo (rs gap : List Int) : List Int → List (List Int)
  | [] => [gap]
  | k :: ks => if rs.count k = 1 then gap :: gapsGo rs [] ks else gapsGo rs (gap ++ [k]) ks
def shGo (rs gap : List Int) : List Int → Bool
  | [] => true
  | k :: ks => if rs.count k = 1 then shGo rs [] ks else if k ∈ gap then false else shGo rs (gap ++ [k]) ks
def shB (rs : List Int) : Bool := decide (0 < rs.length) && shGo rs [] rs
def tI (g : List Int) : D := .tup (I g)
theorem gaps_len : ∀ (rs ks gap : List Int), ∀ g, g ∈ gapsGo rs gap ks → g.length ≤ gap.length + ks.length
  | rs, [], gap, g, h => by simp [gapsGo] at h; subst h; simp
  | rs, k :: ks, gap, g, h => by
    unfold gapsGo at h
    split at h
    · rcases List.mem_cons.mp h with rfl | h
      · simp
      · have := gaps_len rs ks [] g h
        simp at this ⊢
        omega
    · have := gaps_len rs ks _ g h
      simp at this ⊢
      omega
theorem kind8 {k : Int} (h : 0 ≤ k ∧ k < 8) : k ∈ [0, 1, 2, 3, 4, 5, 6, (7 : Int)] := by
  simp
  omega
theorem gaps_ok {rs : List Int} (h : okRow rs) : d_gaps_of [.tup (I rs)] = .ok (.tup ((gapsGo rs [] rs).map tI), .non) := by
  obtain ⟨al, e1, h1⟩ := singles_ok rs
  have hl := h.1
  apply wp_of
  simp -dsimp [d_gaps_of, s_gaps_of, fnD_ap, e1]
  refine forD_wp (fun xs Γ => ∃ (ks gap : List Int) (dn : List (List Int)) (j : D), xs = I ks ∧ (∀ k, k ∈ ks → k ∈ rs) ∧ dn.length + ks.length ≤ 200 ∧ gap.length + ks.length ≤ 200 ∧ dn ++ gapsGo rs gap ks = gapsGo rs [] rs ∧ Γ = [.tup (I rs), .tup (I al), .lst (dn.map tI), .lst (I gap), j]) ⟨rs, [], [], _, rfl, fun k h => h, by simpa using hl, by simpa using hl, rfl, rfl⟩ ?_ ?_
  · rintro x xs _ ⟨ks, gap, dn, j, hx, hk, hd, hg, he, rfl⟩
    cases ks with
    | nil => cases hx
    | cons k ks =>
      simp only [I_cons, List.cons.injEq] at hx
      obtain ⟨rfl, rfl⟩ := hx
      simp at hd hg
      have hkr := hk k (List.mem_cons_self ..)
      have hiff : k ∈ al ↔ rs.count k = 1 := by
        rw [h1]
        exact ⟨fun h => h.2, fun h' => ⟨kind8 (h.2 k hkr), h'⟩⟩
      simp -dsimp
      refine wp_sel (fun hc => ?_) fun hc => ?_
      · simp at hc
        simp -dsimp
        rw [appM_ok (by simp; omega)]
        simp -dsimp
        refine wp_ok (.inl ⟨_, rfl, ks, [], dn ++ [gap], .int k, rfl, fun k' h => hk k' (List.mem_cons_of_mem _ h), by simp; omega, by simp; omega, ?_, by simp [tI]⟩)
        rw [← he, gapsGo, if_pos (hiff.mp hc)]
        simp
      · simp at hc
        simp -dsimp
        rw [appM_ok (by simp; omega)]
        simp -dsimp
        refine wp_ok (.inl ⟨_, rfl, ks, gap ++ [k], dn, .int k, rfl, fun k' h => hk k' (List.mem_cons_of_mem _ h), by omega, by simp; omega, ?_, by simp [I_app]⟩)
        rw [← he, gapsGo, if_neg (fun h => hc (hiff.mpr h))]
  · rintro _ ⟨ks, gap, dn, j, hx, hk, hd, hg, he, rfl⟩
    have : ks = [] := by
      cases ks with
      | nil => rfl
      | cons k ks => cases hx
    subst this
    simp at hd hg
    simp -dsimp
    rw [appM_ok (by simp; omega)]
    simp -dsimp
    refine wp_ok ?_
    rw [← he]
    simp [gapsGo, tI]
theorem nub_le : ∀ g : List Int, (nub g).length ≤ g.length
  | [] => Nat.le_refl _
  | x :: xs => by
    unfold nub
    have := nub_le xs
    split <;> simp <;> omega
theorem nub_lt : ∀ g : List Int, (nub g).length < g.length ↔ ¬ g.Nodup
  | [] => by simp [nub]
  | x :: xs => by
    unfold nub
    have h1 := nub_le xs
    have h2 := nub_lt xs
    split
    · next h => simp [h]; omega
    · next h => simp [h]; simpa using h2
theorem lenSet_ok {g : List Int} (h : g.length ≤ 1000) : lenSetD (.tup (I g)) = .ok (.int (nub g).length) := by
  unfold lenSetD
  simp [h]
theorem gaps_head (rs : List Int) : ∀ (ks gap : List Int), ¬ gap.Nodup → ((gapsGo rs gap ks).all fun g => decide g.Nodup) = false
  | [], gap, h => by simp [gapsGo, h]
  | k :: ks, gap, h => by
    unfold gapsGo
    split
    · simp [h]
    · refine gaps_head rs ks _ fun h2 => h ?_
      exact (List.nodup_append.mp h2).1
theorem gaps_sh (rs : List Int) : ∀ (ks gap : List Int), gap.Nodup → ((gapsGo rs gap ks).all fun g => decide g.Nodup) = shGo rs gap ks
  | [], gap, h => by simp [gapsGo, shGo, h]
  | k :: ks, gap, h => by
    unfold gapsGo shGo
    split
    · simp only [List.all_cons, h, decide_true, Bool.true_and]
      exact gaps_sh rs ks [] List.nodup_nil
    · split
      · next hk =>
        refine gaps_head rs ks _ fun h2 => ?_
        have := (List.nodup_append.mp h2).2.2
        exact this k hk k (by simp) rfl
      · next hk =>
        refine gaps_sh rs ks _ ?_
        refine List.nodup_append.mpr ⟨h, by simp, ?_⟩
        intro a ha b hb
        simp at hb
        subst hb
        exact fun e => hk (e ▸ ha)
theorem is_short_t {v : D} (ht : ty2 v = true) (h : rowB v = true) : d_is_short [v] = .ok (.bl (shB (rowInts v)), .non) := by
  obtain ⟨hv, hr⟩ := rowB_ints h
  apply wp_of
  simp -dsimp [d_is_short, s_is_short, fnD_ap, checked_row_t ht h]
  refine wp_sel (fun hc => ?_) fun hc => ?_
  · simp at hc
    simp -dsimp
    refine wp_ok ?_
    simp [shB, hc]
  · simp at hc
    simp -dsimp [gaps_ok hr]
    generalize rowInts v = rs at *
    have hpos : decide (0 < rs.length) = true := by
      cases rs with
      | nil => exact absurd rfl hc
      | cons a b => simp
    have hgl := gaps_len rs rs []
    refine forD_wp (fun xs Γ => ∃ (gs : List (List Int)) (j : D), xs = gs.map tI ∧ (∀ g, g ∈ gs → g.length ≤ 200) ∧ (gs.all fun g => decide g.Nodup) = shB rs ∧ Γ = [v, .tup (I rs), j]) ⟨gapsGo rs [] rs, _, rfl, fun g h => by have := hgl g h; have := hr.1; simp at *; omega, by rw [gaps_sh rs rs [] List.nodup_nil, shB, hpos, Bool.true_and], rfl⟩ ?_ ?_
    · rintro x xs _ ⟨gs, j, hx, hk, he, rfl⟩
      cases gs with
      | nil => cases hx
      | cons g gs =>
        simp only [List.map_cons, List.cons.injEq] at hx
        obtain ⟨rfl, rfl⟩ := hx
        have hgl := hk g (List.mem_cons_self ..)
        simp -dsimp [tI, lenSet_ok (show g.length ≤ 1000 by omega)]
        refine wp_sel (fun hc => ?_) fun hc => ?_
        · simp at hc
          simp -dsimp
          refine wp_ok (.inr (.inl ⟨_, _, rfl, ?_⟩))
          simp -dsimp
          refine wp_ok ?_
          rw [← he]
          simp [(nub_lt g).mp (by omega)]
        · simp at hc
          simp -dsimp
          refine wp_ok (.inl ⟨_, rfl, gs, _, rfl, fun k' h => hk k' (List.mem_cons_of_mem _ h), ?_, rfl⟩)
          rw [← he]
          have : g.Nodup := by
            rcases Classical.em g.Nodup with h | h
            · exact h
            · have := (nub_lt g).mpr h; omega
          simp [this]
    · rintro _ ⟨gs, j, hx, hk, he, rfl⟩
      have : gs = [] := by
        cases gs with
        | nil => rfl
        | cons k ks => cases hx
      subst this
      simp -dsimp
      refine wp_ok ?_
      rw [← he]
      simp
theorem law_is_short_ok {v : D} {rs : List Int} (hv : itemsD v = some (I rs)) (hl : rs.length ≤ 200) : d__law_is_short [v] = .ok (.bl (shB rs), .non) := by
  have hlist : listB [v] = .ok (.lst (I rs)) := by rcases items_sq hv with rfl | rfl <;> simp
  apply wp_of
  simp -dsimp [d__law_is_short, s__law_is_short, fnD_ap, itK_of hv]
  refine forD_wp (fun xs Γ => ∃ (ks gap : List Int) (j : D), xs = I ks ∧ gap.length + ks.length ≤ 200 ∧ shGo rs gap ks = shGo rs [] rs ∧ Γ = [v, .lst (I gap), j]) ⟨rs, [], _, rfl, by simpa using hl, rfl, rfl⟩ ?_ ?_
  · rintro x xs _ ⟨ks, gap, j, hx, hg, he, rfl⟩
    cases ks with
    | nil => cases hx
    | cons k ks =>
      simp only [I_cons, List.cons.injEq] at hx
      obtain ⟨rfl, rfl⟩ := hx
      simp at hg
      simp -dsimp [hlist]
      refine wp_sel (fun hc => ?_) fun hc => ?_
      · simp at hc
        simp -dsimp
        refine wp_ok (.inl ⟨_, rfl, ks, [], _, rfl, by simp; omega, ?_, rfl⟩)
        rw [← he, shGo, if_pos (by omega)]
      · simp at hc
        simp -dsimp
        refine wp_sel (fun hc2 => ?_) fun hc2 => ?_
        · simp at hc2
          simp -dsimp
          refine wp_ok (.inr (.inl ⟨_, _, rfl, ?_⟩))
          simp -dsimp
          refine wp_ok ?_
          rw [shB, ← he, shGo, if_neg (by omega), if_pos hc2]
          simp
        · simp at hc2
          simp -dsimp
          rw [appM_ok (by simp; omega)]
          simp -dsimp
          refine wp_ok (.inl ⟨_, rfl, ks, gap ++ [k], .int k, rfl, by simp; omega, ?_, by simp [I_app]⟩)
          rw [← he, shGo, if_neg (by omega), if_neg hc2]
  · rintro _ ⟨ks, gap, j, hx, hg, he, rfl⟩
    have : ks = [] := by
      cases ks with
      | nil => rfl
      | cons k ks => cases hx
    subst this
    simp -dsimp [lenB_of hv]
    refine wp_ok ?_
    rw [shB, ← he]
    simp [shGo]
end My

set_option Elab.async false
set_option linter.all false
set_option maxRecDepth 100000
set_option maxHeartbeats 1000000
namespace My
open PySem PySem.Spec PyProof.Rows L2 DL
/-! what a cut is -/
theorem at0_get {rs : List Int} {k : Nat} (h : k < rs.length) : rs[k]? = some (at0 rs k) := by
  simp [at0, List.getD, List.getElem?_eq_getElem h]
theorem sec_cons {rs : List Int} {p q : Nat} (h : p < q) (hn : p < rs.length) : sec rs p q = at0 rs p :: sec rs (p + 1) q := by
  unfold sec
  rw [List.drop_eq_getElem_cons hn, show q - p = (q - (p + 1)) + 1 by omega, List.take_succ_cons]
  congr 1
  simp [at0, List.getD, List.getElem?_eq_getElem hn]
theorem sec_self (rs : List Int) (q : Nat) : sec rs q q = [] := by
  unfold sec
  simp
theorem mem_sec {rs : List Int} {p q : Nat} {x : Int} (hq : q ≤ rs.length) : x ∈ sec rs p q ↔ ∃ t, p ≤ t ∧ t < q ∧ at0 rs t = x := by
  unfold sec
  rw [List.mem_iff_getElem?]
  constructor
  · rintro ⟨i, hi⟩
    rw [List.getElem?_take] at hi
    split at hi
    · rw [List.getElem?_drop] at hi
      have h1 := (List.getElem?_eq_some_iff.mp hi).1
      rw [at0_get h1] at hi
      exact ⟨p + i, by omega, by omega, by simpa using hi⟩
    · cases hi
  · rintro ⟨t, h1, h2, rfl⟩
    refine ⟨t - p, ?_⟩
    rw [List.getElem?_take, if_pos (by omega), List.getElem?_drop, show p + (t - p) = t by omega]
    exact at0_get (by omega)
theorem sec_nodup {rs : List Int} {q : Nat} (hq : q ≤ rs.length) : ∀ (n p : Nat), q - p = n → p ≤ q → ((sec rs p q).Nodup ↔ ∀ t, p ≤ t → t < q → at0 rs t ∉ sec rs (t + 1) q)
  | 0, p, hn, hp => by
    have : p = q := by omega
    subst this
    rw [sec_self]
    constructor
    · intro _ t h1 h2; omega
    · intro _; exact List.nodup_nil
  | n + 1, p, hn, hp => by
    rw [sec_cons (by omega) (by omega), List.nodup_cons, sec_nodup hq n (p + 1) (by omega) (by omega)]
    constructor
    · rintro ⟨h1, h2⟩ t ht1 ht2
      rcases Nat.eq_or_lt_of_le ht1 with h | h
      · subst h; exact h1
      · exact h2 t h ht2
    · intro h
      exact ⟨h p (by omega) (by omega), fun t h1 h2 => h t (by omega) h2⟩
def StopAt (rs : List Int) (q t : Nat) : Prop := at0 rs t = at0 rs q ∨ at0 rs t ∈ sec rs (t + 1) q
theorem down_iff (rs : List Int) (q s : Nat) : ∀ m, down rs q m = some s ↔ s < m ∧ StopAt rs q s ∧ ∀ t, s < t → t < m → ¬ StopAt rs q t
  | 0 => by simp [down]
  | m + 1 => by
    unfold down
    by_cases h : StopAt rs q m
    · rw [if_pos (show at0 rs m = at0 rs q ∨ at0 rs m ∈ sec rs (m + 1) q from h)]
      constructor
      · intro e
        simp at e
        subst e
        exact ⟨by omega, h, fun t h1 h2 => by omega⟩
      · rintro ⟨h1, h2, h3⟩
        rcases Nat.eq_or_lt_of_le (Nat.le_of_lt_succ h1) with e | e
        · rw [e]
        · exact absurd h (h3 m e (by omega))
    · rw [if_neg (show ¬ (at0 rs m = at0 rs q ∨ at0 rs m ∈ sec rs (m + 1) q) from h), down_iff rs q s m]
      constructor
      · rintro ⟨h1, h2, h3⟩
        refine ⟨by omega, h2, ?_⟩
        intro t ht1 ht2
        rcases Nat.eq_or_lt_of_le (Nat.le_of_lt_succ ht2) with e | e
        · rw [e]; exact h
        · exact h3 t ht1 e
      · rintro ⟨h1, h2, h3⟩
        refine ⟨?_, h2, fun t ht1 ht2 => h3 t ht1 (by omega)⟩
        rcases Nat.eq_or_lt_of_le (Nat.le_of_lt_succ h1) with e | e
        · rw [e] at h2; exact absurd h2 h
        · exact e
theorem startF_iff (rs : List Int) (q p : Nat) : startF rs q = some p ↔ down rs q q = some p ∧ at0 rs p = at0 rs q ∧ (sec rs p q).all (outB rs p q) = true := by
  unfold startF
  cases h : down rs q q with
  | none => simp
  | some s =>
    simp only [Option.some.injEq]
    by_cases h1 : at0 rs s = at0 rs q
    · simp only [h1, if_true]
      by_cases h2 : (sec rs s q).all (outB rs s q) = true
      · simp only [h2, if_true, Option.some.injEq]
        constructor
        · rintro rfl; exact ⟨rfl, h1, h2⟩
        · exact fun h => h.1
      · simp only [h2]
        constructor
        · intro h; cases h
        · rintro ⟨rfl, _, h⟩; exact absurd h h2
    · simp only [h1, if_false]
      constructor
      · intro h; cases h
      · rintro ⟨rfl, h, _⟩; exact absurd h h1
theorem split3 {rs : List Int} {p q : Nat} (h : p ≤ q) : rs = rs.take p ++ (sec rs p q ++ rs.drop q) := by
  unfold sec
  have : rs.drop q = (rs.drop p).drop (q - p) := by rw [List.drop_drop]; congr 1; omega
  rw [this, List.take_append_drop, List.take_append_drop]
theorem count_one {l : List Int} (h : l.Nodup) {k : Int} (hk : k ∈ l) : l.count k = 1 := by
  have h1 := List.nodup_iff_count.mp h k
  have h2 := List.count_pos_iff.mpr hk
  omega
theorem cut_iff {rs : List Int} {p q : Nat} (hpq : p < q) : isCutB rs p q = true ↔ q < rs.length ∧ at0 rs p = at0 rs q ∧ ∀ k, k ∈ sec rs p q → (sec rs p q).count k ≤ 1 ∧ 2 ≤ rs.count k := by
  have hcount : ∀ k, rs.count k = (rs.take p).count k + ((sec rs p q).count k + (rs.drop q).count k) := by
    intro k
    conv => lhs; rw [split3 (rs := rs) (Nat.le_of_lt hpq)]
    rw [List.count_append, List.count_append]
  unfold isCutB
  rw [Bool.and_eq_true, Bool.and_eq_true, decide_eq_true_eq, decide_eq_true_eq, decide_eq_true_eq, startF_iff, down_iff]
  constructor
  · rintro ⟨⟨_, hq⟩, ⟨_, _, hd⟩, he, hall⟩
    have hnd : (sec rs p q).Nodup := by
      refine (sec_nodup (Nat.le_of_lt hq) _ p rfl (by omega)).mpr ?_
      intro t h1 h2
      rcases Nat.eq_or_lt_of_le h1 with h | h
      · subst h
        intro hm
        obtain ⟨t, ht1, ht2, ht3⟩ := (mem_sec (Nat.le_of_lt hq)).mp hm
        exact hd t (by omega) ht2 (.inl (ht3.trans he))
      · exact fun hm => hd t h h2 (.inr hm)
    refine ⟨hq, he, ?_⟩
    intro k hk
    have h1 := count_one hnd hk
    have h2 := List.all_eq_true.mp hall k hk
    unfold outB at h2
    simp only [Bool.or_eq_true, decide_eq_true_eq] at h2
    have h3 := hcount k
    refine ⟨by omega, ?_⟩
    rcases h2 with h | h
    · have := List.count_pos_iff.mpr h; omega
    · have := List.count_pos_iff.mpr h; omega
  · rintro ⟨hq, he, hall⟩
    have hnd : (sec rs p q).Nodup := by
      refine List.nodup_iff_count.mpr fun k => ?_
      by_cases hk : k ∈ sec rs p q
      · exact (hall k hk).1
      · rw [List.count_eq_zero.mpr hk]; omega
    have hnd2 := (sec_nodup (Nat.le_of_lt hq) _ p rfl (by omega)).mp hnd
    refine ⟨⟨hpq, hq⟩, ⟨hpq, .inl he, ?_⟩, he, ?_⟩
    · rintro t h1 h2 (h | h)
      · refine hnd2 p (Nat.le_refl _) hpq ?_
        exact (mem_sec (Nat.le_of_lt hq)).mpr ⟨t, h1, h2, by rw [h, he]⟩
      · exact hnd2 t (by omega) h2 h
    · rw [List.all_eq_true]
      intro k hk
      have h1 := count_one hnd hk
      have h2 := (hall k hk).2
      have h3 := hcount k
      unfold outB
      simp only [Bool.or_eq_true, decide_eq_true_eq]
      by_cases h4 : 0 < (rs.take p).count k
      · exact .inl (List.count_pos_iff.mp h4)
      · exact .inr (List.count_pos_iff.mp (by omega))
/-! logs of cuts -/
def cutO (rs : List Int) (p q : Nat) : List Int := rs.take p ++ rs.drop q
def runF : List Ent → List Int → Option (List Int)
  | [], rs => some rs
  | e :: es, rs => if isCutB rs e.1 (e.1 + e.2.length) && decide (sec rs e.1 (e.1 + e.2.length) = e.2) then runF es (cutO rs e.1 (e.1 + e.2.length)) else none
def judF (es : List Ent) (rs left : List Int) : Str := match runF es rs with
  | none => "cut"
  | some ps => if ps = left then (if shB ps then "good" else "long") else "left"
theorem runF_app : ∀ (es fs : List Ent) (rs : List Int), runF (es ++ fs) rs = (runF es rs).bind (runF fs)
  | [], fs, rs => rfl
  | e :: es, fs, rs => by
    rw [List.cons_append, runF, runF]
    split
    · exact runF_app es fs _
    · rfl
theorem cutO_mem {rs : List Int} {p q : Nat} {k : Int} (h : k ∈ cutO rs p q) : k ∈ rs := by
  unfold cutO at h
  rcases List.mem_append.mp h with h | h
  · exact List.mem_of_mem_take h
  · exact List.mem_of_mem_drop h
theorem cutO_len {rs : List Int} {p q : Nat} (h : p ≤ q) : (cutO rs p q).length ≤ rs.length := by
  unfold cutO
  rw [List.length_append, List.length_take, List.length_drop]
  omega
theorem cutO_len2 {rs : List Int} {p q : Nat} (h : p ≤ q) (hq : q ≤ rs.length) : (cutO rs p q).length + (q - p) = rs.length := by
  unfold cutO
  rw [List.length_append, List.length_take, List.length_drop]
  omega
theorem sec_len {rs : List Int} {p q : Nat} (hq : q ≤ rs.length) : (sec rs p q).length = q - p := by
  unfold sec
  rw [List.length_take, List.length_drop]
  omega
theorem okRow_cut {rs : List Int} {p q : Nat} (h : p ≤ q) (hr : okRow rs) : okRow (cutO rs p q) :=
  ⟨Nat.le_trans (cutO_len h) hr.1, fun k hk => hr.2 k (cutO_mem hk)⟩
def growL : List Ent → List Int → Option (List Int)
  | [], rs => some rs
  | e :: es, rs => if rs.length < e.1 then none else growL es (rs.take e.1 ++ e.2 ++ rs.drop e.1)
theorem growL_app : ∀ (es fs : List Ent) (rs : List Int), growL (es ++ fs) rs = (growL es rs).bind (growL fs)
  | [], fs, rs => rfl
  | e :: es, fs, rs => by
    rw [List.cons_append, growL, growL]
    split
    · rfl
    · exact growL_app es fs _
def tot (es : List Ent) : Nat := (es.map fun e => e.2.length).sum
@[simp] theorem tot_nil : tot [] = 0 := rfl
@[simp] theorem tot_cons (e : Ent) (es : List Ent) : tot (e :: es) = e.2.length + tot es := rfl
theorem tot_app (es fs : List Ent) : tot (es ++ fs) = tot es + tot fs := by
  unfold tot
  rw [List.map_append, List.sum_append]
/-- what a run undoes -/
theorem run_grow : ∀ (es : List Ent) (rs ps : List Int), runF es rs = some ps → growL es.reverse ps = some rs ∧ ps.length + tot es = rs.length ∧ (∀ e, e ∈ es → 1 ≤ e.2.length ∧ e.2.length ≤ rs.length ∧ ∀ k, k ∈ e.2 → k ∈ rs) ∧ es.length + ps.length ≤ rs.length
  | [], rs, ps, h => by
    simp [runF] at h
    subst h
    simp [growL]
  | e :: es, rs, ps, h => by
    rw [runF] at h
    split at h
    · next hc =>
      simp only [Bool.and_eq_true, decide_eq_true_eq] at hc
      obtain ⟨h1, h2⟩ := hc
      have hb : e.1 < e.1 + e.2.length ∧ e.1 + e.2.length < rs.length := by
        unfold isCutB at h1
        simp only [Bool.and_eq_true, decide_eq_true_eq] at h1
        exact h1.1
      obtain ⟨g1, g2, g3, g4⟩ := run_grow es _ ps h
      have hlen := cutO_len2 (rs := rs) (p := e.1) (q := e.1 + e.2.length) (by omega) (by omega)
      have hmem : ∀ k, k ∈ e.2 → k ∈ rs := by
        intro k hk
        rw [← h2] at hk
        exact sec_mem hk
      refine ⟨?_, ?_, ?_, ?_⟩
      · rw [List.reverse_cons, growL_app, g1]
        show growL [e] _ = _
        rw [growL, if_neg (by omega), growL]
        congr 1
        have htl : (rs.take e.1).length = e.1 := by rw [List.length_take]; omega
        have t1 : (cutO rs e.1 (e.1 + e.2.length)).take e.1 = rs.take e.1 := by
          unfold cutO
          rw [List.take_append_of_le_length (by omega), List.take_of_length_le (by omega)]
        have t2 : (cutO rs e.1 (e.1 + e.2.length)).drop e.1 = rs.drop (e.1 + e.2.length) := by
          unfold cutO
          rw [List.drop_append_of_le_length (by omega), List.drop_of_length_le (by omega), List.nil_append]
        rw [t1, t2, List.append_assoc]
        conv => rhs; rw [split3 (rs := rs) (p := e.1) (q := e.1 + e.2.length) (by omega)]
        rw [h2]
      · rw [tot_cons]; omega
      · intro e' he'
        rcases List.mem_cons.mp he' with rfl | he'
        · exact ⟨by omega, by omega, hmem⟩
        · obtain ⟨a1, a2, a3⟩ := g3 e' he'
          exact ⟨a1, by omega, fun k hk => cutO_mem (a3 k hk)⟩
      · rw [List.length_cons]; omega
    · cases h
theorem down_lt {rs : List Int} {q s m : Nat} (h : down rs q m = some s) : s < m := ((down_iff rs q s m).mp h).1
theorem firstF_some {rs : List Int} {p q : Nat} (h : firstF rs = some (p, q)) : isCutB rs p q = true ∧ p < q ∧ q < rs.length := by
  unfold firstF at h
  obtain ⟨q', hq', h2⟩ := List.exists_of_findSome?_eq_some h
  cases hs : startF rs q' with
  | none => rw [hs] at h2; cases h2
  | some s =>
    rw [hs] at h2
    simp at h2
    obtain ⟨rfl, rfl⟩ := h2
    have h3 := (startF_iff ..).mp hs
    have h4 := down_lt h3.1
    have h5 := List.mem_range.mp hq'
    refine ⟨?_, h4, h5⟩
    unfold isCutB
    simp [h4, h5, hs]
theorem firstF_none {rs : List Int} (h : firstF rs = none) (p q : Nat) : isCutB rs p q = false := by
  cases hc : isCutB rs p q with
  | false => rfl
  | true =>
    unfold isCutB at hc
    simp only [Bool.and_eq_true, decide_eq_true_eq] at hc
    unfold firstF at h
    have := List.findSome?_eq_none_iff.mp h q (List.mem_range.mpr hc.1.2)
    rw [hc.2] at this
    cases this
theorem short_go {rs : List Int} (h : firstF rs = none) : ∀ (ks gap pre : List Int), rs = pre ++ gap ++ ks → gap.Nodup → (∀ k, k ∈ gap → rs.count k ≠ 1) → shGo rs gap ks = true
  | [], gap, pre, _, _, _ => rfl
  | k :: ks, gap, pre, hr, hn, hc => by
    unfold shGo
    split
    · exact short_go h ks [] (pre ++ gap ++ [k]) (by rw [hr]; simp) List.nodup_nil (by simp)
    · next hk1 =>
      split
      · next hk =>
        exfalso
        obtain ⟨g1, g2, hg⟩ := List.append_of_mem hk
        have hp : (pre ++ g1).length < (pre ++ gap).length := by rw [hg]; simp
        have hrl : rs.length = (pre ++ gap).length + (ks.length + 1) := by rw [hr]; simp; omega
        have hsec : sec rs (pre ++ g1).length (pre ++ gap).length = k :: g2 := by
          unfold sec
          have e1 : rs = (pre ++ g1) ++ ((k :: g2) ++ k :: ks) := by rw [hr, hg]; simp
          have e2 : (pre ++ gap).length - (pre ++ g1).length = (k :: g2).length := by rw [hg]; simp; omega
          rw [e2]
          conv => lhs; rw [e1]
          rw [List.drop_left, List.take_left]
        have hat1 : at0 rs (pre ++ g1).length = k := by
          have := sec_cons (rs := rs) hp (by omega)
          rw [hsec] at this
          simp at this
          simpa using this.1.symm
        have hat2 : at0 rs (pre ++ gap).length = k := by
          have := at0_get (rs := rs) (k := (pre ++ gap).length) (by omega)
          rw [hr, List.getElem?_append_right (Nat.le_refl _)] at this
          simp at this
          rw [hr]
          simpa using this.symm
        have hsub : ∀ x, x ∈ k :: g2 → x ∈ gap := by
          intro x hx
          rw [hg]
          exact List.mem_append_right _ hx
        have hnd : (k :: g2).Nodup := by
          rw [hg] at hn
          exact (List.nodup_append.mp hn).2.1
        have := firstF_none h (pre ++ g1).length (pre ++ gap).length
        rw [(cut_iff hp).mpr ⟨by omega, by rw [hat1, hat2], ?_⟩] at this
        · cases this
        · rw [hsec]
          intro x hx
          refine ⟨by rw [count_one hnd hx]; exact Nat.le_refl _, ?_⟩
          have h1 := hc x (hsub x hx)
          have h2 : 0 < rs.count x := by
            refine List.count_pos_iff.mpr ?_
            rw [hr]
            exact List.mem_append_left _ (List.mem_append_right _ (hsub x hx))
          omega
      · next hk =>
        refine short_go h ks (gap ++ [k]) pre (by rw [hr]; simp) ?_ ?_
        · refine List.nodup_append.mpr ⟨hn, by simp, ?_⟩
          intro a ha b hb
          simp at hb
          subst hb
          exact fun e => hk (e ▸ ha)
        · intro x hx
          rcases List.mem_append.mp hx with hx | hx
          · exact hc x hx
          · simp at hx
            subst hx
            exact hk1
theorem short_none {rs : List Int} (h : firstF rs = none) (hne : rs ≠ []) : shB rs = true := by
  unfold shB
  rw [short_go h rs [] [] (by simp) List.nodup_nil (by simp)]
  simp
  cases rs with
  | nil => exact absurd rfl hne
  | cons a b => simp
end My

set_option Elab.async false
set_option linter.all false
set_option maxRecDepth 100000
set_option maxHeartbeats 1000000
namespace My
open PySem PySem.Spec PyProof.Rows L2 DL
/-! judge_log -/
theorem ty2_I (rs : List Int) : ty2 (.tup (I rs)) = true := by
  unfold ty2
  simp only [ty1, itemsD, Bool.true_and, List.all_eq_true]
  intro d hd
  obtain ⟨k, _, rfl⟩ := List.mem_map.mp hd
  rfl
theorem judge_row {rv lv fv : D} (ht : ty2 rv = true) (h : rowB rv = false) : d_judge_log [rv, lv, fv] = .error (.exc "BadRow" none) := by
  simp -dsimp [d_judge_log, s_judge_log, fnD_ap, checked_row_f ht h]
theorem judge_log_bad {rv lv fv : D} (ht : ty2 rv = true) (h : rowB rv = true) (htl : tyN 3 lv = true) (hl : logOf lv = none) : d_judge_log [rv, lv, fv] = .error (.exc "BadPaper" none) := by
  simp -dsimp [d_judge_log, s_judge_log, fnD_ap, checked_row_t ht h, checked_log_ok htl, hl, logR]
theorem judge_left {rv lv fv : D} {es : List Ent} (ht : ty2 rv = true) (h : rowB rv = true) (htl : tyN 3 lv = true) (hl : logOf lv = some es) (htf : ty2 fv = true) (hf : rowB fv = false) : d_judge_log [rv, lv, fv] = .error (.exc "BadPaper" none) := by
  simp -dsimp [d_judge_log, s_judge_log, fnD_ap, checked_row_t ht h, checked_log_ok htl, hl, logR, is_row_ok htf, hf]
theorem judge_ok {rv lv fv : D} {es : List Ent} (ht : ty2 rv = true) (h : rowB rv = true) (htl : tyN 3 lv = true) (hl : logOf lv = some es) (htf : ty2 fv = true) (hf : rowB fv = true) : d_judge_log [rv, lv, fv] = .ok (.str (judF es (rowInts rv) (rowInts fv)), .non) := by
  obtain ⟨hv, hr⟩ := rowB_ints h
  obtain ⟨hfi, hfr⟩ := rowB_ints hf
  apply wp_of
  simp -dsimp [d_judge_log, s_judge_log, fnD_ap, checked_row_t ht h, checked_log_ok htl, hl, logR, is_row_ok htf, hf]
  generalize rowInts rv = rs at *
  generalize rowInts fv = left at *
  refine forD_wp (fun xs Γ => ∃ (fs : List Ent) (ps : List Int) (j1 j2 j3 : D), xs = fs.map entD ∧ okRow ps ∧ runF fs ps = runF es rs ∧ Γ = [rv, lv, fv, .tup (I ps), .lst (es.map entD), j1, j2, j3]) ⟨es, rs, _, _, _, rfl, hr, rfl, rfl⟩ ?_ ?_
  · rintro x xs _ ⟨fs, ps, j1, j2, j3, hx, hps, he, rfl⟩
    cases fs with
    | nil => cases hx
    | cons e fs =>
      simp only [List.map_cons, List.cons.injEq] at hx
      obtain ⟨rfl, rfl⟩ := hx
      obtain ⟨p, s⟩ := e
      obtain ⟨q, hq⟩ : ∃ q, q = p + s.length := ⟨_, rfl⟩
      have e1 : (p : Int) + (s.length : Int) = (q : Int) := by omega
      rw [runF, ← hq] at he
      simp only at he
      simp -dsimp [entD, e1, is_cut_ok hps.1, cut_mid, cut_to, cut_from, I_take, I_drop]
      refine wp_sel (fun hc => ?_) fun hc => ?_
      · simp -dsimp
        simp at hc
        refine wp_ok (.inr (.inl ⟨_, _, rfl, ?_⟩))
        simp -dsimp
        refine wp_ok ?_
        rw [hc, Bool.false_and] at he
        simp [judF, ← he]
      · simp at hc
        rw [hc, Bool.true_and] at he
        simp -dsimp [cut_mid, cut_to, cut_from, I_take, I_drop]
        rw [neD_tup]
        simp -dsimp [cut_mid, cut_to, cut_from, I_take, I_drop]
        refine wp_sel (fun hc2 => ?_) fun hc2 => ?_
        · simp -dsimp
          simp at hc2
          refine wp_ok (.inr (.inl ⟨_, _, rfl, ?_⟩))
          simp -dsimp
          refine wp_ok ?_
          have : decide (sec ps p q = s) = false := decide_eq_false hc2
          rw [this] at he
          simp [judF, ← he]
        · simp at hc2
          have : decide (sec ps p q = s) = true := decide_eq_true hc2
          rw [this] at he
          simp -dsimp [cut_mid, cut_to, cut_from, I_take, I_drop]
          have hlen := (okRow_cut (p := p) (q := q) (by omega) hps)
          rw [addA_tup (by have := hps.1; simp; omega)]
          simp -dsimp
          refine wp_ok (.inl ⟨_, rfl, fs, cutO ps p q, .int p, .tup (I s), .int q, rfl, hlen, ?_, ?_⟩)
          · rw [← he]; rfl
          · simp [cutO, I_app]
  · rintro _ ⟨fs, ps, j1, j2, j3, hx, hps, he, rfl⟩
    have : fs = [] := by
      cases fs with
      | nil => rfl
      | cons k ks => cases hx
    subst this
    rw [runF] at he
    simp -dsimp [tupleB_of hfi]
    rw [neD_tup]
    simp -dsimp
    refine wp_sel (fun hc => ?_) fun hc => ?_
    · simp at hc
      simp -dsimp
      refine wp_ok ?_
      simp [judF, ← he, hc]
    · simp at hc
      obtain ⟨b1, b2⟩ := rowB_of (v := .tup (I ps)) (rs := ps) rfl hps
      have hsh := is_short_t (ty2_I ps) b1
      rw [b2] at hsh
      simp -dsimp [hsh]
      cases hb : shB ps with
      | false =>
        simp -dsimp
        refine wp_ok ?_
        simp [judF, ← he, hc]
        rw [← hc, hb]
        simp
      | true =>
        simp -dsimp
        refine wp_ok ?_
        simp [judF, ← he, hc]
        rw [← hc, hb]
        simp
/-! grow -/
def growR (rs : List Int) (es : List Ent) : Rs (D × D) := if 200 < rs.length + tot es then .error (.exc "TooMany" (some ("limit", .int 200))) else match growL es.reverse rs with
  | none => .error (.exc "Outside" none)
  | some r => .ok (.tup (I r), .non)
theorem grow_row {rv lv : D} (ht : ty2 rv = true) (h : rowB rv = false) : d_grow [rv, lv] = .error (.exc "BadRow" none) := by
  simp -dsimp [d_grow, s_grow, fnD_ap, checked_row_f ht h]
theorem grow_bad {rv lv : D} (ht : ty2 rv = true) (h : rowB rv = true) (htl : tyN 3 lv = true) (hl : logOf lv = none) : d_grow [rv, lv] = .error (.exc "BadPaper" none) := by
  simp -dsimp [d_grow, s_grow, fnD_ap, checked_row_t ht h, checked_log_ok htl, hl, logR]
theorem tot_rev (es : List Ent) : tot es.reverse = tot es := by
  unfold tot
  rw [List.map_reverse, List.sum_reverse]
theorem grow_ok {rv lv : D} {es : List Ent} (ht : ty2 rv = true) (h : rowB rv = true) (htl : tyN 3 lv = true) (hl : logOf lv = some es) : d_grow [rv, lv] = growR (rowInts rv) es := by
  obtain ⟨hv, hr⟩ := rowB_ints h
  apply wp_of
  simp -dsimp [d_grow, s_grow, fnD_ap, checked_row_t ht h, checked_log_ok htl, hl, logR]
  generalize rowInts rv = rs at *
  refine forD_wp (fun xs Γ => ∃ (fs : List Ent) (t : Nat) (j1 j2 : D), xs = fs.map entD ∧ t + tot fs = rs.length + tot es ∧ Γ = [rv, lv, .tup (I rs), .lst (es.map entD), .int (t : Int), j1, j2]) ⟨es, rs.length, _, _, rfl, rfl, rfl⟩ ?_ ?_
  · rintro x xs _ ⟨fs, t, j1, j2, hx, he, rfl⟩
    cases fs with
    | nil => cases hx
    | cons e fs =>
      simp only [List.map_cons, List.cons.injEq] at hx
      obtain ⟨rfl, rfl⟩ := hx
      simp -dsimp [entD]
      refine wp_ok (.inl ⟨_, rfl, fs, t + e.2.length, .int e.1, .tup (I e.2), rfl, by rw [tot_cons] at he; omega, ?_⟩)
      simp
  · rintro _ ⟨fs, t, j1, j2, hx, he, rfl⟩
    have : fs = [] := by
      cases fs with
      | nil => rfl
      | cons k ks => cases hx
    subst this
    rw [tot_nil] at he
    simp -dsimp
    refine wp_sel (fun hc => ?_) fun hc => ?_
    · simp at hc
      simp -dsimp
      refine wp_er ?_
      simp [growR, show 200 < rs.length + tot es by omega]
    · simp at hc
      have hgr : growR rs es = match growL es.reverse rs with
        | none => .error (.exc "Outside" none)
        | some r => .ok (.tup (I r), .non) := by
        unfold growR
        rw [if_neg (by omega)]
      rw [hgr]
      simp -dsimp
      have hrev : (List.map entD es).reverse = es.reverse.map entD := (List.map_reverse ..).symm
      rw [hrev]
      refine forD_wp (fun xs Γ => ∃ (fs : List Ent) (ps : List Int) (j1 j2 : D), xs = fs.map entD ∧ ps.length + tot fs ≤ 200 ∧ growL fs ps = growL es.reverse rs ∧ Γ = [rv, lv, .tup (I ps), .lst (es.map entD), .int (t : Int), j1, j2]) ⟨es.reverse, rs, _, _, rfl, by rw [tot_rev]; omega, rfl, rfl⟩ ?_ ?_
      · rintro x xs _ ⟨fs, ps, j1, j2, hx, hlen, he, rfl⟩
        cases fs with
        | nil => cases hx
        | cons e fs =>
          simp only [List.map_cons, List.cons.injEq] at hx
          obtain ⟨rfl, rfl⟩ := hx
          rw [tot_cons] at hlen
          rw [growL] at he
          simp -dsimp [entD, cut_to, cut_from, I_take, I_drop]
          refine wp_sel (fun hc2 => ?_) fun hc2 => ?_
          · simp at hc2
            simp -dsimp
            refine wp_er (.inr (.inr ⟨_, rfl, wp_er ?_⟩))
            rw [if_pos hc2] at he
            rw [← he]
          · simp at hc2
            rw [if_neg (by omega)] at he
            simp -dsimp [cut_to, cut_from, I_take, I_drop]
            rw [addA_tup (by simp; omega)]
            simp -dsimp [cut_to, cut_from, I_take, I_drop]
            rw [addA_tup (by simp; omega)]
            simp -dsimp
            refine wp_ok (.inl ⟨_, rfl, fs, ps.take e.1 ++ e.2 ++ ps.drop e.1, .int e.1, .tup (I e.2), rfl, by simp; omega, he, ?_⟩)
            simp [I_app]
      · rintro _ ⟨fs, ps, j1, j2, hx, hlen, he, rfl⟩
        have : fs = [] := by
          cases fs with
          | nil => rfl
          | cons k ks => cases hx
        subst this
        rw [growL] at he
        simp -dsimp
        refine wp_ok ?_
        rw [← he]
/-! cut_down -/
theorem cut_down_empty : d_cut_down [.lst []] = .error (.exc "BadRow" none) := by
  have h1 : rowB (.lst []) = true := rfl
  have h2 : rowInts (.lst []) = [] := rfl
  have := checked_row_t (v := .lst []) rfl h1
  rw [h2] at this
  simp -dsimp [d_cut_down, s_cut_down, fnD_ap, this]
theorem pD_notNone (z : Nat × Nat) : isNotD (pD (some z)) .non = .ok (.bl true) := rfl
theorem cut_down_ok {rv : D} (ht : ty2 rv = true) (h : rowB rv = true) (hne : rowInts rv ≠ []) : ∃ ps es, d_cut_down [rv] = .ok (.tup [.tup (I ps), .tup (es.map entD)], .non) ∧ runF es (rowInts rv) = some ps ∧ firstF ps = none ∧ ps ≠ [] := by
  obtain ⟨hv, hr⟩ := rowB_ints h
  have key : Wp (d_cut_down [rv]) fun r => ∃ ps es, r = .ok (.tup [.tup (I ps), .tup (es.map entD)], .non) ∧ runF es (rowInts rv) = some ps ∧ firstF ps = none ∧ ps ≠ [] := by
    simp -dsimp [d_cut_down, s_cut_down, fnD_ap, checked_row_t ht h]
    generalize rowInts rv = rs at *
    refine wp_sel (fun hc => ?_) fun hc => ?_
    · simp at hc
      exact absurd hc hne
    · simp at hc
      simp -dsimp [first_of_ok hr.1]
      refine whileD_wp (fun m Γ => ∃ (ps : List Int) (es : List Ent) (j1 j2 : D), m = ps.length ∧ okRow ps ∧ ps ≠ [] ∧ runF es rs = some ps ∧ es.length + ps.length ≤ 200 ∧ Γ = [rv, .tup (I ps), .lst (es.map entD), pD (firstF ps), j1, j2]) rs.length (by have := hr.1; omega) ⟨rs, [], _, _, rfl, hr, hne, rfl, by simpa using hr.1, rfl⟩ ?_
      rintro m _ ⟨ps, es, j1, j2, rfl, hps, hpne, hrun, hlen, rfl⟩
      unfold wst
      cases hf : firstF ps with
      | none =>
        simp -dsimp [pD]
        refine wp_ok (.inr (.inl ⟨_, rfl, ?_⟩))
        simp -dsimp
        exact wp_ok ⟨ps, es, by simp, hrun, hf, hpne⟩
      | some z =>
        obtain ⟨p, q⟩ := z
        obtain ⟨hcut, hpq, hq⟩ := firstF_some hf
        simp -dsimp [pD, cut_mid, cut_to, cut_from, I_take, I_drop]
        rw [appM_ok (by simp; omega)]
        simp -dsimp [cut_mid, cut_to, cut_from, I_take, I_drop]
        rw [addA_tup (by have := hps.1; simp; omega), ← I_app]
        have hsl := sec_len (rs := ps) (p := p) (q := q) (by omega)
        have hl2 := cutO_len2 (rs := ps) (p := p) (q := q) (by omega) (by omega)
        have hl3 := okRow_cut (p := p) (q := q) (by omega) hps
        have hfo := first_of_ok hl3.1
        unfold cutO at hfo
        simp -dsimp [hfo]
        refine wp_ok (.inl ⟨_, (cutO ps p q).length, rfl, by omega, cutO ps p q, es ++ [(p, sec ps p q)], .int p, .int q, rfl, hl3, ?_, ?_, ?_, ?_⟩)
        · intro h0
          have := congrArg List.length h0
          unfold cutO at this
          simp at this
          omega
        · rw [runF_app, hrun]
          show runF [(p, sec ps p q)] ps = _
          rw [runF]
          simp only [hsl]
          rw [show p + (q - p) = q by omega, hcut]
          simp [runF]
        · simp
          omega
        · simp [entD, cutO, sec]
  exact key
end My

set_option Elab.async false
set_option linter.all false
set_option maxRecDepth 100000
set_option maxHeartbeats 1000000
namespace My
open PySem PySem.Spec PyProof.Rows L2 DL
/-! _law_word -/
def entL (e : Ent) : D := .tup [.int (e.1 : Int), .lst (I e.2)]
theorem sec_eq (rs : List Int) (p q : Nat) : (rs.drop p).take (q - p) = sec rs p q := rfl
theorem law_word_ok {rv lv fv : D} {rs left : List Int} {es : List Ent} (hr : itemsD rv = some (I rs)) (hl : itemsD lv = some (es.map entL)) (hf : itemsD fv = some (I left)) (hrl : rs.length ≤ 200) (hes : ∀ e, e ∈ es → 1 ≤ e.2.length ∧ e.2.length ≤ 200) :
    d__law_word [rv, lv, fv] = .ok (.str (judF es rs left), .non) := by
  have hlist : ∀ {v : D} {rs : List Int}, itemsD v = some (I rs) → listB [v] = .ok (.lst (I rs)) := fun hv => by rcases items_sq hv with rfl | rfl <;> simp
  apply wp_of
  simp -dsimp [d__law_word, s__law_word, fnD_ap, hlist hr, itK_of hl]
  refine forD_wp (fun xs Γ => ∃ (fs : List Ent) (ps : List Int) (j1 j2 j3 j4 : D), xs = fs.map entL ∧ ps.length ≤ 200 ∧ (∀ e, e ∈ fs → 1 ≤ e.2.length ∧ e.2.length ≤ 200) ∧ runF fs ps = runF es rs ∧ Γ = [rv, lv, fv, .lst (I ps), j1, j2, j3, j4]) ⟨es, rs, _, _, _, _, rfl, hrl, hes, rfl, rfl⟩ ?_ ?_
  · rintro x xs _ ⟨fs, ps, j1, j2, j3, j4, hx, hps, hfs, he, rfl⟩
    cases fs with
    | nil => cases hx
    | cons e fs =>
      simp only [List.map_cons, List.cons.injEq] at hx
      obtain ⟨rfl, rfl⟩ := hx
      obtain ⟨p, s⟩ := e
      have hs := hfs _ (List.mem_cons_self ..)
      simp only at hs
      obtain ⟨q, hq⟩ : ∃ q, q = p + s.length := ⟨_, rfl⟩
      have e1 : (p : Int) + (s.length : Int) = (q : Int) := by omega
      rw [runF, ← hq] at he
      simp only at he
      have bad : (isCutB ps p q && decide (sec ps p q = s)) = false → judF es rs left = "cut" := by
        intro h
        rw [h] at he
        simp [judF, ← he]
      simp -dsimp [entL, e1]
      refine wp_sel (fun hc => ?_) fun hc => ?_
      · simp at hc
        simp -dsimp
        refine wp_ok (.inr (.inl ⟨_, _, rfl, ?_⟩))
        simp -dsimp
        refine wp_ok ?_
        rw [bad]
        have : ¬ q < ps.length := by omega
        simp [isCutB, this]
      · simp at hc
        have hq2 : q < ps.length := by omega
        simp -dsimp [cut_mid, cut_to, cut_from, I_take, I_drop]
        rw [neD_lst]
        simp -dsimp [cut_mid, cut_to, cut_from, I_take, I_drop, sec_eq]
        refine wp_sel (fun hc2 => ?_) fun hc2 => ?_
        · simp at hc2
          simp -dsimp
          refine wp_ok (.inr (.inl ⟨_, _, rfl, ?_⟩))
          simp -dsimp
          refine wp_ok ?_
          rw [bad]
          rw [decide_eq_false (of_decide_eq_false hc2), Bool.and_false]
        · simp at hc2
          replace hc2 : sec ps p q = s := of_decide_eq_true hc2
          have a1 := ixA_lst_nat (I_get (show p < ps.length by omega))
          have a2 := ixA_lst_nat (I_get hq2)
          simp -dsimp [a1, a2]
          refine wp_sel (fun hc3 => ?_) fun hc3 => ?_
          · simp at hc3
            simp -dsimp
            refine wp_ok (.inr (.inl ⟨_, _, rfl, ?_⟩))
            simp -dsimp
            refine wp_ok ?_
            rw [bad]
            cases hcb : isCutB ps p q with
            | false => rfl
            | true => exact absurd ((cut_iff (by omega)).mp hcb).2.1 hc3
          · simp at hc3
            simp -dsimp
            refine lcR_wp (fun xs acc Γ => ∃ (ks dn : List Int) (j : D), xs = I ks ∧ dn ++ ks = s ∧ acc = I (dn.filter fun k => decide (1 < s.count k) || decide (ps.count k < 2)) ∧ Γ = [rv, lv, fv, .lst (I ps), .int p, .lst (I s), .int q, j]) (by simp; omega) ⟨s, [], _, rfl, rfl, rfl, rfl⟩ ?_ ?_
            · rintro d ds acc _ ⟨ks, dn, j, hx, hk, rfl, rfl⟩
              cases ks with
              | nil => cases hx
              | cons k ks =>
                simp only [I_cons, List.cons.injEq] at hx
                obtain ⟨rfl, rfl⟩ := hx
                unfold lst1
                simp -dsimp
                refine wp_sel (fun hc4 => ?_) fun hc4 => ?_
                · simp at hc4
                  simp -dsimp
                  refine wp_ok ⟨_, _, rfl, ks, dn ++ [k], .non, rfl, by simpa using hk, ?_, rfl⟩
                  rw [List.filter_append]
                  have : 1 < s.count k := by omega
                  simp [I_app, this]
                · simp at hc4
                  simp -dsimp
                  refine wp_sel (fun hc5 => ?_) fun hc5 => ?_
                  · simp at hc5
                    simp -dsimp
                    refine wp_ok ⟨_, _, rfl, ks, dn ++ [k], .non, rfl, by simpa using hk, ?_, rfl⟩
                    rw [List.filter_append]
                    have : ps.count k < 2 := by omega
                    simp [I_app, this]
                  · simp at hc5
                    simp -dsimp
                    refine wp_ok ⟨_, _, rfl, ks, dn ++ [k], .non, rfl, by simpa using hk, ?_, rfl⟩
                    rw [List.filter_append]
                    have h1 : ¬ 1 < s.count k := by omega
                    have h2 : ¬ ps.count k < 2 := by omega
                    simp [I_app, h1, h2]
            · rintro acc _ ⟨ks, dn, j, hx, hk, rfl, rfl⟩
              have : ks = [] := by
                cases ks with
                | nil => rfl
                | cons k ks => cases hx
              subst this
              simp at hk
              subst hk
              simp -dsimp
              refine wp_sel (fun hc4 => ?_) fun hc4 => ?_
              · simp at hc4
                simp -dsimp
                refine wp_ok (.inr (.inl ⟨_, _, rfl, ?_⟩))
                simp -dsimp
                refine wp_ok ?_
                rw [bad]
                cases hcb : isCutB ps p q with
                | false => rfl
                | true =>
                  have h1 := ((cut_iff (by omega)).mp hcb).2.2
                  rw [hc2] at h1
                  obtain ⟨k, hk1, hk2⟩ := hc4
                  have := h1 k hk1
                  omega
              · simp at hc4
                simp -dsimp [cut_mid, cut_to, cut_from, I_take, I_drop]
                rw [addA_lst (by simp; omega)]
                simp -dsimp
                have hcb : isCutB ps p q = true := by
                  refine (cut_iff (by omega)).mpr ⟨hq2, hc3, ?_⟩
                  rw [hc2]
                  intro k hk
                  have := hc4 k hk
                  omega
                rw [hcb, decide_eq_true hc2] at he
                have hl3 := cutO_len (rs := ps) (p := p) (q := q) (by omega)
                refine wp_ok (.inl ⟨_, rfl, fs, cutO ps p q, .int p, .lst (I dn), .int q, j4, rfl, by omega, fun e h => hfs e (List.mem_cons_of_mem _ h), ?_, ?_⟩)
                · rw [← he]; rfl
                · simp [cutO, I_app]
  · rintro _ ⟨fs, ps, j1, j2, j3, j4, hx, hps, hfs, he, rfl⟩
    have : fs = [] := by
      cases fs with
      | nil => rfl
      | cons k ks => cases hx
    subst this
    rw [runF] at he
    simp -dsimp [hlist hf]
    rw [neD_lst]
    simp -dsimp
    refine wp_sel (fun hc => ?_) fun hc => ?_
    · simp at hc
      simp -dsimp
      refine wp_ok ?_
      simp [judF, ← he, hc]
    · simp at hc
      have hsh := law_is_short_ok (v := .lst (I ps)) (rs := ps) rfl hps
      simp -dsimp [hsh]
      cases hb : shB ps with
      | false =>
        simp -dsimp
        refine wp_ok ?_
        simp [judF, ← he, hc]
        rw [← hc, hb]
        simp
      | true =>
        simp -dsimp
        refine wp_ok ?_
        simp [judF, ← he, hc]
        rw [← hc, hb]
        simp
/-! _law_grown -/
def growD (rs : List Int) (es : List Ent) : D := if 200 < rs.length + tot es then .tup [.str "TooMany", .int 200] else match growL es.reverse rs with
  | none => .tup [.str "Outside", .non]
  | some r => .tup [.str "told", .tup (I r)]
theorem ixA_pair1 (a b : D) : ixA (.tup [a, b]) (.int 1) = .ok b := .trans rfl rfl
theorem ixA_pair0 (a b : D) : ixA (.tup [a, b]) (.int 0) = .ok a := .trans rfl rfl
theorem sum_lens (es : List Ent) : (es.map fun e => (e.2.length : Int)).sum = (tot es : Int) := by
  induction es with
  | nil => rfl
  | cons e es ih => rw [List.map_cons, List.sum_cons, ih, tot_cons]; omega
theorem law_grown_ok {left : List Int} {es : List Ent} (hel : es.length ≤ 200) : d__law_grown [.lst (I left), .lst (es.map entL)] = .ok (growD left es, .non) := by
  apply wp_of
  simp -dsimp [d__law_grown, s__law_grown, fnD_ap]
  refine lcR_wp (fun xs acc Γ => ∃ (fs dn : List Ent) (j : D), xs = fs.map entL ∧ dn ++ fs = es ∧ acc = I (dn.map fun e => (e.2.length : Int)) ∧ Γ = [.lst (I left), .lst (es.map entL), .non, .non, .non, .non, j]) (by simp; omega) ⟨es, [], _, rfl, rfl, rfl, rfl⟩ ?_ ?_
  · rintro d ds acc _ ⟨fs, dn, j, hx, hk, rfl, rfl⟩
    cases fs with
    | nil => cases hx
    | cons e fs =>
      simp only [List.map_cons, List.cons.injEq] at hx
      obtain ⟨rfl, rfl⟩ := hx
      unfold lst1
      simp -dsimp [entL, ixA_pair1]
      exact wp_ok ⟨_, _, rfl, fs, dn ++ [e], .non, rfl, by simpa using hk, by simp [I_app], rfl⟩
  · rintro acc _ ⟨fs, dn, j, hx, hk, rfl, rfl⟩
    have : fs = [] := by
      cases fs with
      | nil => rfl
      | cons k ks => cases hx
    subst this
    simp at hk
    subst hk
    have hsum : sumB [.lst (I (dn.map fun e => (e.2.length : Int)))] = .ok (.int (tot dn : Int)) := by
      unfold sumB
      simp only [I_ints, sum_lens]
    simp -dsimp [hsum]
    refine wp_sel (fun hc => ?_) fun hc => ?_
    · simp at hc
      simp -dsimp
      refine wp_ok ?_
      unfold growD
      rw [if_pos (by omega)]
    · simp at hc
      have hgr : growD left dn = match growL dn.reverse left with
        | none => .tup [.str "Outside", .non]
        | some r => .tup [.str "told", .tup (I r)] := by
        unfold growD
        rw [if_neg (by omega)]
      rw [hgr]
      simp -dsimp [rng1K_nat (show dn.length ≤ 16777216 by omega)]
      refine forD_wp (fun xs Γ => ∃ (n m : Nat) (ps : List Int) (j1 j2 j3 j4 : D), n + m = dn.length ∧ xs = (List.range' n m).map (fun i : Nat => D.int (0 + (i : Int))) ∧ ps.length + tot (dn.reverse.drop n) ≤ 200 ∧ growL (dn.reverse.drop n) ps = growL dn.reverse left ∧ Γ = [.lst (I left), .lst (dn.map entL), .lst (I ps), j1, j2, j3, j4]) ⟨0, dn.length, left, _, _, _, _, by omega, by rw [← List.range_eq_range']; rfl, by rw [List.drop_zero, tot_rev]; omega, rfl, rfl⟩ ?_ ?_
      · rintro x xs _ ⟨n, m, ps, j1, j2, j3, j4, hnm, hx, hlen, he, rfl⟩
        cases m with
        | zero => cases hx
        | succ m =>
          rw [List.range'_succ] at hx
          simp only [List.map_cons, List.cons.injEq] at hx
          obtain ⟨rfl, rfl⟩ := hx
          have hlt : dn.length - 1 - n < dn.length := by omega
          obtain ⟨e, hee⟩ : ∃ e, dn[dn.length - 1 - n]? = some e := ⟨_, List.getElem?_eq_getElem hlt⟩
          have hre : dn.reverse[n]? = some e := by
            rw [List.getElem?_reverse (by omega)]
            exact hee
          have hdr : dn.reverse.drop n = e :: dn.reverse.drop (n + 1) := by
            have h1 : n < dn.reverse.length := by simp; omega
            rw [List.drop_eq_getElem_cons h1]
            rw [List.getElem?_eq_getElem h1] at hre
            simp at hre
            simp [hre]
          rw [hdr, tot_cons] at hlen
          rw [hdr, growL] at he
          have hix : ixA (.lst (dn.map entL)) (.int ((dn.length : Int) - 1 - (0 + (n : Int)))) = .ok (entL e) := by
            have : ((dn.length : Int) - 1 - (0 + (n : Int))) = ((dn.length - 1 - n : Nat) : Int) := by omega
            rw [this]
            refine ixA_lst_nat ?_
            rw [List.getElem?_map, hee]
            rfl
          simp only [Int.zero_add] at hix
          simp -dsimp [hix]
          simp -dsimp [entL]
          refine wp_sel (fun hc2 => ?_) fun hc2 => ?_
          · simp at hc2
            simp -dsimp
            refine wp_ok (.inr (.inl ⟨_, _, rfl, ?_⟩))
            simp -dsimp
            refine wp_ok ?_
            rw [if_pos hc2] at he
            rw [← he]
          · simp at hc2
            rw [if_neg (by omega)] at he
            simp -dsimp [cut_to, cut_from, I_take, I_drop]
            rw [addA_lst (by simp; omega)]
            simp -dsimp [cut_to, cut_from, I_take, I_drop]
            rw [addA_lst (by simp; omega)]
            simp -dsimp
            refine wp_ok (.inl ⟨_, rfl, n + 1, m, ps.take e.1 ++ e.2 ++ ps.drop e.1, .int n, .int e.1, .lst (I e.2), j4, by omega, by simp, by simp; omega, he, ?_⟩)
            simp [I_app]
      · rintro _ ⟨n, m, ps, j1, j2, j3, j4, hnm, hx, hlen, he, rfl⟩
        have : m = 0 := by
          cases m with
          | zero => rfl
          | succ m => rw [List.range'_succ] at hx; cases hx
        subst this
        have hdr : dn.reverse.drop n = [] := by
          apply List.drop_of_length_le
          simp
          omega
        rw [hdr, growL] at he
        simp -dsimp
        refine wp_ok ?_
        rw [← he]
end My

set_option Elab.async false
set_option linter.all false
set_option maxRecDepth 100000
set_option maxHeartbeats 1000000
namespace My
open PySem PySem.Spec PyProof.Rows L2 DL
/-! the draws -/
theorem mulA_k {i j : Int} (h : -18446744073709551616 < j ∧ j < 18446744073709551616) : mulA (.int i) (.int j) = .ok (.int (i * j)) := mulA_int (.inl (.inr h))
theorem law_mix_ok (c t : Int) : ∃ z : Int, d__law_mix [.int c, .int t] = .ok (.int z, .non) := by
  have key : Wp (d__law_mix [.int c, .int t]) fun r => ∃ z : Int, r = .ok (.int z, .non) := by
    simp -dsimp [d__law_mix, s__law_mix, fnD_ap]
    rw [mulA_k (by decide)]
    simp -dsimp
    rw [mulA_k (by decide)]
    simp -dsimp
    rw [modD_int (by decide)]
    simp -dsimp
    have h1 := Int.emod_nonneg (c * 48271 + t * 69621 + 12345) (show (2147483647 : Int) ≠ 0 by decide)
    have h2 := Int.emod_lt_of_pos (c * 48271 + t * 69621 + 12345) (show (0 : Int) < 2147483647 by decide)
    generalize (c * 48271 + t * 69621 + 12345) % 2147483647 = one at *
    rw [mulA_k (by omega)]
    simp -dsimp
    rw [mulA_k (by decide)]
    simp -dsimp
    rw [modD_int (by decide)]
    simp -dsimp
    rw [mulA_k (by decide)]
    simp -dsimp
    rw [mulA_k (by decide)]
    simp -dsimp
    rw [modD_int (by decide)]
    simp -dsimp
    rw [mulA_k (by decide)]
    simp -dsimp
    exact wp_ok ⟨_, rfl⟩
  exact key
def cellD (c : Int × Int) : D := .tup [.int c.1, .int c.2]
def StOk (d : D) : Prop := ∃ (cs : List (Int × Int)) (i : Nat) (t r s : Int), d = .lst [.lst (cs.map cellD), .int (i : Int), .int t, .int r, .int s] ∧ 0 ≤ r ∧ ∀ c, c ∈ cs → 0 ≤ c.2
@[simp] theorem ix5_0 (a b c d e : D) : ixA (.lst [a, b, c, d, e]) (.int 0) = .ok a := .trans rfl rfl
@[simp] theorem ix5_1 (a b c d e : D) : ixA (.lst [a, b, c, d, e]) (.int 1) = .ok b := .trans rfl rfl
@[simp] theorem ix5_2 (a b c d e : D) : ixA (.lst [a, b, c, d, e]) (.int 2) = .ok c := .trans rfl rfl
@[simp] theorem ix5_3 (a b c d e : D) : ixA (.lst [a, b, c, d, e]) (.int 3) = .ok d := .trans rfl rfl
@[simp] theorem ix5_4 (a b c d e : D) : ixA (.lst [a, b, c, d, e]) (.int 4) = .ok e := .trans rfl rfl
@[simp] theorem sk5_1 (i : Nat) (a b c d e v : D) (Γ : List D) : setK i v (.int 1) (.lst [a, b, c, d, e]) Γ = .ok (.nx (Γ.set i (.lst [a, v, c, d, e]))) := .trans rfl rfl
@[simp] theorem sk5_2 (i : Nat) (a b c d e v : D) (Γ : List D) : setK i v (.int 2) (.lst [a, b, c, d, e]) Γ = .ok (.nx (Γ.set i (.lst [a, b, v, d, e]))) := .trans rfl rfl
@[simp] theorem sk5_3 (i : Nat) (a b c d e v : D) (Γ : List D) : setK i v (.int 3) (.lst [a, b, c, d, e]) Γ = .ok (.nx (Γ.set i (.lst [a, b, c, v, e]))) := .trans rfl rfl
@[simp] theorem sk5_4 (i : Nat) (a b c d e v : D) (Γ : List D) : setK i v (.int 4) (.lst [a, b, c, d, e]) Γ = .ok (.nx (Γ.set i (.lst [a, b, c, d, v]))) := .trans rfl rfl
theorem mod_nat (z : Int) {m : Nat} (h : 0 < m) : ∃ v : Nat, z % (m : Int) = (v : Int) ∧ v < m := by
  have h1 := Int.emod_nonneg z (show (m : Int) ≠ 0 by omega)
  have h2 := Int.emod_lt_of_pos z (show (0 : Int) < m by omega)
  exact ⟨(z % m).toNat, by omega, by omega⟩
theorem take_ok {st : D} {m : Nat} (h : StOk st) (hm : m < 1073741824) : ∃ (v : Nat) (st' : D), d__law_take [st, .int (m : Int)] = .ok (.int (v : Int), st') ∧ StOk st' ∧ (v < m ∨ (m = 0 ∧ v = 0)) := by
  obtain ⟨cs, i, t, r, s, rfl, hr, hcs⟩ := h
  have key : Wp (d__law_take [.lst [.lst (cs.map cellD), .int (i : Int), .int t, .int r, .int s], .int (m : Int)]) fun x => ∃ (v : Nat) (st' : D), x = .ok (.int (v : Int), st') ∧ StOk st' ∧ (v < m ∨ (m = 0 ∧ v = 0)) := by
    simp -dsimp [d__law_take, s__law_take, fnD_ap]
    refine wp_sel (fun hc => ?_) fun hc => ?_
    · simp at hc
      simp -dsimp
      exact wp_ok ⟨0, _, rfl, ⟨cs, i, t, r, s, rfl, hr, hcs⟩, by omega⟩
    · simp at hc
      have hm0 : 0 < m := by omega
      have last : ∀ (i' : Nat) (r' : Int), 0 ≤ r' → ∀ j1 j2 j3, Wp (bnd (seqS (ifS (tstD (binD gtD .fz .fz (binD ixA (.bw 0) .fz kN (kI 3)) (kI 0))) (seqS (setS 4 (binD modD .fz .fz (callD intB [.fz] (consA (binD ixA (.bw 0) .fz kN (kI 3)) nilA)) (gV 1))) (seqS (setAt 0 (binD fdivD .fz .fz (binD ixA (.bw 0) .fz kN (kI 3)) (gV 1)) (kI 3)) (retS (gV 4)))) nxS) (seqS (setAt 0 (binD modD .fz .fz (callD intB [.fz] (consA (binD addA .fz .fz (binD addA .fz .fz (binD mulA .fz .fz (binD ixA (.bw 0) .fz kN (kI 4)) (kI 48271)) (binD mulA .fz .fz (binD ixA (.bw 0) .fz kN (kI 2)) (kI 69621))) (kI 1)) nilA)) (kI 2147483647)) (kI 4)) (retS (binD modD .fz .fz (callD intB [.fz] (consA (call0 d__law_mix (consA (binD ixA (.bw 0) .fz kN (kI 4)) (consA (binD ixA (.bw 0) .fz kN (kI 2)) nilA))) nilA)) (gV 1)))) [.lst [.lst (cs.map cellD), .int (i' : Int), .int (t + 1), .int r', .int s], .int (m : Int), j1, j2, j3]) (endF true .fz)) fun x => ∃ (v : Nat) (st' : D), x = .ok (.int (v : Int), st') ∧ StOk st' ∧ (v < m ∨ (m = 0 ∧ v = 0)) := by
        intro i' r' hr' j1 j2 j3
        simp -dsimp
        refine wp_sel (fun hc2 => ?_) fun hc2 => ?_
        · obtain ⟨v, hv, hvm⟩ := mod_nat r' hm0
          simp -dsimp
          rw [modD_int (by omega)]
          simp -dsimp
          rw [fdivD_int (by omega) (by omega), hv]
          simp -dsimp
          exact wp_ok ⟨v, _, rfl, ⟨cs, i', t + 1, r' / (m : Int), s, rfl, Int.ediv_nonneg hr' (by omega), hcs⟩, .inl hvm⟩
        · simp -dsimp
          rw [mulA_k (by decide)]
          simp -dsimp
          rw [mulA_k (by decide)]
          simp -dsimp
          rw [modD_int (by decide)]
          simp -dsimp
          obtain ⟨z, hz⟩ := law_mix_ok ((s * 48271 + (t + 1) * 69621 + 1) % 2147483647) (t + 1)
          simp -dsimp [hz]
          rw [modD_int (by omega)]
          obtain ⟨v, hv, hvm⟩ := mod_nat z hm0
          rw [hv]
          simp -dsimp
          exact wp_ok ⟨v, _, rfl, ⟨cs, i', t + 1, r', _, rfl, hr', hcs⟩, .inl hvm⟩
      simp -dsimp
      refine wp_sel (fun hc2 => ?_) fun hc2 => ?_
      · simp at hc2
        simp -dsimp
        refine wp_sel (fun hc3 => ?_) fun hc3 => ?_
        · simp at hc3
          obtain ⟨⟨k, c⟩, hkc⟩ : ∃ e, cs[i]? = some e := ⟨_, List.getElem?_eq_getElem hc3⟩
          have hix := ixA_lst_nat (xs := cs.map cellD) (k := i) (z := cellD (k, c)) (by rw [List.getElem?_map, hkc]; rfl)
          have hc0 : 0 ≤ c := hcs (k, c) (List.mem_of_getElem? hkc)
          simp -dsimp [hix]
          simp -dsimp [cellD]
          refine wp_sel (fun hc4 => ?_) fun hc4 => ?_
          · obtain ⟨z, hz⟩ := law_mix_ok c (t + 1)
            simp -dsimp [hz]
            rw [modD_int (by omega)]
            obtain ⟨v, hv, hvm⟩ := mod_nat z hm0
            rw [hv]
            simp -dsimp
            exact wp_ok ⟨v, _, rfl, ⟨cs, i + 1, t + 1, r, s, by simp, hr, hcs⟩, .inl hvm⟩
          · have := last (i + 1) c hc0 (.int k) (.int c) .non
            simp -dsimp at this ⊢
            exact this
        · have := last i r hr .non .non .non
          simp -dsimp at this ⊢
          exact this
      · have := last i r hr .non .non .non
        simp -dsimp at this ⊢
        exact this
  exact key
theorem pick_ok {st : D} {xs : List D} (h : StOk st) (hl : 0 < xs.length) (hm : xs.length < 1073741824) : ∃ (x : D) (st' : D), d__law_pick [st, .lst xs] = .ok (x, st') ∧ StOk st' ∧ x ∈ xs := by
  obtain ⟨v, st', e, h1, h2⟩ := take_ok h hm
  have hv : v < xs.length := by omega
  refine ⟨xs[v], st', ?_, h1, List.getElem_mem hv⟩
  simp -dsimp [d__law_pick, s__law_pick, fnD_ap, e]
  rw [ixA_lst_nat (List.getElem?_eq_getElem hv)]
  simp -dsimp
/-! the store -/
theorem pow_ok {i j : Int} {z : Int} (h : 0 ≤ j ∧ (Builtin.Int.intBits i : Int) * j ≤ 2 ^ 27) (e : i ^ j.toNat = z) : powD (.int i) (.int j) = .ok (.int z) := by
  rw [← e]
  exact if_pos h
def scrK (d : D) (Γ : List D) : Rs (List D × List D) := match d with
  | .scr ds => .ok (ds, Γ)
  | _ => nope
@[simp] theorem scrI_ap (a : Dn) (Γ : List D) : scrI a Γ = bnd (a Γ) fun x => scrK x.1 x.2 := .trans rfl rfl
@[simp] theorem scrK_scr (ds Γ : List D) : scrK (.scr ds) Γ = .ok (ds, Γ) := .trans rfl rfl
theorem store_ok (ns : List Int) (hl : ns.length ≤ 63) : ∃ st, d__law_store [.scr (ns.map D.int)] = .ok (st, .non) ∧ StOk st := by
  have key : Wp (d__law_store [.scr (ns.map D.int)]) fun r => ∃ st, r = .ok (st, .non) ∧ StOk st := by
    obtain ⟨A, hA⟩ : ∃ A : Int, A = (10 : Int) ^ 18 := ⟨_, rfl⟩
    obtain ⟨B, hB⟩ : ∃ B : Int, B = (10 : Int) ^ 60 := ⟨_, rfl⟩
    obtain ⟨C, hC⟩ : ∃ C : Int, C = B ^ 10 := ⟨_, rfl⟩
    have p1 : powD (.int 10) (.int 18) = .ok (.int A) := pow_ok (by decide +kernel) hA.symm
    have p2 : powD (.int 10) (.int 60) = .ok (.int B) := pow_ok (by decide +kernel) hB.symm
    have p3 : powD (.int B) (.int 10) = .ok (.int C) := pow_ok (by rw [hB]; decide +kernel) hC.symm
    have hC0 : 0 < C := by rw [hC, hB]; decide +kernel
    simp -dsimp [d__law_store, s__law_store, fnD_ap]
    refine forD_wp (fun xs Γ => ∃ (ks : List Int) (cs : List (Int × Int)) (s : Int) (j1 j2 : D), xs = ks.map D.int ∧ cs.length + ks.length ≤ 63 ∧ (∀ c, c ∈ cs → 0 ≤ c.2) ∧ Γ = [.scr (ns.map D.int), .lst (cs.map cellD), .int s, j1, j2]) ⟨ns, [], _, _, _, rfl, by simpa using hl, by simp, rfl⟩ ?_ ?_
    · rintro x xs _ ⟨ks, cs, s, j1, j2, hx, hlen, hcs, rfl⟩
      cases ks with
      | nil => cases hx
      | cons k ks =>
        simp only [List.map_cons, List.cons.injEq] at hx
        obtain ⟨rfl, rfl⟩ := hx
        simp at hlen
        simp -dsimp
        rw [modD_int (by decide)]
        simp -dsimp
        rw [mulA_k (by decide)]
        simp -dsimp
        rw [modD_int (by decide)]
        simp -dsimp [p1]
        have hk := Int.emod_nonneg k (show (2147483647 : Int) ≠ 0 by decide)
        refine wp_sel (fun hc => ?_) fun hc => ?_
        · simp -dsimp
          rw [appM_ok (by simp; omega)]
          simp -dsimp
          refine wp_ok (.inl ⟨_, rfl, ks, cs ++ [(0, k % 2147483647)], (s * 48271 + k % 2147483647 + 7) % 2147483647, .int k, .int (k % 2147483647), rfl, by simp; omega, ?_, by simp [cellD]⟩)
          intro c hc
          rcases List.mem_append.mp hc with h | h
          · exact hcs c h
          · simp at h; subst h; exact hk
        · simp -dsimp [p2, p3]
          rw [modD_int hC0]
          simp -dsimp
          rw [appM_ok (by simp; omega)]
          simp -dsimp
          refine wp_ok (.inl ⟨_, rfl, ks, cs ++ [(1, k % C)], (s * 48271 + k % 2147483647 + 7) % 2147483647, .int k, .int (k % 2147483647), rfl, by simp; omega, ?_, by simp [cellD]⟩)
          intro c hc
          rcases List.mem_append.mp hc with h | h
          · exact hcs c h
          · simp at h; subst h; exact Int.emod_nonneg k (by omega)
    · rintro _ ⟨ks, cs, s, j1, j2, hx, hlen, hcs, rfl⟩
      simp -dsimp
      exact wp_ok ⟨_, rfl, cs, 0, 0, 0, s, rfl, by decide, hcs⟩
  exact key
end My

set_option Elab.async false
set_option linter.all false
set_option maxRecDepth 100000
set_option maxHeartbeats 1000000
namespace My
open PySem PySem.Spec PyProof.Rows L2 DL
theorem forD_wp0 {f : D → Sn} {P : Rs Out → Prop} {t : Tg P} {xs Γ : List D} (Inv : List D → List D → Prop) (h0 : Inv xs Γ)
    (hs : ∀ x xs Γ, Inv (x :: xs) Γ → Wp (f x Γ) fun r => (∃ Γ', r = .ok (.nx Γ') ∧ Inv xs Γ') ∨ (∃ d Γ', r = .ok (.ret d Γ') ∧ P (.ok (.ret d Γ'))) ∨ (∃ e, r = .error e ∧ P (.error e)))
    (he : ∀ Γ', Inv [] Γ' → P (.ok (.nx Γ'))) : Wp (forD f xs Γ) P t := by
  have h : forD f xs Γ = bnd (forD f xs Γ) fun o => .ok o := by cases forD f xs Γ <;> rfl
  rw [h]
  exact forD_wp (k := fun o => .ok o) (P := P) Inv h0 hs he
/-! _law_shaped -/
def mk (w : Nat) (xs : List D) : D := if w % 2 = 0 then .lst xs else .tup xs
@[simp] theorem items_mk (w : Nat) (xs : List D) : itemsD (mk w xs) = some xs := by
  unfold mk
  split <;> rfl
theorem shaped_flat {v : D} (ht : ty1 v = true) (h : itemsD v = none) (n : Nat) (w : Int) : d__law_shaped (n + 1) [v, .int w] = .ok (v, .non) := by
  simp -dsimp [d__law_shaped, s__law_shaped, fnD_ap, isi2_no ht h]
theorem shaped_sq {v : D} {ds es : List D} (h : itemsD v = some ds) (hl : ds.length < 16777216) (n w : Nat) (f : D → D) (hf : ∀ d, d ∈ ds → d__law_shaped n [d, .int ((w / 2 : Nat) : Int)] = .ok (f d, .non)) : d__law_shaped (n + 1) [v, .int (w : Int)] = .ok (mk w (ds.map f), .non) := by
  have hi : isi2D "list" "tuple" v = .ok (.bl true) := isi2_of h
  apply wp_of
  simp -dsimp [d__law_shaped, s__law_shaped, fnD_ap, hi, itK_of h]
  refine lcR_wp (fun xs acc Γ => ∃ (dn : List D) (j : D), dn ++ xs = ds ∧ acc = dn.map f ∧ Γ = [v, .int (w : Int), .non, j]) (by omega) ⟨[], _, rfl, rfl, rfl⟩ ?_ ?_
  · rintro d xs acc _ ⟨dn, j, hk, rfl, rfl⟩
    unfold lst1
    simp -dsimp
    rw [fdivD_int (by decide) (by decide)]
    have := hf d (by rw [← hk]; simp)
    obtain ⟨w2, hw2⟩ : ∃ w2, w2 = w / 2 := ⟨_, rfl⟩
    rw [← hw2] at this
    have e1 : (w : Int) / 2 = (w2 : Int) := by omega
    rw [e1]
    simp -dsimp [this]
    exact wp_ok ⟨_, _, rfl, dn ++ [d], .non, by simpa using hk, by simp, rfl⟩
  · rintro acc _ ⟨dn, j, hk, rfl, rfl⟩
    simp at hk
    subst hk
    simp -dsimp
    rw [modD_int (by decide)]
    simp -dsimp
    refine wp_sel (fun hc => ?_) fun hc => ?_
    · simp at hc
      simp -dsimp
      refine wp_ok ?_
      unfold mk
      rw [if_pos (by omega)]
    · simp at hc
      simp -dsimp
      refine wp_ok ?_
      unfold mk
      rw [if_neg (by omega)]
theorem shaped_row (n w : Nat) {v : D} {rs : List Int} (hv : itemsD v = some (I rs)) (h : rs.length ≤ 200) : d__law_shaped (n + 2) [v, .int (w : Int)] = .ok (mk w (I rs), .non) := by
  have := shaped_sq (v := v) (ds := I rs) (es := []) hv (by simp; omega) (n + 1) w id fun d hd => by
    obtain ⟨k, _, rfl⟩ := List.mem_map.mp hd
    exact shaped_flat rfl rfl n _
  rw [this]
  simp
def entM (w : Nat) (e : Ent) : D := mk w [.int (e.1 : Int), mk (w / 2) (I e.2)]
def logD (es : List Ent) : D := .lst (es.map entL)
def logM (w : Nat) (es : List Ent) : D := mk w (es.map (entM (w / 2)))
def okEnt (e : Ent) : Prop := 1 ≤ e.2.length ∧ okRow e.2
def okLog (es : List Ent) : Prop := es.length ≤ 200 ∧ ∀ e, e ∈ es → okEnt e
/-- what stands in an entry, whatever its shape -/
theorem shaped_ent (n w : Nat) (e : Ent) (h : okEnt e) : d__law_shaped (n + 3) [entL e, .int (w : Int)] = .ok (entM w e, .non) := by
  have := shaped_sq (v := entL e) (ds := [.int (e.1 : Int), .lst (I e.2)]) (es := []) rfl (by simp) (n + 2) w (fun d => match d with
    | .int i => .int i
    | _ => mk (w / 2) (I e.2)) fun d hd => by
      simp at hd
      rcases hd with rfl | rfl
      · exact shaped_flat rfl rfl _ _
      · exact shaped_row n _ rfl h.2.1
  rw [this]
  simp [entM]
theorem shaped_log (n w : Nat) (es : List Ent) (h : okLog es) : d__law_shaped (n + 4) [logD es, .int (w : Int)] = .ok (logM w es, .non) := by
  have key : ∀ es, okLog es → ∃ f : D → D, (∀ d, d ∈ es.map entL → d__law_shaped (n + 3) [d, .int ((w / 2 : Nat) : Int)] = .ok (f d, .non)) ∧ (es.map entL).map f = es.map (entM (w / 2)) := by
    intro es h
    refine ⟨fun d => match d__law_shaped (n + 3) [d, .int ((w / 2 : Nat) : Int)] with
      | .ok z => z.1
      | .error _ => .non, ?_, ?_⟩
    · intro d hd
      obtain ⟨e, he, rfl⟩ := List.mem_map.mp hd
      simp only [shaped_ent n _ e (h.2 e he)]
    · rw [List.map_map]
      apply List.map_congr_left
      intro e he
      simp only [Function.comp_apply]
      rw [shaped_ent n _ e (h.2 e he)]
  obtain ⟨f, h1, h2⟩ := key es h
  have := shaped_sq (v := logD es) (ds := es.map entL) (es := []) rfl (by have := h.1; simp; omega) (n + 3) w f h1
  rw [this, h2]
  rfl
theorem shaped_all (w : Nat) {rs left : List Int} {es : List Ent} (hr : okRow rs) (hl : okRow left) (he : okLog es) : d__law_shaped 8 [.lst [.lst (I rs), logD es, .lst (I left)], .int ((2 * w : Nat) : Int)] = .ok (.lst [mk w (I rs), logM w es, mk w (I left)], .non) := by
  have h := shaped_sq (v := .lst [.lst (I rs), logD es, .lst (I left)]) (ds := [.lst (I rs), logD es, .lst (I left)]) (es := []) rfl (by simp) 7 (2 * w) (fun d => match d__law_shaped 7 [d, .int ((2 * w / 2 : Nat) : Int)] with
      | .ok z => z.1
      | .error _ => .non) fun d hd => by
    have e : 2 * w / 2 = w := by omega
    rw [e]
    simp at hd
    rcases hd with rfl | rfl | rfl
    · rw [shaped_row 5 _ rfl hr.1]
    · rw [shaped_log 3 _ es he]
    · rw [shaped_row 5 _ rfl hl.1]
  rw [h]
  have e : 2 * w / 2 = w := by omega
  rw [e]
  have e2 : 2 * w % 2 = 0 := by omega
  simp only [List.map_cons, List.map_nil]
  rw [shaped_row 5 _ rfl hr.1, shaped_log 3 _ es he, shaped_row 5 _ rfl hl.1]
  unfold mk
  rw [if_pos e2]
theorem entOf_of {d s : D} {p : Nat} {ss : List Int} (hd : itemsD d = some [.int (p : Int), s]) (hs : itemsD s = some (I ss)) (h : 1 ≤ ss.length ∧ okRow ss) : entOf d = some (p, ss) := by
  obtain ⟨h1, h2⟩ := rowB_of hs h.2
  have h3 : decide (0 ≤ (p : Int)) = true := by simp
  simp only [entOf, hd, h1, h2, h3, decide_eq_true h.1, Bool.and_self, if_true]
  simp
theorem entsOf_map (f : Ent → D) : ∀ (es : List Ent), (∀ e, e ∈ es → entOf (f e) = some e) → entsOf (es.map f) = some es
  | [], _ => rfl
  | e :: es, h => by
    rw [List.map_cons, entsOf, h e (List.mem_cons_self ..), entsOf_map f es fun e' h' => h e' (List.mem_cons_of_mem _ h')]
theorem logOf_map (f : Ent → D) {v : D} {es : List Ent} (hv : itemsD v = some (es.map f)) (he : okLog es) (h : ∀ e, e ∈ es → entOf (f e) = some e) : logOf v = some es := by
  unfold logOf
  rw [hv]
  simp only [List.length_map]
  rw [if_pos he.1]
  exact entsOf_map f es h
theorem ty1_mk (w : Nat) (xs : List D) : ty1 (mk w xs) = true := by
  unfold mk
  split <;> rfl
theorem tyN_sq {n : Nat} {v : D} {ds : List D} (h : itemsD v = some ds) (ha : ∀ d, d ∈ ds → tyN n d = true) : tyN (n + 1) v = true := by
  rw [tyN, h]
  simp only [Bool.and_eq_true, List.all_eq_true]
  refine ⟨?_, ha⟩
  rcases items_sq h with rfl | rfl <;> rfl
theorem tyN_int (n : Nat) (i : Int) : tyN n (.int i) = true := by
  cases n <;> rfl
theorem tyN_row {n : Nat} {v : D} {rs : List Int} (h : itemsD v = some (I rs)) : tyN (n + 1) v = true := tyN_sq h fun d hd => by
  obtain ⟨k, _, rfl⟩ := List.mem_map.mp hd
  exact tyN_int ..
theorem tyN_log {v : D} {es : List Ent} (f : Ent → D) (g : Ent → D) (hv : itemsD v = some (es.map f)) (hf : ∀ e, itemsD (f e) = some [.int (e.1 : Int), g e]) (hg : ∀ e, itemsD (g e) = some (I e.2)) : tyN 3 v = true :=
  tyN_sq hv fun d hd => by
    obtain ⟨e, _, rfl⟩ := List.mem_map.mp hd
    refine tyN_sq (hf e) fun d hd => ?_
    simp at hd
    rcases hd with rfl | rfl
    · exact tyN_int ..
    · exact tyN_row (hg e)
/-! _law_same at one and the same thing -/
mutual
def szD : D → Nat
  | .lst xs => 1 + szL xs
  | .tup xs => 1 + szL xs
  | _ => 1
def szL : List D → Nat
  | [] => 0
  | x :: xs => szD x + szL xs
end
mutual
def niD : D → Bool
  | .non => true
  | .bl _ => true
  | .int _ => true
  | .str _ => true
  | .lst xs => niL xs
  | .tup xs => niL xs
  | _ => false
def niL : List D → Bool
  | [] => true
  | x :: xs => niD x && niL xs
end
theorem szL_app (xs ys : List D) : szL (xs ++ ys) = szL xs + szL ys := by
  induction xs with
  | nil => simp [szL]
  | cons x xs ih => simp [szL, ih]; omega
theorem niL_app (xs ys : List D) : niL (xs ++ ys) = (niL xs && niL ys) := by
  induction xs with
  | nil => simp [niL]
  | cons x xs ih => simp [niL, ih, Bool.and_assoc]
theorem szD_pos (x : D) : 1 ≤ szD x := by
  cases x <;> simp [szD]
theorem szL_len (xs : List D) : xs.length ≤ szL xs := by
  induction xs with
  | nil => simp
  | cons x xs ih => have := szD_pos x; simp [szL]; omega
theorem niL_mem {xs : List D} {x : D} (h : niL xs = true) (hx : x ∈ xs) : niD x = true := by
  induction xs with
  | nil => cases hx
  | cons y xs ih =>
    simp [niL] at h
    rcases List.mem_cons.mp hx with rfl | hx
    · exact h.1
    · exact ih h.2 hx
def dup (x : D) : D := .tup [x, x]
theorem same_push {v : D} {xs : List D} (hv : itemsD v = some xs) (hb : szL xs < 1000000) (a b : D) (base : List D) (hbl : base.length + xs.length < 2000000) (j5 : D) (P : Rs Out → Prop) (t : Tg P)
    (h : ∀ j, P (.ok (.nx [a, b, .lst ((base ++ xs).map dup), v, v, j]))) :
    Wp (forD (fbody (gN 5) (dropS (mutD 2 appM (consA (tupD (consA (binD ixA .fz .fz (gV 3) (gV 5)) (consA (binD ixA .fz .fz (gV 4) (gV 5)) nilA))) nilA)))) (upto 0 xs.length) [a, b, .lst (base.map dup), v, v, j5]) P t := by
  refine forD_wp0 (fun ys Γ => ∃ (n m : Nat) (j : D), n + m = xs.length ∧ ys = (List.range' n m).map (fun i : Nat => D.int (0 + (i : Int))) ∧ Γ = [a, b, .lst ((base ++ xs.take n).map dup), v, v, j]) ⟨0, xs.length, j5, by omega, by rw [← List.range_eq_range']; rfl, by simp⟩ ?_ ?_
  · rintro x ys _ ⟨n, m, j, hnm, hx, rfl⟩
    cases m with
    | zero => cases hx
    | succ m =>
      rw [List.range'_succ] at hx
      simp only [List.map_cons, List.cons.injEq] at hx
      obtain ⟨rfl, rfl⟩ := hx
      have hn : n < xs.length := by omega
      have hix : ixA v (.int (n : Int)) = .ok xs[n] := by
        rcases items_sq hv with rfl | rfl
        · exact ixA_lst_nat (List.getElem?_eq_getElem hn)
        · exact ixA_tup_nat (List.getElem?_eq_getElem hn)
      simp -dsimp [hix]
      rw [appM_ok (by simp; omega)]
      simp -dsimp
      refine wp_ok (.inl ⟨_, rfl, n + 1, m, .int n, by omega, by simp, ?_⟩)
      have ht : (base ++ xs.take (n + 1)).map dup = (base ++ xs.take n).map dup ++ [dup xs[n]] := by
        rw [List.take_succ_eq_append_getElem hn, ← List.append_assoc, List.map_append]
        rfl
      rw [ht]
      simp [dup]
  · rintro _ ⟨n, m, j, hnm, hx, rfl⟩
    have : m = 0 := by
      cases m with
      | zero => rfl
      | succ m => rw [List.range'_succ] at hx; cases hx
    subst this
    have := h j
    rw [List.take_of_length_le (by omega)]
    exact this
theorem same_refl {x : D} (hn : niD x = true) (hs : szD x < 500000) : d__law_same [x, x] = .ok (.bl true, .non) := by
  apply wp_of
  simp -dsimp [d__law_same, s__law_same, fnD_ap]
  refine whileD_wp (fun m Γ => ∃ (ps : List D) (j1 j2 j3 : D), m = szL ps ∧ m < 500000 ∧ niL ps = true ∧ Γ = [x, x, .lst (ps.map dup), j1, j2, j3]) (szD x) (by omega) ⟨[x], _, _, _, by simp [szL], hs, by simpa [niL] using hn, rfl⟩ ?_
  rintro m _ ⟨ps, j1, j2, j3, rfl, hsz, hni, rfl⟩
  unfold wst
  rcases List.eq_nil_or_concat ps with rfl | ⟨qs, y, rfl⟩
  · simp -dsimp
    refine wp_ok (.inr (.inl ⟨_, rfl, ?_⟩))
    simp -dsimp
    exact wp_ok rfl
  · rw [List.concat_eq_append] at *
    rw [szL_app] at hsz ⊢
    rw [niL_app] at hni
    simp only [Bool.and_eq_true, niL, and_true, szL, Nat.add_zero] at hni hsz ⊢
    have hlen := szL_len qs
    have hpos := szD_pos y
    have e0 : decide ((0 : Int) < (qs.length : Int) + 1) = true := by simp <;> omega
    simp -dsimp [e0]
    rw [popM_ok]
    simp -dsimp [dup]
    have sq : ∀ (xs : List D), itemsD y = some xs → szD y = 1 + szL xs → niL xs = true → isD y .non = .ok (.bl false) → (∀ b, isD y (.bl b) = .ok (.bl false)) → isiD "int" y = .ok (.bl false) → isiD "str" y = .ok (.bl false) → (∃ b, isiD "list" y = .ok (.bl b)) → True := fun _ _ _ _ _ _ _ _ _ => trivial
    cases y <;> first | (simp [niD] at hni; done) | skip
    case non =>
      simp -dsimp
      exact wp_ok (.inl ⟨_, szL qs, rfl, by omega, qs, _, _, _, rfl, by omega, hni.1, rfl⟩)
    case bl b =>
      cases b
      · simp -dsimp
        exact wp_ok (.inl ⟨_, szL qs, rfl, by omega, qs, _, _, _, rfl, by omega, hni.1, rfl⟩)
      · simp -dsimp
        exact wp_ok (.inl ⟨_, szL qs, rfl, by omega, qs, _, _, _, rfl, by omega, hni.1, rfl⟩)
    case int i =>
      simp -dsimp
      exact wp_ok (.inl ⟨_, szL qs, rfl, by omega, qs, _, _, _, rfl, by omega, hni.1, rfl⟩)
    case str s =>
      simp -dsimp
      exact wp_ok (.inl ⟨_, szL qs, rfl, by omega, qs, _, _, _, rfl, by omega, hni.1, rfl⟩)
    case lst xs =>
      simp only [szD, niD] at hsz hni
      have hxl := szL_len xs
      simp -dsimp [rng1K_nat (show xs.length ≤ 16777216 by omega)]
      have hw := same_push (v := .lst xs) (xs := xs) rfl (by omega) x x qs (by omega) j3 (fun r => ∃ j, r = .ok (.nx [x, x, .lst ((qs ++ xs).map dup), .lst xs, .lst xs, j])) ⟨⟩ (fun j => ⟨j, rfl⟩)
      obtain ⟨j, hj⟩ := hw
      simp -dsimp [hj]
      exact wp_ok (.inl ⟨_, szL qs + szL xs, rfl, by simp only [szD]; omega, qs ++ xs, .lst xs, .lst xs, j, by rw [szL_app], by omega, by rw [niL_app, hni.1, hni.2]; rfl, by simp⟩)
    case tup xs =>
      simp only [szD, niD] at hsz hni
      have hxl := szL_len xs
      simp -dsimp [rng1K_nat (show xs.length ≤ 16777216 by omega)]
      have hw := same_push (v := .tup xs) (xs := xs) rfl (by omega) x x qs (by omega) j3 (fun r => ∃ j, r = .ok (.nx [x, x, .lst ((qs ++ xs).map dup), .tup xs, .tup xs, j])) ⟨⟩ (fun j => ⟨j, rfl⟩)
      obtain ⟨j, hj⟩ := hw
      simp -dsimp [hj]
      exact wp_ok (.inl ⟨_, szL qs + szL xs, rfl, by simp only [szD]; omega, qs ++ xs, .tup xs, .tup xs, j, by rw [szL_app], by omega, by rw [niL_app, hni.1, hni.2]; rfl, by simp⟩)
end My

set_option Elab.async false
set_option linter.all false
set_option maxRecDepth 100000
set_option maxHeartbeats 1000000
namespace My
open PySem PySem.Spec PyProof.Rows L2 DL
/-! _law_plain: trees of tuples of ints -/
mutual
def piD : D → Bool
  | .int _ => true
  | .tup xs => piL xs
  | _ => false
def piL : List D → Bool
  | [] => true
  | x :: xs => piD x && piL xs
end
theorem piL_app (xs ys : List D) : piL (xs ++ ys) = (piL xs && piL ys) := by
  induction xs with
  | nil => simp [piL]
  | cons x xs ih => simp [piL, ih, Bool.and_assoc]
theorem plain_ok {x : D} (hp : piD x = true) (hs : szD x < 99999) : d__law_plain [x] = .ok (.bl true, .non) := by
  apply wp_of
  have hr : ∀ Γ, rng1K [.int 100000] Γ = .ok (upto 0 100000, Γ) := rng1K_nat (n := 100000) (by decide)
  simp -dsimp [d__law_plain, s__law_plain, fnD_ap, hr]
  have hul : (upto 0 100000).length = 100000 := by unfold upto; rw [List.length_map, List.length_range]
  generalize upto 0 100000 = us at *
  refine forD_wp (fun ys Γ => ∃ (ps : List D) (j1 j2 j3 : D), szL ps + 1 < ys.length + 1 ∧ szL ps < 100000 ∧ piL ps = true ∧ Γ = [x, .lst ps, j1, j2, j3]) ⟨[x], _, _, _, by simp [szL]; omega, by simp [szL]; omega, by simpa [piL] using hp, rfl⟩ ?_ ?_
  · rintro y ys _ ⟨ps, j1, j2, j3, hlen, hsz, hpi, rfl⟩
    rcases List.eq_nil_or_concat ps with rfl | ⟨qs, z, rfl⟩
    · simp -dsimp
      refine wp_ok (.inr (.inl ⟨_, _, rfl, ?_⟩))
      simp -dsimp
      exact wp_ok rfl
    · rw [List.concat_eq_append] at *
      rw [szL_app] at hlen hsz
      rw [piL_app] at hpi
      simp only [Bool.and_eq_true, piL, and_true, szL, Nat.add_zero, List.length_cons] at hpi hlen hsz
      have hql := szL_len qs
      have hpos := szD_pos z
      have e0 : decide (((qs.length : Int) + 1) = 0) = false := by simp <;> omega
      simp -dsimp [e0]
      rw [popM_ok]
      simp -dsimp
      cases z <;> first | (simp [piD] at hpi; done) | skip
      case int i =>
        simp -dsimp
        exact wp_ok (.inl ⟨_, rfl, qs, y, .int i, j3, by omega, by omega, hpi.1, rfl⟩)
      case tup xs =>
        simp only [szD, piD] at hlen hsz hpi
        have hxl := szL_len xs
        simp -dsimp
        refine forD_wp0 (fun ws Γ => ∃ (dn : List D) (j : D), dn ++ ws = xs ∧ Γ = [x, .lst (qs ++ dn), y, .tup xs, j]) ⟨[], j3, rfl, by simp⟩ ?_ ?_
        · rintro w ws _ ⟨dn, j, hd, rfl⟩
          have : dn.length + (ws.length + 1) = xs.length := by rw [← hd]; simp
          simp -dsimp
          rw [appM_ok (by simp; omega)]
          simp -dsimp
          exact wp_ok (.inl ⟨_, rfl, dn ++ [w], w, by simpa using hd, by simp⟩)
        · rintro _ ⟨dn, j, hd, rfl⟩
          simp at hd
          subst hd
          exact .inl ⟨_, rfl, qs ++ dn, y, .tup dn, j, by rw [szL_app]; omega, by rw [szL_app]; omega, by rw [piL_app, hpi.1, hpi.2]; rfl, rfl⟩
  · rintro _ ⟨ps, j1, j2, j3, hlen, hsz, hpi, rfl⟩
    simp at hlen
/-! _law_refused -/
theorem shp_strs (x : Str) (h : PyData.strOk x = true) : SeqAt.shaped (py (.lst [.str x])) = true := by
  simp [py, pyL, SeqAt.shaped, PyData.canLay0, PyData.canLayAll0, PyData.depth, PyData.depthAll, h]
theorem neD_names (x : Str) (h : PyData.strOk x = true) : neD (.lst [.str x]) (.lst [.str x]) = .ok (.bl false) := by
  have e : eqB (.lst [.str x]) (.lst [.str x]) = some true := by
    unfold eqB
    simp only [shp_strs x h, Bool.and_self, if_true]
    simp [py, pyL, PyData.eqv, PyData.eqvAll]
  unfold neD
  rw [e]
  rfl
theorem ixA_t3_0 (a b c : D) : ixA (.tup [a, b, c]) (.int 0) = .ok a := .trans rfl rfl
theorem ixA_t3_1 (a b c : D) : ixA (.tup [a, b, c]) (.int 1) = .ok b := .trans rfl rfl
theorem ixA_t3_2 (a b c : D) : ixA (.tup [a, b, c]) (.int 2) = .ok c := .trans rfl rfl
theorem refused_ok {x : Str} {v : D} (h : PyData.strOk x = true) (hn : niD v = true) (hs : szD v < 500000) : d__law_refused [.tup [.str "raised", .lst [.str x], v], .str x, v] = .ok (.bl true, .non) := by
  apply wp_of
  simp -dsimp [d__law_refused, s__law_refused, fnD_ap, ixA_t3_0, ixA_t3_1, ixA_t3_2, neD_names x h]
  refine wp_sel (fun hc => ?_) fun hc => ?_
  · simp -dsimp
    exact wp_ok rfl
  · simp -dsimp [ixA_t3_2, same_refl hn hs]
    exact wp_ok rfl
end My

set_option Elab.async false
set_option linter.all false
set_option maxRecDepth 100000
set_option maxHeartbeats 1000000
namespace My
open PySem PySem.Spec PyProof.Rows L2 DL
/-! the row that is drawn -/
theorem drawn_list {β : Type} {st w2 w3 : D} {N m : Nat} {k : D × List D → Rs β} {tk : Tg k} {P : Rs β → Prop} {tp : Tg P} (hN : N ≤ 200) (hm : 1 ≤ m ∧ m ≤ 8) (h : StOk st) (w4 : D)
    (hk : ∀ st' rs, StOk st' → okRow rs → rs.length = N → Wp (k (.lst (I rs), [st', .int (m : Int), w2, w3, w4])) P) :
    Wp (bnd (lcR [4] (gN 4) yesT (call1 0 d__law_take (consA kN (consA (gV 1) nilA))) (upto 0 N) [st, .int (m : Int), w2, w3, w4]) k tk) P tp := by
  have hul : (upto 0 N).length = N := by unfold upto; rw [List.length_map, List.length_range]
  refine lcR_wp (fun xs acc Γ => ∃ (st' : D) (rs : List Int), StOk st' ∧ acc = I rs ∧ rs.length + xs.length = N ∧ (∀ k, k ∈ rs → 0 ≤ k ∧ k < 8) ∧ Γ = [st', .int (m : Int), w2, w3, .non]) (by omega) ⟨st, [], h, rfl, by simpa using hul, by simp, by simp⟩ ?_ ?_
  · rintro d ds acc _ ⟨st', rs, h', rfl, hlen, hrs, rfl⟩
    obtain ⟨v, st2, e, h2, hv⟩ := take_ok (m := m) h' (by omega)
    unfold lst1
    simp -dsimp [e]
    refine wp_ok ⟨_, _, rfl, st2, rs ++ [(v : Int)], h2, by simp [I_app], by simp at hlen ⊢; omega, ?_, rfl⟩
    intro k hk
    rcases List.mem_append.mp hk with hk | hk
    · exact hrs k hk
    · simp at hk
      omega
  · rintro acc _ ⟨st', rs, h', rfl, hlen, hrs, rfl⟩
    simp at hlen
    simp -dsimp
    exact hk st' rs h' ⟨by omega, hrs⟩ hlen
theorem rep_mem {rs : List Int} {n : Nat} {x : Int} (h : x ∈ (List.replicate n rs).flatten) : x ∈ rs := by
  obtain ⟨l, hl, hx⟩ := List.mem_flatten.mp h
  rw [List.eq_of_mem_replicate hl] at hx
  exact hx
theorem rep_I (rs : List Int) (n : Nat) : (List.replicate n (I rs)).flatten = I (List.replicate n rs).flatten := by
  induction n with
  | zero => rfl
  | succ n ih => rw [List.replicate_succ, List.replicate_succ, List.flatten_cons, List.flatten_cons, ih, I_app]
theorem drawn_row_ok {st : D} (h : StOk st) : ∃ rs st', d__law_drawn_row [st] = .ok (.lst (I rs), st') ∧ StOk st' ∧ okRow rs := by
  have key : Wp (d__law_drawn_row [st]) fun r => ∃ rs st', r = .ok (.lst (I rs), st') ∧ StOk st' ∧ okRow rs := by
    simp -dsimp [d__law_drawn_row, s__law_drawn_row, fnD_ap]
    obtain ⟨x, st1, e1, h1, hx⟩ := pick_ok (xs := [.int 1, .int 2, .int 3, .int 3, .int 4, .int 5, .int 8]) h (by simp) (by simp)
    obtain ⟨m, hxm, hm⟩ : ∃ m : Nat, x = .int (m : Int) ∧ 1 ≤ m ∧ m ≤ 8 := by
      simp at hx
      rcases hx with rfl | rfl | rfl | rfl | rfl | rfl
      · exact ⟨1, rfl, by omega, by omega⟩
      · exact ⟨2, rfl, by omega, by omega⟩
      · exact ⟨3, rfl, by omega, by omega⟩
      · exact ⟨4, rfl, by omega, by omega⟩
      · exact ⟨5, rfl, by omega, by omega⟩
      · exact ⟨8, rfl, by omega, by omega⟩
    subst hxm
    simp -dsimp [e1]
    obtain ⟨v1, s1, t1, g1, b1⟩ := take_ok (m := 9) h1 (by omega)
    obtain ⟨v2, s2, t2, g2, b2⟩ := take_ok (m := 9) g1 (by omega)
    obtain ⟨v3, s3, t3, g3, b3⟩ := take_ok (m := 41) g2 (by omega)
    have t1' : d__law_take [st1, .int 9] = .ok (.int (v1 : Int), s1) := t1
    have t2' : d__law_take [s1, .int 9] = .ok (.int (v2 : Int), s2) := t2
    have t3' : d__law_take [s2, .int 41] = .ok (.int (v3 : Int), s3) := t3
    simp -dsimp [t1', t2', t3']
    obtain ⟨y, s4, e2, g4, hy⟩ := pick_ok (xs := [.int (v1 : Int), .int (v2 : Int), .int (v3 : Int), .int 0, .int 12]) g3 (by simp) (by simp)
    obtain ⟨z, hyz, hz⟩ : ∃ z : Nat, y = .int (z : Int) ∧ z ≤ 41 := by
      simp at hy
      rcases hy with rfl | rfl | rfl | rfl | rfl
      · exact ⟨v1, rfl, by omega⟩
      · exact ⟨v2, rfl, by omega⟩
      · exact ⟨v3, rfl, by omega⟩
      · exact ⟨0, rfl, by omega⟩
      · exact ⟨12, rfl, by omega⟩
    subst hyz
    simp -dsimp [e2]
    obtain ⟨v5, s5, t5, g5, b5⟩ := take_ok (m := 10) g4 (by omega)
    have t5' : d__law_take [s4, .int 10] = .ok (.int (v5 : Int), s5) := t5
    simp -dsimp [t5']
    have rest : ∀ (sz : Nat) (s : D), sz ≤ 200 → StOk s → Wp (bnd
      (seqS (setS 3 (lcD [4] (rng1 .fz (consA (binD addA .fz .fz (kI 1) (call1 0 d__law_take (consA kN (consA (kI 5) nilA)))) nilA)) (gN 4) yesT (call1 0 d__law_take (consA kN (consA (gV 1) nilA))))) (seqS (ifS (tstD (binD eqD .fz .fz (call1 0 d__law_take (consA kN (consA (kI 3) nilA))) (kI 0))) (retS (slcD slA .fz (binD mulA .fz .fz (gV 3) (kI 200)) noO (someO (gV 2)))) nxS) (retS (lcD [4] (rng1 .fz (consA (gV 2) nilA)) (gN 4) yesT (call1 0 d__law_take (consA kN (consA (gV 1) nilA)))))) [s, .int (m : Int), .int (sz : Int), .non, .non])
      (endF true .fz)) fun r => ∃ rs st', r = .ok (.lst (I rs), st') ∧ StOk st' ∧ okRow rs := by
      intro sz s hsz hs
      obtain ⟨v6, s6, t6, g6, b6⟩ := take_ok (m := 5) hs (by omega)
      have t6' : d__law_take [s, .int 5] = .ok (.int (v6 : Int), s6) := t6
      simp -dsimp [t6']
      obtain ⟨n6, hn6⟩ : ∃ n6 : Nat, n6 = 1 + v6 := ⟨_, rfl⟩
      have e6 : (1 : Int) + (v6 : Int) = (n6 : Int) := by omega
      rw [e6, rng1K_nat (show n6 ≤ 16777216 by omega)]
      simp -dsimp
      refine drawn_list (by omega) hm g6 .non fun s7 word g7 hw hwl => ?_
      simp -dsimp
      obtain ⟨v8, s8, t8, g8, b8⟩ := take_ok (m := 3) g7 (by omega)
      have t8' : d__law_take [s7, .int 3] = .ok (.int (v8 : Int), s8) := t8
      simp -dsimp [t8']
      refine wp_sel (fun hc => ?_) fun hc => ?_
      · simp -dsimp
        obtain ⟨big, hbig⟩ : ∃ big, big = (List.replicate 200 word).flatten := ⟨_, rfl⟩
        have hmul : mulA (.lst (I word)) (.int 200) = .ok (.lst (I big)) := by
          rw [hbig, ← rep_I]
          exact mulA_lst (k := 200) (by simp; omega) (by omega)
        rw [hmul]
        simp -dsimp [cut_to, I_take]
        refine wp_ok ⟨_, s8, rfl, g8, ?_, ?_⟩
        · rw [List.length_take]; omega
        · intro k hk
          exact hw.2 k (rep_mem (hbig ▸ List.mem_of_mem_take hk))
      · simp -dsimp [rng1K_nat (show sz ≤ 16777216 by omega)]
        refine drawn_list (by omega) hm g8 .non fun s9 rs g9 hr hrl => ?_
        simp -dsimp
        exact wp_ok ⟨rs, s9, rfl, g9, hr⟩
    refine wp_sel (fun hc => ?_) fun hc => ?_
    · obtain ⟨v6, s6, t6, g6, b6⟩ := take_ok (m := 3) g5 (by omega)
      have t6' : d__law_take [s5, .int 3] = .ok (.int (v6 : Int), s6) := t6
      simp -dsimp [t6']
      have e : (200 : Int) - (v6 : Int) = ((200 - v6 : Nat) : Int) := by omega
      rw [e]
      have := rest (200 - v6) s6 (by omega) g6
      simp -dsimp at this ⊢
      exact this
    · have := rest z s5 (by omega) g5
      simp -dsimp at this ⊢
      exact this
  exact key
end My

set_option Elab.async false
set_option linter.all false
set_option maxRecDepth 100000
set_option maxHeartbeats 1000000
namespace My
open PySem PySem.Spec PyProof.Rows L2 DL
/-! cuts anywhere -/
def rng2K (r : List D) (Γ : List D) : Rs (List D × List D) := match r with
  | [.int i, .int j] => if -(2 ^ 62) ≤ i ∧ i < 2 ^ 62 ∧ -(2 ^ 62) ≤ j ∧ j < 2 ^ 62 then .ok (upto i (j - i).toNat, Γ) else nope
  | _ => nope
@[simp] theorem rng2_ap (m m' : VM) (a : An) (Γ : List D) : rng2 m m' a Γ = bnd (a Γ) fun x => rng2K (rds x.2 x.1 [m, m']) x.2 := .trans rfl rfl
theorem rng19 (Γ : List D) : rng2K [.int 1, .int 9] Γ = .ok (I [1, 2, 3, 4, 5, 6, 7, 8], Γ) := by
  have hc : -(2 ^ 62) ≤ (1 : Int) ∧ (1 : Int) < 2 ^ 62 ∧ -(2 ^ 62) ≤ (9 : Int) ∧ (9 : Int) < 2 ^ 62 := by decide
  unfold rng2K
  dsimp only
  rw [if_pos hc]
  rfl
theorem a_cut_ok {st : D} {rs : List Int} (h : StOk st) (hl : rs.length ≤ 200) : ∃ r st', d__law_a_cut [st, .lst (I rs)] = .ok (r, st') ∧ StOk st' ∧ (r = .tup [] ∨ ∃ p q : Nat, r = .tup [.int (p : Int), .int (q : Int)] ∧ p < q ∧ q < rs.length ∧ q ≤ p + 8) := by
  have key : Wp (d__law_a_cut [st, .lst (I rs)]) fun x => ∃ r st', x = .ok (r, st') ∧ StOk st' ∧ (r = .tup [] ∨ ∃ p q : Nat, r = .tup [.int (p : Int), .int (q : Int)] ∧ p < q ∧ q < rs.length ∧ q ≤ p + 8) := by
    simp -dsimp [d__law_a_cut, s__law_a_cut, fnD_ap]
    obtain ⟨v0, st1, t0, g0, b0⟩ := take_ok (m := rs.length) h (by omega)
    simp -dsimp [t0, rng1K_nat (show rs.length ≤ 16777216 by omega)]
    have hul : ∀ d, d ∈ upto 0 rs.length → ∃ i : Nat, d = .int (i : Int) ∧ i < rs.length := by
      intro d hd
      unfold upto at hd
      obtain ⟨i, hi, rfl⟩ := List.mem_map.mp hd
      exact ⟨i, by simp, List.mem_range.mp hi⟩
    refine forD_wp (fun ys Γ => ∃ (j4 j5 j6 j7 j8 j9 : D), (∀ d, d ∈ ys → ∃ i : Nat, d = .int (i : Int) ∧ i < rs.length) ∧ Γ = [st1, .lst (I rs), .int (rs.length : Int), .int (v0 : Int), j4, j5, j6, j7, j8, j9]) ⟨_, _, _, _, _, _, hul, rfl⟩ ?_ ?_
    · rintro x ys _ ⟨j4, j5, j6, j7, j8, j9, hy, rfl⟩
      obtain ⟨i, rfl, hi⟩ := hy x (List.mem_cons_self ..)
      have hy2 : ∀ d, d ∈ ys → ∃ i : Nat, d = .int (i : Int) ∧ i < rs.length := fun d hd => hy d (List.mem_cons_of_mem _ hd)
      simp -dsimp
      rw [modD_int (by omega)]
      obtain ⟨q, hq, hqm⟩ := mod_nat ((v0 : Int) + (i : Int)) (m := rs.length) (by omega)
      rw [hq]
      simp -dsimp
      have h19 := rng19 [st1, D.lst (I rs), D.int (rs.length : Int), D.int (v0 : Int), D.int (i : Int), D.int (q : Int), j6, j7, j8, j9]
      rw [h19]
      simp -dsimp only [bnd_ok]
      have hIall : ∀ d, d ∈ I [1, 2, 3, 4, 5, 6, 7, 8] → ∃ b : Nat, d = .int (b : Int) ∧ 1 ≤ b ∧ b ≤ 8 := by
        intro d hd
        simp at hd
        rcases hd with rfl | rfl | rfl | rfl | rfl | rfl | rfl | rfl
        · exact ⟨1, rfl, by omega, by omega⟩
        · exact ⟨2, rfl, by omega, by omega⟩
        · exact ⟨3, rfl, by omega, by omega⟩
        · exact ⟨4, rfl, by omega, by omega⟩
        · exact ⟨5, rfl, by omega, by omega⟩
        · exact ⟨6, rfl, by omega, by omega⟩
        · exact ⟨7, rfl, by omega, by omega⟩
        · exact ⟨8, rfl, by omega, by omega⟩
      generalize I [1, 2, 3, 4, 5, 6, 7, 8] = bs at *
      refine forD_wp0 (fun zs Γ => ∃ (j6 j7 j8 j9 : D), (∀ d, d ∈ zs → ∃ b : Nat, d = .int (b : Int) ∧ 1 ≤ b ∧ b ≤ 8) ∧ Γ = [st1, .lst (I rs), .int (rs.length : Int), .int (v0 : Int), .int (i : Int), .int (q : Int), j6, j7, j8, j9]) ⟨_, _, _, _, hIall, rfl⟩ ?_ ?_
      · rintro z zs _ ⟨j6, j7, j8, j9, hz, rfl⟩
        obtain ⟨b, rfl, hb⟩ := hz z (List.mem_cons_self ..)
        have hz2 : ∀ d, d ∈ zs → ∃ b : Nat, d = .int (b : Int) ∧ 1 ≤ b ∧ b ≤ 8 := fun d hd => hz d (List.mem_cons_of_mem _ hd)
        simp -dsimp
        refine wp_sel (fun hc => ?_) fun hc => ?_
        · simp at hc
          obtain ⟨p, hp⟩ : ∃ p : Nat, (q : Int) - (b : Int) = (p : Int) := ⟨((q : Int) - b).toNat, by omega⟩
          have hpq : p < q := by omega
          rw [hp]
          have a1 := ixA_lst_nat (I_get (show p < rs.length by omega))
          have a2 := ixA_lst_nat (I_get hqm)
          obtain ⟨p1, hp1⟩ : ∃ p1 : Nat, p1 = p + 1 := ⟨_, rfl⟩
          have ep : (p : Int) + 1 = (p1 : Int) := by omega
          simp -dsimp [a1, a2, ep, cut_mid, I_take, I_drop]
          refine wp_sel (fun hc2 => ?_) fun hc2 => ?_
          · simp -dsimp [a1, a2, ep, cut_mid, I_take, I_drop]
            refine wp_sel (fun hc3 => ?_) fun hc3 => ?_
            · simp -dsimp [cut_mid, I_take, I_drop, sec_eq]
              refine lcR_wp (fun xs acc Γ => ∃ (ks : List Int) (j : D), xs = I ks ∧ (∃ as : List Int, acc = I as) ∧ Γ = [st1, .lst (I rs), .int (rs.length : Int), .int (v0 : Int), .int (i : Int), .int (q : Int), .int (b : Int), .int (p : Int), j8, j]) (by have := sec_len (rs := rs) (p := p) (q := q) (by omega); simp; omega) ⟨sec rs p q, _, rfl, ⟨[], rfl⟩, rfl⟩ ?_ ?_
              · rintro d ds acc _ ⟨ks, j, hx, ⟨as, rfl⟩, rfl⟩
                cases ks with
                | nil => cases hx
                | cons k ks =>
                  simp only [I_cons, List.cons.injEq] at hx
                  obtain ⟨rfl, rfl⟩ := hx
                  unfold lst1
                  simp -dsimp [cut_mid, I_take, I_drop]
                  refine wp_sel (fun hc4 => ?_) fun hc4 => ?_
                  · simp -dsimp
                    exact wp_ok ⟨_, _, rfl, ks, .non, rfl, ⟨as ++ [k], by simp [I_app]⟩, rfl⟩
                  · simp -dsimp
                    refine wp_sel (fun hc5 => ?_) fun hc5 => ?_
                    · simp -dsimp
                      exact wp_ok ⟨_, _, rfl, ks, .non, rfl, ⟨as ++ [k], by simp [I_app]⟩, rfl⟩
                    · simp -dsimp
                      exact wp_ok ⟨_, _, rfl, ks, .non, rfl, ⟨as, by simp⟩, rfl⟩
              · rintro acc _ ⟨ks, j, hx, ⟨as, rfl⟩, rfl⟩
                simp -dsimp
                refine wp_sel (fun hc4 => ?_) fun hc4 => ?_
                · simp -dsimp
                  refine wp_ok (.inr (.inl ⟨_, _, rfl, .inr (.inl ⟨_, _, rfl, ?_⟩)⟩))
                  simp -dsimp
                  exact wp_ok ⟨_, _, rfl, g0, .inr ⟨p, q, rfl, hpq, hqm, by omega⟩⟩
                · simp -dsimp
                  exact wp_ok (.inl ⟨_, rfl, _, _, _, _, hz2, rfl⟩)
            · simp -dsimp
              exact wp_ok (.inl ⟨_, rfl, _, _, _, _, hz2, rfl⟩)
          · simp -dsimp
            exact wp_ok (.inl ⟨_, rfl, _, _, _, _, hz2, rfl⟩)
        · simp -dsimp
          exact wp_ok (.inl ⟨_, rfl, _, _, _, _, hz2, rfl⟩)
      · rintro _ ⟨j6, j7, j8, j9, hz, rfl⟩
        exact .inl ⟨_, rfl, _, _, _, _, _, _, hy2, rfl⟩
    · rintro _ ⟨j4, j5, j6, j7, j8, j9, hy, rfl⟩
      simp -dsimp
      exact wp_ok ⟨_, _, rfl, g0, .inl rfl⟩
  exact key
theorem okRow_sec {rs : List Int} {p q : Nat} (h : okRow rs) : okRow (sec rs p q) := by
  refine ⟨?_, fun k hk => h.2 k (sec_mem hk)⟩
  unfold sec
  rw [List.length_take, List.length_drop]
  have := h.1
  omega
theorem cut_any_ok {st : D} {rs : List Int} {n : Nat} (h : StOk st) (hr : okRow rs) (hn : n ≤ 200) : ∃ left es st', d__law_cut_any [st, .lst (I rs), .int (n : Int)] = .ok (.tup [.lst (I left), logD es], st') ∧ StOk st' ∧ okRow left ∧ okLog es ∧ ∀ e, e ∈ es → e.2.length ≤ 8 := by
  have key : Wp (d__law_cut_any [st, .lst (I rs), .int (n : Int)]) fun x => ∃ left es st', x = .ok (.tup [.lst (I left), logD es], st') ∧ StOk st' ∧ okRow left ∧ okLog es ∧ ∀ e, e ∈ es → e.2.length ≤ 8 := by
    simp -dsimp [d__law_cut_any, s__law_cut_any, fnD_ap, rng1K_nat (show n ≤ 16777216 by omega)]
    have hul : (upto 0 n).length = n := by unfold upto; rw [List.length_map, List.length_range]
    refine forD_wp (fun ys Γ => ∃ (st' : D) (left : List Int) (es : List Ent) (j5 j6 : D), StOk st' ∧ okRow left ∧ (∀ e, e ∈ es → okEnt e ∧ e.2.length ≤ 8) ∧ es.length + ys.length ≤ 200 ∧ Γ = [st', .lst (I rs), .int (n : Int), .lst (I left), .lst (es.map entL), j5, j6]) ⟨st, rs, [], _, _, h, hr, by simp, by simp [hul]; omega, rfl⟩ ?_ ?_
    · rintro x ys _ ⟨st', left, es, j5, j6, h', hlr, hes, hlen, rfl⟩
      simp at hlen
      obtain ⟨r, st2, e2, g2, hcase⟩ := a_cut_ok h' hlr.1
      simp -dsimp [e2]
      rcases hcase with rfl | ⟨p, q, rfl, hpq, hq, hq8⟩
      · have := eqD_tup [] []
        simp only [I_nil] at this
        rw [this]
        simp -dsimp
        refine wp_ok (.inr (.inl ⟨_, _, rfl, ?_⟩))
        simp -dsimp
        exact wp_ok ⟨left, es, st2, rfl, g2, hlr, ⟨by omega, fun e he => (hes e he).1⟩, fun e he => (hes e he).2⟩
      · have := eqD_tup [(p : Int), (q : Int)] []
        simp only [I_nil, I_cons] at this
        rw [this]
        simp -dsimp [ixA_pair0, ixA_pair1, cut_mid, cut_to, cut_from, I_take, I_drop]
        rw [appM_ok (by simp; omega)]
        simp -dsimp [ixA_pair0, ixA_pair1, cut_mid, cut_to, cut_from, I_take, I_drop]
        rw [addA_lst (by have := hlr.1; simp; omega)]
        simp -dsimp
        refine wp_ok (.inl ⟨_, rfl, st2, cutO left p q, es ++ [(p, sec left p q)], x, .tup [.int p, .int q], g2, okRow_cut (by omega) hlr, ?_, by simp; omega, ?_⟩)
        · intro e he
          rcases List.mem_append.mp he with he | he
          · exact hes e he
          · simp at he
            subst he
            have := sec_len (rs := left) (p := p) (q := q) (by omega)
            refine ⟨⟨?_, okRow_sec hlr⟩, ?_⟩
            · simp only
              omega
            · simp only
              omega
        · simp [cutO, I_app, entL, sec]
    · rintro _ ⟨st', left, es, j5, j6, h', hlr, hes, hlen, rfl⟩
      simp at hlen
      simp -dsimp
      exact wp_ok ⟨left, es, st', rfl, h', hlr, ⟨by omega, fun e he => (hes e he).1⟩, fun e he => (hes e he).2⟩
  exact key
end My

set_option Elab.async false
set_option linter.all false
set_option maxRecDepth 100000
set_option maxHeartbeats 1000000
namespace My
open PySem PySem.Spec PyProof.Rows L2 DL
/-! answers -/
theorem ans_none {x : Str} (h1 : x ≠ "BadText") (h2 : x ≠ "TooMany") (h3 : x ≠ "Gains") (h : x ∈ xsE) : ansE x none = .ok (.tup [.str "raised", .lst [.str x], .non]) := by
  unfold ansE
  rw [if_neg h1, if_neg h2, if_neg h3, if_pos h]
theorem ans_paper : ansE "BadPaper" none = .ok (.tup [.str "raised", .lst [.str "BadPaper"], .non]) := ans_none (by decide +kernel) (by decide +kernel) (by decide +kernel) (by decide +kernel)
theorem ans_row : ansE "BadRow" none = .ok (.tup [.str "raised", .lst [.str "BadRow"], .non]) := ans_none (by decide +kernel) (by decide +kernel) (by decide +kernel) (by decide +kernel)
theorem ans_outside : ansE "Outside" none = .ok (.tup [.str "raised", .lst [.str "Outside"], .non]) := ans_none (by decide +kernel) (by decide +kernel) (by decide +kernel) (by decide +kernel)
theorem ans_many : ansE "TooMany" (some ("limit", .int 200)) = .ok (.tup [.str "raised", .lst [.str "TooMany"], .int 200]) := by
  unfold ansE
  rw [if_neg (by decide +kernel), if_pos rfl]
  dsimp only
  rw [if_pos rfl]
/-! _law_judged -/
theorem szD_mk (w : Nat) (xs : List D) : szD (mk w xs) = 1 + szL xs := by
  unfold mk
  split <;> simp [szD]
theorem niD_mk (w : Nat) (xs : List D) : niD (mk w xs) = niL xs := by
  unfold mk
  split <;> simp [niD]
theorem szL_I (rs : List Int) : szL (I rs) = rs.length := by
  induction rs with
  | nil => rfl
  | cons r rs ih => simp [szL, szD, ih]; omega
theorem niL_I (rs : List Int) : niL (I rs) = true := by
  induction rs with
  | nil => rfl
  | cons r rs ih => simp [niL, niD, ih]
theorem szL_log (w : Nat) : ∀ es : List Ent, (∀ e, e ∈ es → okEnt e) → szL (es.map (entM w)) ≤ 203 * es.length
  | [], _ => by simp [szL]
  | e :: es, h => by
    have h1 := (h e (List.mem_cons_self ..)).2.1
    have h2 := szL_log w es fun e' h' => h e' (List.mem_cons_of_mem _ h')
    simp only [List.map_cons, szL, entM, szD_mk, szL_I, szD, List.length_cons]
    omega
theorem niL_log (w : Nat) : ∀ es : List Ent, niL (es.map (entM w)) = true
  | [] => rfl
  | e :: es => by
    simp [niL, entM, niD_mk, niD, niL_I, niL_log w es]
theorem growL_len : ∀ (es : List Ent) (rs r : List Int), growL es rs = some r → r.length ≤ rs.length + tot es
  | [], rs, r, h => by simp [growL] at h; subst h; simp
  | e :: es, rs, r, h => by
    rw [growL] at h
    split at h
    · cases h
    · have := growL_len es _ _ h
      rw [tot_cons]
      simp at this
      omega
theorem ent_M {w : Nat} {e : Ent} (h : okEnt e) : entOf (entM w e) = some e := entOf_of (items_mk ..) (items_mk ..) h
theorem logM_log {w : Nat} {es : List Ent} (h : okLog es) : logOf (logM w es) = some es := logOf_map (entM (w / 2)) (items_mk ..) h fun e he => ent_M (h.2 e he)
theorem logM_ty (w : Nat) (es : List Ent) : tyN 3 (logM w es) = true := tyN_log (entM (w / 2)) (fun e => mk (w / 2 / 2) (I e.2)) (items_mk ..) (fun e => items_mk ..) fun e => items_mk ..
theorem ix3_0 (a b c : D) : ixA (.lst [a, b, c]) (.int 0) = .ok a := .trans rfl rfl
theorem ix3_1 (a b c : D) : ixA (.lst [a, b, c]) (.int 1) = .ok b := .trans rfl rfl
theorem ix3_2 (a b c : D) : ixA (.lst [a, b, c]) (.int 2) = .ok c := .trans rfl rfl
theorem judged_ok {st : D} {rs left : List Int} {es : List Ent} (h : StOk st) (hr : okRow rs) (hl : okRow left) (he : okLog es) : ∃ st', d__law_judged [st, .lst (I rs), logD es, .lst (I left)] = .ok (.bl true, st') ∧ StOk st' := by
  have key : Wp (d__law_judged [st, .lst (I rs), logD es, .lst (I left)]) fun x => ∃ st', x = .ok (.bl true, st') ∧ StOk st' := by
    simp -dsimp [d__law_judged, s__law_judged, fnD_ap]
    obtain ⟨x, st1, e1, g1, hx⟩ := pick_ok (xs := [.int 0, .int 63, .int 1, .int 2, .int 5, .int 10]) h (by simp) (by simp)
    obtain ⟨w, hxw, hw⟩ : ∃ w : Nat, x = .int (w : Int) ∧ w ≤ 63 := by
      simp at hx
      rcases hx with rfl | rfl | rfl | rfl | rfl | rfl
      · exact ⟨0, rfl, by omega⟩
      · exact ⟨63, rfl, by omega⟩
      · exact ⟨1, rfl, by omega⟩
      · exact ⟨2, rfl, by omega⟩
      · exact ⟨5, rfl, by omega⟩
      · exact ⟨10, rfl, by omega⟩
    subst hxw
    simp -dsimp [e1]
    rw [mulA_k (by omega)]
    have hsh := shaped_all w hr hl he
    obtain ⟨W, hW⟩ : ∃ W : Nat, W = 2 * w := ⟨_, rfl⟩
    rw [← hW] at hsh
    have eW : (2 : Int) * (w : Int) = (W : Int) := by omega
    rw [eW]
    obtain ⟨b1, b2⟩ := rowB_of (v := mk w (I rs)) (items_mk ..) hr
    obtain ⟨b3, b4⟩ := rowB_of (v := mk w (I left)) (items_mk ..) hl
    have hj := judge_ok (tyN_ty2 (tyN_row (n := 0) (items_mk w (I rs)))) b1 (logM_ty w es) (logM_log he) (tyN_ty2 (tyN_row (n := 0) (items_mk w (I left)))) b3
    rw [b2, b4] at hj
    have hlw := law_word_ok (rv := .lst (I rs)) (lv := logD es) (fv := .lst (I left)) rfl rfl rfl hr.1 fun e h' => ⟨(he.2 e h').1, (he.2 e h').2.1⟩
    have hsm : ∀ s : Str, d__law_same [.str s, .str s] = .ok (.bl true, .non) := fun s => same_refl rfl (by simp [szD])
    simp -dsimp [hsh, ix3_0, ix3_1, ix3_2, hj, hlw, hsm]
    have hg := grow_ok (tyN_ty2 (tyN_row (n := 0) (items_mk w (I left)))) b3 (logM_ty w es) (logM_log he)
    rw [b4] at hg
    have hlg := law_grown_ok (left := left) he.1
    have hlg' : d__law_grown [.lst (I left), logD es] = .ok (growD left es, .non) := hlg
    have hnG : niD (.lst [mk w (I rs), logM w es, mk w (I left)]) = true := by
      simp [niD, niL, niD_mk, niL_I, logM, niL_log]
    have hsG : szD (.lst [mk w (I rs), logM w es, mk w (I left)]) < 500000 := by
      have := szL_log (w / 2) es he.2
      have h1 := hr.1
      have h2 := hl.1
      have h3 := he.1
      simp only [szD, szL, szD_mk, szL_I, logM]
      omega
    have hfin := same_refl hnG hsG
    by_cases hbig : 200 < left.length + tot es
    · have q1 : growR left es = .error (.exc "TooMany" (some ("limit", .int 200))) := by unfold growR; rw [if_pos hbig]
      have q2 : growD left es = .tup [.str "TooMany", .int 200] := by unfold growD; rw [if_pos hbig]
      have q3 : decide (("TooMany" : Str) = "told") = false := by decide +kernel
      have q4 := refused_ok (x := "TooMany") (v := .int 200) (by decide +kernel) rfl (by simp [szD])
      rw [q1] at hg
      rw [q2] at hlg'
      simp -dsimp [hg, hlg', ansK_er ans_many, ixA_pair0, ixA_pair1, q3, q4, hsh, hfin]
      exact wp_ok ⟨_, rfl, g1⟩
    · have q1 : growR left es = match growL es.reverse left with
        | none => .error (.exc "Outside" none)
        | some r => .ok (.tup (I r), .non) := by exact if_neg hbig
      have q2 : growD left es = match growL es.reverse left with
        | none => .tup [.str "Outside", .non]
        | some r => .tup [.str "told", .tup (I r)] := by exact if_neg hbig
      rw [q1] at hg
      rw [q2] at hlg'
      cases hgr : growL es.reverse left with
      | none =>
        have q3 : decide (("Outside" : Str) = "told") = false := by decide +kernel
        have q4 := refused_ok (x := "Outside") (v := .non) (by decide +kernel) rfl (by simp [szD])
        rw [hgr] at hg hlg'
        simp -dsimp [hg, hlg', ansK_er ans_outside, ixA_pair0, ixA_pair1, q3, q4, hsh, hfin]
        exact wp_ok ⟨_, rfl, g1⟩
      | some r =>
        have hlen := growL_len _ _ _ hgr
        rw [tot_rev] at hlen
        have q4 := same_refl (x := .tup [.str "told", .tup (I r)]) (by simp [niD, niL, niL_I]) (by simp [szD, szL, szL_I]; omega)
        rw [hgr] at hg hlg'
        have q3 : decide (("told" : Str) = "told") = true := by decide +kernel
        simp -dsimp [hg, hlg', ixA_pair0, ixA_pair1, q3, q4, hsh, hfin]
        exact wp_ok ⟨_, rfl, g1⟩
  exact key
end My

set_option Elab.async false
set_option linter.all false
set_option maxRecDepth 100000
set_option maxHeartbeats 2000000
namespace My
open PySem PySem.Spec PyProof.Rows L2 DL
/-! _law_bent_logs -/
def Lg (es : List Ent) : List D := es.map entL
theorem logD_Lg (es : List Ent) : logD es = .lst (Lg es) := rfl
@[simp] theorem Lg_nil : Lg [] = [] := rfl
@[simp] theorem Lg_cons (e : Ent) (es : List Ent) : Lg (e :: es) = entL e :: Lg es := rfl
@[simp] theorem Lg_len (es : List Ent) : (Lg es).length = es.length := List.length_map ..
theorem Lg_app (a b : List Ent) : Lg (a ++ b) = Lg a ++ Lg b := List.map_append ..
theorem M_take (es : List Ent) (k : Nat) : (Lg es).take k = Lg (es.take k) := (List.map_take ..).symm
theorem M_drop (es : List Ent) (k : Nat) : (Lg es).drop k = Lg (es.drop k) := (List.map_drop ..).symm
theorem M_rev (es : List Ent) : (Lg es).reverse = Lg es.reverse := (List.map_reverse ..).symm
theorem rep_one (k : Int) (n : Nat) (h : n ≤ 1000) : mulA (.lst [.int k]) (.int (n : Int)) = .ok (.lst (I (List.replicate n k))) := by
  rw [mulA_lst (by simp; omega) (by omega)]
  have e : (List.replicate n [D.int k]).flatten = I (List.replicate n k) := by
    induction n with
    | zero => rfl
    | succ n ih => rw [List.replicate_succ, List.flatten_cons, ih (by omega), List.replicate_succ, I_cons]; rfl
  rw [e]
theorem rep_200 (k : Int) : mulA (.lst [.int k]) (.int 200) = .ok (.lst (I (List.replicate 200 k))) := rep_one k 200 (by omega)
theorem entL_tup (p : Nat) (s : List Int) : D.tup [.int (p : Int), .lst (I s)] = entL (p, s) := rfl
theorem entL_tup0 (s : List Int) : D.tup [.int 0, .lst (I s)] = entL (0, s) := rfl
theorem I_one (k : Int) : [D.int k] = I [k] := rfl
def okEs (l : List Ent) : Prop := l.length ≤ 202 ∧ ∀ e, e ∈ l → okEnt e
theorem okEs_app {a b : List Ent} (h : (a ++ b).length ≤ 202) (ha : ∀ e, e ∈ a → okEnt e) (hb : ∀ e, e ∈ b → okEnt e) : okEs (a ++ b) :=
  ⟨h, fun e he => by
    rcases List.mem_append.mp he with h | h
    · exact ha e h
    · exact hb e h⟩
theorem okEnt_rep {p n : Nat} {k : Int} (hn : 1 ≤ n ∧ n ≤ 200) (hk : 0 ≤ k ∧ k < 8) : okEnt (p, List.replicate n k) := by
  refine ⟨by simp; omega, by simp; omega, ?_⟩
  intro x hx
  rw [List.eq_of_mem_replicate hx]
  exact hk
theorem okEnt_one {p : Nat} {k : Int} (hk : 0 ≤ k ∧ k < 8) : okEnt (p, [k]) := by
  refine ⟨by simp, by simp, ?_⟩
  intro x hx
  simp at hx
  rw [hx]
  exact hk
theorem bent_filter {β : Type} {ls : List (List Ent)} {k : D × List D → Rs β} {tk : Tg k} {P : Rs β → Prop} {tp : Tg P} (h : ∀ l, l ∈ ls → okEs l) (hn : ls.length ≤ 100) (w0 w1 w2 w3 w4 w5 w6 w8 w9 w10 w11 : D)
    (hk : Wp (k (.lst ((ls.filter fun l => decide (l.length ≤ 200)).map logD), [w0, w1, w2, w3, w4, w5, w6, .lst (ls.map logD), w8, w9, w10, w11])) P) :
    Wp (bnd (lcR [11] (gN 11) (tstD (binD leD .fz .fz (callD lenB [.fz] (consA (gV 11) nilA)) (kI 200))) (gV 11) (ls.map logD) [w0, w1, w2, w3, w4, w5, w6, .lst (ls.map logD), w8, w9, w10, w11]) k tk) P tp := by
  refine lcR_wp (fun xs acc Γ => ∃ (fs dn : List (List Ent)), xs = fs.map logD ∧ dn ++ fs = ls ∧ acc = (dn.filter fun l => decide (l.length ≤ 200)).map logD ∧ Γ = [w0, w1, w2, w3, w4, w5, w6, .lst (ls.map logD), w8, w9, w10, .non]) (by simp; omega) ⟨ls, [], rfl, rfl, rfl, by simp⟩ ?_ ?_
  · rintro d ds acc _ ⟨fs, dn, hx, hd, rfl, rfl⟩
    cases fs with
    | nil => cases hx
    | cons l fs =>
      simp only [List.map_cons, List.cons.injEq] at hx
      obtain ⟨rfl, rfl⟩ := hx
      unfold lst1
      have hll : lenB [logD l] = .ok (.int (l.length : Int)) := by unfold logD; simp
      simp -dsimp [hll]
      refine wp_sel (fun hc => ?_) fun hc => ?_
      · simp at hc
        simp -dsimp
        refine wp_ok ⟨_, _, rfl, fs, dn ++ [l], rfl, by simpa using hd, ?_, rfl⟩
        rw [List.filter_append]
        have : l.length ≤ 200 := by omega
        simp [this]
      · simp at hc
        simp -dsimp
        refine wp_ok ⟨_, _, rfl, fs, dn ++ [l], rfl, by simpa using hd, ?_, rfl⟩
        rw [List.filter_append]
        have : ¬ l.length ≤ 200 := by omega
        simp [this]
  · rintro acc _ ⟨fs, dn, hx, hd, rfl, rfl⟩
    have : fs = [] := by
      cases fs with
      | nil => rfl
      | cons k ks => cases hx
    subst this
    simp at hd
    subst hd
    simp -dsimp
    exact hk
theorem bent_spare {β : Type} {st : D} {es : List Ent} {left : List Int} {ls : List (List Ent)} {sp kd : Int} {far at' : Nat} {k : Out → Rs β} {tk : Tg k} {P : Rs β → Prop} {tp : Tg P} (he : okLog es) (hsp : sp ≤ 200) (hkd : 0 ≤ kd ∧ kd < 8) (hls : ∀ l, l ∈ ls → okEs l) (hn : ls.length ≤ 20) (w8 w9 w10 w11 : D)
    (hk : ∀ ls' : List (List Ent), (∀ l, l ∈ ls → l ∈ ls') → (∀ l, l ∈ ls' → okEs l) → ls'.length ≤ 30 → Wp (k (.nx [st, logD es, .lst (I left), .int sp, .int (far : Int), .int kd, .int (at' : Int), .lst (ls'.map logD), w8, w9, w10, w11])) P) :
    Wp (bnd (ifS (tstD (binD gtD .fz .fz (gV 3) (kI 0))) (seqS (dropS (mutD 7 appM (consA (binD addA .fz .fr (gV 1) (lstD (consA (tupD (consA (gV 4) (consA (binD mulA .fr .fz (lstD (consA (gV 5) nilA)) (gV 3)) nilA))) nilA))) nilA))) (seqS (dropS (mutD 7 appM (consA (binD addA .fr .fz (lstD (consA (tupD (consA (kI 0) (consA (binD mulA .fr .fz (lstD (consA (gV 5) nilA)) (gV 3)) nilA))) nilA)) (gV 1)) nilA))) (dropS (mutD 7 appM (consA (binD addA .fz .fz (binD addA .fz .fr (slcD slA .fz (gV 1) noO (someO (gV 6))) (lstD (consA (tupD (consA (gV 4) (consA (binD mulA .fr .fz (lstD (consA (gV 5) nilA)) (gV 3)) nilA))) (consA (tupD (consA (kI 0) (consA (lstD (consA (binD subD .fz .fz (kI 7) (gV 5)) nilA)) nilA))) nilA)))) (slcD slA .fz (gV 1) (someO (gV 6)) noO)) nilA))))) nxS [st, logD es, .lst (I left), .int sp, .int (far : Int), .int kd, .int (at' : Int), .lst (ls.map logD), w8, w9, w10, w11]) k tk) P tp := by
  simp -dsimp
  have hel := he.1
  refine wp_sel (fun hc => ?_) fun hc => ?_
  · simp at hc
    obtain ⟨n, rfl⟩ : ∃ n : Nat, sp = (n : Int) := ⟨sp.toNat, by omega⟩
    have hn1 : 1 ≤ n ∧ n ≤ 200 := by omega
    simp -dsimp [rep_one kd n (by omega), entL_tup, entL_tup0, logD_Lg]
    rw [addA_lst (by simp; omega)]
    simp -dsimp
    rw [appM_ok (by simp; omega)]
    simp -dsimp [rep_one kd n (by omega), entL_tup, entL_tup0]
    rw [addA_lst (by simp; omega)]
    simp -dsimp
    rw [appM_ok (by simp; omega)]
    simp -dsimp [rep_one kd n (by omega), entL_tup, entL_tup0, cut_to, cut_from, M_take, M_drop]
    rw [addA_lst (by simp; omega)]
    simp -dsimp [cut_to, cut_from, M_take, M_drop]
    rw [addA_lst (by simp; omega)]
    simp -dsimp
    rw [appM_ok (by simp; omega)]
    simp -dsimp
    have := hk (ls ++ [es ++ [(far, List.replicate n kd)], [(0, List.replicate n kd)] ++ es, es.take at' ++ ([(far, List.replicate n kd), (0, [7 - kd])] ++ es.drop at')]) (fun l h => List.mem_append_left _ h) ?_ (by simp; omega)
    · simp [logD_Lg, Lg_app] at this ⊢
      exact this
    · intro l hl
      rcases List.mem_append.mp hl with h | h
      · exact hls l h
      · have e1 := okEnt_rep (p := far) hn1 hkd
        have e2 := okEnt_rep (p := 0) hn1 hkd
        have e3 : okEnt (0, [7 - kd]) := okEnt_one (by omega)
        simp only [List.mem_cons, List.not_mem_nil, or_false] at h
        rcases h with rfl | rfl | rfl
        · exact okEs_app (by simp; omega) he.2 (by simpa using e1)
        · exact okEs_app (by simp; omega) (by simpa using e2) he.2
        · refine okEs_app (by simp; omega) (fun e h => he.2 e (List.mem_of_mem_take h)) ?_
          intro e h
          rcases List.mem_append.mp h with h | h
          · simp at h
            rcases h with rfl | rfl
            · exact e1
            · exact e3
          · exact he.2 e (List.mem_of_mem_drop h)
  · simp -dsimp
    exact hk ls (fun l h => h) hls (by omega)
end My

set_option Elab.async false
set_option linter.all false
set_option maxRecDepth 100000
set_option maxHeartbeats 2000000
namespace My
open PySem PySem.Spec PyProof.Rows L2 DL
theorem cut_m1 {α : Type} (xs : List α) : cutL xs none (some (-1)) = xs.take (xs.length - 1) := by
  unfold cutL
  have e : HT.sIx xs.length xs.length (some (-1)) = xs.length - 1 := by
    show (if (-1 : Int) < 0 then ((-1 : Int) + (xs.length : Int)).toNat else min (-1 : Int).toNat xs.length) = _
    rw [if_pos (by decide)]
    omega
  rw [e, HT.sIx_none]
  simp
theorem bent_log {β : Type} {st : D} {es : List Ent} {left : List Int} {ls : List (List Ent)} {sp kd : Int} {far at' : Nat} {k : Out → Rs β} {tk : Tg k} {P : Rs β → Prop} {tp : Tg P} (hst : StOk st) (he : okLog es) (he8 : ∀ e, e ∈ es → e.2.length ≤ 8) (hkd : 0 ≤ kd ∧ kd < 8) (hls : ∀ l, l ∈ ls → okEs l) (hn : ls.length ≤ 30) (hw : es.length = 0 → ∃ l, l ∈ ls ∧ l.length ≤ 200) (w8 w9 w10 w11 : D)
    (hk : ∀ (st' at'' : D) (ls' : List (List Ent)) (w8 w9 w10 : D), StOk st' → (∀ l, l ∈ ls' → okEs l) → ls'.length ≤ 50 → (∃ l, l ∈ ls' ∧ l.length ≤ 200) → Wp (k (.nx [st', logD es, .lst (I left), .int sp, .int (far : Int), .int kd, at'', .lst (ls'.map logD), w8, w9, w10, w11])) P) :
    Wp (bnd ((ifS (tstD (binD gtD .fz .fz (callD lenB [.fz] (consA (gV 1) nilA)) (kI 0))) (seqS (setS 6 (call1 0 d__law_take (consA kN (consA (callD lenB [.fz] (consA (gV 1) nilA)) nilA)))) (seqS (asgS (unpG 2 (consG (gN 8) (consG (gN 9) gsNil))) (binD ixA .fz .fz (gV 1) (gV 6))) (seqS (setS 7 (binD catD (.bw 7) .fr kN (lcD [10] (seqI (lstD (consA (tupD (consA (binD addA .fz .fz (gV 8) (kI 1)) (consA (gV 9) nilA))) (consA (tupD (consA (gV 8) (consA (binD addA .fz .fr (gV 9) (lstD (consA (gV 5) nilA))) nilA))) nilA)))) (gN 10) yesT (binD addA .fz .fz (binD addA .fz .fr (slcD slA .fz (gV 1) noO (someO (gV 6))) (lstD (consA (gV 10) nilA))) (slcD slA .fz (gV 1) (someO (binD addA .fz .fz (gV 6) (kI 1))) noO))))) (seqS (setS 7 (binD catD (.bw 7) .fr kN (lstD (consA (binD addA .fz .fz (slcD slA .fz (gV 1) noO (someO (gV 6))) (slcD slA .fz (gV 1) (someO (binD addA .fz .fz (gV 6) (kI 1))) noO)) (consA (binD addA .fz .fz (binD addA .fz .fr (slcD slA .fz (gV 1) noO (someO (gV 6))) (lstD (consA (binD ixA .fz .fz (gV 1) (gV 6)) (consA (binD ixA .fz .fz (gV 1) (gV 6)) nilA)))) (slcD slA .fz (gV 1) (someO (binD addA .fz .fz (gV 6) (kI 1))) noO)) (consA (unD revL .fz (gV 1)) nilA)))))) (dropS (mutD 7 appM (consA (binD addA .fz .fz (binD addA .fz .fr (slcD slA .fz (gV 1) noO (someO (gV 6))) (lstD (consA (tupD (consA (gV 8) (consA (binD addA .fz .fr (slcD slA .fz (gV 9) noO (someO (unD negD .fz (kI 1)))) (lstD (consA (gV 5) nilA))) nilA))) nilA))) (slcD slA .fz (gV 1) (someO (binD addA .fz .fz (gV 6) (kI 1))) noO)) nilA))))))) nxS) [st, logD es, .lst (I left), .int sp, .int (far : Int), .int kd, .int (at' : Int), .lst (ls.map logD), w8, w9, w10, w11]) k tk) P tp := by
  have hel := he.1
  simp -dsimp [logD_Lg]
  refine wp_sel (fun hc => ?_) fun hc => ?_
  · simp at hc
    obtain ⟨a, st2, t0, g0, b0⟩ := take_ok (m := es.length) hst (by omega)
    have ha : a < es.length := by
      cases es with
      | nil => simp at hc
      | cons x xs => simp at b0 ⊢; omega
    obtain ⟨⟨p, s⟩, hps⟩ : ∃ e, es[a]? = some e := ⟨_, List.getElem?_eq_getElem ha⟩
    have hmem := List.mem_of_getElem? hps
    obtain ⟨hs1, hs2⟩ := he.2 _ hmem
    have hs8 := he8 _ hmem
    simp only at hs1 hs2 hs8
    have hix : ixA (.lst (Lg es)) (.int (a : Int)) = .ok (.tup [.int (p : Int), .lst (I s)]) := by
      refine ixA_lst_nat ?_
      unfold Lg
      rw [List.getElem?_map, hps]
      rfl
    obtain ⟨a1, ha1⟩ : ∃ a1 : Nat, a1 = a + 1 := ⟨_, rfl⟩
    have ea : (a : Int) + 1 = (a1 : Int) := by omega
    obtain ⟨p1, hp1⟩ : ∃ p1 : Nat, p1 = p + 1 := ⟨_, rfl⟩
    have ep : (p : Int) + 1 = (p1 : Int) := by omega
    simp -dsimp [t0, hix]
    rw [addA_lst (by simp; omega)]
    have eI : I s ++ [D.int kd] = I (s ++ [kd]) := by rw [I_app]; rfl
    simp -dsimp [eI, ep, entL_tup]
    have g1 : okEnt (p1, s) := ⟨hs1, hs2⟩
    have g2 : okEnt (p, s ++ [kd]) := ⟨by simp, by simp; omega, fun x hx => by
      rcases List.mem_append.mp hx with h | h
      · exact hs2.2 x h
      · simp at h; subst h; exact hkd⟩
    have hta : ∀ e, e ∈ es.take a → okEnt e := fun e h => he.2 e (List.mem_of_mem_take h)
    have hdr : ∀ e, e ∈ es.drop a1 → okEnt e := fun e h => he.2 e (List.mem_of_mem_drop h)
    have hlen : (es.take a).length + (es.drop a1).length + 1 = es.length := by simp; omega
    refine lcR_wp (fun xs acc Γ => ∃ (fs dn : List Ent), xs = fs.map entL ∧ dn ++ fs = [(p1, s), (p, s ++ [kd])] ∧ acc = dn.map (fun e => logD (es.take a ++ ([e] ++ es.drop a1))) ∧ Γ = [st2, .lst (Lg es), .lst (I left), .int sp, .int (far : Int), .int kd, .int (a : Int), .lst (ls.map logD), .int (p : Int), .lst (I s), .non, w11]) (by simp) ⟨[(p1, s), (p, s ++ [kd])], [], rfl, rfl, rfl, by simp⟩ ?_ ?_
    · rintro d ds acc _ ⟨fs, dn, hx, hd, rfl, rfl⟩
      cases fs with
      | nil => cases hx
      | cons e fs =>
        simp only [List.map_cons, List.cons.injEq] at hx
        obtain ⟨rfl, rfl⟩ := hx
        unfold lst1
        simp -dsimp [cut_to, cut_from, M_take, M_drop, ea]
        rw [addA_lst (by simp; omega)]
        simp -dsimp [cut_to, cut_from, M_take, M_drop, ea]
        rw [addA_lst (by simp; omega)]
        simp -dsimp
        refine wp_ok ⟨_, _, rfl, fs, dn ++ [e], rfl, by simpa using hd, ?_, rfl⟩
        simp [logD_Lg, Lg_app]
    · rintro acc _ ⟨fs, dn, hx, hd, rfl, rfl⟩
      have : fs = [] := by
        cases fs with
        | nil => rfl
        | cons k ks => cases hx
      subst this
      simp at hd
      subst hd
      simp -dsimp
      rw [catD_lst (by simp; omega)]
      simp -dsimp [cut_to, cut_from, M_take, M_drop, ea]
      rw [addA_lst (by simp; omega)]
      simp -dsimp [cut_to, cut_from, M_take, M_drop, ea, hix, entL_tup]
      rw [addA_lst (by simp; omega)]
      simp -dsimp [cut_to, cut_from, M_take, M_drop, ea]
      rw [addA_lst (by simp; omega)]
      simp -dsimp [M_rev]
      rw [catD_lst (by simp; omega)]
      simp -dsimp [cut_to, cut_from, M_take, M_drop, ea, cut_m1, I_take]
      rw [addA_lst (by simp; omega)]
      have eI2 : I (s.take (s.length - 1)) ++ [D.int kd] = I (s.take (s.length - 1) ++ [kd]) := by rw [I_app]; rfl
      simp -dsimp [eI2, entL_tup]
      rw [addA_lst (by simp; omega)]
      simp -dsimp [cut_to, cut_from, M_take, M_drop, ea]
      rw [addA_lst (by simp; omega)]
      simp -dsimp
      rw [appM_ok (by simp; omega)]
      simp -dsimp
      have g3 : okEnt (p, s.take (s.length - 1) ++ [kd]) := ⟨by simp, by simp; omega, fun x hx => by
        rcases List.mem_append.mp hx with h | h
        · exact hs2.2 x (List.mem_of_mem_take h)
        · simp at h; subst h; exact hkd⟩
      have g4 : okEnt (p, s) := ⟨hs1, hs2⟩
      have := hk st2 (.int a) (ls ++ [es.take a ++ ([(p1, s)] ++ es.drop a1), es.take a ++ ([(p, s ++ [kd])] ++ es.drop a1), es.take a ++ es.drop a1, es.take a ++ ([(p, s), (p, s)] ++ es.drop a1), es.reverse, es.take a ++ ([(p, s.take (s.length - 1) ++ [kd])] ++ es.drop a1)]) (.int p) (.lst (I s)) w10 g0 ?_ (by simp; omega) ⟨es.take a ++ es.drop a1, by simp, by rw [List.length_append]; omega⟩
      · simp [logD_Lg, Lg_app] at this ⊢
        exact this
      · intro l hl
        have one : ∀ e, okEnt e → ∀ e', e' ∈ [e] ++ es.drop a1 → okEnt e' := by
          intro e hok e' h
          rcases List.mem_append.mp h with h | h
          · simp at h; subst h; exact hok
          · exact hdr e' h
        rcases List.mem_append.mp hl with h | h
        · exact hls l h
        · simp only [List.mem_cons, List.not_mem_nil, or_false] at h
          rcases h with rfl | rfl | rfl | rfl | rfl | rfl
          · exact okEs_app (by rw [List.length_append, List.length_append]; simp only [List.length_singleton]; omega) hta (one _ g1)
          · exact okEs_app (by rw [List.length_append, List.length_append]; simp only [List.length_singleton]; omega) hta (one _ g2)
          · exact okEs_app (by rw [List.length_append]; omega) hta hdr
          · refine okEs_app (by rw [List.length_append, List.length_append]; simp only [List.length_cons, List.length_nil]; omega) hta ?_
            intro e h
            rcases List.mem_append.mp h with h | h
            · simp at h; subst h; exact g4
            · exact hdr e h
          · exact ⟨by simp; omega, fun e h => he.2 e (by simpa using h)⟩
          · exact okEs_app (by rw [List.length_append, List.length_append]; simp only [List.length_singleton]; omega) hta (one _ g3)
  · simp at hc
    simp -dsimp
    have := hk st (.int at') ls w8 w9 w10 hst hls (by omega) (hw (by rw [hc]; rfl))
    simpa [logD_Lg] using this
theorem bent_logs_ok {st : D} {es : List Ent} {left : List Int} (hst : StOk st) (he : okLog es) (he8 : ∀ e, e ∈ es → e.2.length ≤ 8) (hl : okRow left) : ∃ (ls : List (List Ent)) (st' : D), d__law_bent_logs [st, logD es, .lst (I left)] = .ok (.lst (ls.map logD), st') ∧ StOk st' ∧ (∀ l, l ∈ ls → okLog l) ∧ 0 < ls.length ∧ ls.length ≤ 50 := by
  have key : Wp (d__law_bent_logs [st, logD es, .lst (I left)]) fun x => ∃ (ls : List (List Ent)) (st' : D), x = .ok (.lst (ls.map logD), st') ∧ StOk st' ∧ (∀ l, l ∈ ls → okLog l) ∧ 0 < ls.length ∧ ls.length ≤ 50 := by
    have hel := he.1
    simp -dsimp [d__law_bent_logs, s__law_bent_logs, fnD_ap]
    have hit : ∀ Γ, itK (logD es) Γ = .ok (Lg es, Γ) := fun Γ => by rw [logD_Lg]; simp
    simp -dsimp [hit]
    refine lcR_wp (fun xs acc Γ => ∃ (fs dn : List Ent), xs = Lg fs ∧ dn ++ fs = es ∧ acc = I (dn.map fun e => (e.2.length : Int)) ∧ Γ = [st, logD es, .lst (I left), .non, .non, .non, .non, .non, .non, .non, .non, .non]) (by simp; omega) ⟨es, [], rfl, rfl, rfl, by simp⟩ ?_ ?_
    · rintro d ds acc _ ⟨fs, dn, hx, hk, rfl, rfl⟩
      cases fs with
      | nil => cases hx
      | cons e fs =>
        simp only [Lg_cons, List.cons.injEq] at hx
        obtain ⟨rfl, rfl⟩ := hx
        unfold lst1
        simp -dsimp [entL, ixA_pair1]
        exact wp_ok ⟨_, _, rfl, fs, dn ++ [e], rfl, by simpa using hk, by simp [I_app], rfl⟩
    · rintro acc _ ⟨fs, dn, hx, hk, rfl, rfl⟩
      have : fs = [] := by
        cases fs with
        | nil => rfl
        | cons k ks => cases hx
      subst this
      simp at hk
      subst hk
      have hsum : sumB [.lst (I (dn.map fun e => (e.2.length : Int)))] = .ok (.int (tot dn : Int)) := by
        unfold sumB
        simp only [I_ints, sum_lens]
      obtain ⟨N, hN⟩ : ∃ N : Nat, (10 : Int) ^ (40 : Int).toNat = (N : Int) := ⟨10 ^ 40, by decide +kernel⟩
      have p1 : powD (.int 10) (.int 40) = .ok (.int (N : Int)) := pow_ok (by decide +kernel) hN
      simp -dsimp [hsum, p1]
      obtain ⟨x, s1, e1, g1, hx1⟩ := pick_ok (xs := [.int 0, .int (left.length : Int), .int 200, .int (N : Int)]) hst (by simp) (by simp)
      obtain ⟨far, rfl⟩ : ∃ far : Nat, x = .int (far : Int) := by
        simp at hx1
        rcases hx1 with rfl | rfl | rfl | rfl
        · exact ⟨0, rfl⟩
        · exact ⟨left.length, rfl⟩
        · exact ⟨200, rfl⟩
        · exact ⟨N, rfl⟩
      obtain ⟨kd, s2, t2, g2, b2⟩ := take_ok (m := 8) g1 (by omega)
      have t2' : d__law_take [s1, .int 8] = .ok (.int (kd : Int), s2) := t2
      obtain ⟨n1, hn1⟩ : ∃ n1 : Nat, n1 = dn.length + 1 := ⟨_, rfl⟩
      have en : (dn.length : Int) + 1 = (n1 : Int) := by omega
      obtain ⟨at', s3, t3, g3, b3⟩ := take_ok (m := n1) g2 (by omega)
      have hkd : 0 ≤ (kd : Int) ∧ (kd : Int) < 8 := by omega
      have hll : lenB [logD dn] = .ok (.int (dn.length : Int)) := by rw [logD_Lg]; simp
      obtain ⟨R, hR⟩ : ∃ R, R = List.replicate 200 (kd : Int) := ⟨_, rfl⟩
      have hrep : mulA (.lst [.int (kd : Int)]) (.int 200) = .ok (.lst (I R)) := by rw [hR]; exact rep_200 _
      simp -dsimp [e1, t2', hll, en, t3, hrep, entL_tup, entL_tup0, logD_Lg, cut_to, cut_from, M_take, M_drop]
      rw [addA_lst (by simp; omega)]
      simp -dsimp [cut_to, cut_from, M_take, M_drop]
      rw [addA_lst (by simp; omega)]
      simp -dsimp [hrep, entL_tup]
      rw [addA_lst (by simp; omega)]
      simp -dsimp [cut_to, cut_from, M_take, M_drop]
      rw [addA_lst (by simp; omega)]
      simp -dsimp [cut_to, cut_from, M_take, M_drop]
      rw [addA_lst (by simp; omega)]
      simp -dsimp
      rw [appM_ok (by simp)]
      simp -dsimp only [bnd_ok, dropS_ap, selO_nx, seqS_ap, st7, bnd_bnd]
      have gR : okEnt (far, R) := by rw [hR]; exact okEnt_rep (by omega) hkd
      have gk : okEnt (far, [(kd : Int)]) := okEnt_one hkd
      have gk0 : okEnt (0, [(kd : Int)]) := okEnt_one hkd
      have hta : ∀ e, e ∈ dn.take at' → okEnt e := fun e h => he.2 e (List.mem_of_mem_take h)
      have hdr : ∀ e, e ∈ dn.drop at' → okEnt e := fun e h => he.2 e (List.mem_of_mem_drop h)
      have hlen : (dn.take at').length + (dn.drop at').length = dn.length := by simp; omega
      obtain ⟨ls, hls⟩ : ∃ ls : List (List Ent), ls = [dn.take at' ++ ([(far, R)] ++ dn.drop at'), dn ++ [(far, R), (0, [(kd : Int)])], dn.take at' ++ ([(far, [(kd : Int)])] ++ dn.drop at')] := ⟨_, rfl⟩
      have hlsD : ls.map logD = [D.lst (Lg (dn.take at') ++ entL (far, R) :: Lg (dn.drop at')), D.lst (Lg dn ++ [entL (far, R), D.tup [.int 0, .lst [.int (kd : Int)]]]), D.lst (Lg (dn.take at') ++ D.tup [.int (far : Int), .lst [.int (kd : Int)]] :: Lg (dn.drop at'))] := by
        rw [hls]
        simp [logD_Lg, Lg_app, entL]
      have hlsok : ∀ l, l ∈ ls → okEs l := by
        intro l hl
        rw [hls] at hl
        have one : ∀ e, okEnt e → ∀ e', e' ∈ [e] ++ dn.drop at' → okEnt e' := by
          intro e hok e' h
          rcases List.mem_append.mp h with h | h
          · simp at h; subst h; exact hok
          · exact hdr e' h
        simp only [List.mem_cons, List.not_mem_nil, or_false] at hl
        rcases hl with rfl | rfl | rfl
        · exact okEs_app (by rw [List.length_append, List.length_append]; simp only [List.length_singleton]; omega) hta (one _ gR)
        · refine okEs_app (by rw [List.length_append]; simp only [List.length_cons, List.length_nil]; omega) he.2 ?_
          intro e h
          simp at h
          rcases h with rfl | rfl
          · exact gR
          · exact gk0
        · exact okEs_app (by rw [List.length_append, List.length_append]; simp only [List.length_singleton]; omega) hta (one _ gk)
      simp -dsimp only [List.cons_append, List.nil_append, ← hlsD]
      refine bent_spare (es := dn) (ls := ls) (sp := 200 - (left.length : Int) - (tot dn : Int)) he (by omega) hkd hlsok (by rw [hls]; simp) _ _ _ _ ?_
      intro ls' hsub hok' hlen'
      simp -dsimp only [selO_nx, seqS_ap, bnd_bnd]
      refine bent_log g3 he he8 hkd hok' hlen' (fun h0 => ⟨_, hsub (dn.take at' ++ ([(far, [(kd : Int)])] ++ dn.drop at')) (by rw [hls]; simp), by rw [List.length_append, List.length_append]; simp only [List.length_singleton]; omega⟩) _ _ _ _ ?_
      intro st' at'' ls2 w8 w9 w10 gst hok2 hlen2 hex
      simp -dsimp only [selO_nx, seqS_ap, bnd_bnd, retS_ap, lcD_ap, seqI_ap, gV_ap, gd7, bnd_ok, itK_lst]
      refine bent_filter hok2 (by omega) _ _ _ _ _ _ _ _ _ _ _ ?_
      simp -dsimp
      refine wp_ok ⟨_, st', rfl, gst, ?_, ?_, ?_⟩
      · intro l hl
        have hl2 := List.mem_filter.mp hl
        exact ⟨by simpa using hl2.2, (hok2 l hl2.1).2⟩
      · obtain ⟨l, hl1, hl2⟩ := hex
        exact List.length_pos_of_mem (List.mem_filter.mpr ⟨hl1, by simpa using hl2⟩)
      · exact Nat.le_trans (List.length_filter_le ..) hlen2
  exact key
end My

set_option Elab.async false
set_option linter.all false
set_option maxRecDepth 100000
set_option maxHeartbeats 2000000
namespace My
open PySem PySem.Spec PyProof.Rows L2 DL
/-! _law_refusals -/
def BadE (x : D) : Prop := entOf x = none ∧ tyN 2 x = true
def BadL (x : D) : Prop := logOf x = none ∧ tyN 3 x = true
def BadR (x : D) : Prop := rowB x = false ∧ ty2 x = true
theorem entsOf_bad : ∀ (a b : List D) (x : D), entOf x = none → entsOf (a ++ x :: b) = none
  | [], b, x, h => by simp [entsOf, h]
  | y :: a, b, x, h => by
    rw [List.cons_append, entsOf, entsOf_bad a b x h]
    cases entOf y <;> rfl
theorem badL_mid {a b : List Ent} {x : D} (h : BadE x) : BadL (.lst (Lg a ++ x :: Lg b)) := by
  constructor
  · unfold logOf
    simp only [itemsD]
    split
    · exact entsOf_bad _ _ _ h.1
    · rfl
  · refine tyN_sq rfl fun d hd => ?_
    have hL : ∀ (es : List Ent) d, d ∈ Lg es → tyN 2 d = true := by
      intro es d hd
      unfold Lg at hd
      obtain ⟨e, _, rfl⟩ := List.mem_map.mp hd
      exact tyN_sq (ds := [.int (e.1 : Int), .lst (I e.2)]) rfl fun d hd => by
        simp at hd
        rcases hd with rfl | rfl
        · rfl
        · exact tyN_row rfl
    rcases List.mem_append.mp hd with h1 | h1
    · exact hL _ _ h1
    · rcases List.mem_cons.mp h1 with rfl | h1
      · exact h.2
      · exact hL _ _ h1
theorem rep_tup (t : D) (n : Nat) : (List.replicate n [t]).flatten = List.replicate n t := by
  induction n with
  | zero => rfl
  | succ n ih => rw [List.replicate_succ, List.flatten_cons, ih, List.replicate_succ]; rfl
theorem badE_long {R : List Int} (h : R.length = 201) : BadE (.tup [.int 0, .lst (I R)]) := by
  constructor
  · have : rowB (.lst (I R)) = false := by
      unfold rowB
      simp [itemsD, h]
    simp [entOf, itemsD, this]
  · exact tyN_sq rfl fun d hd => by
      simp at hd
      rcases hd with rfl | rfl
      · rfl
      · exact tyN_row rfl
theorem badR_long {R : List Int} (h : R.length = 201) : BadR (.lst (I R)) := by
  constructor
  · unfold rowB
    simp [itemsD, h]
  · exact ty2_I' R
where
  ty2_I' (R : List Int) : ty2 (.lst (I R)) = true := tyN_ty2 (tyN_row rfl)
def ansA (x : Str) : D := .tup [.str "raised", .lst [.str x], .non]
theorem ix6_0 (a b c d e f : D) : ixA (.lst [a, b, c, d, e, f]) (.int 0) = .ok a := .trans rfl rfl
theorem refusals_ok {st : D} {rs left : List Int} {es : List Ent} (h : StOk st) (hr : okRow rs) (hl : okRow left) (he : okLog es) : ∃ st', d__law_refusals [st, .lst (I rs), logD es, .lst (I left)] = .ok (.bl true, st') ∧ StOk st' := by
  have key : Wp (d__law_refusals [st, .lst (I rs), logD es, .lst (I left)]) fun x => ∃ st', x = .ok (.bl true, st') ∧ StOk st' := by
    have hel := he.1
    obtain ⟨R, hR⟩ : ∃ R, R = List.replicate 201 (0 : Int) := ⟨_, rfl⟩
    have hRl : R.length = 201 := by rw [hR]; simp
    have hrep : mulA (.lst [.int 0]) (.int 201) = .ok (.lst (I R)) := by rw [hR]; exact rep_one 0 201 (by omega)
    obtain ⟨Z, hZ⟩ : ∃ Z, Z = List.replicate 200 (0 : Int) := ⟨_, rfl⟩
    have hZr : okRow Z := by
      rw [hZ]
      refine ⟨by simp, fun k hk => ?_⟩
      rw [List.eq_of_mem_replicate hk]
      decide
    have hrepZ : mulA (.lst [.int 0]) (.int 200) = .ok (.lst (I Z)) := by rw [hZ]; exact rep_200 0
    obtain ⟨T, hT⟩ : ∃ T, T = List.replicate 201 (D.tup [.int 0, .lst [.int 0]]) := ⟨_, rfl⟩
    have hTl : T.length = 201 := by rw [hT]; simp
    have hrepT : mulA (.lst [.tup [.int 0, .lst [.int 0]]]) (.int 201) = .ok (.lst T) := by
      rw [hT, ← rep_tup]
      exact mulA_lst (k := 201) (by simp) (by omega)
    have hbT : BadL (.lst T) := by
      constructor
      · unfold logOf
        simp [itemsD, hTl]
      · refine tyN_sq rfl fun d hd => ?_
        rw [hT] at hd
        rw [List.eq_of_mem_replicate hd]
        rfl
    simp -dsimp [d__law_refusals, s__law_refusals, fnD_ap, hrep]
    rw [addA_lst (by simp)]
    simp -dsimp
    obtain ⟨bad, s1, e1, g1, m1⟩ := pick_ok (xs := [D.tup [D.int (-1), D.lst [D.int 0]], D.tup [D.int 0, D.lst []], D.tup [D.int 0, D.lst (I R)], D.tup [D.int 0, D.lst [D.int 8]], D.tup [D.int 0, D.lst [D.bl true]], D.tup [D.bl true, D.lst [D.int 0]], D.tup [D.non, D.lst [D.int 0]], D.tup [D.int 0, D.lst [D.int 0], D.int 0], D.tup [D.int 0], D.tup [D.lst [D.int 0], D.int 0], D.tup [D.int 0, D.int 0], D.non, D.int 0, D.dic [], D.str "a"]) h (by simp) (by simp)
    have hbad : BadE bad := by
      simp at m1
      rcases m1 with rfl | rfl | rfl | rfl | rfl | rfl | rfl | rfl | rfl | rfl | rfl | rfl | rfl | rfl | rfl
      · exact ⟨rfl, rfl⟩
      · exact ⟨rfl, rfl⟩
      · exact badE_long hRl
      · exact ⟨rfl, rfl⟩
      · exact ⟨rfl, rfl⟩
      · exact ⟨rfl, rfl⟩
      · exact ⟨rfl, rfl⟩
      · exact ⟨rfl, rfl⟩
      · exact ⟨rfl, rfl⟩
      · exact ⟨rfl, rfl⟩
      · exact ⟨rfl, rfl⟩
      · exact ⟨rfl, rfl⟩
      · exact ⟨rfl, rfl⟩
      · exact ⟨rfl, rfl⟩
      · exact ⟨rfl, rfl⟩
    obtain ⟨n1, hn1⟩ : ∃ n1 : Nat, n1 = es.length + 1 := ⟨_, rfl⟩
    have en : (es.length : Int) + 1 = (n1 : Int) := by omega
    obtain ⟨at', s2, t2, g2, b2⟩ := take_ok (m := n1) g1 (by omega)
    have hll : lenB [logD es] = .ok (.int (es.length : Int)) := by rw [logD_Lg]; simp
    simp -dsimp [e1, hll, en, t2]
    simp -dsimp [logD_Lg, cut_to, cut_from, M_take, M_drop]
    rw [addA_lst (by simp; omega)]
    simp -dsimp [cut_to, cut_from, M_take, M_drop]
    rw [addA_lst (by simp; omega)]
    simp -dsimp [hrepT]
    have hL0 := badL_mid (a := es.take at') (b := es.drop at') hbad
    generalize D.lst (Lg (es.take at') ++ bad :: Lg (es.drop at')) = L0 at *
    simp -dsimp [ix6_0]
    obtain ⟨w1, s3, e3, g3, m3⟩ := pick_ok (xs := [L0, .lst T, .non, .int 0, .str "0", .dic []]) g2 (by simp) (by simp)
    have hw1 : BadL w1 := by
      simp at m3
      rcases m3 with rfl | rfl | rfl | rfl | rfl | rfl
      · exact hL0
      · exact hbT
      · exact ⟨rfl, rfl⟩
      · exact ⟨rfl, rfl⟩
      · exact ⟨rfl, rfl⟩
      · exact ⟨rfl, rfl⟩
    simp -dsimp [e3]
    obtain ⟨wr, s4, e4, g4, m4⟩ := pick_ok (xs := [L0, L0, w1]) g3 (by simp) (by simp)
    have hwr : BadL wr := by
      simp at m4
      rcases m4 with rfl | rfl
      · exact hL0
      · exact hw1
    simp -dsimp [e4, hrep]
    obtain ⟨wo, s5, e5, g5, m5⟩ := pick_ok (xs := [D.lst [D.int 8], D.lst (I R), D.lst [D.int (-1)], D.lst [D.bl true], D.non, D.str "0", D.int 0, D.lst [D.lst [D.int 0]], D.dic []]) g4 (by simp) (by simp)
    have hwo : BadR wo := by
      simp at m5
      rcases m5 with rfl | rfl | rfl | rfl | rfl | rfl | rfl | rfl | rfl
      · exact ⟨rfl, rfl⟩
      · exact badR_long hRl
      · exact ⟨rfl, rfl⟩
      · exact ⟨rfl, rfl⟩
      · exact ⟨rfl, rfl⟩
      · exact ⟨rfl, rfl⟩
      · exact ⟨rfl, rfl⟩
      · exact ⟨rfl, rfl⟩
      · exact ⟨rfl, rfl⟩
    simp -dsimp [e5]
    have t1 : ∀ rs : List Int, ty2 (.lst (I rs)) = true := fun rs => tyN_ty2 (tyN_row rfl)
    have t2 : ∀ rs : List Int, okRow rs → rowB (.lst (I rs)) = true := fun rs h => (rowB_of rfl h).1
    have hlog : logOf (.lst (Lg es)) = some es := logOf_map entL rfl he fun e h => entOf_of rfl rfl (he.2 e h)
    have hty : tyN 3 (.lst (Lg es)) = true := tyN_log entL (fun e => .lst (I e.2)) rfl (fun e => rfl) fun e => rfl
    have j1 : d_judge_log [.lst (I rs), wr, .lst (I left)] = .error (.exc "BadPaper" none) := judge_log_bad (t1 rs) (t2 rs hr) hwr.2 hwr.1
    have j2 : d_judge_log [.lst (I rs), .lst (Lg es), wo] = .error (.exc "BadPaper" none) := judge_left (t1 rs) (t2 rs hr) hty hlog hwo.2 hwo.1
    have j3 : d_judge_log [wo, wr, wo] = .error (.exc "BadRow" none) := judge_row hwo.2 hwo.1
    have j4 : d_grow [.lst (I Z), wr] = .error (.exc "BadPaper" none) := grow_bad (t1 Z) (t2 Z hZr) hwr.2 hwr.1
    have j5 : d_grow [wo, wr] = .error (.exc "BadRow" none) := grow_row hwo.2 hwo.1
    simp -dsimp [j1, ansK_er ans_paper]
    simp -dsimp [j2, ansK_er ans_paper]
    rw [appM_ok (by simp)]
    simp -dsimp [j3, ansK_er ans_row]
    rw [appM_ok (by simp)]
    simp -dsimp [hrepZ, j4, ansK_er ans_paper]
    rw [appM_ok (by simp)]
    simp -dsimp [j5, ansK_er ans_row]
    rw [appM_ok (by simp)]
    simp -dsimp [cut_down_empty, ansK_er ans_row]
    rw [appM_ok (by simp)]
    simp -dsimp
    refine forD_wp (fun ys Γ => ∃ (w4 w5 w6 w7 w8 w9 w10 w11 w12 : D), (∀ y, y ∈ ys → ∃ x : Str, y = .tup [ansA x, .str x] ∧ d__law_refused [ansA x, .str x, .non] = .ok (.bl true, .non)) ∧ Γ = [s5, .lst (I rs), .lst (Lg es), .lst (I left), w4, w5, w6, w7, w8, w9, w10, w11, w12]) ⟨_, _, _, _, _, _, _, _, _, ?_, rfl⟩ ?_ ?_
    · have q1 := refused_ok (x := "BadPaper") (v := .non) (by decide +kernel) rfl (by simp [szD])
      have q2 := refused_ok (x := "BadRow") (v := .non) (by decide +kernel) rfl (by simp [szD])
      intro y hy
      simp at hy
      rcases hy with rfl | rfl | rfl | rfl | rfl | rfl <;> first | exact ⟨"BadPaper", rfl, q1⟩ | exact ⟨"BadRow", rfl, q2⟩
    · rintro y ys _ ⟨w4, w5, w6, w7, w8, w9, w10, w11, w12, hy, rfl⟩
      obtain ⟨x, rfl, hx⟩ := hy _ (List.mem_cons_self ..)
      simp -dsimp [hx]
      exact wp_ok (.inl ⟨_, rfl, _, _, _, _, _, _, _, _, _, fun y h => hy y (List.mem_cons_of_mem _ h), rfl⟩)
    · rintro _ ⟨w4, w5, w6, w7, w8, w9, w10, w11, w12, hy, rfl⟩
      simp -dsimp
      exact wp_ok ⟨_, rfl, g5⟩
  exact key
end My

set_option Elab.async false
set_option linter.all false
set_option maxRecDepth 100000
set_option maxHeartbeats 2000000
namespace My
open PySem PySem.Spec PyProof.Rows L2 DL
/-! law -/
theorem piL_I (rs : List Int) : piL (I rs) = true := by
  induction rs with
  | nil => rfl
  | cons r rs ih => simp [piL, piD, ih]
theorem piL_ents (es : List Ent) : piL (es.map entD) = true := by
  induction es with
  | nil => rfl
  | cons e es ih => simp [piL, piD, entD, piL_I, ih]
theorem szL_ents : ∀ es : List Ent, szL (es.map entD) = 3 * es.length + tot es
  | [] => rfl
  | e :: es => by
    simp only [List.map_cons, szL, szL_ents es, entD, szD, szL_I, List.length_cons, tot_cons]
    omega
theorem ent_D {e : Ent} (h : okEnt e) : entOf (entD e) = some e := entOf_of rfl rfl h
theorem bl_same (b : Bool) : d__law_same [.bl b, .bl b] = .ok (.bl true, .non) := same_refl rfl (by simp [szD])
theorem run_ok : ∀ (es : List Ent) (rs ps : List Int), runF es rs = some ps → okRow rs → okRow ps
  | [], rs, ps, h, hr => by
    simp [runF] at h
    subst h
    exact hr
  | e :: es, rs, ps, h, hr => by
    rw [runF] at h
    split at h
    · exact run_ok es _ ps h (okRow_cut (by omega) hr)
    · cases h
theorem plain (ns : List Int) (hl : ns.length ≤ 63) (hb : ∀ z ∈ ns, Builtin.Int.intBits z ≤ 1048576) : ∃ z, d_law [.scr (ns.map D.int)] = .ok (.bl true, z) := by
  have key : Wp (d_law [.scr (ns.map D.int)]) fun r => ∃ z, r = .ok (.bl true, z) := by
    obtain ⟨st, e0, g0⟩ := store_ok ns hl
    simp -dsimp [d_law, s_law, fnD_ap, e0]
    obtain ⟨rs, st1, e1, g1, hr⟩ := drawn_row_ok g0
    simp -dsimp [e1]
    obtain ⟨v, st2, t2, g2, b2⟩ := take_ok (m := 9) g1 (by omega)
    have t2' : d__law_take [st1, .int 9] = .ok (.int (v : Int), st2) := t2
    simp -dsimp [t2']
    obtain ⟨x, st3, e3, g3, m3⟩ := pick_ok (xs := [.int 200, .int 200, .int (v : Int), .int 0]) g2 (by simp) (by simp)
    obtain ⟨n, rfl, hn⟩ : ∃ n : Nat, x = .int (n : Int) ∧ n ≤ 200 := by
      simp at m3
      rcases m3 with rfl | rfl | rfl
      · exact ⟨200, rfl, by omega⟩
      · exact ⟨v, rfl, by omega⟩
      · exact ⟨0, rfl, by omega⟩
    obtain ⟨left, es, st4, e4, g4, hlr, hes, hes8⟩ := cut_any_ok g3 hr hn
    obtain ⟨st5, e5, g5⟩ := judged_ok g4 hr hlr hes
    have t1 : ∀ rs : List Int, ty2 (.lst (I rs)) = true := fun rs => tyN_ty2 (tyN_row rfl)
    have t2 : ∀ rs : List Int, ty2 (.tup (I rs)) = true := fun rs => tyN_ty2 (tyN_row rfl)
    have u1 : ∀ rs : List Int, okRow rs → rowB (.lst (I rs)) = true ∧ rowInts (.lst (I rs)) = rs := fun rs h => rowB_of rfl h
    have u2 : ∀ rs : List Int, okRow rs → rowB (.tup (I rs)) = true ∧ rowInts (.tup (I rs)) = rs := fun rs h => rowB_of rfl h
    have s1 := is_short_t (t1 left) (u1 left hlr).1
    rw [(u1 left hlr).2] at s1
    have s2 := law_is_short_ok (v := .lst (I left)) (rs := left) rfl hlr.1
    obtain ⟨ls, st6, e6, g6, hls, hlp, hln⟩ := bent_logs_ok g5 hes hes8 hlr
    simp -dsimp [e3, e4, e5, s1, s2, bl_same, e6]
    have rest : ∀ (st : D) (ls : List (List Ent)) (w5 : D), StOk st → (∀ l, l ∈ ls → okLog l) → ∀ (w6 w7 w8 w9 w10 : D), Wp (bnd (forD (fbody (gN 6) (ifS (notT (tstD (call1 1 d__law_judged (consA kN (consA (gV 2) (consA (gV 6) (consA (gV 3) nilA))))))) (retS (kB false)) nxS)) (ls.map logD) [.scr (ns.map D.int), st, .lst (I rs), .lst (I left), logD es, w5, w6, w7, w8, w9, w10]) fun o => bnd (selO o (seqS (ifS (orT (notT (tstD (call1 1 d__law_judged (consA kN (consA (gV 2) (consA (gV 4) (consA (slcD slA .fz (gV 3) (someO (kI 1)) noO) nilA))))))) (notT (tstD (call1 1 d__law_judged (consA kN (consA (gV 2) (consA (gV 4) (consA (binD addA .fz .fr (slcD slA .fz (gV 3) noO (someO (kI 199))) (lstD (consA (kI 0) nilA))) nilA)))))))) (retS (kB false)) nxS) (seqS (ifS (notT (tstD (call1 1 d__law_refusals (consA kN (consA (gV 2) (consA (gV 4) (consA (gV 3) nilA))))))) (retS (kB false)) nxS) (seqS (ifS (tstD (binD eqD .fz .fz (callD lenB [.fz] (consA (gV 2) nilA)) (kI 0))) (retS (kB true)) nxS) (seqS (setS 7 (call0 d_cut_down (consA (callD tupleB [.fz] (consA (gV 2) nilA)) nilA))) (seqS (ifS (orT (notT (tstD (call0 d__law_plain (consA (gV 7) nilA)))) (orT (notT (tstD (unD (isiD "tuple") .fz (gV 7)))) (orT (tstD (binD neD .fz .fz (callD lenB [.fz] (consA (gV 7) nilA)) (kI 2))) (notT (tstD (unD (isiD "tuple") .fz (binD ixA .fz .fz (gV 7) (kI 1)))))))) (retS (kB false)) nxS) (seqS (setS 8 (lcD [10] (seqI (binD ixA .fz .fz (gV 7) (kI 1))) (gN 10) yesT (tupD (consA (binD ixA .fz .fz (gV 10) (kI 0)) (consA (callD listB [.fz] (consA (binD ixA .fz .fz (gV 10) (kI 1)) nilA)) nilA))))) (seqS (ifS (orT (tstD (binD neD .fz .fz (call0 d__law_word (consA (gV 2) (consA (gV 8) (consA (binD ixA .fz .fz (gV 7) (kI 0)) nilA)))) (kS "good"))) (notT (tstD (call0 d__law_same (consA (call0 d_grow (consA (binD ixA .fz .fz (gV 7) (kI 0)) (consA (binD ixA .fz .fz (gV 7) (kI 1)) nilA))) (consA (callD tupleB [.fz] (consA (gV 2) nilA)) nilA)))))) (retS (kB false)) nxS) (retS (call0 d__law_same (consA (call0 d_judge_log (consA (callD listB [.fz] (consA (gV 2) nilA)) (consA (binD ixA .fz .fz (gV 7) (kI 1)) (consA (binD ixA .fz .fz (gV 7) (kI 0)) nilA)))) (consA (kS "good") nilA)))))))))))) (endF false .fz)) fun r => ∃ z, r = .ok (.bl true, z) := by
      intro st ls w5 hst hls w6 w7 w8 w9 w10
      refine forD_wp (fun ys Γ => ∃ (fs : List (List Ent)) (st' w6 : D), ys = fs.map logD ∧ (∀ l, l ∈ fs → okLog l) ∧ StOk st' ∧ Γ = [.scr (ns.map D.int), st', .lst (I rs), .lst (I left), logD es, w5, w6, w7, w8, w9, w10]) ⟨ls, st, w6, rfl, hls, hst, rfl⟩ ?_ ?_
      · rintro y ys _ ⟨fs, st', w6, hx, hfs, h', rfl⟩
        cases fs with
        | nil => cases hx
        | cons l fs =>
          simp only [List.map_cons, List.cons.injEq] at hx
          obtain ⟨rfl, rfl⟩ := hx
          obtain ⟨st'', ej, gj⟩ := judged_ok h' hr hlr (hfs l (List.mem_cons_self ..))
          simp -dsimp [ej]
          exact wp_ok (.inl ⟨_, rfl, fs, st'', _, rfl, fun l h => hfs l (List.mem_cons_of_mem _ h), gj, rfl⟩)
      · rintro _ ⟨fs, st', w6, hx, hfs, h', rfl⟩
        have c1 : cutL (I left) (some 1) none = I (left.drop 1) := by rw [← I_drop]; exact cut_from (I left) 1
        have c2 : cutL (I left) none (some 199) = I (left.take 199) := by rw [← I_take]; exact cut_to (I left) 199
        have h1 : okRow (left.drop 1) := ⟨by rw [List.length_drop]; have := hlr.1; omega, fun k h => hlr.2 k (List.mem_of_mem_drop h)⟩
        have h2 : okRow (left.take 199 ++ [0]) := ⟨by rw [List.length_append, List.length_take]; simp only [List.length_singleton]; omega, fun k h => by
          rcases List.mem_append.mp h with h | h
          · exact hlr.2 k (List.mem_of_mem_take h)
          · simp at h; subst h; decide⟩
        obtain ⟨LT, hLT⟩ : ∃ LT, LT = left.drop 1 := ⟨_, rfl⟩
        rw [← hLT] at c1 h1
        obtain ⟨q1, f1, k1⟩ := judged_ok h' hr h1 hes
        obtain ⟨q2, f2, k2⟩ := judged_ok k1 hr h2 hes
        obtain ⟨q3, f3, k3⟩ := refusals_ok k2 hr hlr hes
        have eI : I (left.take 199) ++ [D.int 0] = I (left.take 199 ++ [0]) := by rw [I_app]; rfl
        simp -dsimp [c1, f1, c2]
        rw [addA_lst (by simp; omega), eI]
        simp -dsimp [f2, f3]
        refine wp_sel (fun hc => ?_) fun hc => ?_
        · simp -dsimp
          exact wp_ok ⟨_, rfl⟩
        · simp at hc
          have hne : rs ≠ [] := hc
          obtain ⟨ps, fs, d1, r1, r2, r3⟩ := cut_down_ok (t2 rs) (u2 rs hr).1 (by rw [(u2 rs hr).2]; exact hne)
          rw [(u2 rs hr).2] at r1
          obtain ⟨a1, a2, a3, a4⟩ := run_grow fs rs ps r1
          have hps : okRow ps := run_ok _ _ _ r1 hr
          have hfs : okLog fs := by
            have := hr.1
            refine ⟨by omega, fun e he => ?_⟩
            obtain ⟨b1, b2, b3⟩ := a3 e he
            exact ⟨b1, by omega, fun k hk => hr.2 k (b3 k hk)⟩
          have hjud : judF fs rs ps = "good" := by
            simp [judF, r1, short_none r2 r3]
          have p1 := plain_ok (x := .tup [.tup (I ps), .tup (fs.map entD)]) (by simp [piD, piL, piL_I, piL_ents]) (by
            have := hr.1
            simp only [szD, szL, szL_I, szL_ents]
            omega)
          simp -dsimp [d1, p1, ixA_pair0, ixA_pair1]
          refine lcR_wp (fun xs acc Γ => ∃ (gs dn : List Ent) (j : D), xs = gs.map entD ∧ dn ++ gs = fs ∧ acc = dn.map entL ∧ Γ = [.scr (ns.map D.int), q3, .lst (I rs), .lst (I left), logD es, w5, w6, .tup [.tup (I ps), .tup (fs.map entD)], w8, w9, j]) (by have := hfs.1; simp; omega) ⟨fs, [], _, rfl, rfl, rfl, rfl⟩ ?_ ?_
          · rintro d ds acc _ ⟨gs, dn, j, hx, hd, rfl, rfl⟩
            cases gs with
            | nil => cases hx
            | cons e gs =>
              simp only [List.map_cons, List.cons.injEq] at hx
              obtain ⟨rfl, rfl⟩ := hx
              unfold lst1
              simp -dsimp [entD, ixA_pair0, ixA_pair1]
              exact wp_ok ⟨_, _, rfl, gs, dn ++ [e], .non, rfl, by simpa using hd, by simp [entL], rfl⟩
          · rintro acc _ ⟨gs, dn, j, hx, hd, rfl, rfl⟩
            have : gs = [] := by
              cases gs with
              | nil => rfl
              | cons k ks => cases hx
            subst this
            simp at hd
            subst hd
            have lw := law_word_ok (rv := .lst (I rs)) (lv := .lst (dn.map entL)) (fv := .tup (I ps)) (rs := rs) (left := ps) (es := dn) rfl rfl rfl hr.1 fun e he => ⟨(hfs.2 e he).1, (hfs.2 e he).2.1⟩
            rw [hjud] at lw
            have hlogD : logOf (.tup (dn.map entD)) = some dn := logOf_map entD rfl hfs fun e he => ent_D (hfs.2 e he)
            have htyD : tyN 3 (.tup (dn.map entD)) = true := tyN_log entD (fun e => .tup (I e.2)) rfl (fun e => rfl) fun e => rfl
            have hgr := grow_ok (t2 ps) (u2 ps hps).1 htyD hlogD
            rw [(u2 ps hps).2] at hgr
            have hgR : growR ps dn = .ok (.tup (I rs), .non) := by
              unfold growR
              rw [if_neg (by have := hr.1; omega), a1]
            rw [hgR] at hgr
            have hj := judge_ok (t1 rs) (u1 rs hr).1 htyD hlogD (t2 ps) (u2 ps hps).1
            rw [(u1 rs hr).2, (u2 ps hps).2, hjud] at hj
            have sm1 := same_refl (x := .tup (I rs)) (by simp [niD, niL_I]) (by have := hr.1; simp [szD, szL_I]; omega)
            have sm2 := same_refl (x := .str "good") rfl (by simp [szD])
            simp -dsimp [ixA_pair0, ixA_pair1, lw, hgr, hj, sm1, sm2]
            exact wp_ok ⟨_, rfl⟩
    refine wp_sel (fun hc => ?_) fun hc => ?_
    · have r4 : ∀ Γ, rng1K [.int 4] Γ = .ok (upto 0 4, Γ) := rng1K_nat (n := 4) (by decide)
      simp -dsimp [r4]
      have hul : (upto 0 4).length = 4 := rfl
      generalize upto 0 4 = us at *
      refine lcR_wp (fun xs acc Γ => ∃ (fs : List (List Ent)) (st' j : D), acc = fs.map logD ∧ (∀ l, l ∈ fs → okLog l) ∧ StOk st' ∧ Γ = [.scr (ns.map D.int), st', .lst (I rs), .lst (I left), logD es, .lst (ls.map logD), .non, .non, .non, j, .non]) (by omega) ⟨[], st6, _, rfl, by simp, g6, rfl⟩ ?_ ?_
      · rintro d ds acc _ ⟨fs, st', j, rfl, hfs, h', rfl⟩
        obtain ⟨l, st'', el, gl, ml⟩ := pick_ok (xs := ls.map logD) h' (by simpa using hlp) (by simp; omega)
        obtain ⟨l', hl', rfl⟩ := List.mem_map.mp ml
        unfold lst1
        simp -dsimp [el]
        exact wp_ok ⟨_, _, rfl, fs ++ [l'], st'', _, by simp, fun l h => by
          rcases List.mem_append.mp h with h | h
          · exact hfs l h
          · simp at h; subst h; exact hls _ hl', gl, rfl⟩
      · rintro acc _ ⟨fs, st', j, rfl, hfs, h', rfl⟩
        simp -dsimp
        have := rest st' fs (.lst (fs.map logD)) h' hfs .non .non .non .non .non
        simpa -dsimp using this
    · simp -dsimp
      have := rest st6 ls (.lst (ls.map logD)) g6 hls .non .non .non .non .non
      simpa -dsimp using this
  exact key
end My

set_option Elab.async false
set_option linter.all false
set_option maxRecDepth 100000
set_option maxHeartbeats 2000000
namespace My
open PySem PySem.Spec PyProof.Rows L2 DL
/-! the suite of _law_answer -/
theorem isE_self {a : Addr} {d : Option Addr} {x : Str} {b : Bool} {fs : List (Str × D)} : isE a d x b (.exn a d x fs) = .ok (.bl b) := if_pos ⟨rfl, rfl, rfl⟩
theorem fldE_self {a b : Addr} {x f : Str} {v : D} : fldE a (some b) x f (.exn a (some b) x [(f, v)]) = .ok v := by
  simp [fldE]
theorem ixD_lst_nat {xs : List D} {k : Nat} {z : D} (h : xs[k]? = some z) : ixD (.lst xs) (.int (k : Int)) = .ok z := by
  have := atI_nat xs k
  rw [h] at this
  simp only [ixD, this]
def pk : List Bool → List Str → List Str
  | b :: bs, n :: ns => if b then n :: pk bs ns else pk bs ns
  | _, _ => []
theorem pk_step {bs : List Bool} {ns : List Str} {n : Nat} {b : Bool} {x : Str} (h1 : bs[n]? = some b) (h2 : ns[n]? = some x) : pk (bs.drop n) (ns.drop n) = if b then x :: pk (bs.drop (n + 1)) (ns.drop (n + 1)) else pk (bs.drop (n + 1)) (ns.drop (n + 1)) := by
  have l1 := (List.getElem?_eq_some_iff.mp h1)
  have l2 := (List.getElem?_eq_some_iff.mp h2)
  obtain ⟨g1, e1⟩ := l1
  obtain ⟨g2, e2⟩ := l2
  rw [List.drop_eq_getElem_cons g1, List.drop_eq_getElem_cons g2, pk, e1, e2]
theorem names_list {β : Type} {w0 w1 w4 w5 : D} {bs : List Bool} {ns : List Str} {k : D × List D → Rs β} {tk : Tg k} {P : Rs β → Prop} {tp : Tg P} (hb : bs.length = 17) (hn : ns.length = 17)
    (hk : Wp (k (.lst ((pk bs ns).map D.str), [w0, w1, .lst (bs.map D.bl), .lst (ns.map D.str), w4, w5])) P) :
    Wp (bnd (lcR [5] (gN 5) (tstD (binD ixD (.bw 2) .fz kN (gV 5))) (binD ixD .fz .fz (gV 3) (gV 5)) (upto 0 17) [w0, w1, .lst (bs.map D.bl), .lst (ns.map D.str), w4, w5]) k tk) P tp := by
  refine lcR_wp (fun xs acc Γ => ∃ (n m : Nat) (as : List Str), n + m = 17 ∧ xs = (List.range' n m).map (fun i : Nat => D.int (0 + (i : Int))) ∧ acc = as.map D.str ∧ as ++ pk (bs.drop n) (ns.drop n) = pk bs ns ∧ Γ = [w0, w1, .lst (bs.map D.bl), .lst (ns.map D.str), w4, .non]) (by unfold upto; simp) ⟨0, 17, [], rfl, rfl, rfl, rfl, rfl⟩ ?_ ?_
  · rintro d ds acc _ ⟨n, m, as, hnm, hx, rfl, ha, rfl⟩
    cases m with
    | zero => cases hx
    | succ m =>
      rw [List.range'_succ] at hx
      simp only [List.map_cons, List.cons.injEq] at hx
      obtain ⟨rfl, rfl⟩ := hx
      have l1 : n < bs.length := by omega
      have l2 : n < ns.length := by omega
      have q1 := List.getElem?_eq_getElem l1
      have q2 := List.getElem?_eq_getElem l2
      have i1 : ixD (.lst (bs.map D.bl)) (.int (n : Int)) = .ok (.bl bs[n]) := ixD_lst_nat (by rw [List.getElem?_map, q1]; rfl)
      have i2 : ixD (.lst (ns.map D.str)) (.int (n : Int)) = .ok (.str ns[n]) := ixD_lst_nat (by rw [List.getElem?_map, q2]; rfl)
      rw [pk_step q1 q2] at ha
      unfold lst1
      simp -dsimp [i1, i2]
      cases hb : bs[n] with
      | true =>
        rw [hb] at ha
        simp -dsimp [i1, i2]
        exact wp_ok ⟨_, _, rfl, n + 1, m, as ++ [ns[n]], by omega, by simp, by simp, by rw [← ha]; simp, rfl⟩
      | false =>
        rw [hb] at ha
        simp -dsimp [i1, i2]
        exact wp_ok ⟨_, _, rfl, n + 1, m, as, by omega, by simp, by simp, by rw [← ha]; simp, rfl⟩
  · rintro acc _ ⟨n, m, as, hnm, hx, rfl, ha, rfl⟩
    have : m = 0 := by
      cases m with
      | zero => rfl
      | succ m => rw [List.range'_succ] at hx; cases hx
    subst this
    have e1 : bs.drop n = [] := List.drop_of_length_le (by omega)
    rw [e1] at ha
    simp only [pk, List.append_nil] at ha
    subst ha
    simp -dsimp
    exact hk
def foundB (x : Str) : List Bool := [subE x "BadNumber", subE x "BadTable", subE x "BadKind", subE x "BadLot", subE x "BadOrder", subE x "BadBatch", subE x "BadRow", subE x "BadFold", subE x "BadRing", subE x "BadSlot", subE x "BadPaper", subE x "BadRule", subE x "Outside", subE x "BadText", subE x "TooMany", subE x "Gains", !true]
def namesB : List Str := ["BadNumber", "BadTable", "BadKind", "BadLot", "BadOrder", "BadBatch", "BadRow", "BadFold", "BadRing", "BadSlot", "BadPaper", "BadRule", "Outside", "BadText", "TooMany", "Gains", "odd"]
theorem pk_all : xsE.all (fun x => decide (pk (foundB x) namesB = [x])) = true := by decide +kernel
theorem pk_one {x : Str} (h : x ∈ xsE) : pk (foundB x) namesB = [x] := by
  have := List.all_eq_true.mp pk_all x h
  simpa using this
theorem subE_t {x y : Str} (h : subE x y = true) (hy : decide (y = "WorksError") = false) : x = y := by
  unfold subE at h
  rw [hy, Bool.or_false] at h
  exact of_decide_eq_true h
theorem ans_d {x : Str} {p : Option (Str × D)} {d : D} (h : ansE x p = .ok d) :
    (x = "BadText" ∧ ∃ v : D, p = some (("line" : Str), v) ∧ d = .tup [.str "raised", .lst [.str x], v]) ∨ (x = "TooMany" ∧ ∃ v : D, p = some (("limit" : Str), v) ∧ d = .tup [.str "raised", .lst [.str x], v]) ∨ (x = "Gains" ∧ ∃ v : D, p = some (("ring" : Str), v) ∧ d = .tup [.str "raised", .lst [.str x], v]) ∨ (x ≠ "BadText" ∧ x ≠ "TooMany" ∧ x ≠ "Gains" ∧ d = .tup [.str "raised", .lst [.str x], .non]) := by
  have fld : ∀ (p : Option (Str × D)) (f : Str), (match p with
      | some (g, v) => if g = f then .ok (.tup [.str "raised", .lst [.str x], v]) else nope
      | none => nope : Rs D) = .ok d → ∃ v, p = some (f, v) ∧ d = .tup [.str "raised", .lst [.str x], v] := by
    intro p f h
    cases p with
    | none => cases h
    | some q =>
      obtain ⟨g, v⟩ := q
      by_cases e : g = f
      · subst e
        dsimp only at h
        rw [if_pos rfl] at h
        cases h
        exact ⟨v, rfl, rfl⟩
      · dsimp only at h
        rw [if_neg e] at h
        cases h
  unfold ansE at h
  by_cases h1 : x = "BadText"
  · rw [if_pos h1] at h
    exact .inl ⟨h1, fld p "line" h⟩
  · rw [if_neg h1] at h
    by_cases h2 : x = "TooMany"
    · rw [if_pos h2] at h
      exact .inr (.inl ⟨h2, fld p "limit" h⟩)
    · rw [if_neg h2] at h
      by_cases h3 : x = "Gains"
      · rw [if_pos h3] at h
        exact .inr (.inr (.inl ⟨h3, fld p "ring" h⟩))
      · rw [if_neg h3] at h
        refine .inr (.inr (.inr ⟨h1, h2, h3, ?_⟩))
        by_cases h4 : x ∈ xsE
        · rw [if_pos h4] at h
          cases p with
          | none => cases h; rfl
          | some q => cases h
        · rw [if_neg h4] at h
          cases h
theorem ev_go (a0 : Addr) (dd : Option Addr) (x0 : Str) (fs : List (Str × D)) (d0 v : D) (f : Addr) (hx : x0 ∈ xsE) (hd : d0 = .tup [.str "raised", .lst [.str x0], v])
    (h : (subE x0 "BadText" = true ∧ fldE a0 dd x0 "line" (.exn a0 dd x0 fs) = .ok v) ∨ (subE x0 "BadText" = false ∧ subE x0 "TooMany" = true ∧ fldE a0 dd x0 "limit" (.exn a0 dd x0 fs) = .ok v) ∨ (subE x0 "BadText" = false ∧ subE x0 "TooMany" = false ∧ subE x0 "Gains" = true ∧ fldE a0 dd x0 "ring" (.exn a0 dd x0 fs) = .ok v) ∨ (subE x0 "BadText" = false ∧ subE x0 "TooMany" = false ∧ subE x0 "Gains" = false ∧ v = .non)) :
    ∃ Γ, s__law_answer a0 dd x0 ((D.raw (.ref f) :: List.replicate 5 .non).set 1 (.exn a0 dd x0 fs)) = .ok (.ret d0 Γ) := by
  have hr : ∀ Γ, rng1K [.int 17] Γ = .ok (upto 0 17, Γ) := rng1K_nat (n := 17) (by decide)
  have key : Wp (s__law_answer a0 dd x0 ((D.raw (.ref f) :: List.replicate 5 .non).set 1 (.exn a0 dd x0 fs))) fun r => ∃ Γ, r = .ok (.ret d0 Γ) := by
    simp -dsimp [s__law_answer, isE_self]
    rw [catD_lst (by simp)]
    simp -dsimp [isE_self]
    rw [catD_lst (by simp)]
    simp -dsimp [isE_self]
    rw [catD_lst (by simp)]
    simp -dsimp [isE_self]
    rw [catD_lst (by simp)]
    simp -dsimp [isE_self]
    rw [appM_ok (by simp)]
    simp -dsimp [isE_self]
    rw [addA_lst (by simp)]
    simp -dsimp [isE_self]
    have eB : (foundB x0).map D.bl = [D.bl (subE x0 "BadNumber"), D.bl (subE x0 "BadTable"), D.bl (subE x0 "BadKind"), D.bl (subE x0 "BadLot"), D.bl (subE x0 "BadOrder"), D.bl (subE x0 "BadBatch"), D.bl (subE x0 "BadRow"), D.bl (subE x0 "BadFold"), D.bl (subE x0 "BadRing"), D.bl (subE x0 "BadSlot"), D.bl (subE x0 "BadPaper"), D.bl (subE x0 "BadRule"), D.bl (subE x0 "Outside"), D.bl (subE x0 "BadText"), D.bl (subE x0 "TooMany"), D.bl (subE x0 "Gains"), D.bl false] := rfl
    have eN : namesB.map D.str = [D.str "BadNumber", D.str "BadTable", D.str "BadKind", D.str "BadLot", D.str "BadOrder", D.str "BadBatch", D.str "BadRow", D.str "BadFold", D.str "BadRing", D.str "BadSlot", D.str "BadPaper", D.str "BadRule", D.str "Outside", D.str "BadText", D.str "TooMany", D.str "Gains", D.str "odd"] := rfl
    rw [← eB, ← eN]
    have fldOk : ∀ f, unD (fldE a0 dd x0 f) .fz (gV 1) = fun Γ => bnd (gV 1 Γ) fun x => bnd (fldE a0 dd x0 f (rd x.2 x.1 .fz)) fun z => .ok (z, x.2) := fun f => rfl
    rcases h with ⟨c1, hv⟩ | ⟨c1, c2, hv⟩ | ⟨c1, c2, c3, hv⟩ | ⟨c1, c2, c3, rfl⟩
    · simp -dsimp [c1, hv, hr]
      refine names_list rfl rfl ?_
      rw [pk_one hx]
      simp -dsimp
      exact wp_ok ⟨_, by rw [hd]⟩
    · simp -dsimp [c1, isE_self]
      simp -dsimp [c2, hv, hr]
      refine names_list rfl rfl ?_
      rw [pk_one hx]
      simp -dsimp
      exact wp_ok ⟨_, by rw [hd]⟩
    · simp -dsimp [c1, isE_self]
      simp -dsimp [c2, isE_self]
      simp -dsimp [c3, hv, hr]
      refine names_list rfl rfl ?_
      rw [pk_one hx]
      simp -dsimp
      exact wp_ok ⟨_, by rw [hd]⟩
    · simp -dsimp [c1, isE_self]
      simp -dsimp [c2, isE_self]
      simp -dsimp [c3, hr]
      refine names_list rfl rfl ?_
      rw [pk_one hx]
      simp -dsimp
      exact wp_ok ⟨_, by rw [hd]⟩
  exact key
theorem ev__law_answer (a0 : Addr) (dd : Option Addr) (x0 : Str) (p : Option (Str × D)) (d0 : D) (f : Addr) (hx : x0 ∈ xsE) (hd : ddOk dd p = true) (h : ansE x0 p = .ok d0) : ∃ Γ, s__law_answer a0 dd x0 ((D.raw (.ref f) :: List.replicate 5 .non).set 1 (.exn a0 dd x0 (fsOf p))) = .ok (.ret d0 Γ) := by
  have w1 : decide (("BadText" : Str) = "WorksError") = false := by decide +kernel
  have w2 : decide (("TooMany" : Str) = "WorksError") = false := by decide +kernel
  have w3 : decide (("Gains" : Str) = "WorksError") = false := by decide +kernel
  have sf : ∀ {y : Str}, x0 ≠ y → decide (y = "WorksError") = false → subE x0 y = false := by
    intro y h1 h2
    unfold subE
    rw [h2, decide_eq_false h1]
    rfl
  have st : ∀ {y : Str}, x0 = y → subE x0 y = true := by
    intro y h1
    unfold subE
    rw [decide_eq_true h1]
    rfl
  rcases ans_d h with ⟨hx0, v, rfl, hv⟩ | ⟨hx0, v, rfl, hv⟩ | ⟨hx0, v, rfl, hv⟩ | ⟨n1, n2, n3, hv⟩
  · cases dd with
    | none => cases hd
    | some b => exact ev_go a0 (some b) x0 _ d0 v f hx hv (.inl ⟨st hx0, fldE_self⟩)
  · cases dd with
    | none => cases hd
    | some b => exact ev_go a0 (some b) x0 _ d0 v f hx hv (.inr (.inl ⟨sf (by rw [hx0]; decide +kernel) w1, st hx0, fldE_self⟩))
  · cases dd with
    | none => cases hd
    | some b => exact ev_go a0 (some b) x0 _ d0 v f hx hv (.inr (.inr (.inl ⟨sf (by rw [hx0]; decide +kernel) w1, sf (by rw [hx0]; decide +kernel) w2, st hx0, fldE_self⟩)))
  · exact ev_go a0 dd x0 _ d0 .non f hx hv (.inr (.inr (.inr ⟨sf n1 w1, sf n2 w2, sf n3 w3, rfl⟩)))
end My

set_option Elab.async false
set_option linter.all false
set_option maxRecDepth 100000
set_option maxHeartbeats 8000000
namespace My
open PySem PySem.Spec PyProof.Rows L2 DL
def top (i : Nat) : Stmt := PySem.Challenge.pw_staysandturns_k11_logs_of_long_sections.main.body.getD i (.Pass ⟨0, 0, 0, 0⟩)
def xsY : List Str := ["WorksError", "BadNumber", "BadTable", "BadKind", "BadLot", "BadOrder", "BadBatch", "BadRow", "BadFold", "BadRing", "BadSlot", "BadPaper", "BadRule", "Outside", "BadText", "TooMany", "Gains"]
structure Fs (pr : Program) (K : PySem.W.Frag) (mg : Str → Option Value) (base : Heap) (T : List (Addr × Str)) : Prop where
  f_is_whole : ∃ f fd, FunD K "is_whole" "is_whole" (defArgs (top 21)) (defBody (top 21)) (defScope (top 21)) [] [] f fd ∧ mg "is_whole" = some (.ref f)
  f_is_kind : ∃ f fd, FunD K "is_kind" "is_kind" (defArgs (top 22)) (defBody (top 22)) (defScope (top 22)) [] [] f fd ∧ mg "is_kind" = some (.ref f)
  f_is_row : ∃ f fd, FunD K "is_row" "is_row" (defArgs (top 23)) (defBody (top 23)) (defScope (top 23)) [] [] f fd ∧ mg "is_row" = some (.ref f)
  f_checked_row : ∃ f fd, FunD K "checked_row" "checked_row" (defArgs (top 24)) (defBody (top 24)) (defScope (top 24)) [V.int 8] [] f fd ∧ mg "checked_row" = some (.ref f)
  f_singles_of : ∃ f fd, FunD K "singles_of" "singles_of" (defArgs (top 25)) (defBody (top 25)) (defScope (top 25)) [] [] f fd ∧ mg "singles_of" = some (.ref f)
  f_gaps_of : ∃ f fd, FunD K "gaps_of" "gaps_of" (defArgs (top 26)) (defBody (top 26)) (defScope (top 26)) [] [] f fd ∧ mg "gaps_of" = some (.ref f)
  f_is_short : ∃ f fd, FunD K "is_short" "is_short" (defArgs (top 27)) (defBody (top 27)) (defScope (top 27)) [] [] f fd ∧ mg "is_short" = some (.ref f)
  f_first_places : ∃ f fd, FunD K "first_places" "first_places" (defArgs (top 29)) (defBody (top 29)) (defScope (top 29)) [] [] f fd ∧ mg "first_places" = some (.ref f)
  f_last_places : ∃ f fd, FunD K "last_places" "last_places" (defArgs (top 30)) (defBody (top 30)) (defScope (top 30)) [] [] f fd ∧ mg "last_places" = some (.ref f)
  f_start_for : ∃ f fd, FunD K "start_for" "start_for" (defArgs (top 31)) (defBody (top 31)) (defScope (top 31)) [] [] f fd ∧ mg "start_for" = some (.ref f)
  f_first_of : ∃ f fd, FunD K "first_of" "first_of" (defArgs (top 32)) (defBody (top 32)) (defScope (top 32)) [] [] f fd ∧ mg "first_of" = some (.ref f)
  f_is_cut : ∃ f fd, FunD K "is_cut" "is_cut" (defArgs (top 33)) (defBody (top 33)) (defScope (top 33)) [] [] f fd ∧ mg "is_cut" = some (.ref f)
  f_checked_log : ∃ f fd, FunD K "checked_log" "checked_log" (defArgs (top 34)) (defBody (top 34)) (defScope (top 34)) [] [] f fd ∧ mg "checked_log" = some (.ref f)
  f_cut_down : ∃ f fd, FunD K "cut_down" "cut_down" (defArgs (top 35)) (defBody (top 35)) (defScope (top 35)) [] [] f fd ∧ mg "cut_down" = some (.ref f)
  f_grow : ∃ f fd, FunD K "grow" "grow" (defArgs (top 36)) (defBody (top 36)) (defScope (top 36)) [] [] f fd ∧ mg "grow" = some (.ref f)
  f_judge_log : ∃ f fd, FunD K "judge_log" "judge_log" (defArgs (top 37)) (defBody (top 37)) (defScope (top 37)) [] [] f fd ∧ mg "judge_log" = some (.ref f)
  f__law_store : ∃ f fd, FunD K "_law_store" "_law_store" (defArgs (top 39)) (defBody (top 39)) (defScope (top 39)) [] [] f fd ∧ mg "_law_store" = some (.ref f)
  f__law_mix : ∃ f fd, FunD K "_law_mix" "_law_mix" (defArgs (top 40)) (defBody (top 40)) (defScope (top 40)) [] [] f fd ∧ mg "_law_mix" = some (.ref f)
  f__law_take : ∃ f fd, FunD K "_law_take" "_law_take" (defArgs (top 41)) (defBody (top 41)) (defScope (top 41)) [] [] f fd ∧ mg "_law_take" = some (.ref f)
  f__law_pick : ∃ f fd, FunD K "_law_pick" "_law_pick" (defArgs (top 42)) (defBody (top 42)) (defScope (top 42)) [] [] f fd ∧ mg "_law_pick" = some (.ref f)
  f__law_shaped : ∃ f fd, FunD K "_law_shaped" "_law_shaped" (defArgs (top 43)) (defBody (top 43)) (defScope (top 43)) [] [] f fd ∧ mg "_law_shaped" = some (.ref f)
  f__law_same : ∃ f fd, FunD K "_law_same" "_law_same" (defArgs (top 44)) (defBody (top 44)) (defScope (top 44)) [] [] f fd ∧ mg "_law_same" = some (.ref f)
  f__law_plain : ∃ f fd, FunD K "_law_plain" "_law_plain" (defArgs (top 45)) (defBody (top 45)) (defScope (top 45)) [] [] f fd ∧ mg "_law_plain" = some (.ref f)
  f__law_answer : ∃ f fd, FunD K "_law_answer" "_law_answer" (defArgs (top 46)) (defBody (top 46)) (defScope (top 46)) [] [] f fd ∧ mg "_law_answer" = some (.ref f)
  f__law_refused : ∃ f fd, FunD K "_law_refused" "_law_refused" (defArgs (top 47)) (defBody (top 47)) (defScope (top 47)) [] [] f fd ∧ mg "_law_refused" = some (.ref f)
  f__law_is_short : ∃ f fd, FunD K "_law_is_short" "_law_is_short" (defArgs (top 48)) (defBody (top 48)) (defScope (top 48)) [] [] f fd ∧ mg "_law_is_short" = some (.ref f)
  f__law_drawn_row : ∃ f fd, FunD K "_law_drawn_row" "_law_drawn_row" (defArgs (top 49)) (defBody (top 49)) (defScope (top 49)) [] [] f fd ∧ mg "_law_drawn_row" = some (.ref f)
  f__law_a_cut : ∃ f fd, FunD K "_law_a_cut" "_law_a_cut" (defArgs (top 50)) (defBody (top 50)) (defScope (top 50)) [] [] f fd ∧ mg "_law_a_cut" = some (.ref f)
  f__law_cut_any : ∃ f fd, FunD K "_law_cut_any" "_law_cut_any" (defArgs (top 51)) (defBody (top 51)) (defScope (top 51)) [] [] f fd ∧ mg "_law_cut_any" = some (.ref f)
  f__law_word : ∃ f fd, FunD K "_law_word" "_law_word" (defArgs (top 52)) (defBody (top 52)) (defScope (top 52)) [] [] f fd ∧ mg "_law_word" = some (.ref f)
  f__law_grown : ∃ f fd, FunD K "_law_grown" "_law_grown" (defArgs (top 53)) (defBody (top 53)) (defScope (top 53)) [] [] f fd ∧ mg "_law_grown" = some (.ref f)
  f__law_judged : ∃ f fd, FunD K "_law_judged" "_law_judged" (defArgs (top 54)) (defBody (top 54)) (defScope (top 54)) [] [] f fd ∧ mg "_law_judged" = some (.ref f) ∧ fd.code = .ref (He.codeOf K ("_law_judged", none))
  l__law_judged : LamT base mg T (.ref (He.codeOf K ("_law_judged", none))) (((("_law_judged" : Str) ++ (".<locals>." : Str) : Str)) ++ ("<lambda>" : Str))
  f__law_bent_logs : ∃ f fd, FunD K "_law_bent_logs" "_law_bent_logs" (defArgs (top 55)) (defBody (top 55)) (defScope (top 55)) [] [] f fd ∧ mg "_law_bent_logs" = some (.ref f)
  f__law_refusals : ∃ f fd, FunD K "_law_refusals" "_law_refusals" (defArgs (top 56)) (defBody (top 56)) (defScope (top 56)) [] [] f fd ∧ mg "_law_refusals" = some (.ref f) ∧ fd.code = .ref (He.codeOf K ("_law_refusals", none))
  l__law_refusals : LamT base mg T (.ref (He.codeOf K ("_law_refusals", none))) (((("_law_refusals" : Str) ++ (".<locals>." : Str) : Str)) ++ ("<lambda>" : Str))
  f_law : ∃ f fd, FunD K "law" "law" (defArgs (top 57)) (defBody (top 57)) (defScope (top 57)) [] [] f fd ∧ mg "law" = some (.ref f)
  n_ValueError : mg "ValueError" = none
  n_bool : mg "bool" = none
  n_enumerate : mg "enumerate" = none
  n_int : mg "int" = none
  n_isinstance : mg "isinstance" = none
  n_len : mg "len" = none
  n_list : mg "list" = none
  n_range : mg "range" = none
  n_reversed : mg "reversed" = none
  n_set : mg "set" = none
  n_str : mg "str" = none
  n_sum : mg "sum" = none
  n_super : mg "super" = none
  n_tuple : mg "tuple" = none
  i_KINDS : ∃ t, mg "KINDS" = some (.int 8 t)
  i_PIECES : ∃ t, mg "PIECES" = some (.int 200 t)
  g_WorksError : mg "WorksError" = some (.ref (He.ga K "WorksError"))
  x_WorksError : PySem.W.excIn K (He.ga K "WorksError") He.veBase "ValueError.__new__" = true ∧ PySem.W.keepIn K (.ref (He.ga K "WorksError")) = true ∧ PySem.W.subIn K (.ref (He.ga K "WorksError")) (.type "BaseException") = some true ∧ PySem.W.typeIn K (.ref (He.ga K "WorksError")) = some (.type "type")
  g_BadNumber : mg "BadNumber" = some (.ref (He.ga K "BadNumber"))
  x_BadNumber : PySem.W.excIn K (He.ga K "BadNumber") He.veBase "ValueError.__new__" = true ∧ PySem.W.keepIn K (.ref (He.ga K "BadNumber")) = true ∧ PySem.W.subIn K (.ref (He.ga K "BadNumber")) (.type "BaseException") = some true ∧ PySem.W.typeIn K (.ref (He.ga K "BadNumber")) = some (.type "type")
  g_BadTable : mg "BadTable" = some (.ref (He.ga K "BadTable"))
  x_BadTable : PySem.W.excIn K (He.ga K "BadTable") He.veBase "ValueError.__new__" = true ∧ PySem.W.keepIn K (.ref (He.ga K "BadTable")) = true ∧ PySem.W.subIn K (.ref (He.ga K "BadTable")) (.type "BaseException") = some true ∧ PySem.W.typeIn K (.ref (He.ga K "BadTable")) = some (.type "type")
  g_BadKind : mg "BadKind" = some (.ref (He.ga K "BadKind"))
  x_BadKind : PySem.W.excIn K (He.ga K "BadKind") He.veBase "ValueError.__new__" = true ∧ PySem.W.keepIn K (.ref (He.ga K "BadKind")) = true ∧ PySem.W.subIn K (.ref (He.ga K "BadKind")) (.type "BaseException") = some true ∧ PySem.W.typeIn K (.ref (He.ga K "BadKind")) = some (.type "type")
  g_BadLot : mg "BadLot" = some (.ref (He.ga K "BadLot"))
  x_BadLot : PySem.W.excIn K (He.ga K "BadLot") He.veBase "ValueError.__new__" = true ∧ PySem.W.keepIn K (.ref (He.ga K "BadLot")) = true ∧ PySem.W.subIn K (.ref (He.ga K "BadLot")) (.type "BaseException") = some true ∧ PySem.W.typeIn K (.ref (He.ga K "BadLot")) = some (.type "type")
  g_BadOrder : mg "BadOrder" = some (.ref (He.ga K "BadOrder"))
  x_BadOrder : PySem.W.excIn K (He.ga K "BadOrder") He.veBase "ValueError.__new__" = true ∧ PySem.W.keepIn K (.ref (He.ga K "BadOrder")) = true ∧ PySem.W.subIn K (.ref (He.ga K "BadOrder")) (.type "BaseException") = some true ∧ PySem.W.typeIn K (.ref (He.ga K "BadOrder")) = some (.type "type")
  g_BadBatch : mg "BadBatch" = some (.ref (He.ga K "BadBatch"))
  x_BadBatch : PySem.W.excIn K (He.ga K "BadBatch") He.veBase "ValueError.__new__" = true ∧ PySem.W.keepIn K (.ref (He.ga K "BadBatch")) = true ∧ PySem.W.subIn K (.ref (He.ga K "BadBatch")) (.type "BaseException") = some true ∧ PySem.W.typeIn K (.ref (He.ga K "BadBatch")) = some (.type "type")
  g_BadRow : mg "BadRow" = some (.ref (He.ga K "BadRow"))
  x_BadRow : PySem.W.excIn K (He.ga K "BadRow") He.veBase "ValueError.__new__" = true ∧ PySem.W.keepIn K (.ref (He.ga K "BadRow")) = true ∧ PySem.W.subIn K (.ref (He.ga K "BadRow")) (.type "BaseException") = some true ∧ PySem.W.typeIn K (.ref (He.ga K "BadRow")) = some (.type "type")
  g_BadFold : mg "BadFold" = some (.ref (He.ga K "BadFold"))
  x_BadFold : PySem.W.excIn K (He.ga K "BadFold") He.veBase "ValueError.__new__" = true ∧ PySem.W.keepIn K (.ref (He.ga K "BadFold")) = true ∧ PySem.W.subIn K (.ref (He.ga K "BadFold")) (.type "BaseException") = some true ∧ PySem.W.typeIn K (.ref (He.ga K "BadFold")) = some (.type "type")
  g_BadRing : mg "BadRing" = some (.ref (He.ga K "BadRing"))
  x_BadRing : PySem.W.excIn K (He.ga K "BadRing") He.veBase "ValueError.__new__" = true ∧ PySem.W.keepIn K (.ref (He.ga K "BadRing")) = true ∧ PySem.W.subIn K (.ref (He.ga K "BadRing")) (.type "BaseException") = some true ∧ PySem.W.typeIn K (.ref (He.ga K "BadRing")) = some (.type "type")
  g_BadSlot : mg "BadSlot" = some (.ref (He.ga K "BadSlot"))
  x_BadSlot : PySem.W.excIn K (He.ga K "BadSlot") He.veBase "ValueError.__new__" = true ∧ PySem.W.keepIn K (.ref (He.ga K "BadSlot")) = true ∧ PySem.W.subIn K (.ref (He.ga K "BadSlot")) (.type "BaseException") = some true ∧ PySem.W.typeIn K (.ref (He.ga K "BadSlot")) = some (.type "type")
  g_BadPaper : mg "BadPaper" = some (.ref (He.ga K "BadPaper"))
  x_BadPaper : PySem.W.excIn K (He.ga K "BadPaper") He.veBase "ValueError.__new__" = true ∧ PySem.W.keepIn K (.ref (He.ga K "BadPaper")) = true ∧ PySem.W.subIn K (.ref (He.ga K "BadPaper")) (.type "BaseException") = some true ∧ PySem.W.typeIn K (.ref (He.ga K "BadPaper")) = some (.type "type")
  g_BadRule : mg "BadRule" = some (.ref (He.ga K "BadRule"))
  x_BadRule : PySem.W.excIn K (He.ga K "BadRule") He.veBase "ValueError.__new__" = true ∧ PySem.W.keepIn K (.ref (He.ga K "BadRule")) = true ∧ PySem.W.subIn K (.ref (He.ga K "BadRule")) (.type "BaseException") = some true ∧ PySem.W.typeIn K (.ref (He.ga K "BadRule")) = some (.type "type")
  g_Outside : mg "Outside" = some (.ref (He.ga K "Outside"))
  x_Outside : PySem.W.excIn K (He.ga K "Outside") He.veBase "ValueError.__new__" = true ∧ PySem.W.keepIn K (.ref (He.ga K "Outside")) = true ∧ PySem.W.subIn K (.ref (He.ga K "Outside")) (.type "BaseException") = some true ∧ PySem.W.typeIn K (.ref (He.ga K "Outside")) = some (.type "type")
  g_BadText : mg "BadText" = some (.ref (He.ga K "BadText"))
  g_TooMany : mg "TooMany" = some (.ref (He.ga K "TooMany"))
  g_Gains : mg "Gains" = some (.ref (He.ga K "Gains"))
  y_TooMany : IniY pr K (He.ga K "TooMany") "limit"
  exc : ∀ x ∈ xsE, ExcC K (He.ga K x)
  kit : ∀ x ∈ xsE, ∀ y ∈ xsY, PySem.W.kitOne K (.ref (He.ga K x)) (.ref (He.ga K y)) = some (subE x y)
  kitV : ∀ x ∈ xsE, PySem.W.kitOne K (.ref (He.ga K x)) (.type "ValueError") = some true
  xf : ∀ x ∈ xsE, XfC K (He.ga K x)
  fld : ∀ x ∈ xsE, ∀ f ∈ (["line", "limit", "ring"] : List Str), PySem.W.findIn K (.ref (He.ga K x)) f = some none
  exm : ∀ x ∈ xsE, PySem.W.exmOne K (.ref (He.ga K x)) (.ref (He.ga K "WorksError")) = some true
theorem ansE_x {x : Str} {p : Option (Str × D)} {d : D} (h : ansE x p = .ok d) : x ∈ xsE := by
  unfold ansE at h
  repeat (split at h; · rename_i e; subst e; decide)
  split at h
  · assumption
  · cases h

section
variable {pr : Program} {w : World} {K : PySem.W.Frag} {mg : Str → Option Value} {base : Heap} {T : List (Addr × Str)}

/-! is_whole -/
def N_is_whole : List Str := ["value"]
theorem sc_is_whole : FnScope N_is_whole ["value"] (defScope (top 21)) := ⟨rfl, rfl, rfl, by decide +kernel, rfl, by decide +kernel, by decide +kernel⟩
theorem j_is_whole {fa : Addr} (Q : Fs pr K mg base T) (cdv : Value) (A : Around) (outer : List Env) (s : Shared) (H : Hp) (E : XK) (hr : Room 0 (A.deeper (envOfC "is_whole" (defScope (top 21)) s.heap.objs.size fa cdv))) :
    JB ⟨cc K T, ioOf false, E⟩ (cxOf (L2N.CX pr w) pr w K mg base N_is_whole "is_whole" (defScope (top 21)) fa cdv A outer s H E) (defBody (top 21)) (argM false 1 ++ List.replicate 0 .un) [.un] [.fz] [.fz] .fz s_is_whole :=
  have hN : N_is_whole.Nodup := by decide +kernel
  wHx cxf_def fun hx => (jb_one (js_ret (je_and (je_isi tok_int (t_int Q.n_int) rfl Q.n_isinstance (e_v 0)) (je_one (je_not (je_isi tok_bool (t_bool Q.n_bool) rfl Q.n_isinstance (e_v 0)))))))
theorem c_is_whole (Q : Fs pr K mg base T) : Cal pr w K mg base (cc K T) "is_whole" 1 ["value"] false 1 .fz d_is_whole [] := by
  obtain ⟨f, fd, F, hm⟩ := Q.f_is_whole
  exact mkCal (fn_ok false F sc_is_whole rfl rfl (by decide) (by first | exact .inl rfl | exact .inr rfl) fun cdv A outer s H E e hr => j_is_whole Q cdv A outer s H E hr) hm F.kp (F.bindsN fun _ _ _ _ _ _ us hl => match us, hl with | [_], _ => rfl)

/-! is_kind -/
def N_is_kind : List Str := ["value", "many"]
theorem sc_is_kind : FnScope N_is_kind ["value", "many"] (defScope (top 22)) := ⟨rfl, rfl, rfl, by decide +kernel, rfl, by decide +kernel, by decide +kernel⟩
theorem j_is_kind {fa : Addr} (Q : Fs pr K mg base T) (cdv : Value) (A : Around) (outer : List Env) (s : Shared) (H : Hp) (E : XK) (hr : Room 1 (A.deeper (envOfC "is_kind" (defScope (top 22)) s.heap.objs.size fa cdv))) :
    JB ⟨cc K T, ioOf false, E⟩ (cxOf (L2N.CX pr w) pr w K mg base N_is_kind "is_kind" (defScope (top 22)) fa cdv A outer s H E) (defBody (top 22)) (argM false 2 ++ List.replicate 0 .un) [.un, .un] [.fz, .fz] [.fz, .fz] .fz s_is_kind :=
  have hN : N_is_kind.Nodup := by decide +kernel
  wHx cxf_def fun hx => (jb_one (js_ret (je_and (je_cal hx (c_is_whole Q) hr rfl (ja_cons (e_v 0) ja_nil)) (je_one (je_chain o_le o_lt e_i (e_v 0) (e_v 1))))))
theorem c_is_kind (Q : Fs pr K mg base T) : Cal pr w K mg base (cc K T) "is_kind" 2 ["value", "many"] false 2 .fz d_is_kind [] := by
  obtain ⟨f, fd, F, hm⟩ := Q.f_is_kind
  exact mkCal (fn_ok false F sc_is_kind rfl rfl (by decide) (by first | exact .inl rfl | exact .inr rfl) fun cdv A outer s H E e hr => j_is_kind Q cdv A outer s H E hr) hm F.kp (F.bindsN fun _ _ _ _ _ _ us hl => match us, hl with | [_, _], _ => rfl)

/-! is_row -/
def N_is_row : List Str := ["value", "many", "kind"]
theorem sc_is_row : FnScope N_is_row ["value", "many"] (defScope (top 23)) := ⟨rfl, rfl, rfl, by decide +kernel, rfl, by decide +kernel, by decide +kernel⟩
theorem j_is_row {fa : Addr} (Q : Fs pr K mg base T) (cdv : Value) (A : Around) (outer : List Env) (s : Shared) (H : Hp) (E : XK) (hr : Room 2 (A.deeper (envOfC "is_row" (defScope (top 23)) s.heap.objs.size fa cdv))) :
    JB ⟨cc K T, ioOf false, E⟩ (cxOf (L2N.CX pr w) pr w K mg base N_is_row "is_row" (defScope (top 23)) fa cdv A outer s H E) (defBody (top 23)) (argM false 2 ++ List.replicate 1 .un) [.un, .un, .un] [.fz, .fz, .un] [.fz, .fz, .un] .fz s_is_row :=
  have hN : N_is_row.Nodup := by decide +kernel
  wHx cxf_def fun hx => (jb_cons (js_if (jt_w (jw_or (jt_not (jt_val (je_isi2 tok_list tok_tuple (t_list Q.n_list) (t_tuple Q.n_tuple) rfl Q.n_isinstance (e_v 0)))) (jw_or1 (jt_cmp o_gt (e_len Q.n_len (ja_cons (e_v 0) ja_nil)) (e_g Q.i_PIECES))))) (jb_one (js_ret e_b)) jb_nil) (jb_cons (js_for (M0 := [.fz, .fz, .un]) (M2 := [.fz, .fz, .fz]) hx.own rfl (ji_seq (e_v 0)) (g_n 2 (hN := hN)) (jb_weakN (Mn := [.fz, .fz, .fz]) (Mn' := [.fz, .fz, .un]) (jb_one (js_if (jt_not (jt_val (je_cal hx (c_is_kind Q) hr rfl (ja_cons (e_v 2) (ja_cons (e_v 1) ja_nil))))) (jb_one (js_ret e_b)) jb_nil)))) (jb_one (js_ret e_b))))
theorem c_is_row (Q : Fs pr K mg base T) : Cal pr w K mg base (cc K T) "is_row" 3 ["value", "many"] false 2 .fz d_is_row [] := by
  obtain ⟨f, fd, F, hm⟩ := Q.f_is_row
  exact mkCal (fn_ok false F sc_is_row rfl rfl (by decide) (by first | exact .inl rfl | exact .inr rfl) fun cdv A outer s H E e hr => j_is_row Q cdv A outer s H E hr) hm F.kp (F.bindsN fun _ _ _ _ _ _ us hl => match us, hl with | [_, _], _ => rfl)

/-! checked_row -/
def N_checked_row : List Str := ["row", "many"]
theorem sc_checked_row : FnScope N_checked_row ["row", "many"] (defScope (top 24)) := ⟨rfl, rfl, rfl, by decide +kernel, rfl, by decide +kernel, by decide +kernel⟩
theorem j_checked_row {fa : Addr} (Q : Fs pr K mg base T) (cdv : Value) (A : Around) (outer : List Env) (s : Shared) (H : Hp) (E : XK) (hr : Room 3 (A.deeper (envOfC "checked_row" (defScope (top 24)) s.heap.objs.size fa cdv))) :
    JB ⟨cc K T, ioOf false, E⟩ (cxOf (L2N.CX pr w) pr w K mg base N_checked_row "checked_row" (defScope (top 24)) fa cdv A outer s H E) (defBody (top 24)) (argM false 2 ++ List.replicate 0 .un) [.un, .un] [.fz, .fz] [.fz, .fz] .fz s_checked_row :=
  have hN : N_checked_row.Nodup := by decide +kernel
  wHx cxf_def fun hx => (jb_cons (js_if (jt_not (jt_val (je_cal hx (c_is_row Q) hr rfl (ja_cons (e_v 0) (ja_cons (e_v 1) ja_nil))))) (jb_one (js_raise hx rfl PySem.F.excBase_ValueError (Q.x_BadRow).1 (Q.g_BadRow) (Q.x_BadRow).2.1 (raises_own (Q.x_BadRow).2.2.1 (Q.x_BadRow).2.2.2) rfl)) jb_nil) (jb_one (js_ret (e_tuple Q.n_tuple (ja_cons (e_v 0) ja_nil)))))
theorem c_checked_row (Q : Fs pr K mg base T) : Cal pr w K mg base (cc K T) "checked_row" 4 ["row", "many"] false 2 .fz d_checked_row [8] := by
  obtain ⟨f, fd, F, hm⟩ := Q.f_checked_row
  exact mkCalD (fn_ok false F sc_checked_row rfl rfl (by decide) (by first | exact .inl rfl | exact .inr rfl) fun cdv A outer s H E e hr => j_checked_row Q cdv A outer s H E hr) hm F.kp (F.binds1 1 0 (by decide) rfl fun _ _ _ _ _ _ _ us its hu hi => match us, hu, its, hi with | [_], _, [_], _ => ⟨_, rfl, rfl⟩)

/-! singles_of -/
def N_singles_of : List Str := ["pieces", "kind"]
theorem sc_singles_of : FnScope N_singles_of ["pieces"] (defScope (top 25)) := ⟨rfl, rfl, rfl, by decide +kernel, rfl, by decide +kernel, by decide +kernel⟩
theorem j_singles_of {fa : Addr} (Q : Fs pr K mg base T) (cdv : Value) (A : Around) (outer : List Env) (s : Shared) (H : Hp) (E : XK) (hr : Room 0 (A.deeper (envOfC "singles_of" (defScope (top 25)) s.heap.objs.size fa cdv))) :
    JB ⟨cc K T, ioOf false, E⟩ (cxOf (L2N.CX pr w) pr w K mg base N_singles_of "singles_of" (defScope (top 25)) fa cdv A outer s H E) (defBody (top 25)) (argM false 1 ++ List.replicate 1 .un) [.un, .un] [.fz, .un] [.fz, .un] .fz s_singles_of :=
  have hN : N_singles_of.Nodup := by decide +kernel
  wHx cxf_def fun hx => (jb_one (js_ret (e_tuple Q.n_tuple (ja_cons (je_lc (own := [("kind", 1)]) rfl hN (blkOk_by (by rfl)) (ji_range1 rfl Q.n_range (ja_cons (e_g Q.i_KINDS) ja_nil)) (fun s H C cl fp => wHb (cxf_none rfl) fun hx => ⟨(g_n 1 (hN := hN)), (jts_one (jt_cmp (o_eq hr) (je_count (e_v 0) (ja_cons (e_v 1) ja_nil)) e_i)), (e_v 1)⟩)) ja_nil))))
theorem c_singles_of (Q : Fs pr K mg base T) : Cal pr w K mg base (cc K T) "singles_of" 1 ["pieces"] false 1 .fz d_singles_of [] := by
  obtain ⟨f, fd, F, hm⟩ := Q.f_singles_of
  exact mkCal (fn_ok false F sc_singles_of rfl rfl (by decide) (by first | exact .inl rfl | exact .inr rfl) fun cdv A outer s H E e hr => j_singles_of Q cdv A outer s H E hr) hm F.kp (F.bindsN fun _ _ _ _ _ _ us hl => match us, hl with | [_], _ => rfl)

/-! gaps_of -/
def N_gaps_of : List Str := ["pieces", "alone", "done", "gap", "kind"]
theorem sc_gaps_of : FnScope N_gaps_of ["pieces"] (defScope (top 26)) := ⟨rfl, rfl, rfl, by decide +kernel, rfl, by decide +kernel, by decide +kernel⟩
theorem j_gaps_of {fa : Addr} (Q : Fs pr K mg base T) (cdv : Value) (A : Around) (outer : List Env) (s : Shared) (H : Hp) (E : XK) (hr : Room 1 (A.deeper (envOfC "gaps_of" (defScope (top 26)) s.heap.objs.size fa cdv))) :
    JB ⟨cc K T, ioOf false, E⟩ (cxOf (L2N.CX pr w) pr w K mg base N_gaps_of "gaps_of" (defScope (top 26)) fa cdv A outer s H E) (defBody (top 26)) (argM false 1 ++ List.replicate 4 .un) [.un, .un, .un, .un, .un] [.fz, .un, .un, .un, .un] [.fz, .un, .un, .un, .un] .fz s_gaps_of :=
  have hN : N_gaps_of.Nodup := by decide +kernel
  wHx cxf_def fun hx => (jb_cons (js_set (i := 1) (je_cal hx (c_singles_of Q) hr rfl (ja_cons (e_v 0) ja_nil)) hN rfl (by first | exact .inl rfl | exact .inr rfl)) (jb_cons (js_set (i := 2) (je_lst ja_nil) hN rfl (by first | exact .inl rfl | exact .inr rfl)) (jb_cons (js_set (i := 3) (je_lst ja_nil) hN rfl (by first | exact .inl rfl | exact .inr rfl)) (jb_cons (js_for (M0 := [.fz, .fz, .ow, .ow, .un]) (M2 := [.fz, .fz, .ow, .ow, .fz]) hx.own rfl (ji_seq (e_v 0)) (g_n 4 (hN := hN)) (jb_weakN (Mn := [.fz, .fz, .ow, .ow, .fz]) (Mn' := [.fz, .fz, .ow, .ow, .un]) (jb_one (js_if (jt_cmp (o_inA hr) (e_v 4) (e_v 1)) (jb_cons (js_expr (e_app 2 (pv 2) (ja_cons (e_tuple Q.n_tuple (ja_cons (e_o 3) ja_nil)) ja_nil))) (jb_one (js_set (i := 3) (je_lst ja_nil) hN rfl (by first | exact .inl rfl | exact .inr rfl)))) (jb_one (js_expr (e_app 3 (pv 3) (ja_cons (e_v 4) ja_nil)))))))) (jb_cons (js_expr (e_app 2 (pv 2) (ja_cons (e_tuple Q.n_tuple (ja_cons (e_o 3) ja_nil)) ja_nil))) (jb_one (js_ret (e_tuple Q.n_tuple (ja_cons (e_o 2) ja_nil)))))))))
theorem c_gaps_of (Q : Fs pr K mg base T) : Cal pr w K mg base (cc K T) "gaps_of" 2 ["pieces"] false 1 .fz d_gaps_of [] := by
  obtain ⟨f, fd, F, hm⟩ := Q.f_gaps_of
  exact mkCal (fn_ok false F sc_gaps_of rfl rfl (by decide) (by first | exact .inl rfl | exact .inr rfl) fun cdv A outer s H E e hr => j_gaps_of Q cdv A outer s H E hr) hm F.kp (F.bindsN fun _ _ _ _ _ _ us hl => match us, hl with | [_], _ => rfl)

/-! is_short -/
def N_is_short : List Str := ["row", "pieces", "gap"]
theorem sc_is_short : FnScope N_is_short ["row"] (defScope (top 27)) := ⟨rfl, rfl, rfl, by decide +kernel, rfl, by decide +kernel, by decide +kernel⟩
theorem j_is_short {fa : Addr} (Q : Fs pr K mg base T) (cdv : Value) (A : Around) (outer : List Env) (s : Shared) (H : Hp) (E : XK) (hr : Room 4 (A.deeper (envOfC "is_short" (defScope (top 27)) s.heap.objs.size fa cdv))) :
    JB ⟨cc K T, ioOf false, E⟩ (cxOf (L2N.CX pr w) pr w K mg base N_is_short "is_short" (defScope (top 27)) fa cdv A outer s H E) (defBody (top 27)) (argM false 1 ++ List.replicate 2 .un) [.un, .un, .un] [.fz, .un, .un] [.fz, .un, .un] .fz s_is_short :=
  have hN : N_is_short.Nodup := by decide +kernel
  wHx cxf_def fun hx => (jb_cons (js_set (i := 1) (je_calD hx (c_checked_row Q) hr rfl (ja_cons (e_v 0) ja_nil)) hN rfl (by first | exact .inl rfl | exact .inr rfl)) (jb_cons (js_if (jt_cmp (o_eq hr) (e_len Q.n_len (ja_cons (e_v 1) ja_nil)) e_i) (jb_one (js_ret e_b)) jb_nil) (jb_cons (js_for (M0 := [.fz, .fz, .un]) (M2 := [.fz, .fz, .fz]) hx.own rfl (ji_seq (je_cal hx (c_gaps_of Q) hr rfl (ja_cons (e_v 1) ja_nil))) (g_n 2 (hN := hN)) (jb_weakN (Mn := [.fz, .fz, .fz]) (Mn' := [.fz, .fz, .un]) (jb_one (js_if (jt_cmp o_lt (je_lenSet rfl rfl Q.n_len rfl Q.n_set (e_v 2)) (e_len Q.n_len (ja_cons (e_v 2) ja_nil))) (jb_one (js_ret e_b)) jb_nil)))) (jb_one (js_ret e_b)))))
theorem c_is_short (Q : Fs pr K mg base T) : Cal pr w K mg base (cc K T) "is_short" 5 ["row"] false 1 .fz d_is_short [] := by
  obtain ⟨f, fd, F, hm⟩ := Q.f_is_short
  exact mkCal (fn_ok false F sc_is_short rfl rfl (by decide) (by first | exact .inl rfl | exact .inr rfl) fun cdv A outer s H E e hr => j_is_short Q cdv A outer s H E hr) hm F.kp (F.bindsN fun _ _ _ _ _ _ us hl => match us, hl with | [_], _ => rfl)

/-! first_places -/
def N_first_places : List Str := ["pieces", "places", "place", "kind"]
theorem sc_first_places : FnScope N_first_places ["pieces"] (defScope (top 29)) := ⟨rfl, rfl, rfl, by decide +kernel, rfl, by decide +kernel, by decide +kernel⟩
theorem j_first_places {fa : Addr} (Q : Fs pr K mg base T) (cdv : Value) (A : Around) (outer : List Env) (s : Shared) (H : Hp) (E : XK) (hr : Room 0 (A.deeper (envOfC "first_places" (defScope (top 29)) s.heap.objs.size fa cdv))) :
    JB ⟨cc K T, ioOf false, E⟩ (cxOf (L2N.CX pr w) pr w K mg base N_first_places "first_places" (defScope (top 29)) fa cdv A outer s H E) (defBody (top 29)) (argM false 1 ++ List.replicate 3 .un) [.un, .un, .un, .un] [.fz, .un, .un, .un] [.fz, .un, .un, .un] .fz s_first_places :=
  have hN : N_first_places.Nodup := by decide +kernel
  wHx cxf_def fun hx => (jb_cons (js_set (i := 1) e_d hN rfl (by first | exact .inl rfl | exact .inr rfl)) (jb_cons (js_for (M0 := [.fz, .ow, .un, .un]) (M2 := [.fz, .ow, .fz, .fz]) hx.own rfl (ji_enum rfl Q.n_enumerate (ja_cons (e_v 0) ja_nil)) (jg_tup (n := 2) rfl (jgs_cons (g_n 2 (hN := hN)) (jgs_cons (g_n 3 (hN := hN)) g_0))) (jb_weakN (Mn := [.fz, .ow, .fz, .fz]) (Mn' := [.fz, .ow, .un, .un]) (jb_one (js_if (jt_cmp (o_notInA hr) (e_v 3) (e_o 1)) (jb_one (js_dput (i := 1) hr (e_v 2) (pv 1) rfl (e_v 3))) jb_nil)))) (jb_one (js_ret (e_f 1)))))
theorem c_first_places (Q : Fs pr K mg base T) : Cal pr w K mg base (cc K T) "first_places" 1 ["pieces"] false 1 .fz d_first_places [] := by
  obtain ⟨f, fd, F, hm⟩ := Q.f_first_places
  exact mkCal (fn_ok false F sc_first_places rfl rfl (by decide) (by first | exact .inl rfl | exact .inr rfl) fun cdv A outer s H E e hr => j_first_places Q cdv A outer s H E hr) hm F.kp (F.bindsN fun _ _ _ _ _ _ us hl => match us, hl with | [_], _ => rfl)

/-! last_places -/
def N_last_places : List Str := ["pieces", "places", "place", "kind"]
theorem sc_last_places : FnScope N_last_places ["pieces"] (defScope (top 30)) := ⟨rfl, rfl, rfl, by decide +kernel, rfl, by decide +kernel, by decide +kernel⟩
theorem j_last_places {fa : Addr} (Q : Fs pr K mg base T) (cdv : Value) (A : Around) (outer : List Env) (s : Shared) (H : Hp) (E : XK) (hr : Room 0 (A.deeper (envOfC "last_places" (defScope (top 30)) s.heap.objs.size fa cdv))) :
    JB ⟨cc K T, ioOf false, E⟩ (cxOf (L2N.CX pr w) pr w K mg base N_last_places "last_places" (defScope (top 30)) fa cdv A outer s H E) (defBody (top 30)) (argM false 1 ++ List.replicate 3 .un) [.un, .un, .un, .un] [.fz, .un, .un, .un] [.fz, .un, .un, .un] .fz s_last_places :=
  have hN : N_last_places.Nodup := by decide +kernel
  wHx cxf_def fun hx => (jb_cons (js_set (i := 1) e_d hN rfl (by first | exact .inl rfl | exact .inr rfl)) (jb_cons (js_for (M0 := [.fz, .ow, .un, .un]) (M2 := [.fz, .ow, .fz, .fz]) hx.own rfl (ji_enum rfl Q.n_enumerate (ja_cons (e_v 0) ja_nil)) (jg_tup (n := 2) rfl (jgs_cons (g_n 2 (hN := hN)) (jgs_cons (g_n 3 (hN := hN)) g_0))) (jb_weakN (Mn := [.fz, .ow, .fz, .fz]) (Mn' := [.fz, .ow, .un, .un]) (jb_one (js_dput (i := 1) hr (e_v 2) (pv 1) rfl (e_v 3))))) (jb_one (js_ret (e_f 1)))))
theorem c_last_places (Q : Fs pr K mg base T) : Cal pr w K mg base (cc K T) "last_places" 1 ["pieces"] false 1 .fz d_last_places [] := by
  obtain ⟨f, fd, F, hm⟩ := Q.f_last_places
  exact mkCal (fn_ok false F sc_last_places rfl rfl (by decide) (by first | exact .inl rfl | exact .inr rfl) fun cdv A outer s H E e hr => j_last_places Q cdv A outer s H E hr) hm F.kp (F.bindsN fun _ _ _ _ _ _ us hl => match us, hl with | [_], _ => rfl)

/-! start_for -/
def N_start_for : List Str := ["pieces", "stop", "firsts", "lasts", "start", "kind"]
theorem sc_start_for : FnScope N_start_for ["pieces", "stop", "firsts", "lasts"] (defScope (top 31)) := ⟨rfl, rfl, rfl, by decide +kernel, rfl, by decide +kernel, by decide +kernel⟩
theorem j_start_for {fa : Addr} (Q : Fs pr K mg base T) (cdv : Value) (A : Around) (outer : List Env) (s : Shared) (H : Hp) (E : XK) (hr : Room 0 (A.deeper (envOfC "start_for" (defScope (top 31)) s.heap.objs.size fa cdv))) :
    JB ⟨cc K T, ioOf false, E⟩ (cxOf (L2N.CX pr w) pr w K mg base N_start_for "start_for" (defScope (top 31)) fa cdv A outer s H E) (defBody (top 31)) (argM false 4 ++ List.replicate 2 .un) [.un, .un, .un, .un, .un, .un] [.fz, .fz, .fz, .fz, .un, .un] [.fz, .fz, .fz, .fz, .un, .un] .fz s_start_for :=
  have hN : N_start_for.Nodup := by decide +kernel
  wHx cxf_def fun hx => (jb_cons (js_set (i := 4) (je_bin o_sub (e_v 1) e_i) hN rfl (by first | exact .inl rfl | exact .inr rfl)) (jb_cons (js_while (M0 := [.fz, .fz, .fz, .fz, .fz, .un]) 1000000 hx.own (jt_w (jw_and (jt_cmp o_ge (e_v 4) e_i) (jw_and (jt_cmp (o_ne hr) (je_ixA hr (e_v 0) (e_v 4)) (je_ixA hr (e_v 0) (e_v 1))) (jw_and1 (jt_cmp (o_notInA hr) (je_ixA hr (e_v 0) (e_v 4)) (je_sl (e_v 0) (jo_some (je_bin o_addA (e_v 4) e_i)) (jo_some (e_v 1)))))))) (jb_one (js_aug (i := 4) e_i i_sub hN rfl (by first | exact .inl rfl | exact .inr rfl)))) (jb_cons (js_if (jt_w (jw_or (jt_cmp o_lt (e_v 4) e_i) (jw_or1 (jt_cmp (o_ne hr) (je_ixA hr (e_v 0) (e_v 4)) (je_ixA hr (e_v 0) (e_v 1)))))) (jb_one (js_ret e_n)) jb_nil) (jb_cons (js_for (M0 := [.fz, .fz, .fz, .fz, .fz, .un]) (M2 := [.fz, .fz, .fz, .fz, .fz, .fz]) hx.own rfl (ji_seq (je_sl (e_v 0) (jo_some (e_v 4)) (jo_some (e_v 1)))) (g_n 5 (hN := hN)) (jb_weakN (Mn := [.fz, .fz, .fz, .fz, .fz, .fz]) (Mn' := [.fz, .fz, .fz, .fz, .fz, .un]) (jb_one (js_if (jt_w (jw_and (jt_cmp o_ge (je_ixA hr (e_v 2) (e_v 5)) (e_v 4)) (jw_and1 (jt_cmp o_lt (je_ixA hr (e_v 3) (e_v 5)) (e_v 1))))) (jb_one (js_ret e_n)) jb_nil)))) (jb_one (js_ret (e_v 4)))))))
theorem c_start_for (Q : Fs pr K mg base T) : Cal pr w K mg base (cc K T) "start_for" 1 ["pieces", "stop", "firsts", "lasts"] false 4 .fz d_start_for [] := by
  obtain ⟨f, fd, F, hm⟩ := Q.f_start_for
  exact mkCal (fn_ok false F sc_start_for rfl rfl (by decide) (by first | exact .inl rfl | exact .inr rfl) fun cdv A outer s H E e hr => j_start_for Q cdv A outer s H E hr) hm F.kp (F.bindsN fun _ _ _ _ _ _ us hl => match us, hl with | [_, _, _, _], _ => rfl)

/-! first_of -/
def N_first_of : List Str := ["pieces", "firsts", "lasts", "stop", "start"]
theorem sc_first_of : FnScope N_first_of ["pieces"] (defScope (top 32)) := ⟨rfl, rfl, rfl, by decide +kernel, rfl, by decide +kernel, by decide +kernel⟩
theorem j_first_of {fa : Addr} (Q : Fs pr K mg base T) (cdv : Value) (A : Around) (outer : List Env) (s : Shared) (H : Hp) (E : XK) (hr : Room 1 (A.deeper (envOfC "first_of" (defScope (top 32)) s.heap.objs.size fa cdv))) :
    JB ⟨cc K T, ioOf false, E⟩ (cxOf (L2N.CX pr w) pr w K mg base N_first_of "first_of" (defScope (top 32)) fa cdv A outer s H E) (defBody (top 32)) (argM false 1 ++ List.replicate 4 .un) [.un, .un, .un, .un, .un] [.fz, .un, .un, .un, .un] [.fz, .un, .un, .un, .un] .fz s_first_of :=
  have hN : N_first_of.Nodup := by decide +kernel
  wHx cxf_def fun hx => (jb_cons (js_set (i := 1) (je_cal hx (c_first_places Q) hr rfl (ja_cons (e_v 0) ja_nil)) hN rfl (by first | exact .inl rfl | exact .inr rfl)) (jb_cons (js_set (i := 2) (je_cal hx (c_last_places Q) hr rfl (ja_cons (e_v 0) ja_nil)) hN rfl (by first | exact .inl rfl | exact .inr rfl)) (jb_cons (js_for (M0 := [.fz, .fz, .fz, .un, .un]) (M2 := [.fz, .fz, .fz, .fz, .un]) hx.own rfl (ji_range1 rfl Q.n_range (ja_cons (e_len Q.n_len (ja_cons (e_v 0) ja_nil)) ja_nil)) (g_n 3 (hN := hN)) (jb_weakN (Mn := [.fz, .fz, .fz, .fz, .fz]) (Mn' := [.fz, .fz, .fz, .un, .un]) (jb_cons (js_set (i := 4) (je_cal hx (c_start_for Q) hr rfl (ja_cons (e_v 0) (ja_cons (e_v 3) (ja_cons (e_v 1) (ja_cons (e_v 2) ja_nil))))) hN rfl (by first | exact .inl rfl | exact .inr rfl)) (jb_one (js_if (jt_cmp o_isNot (e_v 4) e_n) (jb_one (js_ret (je_tup (ja_cons (e_v 4) (ja_cons (e_v 3) ja_nil))))) jb_nil))))) (jb_one (js_ret e_n)))))
theorem c_first_of (Q : Fs pr K mg base T) : Cal pr w K mg base (cc K T) "first_of" 2 ["pieces"] false 1 .fz d_first_of [] := by
  obtain ⟨f, fd, F, hm⟩ := Q.f_first_of
  exact mkCal (fn_ok false F sc_first_of rfl rfl (by decide) (by first | exact .inl rfl | exact .inr rfl) fun cdv A outer s H E e hr => j_first_of Q cdv A outer s H E hr) hm F.kp (F.bindsN fun _ _ _ _ _ _ us hl => match us, hl with | [_], _ => rfl)

/-! is_cut -/
def N_is_cut : List Str := ["pieces", "start", "stop"]
theorem sc_is_cut : FnScope N_is_cut ["pieces", "start", "stop"] (defScope (top 33)) := ⟨rfl, rfl, rfl, by decide +kernel, rfl, by decide +kernel, by decide +kernel⟩
theorem j_is_cut {fa : Addr} (Q : Fs pr K mg base T) (cdv : Value) (A : Around) (outer : List Env) (s : Shared) (H : Hp) (E : XK) (hr : Room 1 (A.deeper (envOfC "is_cut" (defScope (top 33)) s.heap.objs.size fa cdv))) :
    JB ⟨cc K T, ioOf false, E⟩ (cxOf (L2N.CX pr w) pr w K mg base N_is_cut "is_cut" (defScope (top 33)) fa cdv A outer s H E) (defBody (top 33)) (argM false 3 ++ List.replicate 0 .un) [.un, .un, .un] [.fz, .fz, .fz] [.fz, .fz, .fz] .fz s_is_cut :=
  have hN : N_is_cut.Nodup := by decide +kernel
  wHx cxf_def fun hx => (jb_cons (js_if (jt_w (jw_or (jt_cmp o_ge (e_v 1) (e_v 2)) (jw_or1 (jt_cmp o_ge (e_v 2) (e_len Q.n_len (ja_cons (e_v 0) ja_nil)))))) (jb_one (js_ret e_b)) jb_nil) (jb_one (js_ret (je_cmp (o_eq hr) (je_cal hx (c_start_for Q) hr rfl (ja_cons (e_v 0) (ja_cons (e_v 2) (ja_cons (je_cal hx (c_first_places Q) hr rfl (ja_cons (e_v 0) ja_nil)) (ja_cons (je_cal hx (c_last_places Q) hr rfl (ja_cons (e_v 0) ja_nil)) ja_nil))))) (e_v 1)))))
theorem c_is_cut (Q : Fs pr K mg base T) : Cal pr w K mg base (cc K T) "is_cut" 2 ["pieces", "start", "stop"] false 3 .fz d_is_cut [] := by
  obtain ⟨f, fd, F, hm⟩ := Q.f_is_cut
  exact mkCal (fn_ok false F sc_is_cut rfl rfl (by decide) (by first | exact .inl rfl | exact .inr rfl) fun cdv A outer s H E e hr => j_is_cut Q cdv A outer s H E hr) hm F.kp (F.bindsN fun _ _ _ _ _ _ us hl => match us, hl with | [_, _, _], _ => rfl)

/-! checked_log -/
def N_checked_log : List Str := ["log", "entries", "entry", "place", "section"]
theorem sc_checked_log : FnScope N_checked_log ["log"] (defScope (top 34)) := ⟨rfl, rfl, rfl, by decide +kernel, rfl, by decide +kernel, by decide +kernel⟩
theorem j_checked_log {fa : Addr} (Q : Fs pr K mg base T) (cdv : Value) (A : Around) (outer : List Env) (s : Shared) (H : Hp) (E : XK) (hr : Room 3 (A.deeper (envOfC "checked_log" (defScope (top 34)) s.heap.objs.size fa cdv))) :
    JB ⟨cc K T, ioOf false, E⟩ (cxOf (L2N.CX pr w) pr w K mg base N_checked_log "checked_log" (defScope (top 34)) fa cdv A outer s H E) (defBody (top 34)) (argM false 1 ++ List.replicate 4 .un) [.un, .un, .un, .un, .un] [.fz, .un, .un, .un, .un] [.fz, .un, .un, .un, .un] .fz s_checked_log :=
  have hN : N_checked_log.Nodup := by decide +kernel
  wHx cxf_def fun hx => (jb_cons (js_if (jt_w (jw_or (jt_not (jt_val (je_isi2 tok_list tok_tuple (t_list Q.n_list) (t_tuple Q.n_tuple) rfl Q.n_isinstance (e_v 0)))) (jw_or1 (jt_cmp o_gt (e_len Q.n_len (ja_cons (e_v 0) ja_nil)) e_i)))) (jb_one (js_raise hx rfl PySem.F.excBase_ValueError (Q.x_BadPaper).1 (Q.g_BadPaper) (Q.x_BadPaper).2.1 (raises_own (Q.x_BadPaper).2.2.1 (Q.x_BadPaper).2.2.2) rfl)) jb_nil) (jb_cons (js_set (i := 1) (je_lst ja_nil) hN rfl (by first | exact .inl rfl | exact .inr rfl)) (jb_cons (js_for (M0 := [.fz, .ow, .un, .un, .un]) (M2 := [.fz, .ow, .fz, .un, .un]) hx.own rfl (ji_seq (e_v 0)) (g_n 2 (hN := hN)) (jb_weakN (Mn := [.fz, .ow, .fz, .fz, .fz]) (Mn' := [.fz, .ow, .un, .un, .un]) (jb_cons (js_if (jt_w (jw_or (jt_not (jt_val (je_isi2 tok_list tok_tuple (t_list Q.n_list) (t_tuple Q.n_tuple) rfl Q.n_isinstance (e_v 2)))) (jw_or1 (jt_cmp (o_ne hr) (e_len Q.n_len (ja_cons (e_v 2) ja_nil)) e_i)))) (jb_one (js_raise hx rfl PySem.F.excBase_ValueError (Q.x_BadPaper).1 (Q.g_BadPaper) (Q.x_BadPaper).2.1 (raises_own (Q.x_BadPaper).2.2.1 (Q.x_BadPaper).2.2.2) rfl)) jb_nil) (jb_cons (js_asg (e_v 2) (jg_tup (n := 2) rfl (jgs_cons (g_n 3 (hN := hN)) (jgs_cons (g_n 4 (hN := hN)) g_0)))) (jb_cons (js_if (jt_w (jw_or (jt_not (jt_val (je_cal hx (c_is_whole Q) hr rfl (ja_cons (e_v 3) ja_nil)))) (jw_or1 (jt_cmp o_lt (e_v 3) e_i)))) (jb_one (js_raise hx rfl PySem.F.excBase_ValueError (Q.x_BadPaper).1 (Q.g_BadPaper) (Q.x_BadPaper).2.1 (raises_own (Q.x_BadPaper).2.2.1 (Q.x_BadPaper).2.2.2) rfl)) jb_nil) (jb_cons (js_if (jt_w (jw_or (jt_not (jt_val (je_cal hx (c_is_row Q) hr rfl (ja_cons (e_v 4) (ja_cons (e_g Q.i_KINDS) ja_nil))))) (jw_or1 (jt_cmp o_lt (e_len Q.n_len (ja_cons (e_v 4) ja_nil)) e_i)))) (jb_one (js_raise hx rfl PySem.F.excBase_ValueError (Q.x_BadPaper).1 (Q.g_BadPaper) (Q.x_BadPaper).2.1 (raises_own (Q.x_BadPaper).2.2.1 (Q.x_BadPaper).2.2.2) rfl)) jb_nil) (jb_one (js_expr (e_app 1 (pv 1) (ja_cons (je_tup (ja_cons (e_v 3) (ja_cons (e_tuple Q.n_tuple (ja_cons (e_v 4) ja_nil)) ja_nil))) ja_nil)))))))))) (jb_one (js_ret (e_f 1))))))
theorem c_checked_log (Q : Fs pr K mg base T) : Cal pr w K mg base (cc K T) "checked_log" 4 ["log"] false 1 .fz d_checked_log [] := by
  obtain ⟨f, fd, F, hm⟩ := Q.f_checked_log
  exact mkCal (fn_ok false F sc_checked_log rfl rfl (by decide) (by first | exact .inl rfl | exact .inr rfl) fun cdv A outer s H E e hr => j_checked_log Q cdv A outer s H E hr) hm F.kp (F.bindsN fun _ _ _ _ _ _ us hl => match us, hl with | [_], _ => rfl)

/-! cut_down -/
def N_cut_down : List Str := ["row", "pieces", "log", "cut", "start", "stop"]
theorem sc_cut_down : FnScope N_cut_down ["row"] (defScope (top 35)) := ⟨rfl, rfl, rfl, by decide +kernel, rfl, by decide +kernel, by decide +kernel⟩
theorem j_cut_down {fa : Addr} (Q : Fs pr K mg base T) (cdv : Value) (A : Around) (outer : List Env) (s : Shared) (H : Hp) (E : XK) (hr : Room 4 (A.deeper (envOfC "cut_down" (defScope (top 35)) s.heap.objs.size fa cdv))) :
    JB ⟨cc K T, ioOf false, E⟩ (cxOf (L2N.CX pr w) pr w K mg base N_cut_down "cut_down" (defScope (top 35)) fa cdv A outer s H E) (defBody (top 35)) (argM false 1 ++ List.replicate 5 .un) [.un, .un, .un, .un, .un, .un] [.fz, .un, .un, .un, .un, .un] [.fz, .un, .un, .un, .un, .un] .fz s_cut_down :=
  have hN : N_cut_down.Nodup := by decide +kernel
  wHx cxf_def fun hx => (jb_cons (js_set (i := 1) (je_calD hx (c_checked_row Q) hr rfl (ja_cons (e_v 0) ja_nil)) hN rfl (by first | exact .inl rfl | exact .inr rfl)) (jb_cons (js_if (jt_cmp (o_eq hr) (e_len Q.n_len (ja_cons (e_v 1) ja_nil)) e_i) (jb_one (js_raise hx rfl PySem.F.excBase_ValueError (Q.x_BadRow).1 (Q.g_BadRow) (Q.x_BadRow).2.1 (raises_own (Q.x_BadRow).2.2.1 (Q.x_BadRow).2.2.2) rfl)) jb_nil) (jb_cons (js_set (i := 2) (je_lst ja_nil) hN rfl (by first | exact .inl rfl | exact .inr rfl)) (jb_cons (js_set (i := 3) (je_cal hx (c_first_of Q) hr rfl (ja_cons (e_v 1) ja_nil)) hN rfl (by first | exact .inl rfl | exact .inr rfl)) (jb_cons (js_while (M0 := [.fz, .fz, .ow, .fz, .un, .un]) 1000000 hx.own (jt_cmp o_isNot (e_v 3) e_n) (jb_weakN (Mn := [.fz, .fz, .ow, .fz, .fz, .fz]) (Mn' := [.fz, .fz, .ow, .fz, .un, .un]) (jb_cons (js_asg (e_v 3) (jg_tup (n := 2) rfl (jgs_cons (g_n 4 (hN := hN)) (jgs_cons (g_n 5 (hN := hN)) g_0)))) (jb_cons (js_expr (e_app 2 (pv 2) (ja_cons (je_tup (ja_cons (e_v 4) (ja_cons (je_sl (e_v 1) (jo_some (e_v 4)) (jo_some (e_v 5))) ja_nil))) ja_nil))) (jb_cons (js_set (i := 1) (je_bin o_addA (je_sl (e_v 1) jo_none (jo_some (e_v 4))) (je_sl (e_v 1) (jo_some (e_v 5)) jo_none)) hN rfl (by first | exact .inl rfl | exact .inr rfl)) (jb_one (js_set (i := 3) (je_cal hx (c_first_of Q) hr rfl (ja_cons (e_v 1) ja_nil)) hN rfl (by first | exact .inl rfl | exact .inr rfl)))))))) (jb_one (js_ret (je_tup (ja_cons (e_v 1) (ja_cons (e_tuple Q.n_tuple (ja_cons (e_o 2) ja_nil)) ja_nil))))))))))
theorem c_cut_down (Q : Fs pr K mg base T) : Cal pr w K mg base (cc K T) "cut_down" 5 ["row"] false 1 .fz d_cut_down [] := by
  obtain ⟨f, fd, F, hm⟩ := Q.f_cut_down
  exact mkCal (fn_ok false F sc_cut_down rfl rfl (by decide) (by first | exact .inl rfl | exact .inr rfl) fun cdv A outer s H E e hr => j_cut_down Q cdv A outer s H E hr) hm F.kp (F.bindsN fun _ _ _ _ _ _ us hl => match us, hl with | [_], _ => rfl)

/-! grow -/
def N_grow : List Str := ["row", "log", "pieces", "entries", "total", "place", "section"]
theorem sc_grow : FnScope N_grow ["row", "log"] (defScope (top 36)) := ⟨rfl, rfl, rfl, by decide +kernel, rfl, by decide +kernel, by decide +kernel⟩
theorem j_grow {fa : Addr} (Q : Fs pr K mg base T) (cdv : Value) (A : Around) (outer : List Env) (s : Shared) (H : Hp) (E : XK) (hr : Room 4 (A.deeper (envOfC "grow" (defScope (top 36)) s.heap.objs.size fa cdv))) :
    JB ⟨cc K T, ioOf false, E⟩ (cxOf (L2N.CX pr w) pr w K mg base N_grow "grow" (defScope (top 36)) fa cdv A outer s H E) (defBody (top 36)) (argM false 2 ++ List.replicate 5 .un) [.un, .un, .un, .un, .un, .un, .un] [.fz, .fz, .un, .un, .un, .un, .un] [.fz, .fz, .un, .un, .un, .un, .un] .fz s_grow :=
  have hN : N_grow.Nodup := by decide +kernel
  wHx cxf_def fun hx => (jb_cons (js_set (i := 2) (je_calD hx (c_checked_row Q) hr rfl (ja_cons (e_v 0) ja_nil)) hN rfl (by first | exact .inl rfl | exact .inr rfl)) (jb_cons (js_set (i := 3) (je_cal hx (c_checked_log Q) hr rfl (ja_cons (e_v 1) ja_nil)) hN rfl (by first | exact .inl rfl | exact .inr rfl)) (jb_cons (js_set (i := 4) (e_len Q.n_len (ja_cons (e_v 2) ja_nil)) hN rfl (by first | exact .inl rfl | exact .inr rfl)) (jb_cons (js_for (M0 := [.fz, .fz, .fz, .fz, .fz, .un, .un]) (M2 := [.fz, .fz, .fz, .fz, .fz, .fz, .fz]) hx.own rfl (ji_seq (e_v 3)) (jg_tup (n := 2) rfl (jgs_cons (g_n 5 (hN := hN)) (jgs_cons (g_n 6 (hN := hN)) g_0))) (jb_weakN (Mn := [.fz, .fz, .fz, .fz, .fz, .fz, .fz]) (Mn' := [.fz, .fz, .fz, .fz, .fz, .un, .un]) (jb_one (js_aug (i := 4) (e_len Q.n_len (ja_cons (e_v 6) ja_nil)) i_add hN rfl (by first | exact .inl rfl | exact .inr rfl))))) (jb_cons (js_if (jt_cmp o_gt (e_v 4) (e_g Q.i_PIECES)) (jb_one (js_raiseF hx rfl Q.y_TooMany Q.g_TooMany Q.n_super hr rfl e_i)) jb_nil) (jb_cons (js_for (M0 := [.fz, .fz, .fz, .fz, .fz, .un, .un]) (M2 := [.fz, .fz, .fz, .fz, .fz, .fz, .fz]) hx.own rfl (ji_rev rfl Q.n_reversed (e_v 3)) (jg_tup (n := 2) rfl (jgs_cons (g_n 5 (hN := hN)) (jgs_cons (g_n 6 (hN := hN)) g_0))) (jb_weakN (Mn := [.fz, .fz, .fz, .fz, .fz, .fz, .fz]) (Mn' := [.fz, .fz, .fz, .fz, .fz, .un, .un]) (jb_cons (js_if (jt_cmp o_gt (e_v 5) (e_len Q.n_len (ja_cons (e_v 2) ja_nil))) (jb_one (js_raise hx rfl PySem.F.excBase_ValueError (Q.x_Outside).1 (Q.g_Outside) (Q.x_Outside).2.1 (raises_own (Q.x_Outside).2.2.1 (Q.x_Outside).2.2.2) rfl)) jb_nil) (jb_one (js_set (i := 2) (je_bin o_addA (je_bin o_addA (je_sl (e_v 2) jo_none (jo_some (e_v 5))) (e_v 6)) (je_sl (e_v 2) (jo_some (e_v 5)) jo_none)) hN rfl (by first | exact .inl rfl | exact .inr rfl)))))) (jb_one (js_ret (e_v 2)))))))))
theorem c_grow (Q : Fs pr K mg base T) : Cal pr w K mg base (cc K T) "grow" 5 ["row", "log"] false 2 .fz d_grow [] := by
  obtain ⟨f, fd, F, hm⟩ := Q.f_grow
  exact mkCal (fn_ok false F sc_grow rfl rfl (by decide) (by first | exact .inl rfl | exact .inr rfl) fun cdv A outer s H E e hr => j_grow Q cdv A outer s H E hr) hm F.kp (F.bindsN fun _ _ _ _ _ _ us hl => match us, hl with | [_, _], _ => rfl)

/-! judge_log -/
def N_judge_log : List Str := ["row", "log", "left", "pieces", "entries", "start", "section", "stop"]
theorem sc_judge_log : FnScope N_judge_log ["row", "log", "left"] (defScope (top 37)) := ⟨rfl, rfl, rfl, by decide +kernel, rfl, by decide +kernel, by decide +kernel⟩
theorem j_judge_log {fa : Addr} (Q : Fs pr K mg base T) (cdv : Value) (A : Around) (outer : List Env) (s : Shared) (H : Hp) (E : XK) (hr : Room 5 (A.deeper (envOfC "judge_log" (defScope (top 37)) s.heap.objs.size fa cdv))) :
    JB ⟨cc K T, ioOf false, E⟩ (cxOf (L2N.CX pr w) pr w K mg base N_judge_log "judge_log" (defScope (top 37)) fa cdv A outer s H E) (defBody (top 37)) (argM false 3 ++ List.replicate 5 .un) [.un, .un, .un, .un, .un, .un, .un, .un] [.fz, .fz, .fz, .un, .un, .un, .un, .un] [.fz, .fz, .fz, .un, .un, .un, .un, .un] .fz s_judge_log :=
  have hN : N_judge_log.Nodup := by decide +kernel
  wHx cxf_def fun hx => (jb_cons (js_set (i := 3) (je_calD hx (c_checked_row Q) hr rfl (ja_cons (e_v 0) ja_nil)) hN rfl (by first | exact .inl rfl | exact .inr rfl)) (jb_cons (js_set (i := 4) (je_cal hx (c_checked_log Q) hr rfl (ja_cons (e_v 1) ja_nil)) hN rfl (by first | exact .inl rfl | exact .inr rfl)) (jb_cons (js_if (jt_not (jt_val (je_cal hx (c_is_row Q) hr rfl (ja_cons (e_v 2) (ja_cons (e_g Q.i_KINDS) ja_nil))))) (jb_one (js_raise hx rfl PySem.F.excBase_ValueError (Q.x_BadPaper).1 (Q.g_BadPaper) (Q.x_BadPaper).2.1 (raises_own (Q.x_BadPaper).2.2.1 (Q.x_BadPaper).2.2.2) rfl)) jb_nil) (jb_cons (js_for (M0 := [.fz, .fz, .fz, .fz, .fz, .un, .un, .un]) (M2 := [.fz, .fz, .fz, .fz, .fz, .fz, .fz, .un]) hx.own rfl (ji_seq (e_v 4)) (jg_tup (n := 2) rfl (jgs_cons (g_n 5 (hN := hN)) (jgs_cons (g_n 6 (hN := hN)) g_0))) (jb_weakN (Mn := [.fz, .fz, .fz, .fz, .fz, .fz, .fz, .fz]) (Mn' := [.fz, .fz, .fz, .fz, .fz, .un, .un, .un]) (jb_cons (js_set (i := 7) (je_bin o_addA (e_v 5) (e_len Q.n_len (ja_cons (e_v 6) ja_nil))) hN rfl (by first | exact .inl rfl | exact .inr rfl)) (jb_cons (js_if (jt_w (jw_or (jt_not (jt_val (je_cal hx (c_is_cut Q) hr rfl (ja_cons (e_v 3) (ja_cons (e_v 5) (ja_cons (e_v 7) ja_nil)))))) (jw_or1 (jt_cmp (o_ne hr) (je_sl (e_v 3) (jo_some (e_v 5)) (jo_some (e_v 7))) (e_v 6))))) (jb_one (js_ret e_s)) jb_nil) (jb_one (js_set (i := 3) (je_bin o_addA (je_sl (e_v 3) jo_none (jo_some (e_v 5))) (je_sl (e_v 3) (jo_some (e_v 7)) jo_none)) hN rfl (by first | exact .inl rfl | exact .inr rfl))))))) (jb_cons (js_if (jt_cmp (o_ne hr) (e_v 3) (e_tuple Q.n_tuple (ja_cons (e_v 2) ja_nil))) (jb_one (js_ret e_s)) jb_nil) (jb_cons (js_if (jt_not (jt_val (je_cal hx (c_is_short Q) hr rfl (ja_cons (e_v 3) ja_nil)))) (jb_one (js_ret e_s)) jb_nil) (jb_one (js_ret e_s))))))))
theorem c_judge_log (Q : Fs pr K mg base T) : Cal pr w K mg base (cc K T) "judge_log" 6 ["row", "log", "left"] false 3 .fz d_judge_log [] := by
  obtain ⟨f, fd, F, hm⟩ := Q.f_judge_log
  exact mkCal (fn_ok false F sc_judge_log rfl rfl (by decide) (by first | exact .inl rfl | exact .inr rfl) fun cdv A outer s H E e hr => j_judge_log Q cdv A outer s H E hr) hm F.kp (F.bindsN fun _ _ _ _ _ _ us hl => match us, hl with | [_, _, _], _ => rfl)

/-! _law_store -/
def N__law_store : List Str := ["script", "cells", "seed", "cell", "small"]
theorem sc__law_store : FnScope N__law_store ["script"] (defScope (top 39)) := ⟨rfl, rfl, rfl, by decide +kernel, rfl, by decide +kernel, by decide +kernel⟩
theorem j__law_store {fa : Addr} (Q : Fs pr K mg base T) (cdv : Value) (A : Around) (outer : List Env) (s : Shared) (H : Hp) (E : XK) (hr : Room 0 (A.deeper (envOfC "_law_store" (defScope (top 39)) s.heap.objs.size fa cdv))) :
    JB ⟨cc K T, ioOf false, E⟩ (cxOf (L2N.CX pr w) pr w K mg base N__law_store "_law_store" (defScope (top 39)) fa cdv A outer s H E) (defBody (top 39)) (argM false 1 ++ List.replicate 4 .un) [.un, .un, .un, .un, .un] [.fz, .un, .un, .un, .un] [.fz, .un, .un, .un, .un] .fr s__law_store :=
  have hN : N__law_store.Nodup := by decide +kernel
  wHx cxf_def fun hx => (jb_cons (js_set (i := 1) (je_lst ja_nil) hN rfl (by first | exact .inl rfl | exact .inr rfl)) (jb_cons (js_set (i := 2) e_i hN rfl (by first | exact .inl rfl | exact .inr rfl)) (jb_cons (js_for (M0 := [.fz, .ow, .fz, .un, .un]) (M2 := [.fz, .ow, .fz, .fz, .un]) hx.own rfl (ji_scr rfl (e_v 0)) (g_n 3 (hN := hN)) (jb_weakN (Mn := [.fz, .ow, .fz, .fz, .fz]) (Mn' := [.fz, .ow, .fz, .un, .un]) (jb_cons (js_set (i := 4) (je_bin o_mod (e_int Q.n_int (ja_cons (e_v 3) ja_nil)) e_i) hN rfl (by first | exact .inl rfl | exact .inr rfl)) (jb_cons (js_set (i := 2) (je_bin o_mod (e_int Q.n_int (ja_cons (je_bin o_addA (je_bin o_addA (je_bin o_mulA (e_v 2) e_i) (e_v 4)) e_i) ja_nil)) e_i) hN rfl (by first | exact .inl rfl | exact .inr rfl)) (jb_one (js_if (jt_cmp o_lt (e_v 3) (je_bin o_pow e_i e_i)) (jb_one (js_expr (e_app 1 (pv 1) (ja_cons (je_tup (ja_cons e_i (ja_cons (e_v 4) ja_nil))) ja_nil)))) (jb_one (js_expr (e_app 1 (pv 1) (ja_cons (je_tup (ja_cons e_i (ja_cons (je_bin o_mod (e_int Q.n_int (ja_cons (e_v 3) ja_nil)) (je_bin o_pow (je_bin o_pow e_i e_i) e_i)) ja_nil))) ja_nil)))))))))) (jb_one (js_ret (je_lst (ja_cons (e_f 1) (ja_cons e_i (ja_cons e_i (ja_cons e_i (ja_cons (e_v 2) ja_nil)))))))))))
theorem c__law_store (Q : Fs pr K mg base T) : Cal pr w K mg base (cc K T) "_law_store" 1 ["script"] false 1 .fr d__law_store [] := by
  obtain ⟨f, fd, F, hm⟩ := Q.f__law_store
  exact mkCal (fn_ok false F sc__law_store rfl rfl (by decide) (by first | exact .inl rfl | exact .inr rfl) fun cdv A outer s H E e hr => j__law_store Q cdv A outer s H E hr) hm F.kp (F.bindsN fun _ _ _ _ _ _ us hl => match us, hl with | [_], _ => rfl)

/-! _law_mix -/
def N__law_mix : List Str := ["cell", "turn", "one", "two", "three"]
theorem sc__law_mix : FnScope N__law_mix ["cell", "turn"] (defScope (top 40)) := ⟨rfl, rfl, rfl, by decide +kernel, rfl, by decide +kernel, by decide +kernel⟩
theorem j__law_mix {fa : Addr} (Q : Fs pr K mg base T) (cdv : Value) (A : Around) (outer : List Env) (s : Shared) (H : Hp) (E : XK) (hr : Room 0 (A.deeper (envOfC "_law_mix" (defScope (top 40)) s.heap.objs.size fa cdv))) :
    JB ⟨cc K T, ioOf false, E⟩ (cxOf (L2N.CX pr w) pr w K mg base N__law_mix "_law_mix" (defScope (top 40)) fa cdv A outer s H E) (defBody (top 40)) (argM false 2 ++ List.replicate 3 .un) [.un, .un, .un, .un, .un] [.fz, .fz, .un, .un, .un] [.fz, .fz, .un, .un, .un] .fz s__law_mix :=
  have hN : N__law_mix.Nodup := by decide +kernel
  wHx cxf_def fun hx => (jb_cons (js_set (i := 2) (je_bin o_mod (e_int Q.n_int (ja_cons (je_bin o_addA (je_bin o_addA (je_bin o_mulA (e_v 0) e_i) (je_bin o_mulA (e_v 1) e_i)) e_i) ja_nil)) e_i) hN rfl (by first | exact .inl rfl | exact .inr rfl)) (jb_cons (js_set (i := 3) (je_bin o_mod (e_int Q.n_int (ja_cons (je_bin o_addA (je_bin o_addA (je_bin o_mulA (e_v 2) (e_v 2)) (je_bin o_mulA (e_v 1) e_i)) (e_v 0)) ja_nil)) e_i) hN rfl (by first | exact .inl rfl | exact .inr rfl)) (jb_cons (js_set (i := 4) (je_bin o_mod (e_int Q.n_int (ja_cons (je_bin o_addA (je_bin o_addA (je_bin o_mulA (e_v 3) e_i) (je_bin o_mulA (e_v 2) e_i)) (e_v 1)) ja_nil)) e_i) hN rfl (by first | exact .inl rfl | exact .inr rfl)) (jb_one (js_ret (je_bin o_addA (je_bin o_mulA (e_v 3) e_i) (e_v 4)))))))
theorem c__law_mix (Q : Fs pr K mg base T) : Cal pr w K mg base (cc K T) "_law_mix" 1 ["cell", "turn"] false 2 .fz d__law_mix [] := by
  obtain ⟨f, fd, F, hm⟩ := Q.f__law_mix
  exact mkCal (fn_ok false F sc__law_mix rfl rfl (by decide) (by first | exact .inl rfl | exact .inr rfl) fun cdv A outer s H E e hr => j__law_mix Q cdv A outer s H E hr) hm F.kp (F.bindsN fun _ _ _ _ _ _ us hl => match us, hl with | [_, _], _ => rfl)

/-! _law_take -/
def N__law_take : List Str := ["store", "many", "sort_of", "cell", "digit"]
theorem sc__law_take : FnScope N__law_take ["store", "many"] (defScope (top 41)) := ⟨rfl, rfl, rfl, by decide +kernel, rfl, by decide +kernel, by decide +kernel⟩
theorem j__law_take {fa : Addr} (Q : Fs pr K mg base T) (cdv : Value) (A : Around) (outer : List Env) (s : Shared) (H : Hp) (E : XK) (hr : Room 1 (A.deeper (envOfC "_law_take" (defScope (top 41)) s.heap.objs.size fa cdv))) :
    JB ⟨cc K T, ioOf true, E⟩ (cxOf (L2N.CX pr w) pr w K mg base N__law_take "_law_take" (defScope (top 41)) fa cdv A outer s H E) (defBody (top 41)) (argM true 2 ++ List.replicate 3 .un) [.un, .un, .un, .un, .un] [.ow, .fz, .un, .un, .un] [.ow, .fz, .un, .un, .un] .fz s__law_take :=
  have hN : N__law_take.Nodup := by decide +kernel
  wHx cxf_def fun hx => (jb_cons (js_if (jt_cmp o_lt (e_v 1) e_i) (jb_one (js_ret e_i)) jb_nil) (jb_cons (js_setAt (i := 0) (je_bin o_addA (je_ixA hr (e_o 0) e_i) e_i) (pv 0) rfl e_i rfl) (jb_cons (js_if (jt_w (jw_and (jt_cmp (o_eq hr) (je_ixA hr (e_o 0) e_i) e_i) (jw_and1 (jt_cmp o_lt (je_ixA hr (e_o 0) e_i) (e_len Q.n_len (ja_cons (je_ixA hr (e_o 0) e_i) ja_nil)))))) (jb_weakN (Mn := [.ow, .fz, .fz, .fz, .un]) (Mn' := [.ow, .fz, .un, .un, .un]) (jb_cons (js_asg (je_ixA hr (je_ixA hr (e_o 0) e_i) (je_ixA hr (e_o 0) e_i)) (jg_tup (n := 2) rfl (jgs_cons (g_n 2 (hN := hN)) (jgs_cons (g_n 3 (hN := hN)) g_0)))) (jb_cons (js_setAt (i := 0) (je_bin o_addA (je_ixA hr (e_o 0) e_i) e_i) (pv 0) rfl e_i rfl) (jb_cons (js_if (jt_cmp (o_eq hr) (e_v 2) e_i) (jb_one (js_ret (je_bin o_mod (e_int Q.n_int (ja_cons (je_cal hx (c__law_mix Q) hr rfl (ja_cons (e_v 3) (ja_cons (je_ixA hr (e_o 0) e_i) ja_nil))) ja_nil)) (e_v 1)))) jb_nil) (jb_one (js_setAt (i := 0) (e_v 3) (pv 0) rfl e_i rfl)))))) jb_nil) (jb_cons (js_if (jt_cmp o_gt (je_ixA hr (e_o 0) e_i) e_i) (jb_cons (js_set (i := 4) (je_bin o_mod (e_int Q.n_int (ja_cons (je_ixA hr (e_o 0) e_i) ja_nil)) (e_v 1)) hN rfl (by first | exact .inl rfl | exact .inr rfl)) (jb_cons (js_setAt (i := 0) (je_bin o_fdiv (je_ixA hr (e_o 0) e_i) (e_v 1)) (pv 0) rfl e_i rfl) (jb_one (js_ret (e_v 4))))) jb_nil) (jb_cons (js_setAt (i := 0) (je_bin o_mod (e_int Q.n_int (ja_cons (je_bin o_addA (je_bin o_addA (je_bin o_mulA (je_ixA hr (e_o 0) e_i) e_i) (je_bin o_mulA (je_ixA hr (e_o 0) e_i) e_i)) e_i) ja_nil)) e_i) (pv 0) rfl e_i rfl) (jb_one (js_ret (je_bin o_mod (e_int Q.n_int (ja_cons (je_cal hx (c__law_mix Q) hr rfl (ja_cons (je_ixA hr (e_o 0) e_i) (ja_cons (je_ixA hr (e_o 0) e_i) ja_nil))) ja_nil)) (e_v 1)))))))))
theorem c__law_take (Q : Fs pr K mg base T) : Cal pr w K mg base (cc K T) "_law_take" 2 ["store", "many"] true 2 .fz d__law_take [] := by
  obtain ⟨f, fd, F, hm⟩ := Q.f__law_take
  exact mkCal (fn_ok true F sc__law_take rfl rfl (by decide) (by first | exact .inl rfl | exact .inr rfl) fun cdv A outer s H E e hr => j__law_take Q cdv A outer s H E hr) hm F.kp (F.bindsN fun _ _ _ _ _ _ us hl => match us, hl with | [_, _], _ => rfl)

/-! _law_pick -/
def N__law_pick : List Str := ["store", "things"]
theorem sc__law_pick : FnScope N__law_pick ["store", "things"] (defScope (top 42)) := ⟨rfl, rfl, rfl, by decide +kernel, rfl, by decide +kernel, by decide +kernel⟩
theorem j__law_pick {fa : Addr} (Q : Fs pr K mg base T) (cdv : Value) (A : Around) (outer : List Env) (s : Shared) (H : Hp) (E : XK) (hr : Room 2 (A.deeper (envOfC "_law_pick" (defScope (top 42)) s.heap.objs.size fa cdv))) :
    JB ⟨cc K T, ioOf true, E⟩ (cxOf (L2N.CX pr w) pr w K mg base N__law_pick "_law_pick" (defScope (top 42)) fa cdv A outer s H E) (defBody (top 42)) (argM true 2 ++ List.replicate 0 .un) [.un, .un] [.ow, .fz] [.ow, .fz] .fz s__law_pick :=
  have hN : N__law_pick.Nodup := by decide +kernel
  wHx cxf_def fun hx => (jb_one (js_ret (je_ixA hr (e_v 1) (je_calS hx (c__law_take Q) hr rfl (ja_cons (e_o 0) (ja_cons (e_len Q.n_len (ja_cons (e_v 1) ja_nil)) ja_nil))))))
theorem c__law_pick (Q : Fs pr K mg base T) : Cal pr w K mg base (cc K T) "_law_pick" 3 ["store", "things"] true 2 .fz d__law_pick [] := by
  obtain ⟨f, fd, F, hm⟩ := Q.f__law_pick
  exact mkCal (fn_ok true F sc__law_pick rfl rfl (by decide) (by first | exact .inl rfl | exact .inr rfl) fun cdv A outer s H E e hr => j__law_pick Q cdv A outer s H E hr) hm F.kp (F.bindsN fun _ _ _ _ _ _ us hl => match us, hl with | [_, _], _ => rfl)

/-! _law_shaped -/
def N__law_shaped : List Str := ["thing", "way", "parts", "part"]
theorem sc__law_shaped : FnScope N__law_shaped ["thing", "way"] (defScope (top 43)) := ⟨rfl, rfl, rfl, by decide +kernel, rfl, by decide +kernel, by decide +kernel⟩
theorem j__law_shaped {n : Nat} {rec : Fn} {fa : Addr} (Q : Fs pr K mg base T) (cdv : Value) (Cr : Cal pr w K mg base (cc K T) "_law_shaped" (1 + n) ["thing", "way"] false 2 .fz rec []) (A : Around) (outer : List Env) (s : Shared) (H : Hp) (E : XK) (hr : Room (1 + n) (A.deeper (envOfC "_law_shaped" (defScope (top 43)) s.heap.objs.size fa cdv))) :
    JB ⟨cc K T, ioOf false, E⟩ (cxOf (L2N.CX pr w) pr w K mg base N__law_shaped "_law_shaped" (defScope (top 43)) fa cdv A outer s H E) (defBody (top 43)) (argM false 2 ++ List.replicate 2 .un) [.un, .un, .un, .un] [.fz, .fz, .un, .un] [.fz, .fz, .un, .un] .fz (s__law_shaped rec) :=
  have hN : N__law_shaped.Nodup := by decide +kernel
  wHx cxf_def fun hx => (jb_cons (js_if (jt_not (jt_val (je_isi2 tok_list tok_tuple (t_list Q.n_list) (t_tuple Q.n_tuple) rfl Q.n_isinstance (e_v 0)))) (jb_one (js_ret (e_v 0))) jb_nil) (jb_cons (js_setLcF (i := 2) (own := [("part", 3)]) rfl hN rfl (blkOk_by (by rfl)) (ji_seq (e_v 0)) (fun s H C cl fp => wHb (cxf_none rfl) fun hx => ⟨(g_n 3 (hN := hN)), jts_nil, (je_cal hx Cr hr rfl (ja_cons (e_v 3) (ja_cons (je_bin o_fdiv (e_v 1) e_i) ja_nil)) (by omega))⟩)) (jb_cons (js_if (jt_cmp (o_eq hr) (je_bin o_mod (e_int Q.n_int (ja_cons (e_v 1) ja_nil)) e_i) e_i) (jb_one (js_ret (e_v 2))) jb_nil) (jb_one (js_ret (e_tuple Q.n_tuple (ja_cons (e_v 2) ja_nil)))))))
theorem c__law_shaped (Q : Fs pr K mg base T) : ∀ n : Nat, Cal pr w K mg base (cc K T) "_law_shaped" (1 + n) ["thing", "way"] false 2 .fz (d__law_shaped n) []
  | 0 => by
    obtain ⟨f, fd, F, hm⟩ := Q.f__law_shaped
    exact cal_nope hm F.kp (F.bindsN fun _ _ _ _ _ _ us hl => match us, hl with | [_, _], _ => rfl)
  | n + 1 => by
    obtain ⟨f, fd, F, hm⟩ := Q.f__law_shaped
    exact mkCal (fn_ok false F sc__law_shaped rfl rfl (by decide) (by first | exact .inl rfl | exact .inr rfl) fun cdv A outer s H E e hr => j__law_shaped Q cdv (c__law_shaped Q n) A outer s H E hr) hm F.kp (F.bindsN fun _ _ _ _ _ _ us hl => match us, hl with | [_, _], _ => rfl)

/-! _law_same -/
def N__law_same : List Str := ["actual", "due", "pairs", "told", "asked", "k"]
theorem sc__law_same : FnScope N__law_same ["actual", "due"] (defScope (top 44)) := ⟨rfl, rfl, rfl, by decide +kernel, rfl, by decide +kernel, by decide +kernel⟩
theorem j__law_same {fa : Addr} (Q : Fs pr K mg base T) (cdv : Value) (A : Around) (outer : List Env) (s : Shared) (H : Hp) (E : XK) (hr : Room 0 (A.deeper (envOfC "_law_same" (defScope (top 44)) s.heap.objs.size fa cdv))) :
    JB ⟨cc K T, ioOf false, E⟩ (cxOf (L2N.CX pr w) pr w K mg base N__law_same "_law_same" (defScope (top 44)) fa cdv A outer s H E) (defBody (top 44)) (argM false 2 ++ List.replicate 4 .un) [.un, .un, .un, .un, .un, .un] [.fz, .fz, .un, .un, .un, .un] [.fz, .fz, .un, .un, .un, .un] .fz s__law_same :=
  have hN : N__law_same.Nodup := by decide +kernel
  wHx cxf_def fun hx => (jb_cons (js_set (i := 2) (je_lst (ja_cons (je_tup (ja_cons (e_v 0) (ja_cons (e_v 1) ja_nil))) ja_nil)) hN rfl (by first | exact .inl rfl | exact .inr rfl)) (jb_cons (js_while (M0 := [.fz, .fz, .ow, .un, .un, .un]) 1000000 hx.own (jt_cmp o_gt (e_len Q.n_len (ja_cons (e_o 2) ja_nil)) e_i) (jb_weakN (Mn := [.fz, .fz, .ow, .fz, .fz, .un]) (Mn' := [.fz, .fz, .ow, .un, .un, .un]) (jb_cons (js_asg (e_pop 2 (pv 2)) (jg_tup (n := 2) rfl (jgs_cons (g_n 3 (hN := hN)) (jgs_cons (g_n 4 (hN := hN)) g_0)))) (jb_one (js_if (jt_w (jw_or (jt_cmp o_is (e_v 4) e_n) (jw_or (jt_cmp o_is (e_v 4) e_b) (jw_or1 (jt_cmp o_is (e_v 4) e_b))))) (jb_cons (js_if (jt_w (jw_and (jt_not (jt_val (je_isi tok_bool (t_bool Q.n_bool) rfl Q.n_isinstance (e_v 3)))) (jw_and1 (jt_cmp o_isNot (e_v 3) e_n)))) (jb_one (js_ret e_b)) jb_nil) (jb_one (js_if (jt_w (jw_or (jt_cmp (o_ne hr) (je_cmp o_is (e_v 3) e_n) (je_cmp o_is (e_v 4) e_n)) (jw_or1 (jt_cmp (o_ne hr) (je_cmp o_is (e_v 3) e_b) (je_cmp o_is (e_v 4) e_b))))) (jb_one (js_ret e_b)) jb_nil))) (jb_one (js_if (jt_val (je_isi tok_int (t_int Q.n_int) rfl Q.n_isinstance (e_v 4))) (jb_one (js_if (jt_w (jw_or (jt_not (jt_val (je_isi tok_int (t_int Q.n_int) rfl Q.n_isinstance (e_v 3)))) (jw_or (jt_val (je_isi tok_bool (t_bool Q.n_bool) rfl Q.n_isinstance (e_v 3))) (jw_or1 (jt_cmp (o_ne hr) (e_v 3) (e_v 4)))))) (jb_one (js_ret e_b)) jb_nil)) (jb_one (js_if (jt_val (je_isi tok_str (t_str Q.n_str) rfl Q.n_isinstance (e_v 4))) (jb_one (js_if (jt_w (jw_or (jt_not (jt_val (je_isi tok_str (t_str Q.n_str) rfl Q.n_isinstance (e_v 3)))) (jw_or1 (jt_cmp (o_ne hr) (e_v 3) (e_v 4))))) (jb_one (js_ret e_b)) jb_nil)) (jb_one (js_if (jt_val (je_isi2 tok_list tok_tuple (t_list Q.n_list) (t_tuple Q.n_tuple) rfl Q.n_isinstance (e_v 4))) (jb_cons (js_if (jt_w (jw_or (jt_not (jt_val (je_isi2 tok_list tok_tuple (t_list Q.n_list) (t_tuple Q.n_tuple) rfl Q.n_isinstance (e_v 3)))) (jw_or1 (jt_cmp (o_ne hr) (je_isi tok_list (t_list Q.n_list) rfl Q.n_isinstance (e_v 3)) (je_isi tok_list (t_list Q.n_list) rfl Q.n_isinstance (e_v 4)))))) (jb_one (js_ret e_b)) jb_nil) (jb_cons (js_if (jt_cmp (o_ne hr) (e_len Q.n_len (ja_cons (e_v 3) ja_nil)) (e_len Q.n_len (ja_cons (e_v 4) ja_nil))) (jb_one (js_ret e_b)) jb_nil) (jb_one (js_for (M0 := [.fz, .fz, .ow, .fz, .fz, .un]) (M2 := [.fz, .fz, .ow, .fz, .fz, .fz]) hx.own rfl (ji_range1 rfl Q.n_range (ja_cons (e_len Q.n_len (ja_cons (e_v 4) ja_nil)) ja_nil)) (g_n 5 (hN := hN)) (jb_weakN (Mn := [.fz, .fz, .ow, .fz, .fz, .fz]) (Mn' := [.fz, .fz, .ow, .fz, .fz, .un]) (jb_one (js_expr (e_app 2 (pv 2) (ja_cons (je_tup (ja_cons (je_ixA hr (e_v 3) (e_v 5)) (ja_cons (je_ixA hr (e_v 4) (e_v 5)) ja_nil))) ja_nil))))))))) (jb_one (js_ret e_b))))))))))))) (jb_one (js_ret e_b))))
theorem c__law_same (Q : Fs pr K mg base T) : Cal pr w K mg base (cc K T) "_law_same" 1 ["actual", "due"] false 2 .fz d__law_same [] := by
  obtain ⟨f, fd, F, hm⟩ := Q.f__law_same
  exact mkCal (fn_ok false F sc__law_same rfl rfl (by decide) (by first | exact .inl rfl | exact .inr rfl) fun cdv A outer s H E e hr => j__law_same Q cdv A outer s H E hr) hm F.kp (F.bindsN fun _ _ _ _ _ _ us hl => match us, hl with | [_, _], _ => rfl)

/-! _law_plain -/
def N__law_plain : List Str := ["actual", "parts", "k", "part", "x"]
theorem sc__law_plain : FnScope N__law_plain ["actual"] (defScope (top 45)) := ⟨rfl, rfl, rfl, by decide +kernel, rfl, by decide +kernel, by decide +kernel⟩
theorem j__law_plain {fa : Addr} (Q : Fs pr K mg base T) (cdv : Value) (A : Around) (outer : List Env) (s : Shared) (H : Hp) (E : XK) (hr : Room 0 (A.deeper (envOfC "_law_plain" (defScope (top 45)) s.heap.objs.size fa cdv))) :
    JB ⟨cc K T, ioOf false, E⟩ (cxOf (L2N.CX pr w) pr w K mg base N__law_plain "_law_plain" (defScope (top 45)) fa cdv A outer s H E) (defBody (top 45)) (argM false 1 ++ List.replicate 4 .un) [.un, .un, .un, .un, .un] [.fz, .un, .un, .un, .un] [.fz, .un, .un, .un, .un] .fz s__law_plain :=
  have hN : N__law_plain.Nodup := by decide +kernel
  wHx cxf_def fun hx => (jb_cons (js_set (i := 1) (je_lst (ja_cons (e_v 0) ja_nil)) hN rfl (by first | exact .inl rfl | exact .inr rfl)) (jb_cons (js_for (M0 := [.fz, .ow, .un, .un, .un]) (M2 := [.fz, .ow, .fz, .un, .un]) hx.own rfl (ji_range1 rfl Q.n_range (ja_cons e_i ja_nil)) (g_n 2 (hN := hN)) (jb_weakN (Mn := [.fz, .ow, .fz, .fz, .un]) (Mn' := [.fz, .ow, .un, .un, .un]) (jb_cons (js_if (jt_cmp (o_eq hr) (e_len Q.n_len (ja_cons (e_o 1) ja_nil)) e_i) (jb_one (js_ret e_b)) jb_nil) (jb_cons (js_set (i := 3) (e_pop 1 (pv 1)) hN rfl (by first | exact .inl rfl | exact .inr rfl)) (jb_one (js_if (jt_val (je_isi tok_tuple (t_tuple Q.n_tuple) rfl Q.n_isinstance (e_v 3))) (jb_one (js_for (M0 := [.fz, .ow, .fz, .fz, .un]) (M2 := [.fz, .ow, .fz, .fz, .fz]) hx.own rfl (ji_seq (e_v 3)) (g_n 4 (hN := hN)) (jb_weakN (Mn := [.fz, .ow, .fz, .fz, .fz]) (Mn' := [.fz, .ow, .fz, .fz, .un]) (jb_one (js_expr (e_app 1 (pv 1) (ja_cons (e_v 4) ja_nil))))))) (jb_one (js_if (jt_w (jw_and (jt_cmp o_isNot (e_v 3) e_n) (jw_and1 (jt_not (jt_val (je_isi2 tok_int tok_str (t_int Q.n_int) (t_str Q.n_str) rfl Q.n_isinstance (e_v 3))))))) (jb_one (js_ret e_b)) jb_nil)))))))) (jb_one (js_ret e_b))))
theorem c__law_plain (Q : Fs pr K mg base T) : Cal pr w K mg base (cc K T) "_law_plain" 1 ["actual"] false 1 .fz d__law_plain [] := by
  obtain ⟨f, fd, F, hm⟩ := Q.f__law_plain
  exact mkCal (fn_ok false F sc__law_plain rfl rfl (by decide) (by first | exact .inl rfl | exact .inr rfl) fun cdv A outer s H E e hr => j__law_plain Q cdv A outer s H E hr) hm F.kp (F.bindsN fun _ _ _ _ _ _ us hl => match us, hl with | [_], _ => rfl)

/-! _law_answer -/
def N__law_answer : List Str := ["call", "e", "found", "names", "value", "k"]
theorem sc__law_answer : FnScope N__law_answer ["call"] (defScope (top 46)) := ⟨rfl, rfl, rfl, by decide +kernel, rfl, by decide +kernel, by decide +kernel⟩
theorem j__law_answer {X : Cx} {g : Addr} {cdg : Value} (Q : Fs X.prog X.K X.mg X.base T) (s : Shared) (H : Hp) (a0 : Addr) (oe : Obj) (x0 : Str) (dd : Option Addr) (pn : List (Addr × Obj)) (hx0 : x0 ∈ xsE) (hz : L2N.Zn (.ref (He.ga X.K x0)) dd oe) (hf : ∃ vs, oe.data = .fields vs) :
    JB ⟨cc X.K T, [], E0⟩ ((cxOf C8.CX0 X.prog X.w X.K X.mg X.base N__law_answer "_law_answer" (defScope (top 46)) g cdg X.A X.stack s H C8.E0).nox.suite a0 ((a0, oe) :: pn)) (trySuite (defBody (top 46))) ((Md.fz :: List.replicate 5 Md.un).set 1 .fz) [.un, .un, .un, .un, .un, .un] [.fz, .fz, .un, .un, .un, .un] [.fz, .fz, .un, .un, .un, .un] .fz (s__law_answer a0 dd x0) :=
  have hN : N__law_answer.Nodup := by decide +kernel
  (jb_cons (js_set (i := 2) (je_lst (ja_cons (je_isE (i := 1) (Q.exc x0 hx0) hz hf (Q.kit x0 hx0 "BadNumber" (by decide)) Q.n_isinstance Q.g_BadNumber) (ja_cons (je_isE (i := 1) (Q.exc x0 hx0) hz hf (Q.kit x0 hx0 "BadTable" (by decide)) Q.n_isinstance Q.g_BadTable) (ja_cons (je_isE (i := 1) (Q.exc x0 hx0) hz hf (Q.kit x0 hx0 "BadKind" (by decide)) Q.n_isinstance Q.g_BadKind) (ja_cons (je_isE (i := 1) (Q.exc x0 hx0) hz hf (Q.kit x0 hx0 "BadLot" (by decide)) Q.n_isinstance Q.g_BadLot) ja_nil))))) hN rfl (by first | exact .inl rfl | exact .inr rfl)) (jb_cons (js_set (i := 2) (je_bin o_cat (e_o 2) (je_lst (ja_cons (je_isE (i := 1) (Q.exc x0 hx0) hz hf (Q.kit x0 hx0 "BadOrder" (by decide)) Q.n_isinstance Q.g_BadOrder) (ja_cons (je_isE (i := 1) (Q.exc x0 hx0) hz hf (Q.kit x0 hx0 "BadBatch" (by decide)) Q.n_isinstance Q.g_BadBatch) (ja_cons (je_isE (i := 1) (Q.exc x0 hx0) hz hf (Q.kit x0 hx0 "BadRow" (by decide)) Q.n_isinstance Q.g_BadRow) ja_nil))))) hN rfl (by first | exact .inl rfl | exact .inr rfl)) (jb_cons (js_set (i := 2) (je_bin o_cat (e_o 2) (je_lst (ja_cons (je_isE (i := 1) (Q.exc x0 hx0) hz hf (Q.kit x0 hx0 "BadFold" (by decide)) Q.n_isinstance Q.g_BadFold) (ja_cons (je_isE (i := 1) (Q.exc x0 hx0) hz hf (Q.kit x0 hx0 "BadRing" (by decide)) Q.n_isinstance Q.g_BadRing) (ja_cons (je_isE (i := 1) (Q.exc x0 hx0) hz hf (Q.kit x0 hx0 "BadSlot" (by decide)) Q.n_isinstance Q.g_BadSlot) ja_nil))))) hN rfl (by first | exact .inl rfl | exact .inr rfl)) (jb_cons (js_set (i := 2) (je_bin o_cat (e_o 2) (je_lst (ja_cons (je_isE (i := 1) (Q.exc x0 hx0) hz hf (Q.kit x0 hx0 "BadPaper" (by decide)) Q.n_isinstance Q.g_BadPaper) (ja_cons (je_isE (i := 1) (Q.exc x0 hx0) hz hf (Q.kit x0 hx0 "BadRule" (by decide)) Q.n_isinstance Q.g_BadRule) (ja_cons (je_isE (i := 1) (Q.exc x0 hx0) hz hf (Q.kit x0 hx0 "Outside" (by decide)) Q.n_isinstance Q.g_Outside) ja_nil))))) hN rfl (by first | exact .inl rfl | exact .inr rfl)) (jb_cons (js_set (i := 2) (je_bin o_cat (e_o 2) (je_lst (ja_cons (je_isE (i := 1) (Q.exc x0 hx0) hz hf (Q.kit x0 hx0 "BadText" (by decide)) Q.n_isinstance Q.g_BadText) (ja_cons (je_isE (i := 1) (Q.exc x0 hx0) hz hf (Q.kit x0 hx0 "TooMany" (by decide)) Q.n_isinstance Q.g_TooMany) (ja_cons (je_isE (i := 1) (Q.exc x0 hx0) hz hf (Q.kit x0 hx0 "Gains" (by decide)) Q.n_isinstance Q.g_Gains) ja_nil))))) hN rfl (by first | exact .inl rfl | exact .inr rfl)) (jb_cons (js_expr (e_app 2 (pv 2) (ja_cons (je_not (je_isEB (i := 1) (Q.exc x0 hx0) hz hf (Q.kitV x0 hx0) Q.n_isinstance Q.n_ValueError PyProof.Rows.Boot.«ValueError»)) ja_nil))) (jb_cons (js_set (i := 3) (je_fz (je_lst (ja_cons e_s (ja_cons e_s (ja_cons e_s (ja_cons e_s (ja_cons e_s (ja_cons e_s (ja_cons e_s (ja_cons e_s (ja_cons e_s ja_nil))))))))))) hN rfl (by first | exact .inl rfl | exact .inr rfl)) (jb_cons (js_set (i := 3) (je_bin o_addA (e_v 3) (je_lst (ja_cons e_s (ja_cons e_s (ja_cons e_s (ja_cons e_s (ja_cons e_s (ja_cons e_s (ja_cons e_s (ja_cons e_s ja_nil)))))))))) hN rfl (by first | exact .inl rfl | exact .inr rfl)) (jb_cons (js_set (i := 4) e_n hN rfl (by first | exact .inl rfl | exact .inr rfl)) (jb_cons (js_if (jt_val (je_isE (i := 1) (Q.exc x0 hx0) hz hf (Q.kit x0 hx0 "BadText" (by decide)) Q.n_isinstance Q.g_BadText)) (jb_one (js_set (i := 4) (je_fldE (i := 1) (Q.xf x0 hx0) (Q.fld x0 hx0 "line" (by decide)) hz hf) hN rfl (by first | exact .inl rfl | exact .inr rfl))) (jb_one (js_if (jt_val (je_isE (i := 1) (Q.exc x0 hx0) hz hf (Q.kit x0 hx0 "TooMany" (by decide)) Q.n_isinstance Q.g_TooMany)) (jb_one (js_set (i := 4) (je_fldE (i := 1) (Q.xf x0 hx0) (Q.fld x0 hx0 "limit" (by decide)) hz hf) hN rfl (by first | exact .inl rfl | exact .inr rfl))) (jb_one (js_if (jt_val (je_isE (i := 1) (Q.exc x0 hx0) hz hf (Q.kit x0 hx0 "Gains" (by decide)) Q.n_isinstance Q.g_Gains)) (jb_one (js_set (i := 4) (je_fldE (i := 1) (Q.xf x0 hx0) (Q.fld x0 hx0 "ring" (by decide)) hz hf) hN rfl (by first | exact .inl rfl | exact .inr rfl))) jb_nil))))) (jb_one (js_ret (je_tup (ja_cons e_s (ja_cons (je_fz (je_lcH (own := [("k", 5)]) (hot_suite hz hf) hN (blkOk_by (by rfl)) (jih_range1 rfl Q.n_range (ja_cons e_i ja_nil)) (fun s H C cl fp => ⟨(g_n 5 (hN := hN)), (jts_one (jt_val (je_ix (e_o 2) (e_v 5)))), (je_ix (e_v 3) (e_v 5))⟩))) (ja_cons (e_v 4) ja_nil))))))))))))))))
theorem c__law_answer (Q : Fs pr K mg base T) : AnsC pr w K mg base (cc K T) "_law_answer" "told" xsE ansE := by
  obtain ⟨f, fd, F, hm⟩ := Q.f__law_answer
  refine mkAns F hm sc__law_answer (F.bindsN fun _ _ _ _ _ _ us hl => match us, hl with | [_], _ => rfl) rfl (.inl rfl) (by decide) (by decide) (CS := He.ga K "WorksError") (fun x p d h => ?_) fun X q cdv h1 h2 h3 h4 h5 => ?_
  · have hx := ansE_x h
    exact ⟨hx, Q.exm x hx⟩
  · subst h1 h2 h3 h4 h5
    exact ans_gives (i := 1) (m := 5) rfl rfl (by decide +kernel) rfl rfl (by decide) rfl Q.g_WorksError (by decide) (fun s H a0 oe x0 dd pn hx0 hz hf => j__law_answer Q s H a0 oe x0 dd pn hx0 hz hf) ev__law_answer

/-! _law_refused -/
def N__law_refused : List Str := ["answer", "name", "value"]
theorem sc__law_refused : FnScope N__law_refused ["answer", "name", "value"] (defScope (top 47)) := ⟨rfl, rfl, rfl, by decide +kernel, rfl, by decide +kernel, by decide +kernel⟩
theorem j__law_refused {fa : Addr} (Q : Fs pr K mg base T) (cdv : Value) (A : Around) (outer : List Env) (s : Shared) (H : Hp) (E : XK) (hr : Room 1 (A.deeper (envOfC "_law_refused" (defScope (top 47)) s.heap.objs.size fa cdv))) :
    JB ⟨cc K T, ioOf false, E⟩ (cxOf (L2N.CX pr w) pr w K mg base N__law_refused "_law_refused" (defScope (top 47)) fa cdv A outer s H E) (defBody (top 47)) (argM false 3 ++ List.replicate 0 .un) [.un, .un, .un] [.fz, .fz, .fz] [.fz, .fz, .fz] .fz s__law_refused :=
  have hN : N__law_refused.Nodup := by decide +kernel
  wHx cxf_def fun hx => (jb_cons (js_if (jt_w (jw_or (jt_cmp (o_ne hr) (je_ixA hr (e_v 0) e_i) e_s) (jw_or1 (jt_cmp (o_ne hr) (je_ixA hr (e_v 0) e_i) (je_lst (ja_cons (e_v 1) ja_nil)))))) (jb_one (js_ret e_b)) jb_nil) (jb_one (js_ret (je_or (je_cmp (o_eq hr) (e_v 1) e_s) (je_one (je_cal hx (c__law_same Q) hr rfl (ja_cons (je_ixA hr (e_v 0) e_i) (ja_cons (e_v 2) ja_nil))))))))
theorem c__law_refused (Q : Fs pr K mg base T) : Cal pr w K mg base (cc K T) "_law_refused" 2 ["answer", "name", "value"] false 3 .fz d__law_refused [] := by
  obtain ⟨f, fd, F, hm⟩ := Q.f__law_refused
  exact mkCal (fn_ok false F sc__law_refused rfl rfl (by decide) (by first | exact .inl rfl | exact .inr rfl) fun cdv A outer s H E e hr => j__law_refused Q cdv A outer s H E hr) hm F.kp (F.bindsN fun _ _ _ _ _ _ us hl => match us, hl with | [_, _, _], _ => rfl)

/-! _law_is_short -/
def N__law_is_short : List Str := ["row", "gap", "kind"]
theorem sc__law_is_short : FnScope N__law_is_short ["row"] (defScope (top 48)) := ⟨rfl, rfl, rfl, by decide +kernel, rfl, by decide +kernel, by decide +kernel⟩
theorem j__law_is_short {fa : Addr} (Q : Fs pr K mg base T) (cdv : Value) (A : Around) (outer : List Env) (s : Shared) (H : Hp) (E : XK) (hr : Room 0 (A.deeper (envOfC "_law_is_short" (defScope (top 48)) s.heap.objs.size fa cdv))) :
    JB ⟨cc K T, ioOf false, E⟩ (cxOf (L2N.CX pr w) pr w K mg base N__law_is_short "_law_is_short" (defScope (top 48)) fa cdv A outer s H E) (defBody (top 48)) (argM false 1 ++ List.replicate 2 .un) [.un, .un, .un] [.fz, .un, .un] [.fz, .un, .un] .fz s__law_is_short :=
  have hN : N__law_is_short.Nodup := by decide +kernel
  wHx cxf_def fun hx => (jb_cons (js_set (i := 1) (je_lst ja_nil) hN rfl (by first | exact .inl rfl | exact .inr rfl)) (jb_cons (js_for (M0 := [.fz, .ow, .un]) (M2 := [.fz, .ow, .fz]) hx.own rfl (ji_seq (e_v 0)) (g_n 2 (hN := hN)) (jb_weakN (Mn := [.fz, .ow, .fz]) (Mn' := [.fz, .ow, .un]) (jb_one (js_if (jt_cmp (o_eq hr) (je_count (e_list Q.n_list (ja_cons (e_v 0) ja_nil)) (ja_cons (e_v 2) ja_nil)) e_i) (jb_one (js_set (i := 1) (je_lst ja_nil) hN rfl (by first | exact .inl rfl | exact .inr rfl))) (jb_one (js_if (jt_cmp (o_inA hr) (e_v 2) (e_o 1)) (jb_one (js_ret e_b)) (jb_one (js_expr (e_app 1 (pv 1) (ja_cons (e_v 2) ja_nil)))))))))) (jb_one (js_ret (je_cmp o_gt (e_len Q.n_len (ja_cons (e_v 0) ja_nil)) e_i)))))
theorem c__law_is_short (Q : Fs pr K mg base T) : Cal pr w K mg base (cc K T) "_law_is_short" 1 ["row"] false 1 .fz d__law_is_short [] := by
  obtain ⟨f, fd, F, hm⟩ := Q.f__law_is_short
  exact mkCal (fn_ok false F sc__law_is_short rfl rfl (by decide) (by first | exact .inl rfl | exact .inr rfl) fun cdv A outer s H E e hr => j__law_is_short Q cdv A outer s H E hr) hm F.kp (F.bindsN fun _ _ _ _ _ _ us hl => match us, hl with | [_], _ => rfl)

/-! _law_drawn_row -/
def N__law_drawn_row : List Str := ["store", "many", "size", "word", "k"]
theorem sc__law_drawn_row : FnScope N__law_drawn_row ["store"] (defScope (top 49)) := ⟨rfl, rfl, rfl, by decide +kernel, rfl, by decide +kernel, by decide +kernel⟩
theorem j__law_drawn_row {fa : Addr} (Q : Fs pr K mg base T) (cdv : Value) (A : Around) (outer : List Env) (s : Shared) (H : Hp) (E : XK) (hr : Room 3 (A.deeper (envOfC "_law_drawn_row" (defScope (top 49)) s.heap.objs.size fa cdv))) :
    JB ⟨cc K T, ioOf true, E⟩ (cxOf (L2N.CX pr w) pr w K mg base N__law_drawn_row "_law_drawn_row" (defScope (top 49)) fa cdv A outer s H E) (defBody (top 49)) (argM true 1 ++ List.replicate 4 .un) [.un, .un, .un, .un, .un] [.ow, .un, .un, .un, .un] [.ow, .un, .un, .un, .un] .fz s__law_drawn_row :=
  have hN : N__law_drawn_row.Nodup := by decide +kernel
  wHx cxf_def fun hx => (jb_cons (js_set (i := 1) (je_calS hx (c__law_pick Q) hr rfl (ja_cons (e_o 0) (ja_cons (je_fz (je_lst (ja_cons e_i (ja_cons e_i (ja_cons e_i (ja_cons e_i (ja_cons e_i (ja_cons e_i (ja_cons e_i ja_nil))))))))) ja_nil))) hN rfl (by first | exact .inl rfl | exact .inr rfl)) (jb_cons (js_set (i := 2) (je_calS hx (c__law_pick Q) hr rfl (ja_cons (e_o 0) (ja_cons (je_fz (je_lst (ja_cons (je_calS hx (c__law_take Q) hr rfl (ja_cons (e_o 0) (ja_cons e_i ja_nil))) (ja_cons (je_calS hx (c__law_take Q) hr rfl (ja_cons (e_o 0) (ja_cons e_i ja_nil))) (ja_cons (je_calS hx (c__law_take Q) hr rfl (ja_cons (e_o 0) (ja_cons e_i ja_nil))) (ja_cons e_i (ja_cons e_i ja_nil))))))) ja_nil))) hN rfl (by first | exact .inl rfl | exact .inr rfl)) (jb_cons (js_if (jt_cmp (o_eq hr) (je_calS hx (c__law_take Q) hr rfl (ja_cons (e_o 0) (ja_cons e_i ja_nil))) e_i) (jb_one (js_set (i := 2) (je_bin o_sub e_i (je_calS hx (c__law_take Q) hr rfl (ja_cons (e_o 0) (ja_cons e_i ja_nil)))) hN rfl (by first | exact .inl rfl | exact .inr rfl))) jb_nil) (jb_cons (js_setLcF (i := 3) (own := [("k", 4)]) rfl hN rfl (blkOk_by (by rfl)) (ji_range1 rfl Q.n_range (ja_cons (je_bin o_addA e_i (je_calS hx (c__law_take Q) hr rfl (ja_cons (e_o 0) (ja_cons e_i ja_nil)))) ja_nil)) (fun s H C cl fp => wHb (cxf_none rfl) fun hx => ⟨(g_n 4 (hN := hN)), jts_nil, (je_calS hx (c__law_take Q) hr rfl (ja_cons (e_o 0) (ja_cons (e_v 1) ja_nil)))⟩)) (jb_cons (js_if (jt_cmp (o_eq hr) (je_calS hx (c__law_take Q) hr rfl (ja_cons (e_o 0) (ja_cons e_i ja_nil))) e_i) (jb_one (js_ret (je_sl (je_bin o_mulA (e_v 3) e_i) jo_none (jo_some (e_v 2))))) jb_nil) (jb_one (js_ret (je_fz (je_lc (own := [("k", 4)]) rfl hN (blkOk_by (by rfl)) (ji_range1 rfl Q.n_range (ja_cons (e_v 2) ja_nil)) (fun s H C cl fp => wHb (cxf_none rfl) fun hx => ⟨(g_n 4 (hN := hN)), jts_nil, (je_calS hx (c__law_take Q) hr rfl (ja_cons (e_o 0) (ja_cons (e_v 1) ja_nil)))⟩))))))))))
theorem c__law_drawn_row (Q : Fs pr K mg base T) : Cal pr w K mg base (cc K T) "_law_drawn_row" 4 ["store"] true 1 .fz d__law_drawn_row [] := by
  obtain ⟨f, fd, F, hm⟩ := Q.f__law_drawn_row
  exact mkCal (fn_ok true F sc__law_drawn_row rfl rfl (by decide) (by first | exact .inl rfl | exact .inr rfl) fun cdv A outer s H E e hr => j__law_drawn_row Q cdv A outer s H E hr) hm F.kp (F.bindsN fun _ _ _ _ _ _ us hl => match us, hl with | [_], _ => rfl)

/-! _law_a_cut -/
def N__law_a_cut : List Str := ["store", "row", "size", "start", "step", "q", "back", "p", "poor", "kind"]
theorem sc__law_a_cut : FnScope N__law_a_cut ["store", "row"] (defScope (top 50)) := ⟨rfl, rfl, rfl, by decide +kernel, rfl, by decide +kernel, by decide +kernel⟩
theorem j__law_a_cut {fa : Addr} (Q : Fs pr K mg base T) (cdv : Value) (A : Around) (outer : List Env) (s : Shared) (H : Hp) (E : XK) (hr : Room 2 (A.deeper (envOfC "_law_a_cut" (defScope (top 50)) s.heap.objs.size fa cdv))) :
    JB ⟨cc K T, ioOf true, E⟩ (cxOf (L2N.CX pr w) pr w K mg base N__law_a_cut "_law_a_cut" (defScope (top 50)) fa cdv A outer s H E) (defBody (top 50)) (argM true 2 ++ List.replicate 8 .un) [.un, .un, .un, .un, .un, .un, .un, .un, .un, .un] [.ow, .fz, .un, .un, .un, .un, .un, .un, .un, .un] [.ow, .fz, .un, .un, .un, .un, .un, .un, .un, .un] .fz s__law_a_cut :=
  have hN : N__law_a_cut.Nodup := by decide +kernel
  wHx cxf_def fun hx => (jb_cons (js_set (i := 2) (e_len Q.n_len (ja_cons (e_v 1) ja_nil)) hN rfl (by first | exact .inl rfl | exact .inr rfl)) (jb_cons (js_set (i := 3) (je_calS hx (c__law_take Q) hr rfl (ja_cons (e_o 0) (ja_cons (e_v 2) ja_nil))) hN rfl (by first | exact .inl rfl | exact .inr rfl)) (jb_cons (js_for (M0 := [.ow, .fz, .fz, .fz, .un, .un, .un, .un, .un, .un]) (M2 := [.ow, .fz, .fz, .fz, .fz, .un, .un, .un, .un, .un]) hx.own rfl (ji_range1 rfl Q.n_range (ja_cons (e_v 2) ja_nil)) (g_n 4 (hN := hN)) (jb_weakN (Mn := [.ow, .fz, .fz, .fz, .fz, .fz, .un, .un, .un, .un]) (Mn' := [.ow, .fz, .fz, .fz, .un, .un, .un, .un, .un, .un]) (jb_cons (js_set (i := 5) (je_bin o_mod (e_int Q.n_int (ja_cons (je_bin o_addA (e_v 3) (e_v 4)) ja_nil)) (e_v 2)) hN rfl (by first | exact .inl rfl | exact .inr rfl)) (jb_one (js_for (M0 := [.ow, .fz, .fz, .fz, .fz, .fz, .un, .un, .un, .un]) (M2 := [.ow, .fz, .fz, .fz, .fz, .fz, .fz, .un, .un, .un]) hx.own rfl (ji_range2 rfl Q.n_range (ja_cons e_i (ja_cons e_i ja_nil))) (g_n 6 (hN := hN)) (jb_weakN (Mn := [.ow, .fz, .fz, .fz, .fz, .fz, .fz, .fz, .un, .un]) (Mn' := [.ow, .fz, .fz, .fz, .fz, .fz, .un, .un, .un, .un]) (jb_cons (js_set (i := 7) (je_bin o_sub (e_v 5) (e_v 6)) hN rfl (by first | exact .inl rfl | exact .inr rfl)) (jb_one (js_if (jt_w (jw_and (jt_cmp o_ge (e_v 7) e_i) (jw_and (jt_cmp (o_eq hr) (je_ixA hr (e_v 1) (e_v 7)) (je_ixA hr (e_v 1) (e_v 5))) (jw_and1 (jt_cmp (o_notInA hr) (je_ixA hr (e_v 1) (e_v 5)) (je_sl (e_v 1) (jo_some (je_bin o_addA (e_v 7) e_i)) (jo_some (e_v 5)))))))) (jb_weakN (Mn := [.ow, .fz, .fz, .fz, .fz, .fz, .fz, .fz, .fz, .un]) (Mn' := [.ow, .fz, .fz, .fz, .fz, .fz, .fz, .fz, .un, .un]) (jb_cons (js_setLcF (i := 8) (own := [("kind", 9)]) rfl hN rfl (blkOk_by (by rfl)) (ji_seq (je_sl (e_v 1) (jo_some (e_v 7)) (jo_some (e_v 5)))) (fun s H C cl fp => wHb (cxf_none rfl) fun hx => ⟨(g_n 9 (hN := hN)), (jts_one (jt_w (jw_or (jt_cmp o_gt (je_count (je_sl (e_v 1) (jo_some (e_v 7)) (jo_some (e_v 5))) (ja_cons (e_v 9) ja_nil)) e_i) (jw_or1 (jt_cmp o_lt (je_count (e_v 1) (ja_cons (e_v 9) ja_nil)) e_i))))), (e_v 9)⟩)) (jb_one (js_if (jt_cmp (o_eq hr) (e_len Q.n_len (ja_cons (e_v 8) ja_nil)) e_i) (jb_one (js_ret (je_tup (ja_cons (e_v 7) (ja_cons (e_v 5) ja_nil))))) jb_nil)))) jb_nil))))))))) (jb_one (js_ret (je_tup ja_nil))))))
theorem c__law_a_cut (Q : Fs pr K mg base T) : Cal pr w K mg base (cc K T) "_law_a_cut" 3 ["store", "row"] true 2 .fz d__law_a_cut [] := by
  obtain ⟨f, fd, F, hm⟩ := Q.f__law_a_cut
  exact mkCal (fn_ok true F sc__law_a_cut rfl rfl (by decide) (by first | exact .inl rfl | exact .inr rfl) fun cdv A outer s H E e hr => j__law_a_cut Q cdv A outer s H E hr) hm F.kp (F.bindsN fun _ _ _ _ _ _ us hl => match us, hl with | [_, _], _ => rfl)

/-! _law_cut_any -/
def N__law_cut_any : List Str := ["store", "row", "limit", "left", "log", "k", "cut"]
theorem sc__law_cut_any : FnScope N__law_cut_any ["store", "row", "limit"] (defScope (top 51)) := ⟨rfl, rfl, rfl, by decide +kernel, rfl, by decide +kernel, by decide +kernel⟩
theorem j__law_cut_any {fa : Addr} (Q : Fs pr K mg base T) (cdv : Value) (A : Around) (outer : List Env) (s : Shared) (H : Hp) (E : XK) (hr : Room 3 (A.deeper (envOfC "_law_cut_any" (defScope (top 51)) s.heap.objs.size fa cdv))) :
    JB ⟨cc K T, ioOf true, E⟩ (cxOf (L2N.CX pr w) pr w K mg base N__law_cut_any "_law_cut_any" (defScope (top 51)) fa cdv A outer s H E) (defBody (top 51)) (argM true 3 ++ List.replicate 4 .un) [.un, .un, .un, .un, .un, .un, .un] [.ow, .fz, .fz, .un, .un, .un, .un] [.ow, .fz, .fz, .un, .un, .un, .un] .fz s__law_cut_any :=
  have hN : N__law_cut_any.Nodup := by decide +kernel
  wHx cxf_def fun hx => (jb_cons (js_set (i := 3) (je_fz (e_list Q.n_list (ja_cons (e_v 1) ja_nil))) hN rfl (by first | exact .inl rfl | exact .inr rfl)) (jb_cons (js_set (i := 4) (je_lst ja_nil) hN rfl (by first | exact .inl rfl | exact .inr rfl)) (jb_cons (js_for (M0 := [.ow, .fz, .fz, .fz, .ow, .un, .un]) (M2 := [.ow, .fz, .fz, .fz, .ow, .fz, .un]) hx.own rfl (ji_range1 rfl Q.n_range (ja_cons (e_v 2) ja_nil)) (g_n 5 (hN := hN)) (jb_weakN (Mn := [.ow, .fz, .fz, .fz, .ow, .fz, .fz]) (Mn' := [.ow, .fz, .fz, .fz, .ow, .un, .un]) (jb_cons (js_set (i := 6) (je_calS hx (c__law_a_cut Q) hr rfl (ja_cons (e_o 0) (ja_cons (e_v 3) ja_nil))) hN rfl (by first | exact .inl rfl | exact .inr rfl)) (jb_cons (js_if (jt_cmp (o_eq hr) (e_v 6) (je_tup ja_nil)) (jb_one (js_ret (je_tup (ja_cons (e_v 3) (ja_cons (e_f 4) ja_nil))))) jb_nil) (jb_cons (js_expr (e_app 4 (pv 4) (ja_cons (je_tup (ja_cons (je_ixA hr (e_v 6) e_i) (ja_cons (je_sl (e_v 3) (jo_some (je_ixA hr (e_v 6) e_i)) (jo_some (je_ixA hr (e_v 6) e_i))) ja_nil))) ja_nil))) (jb_one (js_set (i := 3) (je_bin o_addA (je_sl (e_v 3) jo_none (jo_some (je_ixA hr (e_v 6) e_i))) (je_sl (e_v 3) (jo_some (je_ixA hr (e_v 6) e_i)) jo_none)) hN rfl (by first | exact .inl rfl | exact .inr rfl)))))))) (jb_one (js_ret (je_tup (ja_cons (e_v 3) (ja_cons (e_f 4) ja_nil))))))))
theorem c__law_cut_any (Q : Fs pr K mg base T) : Cal pr w K mg base (cc K T) "_law_cut_any" 4 ["store", "row", "limit"] true 3 .fz d__law_cut_any [] := by
  obtain ⟨f, fd, F, hm⟩ := Q.f__law_cut_any
  exact mkCal (fn_ok true F sc__law_cut_any rfl rfl (by decide) (by first | exact .inl rfl | exact .inr rfl) fun cdv A outer s H E e hr => j__law_cut_any Q cdv A outer s H E hr) hm F.kp (F.bindsN fun _ _ _ _ _ _ us hl => match us, hl with | [_, _, _], _ => rfl)

/-! _law_word -/
def N__law_word : List Str := ["row", "log", "left", "now", "p", "section", "q", "kind"]
theorem sc__law_word : FnScope N__law_word ["row", "log", "left"] (defScope (top 52)) := ⟨rfl, rfl, rfl, by decide +kernel, rfl, by decide +kernel, by decide +kernel⟩
theorem j__law_word {fa : Addr} (Q : Fs pr K mg base T) (cdv : Value) (A : Around) (outer : List Env) (s : Shared) (H : Hp) (E : XK) (hr : Room 1 (A.deeper (envOfC "_law_word" (defScope (top 52)) s.heap.objs.size fa cdv))) :
    JB ⟨cc K T, ioOf false, E⟩ (cxOf (L2N.CX pr w) pr w K mg base N__law_word "_law_word" (defScope (top 52)) fa cdv A outer s H E) (defBody (top 52)) (argM false 3 ++ List.replicate 5 .un) [.un, .un, .un, .un, .un, .un, .un, .un] [.fz, .fz, .fz, .un, .un, .un, .un, .un] [.fz, .fz, .fz, .un, .un, .un, .un, .un] .fz s__law_word :=
  have hN : N__law_word.Nodup := by decide +kernel
  wHx cxf_def fun hx => (jb_cons (js_set (i := 3) (je_fz (e_list Q.n_list (ja_cons (e_v 0) ja_nil))) hN rfl (by first | exact .inl rfl | exact .inr rfl)) (jb_cons (js_for (M0 := [.fz, .fz, .fz, .fz, .un, .un, .un, .un]) (M2 := [.fz, .fz, .fz, .fz, .fz, .fz, .un, .un]) hx.own rfl (ji_seq (e_v 1)) (jg_tup (n := 2) rfl (jgs_cons (g_n 4 (hN := hN)) (jgs_cons (g_n 5 (hN := hN)) g_0))) (jb_weakN (Mn := [.fz, .fz, .fz, .fz, .fz, .fz, .fz, .un]) (Mn' := [.fz, .fz, .fz, .fz, .un, .un, .un, .un]) (jb_cons (js_set (i := 6) (je_bin o_addA (e_v 4) (e_len Q.n_len (ja_cons (e_v 5) ja_nil))) hN rfl (by first | exact .inl rfl | exact .inr rfl)) (jb_cons (js_if (jt_w (jw_or (jt_cmp o_ge (e_v 6) (e_len Q.n_len (ja_cons (e_v 3) ja_nil))) (jw_or (jt_cmp (o_ne hr) (je_sl (e_v 3) (jo_some (e_v 4)) (jo_some (e_v 6))) (e_list Q.n_list (ja_cons (e_v 5) ja_nil))) (jw_or1 (jt_cmp (o_ne hr) (je_ixA hr (e_v 3) (e_v 4)) (je_ixA hr (e_v 3) (e_v 6))))))) (jb_one (js_ret e_s)) jb_nil) (jb_cons (js_if (jt_cmp o_gt (e_len Q.n_len (ja_cons (je_lc (own := [("kind", 7)]) rfl hN (blkOk_by (by rfl)) (ji_seq (e_v 5)) (fun s H C cl fp => wHb (cxf_none rfl) fun hx => ⟨(g_n 7 (hN := hN)), (jts_one (jt_w (jw_or (jt_cmp o_gt (je_count (e_list Q.n_list (ja_cons (e_v 5) ja_nil)) (ja_cons (e_v 7) ja_nil)) e_i) (jw_or1 (jt_cmp o_lt (je_count (e_v 3) (ja_cons (e_v 7) ja_nil)) e_i))))), (e_v 7)⟩)) ja_nil)) e_i) (jb_one (js_ret e_s)) jb_nil) (jb_one (js_set (i := 3) (je_bin o_addA (je_sl (e_v 3) jo_none (jo_some (e_v 4))) (je_sl (e_v 3) (jo_some (e_v 6)) jo_none)) hN rfl (by first | exact .inl rfl | exact .inr rfl)))))))) (jb_cons (js_if (jt_cmp (o_ne hr) (e_v 3) (e_list Q.n_list (ja_cons (e_v 2) ja_nil))) (jb_one (js_ret e_s)) jb_nil) (jb_one (js_ret (je_if (jt_val (je_cal hx (c__law_is_short Q) hr rfl (ja_cons (e_v 3) ja_nil))) e_s e_s))))))
theorem c__law_word (Q : Fs pr K mg base T) : Cal pr w K mg base (cc K T) "_law_word" 2 ["row", "log", "left"] false 3 .fz d__law_word [] := by
  obtain ⟨f, fd, F, hm⟩ := Q.f__law_word
  exact mkCal (fn_ok false F sc__law_word rfl rfl (by decide) (by first | exact .inl rfl | exact .inr rfl) fun cdv A outer s H E e hr => j__law_word Q cdv A outer s H E hr) hm F.kp (F.bindsN fun _ _ _ _ _ _ us hl => match us, hl with | [_, _, _], _ => rfl)

/-! _law_grown -/
def N__law_grown : List Str := ["row", "log", "now", "k", "p", "section", "entry"]
theorem sc__law_grown : FnScope N__law_grown ["row", "log"] (defScope (top 53)) := ⟨rfl, rfl, rfl, by decide +kernel, rfl, by decide +kernel, by decide +kernel⟩
theorem j__law_grown {fa : Addr} (Q : Fs pr K mg base T) (cdv : Value) (A : Around) (outer : List Env) (s : Shared) (H : Hp) (E : XK) (hr : Room 0 (A.deeper (envOfC "_law_grown" (defScope (top 53)) s.heap.objs.size fa cdv))) :
    JB ⟨cc K T, ioOf false, E⟩ (cxOf (L2N.CX pr w) pr w K mg base N__law_grown "_law_grown" (defScope (top 53)) fa cdv A outer s H E) (defBody (top 53)) (argM false 2 ++ List.replicate 5 .un) [.un, .un, .un, .un, .un, .un, .un] [.fz, .fz, .un, .un, .un, .un, .un] [.fz, .fz, .un, .un, .un, .un, .un] .fz s__law_grown :=
  have hN : N__law_grown.Nodup := by decide +kernel
  wHx cxf_def fun hx => (jb_cons (js_if (jt_cmp o_gt (je_bin o_addA (e_len Q.n_len (ja_cons (e_v 0) ja_nil)) (e_sum Q.n_sum (ja_cons (je_lc (own := [("entry", 6)]) rfl hN (blkOk_by (by rfl)) (ji_seq (e_v 1)) (fun s H C cl fp => wHb (cxf_none rfl) fun hx => ⟨(g_n 6 (hN := hN)), jts_nil, (e_len Q.n_len (ja_cons (je_ixA hr (e_v 6) e_i) ja_nil))⟩)) ja_nil))) e_i) (jb_one (js_ret (je_tup (ja_cons e_s (ja_cons e_i ja_nil))))) jb_nil) (jb_cons (js_set (i := 2) (je_fz (e_list Q.n_list (ja_cons (e_v 0) ja_nil))) hN rfl (by first | exact .inl rfl | exact .inr rfl)) (jb_cons (js_for (M0 := [.fz, .fz, .fz, .un, .un, .un, .un]) (M2 := [.fz, .fz, .fz, .fz, .un, .un, .un]) hx.own rfl (ji_range1 rfl Q.n_range (ja_cons (e_len Q.n_len (ja_cons (e_v 1) ja_nil)) ja_nil)) (g_n 3 (hN := hN)) (jb_weakN (Mn := [.fz, .fz, .fz, .fz, .fz, .fz, .un]) (Mn' := [.fz, .fz, .fz, .un, .un, .un, .un]) (jb_cons (js_asg (je_ixA hr (e_v 1) (je_bin o_sub (je_bin o_sub (e_len Q.n_len (ja_cons (e_v 1) ja_nil)) e_i) (e_v 3))) (jg_tup (n := 2) rfl (jgs_cons (g_n 4 (hN := hN)) (jgs_cons (g_n 5 (hN := hN)) g_0)))) (jb_cons (js_if (jt_cmp o_gt (e_v 4) (e_len Q.n_len (ja_cons (e_v 2) ja_nil))) (jb_one (js_ret (je_tup (ja_cons e_s (ja_cons e_n ja_nil))))) jb_nil) (jb_one (js_set (i := 2) (je_bin o_addA (je_bin o_addA (je_sl (e_v 2) jo_none (jo_some (e_v 4))) (e_list Q.n_list (ja_cons (e_v 5) ja_nil))) (je_sl (e_v 2) (jo_some (e_v 4)) jo_none)) hN rfl (by first | exact .inl rfl | exact .inr rfl))))))) (jb_one (js_ret (je_tup (ja_cons e_s (ja_cons (e_tuple Q.n_tuple (ja_cons (e_v 2) ja_nil)) ja_nil))))))))
theorem c__law_grown (Q : Fs pr K mg base T) : Cal pr w K mg base (cc K T) "_law_grown" 1 ["row", "log"] false 2 .fz d__law_grown [] := by
  obtain ⟨f, fd, F, hm⟩ := Q.f__law_grown
  exact mkCal (fn_ok false F sc__law_grown rfl rfl (by decide) (by first | exact .inl rfl | exact .inr rfl) fun cdv A outer s H E e hr => j__law_grown Q cdv A outer s H E hr) hm F.kp (F.bindsN fun _ _ _ _ _ _ us hl => match us, hl with | [_, _], _ => rfl)

/-! _law_judged -/
def N__law_judged : List Str := ["store", "row", "log", "left", "way", "given", "answer", "due", "right"]
theorem sc__law_judged : FnScope N__law_judged ["store", "row", "log", "left"] (defScope (top 54)) := ⟨rfl, rfl, rfl, by decide +kernel, rfl, by decide +kernel, by decide +kernel⟩
theorem j__law_judged {fa : Addr} (Q : Fs pr K mg base T) (A : Around) (outer : List Env) (s : Shared) (H : Hp) (E : XK) (hr : Room 9 (A.deeper (envOfC "_law_judged" (defScope (top 54)) s.heap.objs.size fa (.ref (He.codeOf K ("_law_judged", none)))))) :
    JB ⟨cc K T, ioOf true, E⟩ (cxOf (L2N.CX pr w) pr w K mg base N__law_judged "_law_judged" (defScope (top 54)) fa (.ref (He.codeOf K ("_law_judged", none))) A outer s H E) (defBody (top 54)) (argM true 4 ++ List.replicate 5 .un) [.un, .un, .un, .un, .un, .un, .un, .un, .un] [.ow, .fz, .fz, .fz, .un, .un, .un, .un, .un] [.ow, .fz, .fz, .fz, .un, .un, .un, .un, .un] .fz s__law_judged :=
  have hN : N__law_judged.Nodup := by decide +kernel
  wHx cxf_def fun hx => (jb_cons (js_set (i := 4) (je_bin o_mulA e_i (je_calS hx (c__law_pick Q) hr rfl (ja_cons (e_o 0) (ja_cons (je_fz (je_lst (ja_cons e_i (ja_cons e_i (ja_cons e_i (ja_cons e_i (ja_cons e_i (ja_cons e_i ja_nil)))))))) ja_nil)))) hN rfl (by first | exact .inl rfl | exact .inr rfl)) (jb_cons (js_set (i := 5) (je_cal hx (c__law_shaped Q 8) hr rfl (ja_cons (je_fz (je_lst (ja_cons (e_v 1) (ja_cons (e_v 2) (ja_cons (e_v 3) ja_nil))))) (ja_cons (e_v 4) ja_nil))) hN rfl (by first | exact .inl rfl | exact .inr rfl)) (jb_cons (js_if (jt_not (jt_val (je_cal hx (c__law_same Q) hr rfl (ja_cons (je_cal hx (c_judge_log Q) hr rfl (ja_cons (je_ixA hr (e_v 5) e_i) (ja_cons (je_ixA hr (e_v 5) e_i) (ja_cons (je_ixA hr (e_v 5) e_i) ja_nil)))) (ja_cons (je_cal hx (c__law_word Q) hr rfl (ja_cons (e_v 1) (ja_cons (e_v 2) (ja_cons (e_v 3) ja_nil)))) ja_nil))))) (jb_one (js_ret e_b)) jb_nil) (jb_cons (js_set (i := 6) (je_ans (k := 5) (c__law_answer Q) Q.l__law_judged (hr.mono (by decide)) (fun A outer s H E f c' hr => wHe cxf_lam fun hx => (je_cal hx (c_grow Q) hr rfl (ja_cons (je_ixA hr (e_v 5) e_i) (ja_cons (je_ixA hr (e_v 5) e_i) ja_nil))))) hN rfl (by first | exact .inl rfl | exact .inr rfl)) (jb_cons (js_set (i := 7) (je_cal hx (c__law_grown Q) hr rfl (ja_cons (e_v 3) (ja_cons (e_v 2) ja_nil))) hN rfl (by first | exact .inl rfl | exact .inr rfl)) (jb_cons (js_if (jt_cmp (o_eq hr) (je_ixA hr (e_v 7) e_i) e_s) (jb_one (js_set (i := 8) (je_cal hx (c__law_same Q) hr rfl (ja_cons (e_v 6) (ja_cons (e_v 7) ja_nil))) hN rfl (by first | exact .inl rfl | exact .inr rfl))) (jb_one (js_set (i := 8) (je_cal hx (c__law_refused Q) hr rfl (ja_cons (e_v 6) (ja_cons (je_ixA hr (e_v 7) e_i) (ja_cons (je_ixA hr (e_v 7) e_i) ja_nil)))) hN rfl (by first | exact .inl rfl | exact .inr rfl)))) (jb_one (js_ret (je_and (e_v 8) (je_one (je_cal hx (c__law_same Q) hr rfl (ja_cons (e_v 5) (ja_cons (je_cal hx (c__law_shaped Q 8) hr rfl (ja_cons (je_fz (je_lst (ja_cons (e_v 1) (ja_cons (e_v 2) (ja_cons (e_v 3) ja_nil))))) (ja_cons (e_v 4) ja_nil))) ja_nil)))))))))))))
theorem c__law_judged (Q : Fs pr K mg base T) : Cal pr w K mg base (cc K T) "_law_judged" 10 ["store", "row", "log", "left"] true 4 .fz d__law_judged [] := by
  obtain ⟨f, fd, F, hm, hc⟩ := Q.f__law_judged
  exact mkCal (fn_ok true F sc__law_judged rfl rfl (by decide) (by first | exact .inl rfl | exact .inr rfl) fun cdv A outer s H E e hr => by obtain rfl := e.symm.trans hc; exact j__law_judged Q A outer s H E hr) hm F.kp (F.bindsN fun _ _ _ _ _ _ us hl => match us, hl with | [_, _, _, _], _ => rfl)

/-! _law_bent_logs -/
def N__law_bent_logs : List Str := ["store", "log", "left", "spare", "far", "kind", "at", "logs", "p", "section", "entry", "one"]
theorem sc__law_bent_logs : FnScope N__law_bent_logs ["store", "log", "left"] (defScope (top 55)) := ⟨rfl, rfl, rfl, by decide +kernel, rfl, by decide +kernel, by decide +kernel⟩
theorem j__law_bent_logs {fa : Addr} (Q : Fs pr K mg base T) (cdv : Value) (A : Around) (outer : List Env) (s : Shared) (H : Hp) (E : XK) (hr : Room 3 (A.deeper (envOfC "_law_bent_logs" (defScope (top 55)) s.heap.objs.size fa cdv))) :
    JB ⟨cc K T, ioOf true, E⟩ (cxOf (L2N.CX pr w) pr w K mg base N__law_bent_logs "_law_bent_logs" (defScope (top 55)) fa cdv A outer s H E) (defBody (top 55)) (argM true 3 ++ List.replicate 9 .un) [.un, .un, .un, .un, .un, .un, .un, .un, .un, .un, .un, .un] [.ow, .fz, .fz, .un, .un, .un, .un, .un, .un, .un, .un, .un] [.ow, .fz, .fz, .un, .un, .un, .un, .un, .un, .un, .un, .un] .fz s__law_bent_logs :=
  have hN : N__law_bent_logs.Nodup := by decide +kernel
  wHx cxf_def fun hx => (jb_cons (js_set (i := 3) (je_bin o_sub (je_bin o_sub e_i (e_len Q.n_len (ja_cons (e_v 2) ja_nil))) (e_sum Q.n_sum (ja_cons (je_lc (own := [("entry", 10)]) rfl hN (blkOk_by (by rfl)) (ji_seq (e_v 1)) (fun s H C cl fp => wHb (cxf_none rfl) fun hx => ⟨(g_n 10 (hN := hN)), jts_nil, (e_len Q.n_len (ja_cons (je_ixA hr (e_v 10) e_i) ja_nil))⟩)) ja_nil))) hN rfl (by first | exact .inl rfl | exact .inr rfl)) (jb_cons (js_set (i := 4) (je_calS hx (c__law_pick Q) hr rfl (ja_cons (e_o 0) (ja_cons (je_fz (je_lst (ja_cons e_i (ja_cons (e_len Q.n_len (ja_cons (e_v 2) ja_nil)) (ja_cons e_i (ja_cons (je_bin o_pow e_i e_i) ja_nil)))))) ja_nil))) hN rfl (by first | exact .inl rfl | exact .inr rfl)) (jb_cons (js_set (i := 5) (je_calS hx (c__law_take Q) hr rfl (ja_cons (e_o 0) (ja_cons e_i ja_nil))) hN rfl (by first | exact .inl rfl | exact .inr rfl)) (jb_cons (js_set (i := 6) (je_calS hx (c__law_take Q) hr rfl (ja_cons (e_o 0) (ja_cons (je_bin o_addA (e_len Q.n_len (ja_cons (e_v 1) ja_nil)) e_i) ja_nil))) hN rfl (by first | exact .inl rfl | exact .inr rfl)) (jb_cons (js_set (i := 7) (je_lst (ja_cons (je_bin o_addA (je_bin o_addA (je_sl (e_v 1) jo_none (jo_some (e_v 6))) (je_lst (ja_cons (je_tup (ja_cons (e_v 4) (ja_cons (je_bin o_mulA (je_lst (ja_cons (e_v 5) ja_nil)) e_i) ja_nil))) ja_nil))) (je_sl (e_v 1) (jo_some (e_v 6)) jo_none)) (ja_cons (je_bin o_addA (e_v 1) (je_lst (ja_cons (je_tup (ja_cons (e_v 4) (ja_cons (je_bin o_mulA (je_lst (ja_cons (e_v 5) ja_nil)) e_i) ja_nil))) (ja_cons (je_tup (ja_cons e_i (ja_cons (je_fz (je_lst (ja_cons (e_v 5) ja_nil))) ja_nil))) ja_nil)))) ja_nil))) hN rfl (by first | exact .inl rfl | exact .inr rfl)) (jb_cons (js_expr (e_app 7 (pv 7) (ja_cons (je_bin o_addA (je_bin o_addA (je_sl (e_v 1) jo_none (jo_some (e_v 6))) (je_lst (ja_cons (je_tup (ja_cons (e_v 4) (ja_cons (je_fz (je_lst (ja_cons (e_v 5) ja_nil))) ja_nil))) ja_nil))) (je_sl (e_v 1) (jo_some (e_v 6)) jo_none)) ja_nil))) (jb_cons (js_if (jt_cmp o_gt (e_v 3) e_i) (jb_cons (js_expr (e_app 7 (pv 7) (ja_cons (je_bin o_addA (e_v 1) (je_lst (ja_cons (je_tup (ja_cons (e_v 4) (ja_cons (je_bin o_mulA (je_lst (ja_cons (e_v 5) ja_nil)) (e_v 3)) ja_nil))) ja_nil))) ja_nil))) (jb_cons (js_expr (e_app 7 (pv 7) (ja_cons (je_bin o_addA (je_lst (ja_cons (je_tup (ja_cons e_i (ja_cons (je_bin o_mulA (je_lst (ja_cons (e_v 5) ja_nil)) (e_v 3)) ja_nil))) ja_nil)) (e_v 1)) ja_nil))) (jb_one (js_expr (e_app 7 (pv 7) (ja_cons (je_bin o_addA (je_bin o_addA (je_sl (e_v 1) jo_none (jo_some (e_v 6))) (je_lst (ja_cons (je_tup (ja_cons (e_v 4) (ja_cons (je_bin o_mulA (je_lst (ja_cons (e_v 5) ja_nil)) (e_v 3)) ja_nil))) (ja_cons (je_tup (ja_cons e_i (ja_cons (je_fz (je_lst (ja_cons (je_bin o_sub e_i (e_v 5)) ja_nil))) ja_nil))) ja_nil)))) (je_sl (e_v 1) (jo_some (e_v 6)) jo_none)) ja_nil)))))) jb_nil) (jb_cons (js_if (jt_cmp o_gt (e_len Q.n_len (ja_cons (e_v 1) ja_nil)) e_i) (jb_weakN (Mn := [.ow, .fz, .fz, .fz, .fz, .fz, .fz, .ow, .fz, .fz, .un, .un]) (Mn' := [.ow, .fz, .fz, .fz, .fz, .fz, .fz, .ow, .un, .un, .un, .un]) (jb_cons (js_set (i := 6) (je_calS hx (c__law_take Q) hr rfl (ja_cons (e_o 0) (ja_cons (e_len Q.n_len (ja_cons (e_v 1) ja_nil)) ja_nil))) hN rfl (by first | exact .inl rfl | exact .inr rfl)) (jb_cons (js_asg (je_ixA hr (e_v 1) (e_v 6)) (jg_tup (n := 2) rfl (jgs_cons (g_n 8 (hN := hN)) (jgs_cons (g_n 9 (hN := hN)) g_0)))) (jb_cons (js_set (i := 7) (je_bin o_cat (e_o 7) (je_lc (own := [("entry", 10)]) rfl hN (blkOk_by (by rfl)) (ji_seq (je_fz (je_lst (ja_cons (je_tup (ja_cons (je_bin o_addA (e_v 8) e_i) (ja_cons (e_v 9) ja_nil))) (ja_cons (je_tup (ja_cons (e_v 8) (ja_cons (je_bin o_addA (e_v 9) (je_lst (ja_cons (e_v 5) ja_nil))) ja_nil))) ja_nil))))) (fun s H C cl fp => wHb (cxf_none rfl) fun hx => ⟨(g_n 10 (hN := hN)), jts_nil, (je_bin o_addA (je_bin o_addA (je_sl (e_v 1) jo_none (jo_some (e_v 6))) (je_lst (ja_cons (e_v 10) ja_nil))) (je_sl (e_v 1) (jo_some (je_bin o_addA (e_v 6) e_i)) jo_none))⟩))) hN rfl (by first | exact .inl rfl | exact .inr rfl)) (jb_cons (js_set (i := 7) (je_bin o_cat (e_o 7) (je_lst (ja_cons (je_bin o_addA (je_sl (e_v 1) jo_none (jo_some (e_v 6))) (je_sl (e_v 1) (jo_some (je_bin o_addA (e_v 6) e_i)) jo_none)) (ja_cons (je_bin o_addA (je_bin o_addA (je_sl (e_v 1) jo_none (jo_some (e_v 6))) (je_lst (ja_cons (je_ixA hr (e_v 1) (e_v 6)) (ja_cons (je_ixA hr (e_v 1) (e_v 6)) ja_nil)))) (je_sl (e_v 1) (jo_some (je_bin o_addA (e_v 6) e_i)) jo_none)) (ja_cons (je_fz (je_revL (e_v 1))) ja_nil))))) hN rfl (by first | exact .inl rfl | exact .inr rfl)) (jb_one (js_expr (e_app 7 (pv 7) (ja_cons (je_bin o_addA (je_bin o_addA (je_sl (e_v 1) jo_none (jo_some (e_v 6))) (je_lst (ja_cons (je_tup (ja_cons (e_v 8) (ja_cons (je_bin o_addA (je_sl (e_v 9) jo_none (jo_some (je_neg e_i))) (je_lst (ja_cons (e_v 5) ja_nil))) ja_nil))) ja_nil))) (je_sl (e_v 1) (jo_some (je_bin o_addA (e_v 6) e_i)) jo_none)) ja_nil))))))))) jb_nil) (jb_one (js_ret (je_fz (je_lc (own := [("one", 11)]) rfl hN (blkOk_by (by rfl)) (ji_seq (e_f 7)) (fun s H C cl fp => wHb (cxf_none rfl) fun hx => ⟨(g_n 11 (hN := hN)), (jts_one (jt_cmp o_le (e_len Q.n_len (ja_cons (e_v 11) ja_nil)) e_i)), (e_v 11)⟩)))))))))))))
theorem c__law_bent_logs (Q : Fs pr K mg base T) : Cal pr w K mg base (cc K T) "_law_bent_logs" 4 ["store", "log", "left"] true 3 .fz d__law_bent_logs [] := by
  obtain ⟨f, fd, F, hm⟩ := Q.f__law_bent_logs
  exact mkCal (fn_ok true F sc__law_bent_logs rfl rfl (by decide) (by first | exact .inl rfl | exact .inr rfl) fun cdv A outer s H E e hr => j__law_bent_logs Q cdv A outer s H E hr) hm F.kp (F.bindsN fun _ _ _ _ _ _ us hl => match us, hl with | [_, _, _], _ => rfl)

/-! _law_refusals -/
def N__law_refusals : List Str := ["store", "row", "log", "left", "entries", "bad", "at", "logs", "wrong", "worse", "answers", "answer", "due"]
theorem sc__law_refusals : FnScope N__law_refusals ["store", "row", "log", "left"] (defScope (top 56)) := ⟨rfl, rfl, rfl, by decide +kernel, rfl, by decide +kernel, by decide +kernel⟩
theorem j__law_refusals {fa : Addr} (Q : Fs pr K mg base T) (A : Around) (outer : List Env) (s : Shared) (H : Hp) (E : XK) (hr : Room 8 (A.deeper (envOfC "_law_refusals" (defScope (top 56)) s.heap.objs.size fa (.ref (He.codeOf K ("_law_refusals", none)))))) :
    JB ⟨cc K T, ioOf true, E⟩ (cxOf (L2N.CX pr w) pr w K mg base N__law_refusals "_law_refusals" (defScope (top 56)) fa (.ref (He.codeOf K ("_law_refusals", none))) A outer s H E) (defBody (top 56)) (argM true 4 ++ List.replicate 9 .un) [.un, .un, .un, .un, .un, .un, .un, .un, .un, .un, .un, .un, .un] [.ow, .fz, .fz, .fz, .un, .un, .un, .un, .un, .un, .un, .un, .un] [.ow, .fz, .fz, .fz, .un, .un, .un, .un, .un, .un, .un, .un, .un] .fz s__law_refusals :=
  have hN : N__law_refusals.Nodup := by decide +kernel
  wHx cxf_def fun hx => (jb_cons (js_set (i := 4) (je_fz (je_lst (ja_cons (je_tup (ja_cons (je_neg e_i) (ja_cons (je_fz (je_lst (ja_cons e_i ja_nil))) ja_nil))) (ja_cons (je_tup (ja_cons e_i (ja_cons (je_fz (je_lst ja_nil)) ja_nil))) (ja_cons (je_tup (ja_cons e_i (ja_cons (je_bin o_mulA (je_lst (ja_cons e_i ja_nil)) e_i) ja_nil))) (ja_cons (je_tup (ja_cons e_i (ja_cons (je_fz (je_lst (ja_cons e_i ja_nil))) ja_nil))) (ja_cons (je_tup (ja_cons e_i (ja_cons (je_fz (je_lst (ja_cons e_b ja_nil))) ja_nil))) (ja_cons (je_tup (ja_cons e_b (ja_cons (je_fz (je_lst (ja_cons e_i ja_nil))) ja_nil))) (ja_cons (je_tup (ja_cons e_n (ja_cons (je_fz (je_lst (ja_cons e_i ja_nil))) ja_nil))) (ja_cons (je_tup (ja_cons e_i (ja_cons (je_fz (je_lst (ja_cons e_i ja_nil))) (ja_cons e_i ja_nil)))) (ja_cons (je_tup (ja_cons e_i ja_nil)) ja_nil))))))))))) hN rfl (by first | exact .inl rfl | exact .inr rfl)) (jb_cons (js_set (i := 5) (je_calS hx (c__law_pick Q) hr rfl (ja_cons (e_o 0) (ja_cons (je_bin o_addA (e_v 4) (je_lst (ja_cons (je_tup (ja_cons (je_fz (je_lst (ja_cons e_i ja_nil))) (ja_cons e_i ja_nil))) (ja_cons (je_tup (ja_cons e_i (ja_cons e_i ja_nil))) (ja_cons e_n (ja_cons e_i (ja_cons (je_fz e_d) (ja_cons e_s ja_nil)))))))) ja_nil))) hN rfl (by first | exact .inl rfl | exact .inr rfl)) (jb_cons (js_set (i := 6) (je_calS hx (c__law_take Q) hr rfl (ja_cons (e_o 0) (ja_cons (je_bin o_addA (e_len Q.n_len (ja_cons (e_v 2) ja_nil)) e_i) ja_nil))) hN rfl (by first | exact .inl rfl | exact .inr rfl)) (jb_cons (js_set (i := 7) (je_fz (je_lst (ja_cons (je_bin o_addA (je_bin o_addA (je_sl (e_v 2) jo_none (jo_some (e_v 6))) (je_lst (ja_cons (e_v 5) ja_nil))) (je_sl (e_v 2) (jo_some (e_v 6)) jo_none)) (ja_cons (je_bin o_mulA (je_lst (ja_cons (je_tup (ja_cons e_i (ja_cons (je_fz (je_lst (ja_cons e_i ja_nil))) ja_nil))) ja_nil)) e_i) (ja_cons e_n (ja_cons e_i (ja_cons e_s (ja_cons (je_fz e_d) ja_nil)))))))) hN rfl (by first | exact .inl rfl | exact .inr rfl)) (jb_cons (js_set (i := 8) (je_calS hx (c__law_pick Q) hr rfl (ja_cons (e_o 0) (ja_cons (je_fz (je_lst (ja_cons (je_ixA hr (e_v 7) e_i) (ja_cons (je_ixA hr (e_v 7) e_i) (ja_cons (je_calS hx (c__law_pick Q) hr rfl (ja_cons (e_o 0) (ja_cons (e_v 7) ja_nil))) ja_nil))))) ja_nil))) hN rfl (by first | exact .inl rfl | exact .inr rfl)) (jb_cons (js_set (i := 9) (je_calS hx (c__law_pick Q) hr rfl (ja_cons (e_o 0) (ja_cons (je_fz (je_lst (ja_cons (je_fz (je_lst (ja_cons e_i ja_nil))) (ja_cons (je_bin o_mulA (je_lst (ja_cons e_i ja_nil)) e_i) (ja_cons (je_fz (je_lst (ja_cons (je_neg e_i) ja_nil))) (ja_cons (je_fz (je_lst (ja_cons e_b ja_nil))) (ja_cons e_n (ja_cons e_s (ja_cons e_i (ja_cons (je_fz (je_lst (ja_cons (je_fz (je_lst (ja_cons e_i ja_nil))) ja_nil))) (ja_cons (je_fz e_d) ja_nil))))))))))) ja_nil))) hN rfl (by first | exact .inl rfl | exact .inr rfl)) (jb_cons (js_set (i := 10) (je_lst (ja_cons (je_tup (ja_cons (je_ans (k := 6) (c__law_answer Q) Q.l__law_refusals (hr.mono (by decide)) (fun A outer s H E f c' hr => wHe cxf_lam fun hx => (je_cal hx (c_judge_log Q) hr rfl (ja_cons (e_v 1) (ja_cons (e_v 8) (ja_cons (e_v 3) ja_nil)))))) (ja_cons e_s ja_nil))) ja_nil)) hN rfl (by first | exact .inl rfl | exact .inr rfl)) (jb_cons (js_expr (e_app 10 (pv 10) (ja_cons (je_tup (ja_cons (je_ans (k := 6) (c__law_answer Q) Q.l__law_refusals (hr.mono (by decide)) (fun A outer s H E f c' hr => wHe cxf_lam fun hx => (je_cal hx (c_judge_log Q) hr rfl (ja_cons (e_v 1) (ja_cons (e_v 2) (ja_cons (e_v 9) ja_nil)))))) (ja_cons e_s ja_nil))) ja_nil))) (jb_cons (js_expr (e_app 10 (pv 10) (ja_cons (je_tup (ja_cons (je_ans (k := 6) (c__law_answer Q) Q.l__law_refusals (hr.mono (by decide)) (fun A outer s H E f c' hr => wHe cxf_lam fun hx => (je_cal hx (c_judge_log Q) hr rfl (ja_cons (e_v 9) (ja_cons (e_v 8) (ja_cons (e_v 9) ja_nil)))))) (ja_cons e_s ja_nil))) ja_nil))) (jb_cons (js_expr (e_app 10 (pv 10) (ja_cons (je_tup (ja_cons (je_ans (k := 5) (c__law_answer Q) Q.l__law_refusals (hr.mono (by decide)) (fun A outer s H E f c' hr => wHe cxf_lam fun hx => (je_cal hx (c_grow Q) hr rfl (ja_cons (je_bin o_mulA (je_lst (ja_cons e_i ja_nil)) e_i) (ja_cons (e_v 8) ja_nil))))) (ja_cons e_s ja_nil))) ja_nil))) (jb_cons (js_expr (e_app 10 (pv 10) (ja_cons (je_tup (ja_cons (je_ans (k := 5) (c__law_answer Q) Q.l__law_refusals (hr.mono (by decide)) (fun A outer s H E f c' hr => wHe cxf_lam fun hx => (je_cal hx (c_grow Q) hr rfl (ja_cons (e_v 9) (ja_cons (e_v 8) ja_nil))))) (ja_cons e_s ja_nil))) ja_nil))) (jb_cons (js_expr (e_app 10 (pv 10) (ja_cons (je_tup (ja_cons (je_ans (k := 5) (c__law_answer Q) Q.l__law_refusals (hr.mono (by decide)) (fun A outer s H E f c' hr => wHe cxf_lam fun hx => (je_cal hx (c_cut_down Q) hr rfl (ja_cons (je_fz (je_lst ja_nil)) ja_nil)))) (ja_cons e_s ja_nil))) ja_nil))) (jb_cons (js_for (M0 := [.ow, .fz, .fz, .fz, .fz, .fz, .fz, .fz, .fz, .fz, .fz, .un, .un]) (M2 := [.ow, .fz, .fz, .fz, .fz, .fz, .fz, .fz, .fz, .fz, .fz, .fz, .fz]) hx.own rfl (ji_seq (e_f 10)) (jg_tup (n := 2) rfl (jgs_cons (g_n 11 (hN := hN)) (jgs_cons (g_n 12 (hN := hN)) g_0))) (jb_weakN (Mn := [.ow, .fz, .fz, .fz, .fz, .fz, .fz, .fz, .fz, .fz, .fz, .fz, .fz]) (Mn' := [.ow, .fz, .fz, .fz, .fz, .fz, .fz, .fz, .fz, .fz, .fz, .un, .un]) (jb_one (js_if (jt_not (jt_val (je_cal hx (c__law_refused Q) hr rfl (ja_cons (e_v 11) (ja_cons (e_v 12) (ja_cons e_n ja_nil)))))) (jb_one (js_ret e_b)) jb_nil)))) (jb_one (js_ret e_b)))))))))))))))
theorem c__law_refusals (Q : Fs pr K mg base T) : Cal pr w K mg base (cc K T) "_law_refusals" 9 ["store", "row", "log", "left"] true 4 .fz d__law_refusals [] := by
  obtain ⟨f, fd, F, hm, hc⟩ := Q.f__law_refusals
  exact mkCal (fn_ok true F sc__law_refusals rfl rfl (by decide) (by first | exact .inl rfl | exact .inr rfl) fun cdv A outer s H E e hr => by obtain rfl := e.symm.trans hc; exact j__law_refusals Q A outer s H E hr) hm F.kp (F.bindsN fun _ _ _ _ _ _ us hl => match us, hl with | [_, _, _, _], _ => rfl)

/-! law -/
def N_law : List Str := ["script", "store", "row", "left", "log", "logs", "one", "told", "own_log", "k", "entry"]
theorem sc_law : FnScope N_law ["script"] (defScope (top 57)) := ⟨rfl, rfl, rfl, by decide +kernel, rfl, by decide +kernel, by decide +kernel⟩
theorem j_law {fa : Addr} (Q : Fs pr K mg base T) (cdv : Value) (A : Around) (outer : List Env) (s : Shared) (H : Hp) (E : XK) (hr : Room 10 (A.deeper (envOfC "law" (defScope (top 57)) s.heap.objs.size fa cdv))) :
    JB ⟨cc K T, ioOf false, E⟩ (cxOf (L2N.CX pr w) pr w K mg base N_law "law" (defScope (top 57)) fa cdv A outer s H E) (defBody (top 57)) (argM false 1 ++ List.replicate 10 .un) [.un, .un, .un, .un, .un, .un, .un, .un, .un, .un, .un] [.fz, .un, .un, .un, .un, .un, .un, .un, .un, .un, .un] [.fz, .un, .un, .un, .un, .un, .un, .un, .un, .un, .un] .fz s_law :=
  have hN : N_law.Nodup := by decide +kernel
  wHx cxf_def fun hx => (jb_cons (js_set (i := 1) (je_cal hx (c__law_store Q) hr rfl (ja_cons (e_v 0) ja_nil)) hN rfl (by first | exact .inl rfl | exact .inr rfl)) (jb_cons (js_set (i := 2) (je_calS hx (c__law_drawn_row Q) hr rfl (ja_cons (e_o 1) ja_nil)) hN rfl (by first | exact .inl rfl | exact .inr rfl)) (jb_cons (js_asg (je_calS hx (c__law_cut_any Q) hr rfl (ja_cons (e_o 1) (ja_cons (e_v 2) (ja_cons (je_calS hx (c__law_pick Q) hr rfl (ja_cons (e_o 1) (ja_cons (je_fz (je_lst (ja_cons e_i (ja_cons e_i (ja_cons (je_calS hx (c__law_take Q) hr rfl (ja_cons (e_o 1) (ja_cons e_i ja_nil))) (ja_cons e_i ja_nil)))))) ja_nil))) ja_nil)))) (jg_tup (n := 2) rfl (jgs_cons (g_n 3 (hN := hN)) (jgs_cons (g_n 4 (hN := hN)) g_0)))) (jb_cons (js_if (jt_w (jw_or (jt_not (jt_val (je_calS hx (c__law_judged Q) hr rfl (ja_cons (e_o 1) (ja_cons (e_v 2) (ja_cons (e_v 4) (ja_cons (e_v 3) ja_nil))))))) (jw_or1 (jt_not (jt_val (je_cal hx (c__law_same Q) hr rfl (ja_cons (je_cal hx (c_is_short Q) hr rfl (ja_cons (e_v 3) ja_nil)) (ja_cons (je_cal hx (c__law_is_short Q) hr rfl (ja_cons (e_v 3) ja_nil)) ja_nil)))))))) (jb_one (js_ret e_b)) jb_nil) (jb_cons (js_set (i := 5) (je_calS hx (c__law_bent_logs Q) hr rfl (ja_cons (e_o 1) (ja_cons (e_v 4) (ja_cons (e_v 3) ja_nil)))) hN rfl (by first | exact .inl rfl | exact .inr rfl)) (jb_cons (js_if (jt_cmp o_gt (e_len Q.n_len (ja_cons (e_v 2) ja_nil)) e_i) (jb_one (js_set (i := 5) (je_fz (je_lc (own := [("k", 9)]) rfl hN (blkOk_by (by rfl)) (ji_range1 rfl Q.n_range (ja_cons e_i ja_nil)) (fun s H C cl fp => wHb (cxf_none rfl) fun hx => ⟨(g_n 9 (hN := hN)), jts_nil, (je_calS hx (c__law_pick Q) hr rfl (ja_cons (e_o 1) (ja_cons (e_v 5) ja_nil)))⟩))) hN rfl (by first | exact .inl rfl | exact .inr rfl))) jb_nil) (jb_cons (js_for (M0 := [.fz, .ow, .fz, .fz, .fz, .fz, .un, .un, .un, .un, .un]) (M2 := [.fz, .ow, .fz, .fz, .fz, .fz, .fz, .un, .un, .un, .un]) hx.own rfl (ji_seq (e_v 5)) (g_n 6 (hN := hN)) (jb_weakN (Mn := [.fz, .ow, .fz, .fz, .fz, .fz, .fz, .un, .un, .un, .un]) (Mn' := [.fz, .ow, .fz, .fz, .fz, .fz, .un, .un, .un, .un, .un]) (jb_one (js_if (jt_not (jt_val (je_calS hx (c__law_judged Q) hr rfl (ja_cons (e_o 1) (ja_cons (e_v 2) (ja_cons (e_v 6) (ja_cons (e_v 3) ja_nil))))))) (jb_one (js_ret e_b)) jb_nil)))) (jb_cons (js_if (jt_w (jw_or (jt_not (jt_val (je_calS hx (c__law_judged Q) hr rfl (ja_cons (e_o 1) (ja_cons (e_v 2) (ja_cons (e_v 4) (ja_cons (je_sl (e_v 3) (jo_some e_i) jo_none) ja_nil))))))) (jw_or1 (jt_not (jt_val (je_calS hx (c__law_judged Q) hr rfl (ja_cons (e_o 1) (ja_cons (e_v 2) (ja_cons (e_v 4) (ja_cons (je_bin o_addA (je_sl (e_v 3) jo_none (jo_some e_i)) (je_lst (ja_cons e_i ja_nil))) ja_nil)))))))))) (jb_one (js_ret e_b)) jb_nil) (jb_cons (js_if (jt_not (jt_val (je_calS hx (c__law_refusals Q) hr rfl (ja_cons (e_o 1) (ja_cons (e_v 2) (ja_cons (e_v 4) (ja_cons (e_v 3) ja_nil))))))) (jb_one (js_ret e_b)) jb_nil) (jb_cons (js_if (jt_cmp (o_eq hr) (e_len Q.n_len (ja_cons (e_v 2) ja_nil)) e_i) (jb_one (js_ret e_b)) jb_nil) (jb_cons (js_set (i := 7) (je_cal hx (c_cut_down Q) hr rfl (ja_cons (e_tuple Q.n_tuple (ja_cons (e_v 2) ja_nil)) ja_nil)) hN rfl (by first | exact .inl rfl | exact .inr rfl)) (jb_cons (js_if (jt_w (jw_or (jt_not (jt_val (je_cal hx (c__law_plain Q) hr rfl (ja_cons (e_v 7) ja_nil)))) (jw_or (jt_not (jt_val (je_isi tok_tuple (t_tuple Q.n_tuple) rfl Q.n_isinstance (e_v 7)))) (jw_or (jt_cmp (o_ne hr) (e_len Q.n_len (ja_cons (e_v 7) ja_nil)) e_i) (jw_or1 (jt_not (jt_val (je_isi tok_tuple (t_tuple Q.n_tuple) rfl Q.n_isinstance (je_ixA hr (e_v 7) e_i))))))))) (jb_one (js_ret e_b)) jb_nil) (jb_cons (js_setLcF (i := 8) (own := [("entry", 10)]) rfl hN rfl (blkOk_by (by rfl)) (ji_seq (je_ixA hr (e_v 7) e_i)) (fun s H C cl fp => wHb (cxf_none rfl) fun hx => ⟨(g_n 10 (hN := hN)), jts_nil, (je_tup (ja_cons (je_ixA hr (e_v 10) e_i) (ja_cons (je_fz (e_list Q.n_list (ja_cons (je_ixA hr (e_v 10) e_i) ja_nil))) ja_nil)))⟩)) (jb_cons (js_if (jt_w (jw_or (jt_cmp (o_ne hr) (je_cal hx (c__law_word Q) hr rfl (ja_cons (e_v 2) (ja_cons (e_v 8) (ja_cons (je_ixA hr (e_v 7) e_i) ja_nil)))) e_s) (jw_or1 (jt_not (jt_val (je_cal hx (c__law_same Q) hr rfl (ja_cons (je_cal hx (c_grow Q) hr rfl (ja_cons (je_ixA hr (e_v 7) e_i) (ja_cons (je_ixA hr (e_v 7) e_i) ja_nil))) (ja_cons (e_tuple Q.n_tuple (ja_cons (e_v 2) ja_nil)) ja_nil)))))))) (jb_one (js_ret e_b)) jb_nil) (jb_one (js_ret (je_cal hx (c__law_same Q) hr rfl (ja_cons (je_cal hx (c_judge_log Q) hr rfl (ja_cons (je_fz (e_list Q.n_list (ja_cons (e_v 2) ja_nil))) (ja_cons (je_ixA hr (e_v 7) e_i) (ja_cons (je_ixA hr (e_v 7) e_i) ja_nil)))) (ja_cons e_s ja_nil)))))))))))))))))))
theorem c_law (Q : Fs pr K mg base T) : Cal pr w K mg base (cc K T) "law" 11 ["script"] false 1 .fz d_law [] := by
  obtain ⟨f, fd, F, hm⟩ := Q.f_law
  exact mkCal (fn_ok false F sc_law rfl rfl (by decide) (by first | exact .inl rfl | exact .inr rfl) fun cdv A outer s H E e hr => j_law Q cdv A outer s H E hr) hm F.kp (F.bindsN fun _ _ _ _ _ _ us hl => match us, hl with | [_], _ => rfl)
theorem k_law {f : Addr} {fd : FuncData} (Q : Fs pr K mg base T) (F : FunD K "law" "law" (defArgs (top 57)) (defBody (top 57)) (defScope (top 57)) [] [] f fd) : FnOk pr w K mg base (L2N.CX pr w) 11 f fd ["script"] (spD (cc K T) false 1 .fz d_law) :=
  (fn_ok false F sc_law rfl rfl (by decide) (by first | exact .inl rfl | exact .inr rfl) fun cdv A outer s H E e hr => j_law Q cdv A outer s H E hr)

end
def h_is_whole : He.DefD := ⟨("is_whole", none), "is_whole", "is_whole", defArgs (top 21), defBody (top 21), defScope (top 21), [], []⟩
def h_is_kind : He.DefD := ⟨("is_kind", none), "is_kind", "is_kind", defArgs (top 22), defBody (top 22), defScope (top 22), [], []⟩
def h_is_row : He.DefD := ⟨("is_row", none), "is_row", "is_row", defArgs (top 23), defBody (top 23), defScope (top 23), [], []⟩
def h_checked_row : He.DefD := ⟨("checked_row", none), "checked_row", "checked_row", defArgs (top 24), defBody (top 24), defScope (top 24), [.int 8], []⟩
def h_singles_of : He.DefD := ⟨("singles_of", none), "singles_of", "singles_of", defArgs (top 25), defBody (top 25), defScope (top 25), [], []⟩
def h_gaps_of : He.DefD := ⟨("gaps_of", none), "gaps_of", "gaps_of", defArgs (top 26), defBody (top 26), defScope (top 26), [], []⟩
def h_is_short : He.DefD := ⟨("is_short", none), "is_short", "is_short", defArgs (top 27), defBody (top 27), defScope (top 27), [], []⟩
def h_first_places : He.DefD := ⟨("first_places", none), "first_places", "first_places", defArgs (top 29), defBody (top 29), defScope (top 29), [], []⟩
def h_last_places : He.DefD := ⟨("last_places", none), "last_places", "last_places", defArgs (top 30), defBody (top 30), defScope (top 30), [], []⟩
def h_start_for : He.DefD := ⟨("start_for", none), "start_for", "start_for", defArgs (top 31), defBody (top 31), defScope (top 31), [], []⟩
def h_first_of : He.DefD := ⟨("first_of", none), "first_of", "first_of", defArgs (top 32), defBody (top 32), defScope (top 32), [], []⟩
def h_is_cut : He.DefD := ⟨("is_cut", none), "is_cut", "is_cut", defArgs (top 33), defBody (top 33), defScope (top 33), [], []⟩
def h_checked_log : He.DefD := ⟨("checked_log", none), "checked_log", "checked_log", defArgs (top 34), defBody (top 34), defScope (top 34), [], []⟩
def h_cut_down : He.DefD := ⟨("cut_down", none), "cut_down", "cut_down", defArgs (top 35), defBody (top 35), defScope (top 35), [], []⟩
def h_grow : He.DefD := ⟨("grow", none), "grow", "grow", defArgs (top 36), defBody (top 36), defScope (top 36), [], []⟩
def h_judge_log : He.DefD := ⟨("judge_log", none), "judge_log", "judge_log", defArgs (top 37), defBody (top 37), defScope (top 37), [], []⟩
def h__law_store : He.DefD := ⟨("_law_store", none), "_law_store", "_law_store", defArgs (top 39), defBody (top 39), defScope (top 39), [], []⟩
def h__law_mix : He.DefD := ⟨("_law_mix", none), "_law_mix", "_law_mix", defArgs (top 40), defBody (top 40), defScope (top 40), [], []⟩
def h__law_take : He.DefD := ⟨("_law_take", none), "_law_take", "_law_take", defArgs (top 41), defBody (top 41), defScope (top 41), [], []⟩
def h__law_pick : He.DefD := ⟨("_law_pick", none), "_law_pick", "_law_pick", defArgs (top 42), defBody (top 42), defScope (top 42), [], []⟩
def h__law_shaped : He.DefD := ⟨("_law_shaped", none), "_law_shaped", "_law_shaped", defArgs (top 43), defBody (top 43), defScope (top 43), [], []⟩
def h__law_same : He.DefD := ⟨("_law_same", none), "_law_same", "_law_same", defArgs (top 44), defBody (top 44), defScope (top 44), [], []⟩
def h__law_plain : He.DefD := ⟨("_law_plain", none), "_law_plain", "_law_plain", defArgs (top 45), defBody (top 45), defScope (top 45), [], []⟩
def h__law_answer : He.DefD := ⟨("_law_answer", none), "_law_answer", "_law_answer", defArgs (top 46), defBody (top 46), defScope (top 46), [], []⟩
def h__law_refused : He.DefD := ⟨("_law_refused", none), "_law_refused", "_law_refused", defArgs (top 47), defBody (top 47), defScope (top 47), [], []⟩
def h__law_is_short : He.DefD := ⟨("_law_is_short", none), "_law_is_short", "_law_is_short", defArgs (top 48), defBody (top 48), defScope (top 48), [], []⟩
def h__law_drawn_row : He.DefD := ⟨("_law_drawn_row", none), "_law_drawn_row", "_law_drawn_row", defArgs (top 49), defBody (top 49), defScope (top 49), [], []⟩
def h__law_a_cut : He.DefD := ⟨("_law_a_cut", none), "_law_a_cut", "_law_a_cut", defArgs (top 50), defBody (top 50), defScope (top 50), [], []⟩
def h__law_cut_any : He.DefD := ⟨("_law_cut_any", none), "_law_cut_any", "_law_cut_any", defArgs (top 51), defBody (top 51), defScope (top 51), [], []⟩
def h__law_word : He.DefD := ⟨("_law_word", none), "_law_word", "_law_word", defArgs (top 52), defBody (top 52), defScope (top 52), [], []⟩
def h__law_grown : He.DefD := ⟨("_law_grown", none), "_law_grown", "_law_grown", defArgs (top 53), defBody (top 53), defScope (top 53), [], []⟩
def h__law_judged : He.DefD := ⟨("_law_judged", none), "_law_judged", "_law_judged", defArgs (top 54), defBody (top 54), defScope (top 54), [], []⟩
def h__law_bent_logs : He.DefD := ⟨("_law_bent_logs", none), "_law_bent_logs", "_law_bent_logs", defArgs (top 55), defBody (top 55), defScope (top 55), [], []⟩
def h__law_refusals : He.DefD := ⟨("_law_refusals", none), "_law_refusals", "_law_refusals", defArgs (top 56), defBody (top 56), defScope (top 56), [], []⟩
def h_law : He.DefD := ⟨("law", none), "law", "law", defArgs (top 57), defBody (top 57), defScope (top 57), [], []⟩
def fn : List He.DefD := [h_is_whole, h_is_kind, h_is_row, h_checked_row, h_singles_of, h_gaps_of, h_is_short, h_first_places, h_last_places, h_start_for, h_first_of, h_is_cut, h_checked_log, h_cut_down, h_grow, h_judge_log, h__law_store, h__law_mix, h__law_take, h__law_pick, h__law_shaped, h__law_same, h__law_plain, h__law_answer, h__law_refused, h__law_is_short, h__law_drawn_row, h__law_a_cut, h__law_cut_any, h__law_word, h__law_grown, h__law_judged, h__law_bent_logs, h__law_refusals, h_law]
def fa : List He.Fa := [.glo "is_whole", .glo "is_kind", .glo "is_row", .glo "checked_row", .glo "singles_of", .glo "gaps_of", .glo "is_short", .glo "first_places", .glo "last_places", .glo "start_for", .glo "first_of", .glo "is_cut", .glo "checked_log", .glo "cut_down", .glo "grow", .glo "judge_log", .glo "_law_store", .glo "_law_mix", .glo "_law_take", .glo "_law_pick", .glo "_law_shaped", .glo "_law_same", .glo "_law_plain", .glo "_law_answer", .glo "_law_refused", .glo "_law_is_short", .glo "_law_drawn_row", .glo "_law_a_cut", .glo "_law_cut_any", .glo "_law_word", .glo "_law_grown", .glo "_law_judged", .glo "_law_bent_logs", .glo "_law_refusals", .glo "law", .free "ValueError", .free "bool", .free "enumerate", .free "int", .free "isinstance", .free "len", .free "list", .free "range", .free "reversed", .free "set", .free "str", .free "sum", .free "super", .free "tuple", .int "KINDS" 8, .int "PIECES" 200, .glo "WorksError", .glo "BadNumber", .glo "BadTable", .glo "BadKind", .glo "BadLot", .glo "BadOrder", .glo "BadBatch", .glo "BadRow", .glo "BadFold", .glo "BadRing", .glo "BadSlot", .glo "BadPaper", .glo "BadRule", .glo "Outside", .glo "BadText", .glo "TooMany", .glo "Gains", .exc "WorksError", .exc "BadNumber", .exc "BadTable", .exc "BadKind", .exc "BadLot", .exc "BadOrder", .exc "BadBatch", .exc "BadRow", .exc "BadFold", .exc "BadRing", .exc "BadSlot", .exc "BadPaper", .exc "BadRule", .exc "Outside"]
def tf : List He.Defn := [("_law_judged", none), ("_law_refusals", none)]
def flds : List Str := ["line", "limit", "ring"]
def i_TooMany : InD := ⟨"TooMany", "limit", "TooMany.__init__", defArgs (cInit (top 16)), defBody (cInit (top 16)), defScope (cInit (top 16))⟩
def ins : List InD := [i_TooMany]
def file0 : Str := PySem.Challenge.rw_staysandturns_k11_logs_of_long_sections.prog.main.file
def ex (K : PySem.W.Frag) : Bool := (exB xsE xsY flds subE "WorksError" K && tabNd tf K) && ins.all fun d => iniB file0 K d
abbrev R : PySem.W.OpenRow := PySem.W.OpenLaw.row PySem.Challenge.rw_staysandturns_k11_logs_of_long_sections
def loose0 : List PySem.Str := ["__name__", "WorksError", "BadNumber", "BadTable", "BadKind", "BadLot", "BadOrder", "BadBatch", "BadRow", "BadFold", "BadRing", "BadSlot", "BadPaper", "BadRule", "Outside", "BadText", "TooMany", "Gains", "KINDS", "PIECES", "is_whole", "is_kind", "is_row", "checked_row", "singles_of", "gaps_of", "is_short", "first_places", "last_places", "start_for"]
def loose1 : List PySem.Str := ["first_of", "is_cut", "checked_log", "cut_down", "grow", "judge_log", "_law_store", "_law_mix", "_law_take", "_law_pick", "_law_shaped", "_law_same", "_law_plain", "_law_answer", "_law_refused", "_law_is_short", "_law_drawn_row", "_law_a_cut", "_law_cut_any", "_law_word", "_law_grown", "_law_judged", "_law_bent_logs", "_law_refusals"]
def loose : List PySem.Str := loose0 ++ loose1
abbrev hk : PySem.W.Hook := hookY 5 fa fn tf ex ins
def ob (s : PySem.W.SharedT) : AlY := obsY 5 fa fn tf ex ins (HandSHeadRun.getT s)
theorem ob_eq (s : PySem.W.SharedT) : ob s = hk.obs s.abs := obsY_eq (HandSHeadRun.getT_eq s)
set_option maxHeartbeats 0 in
theorem run (w : World) : HandSHeadRun.RunEq R (PySem.W.view R.prog [57]) hk ob 6000 loose w := by
  intro os
  kernel_rfl
theorem facts {w : World} {K : PySem.W.Frag} {h base : Heap} {mg : Str → Option Value} (X : K.In h) (G : h.Ns mainGlobals mg) (c : SaysY fa fn tf ex ins w h K) (hTB : ∀ p ∈ tabCs K tf, LamX.TabB base mg p.1 p.2) : Fs PySem.Challenge.rw_staysandturns_k11_logs_of_long_sections.prog K mg base (tabT K tf) :=
  have m0 := Bool.and_eq_true_iff.mp c.x.more
  have m := Bool.and_eq_true_iff.mp m0.1
  have e := exB_ok m.1
  have d := c.x.t.d
  {
    f_is_whole := (d.def_ 0 (d := h_is_whole) rfl).elim fun fd F => ⟨_, fd, F, He.glo_ok X G (d.fact 0 (f := .glo "is_whole") rfl)⟩
    f_is_kind := (d.def_ 1 (d := h_is_kind) rfl).elim fun fd F => ⟨_, fd, F, He.glo_ok X G (d.fact 1 (f := .glo "is_kind") rfl)⟩
    f_is_row := (d.def_ 2 (d := h_is_row) rfl).elim fun fd F => ⟨_, fd, F, He.glo_ok X G (d.fact 2 (f := .glo "is_row") rfl)⟩
    f_checked_row := (d.def_ 3 (d := h_checked_row) rfl).elim fun fd F => ⟨_, fd, F, He.glo_ok X G (d.fact 3 (f := .glo "checked_row") rfl)⟩
    f_singles_of := (d.def_ 4 (d := h_singles_of) rfl).elim fun fd F => ⟨_, fd, F, He.glo_ok X G (d.fact 4 (f := .glo "singles_of") rfl)⟩
    f_gaps_of := (d.def_ 5 (d := h_gaps_of) rfl).elim fun fd F => ⟨_, fd, F, He.glo_ok X G (d.fact 5 (f := .glo "gaps_of") rfl)⟩
    f_is_short := (d.def_ 6 (d := h_is_short) rfl).elim fun fd F => ⟨_, fd, F, He.glo_ok X G (d.fact 6 (f := .glo "is_short") rfl)⟩
    f_first_places := (d.def_ 7 (d := h_first_places) rfl).elim fun fd F => ⟨_, fd, F, He.glo_ok X G (d.fact 7 (f := .glo "first_places") rfl)⟩
    f_last_places := (d.def_ 8 (d := h_last_places) rfl).elim fun fd F => ⟨_, fd, F, He.glo_ok X G (d.fact 8 (f := .glo "last_places") rfl)⟩
    f_start_for := (d.def_ 9 (d := h_start_for) rfl).elim fun fd F => ⟨_, fd, F, He.glo_ok X G (d.fact 9 (f := .glo "start_for") rfl)⟩
    f_first_of := (d.def_ 10 (d := h_first_of) rfl).elim fun fd F => ⟨_, fd, F, He.glo_ok X G (d.fact 10 (f := .glo "first_of") rfl)⟩
    f_is_cut := (d.def_ 11 (d := h_is_cut) rfl).elim fun fd F => ⟨_, fd, F, He.glo_ok X G (d.fact 11 (f := .glo "is_cut") rfl)⟩
    f_checked_log := (d.def_ 12 (d := h_checked_log) rfl).elim fun fd F => ⟨_, fd, F, He.glo_ok X G (d.fact 12 (f := .glo "checked_log") rfl)⟩
    f_cut_down := (d.def_ 13 (d := h_cut_down) rfl).elim fun fd F => ⟨_, fd, F, He.glo_ok X G (d.fact 13 (f := .glo "cut_down") rfl)⟩
    f_grow := (d.def_ 14 (d := h_grow) rfl).elim fun fd F => ⟨_, fd, F, He.glo_ok X G (d.fact 14 (f := .glo "grow") rfl)⟩
    f_judge_log := (d.def_ 15 (d := h_judge_log) rfl).elim fun fd F => ⟨_, fd, F, He.glo_ok X G (d.fact 15 (f := .glo "judge_log") rfl)⟩
    f__law_store := (d.def_ 16 (d := h__law_store) rfl).elim fun fd F => ⟨_, fd, F, He.glo_ok X G (d.fact 16 (f := .glo "_law_store") rfl)⟩
    f__law_mix := (d.def_ 17 (d := h__law_mix) rfl).elim fun fd F => ⟨_, fd, F, He.glo_ok X G (d.fact 17 (f := .glo "_law_mix") rfl)⟩
    f__law_take := (d.def_ 18 (d := h__law_take) rfl).elim fun fd F => ⟨_, fd, F, He.glo_ok X G (d.fact 18 (f := .glo "_law_take") rfl)⟩
    f__law_pick := (d.def_ 19 (d := h__law_pick) rfl).elim fun fd F => ⟨_, fd, F, He.glo_ok X G (d.fact 19 (f := .glo "_law_pick") rfl)⟩
    f__law_shaped := (d.def_ 20 (d := h__law_shaped) rfl).elim fun fd F => ⟨_, fd, F, He.glo_ok X G (d.fact 20 (f := .glo "_law_shaped") rfl)⟩
    f__law_same := (d.def_ 21 (d := h__law_same) rfl).elim fun fd F => ⟨_, fd, F, He.glo_ok X G (d.fact 21 (f := .glo "_law_same") rfl)⟩
    f__law_plain := (d.def_ 22 (d := h__law_plain) rfl).elim fun fd F => ⟨_, fd, F, He.glo_ok X G (d.fact 22 (f := .glo "_law_plain") rfl)⟩
    f__law_answer := (d.def_ 23 (d := h__law_answer) rfl).elim fun fd F => ⟨_, fd, F, He.glo_ok X G (d.fact 23 (f := .glo "_law_answer") rfl)⟩
    f__law_refused := (d.def_ 24 (d := h__law_refused) rfl).elim fun fd F => ⟨_, fd, F, He.glo_ok X G (d.fact 24 (f := .glo "_law_refused") rfl)⟩
    f__law_is_short := (d.def_ 25 (d := h__law_is_short) rfl).elim fun fd F => ⟨_, fd, F, He.glo_ok X G (d.fact 25 (f := .glo "_law_is_short") rfl)⟩
    f__law_drawn_row := (d.def_ 26 (d := h__law_drawn_row) rfl).elim fun fd F => ⟨_, fd, F, He.glo_ok X G (d.fact 26 (f := .glo "_law_drawn_row") rfl)⟩
    f__law_a_cut := (d.def_ 27 (d := h__law_a_cut) rfl).elim fun fd F => ⟨_, fd, F, He.glo_ok X G (d.fact 27 (f := .glo "_law_a_cut") rfl)⟩
    f__law_cut_any := (d.def_ 28 (d := h__law_cut_any) rfl).elim fun fd F => ⟨_, fd, F, He.glo_ok X G (d.fact 28 (f := .glo "_law_cut_any") rfl)⟩
    f__law_word := (d.def_ 29 (d := h__law_word) rfl).elim fun fd F => ⟨_, fd, F, He.glo_ok X G (d.fact 29 (f := .glo "_law_word") rfl)⟩
    f__law_grown := (d.def_ 30 (d := h__law_grown) rfl).elim fun fd F => ⟨_, fd, F, He.glo_ok X G (d.fact 30 (f := .glo "_law_grown") rfl)⟩
    f__law_judged := (d.def_ 31 (d := h__law_judged) rfl).elim fun fd F => ⟨_, fd, F, He.glo_ok X G (d.fact 31 (f := .glo "_law_judged") rfl), code_eq F⟩
    l__law_judged := lamT_of m.2 hTB (p := ("_law_judged", none)) (by decide)
    f__law_bent_logs := (d.def_ 32 (d := h__law_bent_logs) rfl).elim fun fd F => ⟨_, fd, F, He.glo_ok X G (d.fact 32 (f := .glo "_law_bent_logs") rfl)⟩
    f__law_refusals := (d.def_ 33 (d := h__law_refusals) rfl).elim fun fd F => ⟨_, fd, F, He.glo_ok X G (d.fact 33 (f := .glo "_law_refusals") rfl), code_eq F⟩
    l__law_refusals := lamT_of m.2 hTB (p := ("_law_refusals", none)) (by decide)
    f_law := (d.def_ 34 (d := h_law) rfl).elim fun fd F => ⟨_, fd, F, He.glo_ok X G (d.fact 34 (f := .glo "law") rfl)⟩
    n_ValueError := He.free_ok X G (d.fact 35 (f := .free "ValueError") rfl)
    n_bool := He.free_ok X G (d.fact 36 (f := .free "bool") rfl)
    n_enumerate := He.free_ok X G (d.fact 37 (f := .free "enumerate") rfl)
    n_int := He.free_ok X G (d.fact 38 (f := .free "int") rfl)
    n_isinstance := He.free_ok X G (d.fact 39 (f := .free "isinstance") rfl)
    n_len := He.free_ok X G (d.fact 40 (f := .free "len") rfl)
    n_list := He.free_ok X G (d.fact 41 (f := .free "list") rfl)
    n_range := He.free_ok X G (d.fact 42 (f := .free "range") rfl)
    n_reversed := He.free_ok X G (d.fact 43 (f := .free "reversed") rfl)
    n_set := He.free_ok X G (d.fact 44 (f := .free "set") rfl)
    n_str := He.free_ok X G (d.fact 45 (f := .free "str") rfl)
    n_sum := He.free_ok X G (d.fact 46 (f := .free "sum") rfl)
    n_super := He.free_ok X G (d.fact 47 (f := .free "super") rfl)
    n_tuple := He.free_ok X G (d.fact 48 (f := .free "tuple") rfl)
    i_KINDS := He.int_ok X G (d.fact 49 (f := .int "KINDS" 8) rfl)
    i_PIECES := He.int_ok X G (d.fact 50 (f := .int "PIECES" 200) rfl)
    g_WorksError := He.glo_ok X G (d.fact 51 (f := .glo "WorksError") rfl)
    g_BadNumber := He.glo_ok X G (d.fact 52 (f := .glo "BadNumber") rfl)
    g_BadTable := He.glo_ok X G (d.fact 53 (f := .glo "BadTable") rfl)
    g_BadKind := He.glo_ok X G (d.fact 54 (f := .glo "BadKind") rfl)
    g_BadLot := He.glo_ok X G (d.fact 55 (f := .glo "BadLot") rfl)
    g_BadOrder := He.glo_ok X G (d.fact 56 (f := .glo "BadOrder") rfl)
    g_BadBatch := He.glo_ok X G (d.fact 57 (f := .glo "BadBatch") rfl)
    g_BadRow := He.glo_ok X G (d.fact 58 (f := .glo "BadRow") rfl)
    g_BadFold := He.glo_ok X G (d.fact 59 (f := .glo "BadFold") rfl)
    g_BadRing := He.glo_ok X G (d.fact 60 (f := .glo "BadRing") rfl)
    g_BadSlot := He.glo_ok X G (d.fact 61 (f := .glo "BadSlot") rfl)
    g_BadPaper := He.glo_ok X G (d.fact 62 (f := .glo "BadPaper") rfl)
    g_BadRule := He.glo_ok X G (d.fact 63 (f := .glo "BadRule") rfl)
    g_Outside := He.glo_ok X G (d.fact 64 (f := .glo "Outside") rfl)
    g_BadText := He.glo_ok X G (d.fact 65 (f := .glo "BadText") rfl)
    g_TooMany := He.glo_ok X G (d.fact 66 (f := .glo "TooMany") rfl)
    g_Gains := He.glo_ok X G (d.fact 67 (f := .glo "Gains") rfl)
    x_WorksError := He.exc_ok (d.fact 68 (f := .exc "WorksError") rfl)
    x_BadNumber := He.exc_ok (d.fact 69 (f := .exc "BadNumber") rfl)
    x_BadTable := He.exc_ok (d.fact 70 (f := .exc "BadTable") rfl)
    x_BadKind := He.exc_ok (d.fact 71 (f := .exc "BadKind") rfl)
    x_BadLot := He.exc_ok (d.fact 72 (f := .exc "BadLot") rfl)
    x_BadOrder := He.exc_ok (d.fact 73 (f := .exc "BadOrder") rfl)
    x_BadBatch := He.exc_ok (d.fact 74 (f := .exc "BadBatch") rfl)
    x_BadRow := He.exc_ok (d.fact 75 (f := .exc "BadRow") rfl)
    x_BadFold := He.exc_ok (d.fact 76 (f := .exc "BadFold") rfl)
    x_BadRing := He.exc_ok (d.fact 77 (f := .exc "BadRing") rfl)
    x_BadSlot := He.exc_ok (d.fact 78 (f := .exc "BadSlot") rfl)
    x_BadPaper := He.exc_ok (d.fact 79 (f := .exc "BadPaper") rfl)
    x_BadRule := He.exc_ok (d.fact 80 (f := .exc "BadRule") rfl)
    x_Outside := He.exc_ok (d.fact 81 (f := .exc "Outside") rfl)
    y_TooMany := (iniB_ok (pr := PySem.Challenge.rw_staysandturns_k11_logs_of_long_sections.prog) (d := i_TooMany) (slf := "self") (lim := "limit") (List.all_eq_true.mp m0.2 i_TooMany (List.mem_of_getElem? (i := 0) rfl)) (c.in_ 0 rfl) rfl (fun _ _ _ _ _ _ _ _ _ => rfl)).elim fun cda h => h.elim fun cc I =>
      ⟨⟨_, cda, cc, _, _, _, _, _, _, _, _, _, _, _, _, _, _, _, _, _, I, ⟨rfl, by decide +kernel, rfl, rfl, by decide +kernel, rfl, rfl, rfl, rfl, ⟨_, rfl, rfl⟩, by decide +kernel, by decide, by decide⟩, fun env => ⟨_, rfl⟩, fun env => rfl, fun env => rfl⟩⟩
    exc := e.1
    kit := e.2.1
    kitV := e.2.2.1
    xf := e.2.2.2.1
    fld := e.2.2.2.2.1
    exm := e.2.2.2.2.2 }
end My

open PySem PySem.W PySem.Calls PyProof.Rows in
theorem PySem.Challenge.cw_staysandturns_k11_logs_of_long_sections_holds : PySem.Challenge.rw_staysandturns_k11_logs_of_long_sections.Holds := by
  w_on; o_law
  refine HandSHeadRun.head_any (r := PySem.W.OpenLaw.row PySem.Challenge.rw_staysandturns_k11_logs_of_long_sections) (q := PySem.W.view (PySem.W.OpenLaw.row PySem.Challenge.rw_staysandturns_k11_logs_of_long_sections).prog [57]) (H := My.hk) (ob := My.ob) (M := 6000) (loose := My.loose) (d := HandSHeadRun.topDef (PySem.W.OpenLaw.row PySem.Challenge.rw_staysandturns_k11_logs_of_long_sections).prog 57) (kwd := []) My.ob_eq
    (by kernel_rfl) (fun s => by kernel_rfl) My.run (by kernel_rfl) (by kernel_rfl) (by kernel_rfl) (by rfl) (by first | assumption | decide +kernel) (by decide +kernel) ⟨rfl, rfl, rfl, rfl, rfl, by decide +kernel⟩ ?hw ?hc
  case hw => w_witness2
  case hc =>
    refine LamX.walk_ofTsE (l := PySem.Challenge.rw_staysandturns_k11_logs_of_long_sections) (n := 63) (k := 11) (x := "script") (CX := fun w => L2N.CX PySem.Challenge.rw_staysandturns_k11_logs_of_long_sections.prog w) rfl (by decide) (by kernel_rfl) ⟨rfl, by decide, by decide⟩ ?F (fun _ _ _ _ _ z => DL.cx_out z)
    intro w mg fa h Y G hmg0
    obtain ⟨K, KX, c⟩ := Y
    have hmg : mg ("law" : PySem.Str) = some (.ref fa) := by
      have e : (HandSHeadRun.topDef (PySem.W.OpenLaw.row PySem.Challenge.rw_staysandturns_k11_logs_of_long_sections).prog 57).name = ("law" : PySem.Str) := by kernel_rfl
      rw [← e]
      exact hmg0
    obtain ⟨fd, F⟩ := c.x.t.d.def_ 34 (d := My.h_law) rfl
    have e := hmg.symm.trans (He.glo_ok KX G (c.x.t.d.fact 34 (f := .glo "law") rfl))
    cases e
    refine ⟨K, KX, fd, DL.tabCs K My.tf, DL.spD (DL.cc K (DL.tabT K My.tf)) false 1 .fz My.d_law, ?_, ?_, ?_, ?_, ?_, ?_⟩
    · intro p hp
      obtain ⟨q, hq, rfl⟩ := List.mem_map.mp hp
      exact c.x.empty q hq
    · intro p hp
      obtain ⟨q, hq, rfl⟩ := List.mem_map.mp hp
      exact c.x.out q hq
    · intro p hp
      obtain ⟨q, hq, rfl⟩ := List.mem_map.mp hp
      exact PySem.W.codeHd_of_K KX (c.x.hd q hq)
    · have b := L2.FunD.bindsA (ps := ["script"]) F fun _ _ _ _ _ _ us hl => match us, hl with | [_], _ => rfl
      exact fun s u => b s [u] rfl
    · intro H a ns hl hb hT hS
      obtain ⟨z, hz⟩ := My.plain ns hl hb
      exact DL.law_sp hz hT hS
    · intro base KB GB hTB
      exact My.k_law (My.facts KX G c hTB) F

