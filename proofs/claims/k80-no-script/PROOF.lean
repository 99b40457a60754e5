import PyProof.Rows.All
import PySem.Challenge.RW_twigscripts_k80_what_is_no_script_object
import HandS.HeadHook2
import Wide.All
import OpenK.AllK
import Wide.FinOn
import HandS.ForMost
import HandS.ForExc
import HandS.SetKeys
import HandS.CallSlots
import HandS.Flow
import HandS.Defaults
import HandS.Walk
import HandS.Zip
import HandS.TupAny
import HandS.TupMul
import HandS.Wide
import HandS.IsInst
import HandS.Deep
import KE.GoesMore
import PyProof.EnumMake
import PyProof.Rows.SortStr
import HandS.WordsExc
import HandS.Exc
import HandS.ExcInit
import HandS.ExcIs
import KE.KExcIs
import HandS.ExcField
import HandS.Property
import HandS.Style
import HandS.Ends
import HandS.EndBits
import HandS.HeadEnd
import PyProof.ReprRoads
import HandS.Head0
import HandS.Head1
import HandS.Head2
set_option Elab.async false
set_option linter.all false
set_option maxRecDepth 100000
set_option maxHeartbeats 0
/-! DL: the data layer over HandS. Values as data trees, mutable objects as boxes, a def's body as a Lean function. -/
namespace DL
open PySem L2

/-- data: tuples, and lists, dicts, instances that nobody changes any more, are trees; a thing that may be changed is a box -/
inductive D where
  | non | bl (b : Bool) | int (i : Int) | str (s : Str) | ty (n : String) | cls (n : Str) | box (n : Nat)
  | tup (ds : List D) | lst (ds : List D) | dct (kvs : List (Key × D)) | ins (C : Str) (fs : List (Str × D)) | set (ks : List Key) | exn (a : Addr) (dd : Option Addr) (fs : List (Str × D))
  deriving Inhabited

abbrev Mem := List D
/-- a class: an own one by its name, a built-in one -/
inductive CN where
  | own (n : Str) | bt (n : String)
  deriving DecidableEq
def CN.v (K : PySem.W.Frag) : CN → Value
  | .own n => .ref (He.ga K n)
  | .bt n => .type n
/-- an exception: its class, its fields -/
structure Exn where
  cls : CN
  fs : List (Str × D)
inductive Rs (α : Type) where
  | ok (a : α) (m : Mem) | exc (e : Exn) (m : Mem) | bad
def Rs.bind {α β : Type} (r : Rs α) (k : α → Mem → Rs β) : Rs β := match r with
  | .ok a m => k a m
  | .exc e m => .exc e m
  | .bad => .bad
@[simp] theorem bind_ok {α β : Type} (a : α) (m : Mem) (k : α → Mem → Rs β) : (Rs.ok a m).bind k = k a m := rfl
@[simp] theorem bind_exc {α β : Type} (e : Exn) (m : Mem) (k : α → Mem → Rs β) : (Rs.exc e m).bind k = .exc e m := rfl
@[simp] theorem bind_bad {α β : Type} (k : α → Mem → Rs β) : (Rs.bad).bind k = .bad := rfl
abbrev Slots := List (Option D)
abbrev DE := Slots → Mem → Rs D
/-- what is fixed: program, world, written part -/
structure Gd where
  P : Program
  w : World
  K : PySem.W.Frag

/-- the boxes' addresses; addresses that are hidden (lists in the making) -/
structure Bx where
  b : List Addr
  z : List Addr
def Bx.add (B : Bx) (p : Addr) : Bx := ⟨B.b ++ [p], B.z⟩
def Bx.hide (B : Bx) (p : Addr) : Bx := ⟨B.b, p :: B.z⟩
def nb (B : Bx) (a : Addr) : Prop := a ∉ B.b ∧ a ∉ B.z
def memK (ks : List Key) (k : Key) : Bool := ks.any fun j => decide (j = k)
/-- what stands is kept; a dict may be locked, for good -/
def Kp (o o' : HO) : Prop := o' = o ∨ ∃ kvs b, o = .dK kvs ∧ o' = .frz b (.dK kvs)
theorem Kp.refl (o : HO) : Kp o o := .inl rfl
theorem Kp.trans {a b c : HO} (h : Kp a b) (k : Kp b c) : Kp a c := by
  rcases h with h | ⟨kvs, x, h1, h2⟩
  · subst h; exact k
  · subst h1 h2
    rcases k with k | ⟨kvs', x', k1, k2⟩
    · subst k; exact .inr ⟨kvs, x, rfl, rfl⟩
    · cases k1
def isTup : HO → Bool
  | .tup _ => true
  | _ => false
/-- one of the module's own lists -/
def KL (K : PySem.W.Frag) (a : Addr) (xs : List V) : Prop := ∃ (its : List Value) (n : Nat), K.lookup a = some { cls := .type "list", data := .seq its.toArray n } ∧ its.length ≤ sizeLine ∧ Vals xs its
theorem KL.sq {K : PySem.W.Frag} {H : Hp} {a : Addr} {xs : List V} : KL K a xs → SqL K H a xs := fun ⟨its, n, h1, h2, h3⟩ => .inr ⟨_, its.toArray, n, h1, rfl, rfl, rfl, by simpa using h2, by simpa using h3⟩
theorem lsq {K : PySem.W.Frag} {H : Hp} {a : Addr} {xs : List V} (h : Rd H a (.lst xs) ∨ KL K a xs) : SqL K H a xs := h.elim .inl KL.sq
/-- a list that nobody changes -/
def LsT (g : Gd) (B : Bx) (H : Hp) (a : Addr) (xs : List V) : Prop := (nb B a ∧ Rd H a (.lst xs)) ∨ KL g.K a xs
theorem LsT.sq {g : Gd} {B : Bx} {H : Hp} {a : Addr} {xs : List V} (h : LsT g B H a xs) : SqL g.K H a xs := by
  rcases h with ⟨_, h⟩ | ⟨its, n, h1, h2, h3⟩
  · exact .inl h
  · exact .inr ⟨_, its.toArray, n, h1, rfl, rfl, rfl, by simpa using h2, by simpa using h3⟩
section
variable (g : Gd) (B : Bx) (H : Hp)
mutual
def Rep : D → V → Prop
  | .non, v => v = .non
  | .bl b, v => v = .bl b
  | .int i, v => v = .int i
  | .str s, v => v = .str s
  | .ty n, v => v = .ty n
  | .cls n, v => v = .ref (He.ga g.K n)
  | .box n, v => ∃ a, v = .ref a ∧ B.b[n]? = some a
  | .tup ds, v => ∃ a xs, v = .ref a ∧ SqT g.K H a xs ∧ RepL ds xs
  | .lst ds, v => ∃ a xs, v = .ref a ∧ LsT g B H a xs ∧ RepL ds xs
  | .dct kvs, v => ∃ a ys, v = .ref a ∧ nb B a ∧ Rd H a (.dK ys) ∧ RepK kvs ys
  | .ins C fs, v => ∃ a dx ys, v = .ref a ∧ nb B a ∧ H a = some (.ins (He.ga g.K C) dx ys) ∧ RepF fs ys
  | .set ks, v => ∃ a, v = .ref a ∧ nb B a ∧ H a = some (SetK g.P g.w a (memK ks) ks.length) ∧ ks.Nodup
  | .exn a dd fs, v => v = .ref a ∧ ((dd = none ∧ fs = []) ∨ ∃ d ys, dd = some d ∧ nb B d ∧ H d = some (.xd ys) ∧ RepF fs ys)
def RepL : List D → List V → Prop
  | [], xs => xs = []
  | d :: ds, xs => ∃ y ys, xs = y :: ys ∧ Rep d y ∧ RepL ds ys
def RepK : List (Key × D) → List (Key × V) → Prop
  | [], ys => ys = []
  | (k, d) :: r, ys => ∃ y s, ys = (k, y) :: s ∧ Rep d y ∧ RepK r s
def RepF : List (Str × D) → List (Str × V) → Prop
  | [], ys => ys = []
  | (k, d) :: r, ys => ∃ y s, ys = (k, y) :: s ∧ Rep d y ∧ RepF r s
end
/-- what stands at a box's address -/
def BoxAt (a : Addr) : D → Prop
  | .lst ds => ∃ xs, H a = some (.lst xs) ∧ RepL g B H ds xs
  | .dct kvs => ∃ ys, H a = some (.dK ys) ∧ RepK g B H kvs ys
  | .ins C fs => ∃ dx ys, H a = some (.ins (He.ga g.K C) dx ys) ∧ RepF g B H fs ys
  | .set ks => H a = some (SetK g.P g.w a (memK ks) ks.length) ∧ ks.Nodup
  | _ => False
structure SRel (m : Mem) : Prop where
  len : B.b.length = m.length
  nd : B.b.Nodup
  at_ : ∀ (n : Nat) (a : Addr) (d : D), B.b[n]? = some a → m[n]? = some d → BoxAt g B H a d
  dj : ∀ a ∈ B.b, a ∉ B.z
  zt : ∀ a ∈ B.z, ∃ o, H a = some o ∧ isTup o = false ∧ ∀ b u, o ≠ .frz b u
end

/-- from (B, H) on: boxes are added, what is no box stays; what is hidden may change, be new, be shown -/
structure Lift0 (B : Bx) (H : Hp) (B' : Bx) (H' : Hp) : Prop where
  pre : ∃ nw, B'.b = B.b ++ nw ∧ ∀ a ∈ nw, H a = none
  hid : ∀ a ∈ B'.z, a ∈ B.z ∨ H a = none
  trk : ∀ a o, H a = some o → ∃ o', H' a = some o'
  same : ∀ a o, H a = some o → (¬ nb B a → isTup o = true) → ∃ o', H' a = some o' ∧ Kp o o'
/-- .. what is hidden stays as it is -/
structure Lift (B : Bx) (H : Hp) (B' : Bx) (H' : Hp) : Prop where
  pre : ∃ nw, B'.b = B.b ++ nw ∧ ∀ a ∈ nw, H a = none
  hid : B'.z = B.z
  trk : ∀ a o, H a = some o → ∃ o', H' a = some o'
  same : ∀ a o, H a = some o → (a ∈ B.b → isTup o = true) → ∃ o', H' a = some o' ∧ Kp o o'
theorem Lift.to0 {B B' : Bx} {H H' : Hp} (l : Lift B H B' H') : Lift0 B H B' H' where
  pre := l.pre
  hid := fun a h => .inl (by rw [← l.hid]; exact h)
  trk := l.trk
  same := fun a o h k => l.same a o h fun q => k fun z => z.1 q

theorem kp_ne {o o' : HO} (h : Kp o o') (n : ∀ kvs, o ≠ .dK kvs) : o' = o := by
  rcases h with h | ⟨kvs, b, h, _⟩
  · exact h
  · exact absurd h (n kvs)
theorem Lift.refl (B : Bx) (H : Hp) : Lift B H B H where
  pre := ⟨[], by simp, by simp⟩
  hid := rfl
  trk := fun a o h => ⟨o, h⟩
  same := fun a o h _ => ⟨o, h, .refl _⟩
theorem Lift.trans {B B1 B2 : Bx} {H H1 H2 : Hp} (a : Lift B H B1 H1) (b : Lift B1 H1 B2 H2) : Lift B H B2 H2 where
  pre := by
    obtain ⟨n1, e1, f1⟩ := a.pre
    obtain ⟨n2, e2, f2⟩ := b.pre
    refine ⟨n1 ++ n2, by rw [e2, e1, List.append_assoc], fun x hx => ?_⟩
    rcases List.mem_append.mp hx with h | h
    · exact f1 x h
    · cases e : H x with
      | none => rfl
      | some o =>
        obtain ⟨o', e'⟩ := a.trk x o e
        rw [f2 x h] at e'
        cases e'
  hid := b.hid.trans a.hid
  trk := fun x o h => by
    obtain ⟨o1, h1⟩ := a.trk x o h
    exact b.trk x o1 h1
  same := fun x o h hb => by
    obtain ⟨o1, h1, u1⟩ := a.same x o h hb
    obtain ⟨n1, e1, f1⟩ := a.pre
    obtain ⟨o2, h2, u2⟩ := b.same x o1 h1 fun hx => by
      rw [e1] at hx
      rcases List.mem_append.mp hx with q | q
      · have t := hb q
        cases o <;> first | (cases t; done) | skip
        rename_i xs
        rw [kp_ne u1 (fun _ => nofun)] <;> rfl
      · rw [f1 x q] at h
        cases h
    exact ⟨o2, h2, u1.trans u2⟩

section
variable {g : Gd} {B B' : Bx} {H H' : Hp}
theorem Lift0.notin (l : Lift0 B H B' H') {a : Addr} {o : HO} (h : H a = some o) (n : nb B a) : nb B' a := by
  obtain ⟨nw, e, f⟩ := l.pre
  refine ⟨fun hx => ?_, fun hx => ?_⟩
  · rw [e] at hx
    rcases List.mem_append.mp hx with q | q
    · exact n.1 q
    · rw [f a q] at h
      cases h
  · rcases l.hid a hx with q | q
    · exact n.2 q
    · rw [q] at h
      cases h
theorem Lift0.rdL (l : Lift0 B H B' H') {a : Addr} {xs : List V} (n : nb B a) (h : Rd H a (.lst xs)) : Rd H' a (.lst xs) := by
  rcases h with h | ⟨o, h⟩
  · obtain ⟨o', h', u⟩ := l.same a _ h fun q => absurd n q
    exact .inl (by rw [h', kp_ne u (fun _ => nofun)])
  · obtain ⟨o', h', u⟩ := l.same a _ h fun q => absurd n q
    exact .inr ⟨o, by rw [h', kp_ne u (fun _ => nofun)]⟩
theorem Rd.notnone {a : Addr} {u : HO} (h : Rd H a u) : ∃ o, H a = some o := by
  rcases h with h | ⟨o, h⟩
  · exact ⟨_, h⟩
  · exact ⟨_, h⟩
theorem Lift0.lsT {g : Gd} (l : Lift0 B H B' H') {a : Addr} {xs : List V} (h : LsT g B H a xs) : LsT g B' H' a xs := by
  rcases h with ⟨hn, hs⟩ | h
  · obtain ⟨o, ho⟩ := Rd.notnone hs
    exact .inl ⟨l.notin ho hn, l.rdL hn hs⟩
  · exact .inr h
theorem Lift0.rdD (l : Lift0 B H B' H') {a : Addr} {ys : List (Key × V)} (n : nb B a) (h : Rd H a (.dK ys)) : Rd H' a (.dK ys) := by
  rcases h with h | ⟨o, h⟩
  · obtain ⟨o', h', u⟩ := l.same a _ h fun q => absurd n q
    rcases u with u | ⟨kvs, b, u1, u2⟩
    · exact .inl (by rw [h', u])
    · injection u1 with u1
      subst u1
      exact .inr ⟨b, by rw [h', u2]⟩
  · obtain ⟨o', h', u⟩ := l.same a _ h fun q => absurd n q
    exact .inr ⟨o, by rw [h', kp_ne u (fun _ => nofun)]⟩
theorem Lift0.sqT (l : Lift0 B H B' H') (g : Gd) (nt : ∀ a, ¬ nb B a → ∀ o xs, H a ≠ some (.frz o (.tup xs))) {a : Addr} {xs : List V} (h : SqT g.K H a xs) : SqT g.K H' a xs := by
  rcases h with (h | ⟨o, h⟩) | h
  · obtain ⟨o', h', u⟩ := l.same a _ h fun _ => rfl
    exact .inl (.inl (by rw [h', kp_ne u (fun _ => nofun)]))
  · obtain ⟨o', h', u⟩ := l.same a _ h fun q => absurd h (nt a q o xs)
    exact .inl (.inr ⟨o, by rw [h', kp_ne u (fun _ => nofun)]⟩)
  · exact .inr h
theorem nb_not {a : Addr} (h : ¬ nb B a) : a ∈ B.b ∨ a ∈ B.z := by
  by_cases q : a ∈ B.b
  · exact .inl q
  · by_cases q2 : a ∈ B.z
    · exact .inr q2
    · exact absurd ⟨q, q2⟩ h
theorem SRel.nofrz {m : Mem} (S : SRel g B H m) : ∀ a, ¬ nb B a → ∀ o u, H a ≠ some (.frz o u) := by
  intro a hz o u e
  rcases nb_not hz with ha | ha
  case inr =>
    obtain ⟨o', e', _, k⟩ := S.zt a ha
    rw [e] at e'
    injection e' with e'
    exact k _ _ e'.symm
  obtain ⟨n, hn, en⟩ := List.getElem_of_mem ha
  have hl : n < m.length := by rw [← S.len]; exact hn
  have h := S.at_ n a m[n] (by rw [List.getElem?_eq_getElem hn, en]) (List.getElem?_eq_getElem hl)
  cases q : m[n] <;> rw [q] at h <;> unfold BoxAt at h <;> first | exact h | skip
  · obtain ⟨xs, h1, _⟩ := h
    rw [e] at h1; cases h1
  · obtain ⟨xs, h1, _⟩ := h
    rw [e] at h1; cases h1
  · obtain ⟨dx, xs, h1, _⟩ := h
    rw [e] at h1; cases h1
  · rw [e] at h
    cases h.1
end

section
variable {g : Gd} {B B' : Bx} {H H' : Hp}
mutual
theorem Rep.lift (l : Lift0 B H B' H') (nt : ∀ a, ¬ nb B a → ∀ o u, H a ≠ some (.frz o u)) : ∀ (d : D) {v : V}, Rep g B H d v → Rep g B' H' d v
  | .non, v, h => by unfold Rep at *; exact h
  | .bl _, v, h => by unfold Rep at *; exact h
  | .int _, v, h => by unfold Rep at *; exact h
  | .str _, v, h => by unfold Rep at *; exact h
  | .ty _, v, h => by unfold Rep at *; exact h
  | .cls _, v, h => by unfold Rep at *; exact h
  | .box n, v, h => by
    unfold Rep at *
    obtain ⟨a, rfl, e⟩ := h
    obtain ⟨nw, eb, _⟩ := l.pre
    refine ⟨a, rfl, ?_⟩
    rw [eb, List.getElem?_append_left (List.getElem?_eq_some_iff.mp e).1]
    exact e
  | .tup ds, v, h => by
    unfold Rep at *
    obtain ⟨a, xs, rfl, hs, hl⟩ := h
    exact ⟨a, xs, rfl, l.sqT g (fun a ha o xs => nt a ha o _) hs, RepL.lift l nt ds hl⟩
  | .lst ds, v, h => by
    unfold Rep at *
    obtain ⟨a, xs, rfl, hs, hl⟩ := h
    exact ⟨a, xs, rfl, l.lsT hs, RepL.lift l nt ds hl⟩
  | .dct kvs, v, h => by
    unfold Rep at *
    obtain ⟨a, xs, rfl, hn, hs, hl⟩ := h
    obtain ⟨o, ho⟩ := Rd.notnone hs
    exact ⟨a, xs, rfl, l.notin ho hn, l.rdD hn hs, RepK.lift l nt kvs hl⟩
  | .ins C fs, v, h => by
    unfold Rep at *
    obtain ⟨a, dx, xs, rfl, hn, hs, hl⟩ := h
    obtain ⟨o', h', u⟩ := l.same a _ hs fun q => absurd hn q
    exact ⟨a, dx, xs, rfl, l.notin hs hn, by rw [h', kp_ne u (fun _ => nofun)], RepF.lift l nt fs hl⟩
  | .set ks, v, h => by
    unfold Rep at *
    obtain ⟨a, rfl, hn, hs, hl⟩ := h
    obtain ⟨o', h', u⟩ := l.same a _ hs fun q => absurd hn q
    exact ⟨a, rfl, l.notin hs hn, by rw [h']; exact congrArg some (kp_ne u (fun _ => nofun)), hl⟩
  | .exn a dd fs, v, h => by
    unfold Rep at *
    obtain ⟨rfl, ⟨e1, e2⟩ | ⟨d, ys, e1, hn, hs, hl⟩⟩ := h
    · exact ⟨rfl, .inl ⟨e1, e2⟩⟩
    · obtain ⟨o', h', u⟩ := l.same d _ hs fun q => absurd hn q
      exact ⟨rfl, .inr ⟨d, ys, e1, l.notin hs hn, by rw [h', kp_ne u (fun _ => nofun)], RepF.lift l nt fs hl⟩⟩
theorem RepL.lift (l : Lift0 B H B' H') (nt : ∀ a, ¬ nb B a → ∀ o u, H a ≠ some (.frz o u)) : ∀ (ds : List D) {xs : List V}, RepL g B H ds xs → RepL g B' H' ds xs
  | [], xs, h => by unfold RepL at *; exact h
  | d :: ds, xs, h => by
    unfold RepL at *
    obtain ⟨y, ys, rfl, h1, h2⟩ := h
    exact ⟨y, ys, rfl, Rep.lift l nt d h1, RepL.lift l nt ds h2⟩
theorem RepK.lift (l : Lift0 B H B' H') (nt : ∀ a, ¬ nb B a → ∀ o u, H a ≠ some (.frz o u)) : ∀ (ds : List (Key × D)) {xs : List (Key × V)}, RepK g B H ds xs → RepK g B' H' ds xs
  | [], xs, h => by unfold RepK at *; exact h
  | (k, d) :: ds, xs, h => by
    unfold RepK at *
    obtain ⟨y, ys, rfl, h1, h2⟩ := h
    exact ⟨y, ys, rfl, Rep.lift l nt d h1, RepK.lift l nt ds h2⟩
theorem RepF.lift (l : Lift0 B H B' H') (nt : ∀ a, ¬ nb B a → ∀ o u, H a ≠ some (.frz o u)) : ∀ (ds : List (Str × D)) {xs : List (Str × V)}, RepF g B H ds xs → RepF g B' H' ds xs
  | [], xs, h => by unfold RepF at *; exact h
  | (k, d) :: ds, xs, h => by
    unfold RepF at *
    obtain ⟨y, ys, rfl, h1, h2⟩ := h
    exact ⟨y, ys, rfl, Rep.lift l nt d h1, RepF.lift l nt ds h2⟩
end
end
end DL
namespace DL
open PySem L2

/-! ### heaps grow -/
section
variable {g : Gd} {B B' : Bx} {H H' : Hp} {m : Mem}
theorem Rep.up (S : SRel g B H m) (l : Lift B H B' H') {d : D} {v : V} (h : Rep g B H d v) : Rep g B' H' d v := Rep.lift l.to0 S.nofrz d h
theorem RepL.up (S : SRel g B H m) (l : Lift B H B' H') {d : List D} {v : List V} (h : RepL g B H d v) : RepL g B' H' d v := RepL.lift l.to0 S.nofrz d h
theorem RepK.up (S : SRel g B H m) (l : Lift B H B' H') {d : List (Key × D)} {v : List (Key × V)} (h : RepK g B H d v) : RepK g B' H' d v := RepK.lift l.to0 S.nofrz d h
theorem RepF.up (S : SRel g B H m) (l : Lift B H B' H') {d : List (Str × D)} {v : List (Str × V)} (h : RepF g B H d v) : RepF g B' H' d v := RepF.lift l.to0 S.nofrz d h
theorem Lift.new {p : Addr} {o : HO} (h : H p = none) : Lift B H B (upd H p o) where
  pre := ⟨[], by simp, by simp⟩
  hid := rfl
  trk := fun a u e => ⟨u, by rw [upd_ne (ne_of_none e h)]; exact e⟩
  same := fun a u e _ => ⟨u, by rw [upd_ne (ne_of_none e h)]; exact e, .refl _⟩
theorem Lift.newBox {p : Addr} {o : HO} (h : H p = none) : Lift B H (B.add p) (upd H p o) where
  pre := ⟨[p], rfl, fun a ha => by rw [List.mem_singleton.mp ha]; exact h⟩
  hid := rfl
  trk := fun a u e => ⟨u, by rw [upd_ne (ne_of_none e h)]; exact e⟩
  same := fun a u e _ => ⟨u, by rw [upd_ne (ne_of_none e h)]; exact e, .refl _⟩
theorem Lift.write {a : Addr} {o u : HO} (hb : a ∈ B.b) (h : H a = some u) (ht : isTup u = false) : Lift B H B (upd H a o) where
  pre := ⟨[], by simp, by simp⟩
  hid := rfl
  trk := fun x w e => by
    by_cases q : x = a
    · exact ⟨o, by rw [q]; exact upd_same⟩
    · exact ⟨w, by rw [upd_ne q]; exact e⟩
  same := fun x w e hx => by
    by_cases q : x = a
    · have t := hx (by rw [q]; exact hb)
      rw [q, h] at e
      injection e with e
      rw [← e, ht] at t
      cases t
    · exact ⟨w, by rw [upd_ne q]; exact e, .refl _⟩
theorem BoxAt.some {a : Addr} {d : D} (h : BoxAt g B H a d) : ∃ o, H a = some o ∧ isTup o = false ∧ Mut (some o) := by
  cases d <;> unfold BoxAt at h <;> first | exact h.elim | skip
  · obtain ⟨xs, h1, _⟩ := h; exact ⟨_, h1, rfl, trivial⟩
  · obtain ⟨xs, h1, _⟩ := h; exact ⟨_, h1, rfl, trivial⟩
  · obtain ⟨dx, xs, h1, _⟩ := h; exact ⟨_, h1, rfl, trivial⟩
  · exact ⟨_, h.1, rfl, trivial⟩
theorem SRel.get (S : SRel g B H m) {n : Nat} {a : Addr} (h : B.b[n]? = some a) : ∃ d, m[n]? = some d ∧ BoxAt g B H a d := by
  have hl : n < m.length := by rw [← S.len]; exact (List.getElem?_eq_some_iff.mp h).1
  exact ⟨m[n], List.getElem?_eq_getElem hl, S.at_ n a _ h (List.getElem?_eq_getElem hl)⟩
theorem SRel.mem (S : SRel g B H m) {a : Addr} (h : a ∈ B.b) : ∃ o, H a = some o ∧ isTup o = false ∧ Mut (some o) := by
  obtain ⟨n, hn, en⟩ := List.getElem_of_mem h
  obtain ⟨d, _, hb⟩ := S.get (n := n) (a := a) (by rw [List.getElem?_eq_getElem hn, en])
  exact hb.some
/-- a box's content lifts where its own object stays -/
theorem BoxAt.up (S : SRel g B H m) (l : Lift B H B' H') {a : Addr} {d : D} (e : H' a = H a) (h : BoxAt g B H a d) : BoxAt g B' H' a d := by
  cases d <;> unfold BoxAt at * <;> first | exact h | skip
  · obtain ⟨xs, h1, h2⟩ := h; exact ⟨xs, by rw [e]; exact h1, h2.up S l⟩
  · obtain ⟨xs, h1, h2⟩ := h; exact ⟨xs, by rw [e]; exact h1, h2.up S l⟩
  · obtain ⟨dx, xs, h1, h2⟩ := h; exact ⟨dx, xs, by rw [e]; exact h1, h2.up S l⟩
  · rw [e]; exact h
/-- hidden things stand apart from the boxes -/
theorem SRel.same (S : SRel g B H m) (l : Lift B H B H') (e : ∀ a ∈ B.b, H' a = H a) (ez : ∀ a ∈ B.z, H' a = H a) : SRel g B H' m where
  len := S.len
  nd := S.nd
  dj := S.dj
  at_ := fun n a d h1 h2 => (S.at_ n a d h1 h2).up S l (e a (List.mem_of_getElem? h1))
  zt := fun a ha => by rw [ez a ha]; exact S.zt a ha
theorem SRel.fresh (S : SRel g B H m) {p : Addr} (h : H p = none) : nb B p := by
  refine ⟨fun q => ?_, fun q => ?_⟩
  · obtain ⟨o, e, _⟩ := S.mem q
    rw [h] at e
    cases e
  · obtain ⟨o, e, _⟩ := S.zt p q
    rw [h] at e
    cases e
theorem SRel.new (S : SRel g B H m) {p : Addr} {o : HO} (h : H p = none) : SRel g B (upd H p o) m :=
  S.same (Lift.new h) (fun a ha => by
    obtain ⟨u, e, _⟩ := S.mem ha
    exact upd_ne (ne_of_none e h)) fun a ha => by
    obtain ⟨u, e, _⟩ := S.zt a ha
    exact upd_ne (ne_of_none e h)
theorem SRel.newBox (S : SRel g B H m) {p : Addr} {o : HO} {d : D} (h : H p = none) (hb : BoxAt g (B.add p) (upd H p o) p d) : SRel g (B.add p) (upd H p o) (m ++ [d]) where
  len := by
    show (B.b ++ [p]).length = _
    rw [List.length_append, List.length_append, S.len] <;> rfl
  nd := by
    refine List.nodup_append.mpr ⟨S.nd, by simp, fun a ha b hb e => ?_⟩
    rw [List.mem_singleton.mp hb] at e
    obtain ⟨u, eu, _⟩ := S.mem ha
    rw [e, h] at eu
    cases eu
  dj := fun a ha hz => by
    rcases List.mem_append.mp ha with q | q
    · exact S.dj a q hz
    · rw [List.mem_singleton.mp q] at hz
      exact (S.fresh h).2 hz
  at_ := fun n a x h1 h2 => by
    change (B.b ++ [p])[n]? = some a at h1
    by_cases q : n < B.b.length
    · rw [List.getElem?_append_left q] at h1
      rw [List.getElem?_append_left (by rw [← S.len]; exact q)] at h2
      obtain ⟨u, eu, _⟩ := S.mem (List.mem_of_getElem? h1)
      exact (S.at_ n a x h1 h2).up S (Lift.newBox h) (upd_ne (ne_of_none eu h))
    · have hn : n = B.b.length := by
        have := (List.getElem?_eq_some_iff.mp h1).1
        simp at this; omega
      subst hn
      rw [List.getElem?_append_right (Nat.le_refl _)] at h1
      rw [S.len, List.getElem?_append_right (Nat.le_refl _)] at h2
      simp at h1 h2
      rw [← h1, ← h2]
      exact hb
  zt := fun a ha => by
    obtain ⟨u, e, k⟩ := S.zt a ha
    exact ⟨u, by rw [upd_ne (ne_of_none e h)]; exact e, k⟩
/-- boxes and hidden things have unlike addresses: a box is written, what is hidden stays -/
theorem SRel.write (S : SRel g B H m) {n : Nat} {a : Addr} {o : HO} {d : D} (hn : B.b[n]? = some a) (hb : BoxAt g B (upd H a o) a d) : SRel g B (upd H a o) (m.set n d) where
  len := by rw [List.length_set]; exact S.len
  nd := S.nd
  dj := S.dj
  at_ := fun k b x h1 h2 => by
    obtain ⟨u, eu, tu, _⟩ := S.mem (List.mem_of_getElem? hn)
    by_cases q : k = n
    · subst q
      rw [hn] at h1
      injection h1 with h1
      have hk : k < m.length := by rw [← S.len]; exact (List.getElem?_eq_some_iff.mp hn).1
      rw [List.getElem?_set_self hk] at h2
      injection h2 with h2
      rw [← h1, ← h2]
      exact hb
    · rw [List.getElem?_set_ne (fun z => q z.symm)] at h2
      have hne : b ≠ a := by
        intro z
        subst z
        have e1 := (List.getElem?_eq_some_iff.mp h1)
        have e2 := (List.getElem?_eq_some_iff.mp hn)
        exact q ((List.getElem_inj S.nd).mp (e1.2.trans e2.2.symm))
      exact (S.at_ k b x h1 h2).up S (Lift.write (List.mem_of_getElem? hn) eu tu) (upd_ne hne)
  zt := fun b hb' => by
    have hne : b ≠ a := fun e => S.dj a (List.mem_of_getElem? hn) (e ▸ hb')
    obtain ⟨u, e, k⟩ := S.zt b hb'
    exact ⟨u, by rw [upd_ne hne]; exact e, k⟩
end

/-! ### what is wanted of a result -/
def ExRep (g : Gd) (B : Bx) (H : Hp) (e : Exn) (dx : Option Addr) : Prop := (e.fs = [] ∧ dx = none) ∨ ∃ d vs, dx = some d ∧ nb B d ∧ H d = some (.xd vs) ∧ RepF g B H e.fs vs
def WP (g : Gd) (E : XK) (B : Bx) (H : Hp) {α : Type} (r : Rs α) (Q : α → Mem → Bx → Hp → Prop) : Prop := match r with
  | .ok a m => ∀ B' H', Lift B H B' H' → SRel g B' H' m → Q a m B' H'
  | .exc e m => ∀ B' H' dx, Lift B H B' H' → SRel g B' H' m → ExRep g B' H' e dx → E (e.cls.v g.K) dx H'
  | .bad => False
section
variable {g : Gd} {E : XK} {B : Bx} {H : Hp} {α β : Type} {r : Rs α} {k : α → Mem → Rs β} {Q' Q1 : α → Mem → Bx → Hp → Prop} {Q : β → Mem → Bx → Hp → Prop}
theorem WP.step (h : WP g E B H (r.bind k) Q) : WP g E B H r (fun a m B1 H1 => Lift B H B1 H1 ∧ SRel g B1 H1 m ∧ WP g E B1 H1 (k a m) Q) := by
  cases r with
  | ok a m =>
    intro B1 H1 l S
    refine ⟨l, S, ?_⟩
    have h' : WP g E B H (k a m) Q := h
    cases e : k a m with
    | ok b m2 =>
      rw [e] at h'
      exact fun B2 H2 l2 S2 => h' B2 H2 (l.trans l2) S2
    | exc x m2 =>
      rw [e] at h'
      exact fun B2 H2 dx l2 S2 => h' B2 H2 dx (l.trans l2) S2
    | bad => rw [e] at h'; exact h'
  | exc x m => exact h
  | bad => exact h
theorem WP.mono (h : WP g E B H r Q1) (hq : ∀ a m B' H', Lift B H B' H' → SRel g B' H' m → Q1 a m B' H' → Q' a m B' H') : WP g E B H r Q' := by
  cases r with
  | ok a m => exact fun B' H' l S => hq a m B' H' l S (h B' H' l S)
  | exc x m => exact h
  | bad => exact h
theorem WP.up {r : Rs α} (h : WP g E B H r Q1) {B' : Bx} {H' : Hp} (l : Lift B H B' H') : WP g E B' H' r Q1 := by
  cases r with
  | ok a m => exact fun B2 H2 l2 S => h B2 H2 (l.trans l2) S
  | exc x m => exact fun B2 H2 dx l2 S => h B2 H2 dx (l.trans l2) S
  | bad => exact h
/-- a value that may lack -/
def lf (o : Option α) (m : Mem) : Rs α := match o with
  | some d => .ok d m
  | none => .bad
@[simp] theorem lf_some (d : α) (m : Mem) : lf (some d) m = .ok d m := rfl
@[simp] theorem lf_none (m : Mem) : lf (none : Option α) m = .bad := rfl
theorem WP.lf {o : Option α} {m : Mem} (h : WP g E B H (lf o m) Q1) : ∃ d, o = some d ∧ ∀ B' H', Lift B H B' H' → SRel g B' H' m → Q1 d m B' H' := by
  cases o with
  | some d => exact ⟨d, rfl, h⟩
  | none => exact h.elim
theorem WP.at {a : α} {m : Mem} (h : WP g E B H (.ok a m) Q1) {B' : Bx} {H' : Hp} (l : Lift B H B' H') (S : SRel g B' H' m) : Q1 a m B' H' := h B' H' l S
end

/-! ### slots -/
structure Sl (g : Gd) (B : Bx) (H : Hp) (δ : Slots) (σ : St) : Prop where
  len : δ.length = σ.length
  at_ : ∀ (i : Nat) (d : D), δ[i]? = some (some d) → ∃ v, σ[i]? = some (some v) ∧ Rep g B H d v
section
variable {g : Gd} {B B' : Bx} {H H' : Hp} {m : Mem} {δ : Slots} {σ : St}
theorem Sl.up (L : Sl g B H δ σ) (S : SRel g B H m) (l : Lift B H B' H') : Sl g B' H' δ σ where
  len := L.len
  at_ := fun i d h => by
    obtain ⟨v, h1, h2⟩ := L.at_ i d h
    exact ⟨v, h1, h2.up S l⟩
theorem Sl.set (L : Sl g B H δ σ) {d : D} {v : V} (h : Rep g B H d v) (i : Nat) : Sl g B H (δ.set i (some d)) (σ.set i (some v)) where
  len := by rw [List.length_set, List.length_set]; exact L.len
  at_ := fun j x hj => by
    by_cases q : i = j
    · subst q
      have hi : i < δ.length := by
        have := (List.getElem?_eq_some_iff.mp hj).1
        rw [List.length_set] at this
        exact this
      rw [List.getElem?_set_self hi] at hj
      injection hj with hj
      injection hj with hj
      subst hj
      exact ⟨v, List.getElem?_set_self (by rw [← L.len]; exact hi), h⟩
    · rw [List.getElem?_set_ne q] at hj
      obtain ⟨w, h1, h2⟩ := L.at_ j x hj
      exact ⟨w, by rw [List.getElem?_set_ne q]; exact h1, h2⟩
theorem Sl.none (L : Sl g B H δ σ) (i : Nat) : Sl g B H (δ.set i none) (σ.set i none) where
  len := by rw [List.length_set, List.length_set]; exact L.len
  at_ := fun j x hj => by
    by_cases q : i = j
    · subst q
      have hi : i < δ.length := by
        have := (List.getElem?_eq_some_iff.mp hj).1
        rw [List.length_set] at this
        exact this
      rw [List.getElem?_set_self hi] at hj
      cases hj
    · rw [List.getElem?_set_ne q] at hj
      obtain ⟨w, h1, h2⟩ := L.at_ j x hj
      exact ⟨w, by rw [List.getElem?_set_ne q]; exact h1, h2⟩
def wipeD (δ : Slots) : List Nat → Slots
  | [] => δ
  | v :: vs => (wipeD δ vs).set v none
theorem Sl.wipe (L : Sl g B H δ σ) : ∀ vs : List Nat, Sl g B H (wipeD δ vs) (L2.wipe σ vs)
  | [] => L
  | v :: vs => (L.wipe vs).none v
theorem repL_start : ∀ {ds : List D} {vs : List V} (k : Nat), RepL g B H ds vs → Sl g B H (ds.map some ++ List.replicate k none) (vs.map some ++ List.replicate k none)
  | [], vs, k, h => by
    unfold RepL at h
    subst h
    refine ⟨by simp, fun i d hi => ?_⟩
    simp [List.getElem?_replicate] at hi
  | d :: ds, vs, k, h => by
    unfold RepL at h
    obtain ⟨y, ys, rfl, h1, h2⟩ := h
    have ih := repL_start k h2
    refine ⟨by simpa using ih.len, fun i x hi => ?_⟩
    cases i with
    | zero =>
      simp at hi
      subst hi
      exact ⟨y, by simp, h1⟩
    | succ i => exact ih.at_ i x (by simpa using hi)
theorem RepL.len : ∀ {ds : List D} {vs : List V}, RepL g B H ds vs → ds.length = vs.length
  | [], vs, h => by unfold RepL at h; subst h; rfl
  | d :: ds, vs, h => by
    unfold RepL at h
    obtain ⟨y, ys, rfl, h1, h2⟩ := h
    simp [RepL.len h2]
theorem RepL.get : ∀ {ds : List D} {vs : List V} {i : Nat} {d : D}, RepL g B H ds vs → ds[i]? = some d → ∃ v, vs[i]? = some v ∧ Rep g B H d v
  | [], vs, i, d, h, e => by simp at e
  | x :: ds, vs, i, d, h, e => by
    unfold RepL at h
    obtain ⟨y, ys, rfl, h1, h2⟩ := h
    cases i with
    | zero => simp at e; subst e; exact ⟨y, rfl, h1⟩
    | succ i =>
      obtain ⟨v, h3, h4⟩ := RepL.get (ds := ds) (vs := ys) (i := i) (d := d) h2 (by simpa using e)
      exact ⟨v, by simpa using h3, h4⟩
theorem RepL.app : ∀ {ds es : List D} {vs ws : List V}, RepL g B H ds vs → RepL g B H es ws → RepL g B H (ds ++ es) (vs ++ ws)
  | [], es, vs, ws, h, k => by unfold RepL at h; subst h; exact k
  | d :: ds, es, vs, ws, h, k => by
    unfold RepL at h
    obtain ⟨y, ys, rfl, h1, h2⟩ := h
    show RepL g B H (d :: (ds ++ es)) _
    unfold RepL
    exact ⟨y, ys ++ ws, rfl, h1, RepL.app h2 k⟩
theorem RepL.one {d : D} {v : V} (h : Rep g B H d v) : RepL g B H [d] [v] := by
  unfold RepL
  exact ⟨v, [], rfl, h, by unfold RepL; rfl⟩
theorem RepL.nil : RepL g B H [] [] := by unfold RepL; rfl
theorem RepL.cons {d : D} {v : V} {ds : List D} {vs : List V} (h : Rep g B H d v) (t : RepL g B H ds vs) : RepL g B H (d :: ds) (v :: vs) := by
  unfold RepL
  exact ⟨v, vs, rfl, h, t⟩
theorem RepL.take : ∀ {ds : List D} {vs : List V} (n : Nat), RepL g B H ds vs → RepL g B H (ds.take n) (vs.take n)
  | ds, vs, 0, _ => by simp only [List.take_zero]; exact RepL.nil
  | [], vs, n + 1, h => by unfold RepL at h; subst h; exact RepL.nil
  | d :: ds, vs, n + 1, h => by
    unfold RepL at h
    obtain ⟨y, ys, rfl, h1, h2⟩ := h
    exact RepL.cons h1 (RepL.take n h2)
theorem RepL.drop : ∀ {ds : List D} {vs : List V} (n : Nat), RepL g B H ds vs → RepL g B H (ds.drop n) (vs.drop n)
  | ds, vs, 0, h => h
  | [], vs, n + 1, h => by unfold RepL at h; subst h; exact RepL.nil
  | d :: ds, vs, n + 1, h => by
    unfold RepL at h
    obtain ⟨y, ys, rfl, h1, h2⟩ := h
    exact RepL.drop n h2
end

/-! ### readings -/
abbrev DT := Slots → Mem → Rs Bool
abbrev DA := Slots → Mem → Rs (List D)
def tE (g : Gd) (W : WX) (f : DE) : TE := fun σ H Q => ∃ B m δ, SRel g B H m ∧ Sl g B H δ σ ∧ WP g (fun c d H' => W c d σ H') B H (f δ m) (fun d _ B' H' => ∀ v, Rep g B' H' d v → Q v H')
def tT (g : Gd) (W : WX) (f : DT) : TT := fun σ H Q => ∃ B m δ, SRel g B H m ∧ Sl g B H δ σ ∧ WP g (fun c d H' => W c d σ H') B H (f δ m) (fun b _ _ H' => Q b H')
def tA (g : Gd) (W : WX) (f : DA) : TA := fun σ H Q => ∃ B m δ, SRel g B H m ∧ Sl g B H δ σ ∧ WP g (fun c d H' => W c d σ H') B H (f δ m) (fun ds _ B' H' => ∀ vs, RepL g B' H' ds vs → Q vs H')
section
variable {X : Cx}
theorem PE.imp {e : Expr} {t t' : TE} (h : PE X e t) (i : ∀ σ H Q, t' σ H Q → t σ H Q) : PE X e t' := ⟨fun pins s σ H Q I k => h.run pins s σ H Q I (i σ H Q k)⟩
theorem PT.imp {e : Expr} {t t' : TT} (h : PT X e t) (i : ∀ σ H Q, t' σ H Q → t σ H Q) : PT X e t' := ⟨fun pins s σ H Q I k => h.run pins s σ H Q I (i σ H Q k)⟩
theorem PW.imp {e : Expr} {t t' : TT} (h : PW X e t) (i : ∀ σ H Q, t' σ H Q → t σ H Q) : PW X e t' := ⟨fun w pins s σ H Q I k => h.run w pins s σ H Q I (i σ H Q k)⟩
theorem PA.imp {e : List Expr} {t t' : TA} (h : PA X e t) (i : ∀ σ H Q, t' σ H Q → t σ H Q) : PA X e t' := ⟨fun pos pins s σ H Q I k => h.run pos pins s σ H Q I (i σ H Q k)⟩
theorem PS.imp {e : Stmt} {t t' : TS} (h : PS X e t) (i : ∀ D σ H, t' D σ H → t D σ H) : PS X e t' := ⟨fun pins s σ H D I k => h.run pins s σ H D I (i D σ H k)⟩
theorem PSs.imp {e : List Stmt} {t t' : TS} (h : PSs X e t) (i : ∀ D σ H, t' D σ H → t D σ H) : PSs X e t' := ⟨fun pins s σ H D I k => h.run pins s σ H D I (i D σ H k)⟩
theorem PC.imp {op : CmpOp} {a b : Expr} {t t' : TE} (h : PC X op a b t) (i : ∀ σ H Q, t' σ H Q → t σ H Q) : PC X op a b t' := ⟨fun pins s σ H Q I k => h.run pins s σ H Q I (i σ H Q k)⟩
end
abbrev gd (X : Cx) : Gd := ⟨X.prog, X.w, X.K⟩

section
variable {X : Cx} {W : WX} {pos : Pos}
/-! ### names, constants -/
def eVar (i : Nat) : DE := fun δ m => match δ[i]? with
  | some (some d) => .ok d m
  | _ => .bad
theorem dx_var (i : Nat) {x : Str} (hN : X.N[i]? = some x := by rfl) (hv : Vis X.env.scope x := by first | exact Or.inl rfl | exact Or.inr (Or.inl rfl) | exact Or.inr (Or.inr rfl)) (hd : (x == ("__debug__" : Str)) = false := by decide)
    (hcd : (x == ("__classdict__" : Str)) = false := by decide) : PE X (.Name x pos) (tE (gd X) W (eVar i)) :=
  PE.imp (pe_var hN hv hd hcd) fun σ H Q ⟨B, m, δ, S, L, h⟩ => by
    unfold eVar at h
    split at h
    · rename_i d e
      obtain ⟨v, h1, h2⟩ := L.at_ i d e
      exact ⟨v, h1, h B H (Lift.refl _ _) S v h2⟩
    · exact h.elim
def eK (d : D) : DE := fun _ m => .ok d m
/-- a constant's value, whatever the heap -/
def isC : D → V → Bool
  | .non, .non => true
  | .bl a, .bl b => a == b
  | .int a, .int b => decide (a = b)
  | .str a, .str b => decide (a = b)
  | .ty a, .ty b => decide (a = b)
  | _, _ => false
theorem isC_rep {g : Gd} {B : Bx} {H : Hp} : ∀ {d : D} {v u : V}, isC d v = true → Rep g B H d u → u = v := by
  intro d v u h r
  cases d <;> cases v <;> first | (cases h; done) | skip
  all_goals unfold Rep at r; rw [r]
  all_goals first | rfl | (rw [eq_of_beq (show (_ == _) = true from h)]; done) | rw [of_decide_eq_true h]
theorem rep_isC {g : Gd} {B : Bx} {H : Hp} : ∀ {d : D} {v : V}, isC d v = true → Rep g B H d v := by
  intro d v h
  cases d <;> cases v <;> first | (cases h; done) | skip
  all_goals unfold Rep
  all_goals first | rfl | (rw [eq_of_beq (show (_ == _) = true from h)]; done) | rw [of_decide_eq_true h]
theorem tC_of {d : D} {v : V} (h : isC d v = true) : ∀ σ H Q, tE (gd X) W (eK d) σ H Q → tC v σ H Q := fun σ H Q ⟨B, m, δ, S, L, k⟩ =>
  k B H (Lift.refl _ _) S v (rep_isC h)
theorem dx_int {i : Int} {j} : PE X (.Constant (.int i) j pos) (tE (gd X) W (eK (.int i))) := PE.imp pe_int (tC_of (by simp [isC]))
theorem dx_bl {b : Bool} {j} : PE X (.Constant (.bool b) j pos) (tE (gd X) W (eK (.bl b))) := PE.imp pe_bl (tC_of (by simp [isC]))
theorem dx_non {j} : PE X (.Constant .none j pos) (tE (gd X) W (eK .non)) := PE.imp pe_non (tC_of (by simp [isC]))
theorem dx_str {x : Str} {j} : PE X (.Constant (.str x) j pos) (tE (gd X) W (eK (.str x))) := PE.imp pe_str (tC_of (by simp [isC]))
/-- a module's constant that is no object of the heap, or a class, a def -/
theorem dx_glob {x : Str} {d : D} {v : V} {u : Value} (hg : Gl X x) (hm : X.mg x = some u) (r : RelV v u) (hc : isC d v = true) (hd : (x == ("__debug__" : Str)) = false := by decide) : PE X (.Name x pos) (tE (gd X) W (eK d)) :=
  PE.imp (pe_glob hg hm r hd) (tC_of hc)
/-- an own class -/
theorem dx_cls {x : Str} (hg : Gl X x) (hm : X.mg x = some (.ref (He.ga X.K x))) (hd : (x == ("__debug__" : Str)) = false := by decide) : PE X (.Name x pos) (tE (gd X) W (eK (.cls x))) :=
  PE.imp (pe_glob (v := .ref (He.ga X.K x)) hg hm rfl hd) fun σ H Q ⟨B, m, δ, S, L, h⟩ => h B H (Lift.refl _ _) S _ (by unfold Rep; rfl)
/-- a module's tuple -/
theorem dx_gtup {x : Str} {ds : List D} {vs : List V} {a : Addr} (hg : Gl X x) (hm : X.mg x = some (.ref a)) (ht : ∀ H, SqT X.K H a vs) (hr : ∀ B H, RepL (gd X) B H ds vs) (hd : (x == ("__debug__" : Str)) = false := by decide) : PE X (.Name x pos) (tE (gd X) W (eK (.tup ds))) :=
  PE.imp (pe_glob (v := .ref a) hg hm rfl hd) fun σ H Q ⟨B, m, δ, S, L, h⟩ => h B H (Lift.refl _ _) S _ (by unfold Rep; exact ⟨a, vs, rfl, ht H, hr B H⟩)
theorem dx_bltn {x : Str} {d : D} {v : V} {u : Value} (hg : Gl X x) (hm : X.mg x = none) (hv : bootBuiltins x = some u) (r : RelV v u) (hc : isC d v = true) (hn : x ≠ "__name__" := by decide) (hd : (x == ("__debug__" : Str)) = false := by decide) :
    PE X (.Name x pos) (tE (gd X) W (eK d)) := PE.imp (pe_bltn hg hm hv r hn hd) (tC_of hc)

/-! ### operations on values -/
abbrev Op2 := Mem → D → D → Option D
abbrev Op1 := Mem → D → Option D
abbrev OpN := Mem → List D → Option D
/-- what comes behind an operation that changes no box -/
def Aft (g : Gd) (B : Bx) (H : Hp) (m : Mem) (d : D) (Q : VK) : Prop := ∀ v B' H', Lift B H B' H' → SRel g B' H' m → Rep g B' H' d v → Q v H'
def rD (g : Gd) (op : Op2) : R2 := fun x y H Q => ∃ B m a b d, SRel g B H m ∧ Rep g B H a x ∧ Rep g B H b y ∧ op m a b = some d ∧ Aft g B H m d Q
def eBin (op : Op2) (fa fb : DE) : DE := fun δ m => (fa δ m).bind fun a m1 => (fb δ m1).bind fun b m2 => lf (op m2 a b) m2
theorem tOp_of {op : Op2} {fa fb : DE} : ∀ σ H Q, tE (gd X) W (eBin op fa fb) σ H Q → tOp (rD (gd X) op) (tE (gd X) W fa) (tE (gd X) W fb) σ H Q := by
  intro σ H Q ⟨B, m, δ, S, L, h⟩
  refine ⟨B, m, δ, S, L, (WP.step h).mono fun a m1 B1 H1 l1 _ ⟨_, S1, h1⟩ x rx => ?_⟩
  refine ⟨B1, m1, δ, S1, L.up S l1, (WP.step h1).mono fun b m2 B2 H2 l2 _ ⟨_, S2, h2⟩ y ry => ?_⟩
  obtain ⟨d, e, k⟩ := h2.lf
  exact ⟨B2, m2, a, b, d, S2, rx.up S1 l2, ry, e, fun v B' H' l' S' r' => k B' H' l' S' v r'⟩
theorem dx_bin {op : Operator} {o : Op2} {a b : Expr} {fa fb : DE} (ho : OpR X (binaryOp op) (rD (gd X) o)) (ha : PE X a (tE (gd X) W fa)) (hb : PE X b (tE (gd X) W fb)) : PE X (.BinOp a op b pos) (tE (gd X) W (eBin o fa fb)) :=
  PE.imp (pe_op ho ha hb) tOp_of
theorem dx_cmp {op : CmpOp} {o : Op2} {a b : Expr} {fa fb : DE} (ho : OpR X (compareOp op) (rD (gd X) o)) (ha : PE X a (tE (gd X) W fa)) (hb : PE X b (tE (gd X) W fb)) (hm : behindInMarks op b = false := by first | exact nomark _ | rfl) :
    PE X (.Compare a [op] [b] pos) (tE (gd X) W (eBin o fa fb)) := PE.imp (pe_cmpR ho ha hb hm) tOp_of
def eUn (op : Op1) (fa : DE) : DE := fun δ m => (fa δ m).bind fun a m1 => lf (op m1 a) m1
def rU1 (g : Gd) (op : Op1) : V → Hp → VK → Prop := fun x H Q => ∃ B m a d, SRel g B H m ∧ Rep g B H a x ∧ op m a = some d ∧ Aft g B H m d Q
theorem dx_un {op : UnaryOp} {o : Op1} {a : Expr} {fa : DE} (ho : UnR X (unaryOp op) (rU1 (gd X) o)) (ha : PE X a (tE (gd X) W fa)) : PE X (.UnaryOp op a pos) (tE (gd X) W (eUn o fa)) :=
  PE.imp (pe_un ho ha) fun σ H Q ⟨B, m, δ, S, L, h⟩ => ⟨B, m, δ, S, L, (WP.step h).mono fun a m1 B1 H1 l1 _ ⟨_, S1, h1⟩ x rx => by
    obtain ⟨d, e, k⟩ := h1.lf
    exact ⟨B1, m1, a, d, S1, rx, e, fun v B' H' l' S' r' => k B' H' l' S' v r'⟩⟩
/-- a op b op' c -/
def eChain (o o' : Op2) (fa fb fc : DE) : DE := fun δ m => (fa δ m).bind fun a m1 => (fb δ m1).bind fun b m2 => (lf (o m2 a b) m2).bind fun t m3 => match t with
  | .bl true => (fc δ m3).bind fun c m4 => lf (o' m4 b c) m4
  | .bl false => .ok (.bl false) m3
  | _ => .bad
theorem tChain_of {o o' : Op2} {fa fb fc : DE} : ∀ σ H Q, tE (gd X) W (eChain o o' fa fb fc) σ H Q → tChain (rD (gd X) o) (rD (gd X) o') (tE (gd X) W fa) (tE (gd X) W fb) (tE (gd X) W fc) σ H Q := by
  intro σ H Q ⟨B, m, δ, S, L, h⟩
  refine ⟨B, m, δ, S, L, (WP.step h).mono fun a m1 B1 H1 l1 _ ⟨_, S1, h1⟩ x rx => ?_⟩
  refine ⟨B1, m1, δ, S1, L.up S l1, (WP.step h1).mono fun b m2 B2 H2 l2 _ ⟨_, S2, h2⟩ y ry => ?_⟩
  obtain ⟨d, e, k⟩ := (WP.step h2).lf
  refine ⟨B2, m2, a, b, d, S2, rx.up S1 l2, ry, e, fun v B3 H3 l3 S3 r3 => ?_⟩
  obtain ⟨_, _, h3⟩ := k B3 H3 l3 S3
  cases d <;> first | exact h3.elim | skip
  rename_i t
  unfold Rep at r3
  refine ⟨t, r3, ?_⟩
  cases t with
  | true =>
    rw [if_pos rfl]
    refine ⟨B3, m2, δ, S3, ((L.up S l1).up S1 l2).up S2 l3, (WP.step h3).mono fun c m4 B4 H4 l4 _ ⟨_, S4, h4⟩ z rz => ?_⟩
    obtain ⟨q, eq, kq⟩ := h4.lf
    exact ⟨B4, m4, b, c, q, S4, (ry.up S2 l3).up S3 l4, rz, eq, fun v B' H' l' S' r' => kq B' H' l' S' v r'⟩
  | false =>
    rw [if_neg Bool.false_ne_true]
    exact h3 B3 H3 (Lift.refl _ _) S3 _ (by unfold Rep; rfl)
theorem dx_chain {op op' : CmpOp} {o o' : Op2} {a b c : Expr} {fa fb fc : DE} (ho : OpR X (compareOp op) (rD (gd X) o)) (ho' : OpR X (compareOp op') (rD (gd X) o')) (ha : PE X a (tE (gd X) W fa)) (hb : PE X b (tE (gd X) W fb)) (hc : PE X c (tE (gd X) W fc))
    (hm : lastMarks [op, op'] [b, c] = false := by with_unfolding_all rfl) : PE X (.Compare a [op, op'] [b, c] pos) (tE (gd X) W (eChain o o' fa fb fc)) :=
  PE.imp (pe_chain ho ho' ha hb hc hm) tChain_of
end
end DL
namespace DL
open PySem L2

/-! ### truth -/
def tru (m : Mem) : D → Option Bool
  | .non => some false
  | .bl b => some b
  | .int i => some (i != 0)
  | .str y => if y.length ≤ sizeLine then some ((y.length : Int) != 0) else none
  | .tup ds => some (!ds.isEmpty)
  | .lst ds => some (!ds.isEmpty)
  | .box n => match m[n]? with
    | some (.lst ds) => some (!ds.isEmpty)
    | some (.dct ds) => some (!ds.isEmpty)
    | _ => none
  | _ => none
section
variable {g : Gd} {B : Bx} {H : Hp} {m : Mem}
theorem RepL.emp {ds : List D} {xs : List V} (h : RepL g B H ds xs) : ds.isEmpty = xs.isEmpty := by
  cases ds <;> unfold RepL at h
  · rw [h]; rfl
  · obtain ⟨y, ys, rfl, _⟩ := h
    rfl
theorem RepK.emp {ds : List (Key × D)} {xs : List (Key × V)} (h : RepK g B H ds xs) : ds.isEmpty = xs.isEmpty := by
  cases ds with
  | nil => unfold RepK at h; rw [h]; rfl
  | cons p r =>
    obtain ⟨k, d⟩ := p
    unfold RepK at h
    obtain ⟨y, ys, rfl, _⟩ := h
    rfl
theorem tru_of (S : SRel g B H m) {d : D} {v : V} {b : Bool} (h : tru m d = some b) (r : Rep g B H d v) : TruV g.K v H b := by
  cases d <;> simp only [tru] at h <;> unfold Rep at r
  · subst r; injection h with h; exact h.symm
  · subst r; injection h with h; exact h.symm
  · subst r; injection h with h; exact h.symm
  · subst r
    split at h
    · injection h with h
      rename_i q
      exact ⟨q, h.symm⟩
    · cases h
  · cases h
  · cases h
  · obtain ⟨a, rfl, e⟩ := r
    obtain ⟨d, hm, hb⟩ := S.get e
    rw [hm] at h
    cases d <;> first | (cases h; done) | skip
    · unfold BoxAt at hb
      obtain ⟨xs, h1, h2⟩ := hb
      injection h with h
      exact .inl ⟨xs, .of h1, by rw [← h, h2.emp]⟩
    · unfold BoxAt at hb
      obtain ⟨xs, h1, h2⟩ := hb
      injection h with h
      exact .inr (.inr ⟨xs, h1, by rw [← h, h2.emp]⟩)
  · obtain ⟨a, xs, rfl, hs, hl⟩ := r
    injection h with h
    exact .inr (.inl ⟨xs, hs, by rw [← h, hl.emp]⟩)
  · obtain ⟨a, xs, rfl, hs, hl⟩ := r
    injection h with h
    exact .inl ⟨xs, hs.sq, by rw [← h, hl.emp]⟩
  · cases h
  · cases h
  · cases h
  · cases h
end

section
variable {X : Cx} {W : WX} {pos : Pos} {a b c e : Expr} {fa fb fc f : DE}
/-! ### tests -/
def cTru (f : DE) : DT := fun δ m => (f δ m).bind fun d m1 => lf (tru m1 d) m1
theorem dt_tru (h : PE X e (tE (gd X) W f)) (he : ∀ whole, isTrue e X.env whole = (do let v ← whole; standAt e.pos; holding [v] (truthy v)) := by intro _; rfl) : PT X e (tT (gd X) W (cTru f)) :=
  PT.imp (pt_truth h he) fun σ H Q ⟨B, m, δ, S, L, k⟩ => ⟨B, m, δ, S, L, (WP.step k).mono fun d m1 B1 H1 l1 _ ⟨_, S1, h1⟩ v rv => by
    obtain ⟨q, eq, kq⟩ := h1.lf
    exact ⟨q, tru_of S1 eq rv, kq B1 H1 (Lift.refl _ _) S1⟩⟩
/-- a value that is a truth value -/
def cBl (f : DE) : DT := fun δ m => (f δ m).bind fun d m1 => match d with
  | .bl b => .ok b m1
  | _ => .bad
theorem dt_bl (h : PE X e (tE (gd X) W f)) (he : ∀ whole, isTrue e X.env whole = (do let v ← whole; standAt e.pos; holding [v] (truthy v)) := by intro _; rfl) : PT X e (tT (gd X) W (cBl f)) :=
  PT.imp (pt_val h he) fun σ H Q ⟨B, m, δ, S, L, k⟩ => ⟨B, m, δ, S, L, (WP.step k).mono fun d m1 B1 H1 l1 _ ⟨_, S1, h1⟩ v rv => by
    cases d <;> first | exact h1.elim | skip
    unfold Rep at rv
    exact ⟨_, rv, h1 B1 H1 (Lift.refl _ _) S1⟩⟩
def cNot (c : DT) : DT := fun δ m => (c δ m).bind fun b m1 => .ok (!b) m1
theorem dt_not {t : DT} (h : PT X a (tT (gd X) W t)) : PT X (.UnaryOp .Not a pos) (tT (gd X) W (cNot t)) :=
  PT.imp (pt_not h) fun σ H Q ⟨B, m, δ, S, L, k⟩ => ⟨B, m, δ, S, L, (WP.step k).mono fun d m1 B1 H1 l1 _ ⟨_, S1, h1⟩ => h1 B1 H1 (Lift.refl _ _) S1⟩
def cAnd (c d : DT) : DT := fun δ m => (c δ m).bind fun b m1 => match b with
  | true => d δ m1
  | false => .ok false m1
def cOr (c d : DT) : DT := fun δ m => (c δ m).bind fun b m1 => match b with
  | false => d δ m1
  | true => .ok true m1
theorem dw_and1 {t : DT} (h : PT X a (tT (gd X) W t)) : PW X (.BoolOp .And [a] pos) (tT (gd X) W t) := pw_and1 h
theorem dw_or1 {t : DT} (h : PT X a (tT (gd X) W t)) : PW X (.BoolOp .Or [a] pos) (tT (gd X) W t) := pw_or1 h
theorem dw_and {t u : DT} {rest : List Expr} (h : PT X a (tT (gd X) W t)) (k : PW X (.BoolOp .And (b :: rest) pos) (tT (gd X) W u)) : PW X (.BoolOp .And (a :: b :: rest) pos) (tT (gd X) W (cAnd t u)) :=
  PW.imp (pw_and h k) fun σ H Q ⟨B, m, δ, S, L, k⟩ => ⟨B, m, δ, S, L, (WP.step k).mono fun d m1 B1 H1 l1 _ ⟨_, S1, h1⟩ => by
    cases d with
    | true => rw [if_pos rfl]; exact ⟨B1, m1, δ, S1, L.up S l1, h1⟩
    | false => rw [if_neg Bool.false_ne_true]; exact h1 B1 H1 (Lift.refl _ _) S1⟩
theorem dw_or {t u : DT} {rest : List Expr} (h : PT X a (tT (gd X) W t)) (k : PW X (.BoolOp .Or (b :: rest) pos) (tT (gd X) W u)) : PW X (.BoolOp .Or (a :: b :: rest) pos) (tT (gd X) W (cOr t u)) :=
  PW.imp (pw_or h k) fun σ H Q ⟨B, m, δ, S, L, k⟩ => ⟨B, m, δ, S, L, (WP.step k).mono fun d m1 B1 H1 l1 _ ⟨_, S1, h1⟩ => by
    cases d with
    | false => rw [if_neg Bool.false_ne_true]; exact ⟨B1, m1, δ, S1, L.up S l1, h1⟩
    | true => rw [if_pos rfl]; exact h1 B1 H1 (Lift.refl _ _) S1⟩
theorem dt_w {t : DT} {e : Expr} (h : PW X e (tT (gd X) W t)) : PT X e (tT (gd X) W t) := PW.pt h
/-! ### and, or, not as values; a if t else b -/
def eAnd (fa fb : DE) : DE := fun δ m => (fa δ m).bind fun d m1 => (lf (tru m1 d) m1).bind fun t m2 => match t with
  | true => fb δ m2
  | false => .ok d m2
def eOr (fa fb : DE) : DE := fun δ m => (fa δ m).bind fun d m1 => (lf (tru m1 d) m1).bind fun t m2 => match t with
  | true => .ok d m2
  | false => fb δ m2
def eNot (fa : DE) : DE := fun δ m => (fa δ m).bind fun d m1 => (lf (tru m1 d) m1).bind fun t m2 => .ok (.bl (!t)) m2
theorem dx_one {op : BoolOp} (h : PE X a (tE (gd X) W fa)) : PE X (.BoolOp op [a] pos) (tE (gd X) W fa) := pe_one h
theorem dx_and {rest : List Expr} (h : PE X a (tE (gd X) W fa)) (k : PE X (.BoolOp .And (b :: rest) pos) (tE (gd X) W fb)) : PE X (.BoolOp .And (a :: b :: rest) pos) (tE (gd X) W (eAnd fa fb)) :=
  PE.imp (pe_andT h k) fun σ H Q ⟨B, m, δ, S, L, k⟩ => ⟨B, m, δ, S, L, (WP.step k).mono fun d m1 B1 H1 l1 _ ⟨_, S1, h1⟩ v rv => by
    obtain ⟨q, eq, kq⟩ := (WP.step h1).lf
    obtain ⟨_, _, h2⟩ := kq B1 H1 (Lift.refl _ _) S1
    refine ⟨q, tru_of S1 eq rv, ?_⟩
    cases q with
    | true => rw [if_pos rfl]; exact ⟨B1, m1, δ, S1, L.up S l1, h2⟩
    | false => rw [if_neg Bool.false_ne_true]; exact h2 B1 H1 (Lift.refl _ _) S1 v rv⟩
theorem dx_or {rest : List Expr} (h : PE X a (tE (gd X) W fa)) (k : PE X (.BoolOp .Or (b :: rest) pos) (tE (gd X) W fb)) : PE X (.BoolOp .Or (a :: b :: rest) pos) (tE (gd X) W (eOr fa fb)) :=
  PE.imp (pe_orT h k) fun σ H Q ⟨B, m, δ, S, L, k⟩ => ⟨B, m, δ, S, L, (WP.step k).mono fun d m1 B1 H1 l1 _ ⟨_, S1, h1⟩ v rv => by
    obtain ⟨q, eq, kq⟩ := (WP.step h1).lf
    obtain ⟨_, _, h2⟩ := kq B1 H1 (Lift.refl _ _) S1
    refine ⟨q, tru_of S1 eq rv, ?_⟩
    cases q with
    | false => rw [if_neg Bool.false_ne_true]; exact ⟨B1, m1, δ, S1, L.up S l1, h2⟩
    | true => rw [if_pos rfl]; exact h2 B1 H1 (Lift.refl _ _) S1 v rv⟩
theorem dx_not (h : PE X a (tE (gd X) W fa)) : PE X (.UnaryOp .Not a pos) (tE (gd X) W (eNot fa)) :=
  PE.imp (pe_notT h) fun σ H Q ⟨B, m, δ, S, L, k⟩ => ⟨B, m, δ, S, L, (WP.step k).mono fun d m1 B1 H1 l1 _ ⟨_, S1, h1⟩ v rv => by
    obtain ⟨q, eq, kq⟩ := (WP.step h1).lf
    obtain ⟨_, _, h2⟩ := kq B1 H1 (Lift.refl _ _) S1
    exact ⟨q, tru_of S1 eq rv, h2 B1 H1 (Lift.refl _ _) S1 _ (by unfold Rep; rfl)⟩⟩
def eIf (t : DT) (fa fb : DE) : DE := fun δ m => (t δ m).bind fun b m1 => match b with
  | true => fa δ m1
  | false => fb δ m1
theorem dx_if {t : DT} (hc : PT X c (tT (gd X) W t)) (ha : PE X a (tE (gd X) W fa)) (hb : PE X b (tE (gd X) W fb)) : PE X (.IfExp c a b pos) (tE (gd X) W (eIf t fa fb)) :=
  PE.imp (pe_ifExp hc ha hb) fun σ H Q ⟨B, m, δ, S, L, k⟩ => ⟨B, m, δ, S, L, (WP.step k).mono fun d m1 B1 H1 l1 _ ⟨_, S1, h1⟩ => by
    cases d with
    | true => rw [if_pos rfl]; exact ⟨B1, m1, δ, S1, L.up S l1, h1⟩
    | false => rw [if_neg Bool.false_ne_true]; exact ⟨B1, m1, δ, S1, L.up S l1, h1⟩⟩

/-! ### arguments, tuples, lists -/
def aNil : DA := fun _ m => .ok [] m
def aCons (f : DE) (r : DA) : DA := fun δ m => (f δ m).bind fun d m1 => (r δ m1).bind fun ds m2 => .ok (d :: ds) m2
theorem da_nil : PA X [] (tA (gd X) W aNil) := PA.imp pa_nil fun σ H Q ⟨B, m, δ, S, L, k⟩ => k B H (Lift.refl _ _) S [] RepL.nil
theorem da_cons {es : List Expr} {r : DA} (ha : PE X e (tE (gd X) W f)) (hr : PA X es (tA (gd X) W r)) (hs : starEach (e :: es) X.env = (false, eval e X.env) :: starEach es X.env := by rfl) : PA X (e :: es) (tA (gd X) W (aCons f r)) :=
  PA.imp (pa_cons ha hr hs) fun σ H Q ⟨B, m, δ, S, L, k⟩ => ⟨B, m, δ, S, L, (WP.step k).mono fun d m1 B1 H1 l1 _ ⟨_, S1, h1⟩ v rv =>
    ⟨B1, m1, δ, S1, L.up S l1, (WP.step h1).mono fun ds m2 B2 H2 l2 _ ⟨_, S2, h2⟩ vs rvs => h2 B2 H2 (Lift.refl _ _) S2 _ (RepL.cons (rv.up S1 l2) rvs)⟩⟩
def AL (n : Nat) (t : DA) : Prop := ∀ δ m ds m', t δ m = .ok ds m' → ds.length = n
theorem al_nil : AL 0 aNil := fun δ m ds m' h => by
  unfold aNil at h
  injection h with h
  rw [← h]; rfl
theorem al_cons {n : Nat} {r : DA} (h : AL n r) : AL (n + 1) (aCons f r) := fun δ m ds m' e => by
  unfold aCons at e
  cases q : f δ m with
  | ok d m1 =>
    rw [q] at e
    cases q2 : r δ m1 with
    | ok ds2 m2 =>
      simp only [bind_ok, q2] at e
      injection e with e
      rw [← e, List.length_cons, h δ m1 ds2 m2 q2]
    | exc x m2 => simp only [bind_ok, bind_exc, q2] at e; cases e
    | bad => simp only [bind_ok, bind_bad, q2] at e; cases e
  | exc x m1 => rw [q] at e; cases e
  | bad => rw [q] at e; cases e
theorem WP.al {g : Gd} {E : XK} {B : Bx} {H : Hp} {t : DA} {n : Nat} {δ : Slots} {m : Mem} {Q Q' : List D → Mem → Bx → Hp → Prop} (al : AL n t) (h : WP g E B H (t δ m) Q)
    (hq : ∀ a m B' H', a.length = n → Lift B H B' H' → SRel g B' H' m → Q a m B' H' → Q' a m B' H') : WP g E B H (t δ m) Q' := by
  have k := al δ m
  cases e : t δ m with
  | ok a m' =>
    rw [e] at h
    exact fun B' H' l S => hq a m' B' H' (k a m' e) l S (h B' H' l S)
  | exc x m' => rw [e] at h; exact h
  | bad => rw [e] at h; exact h
theorem small_line {n : Nat} (h : n ≤ 1000) : n ≤ sizeLine := Nat.le_trans h (by decide)
def eTup (t : DA) : DE := fun δ m => (t δ m).bind fun ds m1 => .ok (.tup ds) m1
def eLst (t : DA) : DE := fun δ m => (t δ m).bind fun ds m1 => .ok (.lst ds) m1
/-- a list that will be changed -/
def eNew (t : DA) : DE := fun δ m => (t δ m).bind fun ds m1 => .ok (.box m1.length) (m1 ++ [.lst ds])
theorem dx_tup {es : List Expr} {t : DA} {n : Nat} {x1} (h : PA X es (tA (gd X) W t)) (al : AL n t) (hn : n ≤ 1000 := by decide) : PE X (.Tuple es x1 pos) (tE (gd X) W (eTup t)) :=
  PE.imp (pe_tup h) fun σ H Q ⟨B, m, δ, S, L, k⟩ => ⟨B, m, δ, S, L, WP.al al (WP.step k) fun ds m1 B1 H1 hl l1 _ ⟨_, S1, h1⟩ vs rvs => by
    refine ⟨small_line (by rw [← rvs.len, hl]; exact hn), fun p hp => ?_⟩
    exact h1 B1 _ (Lift.new hp) (S1.new hp) _ (by unfold Rep; exact ⟨p, vs, rfl, .of upd_same, rvs.up S1 (Lift.new hp)⟩)⟩
theorem dx_lst {es : List Expr} {t : DA} {n : Nat} (h : PA X es (tA (gd X) W t)) (al : AL n t) (hn : n ≤ 1000 := by decide) : PE X (.List es pos) (tE (gd X) W (eLst t)) :=
  PE.imp (pe_lst h) fun σ H Q ⟨B, m, δ, S, L, k⟩ => ⟨B, m, δ, S, L, WP.al al (WP.step k) fun ds m1 B1 H1 hl l1 _ ⟨_, S1, h1⟩ vs rvs => by
    refine ⟨small_line (by rw [← rvs.len, hl]; exact hn), fun p hp => ?_⟩
    exact h1 B1 _ (Lift.new hp) (S1.new hp) _ (by unfold Rep; exact ⟨p, vs, rfl, .inl ⟨S1.fresh hp, .of upd_same⟩, rvs.up S1 (Lift.new hp)⟩)⟩
theorem dx_new {es : List Expr} {t : DA} {n : Nat} (h : PA X es (tA (gd X) W t)) (al : AL n t) (hn : n ≤ 1000 := by decide) : PE X (.List es pos) (tE (gd X) W (eNew t)) :=
  PE.imp (pe_lst h) fun σ H Q ⟨B, m, δ, S, L, k⟩ => ⟨B, m, δ, S, L, WP.al al (WP.step k) fun ds m1 B1 H1 hl l1 _ ⟨_, S1, h1⟩ vs rvs => by
    refine ⟨small_line (by rw [← rvs.len, hl]; exact hn), fun p hp => ?_⟩
    have e : (B1.add p).b[m1.length]? = some p := by rw [← S1.len]; show (B1.b ++ [p])[B1.b.length]? = some p; simp
    exact h1 (B1.add p) _ (Lift.newBox hp) (S1.newBox hp (by unfold BoxAt; exact ⟨vs, upd_same, rvs.up S1 (Lift.newBox hp)⟩)) _ (by unfold Rep; exact ⟨p, rfl, e⟩)⟩

/-! ### calls of defs -/
/-- a def's promise: it does what f does -/
def spD (g : Gd) (n : Nat) (f : List D → Mem → Rs D) : Sp := fun vs H Q E => ∃ B m ds, SRel g B H m ∧ RepL g B H ds vs ∧ ds.length = n ∧ WP g E B H (f ds m) (fun d _ B' H' => ∀ v, Rep g B' H' d v → Q v H')
def eCall (f : List D → Mem → Rs D) (t : DA) : DE := fun δ m => (t δ m).bind f
variable {k n : Nat} {fa' : Addr} {fd : FuncData} {ps : List Str} {F : List D → Mem → Rs D}
theorem dx_call {x : Str} {p : Pos} {es : List Expr} {t : DA} (G : FnOk X.prog X.w X.K X.mg X.base (L2.CX X.prog X.w) k fa' fd ps (spD (gd X) n F)) (hr : Room k X.A) (hg : Gl X x) (hm : X.mg x = some (.ref fa')) (hk : PySem.W.keepIn X.K (.ref fa') = true) (hb : Binds X.K fd ps [])
    (tk : Takes X W) (ha : PA X (e :: es) (tA (gd X) W t)) (al : AL n t) (hdb : (x == ("__debug__" : Str)) = false := by decide) (he : starEach (e :: es) X.env = (false, eval e X.env) :: starEach es X.env := by rfl) (hpl : (backTo pos (starEach es X.env)).any (·.1) = false := by rfl) :
    PE X (.Call (.Name x p) (e :: es) [] pos) (tE (gd X) W (eCall F t)) :=
  PE.imp (pe_callSD (E := fun σ c d H => W c d σ H) G hr hg hm hk hb .nil (fun σ => passAt tk σ) ha hdb he hpl) fun σ H Q ⟨B, m, δ, S, L, h⟩ => ⟨B, m, δ, S, L, WP.al al (WP.step h) fun ds m1 B1 H1 hl l1 _ ⟨_, S1, h1⟩ vs rvs => by
    show spD (gd X) n F (vs ++ []) H1 Q _
    rw [List.append_nil]
    exact ⟨B1, m1, ds, S1, rvs, hl, h1⟩⟩
end

/-! ### statements -/
inductive O where
  | nx (δ : Slots) | rt (d : D) | bk (δ : Slots) | ct (δ : Slots) | ex (e : Exn) (δ : Slots)
abbrev SE := Slots → Mem → Rs O
def WS (g : Gd) (W : WX) (B : Bx) (H : Hp) (r : Rs O) (N : Ends) : Prop := match r with
  | .ok (.nx δ) m => ∀ σ B' H', Lift B H B' H' → SRel g B' H' m → Sl g B' H' δ σ → N.nx σ H'
  | .ok (.rt d) m => ∀ v B' H', Lift B H B' H' → SRel g B' H' m → Rep g B' H' d v → N.rt v H'
  | .ok (.bk δ) m => ∀ σ B' H', Lift B H B' H' → SRel g B' H' m → Sl g B' H' δ σ → N.bk σ H'
  | .ok (.ct δ) m => ∀ σ B' H', Lift B H B' H' → SRel g B' H' m → Sl g B' H' δ σ → N.ct σ H'
  | .ok (.ex e δ) m => ∀ σ B' H' dx, Lift B H B' H' → SRel g B' H' m → Sl g B' H' δ σ → ExRep g B' H' e dx → W (e.cls.v g.K) dx σ H'
  | .exc _ _ => False
  | .bad => False
def tS (g : Gd) (W : WX) (s : SE) : TS := fun N σ H => ∃ B m δ, SRel g B H m ∧ Sl g B H δ σ ∧ WS g W B H (s δ m) N
/-- from an expression's result to a statement's -/
def Rs.st {α : Type} (r : Rs α) (δ : Slots) (k : α → Mem → Rs O) : Rs O := match r with
  | .ok a m => k a m
  | .exc e m => .ok (.ex e δ) m
  | .bad => .bad
@[simp] theorem st_ok {α : Type} (a : α) (m : Mem) (δ : Slots) (k : α → Mem → Rs O) : (Rs.ok a m).st δ k = k a m := rfl
@[simp] theorem st_exc {α : Type} (e : Exn) (m : Mem) (δ : Slots) (k : α → Mem → Rs O) : (Rs.exc e m).st δ k = .ok (.ex e δ) m := rfl
@[simp] theorem st_bad {α : Type} (δ : Slots) (k : α → Mem → Rs O) : (Rs.bad).st δ k = .bad := rfl
section
variable {g : Gd} {W : WX} {B B' : Bx} {H H' : Hp} {N : Ends}
theorem WS.up {r : Rs O} (h : WS g W B H r N) (l : Lift B H B' H') : WS g W B' H' r N := by
  unfold WS at *
  split at h
  · exact fun σ B2 H2 l2 S2 => h σ B2 H2 (l.trans l2) S2
  · exact fun σ B2 H2 l2 S2 => h σ B2 H2 (l.trans l2) S2
  · exact fun σ B2 H2 l2 S2 => h σ B2 H2 (l.trans l2) S2
  · exact fun σ B2 H2 l2 S2 => h σ B2 H2 (l.trans l2) S2
  · exact fun σ B2 H2 dx l2 S2 => h σ B2 H2 dx (l.trans l2) S2
  · exact h
  · exact h
theorem WS.step {α : Type} {r : Rs α} {δ : Slots} {σ : St} {m : Mem} {k : α → Mem → Rs O} (h : WS g W B H (r.st δ k) N) (S : SRel g B H m) (L : Sl g B H δ σ) :
    WP g (fun c d H' => W c d σ H') B H r (fun a m1 B1 H1 => Lift B H B1 H1 ∧ SRel g B1 H1 m1 ∧ WS g W B1 H1 (k a m1) N) := by
  cases r with
  | ok a m1 => exact fun B1 H1 l1 S1 => ⟨l1, S1, WS.up (show WS g W B H (k a m1) N from h) l1⟩
  | exc e m1 => exact fun B1 H1 dx l1 S1 x => h σ B1 H1 dx l1 S1 (L.up S l1) x
  | bad => exact h.elim
end
section
variable {X : Cx} {W : WX} {pos : Pos} {e : Expr} {f : DE} {st : Stmt} {rest : List Stmt}
def sNext : SE := fun δ m => .ok (.nx δ) m
def sSeq (s t : SE) : SE := fun δ m => match s δ m with
  | .ok (.nx δ1) m1 => t δ1 m1
  | r => r
theorem dss_nil : PSs X [] (tS (gd X) W sNext) := PSs.imp pss_nil fun N σ H ⟨B, m, δ, S, L, h⟩ => h σ B H (Lift.refl _ _) S L
theorem dss_one {s : SE} (h : PS X st (tS (gd X) W s)) : PSs X [st] (tS (gd X) W s) := pss_one h
theorem dss_cons {s t : SE} (h : PS X st (tS (gd X) W s)) (k : PSs X rest (tS (gd X) W t)) : PSs X (st :: rest) (tS (gd X) W (sSeq s t)) :=
  PSs.imp (pss_cons h k) fun N σ H ⟨B, m, δ, S, L, h⟩ => by
    refine ⟨B, m, δ, S, L, ?_⟩
    unfold sSeq at h
    unfold WS
    split at h
    · rename_i δ1 m1 e
      rw [e]
      exact fun σ' B' H' l' S' L' => ⟨B', m1, δ1, S', L', h.up l'⟩
    · rename_i r e
      unfold WS at h
      cases q : s δ m with
      | ok o m1 =>
        rw [q] at h
        cases o <;> first | exact h | skip
        exact absurd q (e _ _)
      | exc x m1 => rw [q] at h; exact h.elim
      | bad => rw [q] at h; exact h.elim
theorem ds_pass : PS X (.Pass pos) (tS (gd X) W sNext) := PS.imp ps_pass fun N σ H ⟨B, m, δ, S, L, h⟩ => h σ B H (Lift.refl _ _) S L
def sBrk : SE := fun δ m => .ok (.bk δ) m
def sCont : SE := fun δ m => .ok (.ct δ) m
theorem ds_brk : PS X (.Break pos) (tS (gd X) W sBrk) := PS.imp ps_break fun N σ H ⟨B, m, δ, S, L, h⟩ => h σ B H (Lift.refl _ _) S L
theorem ds_cont : PS X (.Continue pos) (tS (gd X) W sCont) := PS.imp ps_continue fun N σ H ⟨B, m, δ, S, L, h⟩ => h σ B H (Lift.refl _ _) S L
def sExpr (f : DE) : SE := fun δ m => (f δ m).st δ fun _ m1 => .ok (.nx δ) m1
theorem ds_expr (he : PE X e (tE (gd X) W f)) (hs : swapsWith e none pos.line X.env = pure false := by rfl) : PS X (.Expr e pos) (tS (gd X) W (sExpr f)) :=
  PS.imp (ps_expr he hs) fun N σ H ⟨B, m, δ, S, L, h⟩ => ⟨B, m, δ, S, L, (WS.step h S L).mono fun d m1 B1 H1 l1 _ ⟨_, S1, h1⟩ v _ => h1 σ B1 H1 (Lift.refl _ _) S1 (L.up S l1)⟩
def sRet (f : DE) : SE := fun δ m => (f δ m).st δ fun d m1 => .ok (.rt d) m1
theorem ds_ret (he : PE X e (tE (gd X) W f)) : PS X (.Return (some e) pos) (tS (gd X) W (sRet f)) :=
  PS.imp (ps_ret he) fun N σ H ⟨B, m, δ, S, L, h⟩ => ⟨B, m, δ, S, L, (WS.step h S L).mono fun d m1 B1 H1 l1 _ ⟨_, S1, h1⟩ v rv => h1 v B1 H1 (Lift.refl _ _) S1 rv⟩
def sRetN : SE := fun δ m => .ok (.rt .non) m
theorem ds_retN : PS X (.Return none pos) (tS (gd X) W sRetN) := PS.imp ps_retN fun N σ H ⟨B, m, δ, S, L, h⟩ => h _ B H (Lift.refl _ _) S (by unfold Rep; rfl)
def sIf (c : DT) (s t : SE) : SE := fun δ m => (c δ m).st δ fun b m1 => match b with
  | true => s δ m1
  | false => t δ m1
theorem ds_if {c : Expr} {a b : List Stmt} {tc : DT} {s t : SE} (hc : PT X c (tT (gd X) W tc)) (ha : PSs X a (tS (gd X) W s)) (hb : PSs X b (tS (gd X) W t)) : PS X (.If c a b pos) (tS (gd X) W (sIf tc s t)) :=
  PS.imp (ps_if hc ha hb) fun N σ H ⟨B, m, δ, S, L, h⟩ => ⟨B, m, δ, S, L, (WS.step h S L).mono fun d m1 B1 H1 l1 _ ⟨_, S1, h1⟩ => by
    cases d with
    | true => rw [if_pos rfl]; exact ⟨B1, m1, δ, S1, L.up S l1, h1⟩
    | false => rw [if_neg Bool.false_ne_true]; exact ⟨B1, m1, δ, S1, L.up S l1, h1⟩⟩
/-- a statement that is never come to -/
def sBad : SE := fun _ _ => .bad
theorem ds_never : PS X st (tS (gd X) W sBad) := PS.imp ps_never fun N σ H ⟨B, m, δ, S, L, h⟩ => h

/-! ### targets -/
abbrev DG := D → Slots → Mem → Rs Slots
abbrev DGs := List D → Slots → Mem → Rs Slots
abbrev E00 : XK := fun _ _ _ => False
/-- only the slots is are touched -/
def Touch (is : List Nat) (σ σ' : St) : Prop := σ'.length = σ.length ∧ ∀ j, j ∉ is → σ'[j]? = σ[j]?
theorem Touch.refl {is : List Nat} {σ : St} : Touch is σ σ := ⟨rfl, fun _ _ => rfl⟩
theorem Touch.trans {is js : List Nat} {σ σ1 σ2 : St} (a : Touch is σ σ1) (b : Touch js σ1 σ2) : Touch (is ++ js) σ σ2 :=
  ⟨b.1.trans a.1, fun j h => (b.2 j fun q => h (List.mem_append_right _ q)).trans (a.2 j fun q => h (List.mem_append_left _ q))⟩
def tG (g : Gd) (is : List Nat) (t : DG) : TG := fun v σ H Q => ∃ B m δ d, SRel g B H m ∧ Sl g B H δ σ ∧ Rep g B H d v ∧ WP g E00 B H (t d δ m) (fun δ' _ B' H' => ∀ σ', Sl g B' H' δ' σ' → Touch is σ σ' → Q σ' H')
def tGs (g : Gd) (is : List Nat) (t : DGs) : TGs := fun vs σ H Q => ∃ B m δ ds, SRel g B H m ∧ Sl g B H δ σ ∧ RepL g B H ds vs ∧ WP g E00 B H (t ds δ m) (fun δ' _ B' H' => ∀ σ', Sl g B' H' δ' σ' → Touch is σ σ' → Q σ' H')
theorem PG.imp {e : Expr} {t t' : TG} (h : PG X e t) (i : ∀ v σ H Q, t' v σ H Q → t v σ H Q) : PG X e t' := ⟨fun pins s σ H v u Q I r k => h.run pins s σ H v u Q I r (i v σ H Q k)⟩
theorem PGs.imp {e : List Expr} {t t' : TGs} (h : PGs X e t) (i : ∀ v σ H Q, t' v σ H Q → t v σ H Q) : PGs X e t' := ⟨fun pins s σ H v u Q I r k => h.run pins s σ H v u Q I r (i v σ H Q k)⟩
def nName (i : Nat) : DG := fun d δ m => .ok (δ.set i (some d)) m
theorem dg_name {i : Nat} {x : Str} (hN : X.N.Nodup) (hi : X.N[i]? = some x := by rfl) (hx : Loc X.env.scope x := by first | exact Or.inl rfl | exact Or.inr rfl) (hf : X.fn x = true ∨ X.env.scope.names.lookup x = some .local := by first | exact .inl rfl | exact .inr rfl | assumption) : PG X (.Name x pos) (tG (gd X) [i] (nName i)) :=
  PG.imp (pg_name hN hi hx hf) fun v σ H Q ⟨B, m, δ, d, S, L, r, h⟩ => h B H (Lift.refl _ _) S _ (L.set r i) ⟨List.length_set, fun j hj => by
    rw [List.getElem?_set_ne (fun z => hj (by simp [z]))]⟩
def nNil : DGs := fun ds δ m => match ds with
  | [] => .ok δ m
  | _ => .bad
def nCons (t : DG) (u : DGs) : DGs := fun ds δ m => match ds with
  | d :: r => (t d δ m).bind fun δ1 m1 => u r δ1 m1
  | [] => .bad
theorem dgs_nil : PGs X [] (tGs (gd X) [] nNil) := PGs.imp pgs_nil fun vs σ H Q ⟨B, m, δ, ds, S, L, r, h⟩ => by
  cases ds with
  | nil =>
    unfold RepL at r
    exact ⟨r, h B H (Lift.refl _ _) S σ L .refl⟩
  | cons d ds => exact h.elim
theorem dgs_cons {es : List Expr} {t : DG} {u : DGs} {is js : List Nat} (h1 : PG X e (tG (gd X) is t)) (h2 : PGs X es (tGs (gd X) js u)) (hs : (assignEach (e :: es) X.env).map (·.2) = assign e X.env :: (assignEach es X.env).map (·.2) := by rfl) : PGs X (e :: es) (tGs (gd X) (is ++ js) (nCons t u)) :=
  PGs.imp (pgs_cons h1 h2 hs) fun vs σ H Q ⟨B, m, δ, ds, S, L, r, h⟩ => by
    cases ds with
    | nil => exact h.elim
    | cons d ds =>
      unfold RepL at r
      obtain ⟨y, ys, rfl, r1, r2⟩ := r
      exact ⟨y, ys, rfl, B, m, δ, d, S, L, r1, (WP.step h).mono fun δ1 m1 B1 H1 l1 _ ⟨_, S1, k1⟩ σ1 L1 t1 => ⟨B1, m1, δ1, ds, S1, L1, r2.up S l1, k1.mono fun δ2 m2 B2 H2 l2 S2 k2 σ2 L2' t2 => k2 σ2 L2' (t1.trans t2)⟩⟩
def nTup (n : Nat) (u : DGs) : DG := fun d δ m => match d with
  | .tup ds => if ds.length = n then u ds δ m else .bad
  | _ => .bad
theorem dg_tup {es : List Expr} {k n : Nat} {u : DGs} {is : List Nat} (hc : X.calm = true) (h : PGs X es (tGs (gd X) is u)) (hn : (assignEach es X.env).length = n := by rfl) (hst : (assignEach es X.env).findIdx? (·.1) = none := by rfl) : PG X (.Tuple es k pos) (tG (gd X) is (nTup n u)) :=
  PG.imp (pg_tup hc h hn hst) fun v σ H Q ⟨B, m, δ, d, S, L, r, h⟩ => by
    cases d <;> first | exact h.elim | skip
    rename_i ds
    unfold Rep at r
    obtain ⟨a, xs, rfl, hs, hl⟩ := r
    by_cases q : ds.length = n
    · have h' : WP (gd X) E00 B H (u ds δ m) (fun δ' _ B' H' => ∀ σ', Sl (gd X) B' H' δ' σ' → Touch is σ σ' → Q σ' H') := by
        have := h
        simp only [nTup, if_pos q] at this
        exact this
      exact ⟨a, xs, rfl, hs, by rw [← hl.len]; exact q, B, m, δ, ds, S, L, hl, h'⟩
    · simp only [nTup, if_neg q] at h
      exact h.elim
/-- targets raise nothing -/
def NX (t : DG) : Prop := ∀ d δ m x mx, t d δ m ≠ .exc x mx
def NXs (t : DGs) : Prop := ∀ d δ m x mx, t d δ m ≠ .exc x mx
theorem nx_name {i : Nat} : NX (nName i) := fun _ _ _ _ _ => nofun
theorem nxs_nil : NXs nNil := fun ds _ _ _ _ => by
  unfold nNil
  split <;> nofun
theorem nxs_cons {t : DG} {u : DGs} (h : NX t) (k : NXs u) : NXs (nCons t u) := fun ds δ m x mx => by
  unfold nCons
  split
  · rename_i d r
    cases e : t d δ m with
    | ok a m1 => exact k r a m1 x mx
    | exc y my => exact absurd e (h d δ m y my)
    | bad => nofun
  · nofun
theorem nx_tup {n : Nat} {u : DGs} (k : NXs u) : NX (nTup n u) := fun d δ m x mx => by
  unfold nTup
  split
  · split
    · exact k _ _ _ _ _
    · nofun
  · nofun
def sAsg (t : DG) (f : DE) : SE := fun δ m => (f δ m).st δ fun d m1 => (t d δ m1).st δ fun δ1 m2 => .ok (.nx δ1) m2
theorem ds_asg {tg : Expr} {t : DG} {is : List Nat} (he : PE X e (tE (gd X) W f)) (hg : PG X tg (tG (gd X) is t)) (hx : NX t) (hs : swapsWithSole [tg] e pos.line X.env = pure false := by rfl) (hw : swappedStores [tg] e X.env = pure none := by rfl)
    (h1 : (assignEach [tg] X.env).map (·.2) = [assign tg X.env] := by rfl) : PS X (.Assign [tg] e pos) (tS (gd X) W (sAsg t f)) :=
  PS.imp (ps_asg he hg hs hw h1) fun N σ H ⟨B, m, δ, S, L, h⟩ => ⟨B, m, δ, S, L, (WS.step h S L).mono fun d m1 B1 H1 l1 _ ⟨_, S1, h1⟩ v rv => by
    refine ⟨B1, m1, δ, d, S1, L.up S l1, rv, ?_⟩
    have k := WS.step h1 S1 (L.up S l1)
    have x := hx d δ m1
    cases e : t d δ m1 with
    | ok δ1 m2 =>
      rw [e] at k
      intro B2 H2 l2 S2 σ2 L2' _
      obtain ⟨_, _, k2⟩ := k B2 H2 l2 S2
      exact k2 σ2 B2 H2 (Lift.refl _ _) S2 L2'
    | exc y my => exact absurd e (x y my)
    | bad => rw [e] at k; exact k.elim⟩
/-- name = e -/
def sSet (i : Nat) (f : DE) : SE := fun δ m => (f δ m).st δ fun d m1 => .ok (.nx (δ.set i (some d))) m1
theorem ds_set {i : Nat} {x : Str} {pos' : Pos} (hN : X.N.Nodup) (he : PE X e (tE (gd X) W f)) (hi : X.N[i]? = some x := by rfl) (hx : Loc X.env.scope x := by first | exact Or.inl rfl | exact Or.inr rfl) (hs : swapsWith e (some (.Name x pos')) pos.line X.env = pure false := by rfl)
    (hf : X.fn x = true ∨ X.env.scope.names.lookup x = some .local := by first | exact .inl rfl | exact .inr rfl | assumption) : PS X (.Assign [.Name x pos'] e pos) (tS (gd X) W (sSet i f)) :=
  PS.imp (ps_set hN hi hx he hs hf) fun N σ H ⟨B, m, δ, S, L, h⟩ => ⟨B, m, δ, S, L, (WS.step h S L).mono fun d m1 B1 H1 l1 _ ⟨_, S1, h1⟩ v rv =>
    h1 _ B1 H1 (Lift.refl _ _) S1 ((L.up S l1).set rv i)⟩
/-- a, b = x, y -/
def sPar (i j : Nat) (t : DA) : SE := fun δ m => (t δ m).st δ fun ds m1 => match ds with
  | [d, e] => .ok (.nx ((δ.set i (some d)).set j (some e))) m1
  | _ => .bad
theorem ds_par {i j : Nat} {x y : Str} {a b : Expr} {t : DA} {px py pt : Pos} {kt k2 pt2} (hc : X.calm = true) (hN : X.N.Nodup) (ha : PA X [a, b] (tA (gd X) W t)) (hi : X.N[i]? = some x := by rfl) (hj : X.N[j]? = some y := by rfl) (hij : i ≠ j := by decide)
    (hx : X.env.scope.names.lookup x = some .local := by rfl) (hy : X.env.scope.names.lookup y = some .local := by rfl)
    (hw : swappedStores [.Tuple [.Name x px, .Name y py] kt pt] (.Tuple [a, b] k2 pt2) X.env = pure (some [x, y]) := by rfl)
    (hs : swapsWithSole [.Tuple [.Name x px, .Name y py] kt pt] (.Tuple [a, b] k2 pt2) pos.line X.env = pure false := by rfl) :
    PS X (.Assign [.Tuple [.Name x px, .Name y py] kt pt] (.Tuple [a, b] k2 pt2) pos) (tS (gd X) W (sPar i j t)) :=
  PS.imp (ps_par hc hN hi hj hij hx hy ha hw hs) fun N σ H ⟨B, m, δ, S, L, h⟩ => ⟨B, m, δ, S, L, (WS.step h S L).mono fun ds m1 B1 H1 l1 _ ⟨_, S1, h1⟩ vs rvs => by
    match ds, h1, rvs with
    | [d, e], h1, rvs =>
      unfold RepL at rvs
      obtain ⟨u, ys, rfl, r1, r2⟩ := rvs
      unfold RepL at r2
      obtain ⟨u2, ys, rfl, r2, r3⟩ := r2
      unfold RepL at r3
      subst r3
      exact ⟨u, u2, rfl, h1 _ B1 H1 (Lift.refl _ _) S1 (((L.up S l1).set r1 i).set r2 j)⟩
    | [], h1, _ => exact h1.elim
    | [d], h1, _ => exact h1.elim
    | d :: e :: q :: r, h1, _ => exact h1.elim⟩

/-! ### while -/
def sWhile (c : DT) (b : SE) : Nat → SE
  | 0, _, _ => .bad
  | n + 1, δ, m => (c δ m).st δ fun t m1 => match t with
    | false => .ok (.nx δ) m1
    | true => match b δ m1 with
      | .ok (.nx δ2) m2 => sWhile c b n δ2 m2
      | .ok (.ct δ2) m2 => sWhile c b n δ2 m2
      | .ok (.bk δ2) m2 => .ok (.nx δ2) m2
      | r => r
theorem ds_while {c : Expr} {body : List Stmt} {tc : DT} {s : SE} (n : Nat) (hp : PassesOwn (model X.prog X.w) X.A X.env X.xe) (hc : PT X c (tT (gd X) W tc)) (hb : PSs X body (tS (gd X) W s)) : PS X (.While c body [] pos) (tS (gd X) W (sWhile tc s n)) :=
  PS.imp (ps_while hp hc hb) fun N σ H ⟨B, m, δ, S, L, h⟩ => by
    refine ⟨fun k σ' H' => ∃ B' m' δ', SRel (gd X) B' H' m' ∧ Sl (gd X) B' H' δ' σ' ∧ WS (gd X) W B' H' (sWhile tc s k δ' m') N, ⟨n, B, m, δ, S, L, h⟩, ?_⟩
    rintro k σ1 H1 ⟨B1, m1, δ1, S1, L1, h1⟩
    cases k with
    | zero => exact h1.elim
    | succ k =>
      refine ⟨B1, m1, δ1, S1, L1, (WS.step (k := fun t m1 => _) h1 S1 L1).mono fun t m2 B2 H2 l2 _ ⟨_, S2, h2⟩ => ?_⟩
      cases t with
      | false => rw [if_neg Bool.false_ne_true]; exact h2 _ B2 H2 (Lift.refl _ _) S2 (L1.up S1 l2)
      | true =>
        rw [if_pos rfl]
        refine ⟨fun σ' H' => ∃ B' m' δ', SRel (gd X) B' H' m' ∧ Sl (gd X) B' H' δ' σ' ∧ WS (gd X) W B' H' (sWhile tc s k δ' m') N, fun σ' H' z => ⟨k, Nat.lt_succ_self k, z⟩, B2, m2, δ1, S2, L1.up S1 l2, ?_⟩
        dsimp only at h2
        unfold WS
        cases q : s δ1 m2 with
        | ok o m3 =>
          rw [q] at h2
          cases o with
          | nx δ2 => exact fun σ' B' H' l' S' L' => ⟨B', m3, δ2, S', L', h2.up l'⟩
          | ct δ2 => exact fun σ' B' H' l' S' L' => ⟨B', m3, δ2, S', L', h2.up l'⟩
          | bk δ2 => exact h2
          | rt d => exact h2
          | ex x δ2 => exact h2
        | exc x m3 => rw [q] at h2; exact h2.elim
        | bad => rw [q] at h2; exact h2.elim

/-! ### for -/
/-- an iterator over the items ds, from (B, H) on -/
def Src (g : Gd) (B0 : Bx) (H0 : Hp) (J : It) (ds : List D) : Prop := ∀ B H m i, Lift0 B0 H0 B H → SRel g B H m → (∀ d, ds[i]? = some d → J.go i H ∧ ∀ x H', J.yld i H x H' → Lift B H B H' ∧ SRel g B H' m ∧ Rep g B H' d x) ∧ (i = ds.length → J.stop i H)
abbrev DI := Slots → Mem → Rs (List D)
def tI (g : Gd) (W : WX) (f : DI) : TI := fun σ H R => ∃ B m δ, SRel g B H m ∧ Sl g B H δ σ ∧ WP g (fun c d H' => W c d σ H') B H (f δ m) (fun ds m1 B' H' => ∀ J H'', Lift B' H' B' H'' → SRel g B' H'' m1 → Src g B' H'' J ds → R J H'')
theorem PI.imp {tg : Expr} {t t' : TI} (h : PI X tg e t) (i : ∀ σ H Q, t' σ H Q → t σ H Q) : PI X tg e t' := ⟨fun pins s σ H R I k => h.run pins s σ H R I (i σ H R k)⟩
def loopL (t : DG) (b : SE) : List D → SE
  | [], δ, m => .ok (.nx δ) m
  | d :: ds, δ, m => (t d δ m).st δ fun δ1 m1 => match b δ1 m1 with
    | .ok (.nx δ2) m2 => loopL t b ds δ2 m2
    | .ok (.ct δ2) m2 => loopL t b ds δ2 m2
    | .ok (.bk δ2) m2 => .ok (.nx δ2) m2
    | r => r
def sFor (f : DI) (t : DG) (b : SE) : SE := fun δ m => (f δ m).st δ fun ds m1 => loopL t b ds δ m1
theorem ds_for {tg iter : Expr} {body : List Stmt} {fi : DI} {t : DG} {s : SE} (hp : PassesOwn (model X.prog X.w) X.A X.env X.xe) (hc : X.calm = true) (hi : PI X tg iter (tI (gd X) W fi)) {is : List Nat} (hg : PG X tg (tG (gd X) is t)) (hx : NX t) (hb : PSs X body (tS (gd X) W s))
    (hs : ∀ x, foldedSetIterable iter X.env x = pure x := by intro _; rfl) : PS X (.For tg iter body [] pos) (tS (gd X) W (sFor fi t s)) :=
  PS.imp (ps_for hp hc hi hg hb hs) fun N σ H ⟨B, m, δ, S, L, h⟩ => by
    refine ⟨B, m, δ, S, L, (WS.step h S L).mono fun ds m1 B1 H1 l1 S1 ⟨_, _, h1⟩ J H1' l1' S1' src => ?_⟩
    refine ⟨fun i k σ' H' => ∃ B' m' δ', Lift B1 H1' B' H' ∧ SRel (gd X) B' H' m' ∧ Sl (gd X) B' H' δ' σ' ∧ i + k = ds.length ∧ WS (gd X) W B' H' (loopL t s (ds.drop i) δ' m') N,
      ⟨ds.length, B1, m1, δ, Lift.refl _ _, S1', (L.up S l1).up S1 l1', by omega, by rw [List.drop_zero]; exact h1.up l1'⟩, ?_⟩
    rintro i k σ2 H2 ⟨B2, m2, δ2, l2, S2, L2', hik, h2⟩
    obtain ⟨s1, s2⟩ := src B2 H2 m2 i l2.to0 S2
    by_cases q : i < ds.length
    · obtain ⟨g1, g2⟩ := s1 ds[i] (List.getElem?_eq_getElem q)
      refine .inr ⟨g1, fun σ' H' => ∃ B' m' δ', Lift B1 H1' B' H' ∧ SRel (gd X) B' H' m' ∧ Sl (gd X) B' H' δ' σ' ∧ WS (gd X) W B' H' (loopL t s (ds.drop (i + 1)) δ' m') N,
        fun σ' H' ⟨B', m', δ', a1, a2, a3, a4⟩ => ⟨k - 1, by omega, B', m', δ', a1, a2, a3, by omega, a4⟩, fun x H3 hy => ?_⟩
      obtain ⟨l3, S3, r3⟩ := g2 x H3 hy
      rw [List.drop_eq_getElem_cons q] at h2
      have h3 := WS.step (k := fun δ1 m1 => _) (h2.up l3) S3 (L2'.up S2 l3)
      refine ⟨B2, m2, δ2, ds[i], S3, L2'.up S2 l3, r3, ?_⟩
      cases e3 : t ds[i] δ2 m2 with
      | exc y my => exact absurd e3 (hx _ _ _ y my)
      | bad => rw [e3] at h3; exact h3.elim
      | ok δ4 m4 =>
        rw [e3] at h3
        intro B4 H4 l4 S4 σ4 L4 _
        obtain ⟨_, _, h4⟩ := h3 B4 H4 l4 S4
        refine ⟨B4, m4, δ4, S4, L4, ?_⟩
        unfold WS
        cases e4 : s δ4 m4 with
        | ok o m5 =>
          rw [e4] at h4
          cases o with
          | nx δ5 => exact fun σ' B' H' l' S' L' => ⟨B', m5, δ5, ((l2.trans l3).trans l4).trans l', S', L', h4.up l'⟩
          | ct δ5 => exact fun σ' B' H' l' S' L' => ⟨B', m5, δ5, ((l2.trans l3).trans l4).trans l', S', L', h4.up l'⟩
          | bk δ5 => exact h4
          | rt d => exact h4
          | ex x δ5 => exact h4
        | exc x m5 => rw [e4] at h4; exact h4.elim
        | bad => rw [e4] at h4; exact h4.elim
    · have hn : i = ds.length := by omega
      rw [List.drop_eq_nil_of_le (by omega)] at h2
      exact .inl ⟨s2 hn, h2 σ2 B2 H2 (Lift.refl _ _) S2 L2'⟩
end
end DL
namespace DL
open PySem L2

/-! ### what a for goes over -/
section
variable {g : Gd} {B0 : Bx} {H0 : Hp} {J : It} {G : Hp → Prop} {Y : Nat → Hp → V → Hp → Prop} {ds : List D} {n : Nat}
theorem src_of (w : Walk J n G Y) (hn : ds.length = n) (hG : ∀ B H m, Lift0 B0 H0 B H → SRel g B H m → G H)
    (hY : ∀ B H m i x H' d, Lift0 B0 H0 B H → SRel g B H m → ds[i]? = some d → Y i H x H' → Lift B H B H' ∧ SRel g B H' m ∧ Rep g B H' d x) : Src g B0 H0 J ds := by
  intro B H m i l S
  refine ⟨fun d hd => ?_, fun hi => ?_⟩
  · have hi : i < n := by rw [← hn]; exact (List.getElem?_eq_some_iff.mp hd).1
    exact ⟨w.goes i H hi (hG B H m l S), fun x H' hy => hY B H m i x H' d l S hd (w.yields i H x H' hi (hG B H m l S) hy)⟩
  · rw [hi, hn]
    exact w.stops H (hG B H m l S)
theorem src_list {a : Addr} {xs : List V} (nf : ∀ a, ¬ nb B0 a → ∀ o u, H0 a ≠ some (.frz o u)) (h : LsT g B0 H0 a xs) (r : RepL g B0 H0 ds xs) : Src g B0 H0 (Itl g.K a) ds :=
  src_of walk_list r.len (fun B H m l S => (l.lsT h).sq) fun B H m i x H' d l S hd ⟨e, hx⟩ => by
    subst e
    obtain ⟨v, h1, h2⟩ := (RepL.lift l nf ds r).get hd
    rw [hx] at h1
    injection h1 with h1
    exact ⟨Lift.refl _ _, S, h1 ▸ h2⟩
theorem src_tup {a : Addr} {xs : List V} (nf : ∀ a, ¬ nb B0 a → ∀ o u, H0 a ≠ some (.frz o u)) (h : SqT g.K H0 a xs) (r : RepL g B0 H0 ds xs) : Src g B0 H0 (Itt g.K a) ds :=
  src_of walk_tup r.len (fun B H m l S => l.sqT g (fun a ha o xs => nf a ha o _) h) fun B H m i x H' d l S hd ⟨e, hx⟩ => by
    subst e
    obtain ⟨v, h1, h2⟩ := (RepL.lift l nf ds r).get hd
    rw [hx] at h1
    injection h1 with h1
    exact ⟨Lift.refl _ _, S, h1 ▸ h2⟩
end
/-- a pair made anew -/
theorem rep_pair {g : Gd} {B : Bx} {H : Hp} {m : Mem} (S : SRel g B H m) {T : Addr} (hT : H T = none) {a b : D} {x y : V} (ra : Rep g B H a x) (rb : Rep g B H b y) :
    Lift B H B (upd H T (.tup [x, y])) ∧ SRel g B (upd H T (.tup [x, y])) m ∧ Rep g B (upd H T (.tup [x, y])) (.tup [a, b]) (.ref T) :=
  ⟨Lift.new hT, S.new hT, by unfold Rep; exact ⟨T, _, rfl, .of upd_same, RepL.cons (ra.up S (Lift.new hT)) (RepL.one (rb.up S (Lift.new hT)))⟩⟩

section
variable {X : Cx} {W : WX} {tg e : Expr} {f : DE} {pos : Pos}
/-- the items of a list or a tuple that stands still -/
def seqItems : D → Option (List D)
  | .tup ds => some ds
  | .lst ds => some ds
  | _ => none
def iSeqR (K : PySem.W.Frag) (tl : TE) : TI := fun σ H R => tl σ H fun x H1 => ∃ a, x = .ref a ∧ (((∃ xs, SqL K H1 a xs) ∧ R (Itl K a) H1) ∨ ((∃ xs, SqT K H1 a xs) ∧ R (Itt K a) H1))
theorem pi_seq {tl : TE} (hl : PE X e tl) : PI X tg e (iSeqR X.K tl) := by
  refine ⟨fun pins s σ H R I h => ?_⟩
  refine thn (hl.run pins s σ H _ I h) fun v s1 ⟨x, H1, I1, r1, q1⟩ => ?_
  obtain ⟨a, ee, ⟨⟨xs, hq⟩, q⟩ | ⟨⟨xs, hq⟩, q⟩⟩ := q1
  · subst ee
    cases r1
    obtain ⟨its, rv, p, hz⟩ := I1.list hq
    refine wpAny_pyIter_list p.isList ?_
    refine ⟨s1.heap.objs.size, [s1.heap.objs.size], _, _, H1, rfl, I1.kept (t' := s1.toks) fun b o e => Heap.get?_push_of_some _ e, turn_list a _, ⟨_, Heap.get?_push_size _ rfl, rfl, rfl⟩, fun b hb => ?_, q⟩
    have e : b = s1.heap.objs.size := by simpa using hb
    subst e
    exact I1.fpOk (Nat.le_refl _) (I1.hok.fresh (Nat.le_refl _))
  · subst ee
    cases r1
    obtain ⟨its, rv, p, hz⟩ := I1.tuple hq
    refine wpAny_pyIter_tuple (show s1.heap.IsTuple a its.toArray from p) ?_
    refine ⟨s1.heap.objs.size, [s1.heap.objs.size], _, _, H1, rfl, I1.kept (t' := s1.toks) fun b o e => Heap.get?_push_of_some _ e, turn_tuple a _, ⟨_, Heap.get?_push_size _ rfl, rfl, rfl⟩, fun b hb => ?_, q⟩
    have e : b = s1.heap.objs.size := by simpa using hb
    subst e
    exact I1.fpOk (Nat.le_refl _) (I1.hok.fresh (Nat.le_refl _))
def iSeq (f : DE) : DI := fun δ m => (f δ m).bind fun d m1 => lf (seqItems d) m1
theorem di_seq (h : PE X e (tE (gd X) W f)) : PI X tg e (tI (gd X) W (iSeq f)) :=
  PI.imp (pi_seq h) fun σ H R ⟨B, m, δ, S, L, k⟩ => ⟨B, m, δ, S, L, (WP.step k).mono fun d m1 B1 H1 l1 _ ⟨_, S1, h1⟩ v rv => by
    obtain ⟨ds, e1, k1⟩ := h1.lf
    have k2 := k1 B1 H1 (Lift.refl _ _) S1
    cases d <;> first | (cases e1; done) | skip
    · simp only [seqItems, Option.some.injEq] at e1
      subst e1
      unfold Rep at rv
      obtain ⟨a, xs, rfl, hs, hl⟩ := rv
      exact ⟨a, rfl, .inr ⟨⟨xs, hs⟩, k2 _ H1 (Lift.refl _ _) S1 (src_tup S1.nofrz hs hl)⟩⟩
    · simp only [seqItems, Option.some.injEq] at e1
      subst e1
      unfold Rep at rv
      obtain ⟨a, xs, rfl, hs, hl⟩ := rv
      exact ⟨a, rfl, .inl ⟨⟨xs, hs.sq⟩, k2 _ H1 (Lift.refl _ _) S1 (src_list S1.nofrz hs hl)⟩⟩⟩
/-- the signs of a text -/
def signs (s : Str) : List D := s.cps.toList.map fun c => .str ⟨#[c]⟩
def iStr (f : DE) : DI := fun δ m => (f δ m).bind fun d m1 => match d with
  | .str s => .ok (signs s) m1
  | _ => .bad
theorem di_str (h : PE X e (tE (gd X) W f)) : PI X tg e (tI (gd X) W (iStr f)) :=
  PI.imp (pi_str h) fun σ H R ⟨B, m, δ, S, L, k⟩ => ⟨B, m, δ, S, L, (WP.step k).mono fun d m1 B1 H1 l1 _ ⟨_, S1, h1⟩ v rv => by
    match d, h1, rv with
    | .str s, h1, rv =>
    unfold Rep at rv
    subst rv
    refine ⟨s, rfl, h1 B1 H1 (Lift.refl _ _) S1 _ H1 (Lift.refl _ _) S1 (src_of walk_str (by simp [signs]) (fun _ _ _ _ _ => trivial) fun B H m i x H' d l S hd ⟨e, c, hc, hx⟩ => ?_)⟩
    subst e hx
    refine ⟨Lift.refl _ _, S, ?_⟩
    have hc' : s.cps.toList[i]? = some c := by rw [Array.getElem?_toList]; exact hc
    unfold signs at hd
    rw [List.getElem?_map, hc'] at hd
    simp only [Option.map_some, Option.some.injEq] at hd
    subst hd
    unfold Rep
    rfl⟩
/-- range(a, b) -/
def rangeItems (lo hi : Int) : Option (List D) := if -(2 ^ 62) ≤ lo ∧ lo < 2 ^ 62 ∧ -(2 ^ 62) ≤ hi ∧ hi < 2 ^ 62 then some ((List.range (hi - lo).toNat).map fun i => .int (lo + (i : Nat))) else none
def iRange (t : DA) : DI := fun δ m => (t δ m).bind fun ds m1 => match ds with
  | [.int j] => lf (rangeItems 0 j) m1
  | [.int i, .int j] => lf (rangeItems i j) m1
  | _ => .bad
theorem src_range {g : Gd} {B0 : Bx} {H0 : Hp} (lo : Int) (n : Nat) : Src g B0 H0 (Itr lo n) ((List.range n).map fun i => .int (lo + (i : Nat))) :=
  src_of walk_range (by simp) (fun _ _ _ _ _ => trivial) fun B H m i x H' d l S hd ⟨e, hx⟩ => by
    subst e hx
    refine ⟨Lift.refl _ _, S, ?_⟩
    rw [List.getElem?_map] at hd
    cases q : (List.range n)[i]? with
    | none => rw [q] at hd; cases hd
    | some j =>
      have hj : i = j := by
        have := List.getElem?_eq_some_iff.mp q
        obtain ⟨_, e⟩ := this
        simpa using e
      rw [q] at hd
      simp only [Option.map_some, Option.some.injEq] at hd
      subst hd hj
      unfold Rep
      rfl
theorem di_range1 {a : Expr} {t : DA} {p : Pos} (hg : Gl X "range") (hm : X.mg "range" = none) (ha : PA X [a] (tA (gd X) W t)) (al : AL 1 t) (hs : starEach [a] X.env = [(false, eval a X.env)] := by rfl) : PI X tg (.Call (.Name "range" p) [a] [] pos) (tI (gd X) W (iRange t)) :=
  PI.imp (pi_range1 hg hm ha hs) fun σ H R ⟨B, m, δ, S, L, k⟩ => ⟨B, m, δ, S, L, WP.al al (WP.step k) fun ds m1 B1 H1 hl l1 _ ⟨_, S1, h1⟩ vs rvs => by
    match ds, hl, h1, rvs with
    | [d], _, h1, rvs =>
      match d, h1, rvs with
      | .int j, h1, rvs =>
      obtain ⟨ds, e1, k1⟩ := h1.lf
      have k2 := k1 B1 H1 (Lift.refl _ _) S1
      unfold rangeItems at e1
      split at e1
      · rename_i c
        injection e1 with e1
        subst e1
        unfold RepL at rvs
        obtain ⟨y, ys, rfl, r1, r2⟩ := rvs
        unfold RepL at r2
        unfold Rep at r1
        subst r1 r2
        refine ⟨j, rfl, c.2.2.1, c.2.2.2, k2 _ H1 (Lift.refl _ _) S1 ?_⟩
        have := src_range (g := gd X) (B0 := B1) (H0 := H1) 0 (j - 0).toNat
        rw [Int.sub_zero] at *
        exact this
      · cases e1⟩
theorem di_range2 {a b : Expr} {t : DA} {p : Pos} (hg : Gl X "range") (hm : X.mg "range" = none) (ha : PA X [a, b] (tA (gd X) W t)) (al : AL 2 t) (hs : starEach [a, b] X.env = [(false, eval a X.env), (false, eval b X.env)] := by rfl) (hs2 : starEach [b] X.env = [(false, eval b X.env)] := by rfl) :
    PI X tg (.Call (.Name "range" p) [a, b] [] pos) (tI (gd X) W (iRange t)) :=
  PI.imp (pi_range2 hg hm ha hs hs2) fun σ H R ⟨B, m, δ, S, L, k⟩ => ⟨B, m, δ, S, L, WP.al al (WP.step k) fun ds m1 B1 H1 hl l1 _ ⟨_, S1, h1⟩ vs rvs => by
    match ds, hl, h1, rvs with
    | [d, d2], _, h1, rvs =>
      match d, d2, h1, rvs with
      | .int i, .int j, h1, rvs =>
      obtain ⟨ds, e1, k1⟩ := h1.lf
      have k2 := k1 B1 H1 (Lift.refl _ _) S1
      unfold rangeItems at e1
      split at e1
      · rename_i c
        injection e1 with e1
        subst e1
        unfold RepL at rvs
        obtain ⟨y, ys, rfl, r1, r2⟩ := rvs
        unfold RepL at r2
        obtain ⟨y2, ys, rfl, r2, r3⟩ := r2
        unfold RepL at r3
        unfold Rep at r1 r2
        subst r1 r2 r3
        exact ⟨i, j, rfl, c, k2 _ H1 (Lift.refl _ _) S1 (src_range i _)⟩
      · cases e1⟩
/-- zip of two lists or two tuples -/
def zipItems (a b : List D) : List D := List.zipWith (fun x y => .tup [x, y]) a b
def iZip (t : DA) : DI := fun δ m => (t δ m).bind fun ds m1 => match ds with
  | [.lst a, .lst b] => .ok (zipItems a b) m1
  | [.tup a, .tup b] => .ok (zipItems a b) m1
  | _ => .bad
theorem zip_get {a b : List D} {i : Nat} {d : D} (h : (zipItems a b)[i]? = some d) : ∃ x y, a[i]? = some x ∧ b[i]? = some y ∧ d = .tup [x, y] := by
  unfold zipItems at h
  rw [List.getElem?_zipWith] at h
  cases e1 : a[i]? with
  | none => rw [e1] at h; cases h
  | some x =>
    cases e2 : b[i]? with
    | none => rw [e1, e2] at h; cases h
    | some y =>
      rw [e1, e2] at h
      exact ⟨x, y, rfl, rfl, (Option.some.inj h).symm⟩
theorem repL2 {g : Gd} {B : Bx} {H : Hp} {a b : D} {vs : List V} (h : RepL g B H [a, b] vs) : ∃ x y, vs = [x, y] ∧ Rep g B H a x ∧ Rep g B H b y := by
  unfold RepL at h
  obtain ⟨y, ys, rfl, r1, r2⟩ := h
  unfold RepL at r2
  obtain ⟨y2, ys, rfl, r2, r3⟩ := r2
  unfold RepL at r3
  subst r3
  exact ⟨y, y2, rfl, r1, r2⟩
theorem repL1 {g : Gd} {B : Bx} {H : Hp} {a : D} {vs : List V} (h : RepL g B H [a] vs) : ∃ x, vs = [x] ∧ Rep g B H a x := by
  unfold RepL at h
  obtain ⟨y, ys, rfl, r1, r2⟩ := h
  unfold RepL at r2
  subst r2
  exact ⟨y, rfl, r1⟩
theorem RZ.walk_zipT {K : PySem.W.Frag} {a b : Addr} {xs ys : List V} {n : Nat} (hn : n = min xs.length ys.length) : Walk (RZ.ItzT K a b) n (fun H => SqT K H a xs ∧ SqT K H b ys) (YPair (fun i => xs[i]?) (fun i => ys[i]?)) where
  goes := fun i H hi ⟨h1, h2⟩ => ⟨xs, ys, xs[i]'(by omega), ys[i]'(by omega), h1, h2, List.getElem?_eq_getElem _, List.getElem?_eq_getElem _⟩
  stops := fun H ⟨h1, h2⟩ => ⟨xs, ys, h1, h2, by omega⟩
  yields := fun i H x H' hi ⟨h1, h2⟩ ⟨T, x1, y1, a1, a2, a3, a4, a5⟩ => ⟨T, x1, y1, a1, a2, a3, a4 xs h1, a5 ys h2⟩
theorem di_zip {e2 : Expr} {t : DA} {p tpos : Pos} {elts : List Expr} {kk : Nat} (hg : Gl X "zip") (hm : X.mg "zip" = none) (ha : PA X [e, e2] (tA (gd X) W t)) (al : AL 2 t)
    (hs : starEach [e, e2] X.env = (false, eval e X.env) :: starEach [e2] X.env := by rfl) (hpl : (backTo pos (starEach [e2] X.env)).any (·.1) = false := by rfl) :
    PI X (.Tuple elts kk tpos) (.Call (.Name "zip" p) [e, e2] [] pos) (tI (gd X) W (iZip t)) :=
  PI.imp (RZ.pi_zipA hg hm ha hs hpl) fun σ H R ⟨B, m, δ, S, L, k⟩ => ⟨B, m, δ, S, L, WP.al al (WP.step k) fun ds m1 B1 H1 hl l1 _ ⟨_, S1, h1⟩ vs rvs => by
    match ds, hl, h1, rvs with
    | [d, d2], _, h1, rvs =>
      obtain ⟨x, y, rfl, r1, r2⟩ := repL2 rvs
      match d, d2, h1, r1, r2 with
      | .tup da, .tup db, h1, r1, r2 =>
        have k2 := h1 B1 H1 (Lift.refl _ _) S1
        unfold Rep at r1 r2
        obtain ⟨a, xs, rfl, hs1, hl1⟩ := r1
        obtain ⟨b, ys, rfl, hs2, hl2⟩ := r2
        refine ⟨a, b, xs, ys, rfl, .inr ⟨hs1, hs2, k2 _ H1 (Lift.refl _ _) S1 (src_of (RZ.walk_zipT rfl) (by simp [zipItems, hl1.len, hl2.len]) (fun B H m l S => ⟨l.sqT _ (fun a ha o xs => S1.nofrz a ha o _) hs1, l.sqT _ (fun a ha o xs => S1.nofrz a ha o _) hs2⟩) ?_)⟩⟩
        intro B H m i x H' d l S hd ⟨T, x1, y1, e1, e2, e3, e4, e5⟩
        subst e1 e3
        obtain ⟨dx, dy, g1, g2, rfl⟩ := zip_get hd
        obtain ⟨v1, q1, p1⟩ := (RepL.lift l S1.nofrz _ hl1).get g1
        obtain ⟨v2, q2, p2⟩ := (RepL.lift l S1.nofrz _ hl2).get g2
        obtain rfl : v1 = x1 := Option.some.inj (q1.symm.trans e4)
        obtain rfl : v2 = y1 := Option.some.inj (q2.symm.trans e5)
        exact rep_pair S e2 p1 p2
      | .lst da, .lst db, h1, r1, r2 =>
        have k2 := h1 B1 H1 (Lift.refl _ _) S1
        unfold Rep at r1 r2
        obtain ⟨a, xs, rfl, hs1, hl1⟩ := r1
        obtain ⟨b, ys, rfl, hs2, hl2⟩ := r2
        refine ⟨a, b, xs, ys, rfl, .inl ⟨hs1.sq, hs2.sq, k2 _ H1 (Lift.refl _ _) S1 (src_of (walk_zip rfl) (by simp [zipItems, hl1.len, hl2.len]) (fun B H m l S => ⟨(l.lsT hs1).sq, (l.lsT hs2).sq⟩) ?_)⟩⟩
        intro B H m i x H' d l S hd ⟨T, x1, y1, e1, e2, e3, e4, e5⟩
        subst e1 e3
        obtain ⟨dx, dy, g1, g2, rfl⟩ := zip_get hd
        obtain ⟨v1, q1, p1⟩ := (RepL.lift l S1.nofrz _ hl1).get g1
        obtain ⟨v2, q2, p2⟩ := (RepL.lift l S1.nofrz _ hl2).get g2
        obtain rfl : v1 = x1 := Option.some.inj (q1.symm.trans e4)
        obtain rfl : v2 = y1 := Option.some.inj (q2.symm.trans e5)
        exact rep_pair S e2 p1 p2⟩
/-- enumerate of a list -/
def enumItems (ds : List D) : List D := ds.mapIdx fun i d => .tup [.int (i : Nat), d]
theorem enum_get {ds : List D} {i : Nat} {d : D} (h : (enumItems ds)[i]? = some d) : ∃ x, ds[i]? = some x ∧ d = .tup [.int (i : Nat), x] := by
  unfold enumItems at h
  rw [List.getElem?_mapIdx] at h
  cases e : ds[i]? with
  | none => rw [e] at h; cases h
  | some x => rw [e] at h; exact ⟨x, rfl, (Option.some.inj h).symm⟩
/-- d.items() of a dict that nobody changes: the dict is locked from then on -/
theorem pi_itemsF {td : TE} {elts : List Expr} {kk : Nat} {apos cpos tpos : Pos} (he : PE X e td) (hbase : attributeBase e "items" X.env (eval e X.env) = eval e X.env := by rfl) (hline : (apos.endLine == cpos.line) = true := by rfl) :
    PI X (.Tuple elts kk tpos) (.Call (.Attribute e "items" apos) [] [] cpos) (fun σ H R => td σ H fun x H1 => ∃ d kvs, x = .ref d ∧ Rd H1 d (.dK kvs) ∧ ∀ o H2, (H2 = H1 ∧ H1 d = some (.frz o (.dK kvs)) ∨ H1 d = some (.dK kvs) ∧ H2 = upd H1 d (.frz o (.dK kvs))) → R (Iti d o kvs) H2) := by
  refine ⟨fun pins s σ H R I h => ?_⟩
  refine wpAny_Call_method (T := "dict") (id := "dict.items") hbase rfl hline F.plainAttrs_dict F.slot_dict_items F.type_dict_items (thn (he.run pins s σ H _ I h) fun u s1 ⟨x, H1, I1, rx, d, kvs, ex, hr, q⟩ => ?_)
  subst ex
  obtain rfl : u = Value.ref d := rx
  obtain ⟨o, H2, I2, hd, hq⟩ : ∃ o H2, Inv X pins σ H2 s1 ∧ H2 d = some (.frz o (.dK kvs)) ∧ R (Iti d o kvs) H2 := by
    rcases hr with hr | ⟨o, hr⟩
    · obtain ⟨od, I2⟩ := I1.lock hr trivial
      exact ⟨od, _, I2, upd_same, q od _ (.inr ⟨hr, rfl⟩)⟩
    · exact ⟨o, H1, I1, hr, q o H1 (.inl ⟨rfl, hr⟩)⟩
  obtain ⟨hs, hgd, hx, es, ep, vs, hdt, hsz, kv, hm⟩ := I2.frzK hd
  have hl : kvs.length = vs.length := Paired.length kv
  refine ⟨hm.dictOf.typeIs, hm.dictOf.mapOf.noDict, ?_⟩
  have I3 : Inv X pins σ H2 { s1 with heap := s1.heap.push { cls := .type "dict_items", data := .fields #[.ref d] } } := I2.kept (t' := s1.toks) fun b ob q => Heap.get?_push_of_some _ q
  have fin : wpAny (model X.prog X.w) X.A (pyIter (.ref s1.heap.objs.size)) (PIE X pins σ (.Tuple elts kk tpos) R) X.xe { s1 with heap := s1.heap.push { cls := .type "dict_items", data := .fields #[.ref d] } } := by
    refine wpAny_pyIter_items (d := d) (knd := mixKind X.prog X.w) ⟨_, Heap.get?_push_size _ rfl, rfl, rfl⟩ (hm.push _) (pi_one (tk := s1.toks) I3 _ (turn_items _ hdt) ⟨.none, .none, ?_⟩ hq)
    rw [hl]
    exact Heap.get?_push_size _ rfl
  show wpAny _ _ (callWith cpos (.builtin "dict.items") [.ref d] [] []) _ X.xe s1
  exact method_meetsIn F.slot_dict_items F.entry_dict_items rfl (PySem.evalArgs_none ⟨rfl, hm.dictOf.typeIs, F.args_dict_items_1 _, _, meets_dict_items (mixKind X.prog X.w) d hs, ⟨vs, hm.dictOf⟩, fin⟩)
/-- a key as data -/
def kD : Key → D
  | .inl i => .int i
  | .inr x => .str x
theorem rep_kD {g : Gd} {B : Bx} {H : Hp} (k : Key) : Rep g B H (kD k) (kV k) := by
  cases k <;> unfold kD kV Rep <;> rfl
theorem RepK.len {g : Gd} {B : Bx} {H : Hp} : ∀ {ds : List (Key × D)} {vs : List (Key × V)}, RepK g B H ds vs → ds.length = vs.length
  | [], vs, h => by unfold RepK at h; subst h; rfl
  | (k, d) :: ds, vs, h => by
    unfold RepK at h
    obtain ⟨y, ys, rfl, h1, h2⟩ := h
    simp [RepK.len h2]
theorem RepK.get {g : Gd} {B : Bx} {H : Hp} : ∀ {ds : List (Key × D)} {vs : List (Key × V)} {i : Nat} {k : Key} {d : D}, RepK g B H ds vs → ds[i]? = some (k, d) → ∃ v, vs[i]? = some (k, v) ∧ Rep g B H d v
  | [], vs, i, k, d, h, e => by simp at e
  | (k', x) :: ds, vs, i, k, d, h, e => by
    unfold RepK at h
    obtain ⟨y, ys, rfl, h1, h2⟩ := h
    cases i with
    | zero => simp at e; obtain ⟨rfl, rfl⟩ := e; exact ⟨y, rfl, h1⟩
    | succ i =>
      obtain ⟨v, h3, h4⟩ := RepK.get (ds := ds) (vs := ys) (i := i) (k := k) (d := d) h2 (by simpa using e)
      exact ⟨v, by simpa using h3, h4⟩
def iItems (f : DE) : DI := fun δ m => (f δ m).bind fun d m1 => match d with
  | .dct kvs => .ok (kvs.map fun kv => .tup [kD kv.1, kv.2]) m1
  | _ => .bad
theorem Lift.lock {B : Bx} {H : Hp} {d : Addr} {o : Obj} {kvs : List (Key × V)} (h : H d = some (.dK kvs)) : Lift B H B (upd H d (.frz o (.dK kvs))) where
  pre := ⟨[], by simp, by simp⟩
  hid := rfl
  trk := fun x w e => by
    by_cases q : x = d
    · exact ⟨_, by rw [q]; exact upd_same⟩
    · exact ⟨w, by rw [upd_ne q]; exact e⟩
  same := fun x w e hx => by
    by_cases q : x = d
    · subst q
      rw [h] at e
      injection e with e
      subst e
      exact ⟨_, upd_same, .inr ⟨kvs, o, rfl, rfl⟩⟩
    · exact ⟨w, by rw [upd_ne q]; exact e, .refl _⟩
theorem SRel.lock {g : Gd} {B : Bx} {H : Hp} {m : Mem} (S : SRel g B H m) {d : Addr} {o : Obj} {kvs : List (Key × V)} (h : H d = some (.dK kvs)) (hn : nb B d) : SRel g B (upd H d (.frz o (.dK kvs))) m :=
  S.same (Lift.lock h) (fun a ha => upd_ne (fun e => hn.1 (e ▸ ha))) fun a ha => upd_ne (fun e => hn.2 (e ▸ ha))
theorem di_items {elts : List Expr} {kk : Nat} {apos cpos tpos : Pos} (he : PE X e (tE (gd X) W f)) (hbase : attributeBase e "items" X.env (eval e X.env) = eval e X.env := by rfl) (hline : (apos.endLine == cpos.line) = true := by rfl) :
    PI X (.Tuple elts kk tpos) (.Call (.Attribute e "items" apos) [] [] cpos) (tI (gd X) W (iItems f)) :=
  PI.imp (pi_itemsF he hbase hline) fun σ H R ⟨B, m, δ, S, L, k⟩ => ⟨B, m, δ, S, L, (WP.step k).mono fun d m1 B1 H1 l1 _ ⟨_, S1, h1⟩ v rv => by
    match d, h1, rv with
    | .dct kvs, h1, rv =>
    unfold Rep at rv
    obtain ⟨a, ys, rfl, hn, hr, hk⟩ := rv
    refine ⟨a, ys, rfl, hr, fun o H2 hc => ?_⟩
    have lS : Lift B1 H1 B1 H2 ∧ SRel (gd X) B1 H2 m1 ∧ H2 a = some (.frz o (.dK ys)) := by
      rcases hc with ⟨e, h⟩ | ⟨h, e⟩
      · subst e
        exact ⟨Lift.refl _ _, S1, h⟩
      · subst e
        exact ⟨Lift.lock h, S1.lock h hn, upd_same⟩
    obtain ⟨l2, S2, h2⟩ := lS
    have hk2 := hk.up S1 l2
    refine h1 B1 H1 (Lift.refl _ _) S1 _ H2 l2 S2 (src_of walk_items (by simp [hk.len]) (fun B H m l S => ?_) ?_)
    · obtain ⟨o', e', u'⟩ := l.same a _ h2 fun q => absurd hn q
      rw [e', kp_ne u' (fun _ => nofun)]
    · intro B H m i x H' d l S hd ⟨T, x1, y1, e1, e2, e3, e4, e5⟩
      subst e1 e3
      rw [List.getElem?_map] at hd
      cases q : kvs[i]? with
      | none => rw [q] at hd; cases hd
      | some kv =>
        obtain ⟨k0, d0⟩ := kv
        rw [q] at hd
        obtain rfl : D.tup [kD k0, d0] = d := Option.some.inj hd
        obtain ⟨v0, q1, p1⟩ := (RepK.lift l S2.nofrz _ hk2).get q
        simp only [q1, Option.map_some, Option.some.injEq] at e4 e5
        subst e4 e5
        exact rep_pair S e2 (rep_kD k0) p1⟩
end
end DL
namespace DL
open PySem L2

/-- raises nothing -/
def Rs.only {α : Type} (r : Rs α) : Rs α := match r with
  | .exc _ _ => .bad
  | r => r
@[simp] theorem only_ok {α : Type} (a : α) (m : Mem) : (Rs.ok a m).only = .ok a m := rfl
@[simp] theorem only_exc {α : Type} (e : Exn) (m : Mem) : (Rs.exc e m : Rs α).only = .bad := rfl
@[simp] theorem only_bad {α : Type} : (Rs.bad : Rs α).only = .bad := rfl
theorem WP.only {g : Gd} {E E' : XK} {B : Bx} {H : Hp} {α : Type} {r : Rs α} {Q : α → Mem → Bx → Hp → Prop} (h : WP g E B H r.only Q) : WP g E' B H r Q := by
  cases r with
  | ok a m => exact h
  | exc e m => exact h.elim
  | bad => exact h
def compL (t : DG) (c : DT) (e : DE) (δ : Slots) : List D → Mem → Rs (List D)
  | [], m => .ok [] m
  | d :: ds, m => (t d δ m).only.bind fun δ1 m1 => (c δ1 m1).only.bind fun b m2 => match b with
    | true => (e δ1 m2).only.bind fun x m3 => (compL t c e δ ds m3).bind fun xs m4 => .ok (x :: xs) m4
    | false => compL t c e δ ds m2
/-- the end of a comprehension: a list that nobody changes any more, or one that will be changed -/
def endC (bx : Bool) (xs : List D) (m : Mem) : Rs D := match bx with
  | false => .ok (.lst xs) m
  | true => .ok (.box m.length) (m ++ [.lst xs])
def eCompG (bx : Bool) (fi : DI) (vs : List Nat) (t : DG) (c : DT) (e : DE) : DE := fun δ m => (fi δ m).bind fun ds m1 => (lf (if ds.length < sizeLine then some () else none) m1).bind fun _ m2 => (compL t c e (wipeD δ vs) ds m2).bind fun xs m3 => endC bx xs m3
abbrev eComp (fi : DI) (vs : List Nat) (t : DG) (c : DT) (e : DE) : DE := eCompG false fi vs t c e
def cYes : DT := fun _ m => .ok true m
abbrev W0 : WX := fun _ _ _ _ => False
theorem dts_nil {X : Cx} : PTs X [] (tT (gd X) W0 cYes) := ⟨fun pins s σ H Q I ⟨B, m, δ, S, L, h⟩ => pts_nil.run pins s σ H Q I (h B H (Lift.refl _ _) S)⟩
theorem dts_one {X : Cx} {c : Expr} {t : DT} (h : PT X c (tT (gd X) W0 t)) : PTs X [c] (tT (gd X) W0 t) := pts_one h

section
variable {g : Gd} {B B' B1 B2 B3 : Bx} {H H' H1 H2 : Hp} {m : Mem} {Z : Addr}
theorem wipe_get (σ : St) : ∀ (vs : List Nat) (j : Nat), (wipe σ vs)[j]? = if j ∈ vs ∧ j < σ.length then some none else σ[j]?
  | [], j => by simp [wipe]
  | v :: vs, j => by
    unfold wipe
    by_cases q : v = j
    · subst q
      by_cases hl : v < σ.length
      · rw [List.getElem?_set_self (by rw [wipe_length]; exact hl), if_pos ⟨List.mem_cons_self, hl⟩]
      · rw [if_neg (fun z => hl z.2), List.getElem?_eq_none (by rw [List.length_set, wipe_length]; omega), List.getElem?_eq_none (by omega)]
    · rw [List.getElem?_set_ne q, wipe_get σ vs j]
      have : (j ∈ v :: vs ∧ j < σ.length) ↔ (j ∈ vs ∧ j < σ.length) := by
        constructor
        · rintro ⟨a, b⟩
          rcases List.mem_cons.mp a with e | e
          · exact absurd e.symm q
          · exact ⟨e, b⟩
        · rintro ⟨a, b⟩
          exact ⟨List.mem_cons_of_mem _ a, b⟩
      simp only [this]
theorem wipe_touch {σ σ' : St} {is vs : List Nat} (hs : ∀ j ∈ is, j ∈ vs) (h : Touch is (wipe σ vs) σ') : wipe σ' vs = wipe σ vs := by
  refine List.ext_getElem? fun j => ?_
  have hl : σ'.length = σ.length := h.1.trans (wipe_length σ vs)
  rw [wipe_get, wipe_get, hl]
  by_cases q : j ∈ vs ∧ j < σ.length
  · rw [if_pos q, if_pos q]
  · rw [if_neg q, if_neg q]
    by_cases q2 : j ∈ is
    · have : ¬ j < σ.length := fun z => q ⟨hs j q2, z⟩
      rw [List.getElem?_eq_none (by omega), List.getElem?_eq_none (by omega)]
    · rw [h.2 j q2, wipe_get, if_neg q]
theorem Lift0.hide (h : H Z = none) (o : HO) : Lift0 B H (B.hide Z) (upd H Z o) where
  pre := ⟨[], by simp [Bx.hide], by simp⟩
  hid := fun a ha => by
    rcases List.mem_cons.mp ha with q | q
    · exact .inr (q ▸ h)
    · exact .inl q
  trk := fun a u e => ⟨u, by rw [upd_ne (ne_of_none e h)]; exact e⟩
  same := fun a u e _ => ⟨u, by rw [upd_ne (ne_of_none e h)]; exact e, .refl _⟩
theorem Lift0.unhide : Lift0 (B.hide Z) H B H where
  pre := ⟨[], by simp [Bx.hide], by simp⟩
  hid := fun a ha => .inl (List.mem_cons_of_mem _ ha)
  trk := fun a u e => ⟨u, e⟩
  same := fun a u e _ => ⟨u, e, .refl _⟩
/-- what is hidden is written -/
theorem Lift0.poke {o : HO} (hD : Z ∈ B.z) {u : HO} (hu : H Z = some u) (ht : isTup u = false) : Lift0 B H B (upd H Z o) where
  pre := ⟨[], by simp, by simp⟩
  hid := fun a ha => .inl ha
  trk := fun a w e => by
    by_cases q : a = Z
    · exact ⟨o, by rw [q]; exact upd_same⟩
    · exact ⟨w, by rw [upd_ne q]; exact e⟩
  same := fun a w e hx => by
    by_cases q : a = Z
    · subst q
      rw [hu] at e
      injection e with e
      have := hx fun z => z.2 hD
      rw [← e, ht] at this
      cases this
    · exact ⟨w, by rw [upd_ne q]; exact e, .refl _⟩
/-- boxes' contents lift along Lift0 -/
theorem boxAt_lift (l : Lift0 B H B' H') (nf : ∀ a, ¬ nb B a → ∀ o u, H a ≠ some (HO.frz o u)) {a : Addr} {d : D} (e : H' a = H a) (h : BoxAt g B H a d) : BoxAt g B' H' a d := by
  cases d <;> unfold BoxAt at * <;> first | exact h | skip
  · obtain ⟨xs, h1, h2⟩ := h; exact ⟨xs, by rw [e]; exact h1, RepL.lift l nf _ h2⟩
  · obtain ⟨xs, h1, h2⟩ := h; exact ⟨xs, by rw [e]; exact h1, RepK.lift l nf _ h2⟩
  · obtain ⟨dx, xs, h1, h2⟩ := h; exact ⟨dx, xs, by rw [e]; exact h1, RepF.lift l nf _ h2⟩
  · rw [e]; exact h
theorem SRel.hide (S : SRel g B H m) (h : H Z = none) {xs : List V} : SRel g (B.hide Z) (upd H Z (.lst xs)) m where
  len := S.len
  nd := S.nd
  at_ := fun n a d h1 h2 => by
    obtain ⟨u, eu, _⟩ := S.mem (List.mem_of_getElem? h1)
    exact boxAt_lift (Lift0.hide h _) S.nofrz (upd_ne (ne_of_none eu h)) (S.at_ n a d h1 h2)
  dj := fun a ha hz => by
    rcases List.mem_cons.mp hz with q | q
    · exact (S.fresh h).1 (q ▸ ha)
    · exact S.dj a ha q
  zt := fun a ha => by
    rcases List.mem_cons.mp ha with q | q
    · subst q
      exact ⟨_, upd_same, rfl, fun _ _ => nofun⟩
    · obtain ⟨u, e, k⟩ := S.zt a q
      exact ⟨u, by rw [upd_ne (ne_of_none e h)]; exact e, k⟩
theorem SRel.unhide (S : SRel g (B.hide Z) H m) : SRel g B H m where
  len := S.len
  nd := S.nd
  at_ := fun n a d h1 h2 => boxAt_lift Lift0.unhide S.nofrz rfl (S.at_ n a d h1 h2)
  dj := fun a ha hz => S.dj a ha (List.mem_cons_of_mem _ hz)
  zt := fun a ha => S.zt a (List.mem_cons_of_mem _ ha)
theorem SRel.poke (S : SRel g (B.hide Z) H m) {u : HO} (hu : H Z = some u) (ht : isTup u = false) {xs : List V} : SRel g (B.hide Z) (upd H Z (.lst xs)) m where
  len := S.len
  nd := S.nd
  at_ := fun n a d h1 h2 => boxAt_lift (Lift0.poke List.mem_cons_self hu ht) S.nofrz (upd_ne fun e => S.dj a (List.mem_of_getElem? h1) (by rw [e]; exact List.mem_cons_self)) (S.at_ n a d h1 h2)
  dj := S.dj
  zt := fun a ha => by
    by_cases q : a = Z
    · rw [q]; exact ⟨_, upd_same, rfl, fun _ _ => nofun⟩
    · obtain ⟨w, e, k⟩ := S.zt a ha
      exact ⟨w, by rw [upd_ne q]; exact e, k⟩
theorem Sl.lift {δ : Slots} {σ : St} (L : Sl g B H δ σ) (l : Lift0 B H B' H') (nf : ∀ a, ¬ nb B a → ∀ o u, H a ≠ some (.frz o u)) : Sl g B' H' δ σ where
  len := L.len
  at_ := fun i d h => by
    obtain ⟨v, h1, h2⟩ := L.at_ i d h
    exact ⟨v, h1, Rep.lift l nf d h2⟩
theorem Lift.ofHide (l : Lift (B.hide Z) H B' H') : Lift B H ⟨B'.b, B.z⟩ H' where
  pre := l.pre
  hid := rfl
  trk := l.trk
  same := l.same
theorem Bx.eta_hide (h : B'.z = (B.hide Z).z) : B' = Bx.hide ⟨B'.b, B.z⟩ Z := by
  cases B'
  simp only [Bx.hide] at *
  rw [h]
theorem Lift.poke (l : Lift B H B' H') (h : H Z = none) {o : HO} : Lift B H B' (upd H' Z o) where
  pre := l.pre
  hid := l.hid
  trk := fun a w e => by
    obtain ⟨w', e'⟩ := l.trk a w e
    exact ⟨w', by rw [upd_ne (ne_of_none e h)]; exact e'⟩
  same := fun a w e hx => by
    obtain ⟨w', e', k⟩ := l.same a w e hx
    exact ⟨w', by rw [upd_ne (ne_of_none e h)]; exact e', k⟩
theorem Lift0.toHide (l : Lift0 B H B' H') (h : H Z = none) : Lift0 B H (B'.hide Z) H' where
  pre := l.pre
  hid := fun a ha => by
    rcases List.mem_cons.mp ha with q | q
    · exact .inr (q ▸ h)
    · exact l.hid a q
  trk := l.trk
  same := l.same
mutual
/-- more boxes, as many or more things that are none -/
theorem Rep.mono0 (hb : ∀ (n : Nat) (a : Addr), B.b[n]? = some a → B'.b[n]? = some a) (hn : ∀ a, nb B a → nb B' a) : ∀ (d : D) {v : V}, Rep g B H d v → Rep g B' H d v
  | .non, v, h => by unfold Rep at *; exact h
  | .bl _, v, h => by unfold Rep at *; exact h
  | .int _, v, h => by unfold Rep at *; exact h
  | .str _, v, h => by unfold Rep at *; exact h
  | .ty _, v, h => by unfold Rep at *; exact h
  | .cls _, v, h => by unfold Rep at *; exact h
  | .box n, v, h => by
    unfold Rep at *
    obtain ⟨a, rfl, e⟩ := h
    exact ⟨a, rfl, hb _ _ e⟩
  | .tup ds, v, h => by
    unfold Rep at *
    obtain ⟨a, xs, rfl, h1, h2⟩ := h
    exact ⟨a, xs, rfl, h1, RepL.mono0 hb hn ds h2⟩
  | .lst ds, v, h => by
    unfold Rep at *
    obtain ⟨a, xs, rfl, h1, h2⟩ := h
    exact ⟨a, xs, rfl, h1.imp (fun z => ⟨hn _ z.1, z.2⟩) id, RepL.mono0 hb hn ds h2⟩
  | .dct ds, v, h => by
    unfold Rep at *
    obtain ⟨a, xs, rfl, h0, h1, h2⟩ := h
    exact ⟨a, xs, rfl, hn _ h0, h1, RepK.mono0 hb hn ds h2⟩
  | .ins C ds, v, h => by
    unfold Rep at *
    obtain ⟨a, dx, xs, rfl, h0, h1, h2⟩ := h
    exact ⟨a, dx, xs, rfl, hn _ h0, h1, RepF.mono0 hb hn ds h2⟩
  | .set ks, v, h => by
    unfold Rep at *
    obtain ⟨a, rfl, h0, h1⟩ := h
    exact ⟨a, rfl, hn _ h0, h1⟩
  | .exn a dd fs, v, h => by
    unfold Rep at *
    obtain ⟨rfl, ⟨e1, e2⟩ | ⟨d, ys, e1, h0, h1, h2⟩⟩ := h
    · exact ⟨rfl, .inl ⟨e1, e2⟩⟩
    · exact ⟨rfl, .inr ⟨d, ys, e1, hn _ h0, h1, RepF.mono0 hb hn fs h2⟩⟩
theorem RepL.mono0 (hb : ∀ (n : Nat) (a : Addr), B.b[n]? = some a → B'.b[n]? = some a) (hn : ∀ a, nb B a → nb B' a) : ∀ (ds : List D) {xs : List V}, RepL g B H ds xs → RepL g B' H ds xs
  | [], xs, h => by unfold RepL at *; exact h
  | d :: ds, xs, h => by
    unfold RepL at *
    obtain ⟨y, ys, rfl, h1, h2⟩ := h
    exact ⟨y, ys, rfl, Rep.mono0 hb hn d h1, RepL.mono0 hb hn ds h2⟩
theorem RepK.mono0 (hb : ∀ (n : Nat) (a : Addr), B.b[n]? = some a → B'.b[n]? = some a) (hn : ∀ a, nb B a → nb B' a) : ∀ (ds : List (Key × D)) {xs : List (Key × V)}, RepK g B H ds xs → RepK g B' H ds xs
  | [], xs, h => by unfold RepK at *; exact h
  | (k, d) :: ds, xs, h => by
    unfold RepK at *
    obtain ⟨y, ys, rfl, h1, h2⟩ := h
    exact ⟨y, ys, rfl, Rep.mono0 hb hn d h1, RepK.mono0 hb hn ds h2⟩
theorem RepF.mono0 (hb : ∀ (n : Nat) (a : Addr), B.b[n]? = some a → B'.b[n]? = some a) (hn : ∀ a, nb B a → nb B' a) : ∀ (ds : List (Str × D)) {xs : List (Str × V)}, RepF g B H ds xs → RepF g B' H ds xs
  | [], xs, h => by unfold RepF at *; exact h
  | (k, d) :: ds, xs, h => by
    unfold RepF at *
    obtain ⟨y, ys, rfl, h1, h2⟩ := h
    exact ⟨y, ys, rfl, Rep.mono0 hb hn d h1, RepF.mono0 hb hn ds h2⟩
end
theorem BoxAt.mono0 {a : Addr} {d : D} (hb : ∀ (n : Nat) (a : Addr), B.b[n]? = Option.some a → B'.b[n]? = Option.some a) (hn : ∀ a, nb B a → nb B' a) (h : BoxAt g B H a d) : BoxAt g B' H a d := by
  cases d <;> unfold BoxAt at * <;> first | exact h | skip
  · obtain ⟨xs, h1, h2⟩ := h; exact ⟨xs, h1, RepL.mono0 hb hn _ h2⟩
  · obtain ⟨xs, h1, h2⟩ := h; exact ⟨xs, h1, RepK.mono0 hb hn _ h2⟩
  · obtain ⟨dx, xs, h1, h2⟩ := h; exact ⟨dx, xs, h1, RepF.mono0 hb hn _ h2⟩
/-- what was hidden is a box from now on -/
theorem show_b : ∀ (n : Nat) (a : Addr), (B.hide Z).b[n]? = some a → (B.add Z).b[n]? = some a := fun n a e => by
  have : n < B.b.length := (List.getElem?_eq_some_iff.mp e).1
  show (B.b ++ [Z])[n]? = _
  rw [List.getElem?_append_left this]
  exact e
theorem show_n : ∀ a, nb (B.hide Z) a → nb (B.add Z) a := fun a ⟨h1, h2⟩ => ⟨fun q => by
  rcases List.mem_append.mp q with q | q
  · exact h1 q
  · exact h2 (List.mem_singleton.mp q ▸ List.mem_cons_self), fun q => h2 (List.mem_cons_of_mem _ q)⟩
theorem SRel.show (S : SRel g (B.hide Z) H m) (hz : Z ∉ B.z) {acc : List D} {xs : List V} (h : H Z = some (.lst xs)) (r : RepL g (B.hide Z) H acc xs) : SRel g (B.add Z) H (m ++ [.lst acc]) where
  len := by
    show (B.b ++ [Z]).length = _
    rw [List.length_append, List.length_append, ← S.len] <;> rfl
  nd := by
    refine List.nodup_append.mpr ⟨S.nd, by simp, fun a ha b hb e => ?_⟩
    rw [List.mem_singleton.mp hb] at e
    exact S.dj a ha (e ▸ List.mem_cons_self)
  dj := fun a ha hq => by
    rcases List.mem_append.mp ha with q | q
    · exact S.dj a q (List.mem_cons_of_mem _ hq)
    · exact hz (List.mem_singleton.mp q ▸ hq)
  zt := fun a ha => S.zt a (List.mem_cons_of_mem _ ha)
  at_ := fun n a x h1 h2 => by
    change (B.b ++ [Z])[n]? = some a at h1
    have hl : B.b.length = m.length := S.len
    by_cases q : n < B.b.length
    · rw [List.getElem?_append_left q] at h1
      rw [List.getElem?_append_left (by omega)] at h2
      exact (S.at_ n a x h1 h2).mono0 show_b show_n
    · have hn : n = B.b.length := by
        have := (List.getElem?_eq_some_iff.mp h1).1
        simp at this; omega
      subst hn
      rw [List.getElem?_append_right (Nat.le_refl _)] at h1
      rw [hl, List.getElem?_append_right (Nat.le_refl _)] at h2
      simp at h1 h2
      subst h1 h2
      exact ⟨xs, h, RepL.mono0 show_b show_n _ r⟩
theorem Lift.show (l : Lift B H B' H') (h : H Z = none) : Lift B H (B'.add Z) H' where
  pre := by
    obtain ⟨nw, e, f⟩ := l.pre
    refine ⟨nw ++ [Z], ?_, fun a ha => ?_⟩
    · show B'.b ++ [Z] = _
      rw [e, List.append_assoc]
    · rcases List.mem_append.mp ha with q | q
      · exact f a q
      · exact List.mem_singleton.mp q ▸ h
  hid := l.hid
  trk := l.trk
  same := l.same
end

section
variable {X : Cx} {W : WX} {pos : Pos}
theorem comp_core {own : List (Str × Nat)} {fi : DI} {t : DG} {c : DT} {fe : DE} {is : List Nat} (bx : Bool) (his : ∀ j ∈ is, j ∈ own.map (·.2)) : ∀ σ H Q, tE (gd X) W (eCompG bx fi (own.map (·.2)) t c fe) σ H Q → tLc (tI (gd X) W fi) (tG (gd X) is t) (tT (gd X) W0 c) (tE (gd X) W0 fe) (own.map (·.2)) σ H Q := fun σ H Q ⟨B, m, δ, S, L, k⟩ => by
    refine ⟨B, m, δ, S, L, (WP.step k).mono fun ds m1 B1 H1 l1 _ ⟨_, S1, h1⟩ J H1' l1' S1' src Z hZ => ?_⟩
    obtain ⟨_, e0, k0⟩ := (WP.step h1).lf
    obtain ⟨_, _, h2⟩ := k0 B1 H1 (Lift.refl _ _) S1
    have hlen : ds.length < sizeLine := by
      by_cases q : ds.length < sizeLine
      · exact q
      · rw [if_neg q] at e0; cases e0
    have LW : Sl (gd X) (B1.hide Z) (upd H1' Z (.lst [])) (wipeD δ (own.map (·.2))) (wipe σ (own.map (·.2))) :=
      (((L.up S l1).up S1 l1').wipe _).lift (Lift0.hide hZ _) S1'.nofrz
    have zZ : Z ∉ B1.z := (S1'.fresh hZ).2
    refine ⟨fun i k H' => ∃ B2 m2 acc accV, Lift B1 H1' B2 H' ∧ SRel (gd X) (B2.hide Z) H' m2 ∧ Sl (gd X) (B2.hide Z) H' (wipeD δ (own.map (·.2))) (wipe σ (own.map (·.2))) ∧ H' Z = some (.lst accV) ∧ RepL (gd X) (B2.hide Z) H' acc accV ∧ acc.length ≤ i ∧ i + k = ds.length ∧
      WP (gd X) (fun c d H' => W c d σ H') B1 H1' ((compL t c fe (wipeD δ (own.map (·.2))) (ds.drop i) m2).bind fun xs m3 => endC bx (acc ++ xs) m3) (fun d _ B' H' => ∀ v, Rep (gd X) B' H' d v → Q v H'),
      ⟨ds.length, B1, m1, [], [], (Lift.refl _ _).poke hZ, S1'.hide hZ, LW, upd_same, RepL.nil, Nat.zero_le _, by omega, by
        rw [List.drop_zero]
        exact ((show WP (gd X) (fun c d H' => W c d σ H') B1 H1 ((compL t c fe (wipeD δ (own.map (·.2))) ds m1).bind fun xs m3 => endC bx ([] ++ xs) m3) (fun d _ B' H' => ∀ v, Rep (gd X) B' H' d v → Q v H') from h2).up l1')⟩, ?_⟩
    rintro i k H2 ⟨B2, m2, acc, accV, l2, S2, L2', hD, ra, hal, hik, h3⟩
    have l20 : Lift0 B1 H1' (B2.hide Z) H2 := l2.to0.toHide hZ
    obtain ⟨s1, s2⟩ := src (B2.hide Z) H2 m2 i l20 S2
    by_cases q : i < ds.length
    · obtain ⟨g1, g2⟩ := s1 ds[i] (List.getElem?_eq_getElem q)
      refine .inr ⟨g1, fun H' => ∃ B2 m2 acc accV, Lift B1 H1' B2 H' ∧ SRel (gd X) (B2.hide Z) H' m2 ∧ Sl (gd X) (B2.hide Z) H' (wipeD δ (own.map (·.2))) (wipe σ (own.map (·.2))) ∧ H' Z = some (.lst accV) ∧ RepL (gd X) (B2.hide Z) H' acc accV ∧ acc.length ≤ i + 1 ∧
        WP (gd X) (fun c d H' => W c d σ H') B1 H1' ((compL t c fe (wipeD δ (own.map (·.2))) (ds.drop (i + 1)) m2).bind fun xs m3 => endC bx (acc ++ xs) m3) (fun d _ B' H' => ∀ v, Rep (gd X) B' H' d v → Q v H'),
        fun H' ⟨B', m', a', av', p1, p2, p3, p4, p5, p6, p7⟩ => ⟨k - 1, by omega, B', m', a', av', p1, p2, p3, p4, p5, p6, by omega, p7⟩, fun x H3 hy => ?_⟩
      obtain ⟨l3, S3, r3⟩ := g2 x H3 hy
      rw [List.drop_eq_getElem_cons q] at h3
      simp only [compL] at h3
      have l3' : Lift B2 H2 B2 H3 := l3.ofHide
      have L3 := L2'.up S2 l3
      have h4 := h3
      refine ⟨B2.hide Z, m2, wipeD δ (own.map (·.2)), ds[i], S3, L3, r3, ?_⟩
      generalize hr : t ds[i] (wipeD δ (own.map (·.2))) m2 = r at h4 ⊢
      cases r with
      | exc y my => exact h4.elim
      | bad => exact h4.elim
      | ok δ4 m4 =>
        intro B4 H4 l4 S4 σ4 L4 t4
        have eB4 : B4 = Bx.hide ⟨B4.b, B2.z⟩ Z := Bx.eta_hide l4.hid
        have h5 := h4
        simp only [only_ok, bind_ok] at h5
        refine ⟨wipe_touch his t4, B4, m4, δ4, S4, L4, ?_⟩
        generalize hr5 : c δ4 m4 = r5 at h5 ⊢
        cases r5 with
        | exc y my => exact h5.elim
        | bad => exact h5.elim
        | ok b m5 =>
          intro B5 H5 l5 S5
          have eB5 : B5.z = (B2.hide Z).z := l5.hid.trans l4.hid
          have l45 := (l4.trans l5)
          have h6 := h4
          simp only [only_ok, bind_ok, hr5] at h6
          cases b with
          | false =>
            refine iteF ?_
            refine ⟨⟨B5.b, B2.z⟩, m5, acc, accV, (l2.trans l3').trans l45.ofHide, ?_, ?_, ?_, ?_, by omega, h6⟩
            · have := Bx.eta_hide (B' := B5) (B := B2) (Z := Z) eB5
              exact this ▸ S5
            · have := Bx.eta_hide (B' := B5) (B := B2) (Z := Z) eB5
              exact this ▸ ((L3.up S3 l45))
            · obtain ⟨o1, e1, k1⟩ := l3.same Z _ hD fun z => absurd List.mem_cons_self (S2.dj Z z)
              obtain ⟨o2, e2, k2⟩ := l45.same Z _ e1 fun z => absurd List.mem_cons_self (S3.dj Z z)
              rw [e2, kp_ne k2 (by rw [kp_ne k1 (fun _ => nofun)]; exact fun _ => nofun), kp_ne k1 (fun _ => nofun)]
            · have := Bx.eta_hide (B' := B5) (B := B2) (Z := Z) eB5
              exact this ▸ ((ra.up S2 l3).up S3 l45)
          | true =>
            refine iteT ?_
            have L5 := L4.up S4 l5
            refine ⟨B5, m5, δ4, S5, L5, ?_⟩
            generalize hr7 : fe δ4 m5 = r7 at h6 ⊢
            cases r7 with
            | exc y my => exact h6.elim
            | bad => exact h6.elim
            | ok y m6 =>
              intro B6 H6 l6 S6 v6 rv6
              have l46 := l45.trans l6
              have eB6 : B6.z = (B2.hide Z).z := l46.hid
              have eB : B6 = Bx.hide ⟨B6.b, B2.z⟩ Z := Bx.eta_hide eB6
              obtain ⟨o1, e1, k1⟩ := l3.same Z _ hD fun z => absurd List.mem_cons_self (S2.dj Z z)
              obtain ⟨o2, e2, k2⟩ := l46.same Z _ e1 fun z => absurd List.mem_cons_self (S3.dj Z z)
              have hZ6 : H6 Z = some (.lst accV) := by
                rw [e2, kp_ne k2 (by rw [kp_ne k1 (fun _ => nofun)]; exact fun _ => nofun), kp_ne k1 (fun _ => nofun)]
              have ra6 := ((ra.up S2 l3).up S3 l46)
              have hm : Z ∈ B6.z := by rw [eB6]; exact List.mem_cons_self
              have lp : Lift0 B6 H6 B6 (upd H6 Z (.lst (accV ++ [v6]))) := Lift0.poke hm hZ6 rfl
              refine ⟨accV, hZ6, by rw [← ra.len]; omega, ⟨B6.b, B2.z⟩, m6, acc ++ [y], accV ++ [v6], ((l2.trans l3').trans l46.ofHide).poke hZ, ?_, ?_, upd_same, ?_, by simp; omega, ?_⟩
              · rw [← eB]
                have := (eB ▸ S6 : SRel (gd X) (Bx.hide ⟨B6.b, B2.z⟩ Z) H6 m6).poke (xs := accV ++ [v6]) hZ6 rfl
                rw [← eB] at this
                exact this
              · rw [← eB]
                exact (L3.up S3 l46).lift lp S6.nofrz
              · rw [← eB]
                exact RepL.app (RepL.lift lp S6.nofrz _ ra6) (RepL.one (Rep.lift lp S6.nofrz _ rv6))
              · have h7 := h4
                simp only [only_ok, bind_ok, hr5, hr7] at h7
                have h8 : WP (gd X) (fun c d H' => W c d σ H') B1 H1' ((compL t c fe (wipeD δ (own.map (·.2))) (ds.drop (i + 1)) m6).bind fun xs m3 => endC bx ((acc ++ [y]) ++ xs) m3) (fun d _ B' H' => ∀ v, Rep (gd X) B' H' d v → Q v H') := by
                  cases e8 : compL t c fe (wipeD δ (own.map (·.2))) (ds.drop (i + 1)) m6 with
                  | ok xs m8 =>
                    rw [e8] at h7
                    simp only [bind_ok] at h7 ⊢
                    rw [List.append_assoc]
                    exact h7
                  | exc a b => rw [e8] at h7; exact h7
                  | bad => rw [e8] at h7; exact h7
                exact h8
    · have hn : i = ds.length := by omega
      refine .inl ⟨s2 hn, ?_⟩
      rw [List.drop_eq_nil_of_le (by omega)] at h3
      simp only [compL, bind_ok, List.append_nil] at h3
      have S2' := S2.unhide
      have hzb : Z ∉ B2.b := fun z => S2.dj Z z List.mem_cons_self
      have hzz : Z ∉ B2.z := fun z => zZ (by rw [← l2.hid]; exact z)
      have raB : RepL (gd X) B2 H2 acc accV := RepL.lift Lift0.unhide S2.nofrz _ ra
      cases bx with
      | false =>
        refine h3 B2 H2 l2 S2' (.ref Z) ?_
        unfold Rep
        exact ⟨Z, accV, rfl, .inl ⟨⟨hzb, hzz⟩, .inl hD⟩, raB⟩
      | true =>
        refine h3 (B2.add Z) H2 (l2.show hZ) (S2.show hzz hD ra) (.ref Z) ?_
        unfold Rep
        refine ⟨Z, rfl, ?_⟩
        have hl : B2.b.length = m2.length := S2.len
        show (B2.b ++ [Z])[m2.length]? = _
        rw [← hl, List.getElem?_append_right (Nat.le_refl _)]
        simp
theorem dx_comp {elt tg iter : Expr} {ifs : List Expr} {scope : Scope} (own : List (Str × Nat)) {fi : DI} {t : DG} {c : DT} {fe : DE} {is : List Nat} (hc : X.calm = true) (hN : X.N.Nodup) (hi : PI X tg iter (tI (gd X) W fi)) (ok : BlkOk X.N X.env.scope scope own)
    (hg : ∀ (s : Shared) (H : Hp) (C : Addr) (cl : List (Str × Addr)) (fp : List Addr), PG (X.blk s H scope (compEnvC scope cl C X.env) fp) tg (tG (gd X) is t))
    (ht : ∀ (s : Shared) (H : Hp) (C : Addr) (cl : List (Str × Addr)) (fp : List Addr), PTs (X.blk s H scope (compEnvC scope cl C X.env) fp) ifs (tT (gd X) W0 c))
    (he : ∀ (s : Shared) (H : Hp) (C : Addr) (cl : List (Str × Addr)) (fp : List Addr), PE (X.blk s H scope (compEnvC scope cl C X.env) fp) elt (tE (gd X) W0 fe))
    (his : ∀ j ∈ is, j ∈ own.map (·.2) := by decide) (hs : ∀ x, foldedSetIterable iter X.env x = pure x := by intro _; rfl) :
    PE X (.ListComp elt [⟨tg, iter, ifs, 0⟩] scope pos) (tE (gd X) W (eComp fi (own.map (·.2)) t c fe)) :=
  PE.imp (pe_lc hc hN hi ok hg ht he hs) (comp_core false his)
/-- a comprehension whose list will be changed -/
theorem dx_compN {elt tg iter : Expr} {ifs : List Expr} {scope : Scope} (own : List (Str × Nat)) {fi : DI} {t : DG} {c : DT} {fe : DE} {is : List Nat} (hc : X.calm = true) (hN : X.N.Nodup) (hi : PI X tg iter (tI (gd X) W fi)) (ok : BlkOk X.N X.env.scope scope own)
    (hg : ∀ (s : Shared) (H : Hp) (C : Addr) (cl : List (Str × Addr)) (fp : List Addr), PG (X.blk s H scope (compEnvC scope cl C X.env) fp) tg (tG (gd X) is t))
    (ht : ∀ (s : Shared) (H : Hp) (C : Addr) (cl : List (Str × Addr)) (fp : List Addr), PTs (X.blk s H scope (compEnvC scope cl C X.env) fp) ifs (tT (gd X) W0 c))
    (he : ∀ (s : Shared) (H : Hp) (C : Addr) (cl : List (Str × Addr)) (fp : List Addr), PE (X.blk s H scope (compEnvC scope cl C X.env) fp) elt (tE (gd X) W0 fe))
    (his : ∀ j ∈ is, j ∈ own.map (·.2) := by decide) (hs : ∀ x, foldedSetIterable iter X.env x = pure x := by intro _; rfl) :
    PE X (.ListComp elt [⟨tg, iter, ifs, 0⟩] scope pos) (tE (gd X) W (eCompG true fi (own.map (·.2)) t c fe)) :=
  PE.imp (pe_lc hc hN hi ok hg ht he hs) (comp_core true his)
end
end DL
namespace DL
open PySem L2

section
variable {g : Gd} {B : Bx} {H : Hp} {m : Mem}
/-- a list's items: frozen, or a box's -/
def lstI (m : Mem) : D → Option (List D)
  | .lst ds => some ds
  | .box n => match m[n]? with
    | some (.lst ds) => some ds
    | _ => none
  | _ => none
/-- a list's or a tuple's items -/
def seqI (m : Mem) : D → Option (List D)
  | .tup ds => some ds
  | .lst ds => some ds
  | .box n => match m[n]? with
    | some (.lst ds) => some ds
    | _ => none
  | _ => none
theorem lstI_of (S : SRel g B H m) {d : D} {v : V} {ds : List D} (h : lstI m d = some ds) (r : Rep g B H d v) : ∃ a xs, v = .ref a ∧ (Rd H a (.lst xs) ∨ KL g.K a xs) ∧ RepL g B H ds xs := by
  match d, h, r with
  | .lst ds', h, r =>
    obtain rfl : ds' = ds := Option.some.inj h
    unfold Rep at r
    obtain ⟨a, xs, rfl, h1, h2⟩ := r
    exact ⟨a, xs, rfl, h1.imp And.right id, h2⟩
  | .box n, h, r =>
    unfold Rep at r
    obtain ⟨a, rfl, e⟩ := r
    obtain ⟨d', hm, hb⟩ := S.get e
    simp only [lstI, hm] at h
    match d', h, hb with
    | .lst ds', h, hb =>
      obtain rfl : ds' = ds := Option.some.inj h
      unfold BoxAt at hb
      obtain ⟨xs, h1, h2⟩ := hb
      exact ⟨a, xs, rfl, .inl (.inl h1), h2⟩
theorem seqI_of (S : SRel g B H m) {d : D} {v : V} {ds : List D} (h : seqI m d = some ds) (r : Rep g B H d v) : ∃ a xs, v = .ref a ∧ (SqL g.K H a xs ∨ SqT g.K H a xs) ∧ RepL g B H ds xs := by
  match d, h, r with
  | .tup ds', h, r =>
    obtain rfl : ds' = ds := Option.some.inj h
    unfold Rep at r
    obtain ⟨a, xs, rfl, h1, h2⟩ := r
    exact ⟨a, xs, rfl, .inr h1, h2⟩
  | .lst ds', h, r =>
    obtain ⟨a, xs, e, h1, h2⟩ := lstI_of (m := m) S (d := .lst ds') h r
    exact ⟨a, xs, e, .inl (lsq h1), h2⟩
  | .box n, h, r =>
    obtain ⟨a, xs, e, h1, h2⟩ := lstI_of (m := m) S (d := .box n) h r
    exact ⟨a, xs, e, .inl (lsq h1), h2⟩
/-- the end of an operation: no new object -/
theorem Aft.same {d : D} {v : V} {Q : VK} (k : Aft g B H m d Q) (S : SRel g B H m) (r : Rep g B H d v) : Q v H := k v B H (Lift.refl _ _) S r
theorem Aft.tup {ds : List D} {xs : List V} {Q : VK} (k : Aft g B H m (.tup ds) Q) (S : SRel g B H m) (r : RepL g B H ds xs) {p : Addr} (hp : H p = none) : Q (.ref p) (upd H p (.tup xs)) :=
  k _ B _ (Lift.new hp) (S.new hp) (by unfold Rep; exact ⟨p, xs, rfl, .of upd_same, r.up S (Lift.new hp)⟩)
theorem Aft.lst {ds : List D} {xs : List V} {Q : VK} (k : Aft g B H m (.lst ds) Q) (S : SRel g B H m) (r : RepL g B H ds xs) {p : Addr} (hp : H p = none) : Q (.ref p) (upd H p (.lst xs)) :=
  k _ B _ (Lift.new hp) (S.new hp) (by unfold Rep; exact ⟨p, xs, rfl, .inl ⟨S.fresh hp, .of upd_same⟩, r.up S (Lift.new hp)⟩)
theorem rep_int {i : Int} : Rep g B H (.int i) (.int i) := by unfold Rep; rfl
theorem rep_bl {i : Bool} : Rep g B H (.bl i) (.bl i) := by unfold Rep; rfl
theorem rep_str {i : Str} : Rep g B H (.str i) (.str i) := by unfold Rep; rfl
theorem rep_non : Rep g B H .non .non := by unfold Rep; rfl
theorem of_int {i : Int} {v : V} (h : Rep g B H (.int i) v) : v = .int i := by unfold Rep at h; exact h
theorem of_bl {i : Bool} {v : V} (h : Rep g B H (.bl i) v) : v = .bl i := by unfold Rep at h; exact h
theorem of_str {i : Str} {v : V} (h : Rep g B H (.str i) v) : v = .str i := by unfold Rep at h; exact h
theorem of_non {v : V} (h : Rep g B H .non v) : v = .non := by unfold Rep at h; exact h
theorem of_tup {ds : List D} {v : V} (h : Rep g B H (.tup ds) v) : ∃ a xs, v = .ref a ∧ SqT g.K H a xs ∧ RepL g B H ds xs := by unfold Rep at h; exact h
theorem of_lst {ds : List D} {v : V} (h : Rep g B H (.lst ds) v) : ∃ a xs, v = .ref a ∧ LsT g B H a xs ∧ RepL g B H ds xs := by unfold Rep at h; exact h
end

/-! ### arithmetic, joining -/
/-- two ints -/
def opI (c : Int → Int → Bool) (f : Int → Int → Int) : Op2 := fun _ a b => match a, b with
  | .int i, .int j => if c i j then some (.int (f i j)) else none
  | _, _ => none
section
variable {X : Cx}
theorem opI_of {f : Value → Value → Sem Value} {C : Int → Int → Prop} {c : Int → Int → Bool} {g : Int → Int → Int} (h : OpR X f (rI C fun i j => .int (g i j))) (hc : ∀ i j, c i j = true → C i j) : OpR X f (rD (gd X) (opI c g)) := by
  intro pins s σ H x y v u Q I rx ry ⟨B, m, a, b, d, S, ra, rb, e, k⟩
  match a, b, e, ra, rb with
  | .int i, .int j, e, ra, rb =>
    simp only [opI] at e
    split at e
    · rename_i q
      injection e with e
      subst e
      exact h pins s σ H x y v u Q I rx ry ⟨i, j, of_int ra, of_int rb, hc i j q, k.same S rep_int⟩
    · cases e
theorem opI0_of {f : Value → Value → Sem Value} {g : Int → Int → Int} (h : OpR X f (rI0 fun i j => .int (g i j))) : OpR X f (rD (gd X) (opI (fun _ _ => true) g)) := by
  intro pins s σ H x y v u Q I rx ry ⟨B, m, a, b, d, S, ra, rb, e, k⟩
  match a, b, e, ra, rb with
  | .int i, .int j, e, ra, rb =>
    simp only [opI, if_pos rfl] at e
    injection e with e
    subst e
    exact h pins s σ H x y v u Q I rx ry ⟨i, j, of_int ra, of_int rb, k.same S rep_int⟩
def opSub : Op2 := opI (fun _ _ => true) (· - ·)
theorem do_sub : OpR X (binaryOp .Sub) (rD (gd X) opSub) := opI0_of op_sub
/-- small factors by their signs and sizes: one of both below 2 ^ 64, or together below a million bits -/
def mulOk (i j : Int) : Bool := decide (i.natAbs < 2 ^ 64) || (decide (j.natAbs < 2 ^ 64) || decide (i.natAbs.log2 + j.natAbs.log2 < 1000000))
theorem mulOk_of {i j : Int} (h : mulOk i j = true) : PySem.IntMulOk i j := by
  unfold mulOk at h
  simp only [Bool.or_eq_true, decide_eq_true_eq] at h
  rcases h with h | h | h
  · exact .of_left (PyProof.Rows.intBits_le h)
  · exact .of_right (PyProof.Rows.intBits_le h)
  · exact CMulW.ok h
def divOk (_ j : Int) : Bool := decide (0 < j) && decide (j.natAbs.log2 < 9000)
def opFdiv : Op2 := opI divOk (· / ·)
theorem do_fdiv : OpR X (binaryOp .FloorDiv) (rD (gd X) opFdiv) := opI_of op_fdivW fun i j h => by
  simp only [divOk, Bool.and_eq_true, decide_eq_true_eq] at h
  exact h
def opMod : Op2 := opI (fun _ j => decide (0 < j)) (· % ·)
theorem do_mod : OpR X (binaryOp .Mod) (rD (gd X) opMod) := opI_of op_mod fun i j h => of_decide_eq_true h
def opPow : Op2 := opI (fun i j => decide (0 ≤ j ∧ j ≤ 1000000 ∧ i.natAbs < 2 ^ 64)) fun i j => i ^ j.toNat
theorem do_pow : OpR X (binaryOp .Pow) (rD (gd X) opPow) := opI_of op_pow fun i j h => by simpa [CPow] using h
/-- + of ints, texts, tuples, lists -/
def opAdd : Op2 := fun m a b => match a, b with
  | .int i, .int j => some (.int (i + j))
  | .str i, .str j => if i.length + j.length ≤ sizeLine then some (.str (i ++ j)) else none
  | .tup xs, .tup ys => if xs.length + ys.length ≤ sizeLine then some (.tup (xs ++ ys)) else none
  | a, b => match lstI m a, lstI m b with
    | some xs, some ys => if xs.length + ys.length ≤ sizeLine then some (.lst (xs ++ ys)) else none
    | _, _ => none
theorem lstMR {pins : List (Addr × Obj)} {σ : St} {H : Hp} {s : Shared} {l : Addr} {xs : List V} (I : Inv X pins σ H s) (h : Rd H l (.lst xs) ∨ KL X.K l xs) : xs.length ≤ sizeLine ∧ ∃ (its : List Value) (n : Nat), Vals xs its ∧ xs.length = its.length ∧ s.heap.get? l = some { cls := .type "list", data := .seq its.toArray n } := by
  rcases h with h | ⟨its, n, h1, h2, h3⟩
  · obtain ⟨z, its, n, r, e⟩ := (h.ok I.hok : ObjOk X.prog X.w H s.heap l (.lst xs))
    exact ⟨z, its, n, r, r.length, e⟩
  · exact ⟨by rw [h3.length]; exact h2, its, n, h3, h3.length, I.kIn _ _ h1⟩
/-- xs + ys of lists that may be locked -/
def rCatL (K : PySem.W.Frag) : R2 := fun x y H Q => ∃ l b xs zs, x = .ref l ∧ y = .ref b ∧ (Rd H l (.lst xs) ∨ KL K l xs) ∧ (Rd H b (.lst zs) ∨ KL K b zs) ∧ xs.length + zs.length ≤ sizeLine ∧ ∀ p, H p = none → Q (.ref p) (upd H p (.lst (xs ++ zs)))
theorem op_catL : OpR X (binaryOp .Add) (rCatL X.K) := by
  intro pins s σ H x y v u Q I rx ry h
  obtain ⟨l, b, xs, zs, rfl, rfl, hH, hB, hz, q⟩ := h
  cases rx
  cases ry
  obtain ⟨z, its, n, r, hl, e⟩ := lstMR I hH
  obtain ⟨z2, its2, n2, r2, hl2, e2⟩ := lstMR I hB
  refine PySem.P.add_list e e2 ?_ (by rw [List.size_toArray, List.size_toArray]; omega)
  have ea : its.toArray ++ its2.toArray = (its ++ its2).toArray := by simp
  rw [ea]
  exact ⟨.ref _, _, I.lnew (t' := s.toks) (r.append r2) (by rw [List.length_append]; omega), rfl, q _ I.fresh⟩
theorem do_add : OpR X (binaryOp .Add) (rD (gd X) opAdd) := by
  intro pins s σ H x y v u Q I rx ry ⟨B, m, a, b, d, S, ra, rb, e, k⟩
  unfold opAdd at e
  split at e
  · rename_i i j
    injection e with e
    subst e
    exact op_add pins s σ H x y v u Q I rx ry ⟨i, j, of_int ra, of_int rb, k.same S rep_int⟩
  · rename_i i j
    split at e
    · rename_i c
      injection e with e
      subst e
      exact op_add_str pins s σ H x y v u Q I rx ry ⟨i, j, of_str ra, of_str rb, c, k.same S rep_str⟩
    · cases e
  · rename_i xs ys
    split at e
    · rename_i c
      injection e with e
      subst e
      obtain ⟨a1, vs1, rfl, h1, l1⟩ := of_tup ra
      obtain ⟨a2, vs2, rfl, h2, l2⟩ := of_tup rb
      refine op_catA pins s σ H _ _ v u Q I rx ry ⟨a1, a2, vs1, vs2, rfl, rfl, h1, h2, by rw [← l1.len, ← l2.len]; exact c, fun q => ?_, fun _ q => ?_, fun _ _ p hp => k.tup S (RepL.app l1 l2) hp⟩
      · subst q
        have : xs = [] := List.length_eq_zero_iff.mp (by rw [l1.len]; rfl)
        subst this
        exact k.same S (by rw [List.nil_append]; exact rb)
      · subst q
        have : ys = [] := List.length_eq_zero_iff.mp (by rw [l2.len]; rfl)
        subst this
        exact k.same S (by rw [List.append_nil]; exact ra)
    · cases e
  · split at e
    · rename_i xs ys e1 e2
      split at e
      · rename_i c
        injection e with e
        subst e
        obtain ⟨a1, vs1, rfl, h1, l1⟩ := lstI_of S e1 ra
        obtain ⟨a2, vs2, rfl, h2, l2⟩ := lstI_of S e2 rb
        exact op_catL pins s σ H _ _ v u Q I rx ry ⟨a1, a2, vs1, vs2, rfl, rfl, h1, h2, by rw [← l1.len, ← l2.len]; exact c, fun p hp => k.lst S (RepL.app l1 l2) hp⟩
      · cases e
    · cases e
theorem op_mulG : OpR X (binaryOp .Mult) (rI (fun i j => PySem.IntMulOk i j) fun i j => .int (i * j)) := L2.opI fun _ _ _ _ _ _ _ hc q => PyProof.Rows.mul_int q hc
/-- * of ints, of a text, a tuple and an int -/
def opMul : Op2 := fun m a b => match a, b with
  | .int i, .int j => if mulOk i j then some (.int (i * j)) else none
  | .str x, .int n => if 0 ≤ n ∧ n ≤ 1000 ∧ x.length ≤ 1000 then some (.str (Txt.mul x n)) else none
  | .tup xs, .int n => if 2 ≤ n ∧ n ≤ 1000 ∧ xs.length ≤ 1000 ∧ xs ≠ [] then some (.tup (List.replicate n.toNat xs).flatten) else none
  | _, _ => none
theorem mulOk_str {x : Str} {n : Int} (h0 : 0 ≤ n) (h1 : n ≤ 1000) (h2 : x.length ≤ 1000) : MulOk x n := by
  refine ⟨by simp; omega, fun h _ => ?_, fun h _ => ?_⟩
  · have h3 : n * 1000 ≤ 2 ^ 63 - 1 := by omega
    have : (1000 : Int) ≤ (2 ^ 63 - 1) / n := (Int.le_ediv_iff_mul_le (by omega)).mpr (by omega)
    omega
  · unfold Builtin.Str.tooLong
    have : x.length * n.toNat ≤ 1000 * 1000 := Nat.mul_le_mul h2 (by omega)
    have : sizeLine = 16777216 := by decide
    show decide (x.length * n.toNat > sizeLine) = false
    rw [decide_eq_false (by omega)]
theorem flat_rep {g : Gd} {B : Bx} {H : Hp} {ds : List D} {vs : List V} (h : RepL g B H ds vs) : ∀ n : Nat, RepL g B H (List.replicate n ds).flatten (List.replicate n vs).flatten
  | 0 => by simp; exact RepL.nil
  | n + 1 => by
    rw [List.replicate_succ, List.replicate_succ, List.flatten_cons, List.flatten_cons]
    exact RepL.app h (flat_rep h n)
theorem do_mul : OpR X (binaryOp .Mult) (rD (gd X) opMul) := by
  intro pins s σ H x y v u Q I rx ry ⟨B, m, a, b, d, S, ra, rb, e, k⟩
  unfold opMul at e
  split at e
  · rename_i i j
    split at e
    · rename_i c
      injection e with e
      subst e
      exact op_mulG pins s σ H x y v u Q I rx ry ⟨i, j, of_int ra, of_int rb, mulOk_of c, k.same S rep_int⟩
    · cases e
  · rename_i z n
    split at e
    · rename_i c
      injection e with e
      subst e
      obtain rfl := of_str ra
      obtain rfl := of_int rb
      obtain ⟨t1, rfl⟩ := rx
      obtain ⟨t2, rfl⟩ := ry
      exact SB.mul (mulOk_str c.1 c.2.1 c.2.2) fun t' k' => ⟨.str (Txt.mul z n), H, I.tok k', ⟨t', rfl⟩, k.same S rep_str⟩
    · cases e
  · rename_i xs n
    split at e
    · rename_i c
      injection e with e
      subst e
      obtain ⟨a1, vs1, rfl, h1, l1⟩ := of_tup ra
      refine op_repT pins s σ H _ _ v u Q I rx ry ⟨a1, n, vs1, rfl, of_int rb, h1, ?_, c.1, c.2.1, by rw [← l1.len]; exact c.2.2.1, fun p hp => k.tup S (flat_rep l1 _) hp⟩
      intro q
      subst q
      exact c.2.2.2 (List.length_eq_zero_iff.mp (by rw [l1.len]; rfl))
    · cases e
  · cases e
/-! ### comparing -/
/-- a < b and its like, of ints -/
def opCmp (f : Int → Int → Bool) : Op2 := fun _ a b => match a, b with
  | .int i, .int j => some (.bl (f i j))
  | _, _ => none
theorem opCmp_of {op : CmpOp} {f : Int → Int → Bool} (h : OpR X (compareOp op) (rI0 fun i j => .bl (f i j))) : OpR X (compareOp op) (rD (gd X) (opCmp f)) := by
  intro pins s σ H x y v u Q I rx ry ⟨B, m, a, b, d, S, ra, rb, e, k⟩
  match a, b, e, ra, rb with
  | .int i, .int j, e, ra, rb =>
    simp only [opCmp] at e
    injection e with e
    subst e
    exact h pins s σ H x y v u Q I rx ry ⟨i, j, of_int ra, of_int rb, k.same S rep_bl⟩
def opLt : Op2 := opCmp fun i j => decide (i < j)
def opLe : Op2 := opCmp fun i j => decide (i ≤ j)
def opGt : Op2 := opCmp fun i j => decide (j < i)
def opGe : Op2 := opCmp fun i j => decide (j ≤ i)
theorem do_lt : OpR X (compareOp .Lt) (rD (gd X) opLt) := opCmp_of op_lt
theorem do_le : OpR X (compareOp .LtE) (rD (gd X) opLe) := opCmp_of op_le
theorem do_gt : OpR X (compareOp .Gt) (rD (gd X) opGt) := opCmp_of op_gt
theorem do_ge : OpR X (compareOp .GtE) (rD (gd X) opGe) := opCmp_of op_ge
/-- is None -/
def isNon : D → Bool
  | .non => true
  | _ => false
theorem isNon_of {g : Gd} {B : Bx} {H : Hp} {d : D} {v : V} (r : Rep g B H d v) : decide (v = .non) = isNon d := by
  cases d <;> unfold Rep at r <;> unfold isNon
  · rw [r]; rfl
  all_goals first | (rw [r]; rfl) | (rw [r.1]; rfl) | (obtain ⟨a, rfl, _⟩ := r; rfl) | (obtain ⟨a, b, rfl, _⟩ := r; rfl) | (obtain ⟨a, b, c, rfl, _⟩ := r; rfl)
def opIs : Op2 := fun _ a b => match b with
  | .non => some (.bl (isNon a))
  | _ => none
def opIsNot : Op2 := fun _ a b => match b with
  | .non => some (.bl (!isNon a))
  | _ => none
theorem do_is : OpR X (compareOp .Is) (rD (gd X) opIs) := by
  intro pins s σ H x y v u Q I rx ry ⟨B, m, a, b, d, S, ra, rb, e, k⟩
  match b, e, rb with
  | .non, e, rb =>
    injection e with e
    subst e
    refine op_isN pins s σ H x y v u Q I rx ry ⟨of_non rb, ?_⟩
    rw [isNon_of ra]
    exact k.same S rep_bl
theorem do_isnot : OpR X (compareOp .IsNot) (rD (gd X) opIsNot) := by
  intro pins s σ H x y v u Q I rx ry ⟨B, m, a, b, d, S, ra, rb, e, k⟩
  match b, e, rb with
  | .non, e, rb =>
    injection e with e
    subst e
    refine op_notN pins s σ H x y v u Q I rx ry ⟨of_non rb, ?_⟩
    rw [isNon_of ra]
    exact k.same S rep_bl
end

/-! ### equality of data -/
mutual
/-- == as Python has it; False beside what is not told of -/
def eqD : D → D → Bool
  | .non, .non => true
  | .bl a, .bl b => a == b
  | .bl a, .int j => (if a then 1 else 0) == j
  | .int i, .bl b => i == (if b then 1 else 0)
  | .int i, .int j => i == j
  | .str x, .str y => x == y
  | .lst xs, .lst ys => eqL xs ys
  | .tup xs, .tup ys => eqL xs ys
  | _, _ => false
def eqL : List D → List D → Bool
  | [], [] => true
  | x :: xs, y :: ys => eqD x y && eqL xs ys
  | _, _ => false
end
mutual
/-- as the library's data -/
def toPy : D → Option PyData
  | .non => some .none
  | .bl b => some (.bool b)
  | .int i => some (.int i)
  | .str s => some (.str s)
  | .lst ds => (toPyL ds).map .list
  | .tup ds => (toPyL ds).map .tuple
  | _ => none
def toPyL : List D → Option (List PyData)
  | [] => some []
  | d :: ds => (toPy d).bind fun p => (toPyL ds).map fun ps => p :: ps
end
mutual
theorem eqD_py : ∀ (a b : D) (p q : PyData), toPy a = some p → toPy b = some q → eqD a b = PyData.eqv p q
  | .non, b, p, q, ha, hb => by
    simp only [toPy, Option.some.injEq] at ha
    subst ha
    cases b <;> simp only [toPy, Option.some.injEq, Option.map_eq_some_iff, reduceCtorEq] at hb
    all_goals first | (subst hb; simp [eqD, PyData.eqv]; done) | (obtain ⟨ps, _, rfl⟩ := hb; simp [eqD, PyData.eqv]; done)
  | .bl _, b, p, q, ha, hb => by
    simp only [toPy, Option.some.injEq] at ha
    subst ha
    cases b <;> simp only [toPy, Option.some.injEq, Option.map_eq_some_iff, reduceCtorEq] at hb
    all_goals first | (subst hb; simp [eqD, PyData.eqv]; done) | (obtain ⟨ps, _, rfl⟩ := hb; simp [eqD, PyData.eqv]; done)
  | .int _, b, p, q, ha, hb => by
    simp only [toPy, Option.some.injEq] at ha
    subst ha
    cases b <;> simp only [toPy, Option.some.injEq, Option.map_eq_some_iff, reduceCtorEq] at hb
    all_goals first | (subst hb; simp [eqD, PyData.eqv]; done) | (obtain ⟨ps, _, rfl⟩ := hb; simp [eqD, PyData.eqv]; done)
  | .str _, b, p, q, ha, hb => by
    simp only [toPy, Option.some.injEq] at ha
    subst ha
    cases b <;> simp only [toPy, Option.some.injEq, Option.map_eq_some_iff, reduceCtorEq] at hb
    all_goals first | (subst hb; simp [eqD, PyData.eqv]; done) | (obtain ⟨ps, _, rfl⟩ := hb; simp [eqD, PyData.eqv]; done)
  | .lst xs, b, p, q, ha, hb => by
    simp only [toPy, Option.map_eq_some_iff] at ha
    obtain ⟨ps, h1, rfl⟩ := ha
    cases b <;> simp only [toPy, Option.some.injEq, Option.map_eq_some_iff, reduceCtorEq] at hb
    case lst ys =>
      obtain ⟨qs, h2, rfl⟩ := hb
      simp only [eqD, PyData.eqv]
      exact eqL_py xs ys ps qs h1 h2
    all_goals first | (subst hb; simp [eqD, PyData.eqv]; done) | (obtain ⟨ps, _, rfl⟩ := hb; simp [eqD, PyData.eqv]; done)
  | .tup xs, b, p, q, ha, hb => by
    simp only [toPy, Option.map_eq_some_iff] at ha
    obtain ⟨ps, h1, rfl⟩ := ha
    cases b <;> simp only [toPy, Option.some.injEq, Option.map_eq_some_iff, reduceCtorEq] at hb
    case tup ys =>
      obtain ⟨qs, h2, rfl⟩ := hb
      simp only [eqD, PyData.eqv]
      exact eqL_py xs ys ps qs h1 h2
    all_goals first | (subst hb; simp [eqD, PyData.eqv]; done) | (obtain ⟨ps, _, rfl⟩ := hb; simp [eqD, PyData.eqv]; done)
  | .ty _, b, p, q, ha, hb => by simp [toPy] at ha
  | .cls _, b, p, q, ha, hb => by simp [toPy] at ha
  | .box _, b, p, q, ha, hb => by simp [toPy] at ha
  | .dct _, b, p, q, ha, hb => by simp [toPy] at ha
  | .ins _ _, b, p, q, ha, hb => by simp [toPy] at ha
  | .set _, b, p, q, ha, hb => by simp [toPy] at ha
  | .exn _ _ _, b, p, q, ha, hb => by simp [toPy] at ha
theorem eqL_py : ∀ (a b : List D) (p q : List PyData), toPyL a = some p → toPyL b = some q → eqL a b = PyData.eqvAll p q
  | [], b, p, q, ha, hb => by
    simp only [toPyL, Option.some.injEq] at ha
    subst ha
    cases b with
    | nil => simp only [toPyL, Option.some.injEq] at hb; subst hb; simp [eqL, PyData.eqvAll]
    | cons y ys =>
      simp only [toPyL, Option.bind_eq_some_iff, Option.map_eq_some_iff] at hb
      obtain ⟨q1, h1, q2, h2, rfl⟩ := hb
      simp [eqL, PyData.eqvAll]
  | x :: xs, b, p, q, ha, hb => by
    simp only [toPyL, Option.bind_eq_some_iff, Option.map_eq_some_iff] at ha
    obtain ⟨p1, h1, p2, h2, rfl⟩ := ha
    cases b with
    | nil => simp only [toPyL, Option.some.injEq] at hb; subst hb; simp [eqL, PyData.eqvAll]
    | cons y ys =>
      simp only [toPyL, Option.bind_eq_some_iff, Option.map_eq_some_iff] at hb
      obtain ⟨q1, k1, q2, k2, rfl⟩ := hb
      simp only [eqL, PyData.eqvAll]
      rw [eqD_py x y p1 q1 h1 k1, eqL_py xs ys p2 q2 h2 k2]
end
section
variable {g : Gd} {B : Bx} {H : Hp}
mutual
theorem rep_dp : ∀ (d : D) (p : PyData) {v : V}, toPy d = some p → Rep g B H d v → Dp g.K H v p
  | .non, p, v, h, r => by simp only [toPy, Option.some.injEq] at h; subst h; rw [of_non r]; exact .non
  | .bl _, p, v, h, r => by simp only [toPy, Option.some.injEq] at h; subst h; rw [of_bl r]; exact .bl _
  | .int _, p, v, h, r => by simp only [toPy, Option.some.injEq] at h; subst h; rw [of_int r]; exact .int _
  | .str _, p, v, h, r => by simp only [toPy, Option.some.injEq] at h; subst h; rw [of_str r]; exact .str _
  | .lst ds, p, v, h, r => by
    simp only [toPy, Option.map_eq_some_iff] at h
    obtain ⟨ps, h1, rfl⟩ := h
    obtain ⟨a, xs, rfl, h2, h3⟩ := of_lst r
    exact .lst h2.sq (repL_dp ds ps h1 h3)
  | .tup ds, p, v, h, r => by
    simp only [toPy, Option.map_eq_some_iff] at h
    obtain ⟨ps, h1, rfl⟩ := h
    obtain ⟨a, xs, rfl, h2, h3⟩ := of_tup r
    exact .tup h2 (repL_dp ds ps h1 h3)
  | .ty _, p, v, h, r => by simp [toPy] at h
  | .cls _, p, v, h, r => by simp [toPy] at h
  | .box _, p, v, h, r => by simp [toPy] at h
  | .dct _, p, v, h, r => by simp [toPy] at h
  | .ins _ _, p, v, h, r => by simp [toPy] at h
  | .set _, p, v, h, r => by simp [toPy] at h
  | .exn _ _ _, p, v, h, r => by simp [toPy] at h
theorem repL_dp : ∀ (d : List D) (p : List PyData) {v : List V}, toPyL d = some p → RepL g B H d v → DpAll g.K H v p
  | [], p, v, h, r => by
    simp only [toPyL, Option.some.injEq] at h
    subst h
    unfold RepL at r
    subst r
    exact .nil
  | d :: ds, p, v, h, r => by
    simp only [toPyL, Option.bind_eq_some_iff, Option.map_eq_some_iff] at h
    obtain ⟨q1, h1, q2, h2, rfl⟩ := h
    unfold RepL at r
    obtain ⟨y, ys, rfl, r1, r2⟩ := r
    exact .cons (rep_dp d q1 h1 r1) (repL_dp ds q2 h2 r2)
end
end
end DL
/-! enumerate of a tuple -/
namespace PySem
open Sem (wp)
open AutoSeq1 (wpAny_loadPart')
theorem dl_meets_enumerate_newT (l : Addr) (items : Array Value) (n : Nat) (dct : Option Addr) (sl : Array (Option Value)) :
    Meets (Builtin.«enumerate.__new__» ⟨[.type "enumerate", .ref l], []⟩) (fun _ R s => s.heap.get? l = some { cls := .type "tuple", dict := dct, data := .seq items n, slots := sl } ∧
      R (.ok (.ret (.ref (s.heap.push { cls := .type "tuple_iterator", data := .fields #[.ref l, .int 0 0] }).objs.size)))
        { s with heap := (s.heap.push { cls := .type "tuple_iterator", data := .fields #[.ref l, .int 0 0] }).push { cls := .type "enumerate", data := .fields #[.none, .bool false, .ref s.heap.objs.size, rawInt 0, .none, .none] } }) :=
  .of_wp fun prog w A R s h => by
    obtain ⟨hp, g, d, tk, os⟩ := s; obtain ⟨hl, h⟩ := h
    have hsub := sub_enumerate
    have hL : Heap.IsTuple (Shared.heap ⟨hp, g, d, tk, os⟩) l items := ⟨_, hl, rfl, n, rfl⟩
    wp_walk using wpAny_loadPart' hl
    refine wpAny_stack_any fun st => wpAny_pure ?_
    split
    · rename_i c _ _ _ _ _
      cases (c == Value.type "enumerate")
      · wp_walk using wpAny_loadPart' hl, wpAny_pyIter_tuple hL
        exact ⟨_, rfl, h⟩
      · wp_walk using wpAny_loadPart' hl, wpAny_pyIter_tuple hL
        exact ⟨_, rfl, h⟩
    · wp_walk using wpAny_loadPart' hl, wpAny_pyIter_tuple hL
      exact ⟨_, rfl, h⟩
section
variable {prog : Program} {w : World} {A : Around} {E : Value → Shared → Prop} {s : Shared}
theorem dl_call_enumerate_tuple {l : Addr} {items : Array Value} {Q : Value → Shared → Prop} (hL : s.heap.IsTuple l items)
    (h : ∀ h', IsEnum h' (s.heap.objs.size + 1) s.heap.objs.size 0 .none → h'.IsTupleIter s.heap.objs.size l 0 → h'.objs.size = s.heap.objs.size + 2 →
      (∀ b o, s.heap.get? b = some o → h'.get? b = some o) → Q (.ref (s.heap.objs.size + 1)) { s with heap := h' }) :
    wpAny (model prog w) A (call (.type "enumerate") [.ref l]) Q E s := by
  obtain ⟨⟨c, dct, dt, sl⟩, hl, hc, n, hd⟩ := hL
  replace hc : c = .type "tuple" := hc
  replace hd : dt = .seq items n := hd
  subst hc hd
  refine callType_new F.called_enumerate (by decide) (F.typeCall_enumerate_1 _) (F.newCall_enumerate_1 _) (fun obj => F.args_object_init_2 obj _) F.entry_enumerate_new
    (dl_meets_enumerate_newT l items n dct sl) ⟨hl, ?_⟩
  have hz : (s.heap.push { cls := .type "tuple_iterator", data := .fields #[.ref l, .int 0 0] }).objs.size = s.heap.objs.size + 1 := Heap.size_push ..
  show _ ∧ _
  rw [hz]
  have he : IsEnum ((s.heap.push { cls := .type "tuple_iterator", data := .fields #[.ref l, .int 0 0] }).push
      { cls := .type "enumerate", data := .fields #[.none, .bool false, .ref s.heap.objs.size, rawInt 0, .none, .none] }) (s.heap.objs.size + 1) s.heap.objs.size 0 .none := by
    have := Heap.get?_push_size (s.heap.push { cls := .type "tuple_iterator", data := .fields #[.ref l, .int 0 0] })
      (o := { cls := .type "enumerate", data := .fields #[.none, .bool false, .ref s.heap.objs.size, rawInt 0, .none, .none] }) rfl
    rw [hz] at this; exact this
  refine ⟨⟨_, he, rfl⟩, h _ he ⟨_, Heap.get?_push_of_some _ (Heap.get?_push_size _ rfl), rfl, rfl⟩ (by rw [Heap.size_push, hz]) fun b o x => Heap.get?_push_of_some _ (Heap.get?_push_of_some _ x)⟩
end
end PySem
namespace DL
open PySem L2 PySem.Spec PyProof.Rows
/-- the tuple at a, each item in a new pair -/
def Itet (K : PySem.W.Frag) (a : Addr) : It :=
  ⟨fun i H => ∃ (xs : List V) (x : V), SqT K H a xs ∧ xs[i]? = some x, fun i H v H' => ∃ T x, v = .ref T ∧ H T = none ∧ H' = upd H T (.tup [.int (i : Nat), x]) ∧ ∀ xs, SqT K H a xs → xs[i]? = some x, fun i H => ∃ xs : List V, SqT K H a xs ∧ xs.length ≤ i⟩
theorem turn_enumT {P : Program} {w : World} {K : PySem.W.Frag} {elts : List Expr} {kk : Nat} {tpos : Pos} (a e it : Addr) :
    Turn P w K (.Tuple elts kk tpos) (Itet K a) [e, it] e (fun i h => (∃ old, IsEnum h e it ((i : Nat) : Int) old) ∧ h.IsTupleIter it a i ∧ e ≠ it ∧ a ≠ it ∧ a ≠ e) where
  mem := by simp
  obj := fun i h st b hb => by
    obtain ⟨⟨old, he⟩, ⟨o, ho, hc, hd⟩, _⟩ := st
    have e' : b = e ∨ b = it := by simpa using hb
    rcases e' with z | z
    · rw [z]; exact ⟨_, he, fun v q => nomatch q⟩
    · rw [z]; exact ⟨o, ho, fun v q => by rw [hd] at q; cases q⟩
  keep := fun i h h' st k => let ⟨⟨old, he⟩, hi, hne⟩ := st; ⟨⟨old, k e (by simp) _ he⟩, hi.at fun o q => k it (by simp) o q, hne⟩
  item := by
    intro X hP hw hK hc i pins s σ H E I hf st hg
    subst hP hw hK
    obtain ⟨⟨old, he⟩, hit, hne, ha1, ha2⟩ := st
    obtain ⟨xs, x, hq, hx⟩ := hg
    obtain ⟨its, rv, p, hz⟩ := I.tuple hq
    obtain ⟨u, hu, ru⟩ := rv.get hx
    have hel : e < s.heap.objs.size := Heap.lt_size he
    have hil : it < s.heap.objs.size := by obtain ⟨_, q, _⟩ := hit; exact Heap.lt_size q
    have hL : s.heap.IsTuple a its.toArray := p
    have hlt : i < its.toArray.size := by have := (List.getElem?_eq_some_iff.mp hu).1; simpa using this
    refine wpAny_pyNext_enum_itemD (Draws.tuple (A := X.A.in1) (by exact I.ok.hd hc) it a ha1 its.toArray) he ⟨hit, hL⟩ hlt hne (by simp [hne, Ne.symm ha2]) fun y h' tk hy ho hs' hT hsz hk => ?_
    obtain rfl : y = u := by
      have h1 : its.toArray[i]? = some u := by simpa using hu
      rw [hy] at h1
      exact Option.some.inj h1
    have hit' := hs'.1
    refine ⟨_, rfl, wpAny_letOwnedTupleGo_enum (s := { s with heap := h', toks := tk + 1 }) ho fun h'' he' sb => ?_⟩
    have hT2 : h''.get? s.heap.objs.size = some { cls := .type "tuple", data := .seq #[.int i tk, y] } := (sb.2 _ (Nat.ne_of_gt hel)).trans hT
    have new : ObjOk X.prog X.w (upd H s.heap.objs.size (.tup [.int (i : Nat), x])) h'' s.heap.objs.size (.tup [.int (i : Nat), x]) :=
      ⟨by show 2 ≤ sizeLine; decide, [.int i tk, y], .cons ⟨_, rfl⟩ (.cons ru .nil), ⟨_, hT2, rfl, _, rfl⟩⟩
    have I1 : Inv X pins σ (upd H s.heap.objs.size (.tup [.int (i : Nat), x])) { s with heap := h'', toks := tk + 1 } :=
      I.turnedNew (ch := [e, it]) (fun b ob hb q => (sb.2 b (fun z => hb (by simp [z]))).trans (hk b ob (fun z => hb (by simp [z])) (fun z => hb (by simp [z])) q)) hf (Nat.le_refl _) new
    refine ⟨.ref s.heap.objs.size, _, I1, rfl, ⟨_, x, rfl, I.hok.fresh (Nat.le_refl _), rfl, fun ys hy => by rw [I.tuple_inj hy hq]; exact hx⟩, ⟨⟨y, ?_⟩, hit'.at fun o q => (sb.2 it (Ne.symm hne)).trans q, hne, ha1, ha2⟩, fun b hb => ?_⟩
    · have e1 : ((i + 1 : Nat) : Int) = (i : Int) + 1 := by omega
      rw [e1]; exact he'
    · have hb' : b < s.heap.objs.size := by
        have e' : b = e ∨ b = it := by simpa using hb
        rcases e' with z | z
        · rw [z]; exact hel
        · rw [z]; exact hil
      rw [upd_ne (Nat.ne_of_lt hb')]
      exact (hf b hb).1
  done := by
    intro X hP hw hK hc i pins s σ H E I hf st hg
    subst hP hw hK
    obtain ⟨⟨old, he⟩, hit, hne, ha1, ha2⟩ := st
    obtain ⟨xs, hq, hx⟩ := hg
    obtain ⟨its, rv, p, hz⟩ := I.tuple hq
    obtain ⟨f0, f1, f2, f3, f4, f5⟩ := hf it (by simp)
    have hl := rv.length
    have hL : s.heap.IsTuple a its.toArray := p
    unfold pyNext
    have hT : s.TypeIs (.ref e) "enumerate" := ⟨_, he, rfl⟩
    refine wpAny_bind (wpAny_attempt (wpAny_callSpecial?_slot (name := Str.ofString "__next__") hT F.slot_enumerate_next
      (wpAny_call_entry F.slot_enumerate_next hT F.entry_enumerate_next ?_ (F.args_enumerate_next_1 _))))
    show wpAny _ _ (field (.ref e) 2 >>= _) _ _ _
    refine wpAny_bind (wpAny_field he rfl (x := .ref it) rfl ?_)
    refine wpAny_bind (wpAny_nextOf_tuple_end (by exact I.ok.hd hc) hit hL (by simp; omega) fun h' x he' hx' => ?_)
    obtain ⟨o, ho, hc'⟩ := hx'
    refine wpAny_bind (wpAny_isInstance (T := "StopIteration") (b := true) ⟨o, ho, hc'⟩ isSubtype_stop ?_)
    exact wpAny_pure ⟨rfl, I.turned (t' := s.toks) (fun b o hb e => he' b o hb e) f0 f1 f3 f4 f5⟩
  self := fun A i s Q E st h => let ⟨⟨_, he⟩, _⟩ := st; wpAny_pyIter_enum he h
/-- enumerate of a list or a tuple that stands still -/
def iEnumT (K : PySem.W.Frag) (ta : TA) : TI := fun σ H R => ta σ H fun vs H1 => ∃ a, vs = [.ref a] ∧ (((∃ xs, SqL K H1 a xs) ∧ R (Ite K a) H1) ∨ ((∃ xs, SqT K H1 a xs) ∧ R (Itet K a) H1))
theorem pi_enumT {X : Cx} {e : Expr} {ta : TA} {p pos tpos : Pos} {elts : List Expr} {kk : Nat} (hg : Gl X "enumerate") (hm : X.mg "enumerate" = none) (ha : PA X [e] ta) (hs : starEach [e] X.env = [(false, eval e X.env)] := by rfl) :
    PI X (.Tuple elts kk tpos) (.Call (.Name "enumerate" p) [e] [] pos) (iEnumT X.K ta) := by
  refine ⟨fun pins s σ H R I h => ?_⟩
  refine Call_ (ld_blt I hg hm boot_enumerate (PyProof.Rows.callWith_type1 (thn (ha.run pos pins s σ H _ I h) fun us s1 ⟨vs, H1, I1, r1, q1⟩ => ?_) hs rfl))
  obtain ⟨a, ex, q⟩ := q1
  subst ex
  cases r1 with
  | cons r rr =>
    cases rr
    cases r
    rcases q with ⟨⟨xs, hq⟩, q⟩ | ⟨⟨xs, hq⟩, q⟩
    · obtain ⟨its, rv, p', hz⟩ := I1.list hq
      refine call_enumerate_list p'.isList fun h' he hit hsz hk => wpAny_pyIter_enum he ?_
      have I2 : Inv X pins σ H1 { s1 with heap := h' } := I1.kept (t' := s1.toks) hk
      refine ⟨s1.heap.objs.size + 1, [s1.heap.objs.size + 1, s1.heap.objs.size], _, _, H1, rfl, I2, turn_enum a (s1.heap.objs.size + 1) s1.heap.objs.size, ⟨⟨.none, he⟩, hit, Nat.succ_ne_self _⟩, fun b hb => ?_, q⟩
      have e' : b = s1.heap.objs.size + 1 ∨ b = s1.heap.objs.size := by simpa using hb
      have hle : s1.heap.objs.size ≤ b := by
        rcases e' with z | z
        · rw [z]; exact Nat.le_add_right _ _
        · rw [z]; exact Nat.le_refl _
      exact I1.fpOk hle (I1.hok.fresh hle)
    · obtain ⟨its, rv, p', hz⟩ := I1.tuple hq
      have hL : s1.heap.IsTuple a its.toArray := p'
      have hal : a < s1.heap.objs.size := by obtain ⟨o, q1, _⟩ := hL; exact Heap.lt_size q1
      refine dl_call_enumerate_tuple hL fun h' he hit hsz hk => wpAny_pyIter_enum he ?_
      have I2 : Inv X pins σ H1 { s1 with heap := h' } := I1.kept (t' := s1.toks) hk
      refine ⟨s1.heap.objs.size + 1, [s1.heap.objs.size + 1, s1.heap.objs.size], _, _, H1, rfl, I2, turn_enumT a (s1.heap.objs.size + 1) s1.heap.objs.size, ⟨⟨.none, he⟩, hit, Nat.succ_ne_self _, Nat.ne_of_lt hal, Nat.ne_of_lt (Nat.lt_succ_of_lt hal)⟩, fun b hb => ?_, q⟩
      have e' : b = s1.heap.objs.size + 1 ∨ b = s1.heap.objs.size := by simpa using hb
      have hle : s1.heap.objs.size ≤ b := by
        rcases e' with z | z
        · rw [z]; exact Nat.le_add_right _ _
        · rw [z]; exact Nat.le_refl _
      exact I1.fpOk hle (I1.hok.fresh hle)
theorem walk_enumT {K : PySem.W.Frag} {a : Addr} {xs : List V} {n : Nat} (hn : n = xs.length) : Walk (Itet K a) n (fun H => SqT K H a xs) (YPair (fun i => some (.int (i : Nat))) (fun i => xs[i]?)) where
  goes := fun i H hi h => ⟨xs, xs[i]'(by omega), h, List.getElem?_eq_getElem _⟩
  stops := fun H h => ⟨xs, h, by omega⟩
  yields := fun i H v H' hi h ⟨T, x, e1, e2, e3, e4⟩ => ⟨T, _, x, e1, e2, e3, rfl, e4 xs h⟩
theorem walk_enumL {K : PySem.W.Frag} {a : Addr} {xs : List V} {n : Nat} (hn : n = xs.length) : Walk (Ite K a) n (fun H => SqL K H a xs) (YPair (fun i => some (.int (i : Nat))) (fun i => xs[i]?)) where
  goes := fun i H hi h => ⟨xs, xs[i]'(by omega), h, List.getElem?_eq_getElem _⟩
  stops := fun H h => ⟨xs, h, by omega⟩
  yields := fun i H v H' hi h ⟨T, x, e1, e2, e3, e4⟩ => ⟨T, _, x, e1, e2, e3, rfl, e4 xs h⟩
section
variable {X : Cx} {W : WX} {pos : Pos} {e : Expr}
def iEnu (t : DA) : DI := fun δ m => (t δ m).bind fun ds m1 => match ds with
  | [d] => (lf (seqItems d) m1).bind fun xs m2 => .ok (enumItems xs) m2
  | _ => .bad
theorem di_enum {t : DA} {p tpos : Pos} {elts : List Expr} {kk : Nat} (hg : Gl X "enumerate") (hm : X.mg "enumerate" = none) (ha : PA X [e] (tA (gd X) W t)) (al : AL 1 t) (hs : starEach [e] X.env = [(false, eval e X.env)] := by rfl) :
    PI X (.Tuple elts kk tpos) (.Call (.Name "enumerate" p) [e] [] pos) (tI (gd X) W (iEnu t)) :=
  PI.imp (pi_enumT hg hm ha hs) fun σ H R ⟨B, m, δ, S, L, k⟩ => ⟨B, m, δ, S, L, WP.al al (WP.step k) fun ds m1 B1 H1 hl l1 _ ⟨_, S1, h1⟩ vs rvs => by
    match ds, hl, h1, rvs with
    | [d], _, h1, rvs =>
    obtain ⟨v, rfl, rv⟩ := repL1 rvs
    obtain ⟨xs, e1, k1⟩ := (WP.step h1).lf
    have k2 := (k1 B1 H1 (Lift.refl _ _) S1).2.2
    have k3 := WP.at k2 (Lift.refl _ _) S1
    cases d <;> first | (cases e1; done) | skip
    · simp only [seqItems, Option.some.injEq] at e1
      subst e1
      unfold Rep at rv
      obtain ⟨a, xs, rfl, hs, hl⟩ := rv
      refine ⟨a, rfl, .inr ⟨⟨xs, hs⟩, k3 _ H1 (Lift.refl _ _) S1 (src_of (walk_enumT rfl) (by unfold enumItems; rw [List.length_mapIdx, hl.len]) (fun B H m l S => l.sqT (gd X) (fun a ha o xs => S1.nofrz a ha o _) hs) fun B H m i x H' d l S hd ⟨T, y, z, ex, hT, eH, ey, ez⟩ => ?_)⟩⟩
      obtain ⟨q, hq, rfl⟩ := enum_get hd
      obtain ⟨v, h1, h2⟩ := (RepL.lift l S1.nofrz _ hl).get hq
      cases ey
      have ez' : xs[i]? = some z := ez
      rw [h1] at ez'
      cases ez'
      subst ex eH
      exact rep_pair S hT rep_int h2
    · simp only [seqItems, Option.some.injEq] at e1
      subst e1
      unfold Rep at rv
      obtain ⟨a, xs, rfl, hs, hl⟩ := rv
      refine ⟨a, rfl, .inl ⟨⟨xs, hs.sq⟩, k3 _ H1 (Lift.refl _ _) S1 (src_of (walk_enumL rfl) (by unfold enumItems; rw [List.length_mapIdx, hl.len]) (fun B H m l S => (l.lsT hs).sq) fun B H m i x H' d l S hd ⟨T, y, z, ex, hT, eH, ey, ez⟩ => ?_)⟩⟩
      obtain ⟨q, hq, rfl⟩ := enum_get hd
      obtain ⟨v, h1, h2⟩ := (RepL.lift l S1.nofrz _ hl).get hq
      cases ey
      have ez' : xs[i]? = some z := ez
      rw [h1] at ez'
      cases ez'
      subst ex eH
      exact rep_pair S hT rep_int h2⟩
end
end DL
namespace PySem.SeqAt
open Sem (wp)
open AutoSeq1 (wpAny_loadPart')
theorem handD_dict_eq_declines_str (l : Addr) (es : Array DictEntry) (ep : Nat) (dd : Option Addr) (sl : Array (Option Value)) (b : Str) (u : Tok) :
    Meets (Builtin.«dict.__eq__» ⟨[.ref l, .str b u], []⟩) (fun _ R s => s.heap.get? l = some { cls := .type "dict", dict := dd, data := .dict es ep, slots := sl } ∧ R (.ok (.ret .notImplemented)) s) :=
  .of_wp fun prog w A R s h => by obtain ⟨hp, g, d, tk, os⟩ := s; obtain ⟨hl, h⟩ := h; have f1 := F.sub_str_dict; unfold Builtin.«dict.__eq__»; wp_walk using wpAny_loadPart' hl; exact ⟨_, rfl, h⟩
theorem handD_str_eq_declines_dict (b : Str) (u : Tok) (l : Addr) (es : Array DictEntry) (ep : Nat) (dd : Option Addr) (sl : Array (Option Value)) :
    Meets (Builtin.«str.__eq__» ⟨[.str b u, .ref l], []⟩) (fun _ R s => s.heap.get? l = some { cls := .type "dict", dict := dd, data := .dict es ep, slots := sl } ∧ R (.ok (.ret .notImplemented)) s) :=
  .of_wp fun prog w A R s h => by obtain ⟨hp, g, d, tk, os⟩ := s; obtain ⟨hl, h⟩ := h; wp_walk using wpAny_loadPart' hl, wpAny_load hl; exact ⟨_, rfl, h⟩
section
variable {A : Around} {s : Shared}
theorem handD_str_dict {l : Addr} {o : Obj} {es : Array DictEntry} {ep : Nat} (b : Str) (u : Tok) (ho : s.heap.get? l = some o) (hc : o.ExactDict) (hd : o.data = .dict es ep) (hu : A.units < cLine) : RcAt A s (.str b u) (.ref l) false := fun prog w E Q h => by
  obtain ⟨cls, dd, data, sl⟩ := o
  obtain ⟨hc1, hc2, hc3⟩ := hc
  simp only at hc1 hc2 hc3 hd
  subst hc1 hc2 hc3 hd
  exact rc_eq_decline_or (k := false) (typeIs_str s b u) ⟨_, ho, rfl⟩ (by decide) F.sub_dict_str F.slot_str_eq F.slot_dict_eq_refl
    (fun _ hq => call_meets F.slot_str_eq (typeIs_str s b u) F.entry_str_eq (F.args_str_eq_2 _ _) (handD_str_eq_declines_dict b u l es ep none #[]) ⟨ho, hq⟩)
    (fun _ hq => call_meets F.slot_dict_eq_refl ⟨_, ho, rfl⟩ F.entry_dict_eq (F.args_dict_eq_2 _ _) (handD_dict_eq_declines_str l es ep none #[] b u) ⟨ho, hq⟩)
    (fun _ hq => wpAny_of_eq (rfl : isSame (.str b u) (.ref l) = pure false) hq) (.inr hu) h
theorem handD_eqAt_str_dict {l : Addr} {o : Obj} {es : Array DictEntry} {ep : Nat} (b : Str) (u : Tok) (ho : s.heap.get? l = some o) (hc : o.ExactDict) (hd : o.data = .dict es ep) (hu : A.units < cLine) : EqAt A s (.str b u) (.ref l) false := fun prog w E Q h => by
  unfold eqBool
  refine wpAny_holding ?_
  refine wpAny_ite_split (fun hab => absurd (eq_of_beq hab) nofun) (fun _ => ?_)
  exact wpAny_bind (handD_str_dict b u ho hc hd hu prog w E _ (wpAny_truthy_bool h))
end
end PySem.SeqAt
namespace DL
open PySem L2
mutual
def depD : D → Nat
  | .lst ds => depL ds + 1
  | .tup ds => depL ds + 1
  | _ => 0
def depL : List D → Nat
  | [] => 0
  | d :: ds => max (depD d) (depL ds)
end
mutual
/-- data that the library's == takes -/
def layD : D → Bool
  | .non => true
  | .bl _ => true
  | .int _ => true
  | .str s => PyData.strOk s
  | .lst ds => layL ds
  | .tup ds => layL ds
  | _ => false
def layL : List D → Bool
  | [] => true
  | d :: ds => layD d && layL ds
end
mutual
theorem lay_py : ∀ d : D, layD d = true → ∃ p, toPy d = some p ∧ p.canLay0 = true ∧ p.depth = depD d
  | .non, h => ⟨.none, by simp [toPy], by simp [PyData.canLay0], by simp [PyData.depth, depD]⟩
  | .bl b, h => ⟨.bool b, by simp [toPy], by simp [PyData.canLay0], by simp [PyData.depth, depD]⟩
  | .int b, h => ⟨.int b, by simp [toPy], by simp [PyData.canLay0], by simp [PyData.depth, depD]⟩
  | .str b, h => ⟨.str b, by simp [toPy], by simpa [PyData.canLay0, layD] using h, by simp [PyData.depth, depD]⟩
  | .lst ds, h => by
    obtain ⟨p, h1, h2, h3⟩ := lay_pyL ds (by simpa [layD] using h)
    exact ⟨.list p, by simp [toPy, h1], by simpa [PyData.canLay0] using h2, by simp [PyData.depth, depD, h3]⟩
  | .tup ds, h => by
    obtain ⟨p, h1, h2, h3⟩ := lay_pyL ds (by simpa [layD] using h)
    exact ⟨.tuple p, by simp [toPy, h1], by simpa [PyData.canLay0] using h2, by simp [PyData.depth, depD, h3]⟩
  | .ty _, h => by simp [layD] at h
  | .cls _, h => by simp [layD] at h
  | .box _, h => by simp [layD] at h
  | .dct _, h => by simp [layD] at h
  | .ins _ _, h => by simp [layD] at h
  | .set _, h => by simp [layD] at h
  | .exn _ _ _, h => by simp [layD] at h
theorem lay_pyL : ∀ d : List D, layL d = true → ∃ p, toPyL d = some p ∧ PyData.canLayAll0 p = true ∧ PyData.depthAll p = depL d
  | [], h => ⟨[], by simp [toPyL], by simp [PyData.canLayAll0], by simp [PyData.depthAll, depL]⟩
  | d :: ds, h => by
    simp only [layL, Bool.and_eq_true] at h
    obtain ⟨p, h1, h2, h3⟩ := lay_py d h.1
    obtain ⟨q, k1, k2, k3⟩ := lay_pyL ds h.2
    exact ⟨p :: q, by simp [toPyL, h1, k1], by simp [PyData.canLayAll0, h2, k2], by simp [PyData.depthAll, depL, h3, k3]⟩
end
/-- a list's box as a list -/
def dr (m : Mem) : D → D
  | .box n => match m[n]? with
    | some (.lst ds) => .lst ds
    | _ => .box n
  | d => d
section
variable {g : Gd} {B : Bx} {H : Hp} {m : Mem}
theorem dr_dp (S : SRel g B H m) {d : D} {v : V} {p : PyData} (r : Rep g B H d v) (h : toPy (dr m d) = some p) : Dp g.K H v p := by
  cases d with
  | box n =>
    unfold Rep at r
    obtain ⟨a, rfl, e⟩ := r
    obtain ⟨d', hm, hb⟩ := S.get e
    simp only [dr, hm] at h
    match d', h, hb with
    | .lst ds, h, hb =>
      unfold BoxAt at hb
      obtain ⟨xs, h1, h2⟩ := hb
      simp only [toPy, Option.map_eq_some_iff] at h
      obtain ⟨ps, h3, rfl⟩ := h
      exact .lst (.of h1) (repL_dp ds ps h3 h2)
    | .non, h, hb => simp [toPy] at h
    | .bl _, h, hb => simp [toPy] at h
    | .int _, h, hb => simp [toPy] at h
    | .str _, h, hb => simp [toPy] at h
    | .tup _, h, hb => simp [toPy] at h
    | .ty _, h, hb => simp [toPy] at h
    | .cls _, h, hb => simp [toPy] at h
    | .box _, h, hb => simp [toPy] at h
    | .dct _, h, hb => simp [toPy] at h
    | .ins _ _, h, hb => simp [toPy] at h
    | .set _, h, hb => simp [toPy] at h
    | .exn _ _ _, h, hb => simp [toPy] at h
  | _ => exact rep_dp _ p h r
end
/-- the scalars that == tells apart without more -/
def scalD : D → D → Bool
  | .non, .non => true | .non, .int _ => true | .int _, .non => true | .non, .bl _ => true | .bl _, .non => true | .non, .str _ => true | .str _, .non => true
  | .int _, .int _ => true | .bl _, .bl _ => true | .str _, .str _ => true
  | .int _, .str _ => true | .str _, .int _ => true | .bl _, .str _ => true | .str _, .bl _ => true
  | _, _ => false
/-- sequences of which one is empty, a list and a tuple: their items are not looked at -/
def eqE : D → D → Bool
  | .tup xs, .tup ys => xs.isEmpty || ys.isEmpty
  | .lst xs, .lst ys => xs.isEmpty || ys.isEmpty
  | .tup _, .lst _ => true
  | .lst _, .tup _ => true
  | _, _ => false
theorem dr_lst {g : Gd} {B : Bx} {H : Hp} {m : Mem} (S : SRel g B H m) {d : D} {v : V} {ds : List D} (h : dr m d = .lst ds) (r : Rep g B H d v) : ∃ a xs, v = .ref a ∧ SqL g.K H a xs ∧ RepL g B H ds xs := by
  have hl : lstI m d = some ds := by
    match d, h with
    | .lst xs, h =>
      simp only [dr, D.lst.injEq] at h
      rw [h]
      rfl
    | .box n, h =>
      cases e : m[n]? with
      | none => simp [dr, e] at h
      | some x =>
        cases x <;> simp [dr, e] at h
        simp [lstI, e, h]
  obtain ⟨a, xs, e, h1, h2⟩ := lstI_of S hl r
  exact ⟨a, xs, e, lsq h1, h2⟩
theorem dr_tup {g : Gd} {B : Bx} {H : Hp} {m : Mem} {d : D} {v : V} {ds : List D} (h : dr m d = .tup ds) (r : Rep g B H d v) : ∃ a xs, v = .ref a ∧ SqT g.K H a xs ∧ RepL g B H ds xs := by
  match d, h, r with
  | .tup xs, h, r =>
    simp only [dr, D.tup.injEq] at h
    subst h
    exact of_tup r
  | .box n, h, r =>
    exfalso
    cases e : m[n]? with
    | none => simp [dr, e] at h
    | some x => cases x <;> simp [dr, e] at h
theorem eqE_of {X : Cx} {pins : List (Addr × Obj)} {σ : St} {s : Shared} {B : Bx} {H : Hp} {m : Mem} {a b : D} {x y : V} {v u : Value} (hu : X.A.units + 200 < cLine) (I : Inv X pins σ H s) (S : SRel (gd X) B H m) (h : eqE (dr m a) (dr m b) = true) (ra : Rep (gd X) B H a x) (rb : Rep (gd X) B H b y) (rx : RelV x v) (ry : RelV y u) :
    SeqAt.RcAt X.A s v u (eqD (dr m a) (dr m b)) ∧ SeqAt.RcNeAt X.A s v u (!eqD (dr m a) (dr m b)) := by
  have hu0 : X.A.units < cLine := by omega
  cases ea : dr m a <;> cases eb : dr m b <;> rw [ea, eb] at h <;> simp only [eqE, Bool.or_eq_true, List.isEmpty_iff, reduceCtorEq] at h
  · rename_i ds es
    obtain ⟨l, vs, rfl, h1, r1⟩ := dr_tup ea ra
    obtain ⟨k, ws, rfl, h2, r2⟩ := dr_tup eb rb
    cases rx
    cases ry
    obtain ⟨its, rv, p, hz⟩ := I.tuple h1
    obtain ⟨its2, rv2, p2, hz2⟩ := I.tuple h2
    have n1 : its.length = ds.length := by rw [r1.len, rv.length]
    have n2 : its2.length = es.length := by rw [r2.len, rv2.length]
    have e : eqD (.tup ds) (.tup es) = ((List.range (min its.toArray.size its2.toArray.size)).all (fun _ => true) && its.toArray.size == its2.toArray.size) := by
      rcases h with h | h
      · subst h
        have : its = [] := List.length_eq_zero_iff.mp n1
        subst this
        cases es with
        | nil =>
          have : its2 = [] := List.length_eq_zero_iff.mp n2
          subst this
          simp [eqD, eqL]
        | cons z zs => simp [eqD, eqL, n2]
      · subst h
        have : its2 = [] := List.length_eq_zero_iff.mp n2
        subst this
        cases ds with
        | nil =>
          have : its = [] := List.length_eq_zero_iff.mp n1
          subst this
          simp [eqD, eqL]
        | cons z zs => simp [eqD, eqL, n1]
    have vac : ∀ j (j1 : j < its.toArray.size) (j2 : j < its2.toArray.size), SeqAt.EqAt X.A.in1 s its.toArray[j] its2.toArray[j] ((fun _ => true) j) := fun j j1 j2 => by
      simp only [List.size_toArray] at j1 j2
      rcases h with h | h
      · subst h; simp at n1; subst n1; simp at j1
      · subst h; simp at n2; subst n2; simp at j2
    rw [e]
    exact ⟨SeqAt.RcAt.tuples (show s.heap.IsTuple l its.toArray from p) (show s.heap.IsTuple k its2.toArray from p2) hu0 vac, SeqAt.RcNeAt.tuples (show s.heap.IsTuple l its.toArray from p) (show s.heap.IsTuple k its2.toArray from p2) hu0 vac⟩
  · obtain ⟨l, vs, rfl, h1, r1⟩ := dr_tup ea ra
    obtain ⟨k, ws, rfl, h2, r2⟩ := dr_lst S eb rb
    cases rx
    cases ry
    obtain ⟨its, rv, p, hz⟩ := I.tuple h1
    obtain ⟨its2, rv2, p2, hz2⟩ := I.list h2
    simp only [eqD]
    exact ⟨SeqAt.RcAt.tuple_list (show s.heap.IsTuple l its.toArray from p) p2.isList hu0, SeqAt.RcNeAt.tuple_list (show s.heap.IsTuple l its.toArray from p) p2.isList hu0⟩
  · obtain ⟨l, vs, rfl, h1, r1⟩ := dr_lst S ea ra
    obtain ⟨k, ws, rfl, h2, r2⟩ := dr_tup eb rb
    cases rx
    cases ry
    obtain ⟨its, rv, p, hz⟩ := I.list h1
    obtain ⟨its2, rv2, p2, hz2⟩ := I.tuple h2
    simp only [eqD]
    exact ⟨SeqAt.RcAt.list_tuple p.isList (show s.heap.IsTuple k its2.toArray from p2) hu0, SeqAt.RcNeAt.list_tuple p.isList (show s.heap.IsTuple k its2.toArray from p2) hu0⟩
  · rename_i ds es
    obtain ⟨l, vs, rfl, h1, r1⟩ := dr_lst S ea ra
    obtain ⟨k, ws, rfl, h2, r2⟩ := dr_lst S eb rb
    cases rx
    cases ry
    obtain ⟨its, rv, p, hz⟩ := I.list h1
    obtain ⟨its2, rv2, p2, hz2⟩ := I.list h2
    have n1 : its.length = ds.length := by rw [r1.len, rv.length]
    have n2 : its2.length = es.length := by rw [r2.len, rv2.length]
    by_cases hs : its.length = its2.length
    · have hd : ds = [] ∧ es = [] := by
        rcases h with h | h
        · subst h; exact ⟨rfl, List.length_eq_zero_iff.mp (by rw [← n2, ← hs, n1]; rfl)⟩
        · subst h; exact ⟨List.length_eq_zero_iff.mp (by rw [← n1, hs, n2]; rfl), rfl⟩
      obtain ⟨rfl, rfl⟩ := hd
      have : its = [] := List.length_eq_zero_iff.mp n1
      subst this
      have e : eqD (.lst []) (.lst []) = (List.range ([] : List Value).toArray.size).all fun _ => true := by simp [eqD, eqL]
      have vac : ∀ j (j1 : j < ([] : List Value).toArray.size) (j2 : j < its2.toArray.size), SeqAt.EqAt X.A.in1 s ([] : List Value).toArray[j] its2.toArray[j] ((fun _ => true) j) := fun j j1 j2 => absurd j1 (by simp)
      rw [e]
      exact ⟨SeqAt.RcAt.lists p.isList p2.isList (by simpa using hs) hu0 vac, SeqAt.RcNeAt.lists p.isList p2.isList (by simpa using hs) hu0 vac⟩
    · have e : eqD (.lst ds) (.lst es) = false := by
        rcases h with h | h
        · subst h
          cases es with
          | nil => exact absurd (n1.trans n2.symm) hs
          | cons z zs => simp [eqD, eqL]
        · subst h
          cases ds with
          | nil => exact absurd (n1.trans n2.symm) hs
          | cons z zs => simp [eqD, eqL]
      rw [e]
      exact ⟨SeqAt.RcAt.lists_lengths p.isList p2.isList (by simpa using hs) hu0, SeqAt.RcNeAt.lists_lengths p.isList p2.isList (by simpa using hs) hu0⟩
def eqOk (m : Mem) (a b : D) : Bool := scalD a b || (eqE (dr m a) (dr m b) || (layD (dr m a) && layD (dr m b) && decide (min (depD (dr m a)) (depD (dr m b)) ≤ 190)))
def opEq : Op2 := fun m a b => if eqOk m a b then some (.bl (eqD (dr m a) (dr m b))) else none
def opNe : Op2 := fun m a b => if eqOk m a b then some (.bl (!eqD (dr m a) (dr m b))) else none
theorem scal_of {g : Gd} {B : Bx} {H : Hp} {m : Mem} {a b : D} {x y : V} (h : scalD a b = true) (ra : Rep g B H a x) (rb : Rep g B H b y) : scal x y = true ∧ decide (x = y) = eqD (dr m a) (dr m b) := by
  cases a <;> cases b <;> first | (simp [scalD] at h; done) | skip
  all_goals
    unfold Rep at ra rb
    subst ra rb
    refine ⟨rfl, ?_⟩
    simp only [dr, eqD]
    first | rfl | exact dec_bl | exact dec_int | exact dec_str
theorem do_eq {X : Cx} (hu : X.A.units + 200 < cLine) : OpR X (compareOp .Eq) (rD (gd X) opEq) := by
  intro pins s σ H x y v u Q I rx ry ⟨B, m, a, b, d, S, ra, rb, e, k⟩
  unfold opEq at e
  split at e
  · rename_i c
    injection e with e
    subst e
    unfold eqOk at c
    rw [Bool.or_eq_true] at c
    rcases c with c | c
    · obtain ⟨h1, h2⟩ := scal_of (m := m) c ra rb
      refine op_eq pins s σ H x y v u Q I rx ry ⟨h1, ?_⟩
      rw [h2]
      exact k.same S rep_bl
    rw [Bool.or_eq_true] at c
    rcases c with c | c
    · exact (eqE_of hu I S c ra rb rx ry).1 X.prog X.w X.xe _ ⟨.bl _, H, I, rfl, k.same S rep_bl⟩
    · simp only [Bool.and_eq_true, decide_eq_true_eq] at c
      obtain ⟨⟨c1, c2⟩, c3⟩ := c
      obtain ⟨p, p1, p2, p3⟩ := lay_py _ c1
      obtain ⟨q, q1, q2, q3⟩ := lay_py _ c2
      obtain ⟨as, r1⟩ := Dp.reads I p x v (dr_dp S ra p1) rx
      obtain ⟨bs, r2⟩ := Dp.reads I q y u (dr_dp S rb q1) ry
      refine SeqAt.compareEq_reads r1 r2 p2 q2 (by rw [p3, q3]; omega) ⟨.bl _, H, I, rfl, ?_⟩
      rw [← eqD_py _ _ p q p1 q1]
      exact k.same S rep_bl
  · cases e
theorem do_ne {X : Cx} (hu : X.A.units + 200 < cLine) : OpR X (compareOp .NotEq) (rD (gd X) opNe) := by
  intro pins s σ H x y v u Q I rx ry ⟨B, m, a, b, d, S, ra, rb, e, k⟩
  unfold opNe at e
  split at e
  · rename_i c
    injection e with e
    subst e
    unfold eqOk at c
    rw [Bool.or_eq_true] at c
    rcases c with c | c
    · obtain ⟨h1, h2⟩ := scal_of (m := m) c ra rb
      refine op_ne pins s σ H x y v u Q I rx ry ⟨h1, ?_⟩
      rw [h2]
      exact k.same S rep_bl
    rw [Bool.or_eq_true] at c
    rcases c with c | c
    · exact (eqE_of hu I S c ra rb rx ry).2 X.prog X.w X.xe _ ⟨.bl _, H, I, rfl, k.same S rep_bl⟩
    · simp only [Bool.and_eq_true, decide_eq_true_eq] at c
      obtain ⟨⟨c1, c2⟩, c3⟩ := c
      obtain ⟨p, p1, p2, p3⟩ := lay_py _ c1
      obtain ⟨q, q1, q2, q3⟩ := lay_py _ c2
      obtain ⟨as, r1⟩ := Dp.reads I p x v (dr_dp S ra p1) rx
      obtain ⟨bs, r2⟩ := Dp.reads I q y u (dr_dp S rb q1) ry
      refine SeqAt.compareNe_reads r1 r2 p2 q2 (by rw [p3, q3]; omega) ⟨.bl _, H, I, rfl, ?_⟩
      rw [← eqD_py _ _ p q p1 q1]
      exact k.same S rep_bl
  · cases e

/-! ### in -/
def flatD : D → Bool
  | .non => true
  | .bl _ => true
  | .int _ => true
  | .str _ => true
  | _ => false
def isStr : D → Bool
  | .str _ => true
  | _ => false
/-- what no text is, whatever it holds -/
def isDct : D → Bool
  | .dct _ => true
  | .tup _ => true
  | .lst _ => true
  | _ => false
def oneCode (y : Str) : Option Nat := match y.cps.toList with
  | [c] => some c
  | _ => none
theorem oneCode_of {y : Str} {c : Nat} (h : oneCode y = some c) : y = ⟨#[c]⟩ := by
  obtain ⟨a⟩ := y
  unfold oneCode at h
  split at h
  · rename_i d e
    injection h with h
    subst h
    congr
    exact Array.toList_inj.mp e
  · cases h
/-- x in c: True, False, or not told -/
def inD (m : Mem) (x c : D) : Option Bool := match c with
  | .str z => match x with
    | .str y => (match oneCode y with
      | some c => some (decide (c ∈ z.cps.toList))
      | none => some (!(Builtin.Str.occurrences z y 0 z.length 1).isEmpty))
    | _ => none
  | c => match seqI m c with
    | some ds => if (flatD x && ds.all flatD) || (layD x && layL ds && decide (depD x ≤ 190)) || (isDct x && ds.all isStr) then some (ds.any fun y => eqD y x) else none
    | none => none
def opIn : Op2 := fun m a b => (inD m a b).map D.bl
def opNotIn : Op2 := fun m a b => (inD m a b).map fun t => D.bl (!t)
theorem flat_of {g : Gd} {B : Bx} {H : Hp} {d : D} {v : V} (h : flatD d = true) (r : Rep g B H d v) : flatV v = true := by
  cases d <;> first | (cases h; done) | skip
  all_goals unfold Rep at r; subst r; rfl
theorem eqV_of {g : Gd} {B : Bx} {H : Hp} {a b : D} {x y : V} (ha : flatD a = true) (hb : flatD b = true) (ra : Rep g B H a x) (rb : Rep g B H b y) : eqV x y = eqD a b := by
  cases a <;> first | (cases ha; done) | skip
  all_goals cases b <;> first | (cases hb; done) | skip
  all_goals
    unfold Rep at ra rb
    subst ra rb
    simp [eqV, eqD]
theorem inV_of {g : Gd} {B : Bx} {H : Hp} {x : D} {v : V} (hx : flatD x = true) (rx : Rep g B H x v) : ∀ {ds : List D} {vs : List V}, ds.all flatD = true → RepL g B H ds vs → vs.all flatV = true ∧ inV v vs = ds.any fun y => eqD y x
  | [], vs, h, r => by unfold RepL at r; subst r; exact ⟨rfl, rfl⟩
  | d :: ds, vs, h, r => by
    unfold RepL at r
    obtain ⟨y, ys, rfl, r1, r2⟩ := r
    rw [List.all_cons, Bool.and_eq_true] at h
    obtain ⟨h1, h2⟩ := inV_of hx rx h.2 r2
    refine ⟨by rw [List.all_cons, flat_of h.1 r1, h1] <;> rfl, ?_⟩
    unfold inV at *
    rw [List.any_cons, List.any_cons, eqV_of h.1 hx r1 rx, h2]
theorem any_py {x : D} {q : PyData} (hx : toPy x = some q) : ∀ {ds : List D} {ps : List PyData}, toPyL ds = some ps → (ps.any fun y => PyData.eqv y q) = ds.any fun y => eqD y x
  | [], ps, h => by simp only [toPyL, Option.some.injEq] at h; subst h; rfl
  | d :: ds, ps, h => by
    simp only [toPyL, Option.bind_eq_some_iff, Option.map_eq_some_iff] at h
    obtain ⟨q1, h1, q2, h2, rfl⟩ := h
    rw [List.any_cons, List.any_cons, any_py hx h2, eqD_py d x q1 q h1 hx]
theorem str_vals {g : Gd} {B : Bx} {H : Hp} : ∀ {ds : List D} {vs : List V} {us : List Value}, ds.all isStr = true → RepL g B H ds vs → Vals vs us → ∀ u ∈ us, ∃ z t, u = Value.str z t
  | [], vs, us, h, r, rv => by
    unfold RepL at r; subst r; cases rv
    intro u hu; cases hu
  | d :: ds, vs, us, h, r, rv => by
    unfold RepL at r
    obtain ⟨y, ys, rfl, r1, r2⟩ := r
    rw [List.all_cons, Bool.and_eq_true] at h
    cases rv with
    | cons e t =>
      intro u hu
      rcases List.mem_cons.mp hu with q | q
      · subst q
        match d, h.1, r1 with
        | .str z, _, r1 =>
          obtain rfl := of_str r1
          obtain ⟨t, rfl⟩ := e
          exact ⟨z, t, rfl⟩
      · exact str_vals h.2 r2 t u q
theorem any_str_dct {x : D} (hx : isDct x = true) : ∀ {ds : List D}, ds.all isStr = true → (ds.any fun y => eqD y x) = false
  | [], _ => rfl
  | d :: ds, h => by
    rw [List.all_cons, Bool.and_eq_true] at h
    rw [List.any_cons, any_str_dct hx h.2]
    match d, h.1, x, hx with
    | .str z, _, .dct _, _ => simp [eqD]
    | .str z, _, .tup _, _ => simp [eqD]
    | .str z, _, .lst _, _ => simp [eqD]
/-- in, not in a list or a tuple -/
theorem in_seq {X : Cx} (hu : X.A.units + 400 < cLine) {pins : List (Addr × Obj)} {s : Shared} {σ : St} {H : Hp} {B : Bx} {m : Mem} {x c : D} {ds : List D} {v w : V} {u uc : Value} {Q : Value → Shared → Prop} (I : Inv X pins σ H s) (S : SRel (gd X) B H m) (rx : Rep (gd X) B H x v) (rc : Rep (gd X) B H c w)
    (ru : RelV v u) (rw' : RelV w uc) (hs : seqI m c = some ds) (ok : ((flatD x && ds.all flatD) || (layD x && layL ds && decide (depD x ≤ 190)) || (isDct x && ds.all isStr)) = true) (neg : Bool)
    (hq : Q (.bool (if neg then !(ds.any fun y => eqD y x) else ds.any fun y => eqD y x)) s) : wpAny (model X.prog X.w) X.A (compareOp (if neg then .NotIn else .In) u uc) Q X.xe s := by
  obtain ⟨a, xs, rfl, hl, rl⟩ := seqI_of S hs rc
  obtain rfl : uc = .ref a := rw'
  rw [Bool.or_eq_true, Bool.or_eq_true] at ok
  rcases ok with (ok | ok) | ok
  · rw [Bool.and_eq_true] at ok
    obtain ⟨h1, h2⟩ := inV_of ok.1 rx ok.2 rl
    have fv := flat_of ok.1 rx
    rcases hl with hl | hl
    · obtain ⟨its, r, pl, hz⟩ := I.list hl
      have key : its.toArray.any (eqU v) = ds.any fun y => eqD y x := by rw [show its.toArray.any (eqU v) = its.any (eqU v) by simp, any_eqU r h1]; exact h2
      cases neg with
      | false => exact SeqAt.in_listAt (eqU v) pl.isList (fun w hw => mem_eqAt ru fv r h1 w (by simpa using hw)) (by rw [key]; exact hq)
      | true => exact SeqAt.notIn_listAt (eqU v) pl.isList (fun w hw => mem_eqAt ru fv r h1 w (by simpa using hw)) (by rw [key]; exact hq)
    · obtain ⟨its, r, pl, hz⟩ := I.tuple hl
      have key : its.toArray.any (eqU v) = ds.any fun y => eqD y x := by rw [show its.toArray.any (eqU v) = its.any (eqU v) by simp, any_eqU r h1]; exact h2
      cases neg with
      | false => exact SeqAt.in_tupleAt (eqU v) pl (fun w hw => mem_eqAt ru fv r h1 w (by simpa using hw)) (by rw [key]; exact hq)
      | true => exact SeqAt.notIn_tupleAt (eqU v) pl (fun w hw => mem_eqAt ru fv r h1 w (by simpa using hw)) (by rw [key]; exact hq)
  · simp only [Bool.and_eq_true, decide_eq_true_eq] at ok
    obtain ⟨⟨c1, c2⟩, c3⟩ := ok
    obtain ⟨p, p1, p2, p3⟩ := lay_py _ c1
    obtain ⟨ps, q1, q2, q3⟩ := lay_pyL _ c2
    obtain ⟨as, r1⟩ := Dp.reads I p v u (rep_dp _ p p1 rx) ru
    have hr : X.A.units + 1 + min (PyData.depthAll ps) p.depth < cLine := by rw [p3]; omega
    rcases hl with hl | hl
    · obtain ⟨bs, r2⟩ := Dp.reads I (.list ps) (.ref a) (.ref a) (.lst hl (repL_dp _ ps q1 rl)) rfl
      cases neg with
      | false => exact SeqAt.in_list_reads r2 r1 q2 p2 hr (by rw [any_py p1 q1]; exact hq)
      | true => exact SeqAt.notIn_list_reads r2 r1 q2 p2 hr (by rw [any_py p1 q1]; exact hq)
    · obtain ⟨bs, r2⟩ := Dp.reads I (.tuple ps) (.ref a) (.ref a) (.tup hl (repL_dp _ ps q1 rl)) rfl
      cases neg with
      | false => exact SeqAt.in_tuple_reads r2 r1 q2 p2 hr (by rw [any_py p1 q1]; exact hq)
      | true => exact SeqAt.notIn_tuple_reads r2 r1 q2 p2 hr (by rw [any_py p1 q1]; exact hq)
  · rw [Bool.and_eq_true] at ok
    rw [any_str_dct ok.1 ok.2] at hq
    have he : ∀ (its : List Value), Vals xs its → ∀ y, y ∈ its.toArray → SeqAt.EqAt X.A.in1 s y u false := fun its r y hy => by
      obtain ⟨z, t, rfl⟩ := str_vals ok.2 rl r y (by simpa using hy)
      have hu1 : X.A.in1.units < cLine := by show X.A.units + 1 < cLine; omega
      match x, ok.1, rx with
      | .dct kvs, _, rx =>
        unfold Rep at rx
        obtain ⟨p, ys, rfl, _, hd, _⟩ := rx
        obtain rfl : u = .ref p := ru
        obtain ⟨_, _, vs, _, o, es, ep, ho, hx, hdt, _⟩ := dk_rd I.hok hd
        exact SeqAt.handD_eqAt_str_dict z t ho hx hdt hu1
      | .tup kvs, _, rx =>
        obtain ⟨p, ys, rfl, hd, _⟩ := of_tup rx
        obtain rfl : u = .ref p := ru
        obtain ⟨its', _, p', _⟩ := I.tuple hd
        exact SeqAt.EqAt.str_tuple z t (show s.heap.IsTuple p its'.toArray from p') hu1
      | .lst kvs, _, rx =>
        obtain ⟨p, ys, rfl, hd, _⟩ := of_lst rx
        obtain rfl : u = .ref p := ru
        obtain ⟨its', _, p', _⟩ := I.list hd.sq
        exact SeqAt.EqAt.str_list z t p'.isList hu1
    have hf : ∀ its : List Value, its.toArray.any (fun _ => false) = false := fun its => by simp
    rcases hl with hl | hl
    · obtain ⟨its, r, pl, hz⟩ := I.list hl
      cases neg with
      | false => exact SeqAt.in_listAt (fun _ => false) pl.isList (he its r) (by rw [hf]; exact hq)
      | true => exact SeqAt.notIn_listAt (fun _ => false) pl.isList (he its r) (by rw [hf]; exact hq)
    · obtain ⟨its, r, pl, hz⟩ := I.tuple hl
      cases neg with
      | false => exact SeqAt.in_tupleAt (fun _ => false) pl (he its r) (by rw [hf]; exact hq)
      | true => exact SeqAt.notIn_tupleAt (fun _ => false) pl (he its r) (by rw [hf]; exact hq)
theorem in_any {X : Cx} (hu : X.A.units + 400 < cLine) (neg : Bool) : OpR X (compareOp (if neg then .NotIn else .In)) (rD (gd X) fun m a b => (inD m a b).map fun t => D.bl (if neg then !t else t)) := by
  intro pins s σ H x y v u Q I rx ry ⟨B, m, a, b, d, S, ra, rb, e, k⟩
  obtain ⟨t, e1, rfl⟩ := Option.map_eq_some_iff.mp e
  unfold inD at e1
  split at e1
  · rename_i z
    split at e1
    · rename_i z2
      split at e1
      · rename_i c hc
        injection e1 with e1
        subst e1
        obtain rfl := oneCode_of hc
        cases neg with
        | false => exact op_in_sign pins s σ H x y v u Q I rx ry ⟨c, z, of_str ra, of_str rb, k.same S rep_bl⟩
        | true => exact op_notIn_sign pins s σ H x y v u Q I rx ry ⟨c, z, of_str ra, of_str rb, k.same S rep_bl⟩
      · injection e1 with e1
        subst e1
        cases neg with
        | false => exact op_in_str pins s σ H x y v u Q I rx ry ⟨z2, z, of_str ra, of_str rb, k.same S rep_bl⟩
        | true => exact op_notin_str pins s σ H x y v u Q I rx ry ⟨z2, z, of_str ra, of_str rb, k.same S rep_bl⟩
    · cases e1
  · split at e1
    · rename_i ds hs
      split at e1
      · rename_i ok
        injection e1 with e1
        subst e1
        exact in_seq hu I S ra rb rx ry hs ok neg ⟨.bl _, H, I, rfl, by cases neg <;> exact k.same S rep_bl⟩
      · cases e1
    · cases e1
theorem do_in {X : Cx} (hu : X.A.units + 400 < cLine) : OpR X (compareOp .In) (rD (gd X) opIn) := in_any hu false
theorem do_notin {X : Cx} (hu : X.A.units + 400 < cLine) : OpR X (compareOp .NotIn) (rD (gd X) opNotIn) := in_any hu true
end DL
namespace DL
open PySem L2

section
variable {X : Cx} {W : WX} {pos : Pos}
/-! ### calls of built-in functions and types -/
def rN (g : Gd) (op : OpN) : List V → Hp → VK → Prop := fun xs H Q => ∃ B m ds d, SRel g B H m ∧ RepL g B H ds xs ∧ op m ds = some d ∧ Aft g B H m d Q
def eCallB (op : OpN) (t : DA) : DE := fun δ m => (t δ m).bind fun ds m1 => lf (op m1 ds) m1
theorem tCB_of {op : OpN} {t : DA} : ∀ σ H Q, tE (gd X) W (eCallB op t) σ H Q → tCB (rN (gd X) op) (tA (gd X) W t) σ H Q := fun σ H Q ⟨B, m, δ, S, L, h⟩ =>
  ⟨B, m, δ, S, L, (WP.step h).mono fun ds m1 B1 H1 l1 _ ⟨_, S1, h1⟩ vs rvs => by
    obtain ⟨d, e, k⟩ := h1.lf
    exact ⟨B1, m1, ds, d, S1, rvs, e, fun v B' H' l' S' r' => k B' H' l' S' v r'⟩⟩
theorem dx_callB {x : Str} {p : Pos} {e : Expr} {es : List Expr} {id : String} {op : OpN} {t : DA} (hc : CallR X (.builtin id) (rN (gd X) op)) (hg : Gl X x) (hm : X.mg x = none) (hv : bootBuiltins x = some (.builtin id)) (ha : PA X (e :: es) (tA (gd X) W t)) (hn : x ≠ "__name__" := by decide) (hdb : (x == ("__debug__" : Str)) = false := by decide)
    (he : starEach (e :: es) X.env = (false, eval e X.env) :: starEach es X.env := by rfl) (hpl : (backTo pos (starEach es X.env)).any (·.1) = false := by rfl) : PE X (.Call (.Name x p) (e :: es) [] pos) (tE (gd X) W (eCallB op t)) :=
  PE.imp (pe_callB hc hg hm hv ha hn hdb he hpl) tCB_of
theorem dx_callTy {x : Str} {p : Pos} {e : Expr} {es : List Expr} {id : String} {op : OpN} {t : DA} (hc : CallR X (.type id) (rN (gd X) op)) (hg : Gl X x) (hm : X.mg x = none) (hv : bootBuiltins x = some (.type id)) (ha : PA X (e :: es) (tA (gd X) W t)) (hn : x ≠ "__name__" := by decide) (hdb : (x == ("__debug__" : Str)) = false := by decide)
    (he : starEach (e :: es) X.env = (false, eval e X.env) :: starEach es X.env := by rfl) (hpl : (backTo pos (starEach es X.env)).any (·.1) = false := by rfl) : PE X (.Call (.Name x p) (e :: es) [] pos) (tE (gd X) W (eCallB op t)) :=
  PE.imp (pe_callTy hc hg hm hv ha hn hdb he hpl) tCB_of
/-- len -/
def opLen : OpN := fun m ds => match ds with
  | [.str s] => if s.length ≤ sizeLine then some (.int (s.length : Nat)) else none
  | [d] => (seqI m d).map fun xs => .int (xs.length : Nat)
  | _ => none
theorem dc_len : CallR X (.builtin "len") (rN (gd X) opLen) := by
  intro pins s σ H xs us Q I rx ⟨B, m, ds, d, S, r, e, k⟩
  unfold opLen at e
  split at e
  · rename_i z
    split at e
    · rename_i c
      injection e with e
      subst e
      obtain ⟨x, rfl, r1⟩ := repL1 r
      obtain rfl := of_str r1
      exact call_len pins s σ H _ us Q I rx ⟨_, z.length, rfl, ⟨c, rfl⟩, k.same S rep_int⟩
    · cases e
  · rename_i d' _
    obtain ⟨ys, e1, rfl⟩ := Option.map_eq_some_iff.mp e
    obtain ⟨x, rfl, r1⟩ := repL1 r
    obtain ⟨a, vs, rfl, hl, rl⟩ := seqI_of S e1 r1
    refine call_len pins s σ H _ us Q I rx ⟨_, ys.length, rfl, ?_, k.same S rep_int⟩
    rcases hl with hl | hl
    · exact .inl ⟨vs, hl, rl.len⟩
    · exact .inr ⟨vs, hl, rl.len⟩
  · cases e
def opAbs : OpN := fun _ ds => match ds with
  | [.int i] => some (.int (if i < 0 then -i else i))
  | _ => none
theorem dc_abs : CallR X (.builtin "abs") (rN (gd X) opAbs) := by
  intro pins s σ H xs us Q I rx ⟨B, m, ds, d, S, r, e, k⟩
  match ds, e, r with
  | [.int i], e, r =>
    injection e with e
    subst e
    obtain ⟨x, rfl, r1⟩ := repL1 r
    obtain rfl := of_int r1
    exact call_abs pins s σ H _ us Q I rx ⟨i, rfl, k.same S rep_int⟩
def opInt : OpN := fun _ ds => match ds with
  | [.int i] => some (.int i)
  | [.bl b] => some (.int (if b then 1 else 0))
  | _ => none
theorem dc_int : CallR X (.type "int") (rN (gd X) opInt) := by
  intro pins s σ H xs us Q I rx ⟨B, m, ds, d, S, r, e, k⟩
  unfold opInt at e
  split at e
  · injection e with e
    subst e
    obtain ⟨x, rfl, r1⟩ := repL1 r
    obtain rfl := of_int r1
    exact call_int1 pins s σ H _ us Q I rx (.inl ⟨_, rfl, k.same S rep_int⟩)
  · injection e with e
    subst e
    obtain ⟨x, rfl, r1⟩ := repL1 r
    obtain rfl := of_bl r1
    exact call_int1 pins s σ H _ us Q I rx (.inr ⟨_, rfl, k.same S rep_int⟩)
  · cases e
/-- tuple(x) -/
def opTuple : OpN := fun m ds => match ds with
  | [d] => (seqI m d).map .tup
  | _ => none
theorem dc_tuple : CallR X (.type "tuple") (rN (gd X) opTuple) := by
  intro pins s σ H xs us Q I rx ⟨B, m, ds, d, S, r, e, k⟩
  unfold opTuple at e
  split at e
  · rename_i d'
    obtain ⟨ys, e1, rfl⟩ := Option.map_eq_some_iff.mp e
    obtain ⟨x, rfl, r1⟩ := repL1 r
    obtain ⟨a, vs, rfl, hl, rl⟩ := seqI_of S e1 r1
    refine call_tuple_of pins s σ H _ us Q I rx ⟨a, vs, rfl, ?_⟩
    rcases hl with hl | hl
    · exact .inl ⟨hl, fun p hp => k.tup S rl hp⟩
    · exact .inr ⟨hl, k.same S (by unfold Rep; exact ⟨a, vs, rfl, hl, rl⟩)⟩
  · cases e
/-- list(x): a list that nobody changes -/
def opList : OpN := fun m ds => match ds with
  | [d] => (seqI m d).map .lst
  | _ => none
theorem dc_list : CallR X (.type "list") (rN (gd X) opList) := by
  intro pins s σ H xs us Q I rx ⟨B, m, ds, d, S, r, e, k⟩
  unfold opList at e
  split at e
  · rename_i d'
    obtain ⟨ys, e1, rfl⟩ := Option.map_eq_some_iff.mp e
    obtain ⟨x, rfl, r1⟩ := repL1 r
    obtain ⟨a, vs, rfl, hl, rl⟩ := seqI_of S e1 r1
    exact call_list_of pins s σ H _ us Q I rx ⟨a, vs, rfl, hl, fun p hp => k.lst S rl hp⟩
  · cases e
/-- all, any of a list of truth values -/
def blsI : List D → Option (List Bool)
  | [] => some []
  | .bl b :: r => (blsI r).map fun bs => b :: bs
  | _ :: _ => none
theorem bls_of {g : Gd} {B : Bx} {H : Hp} : ∀ {ds : List D} {bs : List Bool} {vs : List V}, blsI ds = some bs → RepL g B H ds vs → vs = bs.map V.bl
  | [], bs, vs, h, r => by
    simp only [blsI, Option.some.injEq] at h
    subst h
    unfold RepL at r
    exact r
  | d :: ds, bs, vs, h, r => by
    unfold RepL at r
    obtain ⟨y, ys, rfl, r1, r2⟩ := r
    match d, h, r1 with
    | .bl b, h, r1 =>
      simp only [blsI, Option.map_eq_some_iff] at h
      obtain ⟨bs', h1, rfl⟩ := h
      rw [of_bl r1, bls_of h1 r2]
      rfl
def opAll : OpN := fun m ds => match ds with
  | [d] => (lstI m d).bind fun xs => (blsI xs).map fun bs => .bl (bs.all id)
  | _ => none
def opAny : OpN := fun m ds => match ds with
  | [d] => (lstI m d).bind fun xs => (blsI xs).map fun bs => .bl (bs.any id)
  | _ => none
theorem dc_all (hc : X.calm = true) : CallR X (.builtin "all") (rN (gd X) opAll) := by
  intro pins s σ H xs us Q I rx ⟨B, m, ds, d, S, r, e, k⟩
  unfold opAll at e
  split at e
  · obtain ⟨ys, e1, e2⟩ := Option.bind_eq_some_iff.mp e
    obtain ⟨bs, e3, rfl⟩ := Option.map_eq_some_iff.mp e2
    obtain ⟨x, rfl, r1⟩ := repL1 r
    obtain ⟨a, vs, rfl, hl, rl⟩ := lstI_of S e1 r1
    obtain rfl := bls_of e3 rl
    exact cr_all hc pins s σ H _ us Q I rx ⟨a, bs, rfl, lsq hl, k.same S rep_bl⟩
  · cases e
theorem dc_any (hc : X.calm = true) : CallR X (.builtin "any") (rN (gd X) opAny) := by
  intro pins s σ H xs us Q I rx ⟨B, m, ds, d, S, r, e, k⟩
  unfold opAny at e
  split at e
  · obtain ⟨ys, e1, e2⟩ := Option.bind_eq_some_iff.mp e
    obtain ⟨bs, e3, rfl⟩ := Option.map_eq_some_iff.mp e2
    obtain ⟨x, rfl, r1⟩ := repL1 r
    obtain ⟨a, vs, rfl, hl, rl⟩ := lstI_of S e1 r1
    obtain rfl := bls_of e3 rl
    exact cr_any hc pins s σ H _ us Q I rx ⟨a, bs, rfl, lsq hl, k.same S rep_bl⟩
  · cases e

/-! ### subscripts and slices -/
def opIx : Op2 := fun m a b => match b with
  | .int i => (match a with
    | .str z => if z.length ≤ sizeLine then (atI z.cps.toList i).map fun c => .str ⟨#[c]⟩ else none
    | a => (seqI m a).bind fun ds => atI ds i)
  | _ => none
theorem repL_atI {g : Gd} {B : Bx} {H : Hp} {ds : List D} {vs : List V} {i : Int} {d : D} (r : RepL g B H ds vs) (h : atI ds i = some d) : ∃ v, atI vs i = some v ∧ Rep g B H d v := by
  unfold atI at *
  rw [← r.len]
  obtain ⟨j, h1, h2⟩ := Option.bind_eq_some_iff.mp h
  obtain ⟨v, h3, h4⟩ := r.get h2
  exact ⟨v, by rw [h1]; exact h3, h4⟩
theorem di_ix : IxR X (rD (gd X) opIx) := by
  intro value slice pins s σ H x y v u Q I rx ry ⟨B, m, a, b, d, S, ra, rb, e, k⟩ hsub
  match b, e, rb with
  | .int i, e, rb =>
    obtain rfl := of_int rb
    simp only [opIx] at e
    split at e
    · rename_i z _
      split at e
      · rename_i c
        obtain ⟨cc, e1, rfl⟩ := Option.map_eq_some_iff.mp e
        exact ix_seq value slice pins s σ H x _ v u Q I rx ry (.inr (.inr ⟨z, i, cc, of_str ra, rfl, c, e1, k.same S rep_str⟩)) hsub
      · cases e
    · obtain ⟨ds, e1, e2⟩ := Option.bind_eq_some_iff.mp e
      obtain ⟨p, vs, rfl, hl, rl⟩ := seqI_of S e1 ra
      obtain ⟨w, e3, r3⟩ := repL_atI rl e2
      rcases hl with hl | hl
      · exact ix_seq value slice pins s σ H _ _ v u Q I rx ry (.inl ⟨p, vs, i, w, rfl, rfl, hl, e3, k.same S r3⟩) hsub
      · exact ix_seq value slice pins s σ H _ _ v u Q I rx ry (.inr (.inl ⟨p, vs, i, w, rfl, rfl, hl, e3, k.same S r3⟩)) hsub
theorem dx_ix {a b : Expr} {fa fb : DE} (ha : PE X a (tE (gd X) W fa)) (hb : PE X b (tE (gd X) W fb)) (hs : PlainIx b := by intro _ _; rfl) : PE X (.Subscript a b pos) (tE (gd X) W (eBin opIx fa fb)) := PE.imp (pe_ix di_ix ha hb hs) tOp_of
/-- a part of a slice -/
abbrev DO := Slots → Mem → Rs (Option Int)
def oNone : DO := fun _ m => .ok none m
def oSome (f : DE) : DO := fun δ m => (f δ m).bind fun d m1 => match d with
  | .int i => .ok (some i) m1
  | _ => .bad
def tO (g : Gd) (W : WX) (f : DO) : TO := fun σ H Q => ∃ B m δ, SRel g B H m ∧ Sl g B H δ σ ∧ WP g (fun c d H' => W c d σ H') B H (f δ m) (fun o _ _ H' => Q o H')
theorem PO.imp {e : Option Expr} {t t' : TO} (h : PO X e t) (i : ∀ σ H Q, t' σ H Q → t σ H Q) : PO X e t' := ⟨fun pins s σ H Q I k => h.run pins s σ H Q I (i σ H Q k)⟩
theorem do_none : PO X none (tO (gd X) W oNone) := PO.imp po_none fun σ H Q ⟨B, m, δ, S, L, h⟩ => h B H (Lift.refl _ _) S
theorem do_some {e : Expr} {f : DE} (h : PE X e (tE (gd X) W f)) : PO X (some e) (tO (gd X) W (oSome f)) :=
  PO.imp (po_some h) fun σ H Q ⟨B, m, δ, S, L, h⟩ => ⟨B, m, δ, S, L, (WP.step h).mono fun d m1 B1 H1 l1 _ ⟨_, S1, h1⟩ v rv => by
    match d, h1, rv with
    | .int i, h1, rv => exact ⟨i, of_int rv, h1 B1 H1 (Lift.refl _ _) S1⟩⟩
/-- xs[lo:hi] -/
def cutD {α : Type} (xs : List α) (lo hi : Option Int) : List α := (xs.drop (HT.sIx xs.length 0 lo)).take (HT.sIx xs.length xs.length hi - HT.sIx xs.length 0 lo)
def opSl (m : Mem) (a : D) (lo hi : Option Int) : Option D := match a with
  | .tup ds => some (.tup (cutD ds lo hi))
  | .str z => if z.length ≤ sizeLine then some (.str (cutS z lo hi)) else none
  | a => (lstI m a).map fun ds => .lst (cutD ds lo hi)
theorem RepL.cut {g : Gd} {B : Bx} {H : Hp} {ds : List D} {vs : List V} (r : RepL g B H ds vs) (lo hi : Option Int) : RepL g B H (cutD ds lo hi) (cutV vs lo hi) := by
  unfold cutD cutV
  rw [← r.len]
  exact (r.drop _).take _
def rSlD (g : Gd) : V → Option Int → Option Int → Hp → VK → Prop := fun x lo hi H Q => ∃ B m a d, SRel g B H m ∧ Rep g B H a x ∧ opSl m a lo hi = some d ∧ Aft g B H m d Q
theorem cut_whole {α : Type} {xs : List α} {lo hi : Option Int} (h : HT.sIx xs.length 0 lo = 0 ∧ HT.sIx xs.length xs.length hi = xs.length) : cutD xs lo hi = xs := by
  unfold cutD
  rw [h.1, h.2, List.drop_zero, Nat.sub_zero, List.take_length]
theorem sl_any : SlR X (rSlD (gd X)) := by
  intro pins s σ H x v vl vu lo hi sl Q I rx hs pl pu ⟨B, m, a, d, S, ra, e, k⟩
  unfold opSl at e
  split at e
  · rename_i ds
    injection e with e
    subst e
    obtain ⟨p, vs, rfl, h1, h2⟩ := of_tup ra
    refine sl_tupA pins s σ H _ v vl vu lo hi sl Q I rx hs pl pu ⟨p, vs, rfl, h1, fun hw => ?_, fun _ q hq => k.tup S (h2.cut lo hi) hq⟩
    have : cutD ds lo hi = ds := cut_whole (by rw [h2.len]; exact hw)
    exact k.same S (by rw [this]; exact ra)
  · rename_i z
    split at e
    · rename_i c
      injection e with e
      subst e
      exact sl_str pins s σ H _ v vl vu lo hi sl Q I rx hs pl pu ⟨z, of_str ra, c, k.same S rep_str⟩
    · cases e
  · obtain ⟨ds, e1, rfl⟩ := Option.map_eq_some_iff.mp e
    obtain ⟨p, vs, rfl, h1, h2⟩ := lstI_of S e1 ra
    exact sl_list pins s σ H _ v vl vu lo hi sl Q I rx hs pl pu ⟨p, vs, rfl, lsq h1, fun q hq => k.lst S (h2.cut lo hi) hq⟩
def eSl (f : DE) (lo hi : DO) : DE := fun δ m => (f δ m).bind fun a m1 => (lo δ m1).bind fun l m2 => (hi δ m2).bind fun h m3 => lf (opSl m3 a l h) m3
theorem dx_sl {e : Expr} {f : DE} {lo hi : Option Expr} {fl fh : DO} {p2 : Pos} (he : PE X e (tE (gd X) W f)) (hl : PO X lo (tO (gd X) W fl)) (hh : PO X hi (tO (gd X) W fh)) : PE X (.Subscript e (.Slice lo hi none p2) pos) (tE (gd X) W (eSl f fl fh)) :=
  PE.imp (pe_slice sl_any he hl hh) fun σ H Q ⟨B, m, δ, S, L, h⟩ => ⟨B, m, δ, S, L, (WP.step h).mono fun a m1 B1 H1 l1 _ ⟨_, S1, h1⟩ x rx =>
    ⟨B1, m1, δ, S1, L.up S l1, (WP.step h1).mono fun l m2 B2 H2 l2 _ ⟨_, S2, h2⟩ =>
      ⟨B2, m2, δ, S2, (L.up S l1).up S1 l2, (WP.step h2).mono fun hv m3 B3 H3 l3 _ ⟨_, S3, h3⟩ => by
        obtain ⟨d, e, k⟩ := h3.lf
        exact ⟨B3, m3, a, d, S3, (rx.up S1 l2).up S2 l3, e, fun v B' H' l' S' r' => k B' H' l' S' v r'⟩⟩⟩⟩
end
end DL
namespace DL
open PySem L2
/-! ### sorted texts -/
abbrev cd (s : Str) : List Nat := s.cps.toList
theorem cd_inj {a b : Str} (h : cd a = cd b) : a = b := by
  obtain ⟨x⟩ := a
  obtain ⟨y⟩ := b
  exact congrArg Str.mk (Array.toList_inj.mp h)
def leS (a b : Str) : Bool := !decide (cd b < cd a)
theorem leS_total (a b : Str) : leS a b = true ∨ leS b a = true := by
  unfold leS
  by_cases h : cd b < cd a
  · right
    simp only [Bool.not_eq_true', decide_eq_false_iff_not]
    exact fun k => absurd (List.lt_trans h k) (List.lt_irrefl _)
  · left
    simp [h]
theorem leS_anti {a b : Str} (h : leS a b = true) (k : leS b a = true) : a = b := by
  unfold leS at h k
  simp only [Bool.not_eq_true', decide_eq_false_iff_not] at h k
  exact cd_inj (List.le_antisymm (List.not_lt.mp h) (List.not_lt.mp k))
theorem leS_trans {a b c : Str} (h : leS a b = true) (k : leS b c = true) : leS a c = true := by
  unfold leS at *
  simp only [Bool.not_eq_true', decide_eq_false_iff_not] at *
  exact List.not_lt.mpr (List.le_trans (List.not_lt.mp h) (List.not_lt.mp k))
theorem leS_refl (a : Str) : leS a a = true := by
  rcases leS_total a a with h | h <;> exact h
def insS (x : Str) : List Str → List Str
  | [] => [x]
  | y :: r => if leS x y then x :: y :: r else y :: insS x r
def sortS : List Str → List Str
  | [] => []
  | x :: r => insS x (sortS r)
abbrev SortedS (l : List Str) : Prop := l.Pairwise fun a b => leS a b = true
theorem insS_perm (x : Str) : ∀ l : List Str, (insS x l).Perm (x :: l)
  | [] => .refl _
  | y :: r => by
    unfold insS
    split
    · exact .refl _
    · exact ((insS_perm x r).cons y).trans (.swap x y r)
theorem sortS_perm : ∀ l : List Str, (sortS l).Perm l
  | [] => .refl _
  | x :: r => (insS_perm x _).trans ((sortS_perm r).cons x)
theorem insS_sorted (x : Str) : ∀ l : List Str, SortedS l → SortedS (insS x l)
  | [], _ => by simp [insS, SortedS]
  | y :: r, h => by
    unfold insS
    split
    · rename_i c
      refine List.Pairwise.cons (fun z hz => ?_) h
      rcases List.mem_cons.mp hz with e | e
      · exact e ▸ c
      · exact leS_trans c ((List.pairwise_cons.mp h).1 z e)
    · rename_i c
      have hyx : leS y x = true := by
        rcases leS_total x y with q | q
        · exact absurd q c
        · exact q
      refine List.Pairwise.cons (fun z hz => ?_) (insS_sorted x r (List.pairwise_cons.mp h).2)
      rcases List.mem_cons.mp ((insS_perm x r).mem_iff.mp hz) with e | e
      · exact e ▸ hyx
      · exact (List.pairwise_cons.mp h).1 z e
theorem sortS_sorted : ∀ l : List Str, SortedS (sortS l)
  | [] => .nil
  | x :: r => insS_sorted x _ (sortS_sorted r)
theorem sorted_unique : ∀ {a b : List Str}, a.Perm b → SortedS a → SortedS b → a = b
  | [], b, h, _, _ => (List.nil_perm.mp h).symm
  | x :: r, b, h, ha, hb => by
    cases b with
    | nil => exact absurd h.length_eq (by simp)
    | cons y t =>
      have e : x = y := by
        have h1 : x ∈ y :: t := h.mem_iff.mp List.mem_cons_self
        have h2 : y ∈ x :: r := h.mem_iff.mpr List.mem_cons_self
        rcases List.mem_cons.mp h1 with q | q
        · exact q
        · rcases List.mem_cons.mp h2 with q2 | q2
          · exact q2.symm
          · exact leS_anti ((List.pairwise_cons.mp ha).1 y q2) ((List.pairwise_cons.mp hb).1 x q)
      subst e
      rw [sorted_unique ((List.perm_cons x).mp h) (List.pairwise_cons.mp ha).2 (List.pairwise_cons.mp hb).2]
theorem rising_sorted : ∀ (p : Str) (l : List Str), PyProof.Rows.risingS p l = true → SortedS (p :: l)
  | p, [], _ => by simp [SortedS]
  | p, x :: r, h => by
    unfold PyProof.Rows.risingS at h
    rw [Bool.and_eq_true] at h
    have ih := rising_sorted x r h.2
    have hpx : leS p x = true := by
      have := h.1
      rw [PyProof.Rows.ltCps_eq] at this
      exact this
    refine List.Pairwise.cons (fun z hz => ?_) ih
    rcases List.mem_cons.mp hz with e | e
    · exact e ▸ hpx
    · exact leS_trans hpx ((List.pairwise_cons.mp ih).1 z e)
theorem sortedS_sorted {l : List Str} (h : PyProof.Rows.sortedS l = true) : SortedS l := by
  cases l with
  | nil => exact .nil
  | cons x r => exact rising_sorted x r h
theorem sorted_is {xs ys : List Str} (p : ys.Perm xs) (h : PyProof.Rows.sortedS ys = true) : ys = sortS xs :=
  sorted_unique (p.trans (sortS_perm xs).symm) (sortedS_sorted h) (sortS_sorted xs)
/-- texts of a list -/
def strsI : List D → Option (List Str)
  | [] => some []
  | .str b :: r => (strsI r).map fun bs => b :: bs
  | _ :: _ => none
theorem strs_of {g : Gd} {B : Bx} {H : Hp} : ∀ {ds : List D} {bs : List Str} {vs : List V}, strsI ds = some bs → RepL g B H ds vs → vs = bs.map V.str
  | [], bs, vs, h, r => by
    simp only [strsI, Option.some.injEq] at h
    subst h
    unfold RepL at r
    exact r
  | d :: ds, bs, vs, h, r => by
    unfold RepL at r
    obtain ⟨y, ys, rfl, r1, r2⟩ := r
    match d, h, r1 with
    | .str b, h, r1 =>
      simp only [strsI, Option.map_eq_some_iff] at h
      obtain ⟨bs', h1, rfl⟩ := h
      rw [of_str r1, strs_of h1 r2]
      rfl
theorem rep_strs {g : Gd} {B : Bx} {H : Hp} : ∀ bs : List Str, RepL g B H (bs.map D.str) (bs.map V.str)
  | [] => RepL.nil
  | b :: r => RepL.cons rep_str (rep_strs r)
@[simp] theorem strsI_map : ∀ bs : List Str, strsI (bs.map D.str) = some bs
  | [] => rfl
  | b :: r => by simp [strsI, strsI_map r]
section
variable {X : Cx} {W : WX} {pos : Pos}
def opSorted : OpN := fun m ds => match ds with
  | [d] => (lstI m d).bind fun xs => (strsI xs).bind fun bs => if bs.length < 64 then some (.lst ((sortS bs).map D.str)) else none
  | _ => none
theorem dc_sorted : CallR X (.builtin "sorted") (rN (gd X) opSorted) := by
  intro pins s σ H xs us Q I rx ⟨B, m, ds, d, S, r, e, k⟩
  unfold opSorted at e
  split at e
  · obtain ⟨ys, e1, e2⟩ := Option.bind_eq_some_iff.mp e
    obtain ⟨bs, e3, e4⟩ := Option.bind_eq_some_iff.mp e2
    split at e4
    · rename_i c
      injection e4 with e4
      subst e4
      obtain ⟨x, rfl, r1⟩ := repL1 r
      obtain ⟨a, vs, rfl, hl, rl⟩ := lstI_of S e1 r1
      obtain rfl := strs_of e3 rl
      refine cr_sortedS pins s σ H _ us Q I rx ⟨a, bs, rfl, lsq hl, c, fun ys p hp hs hn => ?_⟩
      rw [sorted_is hp hs]
      exact k.lst S (rep_strs _) hn
    · cases e4
  · cases e
end
end DL
namespace DL
open PySem L2

section
variable {X : Cx} {W : WX} {pos : Pos}
/-! ### methods of lists -/
abbrev OpM := Mem → D → List D → Rs D
def rM (g : Gd) (op : OpM) : V → List V → Hp → VK → Prop := fun x xs H Q => ∃ B m a ds, SRel g B H m ∧ Rep g B H a x ∧ RepL g B H ds xs ∧ WP g E00 B H (op m a ds) (fun d _ B' H' => ∀ v, Rep g B' H' d v → Q v H')
def eLM (op : OpM) (fo : DE) (t : DA) : DE := fun δ m => (fo δ m).bind fun o m1 => (lf (lstI m1 o) m1).bind fun _ m2 => (t δ m2).bind fun ds m3 => (op m3 o ds).only
theorem tBM_of {op : OpM} {fo : DE} {t : DA} : ∀ σ H Q, tE (gd X) W (eLM op fo t) σ H Q → tBM X.K "list" (rM (gd X) op) (tE (gd X) W fo) (tA (gd X) W t) σ H Q := fun σ H Q ⟨B, m, δ, S, L, h⟩ =>
  ⟨B, m, δ, S, L, (WP.step h).mono fun o m1 B1 H1 l1 _ ⟨_, S1, h1⟩ v rv => by
    obtain ⟨ds, e, k⟩ := (WP.step h1).lf
    obtain ⟨_, _, h2⟩ := k B1 H1 (Lift.refl _ _) S1
    obtain ⟨a, vs, rfl, hl, _⟩ := lstI_of S1 e rv
    refine ⟨.inl ⟨rfl, vs, lsq hl⟩, B1, m1, δ, S1, L.up S l1, (WP.step h2).mono fun ds m2 B2 H2 l2 _ ⟨_, S2, h3⟩ xs rxs => ⟨B2, m2, o, ds, S2, rv.up S1 l2, rxs, h3.only⟩⟩⟩
theorem dx_lm {o e : Expr} {es : List Expr} {op : OpM} {fo : DE} {t : DA} {name : Str} {apos cpos : Pos} {id : String} (slot : Slot "list" name id) (hty : typeOf (.builtin id) = pure (.type "method_descriptor")) (hm : MtR X id (rM (gd X) op)) (ho : PE X o (tE (gd X) W fo)) (ha : PA X (e :: es) (tA (gd X) W t))
    (hbase : attributeBase o name X.env (eval o X.env) = eval o X.env := by rfl)
    (hfew : ((backTo cpos (starEach (e :: es) X.env)).all (fun x => !x.1) && (backToKw cpos (keywordEach [] X.env)).all (fun x => x.1.isSome)
      && decide ((e :: es).length + ([] : List Keyword).length + (if ([] : List Keyword).isEmpty then 0 else 1) < 30)) = true := by rfl)
    (hline : (apos.endLine == cpos.line) = true := by rfl) (hs : starEach (e :: es) X.env = (false, eval e X.env) :: starEach es X.env := by rfl) (hplain : (backTo cpos (starEach es X.env)).any (·.1) = false := by rfl) :
    PE X (.Call (.Attribute o name apos) (e :: es) [] cpos) (tE (gd X) W (eLM op fo t)) :=
  PE.imp (pe_bm F.plainAttrs_list slot hty hm ho ha hbase hfew hline hs hplain) tBM_of
def eLM0 (op : OpM) (fo : DE) : DE := fun δ m => (fo δ m).bind fun o m1 => (lf (lstI m1 o) m1).bind fun _ m2 => (op m2 o []).only
theorem dx_lm0 {o : Expr} {op : OpM} {fo : DE} {name : Str} {apos cpos : Pos} {id : String} (slot : Slot "list" name id) (hty : typeOf (.builtin id) = pure (.type "method_descriptor")) (hm : MtR X id (rM (gd X) op)) (ho : PE X o (tE (gd X) W fo))
    (hbase : attributeBase o name X.env (eval o X.env) = eval o X.env := by rfl) (hline : (apos.endLine == cpos.line) = true := by rfl) :
    PE X (.Call (.Attribute o name apos) [] [] cpos) (tE (gd X) W (eLM0 op fo)) :=
  PE.imp (pe_bm0 F.plainAttrs_list slot hty hm ho hbase hline) fun σ H Q ⟨B, m, δ, S, L, h⟩ =>
  ⟨B, m, δ, S, L, (WP.step h).mono fun o m1 B1 H1 l1 _ ⟨_, S1, h1⟩ v rv => by
    obtain ⟨ds, e, k⟩ := (WP.step h1).lf
    obtain ⟨_, _, h2⟩ := k B1 H1 (Lift.refl _ _) S1
    obtain ⟨a, vs, rfl, hl, _⟩ := lstI_of S1 e rv
    exact ⟨.inl ⟨rfl, vs, lsq hl⟩, B1, m1, o, [], S1, rv, RepL.nil, h2.only⟩⟩
/-- a box that is a list -/
def boxL (m : Mem) : D → Option (Nat × List D)
  | .box n => match m[n]? with
    | some (.lst ds) => some (n, ds)
    | _ => none
  | _ => none
theorem boxL_of {g : Gd} {B : Bx} {H : Hp} {m : Mem} (S : SRel g B H m) {d : D} {v : V} {n : Nat} {ds : List D} (h : boxL m d = some (n, ds)) (r : Rep g B H d v) : d = .box n ∧ m[n]? = some (.lst ds) ∧ ∃ a xs, v = .ref a ∧ B.b[n]? = some a ∧ H a = some (.lst xs) ∧ RepL g B H ds xs := by
  match d, h, r with
  | .box k, h, r =>
    unfold Rep at r
    obtain ⟨a, rfl, e⟩ := r
    obtain ⟨d', hm, hb⟩ := S.get e
    simp only [boxL, hm] at h
    match d', h, hb, hm with
    | .lst ds', h, hb, hm =>
      obtain ⟨rfl, rfl⟩ := Prod.mk.inj (Option.some.inj h)
      unfold BoxAt at hb
      obtain ⟨xs, h1, h2⟩ := hb
      exact ⟨rfl, hm, a, xs, rfl, e, h1, h2⟩
/-- a list's box is written -/
theorem box_put {g : Gd} {B : Bx} {H : Hp} {m : Mem} (S : SRel g B H m) {n : Nat} {a : Addr} {xs ys : List V} {es : List D} (e : B.b[n]? = some a) (h : H a = some (.lst xs)) (r : RepL g B H es ys) :
    Lift B H B (upd H a (.lst ys)) ∧ SRel g B (upd H a (.lst ys)) (m.set n (.lst es)) := by
  have l : Lift B H B (upd H a (.lst ys)) := Lift.write (List.mem_of_getElem? e) h rfl
  exact ⟨l, S.write e (by unfold BoxAt; exact ⟨ys, upd_same, r.up S l⟩)⟩
/-- a change of the list at a box: f gives its new items and what is handed back -/
def opBox (f : List D → List D → Option (List D × D)) : OpM := fun m o args => match boxL m o with
  | some (n, ds) => (match f ds args with
    | some (es, d) => .ok d (m.set n (.lst es))
    | none => .bad)
  | none => .bad
theorem opBox_of {g : Gd} {B : Bx} {H : Hp} {m : Mem} {f : List D → List D → Option (List D × D)} {o : D} {args : List D} {v : V} {Q : D → Mem → Bx → Hp → Prop} (S : SRel g B H m) (r : Rep g B H o v) (h : WP g E00 B H (opBox f m o args) Q) :
    ∃ n ds es d a xs, f ds args = some (es, d) ∧ v = .ref a ∧ B.b[n]? = some a ∧ H a = some (.lst xs) ∧ RepL g B H ds xs ∧ ∀ ys, RepL g B H es ys → ∃ l : Lift B H B (upd H a (.lst ys)), Q d (m.set n (.lst es)) B (upd H a (.lst ys)) := by
  unfold opBox at h
  split at h
  · rename_i n ds e
    obtain ⟨rfl, _, a, xs, rfl, e1, e2, e3⟩ := boxL_of S e r
    split at h
    · rename_i es d e4
      refine ⟨n, ds, es, d, a, xs, e4, rfl, e1, e2, e3, fun ys ry => ?_⟩
      obtain ⟨l, S'⟩ := box_put S e1 e2 ry
      exact ⟨l, h B _ l S'⟩
    · exact h.elim
  · exact h.elim
def fApp : List D → List D → Option (List D × D) := fun ds args => match args with
  | [d] => if ds.length < sizeLine then some (ds ++ [d], .non) else none
  | _ => none
theorem dm_append : MtR X "list.append" (rM (gd X) (opBox fApp)) := by
  intro pins s σ H x xs v us Q I rx rxs ⟨B, m, a, ds, S, ra, rl, h⟩
  obtain ⟨n, zs, es, d, p, vs, e1, rfl, e2, e3, e4, k⟩ := opBox_of S ra h
  unfold fApp at e1
  split at e1
  · rename_i y
    split at e1
    · rename_i c
      obtain ⟨rfl, rfl⟩ := Prod.mk.inj (Option.some.inj e1)
      obtain ⟨w, rfl, r1⟩ := repL1 rl
      obtain ⟨l, q⟩ := k _ (RepL.app e4 (RepL.one r1))
      exact mt_append pins s σ H _ _ v us Q I rx rxs ⟨p, vs, w, rfl, rfl, e3, by rw [← e4.len]; exact c, q _ rep_non⟩
    · cases e1
  · cases e1
def fPop : List D → List D → Option (List D × D) := fun ds args => match args with
  | [] => (ds[ds.length - 1]?).map fun d => (ds.dropLast, d)
  | _ => none
theorem RepL.dropLast {g : Gd} {B : Bx} {H : Hp} {ds : List D} {vs : List V} (r : RepL g B H ds vs) : RepL g B H ds.dropLast vs.dropLast := by
  rw [List.dropLast_eq_take, List.dropLast_eq_take, ← r.len]
  exact r.take _
theorem dm_pop : MtR X "list.pop" (rM (gd X) (opBox fPop)) := by
  intro pins s σ H x xs v us Q I rx rxs ⟨B, m, a, ds, S, ra, rl, h⟩
  obtain ⟨n, zs, es, d, p, vs, e1, rfl, e2, e3, e4, k⟩ := opBox_of S ra h
  unfold fPop at e1
  split at e1
  · obtain ⟨d', e5, e6⟩ := Option.map_eq_some_iff.mp e1
    obtain ⟨rfl, rfl⟩ := Prod.mk.inj e6
    obtain ⟨w, e7, r7⟩ := e4.get e5
    unfold RepL at rl
    subst rl
    obtain ⟨l, q⟩ := k _ e4.dropLast
    exact mt_pop pins s σ H _ _ v us Q I rx rxs ⟨p, vs, w, rfl, rfl, e3, by rw [← e4.len]; exact e7, q _ (r7.up S l)⟩
  · cases e1
/-- xs[i] = v -/
def fSet (i : Int) (v : D) : List D → List D → Option (List D × D) := fun ds _ => (ixN ds.length i).map fun j => (ds.set j v, .non)
theorem RepL.set {g : Gd} {B : Bx} {H : Hp} {d : D} {v : V} (h : Rep g B H d v) : ∀ {ds : List D} {vs : List V} (j : Nat), RepL g B H ds vs → RepL g B H (ds.set j d) (vs.set j v)
  | [], vs, j, r => by unfold RepL at r; subst r; simp; exact RepL.nil
  | x :: ds, vs, j, r => by
    unfold RepL at r
    obtain ⟨y, ys, rfl, r1, r2⟩ := r
    cases j with
    | zero => exact RepL.cons h r2
    | succ j => exact RepL.cons r1 (RepL.set h j r2)
def nSub (fo fi : DE) : DG := fun v δ m => (fo δ m).only.bind fun o m1 => (fi δ m1).only.bind fun i m2 => match i with
  | .int i => (opBox (fSet i v) m2 o []).only.bind fun _ m3 => .ok δ m3
  | _ => .bad
theorem nx_sub {fo fi : DE} : NX (nSub fo fi) := fun d δ m x mx => by
  unfold nSub
  cases fo δ m with
  | exc _ _ => nofun
  | bad => nofun
  | ok o m1 =>
    simp only [only_ok, bind_ok]
    cases fi δ m1 with
    | exc _ _ => nofun
    | bad => nofun
    | ok i m2 =>
      simp only [only_ok, bind_ok]
      split
      · cases opBox (fSet _ d) m2 o [] with
        | exc _ _ => nofun
        | bad => nofun
        | ok _ _ => nofun
      · nofun
theorem dg_sub {o i : Expr} {fo fi : DE} (ho : PE X o (tE (gd X) W0 fo)) (hi : PE X i (tE (gd X) W0 fi)) (h : PG X (.Subscript o i pos) (gSub (tE (gd X) W0 fo) (tE (gd X) W0 fi) rSetL)) : PG X (.Subscript o i pos) (tG (gd X) [] (nSub fo fi)) :=
  PG.imp h fun v σ H Q ⟨B, m, δ, d, S, L, r, k⟩ => by
    refine ⟨B, m, δ, S, L, (WP.only (WP.step k)).mono fun a m1 B1 H1 l1 _ ⟨_, S1, h1⟩ x rx => ?_⟩
    refine ⟨B1, m1, δ, S1, L.up S l1, (WP.only (WP.step h1)).mono fun b m2 B2 H2 l2 _ ⟨_, S2, h2⟩ y ry => ?_⟩
    match b, h2, ry with
    | .int n, h2, ry =>
      have h3 := WP.only (E' := E00) (WP.step h2)
      obtain ⟨bn, zs, es, d', p, vs, e1, rfl, e2, e3, e4, kk⟩ := opBox_of S2 (rx.up S1 l2) h3
      obtain ⟨j, e5, e6⟩ := Option.map_eq_some_iff.mp e1
      obtain ⟨rfl, rfl⟩ := Prod.mk.inj e6
      obtain ⟨l, _, S4, q⟩ := kk _ (RepL.set ((r.up S l1).up S1 l2) j e4)
      exact ⟨p, vs, n, j, rfl, of_int ry, e3, by rw [← e4.len]; exact e5, q B2 _ (Lift.refl _ _) S4 σ (((L.up S l1).up S1 l2).up S2 l) .refl⟩
/-! ### methods of texts -/
def eSM (op : Op2) (fo fe : DE) : DE := fun δ m => (fo δ m).bind fun o m1 => (lf (if isStr o then some () else none) m1).bind fun _ m2 => (fe δ m2).bind fun d m3 => lf (op m3 o d) m3
def rM1 (g : Gd) (op : Op2) : V → List V → Hp → VK → Prop := fun x xs H Q => ∃ B m a b d, SRel g B H m ∧ Rep g B H a x ∧ RepL g B H [b] xs ∧ op m a b = some d ∧ Aft g B H m d Q
theorem dx_sm1 {o e : Expr} {op : Op2} {fo fe : DE} {id : String} {name : Str} {apos pos : Pos} (slot : Slot "str" name id) (ty : typeOf (.builtin id) = pure (.type "method_descriptor")) (rule : MtR X id (rM1 (gd X) op)) (ho : PE X o (tE (gd X) W fo)) (he : PE X e (tE (gd X) W fe))
    (hs : starEach [e] X.env = [(false, eval e X.env)] := by rfl) (hbase : attributeBase o name X.env (eval o X.env) = eval o X.env := by rfl) (hline : (apos.endLine == pos.line) = true := by rfl) :
    PE X (.Call (.Attribute o name apos) [e] [] pos) (tE (gd X) W (eSM op fo fe)) :=
  PE.imp (pe_m1 slot ty rule ho he hs hbase hline) fun σ H Q ⟨B, m, δ, S, L, h⟩ =>
  ⟨B, m, δ, S, L, (WP.step h).mono fun o m1 B1 H1 l1 _ ⟨_, S1, h1⟩ v rv => by
    obtain ⟨_, e, k⟩ := (WP.step h1).lf
    obtain ⟨_, _, h2⟩ := k B1 H1 (Lift.refl _ _) S1
    have hstr : ∃ a, v = .str a := by
      cases o <;> first | (cases e; done) | skip
      exact ⟨_, of_str rv⟩
    refine ⟨hstr, B1, m1, δ, S1, L.up S l1, (WP.step h2).mono fun b m2 B2 H2 l2 _ ⟨_, S2, h3⟩ y ry => ?_⟩
    obtain ⟨d, e3, k3⟩ := h3.lf
    exact ⟨B2, m2, o, b, d, S2, rv.up S1 l2, RepL.one ry, e3, fun v B' H' l' S' r' => k3 B' H' l' S' v r'⟩⟩
def opJoin : Op2 := fun m a b => match a with
  | .str z => (seqI m b).bind fun ds => (strsI ds).bind fun ys => if (ys.map (·.length)).sum + ys.length * z.length ≤ 16777216 then some (.str (Txt.join z ys)) else none
  | _ => none
theorem ds_join : MtR X "str.join" (rM1 (gd X) opJoin) := by
  intro pins s σ H x xs v us Q I rx rxs ⟨B, m, a, b, d, S, ra, rb, e, k⟩
  unfold opJoin at e
  split at e
  · rename_i z
    obtain ⟨ds, e1, e2⟩ := Option.bind_eq_some_iff.mp e
    obtain ⟨ys, e3, e4⟩ := Option.bind_eq_some_iff.mp e2
    split at e4
    · rename_i c
      injection e4 with e4
      subst e4
      obtain ⟨w, rfl, r1⟩ := repL1 rb
      obtain ⟨p, vs, rfl, hl, rl⟩ := seqI_of S e1 r1
      obtain rfl := strs_of e3 rl
      exact mt_join pins s σ H x _ v us Q I rx rxs ⟨z, p, ys, of_str ra, rfl, hl, c, k.same S rep_str⟩
    · cases e4
  · cases e
end
end DL
namespace DL
open PySem L2

/-! ### isinstance -/
def tagN : D → Option CN
  | .non => some (.bt "NoneType")
  | .bl _ => some (.bt "bool")
  | .int _ => some (.bt "int")
  | .str _ => some (.bt "str")
  | .tup _ => some (.bt "tuple")
  | .lst _ => some (.bt "list")
  | .dct _ => some (.bt "dict")
  | .ins C _ => some (.own C)
  | _ => none
def tagD (m : Mem) : D → Option CN
  | .box n => (m[n]?).bind tagN
  | d => tagN d
/-- what isinstance asks of an own class -/
structure InsC (K : PySem.W.Frag) (C : Addr) : Prop where
  cl : Cls K C
  ha : PySem.W.findIn K (.ref C) "__class__" = some (some (.builtin "object.__class__"))
  hn : PySem.W.specialIn K (.builtin "object.__class__") "__get__" = some (some (.builtin "getset_descriptor.__get__"))
  ht : PySem.W.takesIn K (.builtin "object.__class__") = some true
  hm : PySem.W.mroIn K C (.type "object") = some true
theorem tag_of {g : Gd} {B : Bx} {H : Hp} {m : Mem} (S : SRel g B H m) {d : D} {v : V} {t : CN} (h : tagD m d = some t) (r : Rep g B H d v) (hi : ∀ C, t = .own C → InsC g.K (He.ga g.K C)) : TyX g.K H v (t.v g.K) := by
  have sq : ∀ {a : Addr} {xs : List V}, SqT g.K H a xs → TyX g.K H (.ref a) (.type "tuple") := fun {a xs} h => by
    rcases h with (h | ⟨o, h⟩) | ⟨o, its, n, h1, h2, _⟩
    · exact .base (.tup h)
    · exact .fTuple h
    · exact .kTuple h1 h2
  have ls : ∀ {a : Addr} {xs : List V}, Rd H a (.lst xs) ∨ KL g.K a xs → TyX g.K H (.ref a) (.type "list") := fun {a xs} h => by
    rcases h with (h | ⟨o, h⟩) | ⟨its, n, h, _⟩
    · exact .base (.lst h)
    · exact .base (.frz h)
    · exact .kList h rfl
  have ds : ∀ {a : Addr} {xs : List (Key × V)}, Rd H a (.dK xs) → TyX g.K H (.ref a) (.type "dict") := fun {a xs} h => by
    rcases h with h | ⟨o, h⟩
    · exact .base (.dK h)
    · exact .fDict h
  have is : ∀ {a C dx : Addr} {fs : List (Str × V)}, H a = some (.ins C dx fs) → InsC g.K C → TyX g.K H (.ref a) (.ref C) := fun h q => .base (.ins h q.cl q.ha q.hn q.ht q.hm)
  cases d <;> simp only [tagD, tagN] at h <;> first | (cases h; done) | skip
  case box n =>
    unfold Rep at r
    obtain ⟨a, rfl, e⟩ := r
    obtain ⟨d', hm, hb⟩ := S.get e
    rw [hm, Option.bind_some] at h
    cases d' <;> unfold BoxAt at hb <;> first | exact hb.elim | skip
    · obtain ⟨xs, h1, _⟩ := hb
      simp only [tagN, Option.some.injEq] at h
      subst h
      exact ls (.inl (.inl h1))
    · obtain ⟨xs, h1, _⟩ := hb
      simp only [tagN, Option.some.injEq] at h
      subst h
      exact ds (.inl h1)
    · obtain ⟨dx, xs, h1, _⟩ := hb
      simp only [tagN, Option.some.injEq] at h
      subst h
      exact is h1 (hi _ rfl)
    · simp [tagN] at h
  all_goals
    injection h with h
    subst h
    unfold Rep at r
  case non => subst r; exact .base .non
  case bl => subst r; exact .base (.bl _)
  case int => subst r; exact .base (.int _)
  case str => subst r; exact .base (.str _)
  case tup => obtain ⟨a, xs, rfl, h1, _⟩ := r; exact sq h1
  case lst => obtain ⟨a, xs, rfl, h1, _⟩ := r; exact ls (h1.imp And.right id)
  case dct => obtain ⟨a, xs, rfl, _, h1, _⟩ := r; exact ds h1
  case ins => obtain ⟨a, dx, xs, rfl, _, h1, _⟩ := r; exact is h1 (hi _ rfl)
/-- between built-in types -/
def ktn (a b : String) : Option Bool := if a = b then some true else if a = "bool" ∧ b = "int" then some true else if a ∈ ["NoneType", "bool", "int", "str", "tuple", "list", "dict"] ∧ b ∈ ["str", "int", "bool", "tuple"] then some false else none
theorem ktn_of {K : PySem.W.Frag} {a b : String} {r : Bool} (h : ktn a b = some r) : PySem.W.kitOne K (.type a) (.type b) = some r := by
  unfold ktn at h
  split at h
  · rename_i e
    subst e
    injection h with h
    subst h
    refine kit_ty ?_
    unfold kitB
    rw [if_pos (by simp)]
  · split at h
    · rename_i e
      obtain ⟨rfl, rfl⟩ := e
      injection h with h
      subst h
      exact kit_ty (by decide +kernel)
    · split at h
      · rename_i n1 n2 e
        injection h with h
        subst h
        obtain ⟨ha, hb⟩ := e
        simp only [List.mem_cons, List.not_mem_nil, or_false] at ha hb
        rcases ha with rfl | rfl | rfl | rfl | rfl | rfl | rfl <;> rcases hb with rfl | rfl | rfl | rfl <;> first | exact absurd rfl n1 | exact absurd ⟨rfl, rfl⟩ n2 | exact kit_ty (by decide +kernel)
      · cases h
def opIsi (kt : CN → CN → Option Bool) : OpN := fun m ds => match ds with
  | [x, .ty T] => (tagD m x).bind fun t => (kt t (.bt T)).map .bl
  | [x, .cls C] => (tagD m x).bind fun t => (kt t (.own C)).map .bl
  | _ => none
structure KtOk (K : PySem.W.Frag) (kt : CN → CN → Option Bool) : Prop where
  hk : ∀ t c b, kt t c = some b → PySem.W.kitOne K (t.v K) (c.v K) = some b
  hi : ∀ C c b, kt (.own C) c = some b → InsC K (He.ga K C)
def ktB (t c : CN) : Option Bool := match t, c with
  | .bt a, .bt b => ktn a b
  | _, _ => none
theorem ktB_ok {K : PySem.W.Frag} : KtOk K ktB where
  hk := fun t c b h => by
    unfold ktB at h
    split at h
    · exact ktn_of h
    · cases h
  hi := fun C c b h => by
    cases c <;> simp [ktB] at h
section
variable {X : Cx} {W : WX} {pos : Pos}
theorem dc_isi {kt : CN → CN → Option Bool} (hkt : KtOk X.K kt) : CallR X (.builtin "isinstance") (rN (gd X) (opIsi kt)) := by
  intro pins s σ H xs us Q I rx ⟨B, m, ds, d, S, r, e, k⟩
  unfold opIsi at e
  split at e
  · rename_i x T
    obtain ⟨t, e1, e2⟩ := Option.bind_eq_some_iff.mp e
    obtain ⟨b, e3, rfl⟩ := Option.map_eq_some_iff.mp e2
    obtain ⟨v, w, rfl, r1, r2⟩ := repL2 r
    unfold Rep at r2
    subst r2
    exact call_isi pins s σ H _ us Q I rx ⟨v, _, t.v X.K, _, b, rfl, .ty T, tag_of S e1 r1 (fun C hC => hkt.hi C _ b (hC ▸ e3)), hkt.hk _ _ _ e3, k.same S rep_bl⟩
  · rename_i x T
    obtain ⟨t, e1, e2⟩ := Option.bind_eq_some_iff.mp e
    obtain ⟨b, e3, rfl⟩ := Option.map_eq_some_iff.mp e2
    obtain ⟨v, w, rfl, r1, r2⟩ := repL2 r
    unfold Rep at r2
    subst r2
    exact call_isi pins s σ H _ us Q I rx ⟨v, _, t.v X.K, _, b, rfl, .own _, tag_of S e1 r1 (fun C hC => hkt.hi C _ b (hC ▸ e3)), hkt.hk _ _ _ e3, k.same S rep_bl⟩
  · cases e

/-! ### dicts -/
def keyD : D → Option Key
  | .int i => some (.inl i)
  | .str s => some (.inr s)
  | _ => none
theorem keyD_of {g : Gd} {B : Bx} {H : Hp} {d : D} {v : V} {k : Key} (h : keyD d = some k) (r : Rep g B H d v) : v = kV k := by
  cases d <;> simp only [keyD, Option.some.injEq, reduceCtorEq] at h
  · subst h; exact of_int r
  · subst h; exact of_str r
def valD (kvs : List (Key × D)) (k : Key) : Option D := (kvs.find? fun kv => decide (kv.1 = k)).map (·.2)
theorem valD_of {g : Gd} {B : Bx} {H : Hp} (k : Key) : ∀ {ds : List (Key × D)} {vs : List (Key × V)}, RepK g B H ds vs → (∀ d, valD ds k = some d → ∃ v, valV vs k = some v ∧ Rep g B H d v) ∧ (valD ds k = none → valV vs k = none)
  | [], vs, r => by
    unfold RepK at r
    subst r
    exact ⟨fun d h => by simp [valD] at h, fun _ => rfl⟩
  | (k', x) :: ds, vs, r => by
    unfold RepK at r
    obtain ⟨y, ys, rfl, r1, r2⟩ := r
    obtain ⟨h1, h2⟩ := valD_of k r2
    by_cases q : k' = k
    · subst q
      refine ⟨fun d h => ?_, fun h => ?_⟩
      · simp only [valD, List.find?_cons, decide_true, Option.map_some, Option.some.injEq] at h
        subst h
        exact ⟨y, valV_pos (p := (k', y)) rfl, r1⟩
      · simp [valD] at h
    · have e : valD ((k', x) :: ds) k = valD ds k := by simp [valD, List.find?_cons, q]
      rw [e, valV_neg (p := (k', y)) q]
      exact ⟨h1, h2⟩
/-- in its place, or at the end -/
def putD (kvs : List (Key × D)) (k : Key) (v : D) : List (Key × D) := if (kvs.any fun kv => decide (kv.1 = k)) = true then kvs.map (fun kv => if kv.1 = k then (kv.1, v) else kv) else kvs ++ [(k, v)]
theorem repK_any {g : Gd} {B : Bx} {H : Hp} (k : Key) : ∀ {ds : List (Key × D)} {vs : List (Key × V)}, RepK g B H ds vs → (ds.any fun kv => decide (kv.1 = k)) = vs.any fun kv => decide (kv.1 = k)
  | [], vs, r => by unfold RepK at r; subst r; rfl
  | (k', x) :: ds, vs, r => by
    unfold RepK at r
    obtain ⟨y, ys, rfl, r1, r2⟩ := r
    rw [List.any_cons, List.any_cons, repK_any k r2]
theorem repK_app {g : Gd} {B : Bx} {H : Hp} : ∀ {ds es : List (Key × D)} {vs ws : List (Key × V)}, RepK g B H ds vs → RepK g B H es ws → RepK g B H (ds ++ es) (vs ++ ws)
  | [], es, vs, ws, h, k => by unfold RepK at h; subst h; exact k
  | (k', d) :: ds, es, vs, ws, h, k => by
    unfold RepK at h
    obtain ⟨y, ys, rfl, h1, h2⟩ := h
    show RepK g B H ((k', d) :: (ds ++ es)) _
    unfold RepK
    exact ⟨y, ys ++ ws, rfl, h1, repK_app h2 k⟩
theorem repK_one {g : Gd} {B : Bx} {H : Hp} {k : Key} {d : D} {v : V} (r : Rep g B H d v) : RepK g B H [(k, d)] [(k, v)] := by
  unfold RepK
  exact ⟨v, [], rfl, r, by unfold RepK; rfl⟩
theorem repK_map {g : Gd} {B : Bx} {H : Hp} {k : Key} {d : D} {v : V} (r : Rep g B H d v) : ∀ {ds : List (Key × D)} {vs : List (Key × V)}, RepK g B H ds vs → RepK g B H (ds.map fun kv => if kv.1 = k then (kv.1, d) else kv) (vs.map fun kv => if kv.1 = k then (kv.1, v) else kv)
  | [], vs, h => by unfold RepK at h; subst h; unfold RepK; rfl
  | (k', x) :: ds, vs, h => by
    unfold RepK at h
    obtain ⟨y, ys, rfl, h1, h2⟩ := h
    have ih := repK_map (k := k) r h2
    rw [List.map_cons, List.map_cons]
    by_cases q : k' = k
    · rw [if_pos q, if_pos q]
      unfold RepK
      exact ⟨v, _, rfl, r, ih⟩
    · rw [if_neg q, if_neg q]
      unfold RepK
      exact ⟨y, _, rfl, h1, ih⟩
theorem putD_of {g : Gd} {B : Bx} {H : Hp} {k : Key} {d : D} {v : V} {ds : List (Key × D)} {vs : List (Key × V)} (r : Rep g B H d v) (h : RepK g B H ds vs) : RepK g B H (putD ds k d) (putK vs k v) := by
  unfold putD putK
  rw [repK_any k h]
  split
  · exact repK_map r h
  · exact repK_app h (repK_one r)
/-- a dict's pairs: frozen, or a box's -/
def dctI (m : Mem) : D → Option (List (Key × D))
  | .dct kvs => some kvs
  | .box n => match m[n]? with
    | some (.dct kvs) => some kvs
    | _ => none
  | _ => none
theorem dctI_of {g : Gd} {B : Bx} {H : Hp} {m : Mem} (S : SRel g B H m) {d : D} {v : V} {kvs : List (Key × D)} (h : dctI m d = some kvs) (r : Rep g B H d v) : ∃ a vs, v = .ref a ∧ Rd H a (.dK vs) ∧ RepK g B H kvs vs := by
  match d, h, r with
  | .dct ds', h, r =>
    obtain rfl : ds' = kvs := Option.some.inj h
    unfold Rep at r
    obtain ⟨a, xs, rfl, _, h1, h2⟩ := r
    exact ⟨a, xs, rfl, h1, h2⟩
  | .box n, h, r =>
    unfold Rep at r
    obtain ⟨a, rfl, e⟩ := r
    obtain ⟨d', hm, hb⟩ := S.get e
    simp only [dctI, hm] at h
    match d', h, hb with
    | .dct ds', h, hb =>
      obtain rfl : ds' = kvs := Option.some.inj h
      unfold BoxAt at hb
      obtain ⟨xs, h1, h2⟩ := hb
      exact ⟨a, xs, rfl, .inl h1, h2⟩
/-- {} that will be changed -/
def eNewD : DE := fun _ m => .ok (.box m.length) (m ++ [.dct []])
theorem dx_newD : PE X (.Dict [] [] pos) (tE (gd X) W eNewD) :=
  PE.imp pe_dnewK fun σ H Q ⟨B, m, δ, S, L, h⟩ p hp => by
    have e : (B.add p).b[m.length]? = some p := by rw [← S.len]; show (B.b ++ [p])[B.b.length]? = some p; simp
    exact h (B.add p) _ (Lift.newBox hp) (S.newBox hp (by unfold BoxAt; exact ⟨[], upd_same, by unfold RepK; rfl⟩)) _ (by unfold Rep; exact ⟨p, rfl, e⟩)
/-- {} that nobody changes -/
theorem dx_dct0 : PE X (.Dict [] [] pos) (tE (gd X) W (eK (.dct []))) :=
  PE.imp pe_dnewK fun σ H Q ⟨B, m, δ, S, L, h⟩ p hp => h B _ (Lift.new hp) (S.new hp) _ (by unfold Rep; exact ⟨p, [], rfl, S.fresh hp, .inl upd_same, by unfold RepK; rfl⟩)
/-- a written dict of constants -/
def cpairs (l : List (Key × V)) : List (TE × TE) := l.map fun kv => (tC (kV kv.1), tC kv.2)
theorem tPairs_c : ∀ (l : List (Key × V)) (σ : St) (H : Hp) (Q : List (V × V) → Hp → Prop), Q (l.map fun kv => (kV kv.1, kv.2)) H → tPairs (cpairs l) σ H Q
  | [], σ, H, Q, h => h
  | kv :: l, σ, H, Q, h => tPairs_c l σ H (fun ps H3 => Q ((kV kv.1, kv.2) :: ps) H3) h
def repKc : List (Key × D) → List (Key × V) → Bool
  | [], [] => true
  | (k, d) :: r, (k', v) :: s => decide (k = k') && isC d v && repKc r s
  | _, _ => false
theorem repKc_of {g : Gd} {B : Bx} {H : Hp} : ∀ {ds : List (Key × D)} {vs : List (Key × V)}, repKc ds vs = true → RepK g B H ds vs
  | [], [], _ => by unfold RepK; rfl
  | [], _ :: _, h => by cases h
  | _ :: _, [], h => by cases h
  | (k, d) :: r, (k', v) :: s, h => by
    simp only [repKc, Bool.and_eq_true, decide_eq_true_eq] at h
    obtain ⟨⟨h1, h2⟩, h3⟩ := h
    subst h1
    unfold RepK
    exact ⟨v, s, rfl, rep_isC h2, repKc_of h3⟩
theorem dx_dctC {keys : List (Option Expr)} {values : List Expr} (ds : List (Key × D)) (vs : List (Key × V)) (h : PPs X pos keys values (cpairs vs)) (hc : repKc ds vs = true := by decide +kernel) (hm : mergeK [] vs = vs := by rfl) (hl : vs.length ≤ 15 := by decide)
    (hall : keys.all (·.isSome) = true := by rfl) (hl2 : keys.length = values.length := by rfl) (h0 : keys ≠ [] := by intro z; cases z) (h15 : keys.length ≤ 15 := by decide) : PE X (.Dict keys values pos) (tE (gd X) W (eK (.dct ds))) :=
  PE.imp (pe_disp h hall hl2 h0 h15) fun σ H Q ⟨B, m, δ, S, L, k⟩ p hp => by
    refine tPairs_c vs σ _ _ ⟨upd_same, vs, rfl, hl, ?_⟩
    rw [upd_upd, hm]
    exact k B _ (Lift.new hp) (S.new hp) _ (by unfold Rep; exact ⟨p, vs, rfl, S.fresh hp, .inl upd_same, repKc_of hc⟩)
/-- d.get(k, x) -/
def eDGet (fd fk fx : DE) : DE := fun δ m => (fd δ m).bind fun d m1 => (lf (dctI m1 d) m1).bind fun _ m1' => (fk δ m1').bind fun k m2 => (fx δ m2).bind fun x m3 => (lf (dctI m3 d) m3).bind fun kvs m4 => (lf (keyD k) m4).bind fun k m5 => .ok ((valD kvs k).getD x) m5
theorem dx_dget2 {o e f : Expr} {fd fk fx : DE} {apos cpos : Pos} (hu : X.A.units + 1 < cLine) (ho : PE X o (tE (gd X) W fd)) (he : PE X e (tE (gd X) W fk)) (hf : PE X f (tE (gd X) W fx)) (m : M2 X o "get" apos e f cpos := by exact ⟨rfl, rfl, rfl, rfl⟩) : PE X (.Call (.Attribute o "get" apos) [e, f] [] cpos) (tE (gd X) W (eDGet fd fk fx)) :=
  PE.imp (pe_dget2 hu ho he hf m) fun σ H Q ⟨B, m, δ, S, L, h⟩ => ⟨B, m, δ, S, L, (WP.step h).mono fun d m1 B1 H1 l1 _ ⟨_, S1, h1⟩ v rv => by
    obtain ⟨kvs0, e0, k0⟩ := (WP.step h1).lf
    obtain ⟨_, _, h2⟩ := k0 B1 H1 (Lift.refl _ _) S1
    obtain ⟨a, vs0, rfl, hr0, _⟩ := dctI_of S1 e0 rv
    refine ⟨a, rfl, .inl ⟨vs0, hr0⟩, B1, m1, δ, S1, L.up S l1, (WP.step h2).mono fun kd m2 B2 H2 l2 _ ⟨_, S2, h3⟩ y ry => ⟨B2, m2, δ, S2, (L.up S l1).up S1 l2, (WP.step h3).mono fun x m3 B3 H3 l3 _ ⟨_, S3, h4⟩ z rz => ?_⟩⟩
    obtain ⟨kvs, e4, k4⟩ := (WP.step h4).lf
    obtain ⟨_, _, h5⟩ := k4 B3 H3 (Lift.refl _ _) S3
    obtain ⟨kk, e5, k5⟩ := (WP.step h5).lf
    obtain ⟨_, _, h6⟩ := k5 B3 H3 (Lift.refl _ _) S3
    obtain ⟨a', vs, ea, hr, hk⟩ := dctI_of S3 e4 ((rv.up S1 l2).up S2 l3)
    injection ea with ea
    subst ea
    obtain rfl := keyD_of e5 ry
    obtain ⟨v1, v2⟩ := valD_of kk hk
    refine ⟨valV vs kk, .inl ⟨vs, kk, hr, rfl, rfl⟩, ?_⟩
    have h7 := h6 B3 H3 (Lift.refl _ _) S3
    cases q : valD kvs kk with
    | none =>
      rw [q] at h7
      rw [v2 q]
      exact h7 _ rz
    | some w =>
      rw [q] at h7
      obtain ⟨v, e8, r8⟩ := v1 w q
      rw [e8]
      exact h7 _ r8⟩
/-- a box that is a dict -/
def boxD (m : Mem) : D → Option (Nat × List (Key × D))
  | .box n => match m[n]? with
    | some (.dct ds) => some (n, ds)
    | _ => none
  | _ => none
theorem boxD_of {g : Gd} {B : Bx} {H : Hp} {m : Mem} (S : SRel g B H m) {d : D} {v : V} {n : Nat} {ds : List (Key × D)} (h : boxD m d = some (n, ds)) (r : Rep g B H d v) : d = .box n ∧ ∃ a xs, v = .ref a ∧ B.b[n]? = some a ∧ H a = some (.dK xs) ∧ RepK g B H ds xs := by
  match d, h, r with
  | .box k, h, r =>
    unfold Rep at r
    obtain ⟨a, rfl, e⟩ := r
    obtain ⟨d', hm, hb⟩ := S.get e
    simp only [boxD, hm] at h
    match d', h, hb with
    | .dct ds', h, hb =>
      obtain ⟨rfl, rfl⟩ := Prod.mk.inj (Option.some.inj h)
      unfold BoxAt at hb
      obtain ⟨xs, h1, h2⟩ := hb
      exact ⟨rfl, a, xs, rfl, e, h1, h2⟩
theorem boxD_put {g : Gd} {B : Bx} {H : Hp} {m : Mem} (S : SRel g B H m) {n : Nat} {a : Addr} {xs ys : List (Key × V)} {es : List (Key × D)} (e : B.b[n]? = some a) (h : H a = some (.dK xs)) (r : RepK g B H es ys) :
    Lift B H B (upd H a (.dK ys)) ∧ SRel g B (upd H a (.dK ys)) (m.set n (.dct es)) := by
  have l : Lift B H B (upd H a (.dK ys)) := Lift.write (List.mem_of_getElem? e) h rfl
  exact ⟨l, S.write e (by unfold BoxAt; exact ⟨ys, upd_same, r.up S l⟩)⟩
/-- d.setdefault(k, x) -/
def eSetd (fd fk fx : DE) : DE := fun δ m => (fd δ m).bind fun d m1 => (lf (boxD m1 d) m1).bind fun _ m1' => (fk δ m1').bind fun k m2 => (fx δ m2).bind fun x m3 => (lf (boxD m3 d) m3).bind fun nk m4 => (lf (keyD k) m4).bind fun k m5 => (lf (if nk.2.length < sizeLine then some () else none) m5).bind fun _ m6 => match valD nk.2 k with
  | some w => .ok w m6
  | none => .ok x (m6.set nk.1 (.dct (putD nk.2 k x)))
theorem dx_setd {o e f : Expr} {fd fk fx : DE} {apos cpos : Pos} (ho : PE X o (tE (gd X) W fd)) (he : PE X e (tE (gd X) W fk)) (hf : PE X f (tE (gd X) W fx)) (m : M2 X o "setdefault" apos e f cpos := by exact ⟨rfl, rfl, rfl, rfl⟩) : PE X (.Call (.Attribute o "setdefault" apos) [e, f] [] cpos) (tE (gd X) W (eSetd fd fk fx)) :=
  PE.imp (pe_dsetd ho he hf m) fun σ H Q ⟨B, m, δ, S, L, h⟩ => ⟨B, m, δ, S, L, (WP.step h).mono fun d m1 B1 H1 l1 _ ⟨_, S1, h1⟩ v rv => by
    obtain ⟨⟨n0, kvs0⟩, e0, k0⟩ := (WP.step h1).lf
    obtain ⟨_, _, h2⟩ := k0 B1 H1 (Lift.refl _ _) S1
    obtain ⟨rfl, a, vs0, rfl, hb0, hr0, _⟩ := boxD_of S1 e0 rv
    refine ⟨a, rfl, .inl ⟨vs0, .inl hr0⟩, B1, m1, δ, S1, L.up S l1, (WP.step h2).mono fun kd m2 B2 H2 l2 _ ⟨_, S2, h3⟩ y ry => ⟨B2, m2, δ, S2, (L.up S l1).up S1 l2, (WP.step h3).mono fun x m3 B3 H3 l3 _ ⟨_, S3, h4⟩ z rz => ?_⟩⟩
    obtain ⟨⟨n, kvs⟩, e4, k4⟩ := (WP.step h4).lf
    obtain ⟨_, _, h5⟩ := k4 B3 H3 (Lift.refl _ _) S3
    obtain ⟨kk, e5, k5⟩ := (WP.step h5).lf
    obtain ⟨_, _, h6⟩ := k5 B3 H3 (Lift.refl _ _) S3
    obtain ⟨_, e6, k6⟩ := (WP.step h6).lf
    obtain ⟨_, _, h7⟩ := k6 B3 H3 (Lift.refl _ _) S3
    obtain ⟨en, a', vs, ea, hb, hr, hk⟩ := boxD_of S3 e4 ((rv.up S1 l2).up S2 l3)
    injection ea with ea
    subst ea
    obtain rfl := keyD_of e5 ry
    obtain ⟨v1, v2⟩ := valD_of kk hk
    have hlen : kvs.length < sizeLine := by
      by_cases q : kvs.length < sizeLine
      · exact q
      · simp only [if_neg q] at e6; cases e6
    simp only at h7
    refine ⟨vs, kk, hr, rfl, by rw [← hk.len]; exact hlen, fun w hw => ?_, fun hw => ?_⟩
    · cases q : valD kvs kk with
      | none => rw [v2 q] at hw; cases hw
      | some w' =>
        rw [q] at h7
        obtain ⟨w2, e8, r8⟩ := v1 w' q
        rw [hw] at e8
        injection e8 with e8
        subst e8
        exact h7 B3 H3 (Lift.refl _ _) S3 _ r8
    · cases q : valD kvs kk with
      | some w' =>
        obtain ⟨w2, e8, r8⟩ := v1 w' q
        rw [hw] at e8
        cases e8
      | none =>
        rw [q] at h7
        obtain ⟨l, S4⟩ := boxD_put (es := putD kvs kk x) S3 hb hr (putD_of rz hk)
        exact h7 B3 _ l S4 _ (rz.up S3 l)⟩
end
end DL
namespace DL
open PySem L2 PyProof.Rows

/-! ### what is left of a def's own boxes -/
mutual
/-- no box from k on -/
def closed (k : Nat) : D → Bool
  | .box n => decide (n < k)
  | .tup ds => closedL k ds
  | .lst ds => closedL k ds
  | .dct kvs => closedK k kvs
  | .ins _ fs => closedF k fs
  | .exn _ _ fs => closedF k fs
  | _ => true
def closedL (k : Nat) : List D → Bool
  | [] => true
  | d :: ds => closed k d && closedL k ds
def closedK (k : Nat) : List (Key × D) → Bool
  | [] => true
  | (_, d) :: ds => closed k d && closedK k ds
def closedF (k : Nat) : List (Str × D) → Bool
  | [] => true
  | (_, d) :: ds => closed k d && closedF k ds
end
def Bx.cut (B : Bx) (k : Nat) : Bx := ⟨B.b.take k, B.z⟩
section
variable {g : Gd} {B B' : Bx} {H H' : Hp} {m : Mem} {k : Nat}
theorem nb.cut {a : Addr} (h : nb B a) : nb (B.cut k) a := ⟨fun q => h.1 (List.mem_of_mem_take q), h.2⟩
mutual
theorem Rep.cut : ∀ (d : D) {v : V}, closed k d = true → Rep g B H d v → Rep g (B.cut k) H d v
  | .non, v, _, h => by unfold Rep at *; exact h
  | .bl _, v, _, h => by unfold Rep at *; exact h
  | .int _, v, _, h => by unfold Rep at *; exact h
  | .str _, v, _, h => by unfold Rep at *; exact h
  | .ty _, v, _, h => by unfold Rep at *; exact h
  | .cls _, v, _, h => by unfold Rep at *; exact h
  | .box n, v, c, h => by
    unfold Rep at *
    obtain ⟨a, rfl, e⟩ := h
    have hn : n < k := by simpa [closed] using c
    exact ⟨a, rfl, by show (B.b.take k)[n]? = some a; rw [List.getElem?_take, if_pos hn]; exact e⟩
  | .tup ds, v, c, h => by
    unfold Rep at *
    obtain ⟨a, xs, rfl, hs, hl⟩ := h
    exact ⟨a, xs, rfl, hs, RepL.cutB ds (by simpa [closed] using c) hl⟩
  | .lst ds, v, c, h => by
    unfold Rep at *
    obtain ⟨a, xs, rfl, hs, hl⟩ := h
    exact ⟨a, xs, rfl, hs.imp (fun z => ⟨z.1.cut, z.2⟩) id, RepL.cutB ds (by simpa [closed] using c) hl⟩
  | .dct kvs, v, c, h => by
    unfold Rep at *
    obtain ⟨a, xs, rfl, hn, hs, hl⟩ := h
    exact ⟨a, xs, rfl, hn.cut, hs, RepK.cutB kvs (by simpa [closed] using c) hl⟩
  | .ins C fs, v, c, h => by
    unfold Rep at *
    obtain ⟨a, dx, xs, rfl, hn, hs, hl⟩ := h
    exact ⟨a, dx, xs, rfl, hn.cut, hs, RepF.cutB fs (by simpa [closed] using c) hl⟩
  | .set ks, v, c, h => by
    unfold Rep at *
    obtain ⟨a, rfl, hn, hs⟩ := h
    exact ⟨a, rfl, hn.cut, hs⟩
  | .exn a dd fs, v, c, h => by
    unfold Rep at *
    obtain ⟨rfl, ⟨e1, e2⟩ | ⟨d, ys, e1, h0, h1, h2⟩⟩ := h
    · exact ⟨rfl, .inl ⟨e1, e2⟩⟩
    · exact ⟨rfl, .inr ⟨d, ys, e1, h0.cut, h1, RepF.cutB fs (by simpa [closed] using c) h2⟩⟩
theorem RepL.cutB : ∀ (ds : List D) {xs : List V}, closedL k ds = true → RepL g B H ds xs → RepL g (B.cut k) H ds xs
  | [], xs, _, h => by unfold RepL at *; exact h
  | d :: ds, xs, c, h => by
    simp only [closedL, Bool.and_eq_true] at c
    unfold RepL at *
    obtain ⟨y, ys, rfl, h1, h2⟩ := h
    exact ⟨y, ys, rfl, Rep.cut d c.1 h1, RepL.cutB ds c.2 h2⟩
theorem RepK.cutB : ∀ (ds : List (Key × D)) {xs : List (Key × V)}, closedK k ds = true → RepK g B H ds xs → RepK g (B.cut k) H ds xs
  | [], xs, _, h => by unfold RepK at *; exact h
  | (_, d) :: ds, xs, c, h => by
    simp only [closedK, Bool.and_eq_true] at c
    unfold RepK at *
    obtain ⟨y, ys, rfl, h1, h2⟩ := h
    exact ⟨y, ys, rfl, Rep.cut d c.1 h1, RepK.cutB ds c.2 h2⟩
theorem RepF.cutB : ∀ (ds : List (Str × D)) {xs : List (Str × V)}, closedF k ds = true → RepF g B H ds xs → RepF g (B.cut k) H ds xs
  | [], xs, _, h => by unfold RepF at *; exact h
  | (_, d) :: ds, xs, c, h => by
    simp only [closedF, Bool.and_eq_true] at c
    unfold RepF at *
    obtain ⟨y, ys, rfl, h1, h2⟩ := h
    exact ⟨y, ys, rfl, Rep.cut d c.1 h1, RepF.cutB ds c.2 h2⟩
end
theorem BoxAt.cut {a : Addr} {d : D} (c : closed k d = true) (h : BoxAt g B H a d) : BoxAt g (B.cut k) H a d := by
  cases d <;> unfold BoxAt at * <;> first | exact h | skip
  · obtain ⟨xs, h1, h2⟩ := h; exact ⟨xs, h1, RepL.cutB _ (by simpa [closed] using c) h2⟩
  · obtain ⟨xs, h1, h2⟩ := h; exact ⟨xs, h1, RepK.cutB _ (by simpa [closed] using c) h2⟩
  · obtain ⟨dx, xs, h1, h2⟩ := h; exact ⟨dx, xs, h1, RepF.cutB _ (by simpa [closed] using c) h2⟩
theorem SRel.cut (S : SRel g B H m) (c : closedL k (m.take k) = true) : SRel g (B.cut k) H (m.take k) where
  len := by show (B.b.take k).length = _; rw [List.length_take, List.length_take, S.len]
  nd := S.nd.sublist (List.take_sublist _ _)
  dj := fun a ha => S.dj a (List.mem_of_mem_take ha)
  zt := S.zt
  at_ := fun n a d h1 h2 => by
    have hn : n < k := by
      have := (List.getElem?_eq_some_iff.mp h2).1
      rw [List.length_take] at this
      omega
    have cd : closed k d = true := by
      have key : ∀ {l : List D} {i : Nat} {x : D}, closedL k l = true → l[i]? = some x → closed k x = true := by
        intro l
        induction l with
        | nil => intro i x _ e; simp at e
        | cons y ys ih =>
          intro i x cc e
          simp only [closedL, Bool.and_eq_true] at cc
          cases i with
          | zero => simp at e; exact e ▸ cc.1
          | succ i => exact ih cc.2 (by simpa using e)
      exact key c h2
    have h1' : (B.b.take k)[n]? = some a := h1
    rw [List.getElem?_take, if_pos hn] at h1' h2
    exact (S.at_ n a d h1' h2).cut cd
theorem Lift.cut (l : Lift B H B' H') (h : B.b.length ≤ k) : Lift B H (B'.cut k) H' where
  pre := by
    obtain ⟨nw, e, f⟩ := l.pre
    refine ⟨nw.take (k - B.b.length), ?_, fun a ha => f a (List.mem_of_mem_take ha)⟩
    show B'.b.take k = _
    rw [e, List.take_append, List.take_of_length_le h]
  hid := l.hid
  trk := l.trk
  same := l.same
end
/-- a def's body does r, the def is said to do q: n boxes stood ahead -/
inductive Ref (n : Nat) : Rs O → Rs D → Prop where
  | bad {r : Rs O} : Ref n r .bad
  | rt (d : D) (m : Mem) : Ref n (.ok (.rt d) m) (.ok d m)
  | nx (δ : Slots) (m : Mem) : Ref n (.ok (.nx δ) m) (.ok .non m)
  | cut (d : D) (m : Mem) (k : Nat) (h : n ≤ k) (c : closed k d = true) (cm : closedL k (m.take k) = true) : Ref n (.ok (.rt d) m) (.ok d (m.take k))
  | ncut (δ : Slots) (m : Mem) (k : Nat) (h : n ≤ k) (cm : closedL k (m.take k) = true) : Ref n (.ok (.nx δ) m) (.ok .non (m.take k))
  | frz (j : Nat) (d : D) (m : Mem) (k : Nat) (h : n ≤ k) (hj : k ≤ j) (e : m[j]? = some d) (c : closed k d = true) (cm : closedL k (m.take k) = true) : Ref n (.ok (.rt (.box j)) m) (.ok d (m.take k))
  | exc (x : Exn) (δ : Slots) (m : Mem) (k : Nat) (h : n ≤ k) (c : closedF k x.fs = true) (cm : closedL k (m.take k) = true) : Ref n (.ok (.ex x δ) m) (.exc x (m.take k))
theorem Ref.ret {n : Nat} {d : D} {m m' : Mem} {r : Rs O} (e : r = .ok (.rt d) m) (e2 : m' = m) : Ref n r (.ok d m') := by subst e e2; exact .rt d _
section
variable {g : Gd} {B : Bx} {H : Hp} {m : Mem} {E : XK} {Q : VK}
theorem SRel.frz (S : SRel g B H m) {j k : Nat} {d : D} (hj : k ≤ j) (e : m[j]? = some d) (c : closed k d = true) {v : V} (r : Rep g B H (.box j) v) : Rep g (B.cut k) H d v := by
  unfold Rep at r
  obtain ⟨a, rfl, ea⟩ := r
  have hb := S.at_ j a d ea e
  have hn : nb (B.cut k) a := by
    refine ⟨fun q => ?_, fun q => S.dj a (List.mem_of_getElem? ea) q⟩
    obtain ⟨i, hi, ei⟩ := List.getElem_of_mem (show a ∈ B.b.take k from q)
    have hi2 : i < k := by rw [List.length_take] at hi; omega
    have hi3 : i < B.b.length := by rw [List.length_take] at hi; omega
    rw [List.getElem_take] at ei
    have ej := List.getElem?_eq_some_iff.mp ea
    have := (List.getElem_inj S.nd).mp (ei.trans ej.2.symm)
    omega
  cases d <;> unfold BoxAt at hb <;> first | exact hb.elim | skip
  · obtain ⟨xs, h1, h2⟩ := hb
    unfold Rep
    exact ⟨a, xs, rfl, .inl ⟨hn, .inl h1⟩, RepL.cutB _ (by simpa [closed] using c) h2⟩
  · obtain ⟨xs, h1, h2⟩ := hb
    unfold Rep
    exact ⟨a, xs, rfl, hn, .inl h1, RepK.cutB _ (by simpa [closed] using c) h2⟩
  · obtain ⟨dx, xs, h1, h2⟩ := hb
    unfold Rep
    exact ⟨a, dx, xs, rfl, hn, h1, RepF.cutB _ (by simpa [closed] using c) h2⟩
  · unfold Rep
    exact ⟨a, rfl, hn, hb⟩
theorem ws_ref {r : Rs O} {q : Rs D} (h : Ref m.length r q) (S : SRel g B H m) (k : WP g E B H q (fun d _ B' H' => ∀ v, Rep g B' H' d v → Q v H')) : WS g (fun c d _ H => E c d H) B H r { nx := fun _ H' => Q .non H', rt := Q } := by
  cases h with
  | bad => exact k.elim
  | rt d m' => exact fun v B' H' l' S' r' => k B' H' l' S' v r'
  | nx δ m' => exact fun σ B' H' l' S' _ => k B' H' l' S' _ rep_non
  | cut d m' j h c cm => exact fun v B' H' l' S' r' => k (B'.cut j) H' (l'.cut (by rw [S.len]; exact h)) (S'.cut cm) v (Rep.cut d c r')
  | ncut δ m' j h cm => exact fun σ B' H' l' S' _ => k (B'.cut j) H' (l'.cut (by rw [S.len]; exact h)) (S'.cut cm) _ rep_non
  | frz i d m' j h hj e c cm => exact fun v B' H' l' S' r' => k (B'.cut j) H' (l'.cut (by rw [S.len]; exact h)) (S'.cut cm) v (S'.frz hj e c r')
  | exc x δ m' j h c cm =>
    intro σ B' H' dx l' S' _ xr
    refine k (B'.cut j) H' dx (l'.cut (by rw [S.len]; exact h)) (S'.cut cm) ?_
    rcases xr with xr | ⟨d, vs, e1, e0, e2, e3⟩
    · exact .inl xr
    · exact .inr ⟨d, vs, e1, e0.cut, e2, RepF.cutB _ c e3⟩
end

/-! ### defs -/
section
variable {P : Program} {w : World} {K : PySem.W.Frag} {mg : Str → Option Value} {base : Heap} {x qual : Str} {params : Arguments} {body : List Stmt} {scope : Scope} {f : Addr} {fd : FuncData}
/-- the context of a def's body -/
abbrev CxB (P : Program) (w : World) (K : PySem.W.Frag) (mg : Str → Option Value) (base : Heap) (N : List Str) (qual : Str) (scope : Scope) (f : Addr) (cdv : Value) (A : Around) (outer : List Env) (s : Shared) (H : Hp) (E : XK) : Cx := cxOf (L2.CX P w) P w K mg base N qual scope f cdv A outer s H E
abbrev WE (E : XK) : WX := fun c d _ H => E c d H
/-- A DEF: its body does s, and s does what F says -/
theorem fnD {N ps : List Str} {k n : Nat} {F : List D → Mem → Rs D} {s : SE} {dvs : List V} {kws : List (Str × V)} (G : FunD K x qual params body scope dvs kws f fd) (S : FnScope N ps scope) (hn : ps.length = n)
    (hb : ∀ (cdv : Value) (A : Around) (outer : List Env) (s0 : Shared) (H : Hp) (E : XK), Room k (A.deeper (envOfC qual scope s0.heap.objs.size f cdv)) → PSs (CxB P w K mg base N qual scope f cdv A outer s0 H E) body (tS ⟨P, w, K⟩ (WE E) s))
    (hF : ∀ ds m, ds.length = n → Ref m.length (s (ds.map some ++ List.replicate (N.length - n) none) m) (F ds m)) : FnOk P w K mg base (L2.CX P w) (k + 1) f fd ps (spD ⟨P, w, K⟩ n F) := by
  refine G.ok S (fun vs H Q E ⟨B, m, ds, _, r, hl, _⟩ => by rw [← r.len, hl, hn]) fun cdv A outer s0 H vs Q E hr ⟨B, m, ds, S0, r, hl, h⟩ => ⟨_, hb cdv A outer s0 H E hr, B, m, _, S0, ?_, ws_ref (hF ds m hl) S0 h⟩
  unfold L2.start
  rw [← r.len, hl]
  exact repL_start _ r
end
end DL
/-! try: clauses with and without a name; exceptions of own classes -/
namespace DL
open PySem L2 PySem.Spec
open PyProof.Rows hiding St
abbrev ClD (D : Ends) (i : Nat) : Ends := { nx := fun σ' H' => D.nx (σ'.set i none) H', rt := D.rt, bk := fun σ' H' => D.bk (σ'.set i none) H', ct := fun σ' H' => D.ct (σ'.set i none) H' }
/-- what the clauses wish of an exception of the body, one after the other -/
def wMix (K : PySem.W.Frag) (Wout : WX) (D : Ends) : List (Value × Option Nat × (Addr → Value → Option Addr → TS)) → WX
  | [] => Wout
  | (c, none, ts) :: r => fun cls d σ H => ∃ b, PySem.W.exmOne K cls c = some b ∧ (b = true → ∀ a, H a = none → ts a cls d D σ H) ∧ (b = false → wMix K Wout D r cls d σ H)
  | (c, some i, ts) :: r => fun cls d σ H => ∃ b, PySem.W.exmOne K cls c = some b ∧ (b = true → ∀ a, H a = none → ts a cls d (ClD D i) (σ.set i (some (.ref a))) H) ∧ (b = false → wMix K Wout D r cls d σ H)
inductive HdsG (X : Cx) : List ExceptHandler → List (Value × Option Nat × (Addr → Value → Option Addr → TS)) → Prop
  | nil : HdsG X [] []
  | cons {x : Str} {c : Value} {ts : Addr → Value → Option Addr → TS} {b₀ : Stmt} {suite : List Stmt} {np pos' : Pos} {hds : List ExceptHandler} {l : List (Value × Option Nat × (Addr → Value → Option Addr → TS))} (hc : Names X x c)
      (hsu : ∀ (a : Addr) (oe : Obj) (cls : Value) (d : Option Addr) (pn : List (Addr × Obj)), Zc cls d oe → (∃ vs, oe.data = .fields vs) → PSs (X.suite a ((a, oe) :: pn)) (b₀ :: suite) (ts a cls d)) (r : HdsG X hds l) :
      HdsG X (.ExceptHandler (some (.Name x np)) none (b₀ :: suite) pos' :: hds) ((c, none, ts) :: l)
  | as_ {x n : Str} {i : Nat} {c : Value} {ts : Addr → Value → Option Addr → TS} {b₀ : Stmt} {suite : List Stmt} {np pos' : Pos} {hds : List ExceptHandler} {l : List (Value × Option Nat × (Addr → Value → Option Addr → TS))} (hN : X.N.Nodup) (hi : X.N[i]? = some n) (hln : X.env.kindOf n = some .local) (hc : Names X x c)
      (hsu : ∀ (a : Addr) (oe : Obj) (cls : Value) (d : Option Addr) (pn : List (Addr × Obj)), Zc cls d oe → (∃ vs, oe.data = .fields vs) → PSs (X.suite a ((a, oe) :: pn)) (b₀ :: suite) (ts a cls d)) (r : HdsG X hds l) :
      HdsG X (.ExceptHandler (some (.Name x np)) (some n) (b₀ :: suite) pos' :: hds) ((c, some i, ts) :: l)
section
variable {X : Cx} {body : List Stmt} {h₀ : ExceptHandler} {hds : List ExceptHandler} {l : List (Value × Option Nat × (Addr → Value → Option Addr → TS))} {pos : Pos} {tb : WX → TS} {Wout : WX}
theorem ps_try_mix (hs : X.stack = X.env :: X.outer) (hf : X.env.frame = some X.env.locals) (tk : Takes X Wout)
    (hb : ∀ (W : WX) (pn : List (Addr × Obj)) (xe : Value → Shared → Prop), Takes (X.tr pn xe) W → PassesOwn (model X.prog X.w) X.A X.env xe → PSs (X.tr pn xe) body (tb W))
    (hh : HdsG X (h₀ :: hds) l) : PS X (.Try body (h₀ :: hds) [] [] pos) (fun D σ H => tb (wMix X.K Wout D l) D σ H) := by
  refine ⟨fun pins s σ H D I h => ?_⟩
  have ok := I.ok
  have hfr : X.A.frames = some (X.env :: X.outer) := by rw [ok.frames, hs]
  refine wpAny_Try_except ?_
  refine wpAny_mono ((hb (wMix X.K Wout D l) (X.pn ++ pins) (fun e s₁ => wpAny (model X.prog X.w) X.A (noteFrame e X.env) (fun _ s₂ => wpAny (model X.prog X.w) X.A (setFlight e none) (fun _ s₃ =>
    wpAny (model X.prog X.w) X.A (handleBy e X.env (h₀ :: hds)) (SP X pins D) X.xe s₃) X.xe s₂) X.xe s₁) (fun u s' xx => ?_) PassesOwn.looking).run [] s σ H D (I.toTry _) h) (fun f s1 hsp => ?_) (fun e s1 he => he)
  · -- the catch
    obtain ⟨a, B, sI, pins', σ', H', cls, d, rfl, J', nb, up, sky, na, os, ag, w⟩ := xx
    have J : Inv X pins σ' H' sI := J'.ofTry ok
    have sky' : Sky B (X.env :: X.outer) a (Zc cls d) X.env.locals s'.heap := by rw [← hs]; exact sky
    show wpAny (model X.prog X.w) X.A (noteFrame (.ref a) X.env) _ _ _
    refine Sky.land Zc.steady hfr hf sky' fun h3 fl3 up3 => ?_
    have J3 : Inv X pins σ' H' { s' with heap := h3 } := J.landed nb fl3.1 (up.trans up3) os ag
    obtain ⟨oe3, vs3, he3, hz3, hd3⟩ := fl3.there
    have notFr : ∀ {h : Heap} {o : Obj} {vs : Array Value}, h.FunFrames B (X.env :: X.outer) → h.get? a = some o → o.data = .fields vs → a ∉ frs (X.env :: X.outer) := fun {h o vs} ff e dd hm => by
      obtain ⟨_, o', e', hnf⟩ := ff.mem hm
      rw [e] at e'; cases e'
      exact hnf _ dd
    have nfr := notFr fl3.2.2.1 he3 hd3
    have nL : a ≠ X.env.locals := fun z => nfr (List.mem_filterMap.mpr ⟨X.env, List.mem_cons_self, by rw [hf, z]⟩)
    have nF : a ∉ X.fs := fun hm => by
      obtain ⟨e, he, q⟩ := List.mem_filterMap.mp hm
      exact nfr (List.mem_filterMap.mpr ⟨e, List.mem_cons_of_mem _ he, q⟩)
    have S3 := J3.suite he3 hd3 na nL nF
    have go : ∀ {hds' : List ExceptHandler} {l' : List (Value × Option Nat × (Addr → Value → Option Addr → TS))}, HdsG X hds' l' → wMix X.K Wout D l' cls d σ' H' →
        wpAny (model X.prog X.w) X.A (handleBy (.ref a) X.env hds') (SP X pins D) X.xe { s' with heap := h3 } := by
      intro hds' l' hk
      induction hk with
      | nil =>
        intro w
        refine wpAny_handleBy_nil ?_
        obtain ⟨k1, k2, k3, oe, vs, T, oT, ts', he, hz, hd, h1, hr⟩ := id fl3
        unfold PySem.passOn
        refine wpAny_bind (wpAny_field he hd h1 ?_)
        rw [if_neg (show ¬ ((Value.ref T == Value.none) = true) from by simp)]
        have fin : wpAny (model X.prog X.w) X.A (setFlight (.ref a) X.env.frame) (fun _ s4 => wpAny (model X.prog X.w) X.A (throw (.ref a) : Sem Flow) (SP X pins D) X.xe s4) X.xe { s' with heap := h3 } := by
          rw [hf]
          refine HandSPX.setFlight_upZ fl3 fun h4 hh4 up4 => wpAny_throw (tk _ _ ?_)
          exact ⟨a, B, sI, pins, σ', H', cls, d, rfl, J, nb, (up.trans up3).trans up4, .inr (.inr (by rw [hs]; exact hh4)), na, os, ag, w⟩
        first
          | exact wpAny_bind (wpAny_pure (wpAny_bind fin))
          | exact wpAny_bind fin
      | @cons x c ts b₀ suite np pos' hds2 l2 hc hsu r ih =>
        intro w
        obtain ⟨b, hb1, hyes, hno⟩ := w
        refine wpAny_handleBy_cons (codeAny_handlers_test ?_) (by intro q; cases q)
        have LT : PySem.W.Looks (model X.prog X.w) h3 (typeOf (.ref a)) cls := fun A Q E s k q => wpAny_typeOf_ref (k _ _ he3) (by rw [hz3.1]; exact q)
        have LM := PySem.W.exm_one (M := model X.prog X.w) (J3.kIn) LT hb1
        have test : ∀ {Q : Value → Shared → Prop} {E : Value → Shared → Prop}, Q c { s' with heap := h3 } → wpAny (model X.prog X.w) (X.A.mark (some (.ref a))) (eval (.Name x np) X.env) Q E { s' with heap := h3 } := fun {Q E} q => by
          obtain ⟨hg, hdbg, hm | ⟨hm, hv, hnn⟩⟩ := hc
          · exact ld_glob (X := X.suite a ((a, oe3) :: (X.pn ++ pins))) S3 hg hm q hdbg
          · exact ld_blt (X := X.suite a ((a, oe3) :: (X.pn ++ pins))) S3 hg hm hv q hnn hdbg
        refine test (LM.here ?_)
        cases b with
        | true =>
          refine codeAny_handlers_suite ?_
          refine HandSPX.lands_againZ fl3 fun h4 fl4 up4 => ?_
          have J4 : Inv X pins σ' H' { s' with heap := h4 } := J.landed nb fl4.1 ((up.trans up3).trans up4) os ag
          obtain ⟨oe4, vs4, he4, hz4, hd4⟩ := fl4.there
          have S4 := J4.suite he4 hd4 na nL nF
          refine wpAny_mono ((hsu a oe4 cls d (X.pn ++ pins) hz4 ⟨_, hd4⟩).run [] _ _ H' _ S4 (hyes rfl a na)) (fun f s6 hsp => ?_) (fun _ _ z => False.elim z)
          cases f with
          | next =>
            obtain ⟨σ6, H6, S6, q6⟩ := hsp
            exact ⟨_, _, S6.unsuite ok, q6⟩
          | brk =>
            obtain ⟨σ6, H6, S6, q6⟩ := hsp
            exact ⟨_, _, S6.unsuite ok, q6⟩
          | cont =>
            obtain ⟨σ6, H6, S6, q6⟩ := hsp
            exact ⟨_, _, S6.unsuite ok, q6⟩
          | ret u =>
            obtain ⟨v6, σ6, H6, S6, r6, q6⟩ := hsp
            exact ⟨_, _, _, S6.unsuite ok, r6, q6⟩
        | false =>
          show wpAny _ X.A (handleBy (.ref a) X.env hds2) _ _ _
          exact ih (hno rfl)
      | @as_ x n i c ts b₀ suite np pos' hds2 l2 hN hi hln hc hsu r ih =>
        intro w
        have hloc : Loc X.env.scope n := .inl hln
        obtain ⟨b, hb1, hyes, hno⟩ := w
        refine wpAny_handleBy_cons (codeAny_handlers_test ?_) (by intro q; cases q)
        have LT : PySem.W.Looks (model X.prog X.w) h3 (typeOf (.ref a)) cls := fun A Q E s k q => wpAny_typeOf_ref (k _ _ he3) (by rw [hz3.1]; exact q)
        have LM := PySem.W.exm_one (M := model X.prog X.w) (J3.kIn) LT hb1
        have test : ∀ {Q : Value → Shared → Prop} {E : Value → Shared → Prop}, Q c { s' with heap := h3 } → wpAny (model X.prog X.w) (X.A.mark (some (.ref a))) (eval (.Name x np) X.env) Q E { s' with heap := h3 } := fun {Q E} q => by
          obtain ⟨hg, hdbg, hm | ⟨hm, hv, hnn⟩⟩ := hc
          · exact ld_glob (X := X.suite a ((a, oe3) :: (X.pn ++ pins))) S3 hg hm q hdbg
          · exact ld_blt (X := X.suite a ((a, oe3) :: (X.pn ++ pins))) S3 hg hm hv q hnn hdbg
        refine test (LM.here ?_)
        cases b with
        | true =>
          refine codeAny_handlers_suite_as ?_
          refine HandSPX.lands_againZ fl3 fun h4 fl4 up4 => ?_
          have J4 : Inv X pins σ' H' { s' with heap := h4 } := J.landed nb fl4.1 ((up.trans up3).trans up4) os ag
          obtain ⟨oe4, vs4, he4, hz4, hd4⟩ := fl4.there
          have S4 := J4.suite he4 hd4 na nL nF
          refine store_ok (X := X.suite a ((a, oe4) :: (X.pn ++ pins))) (v := .ref a) S4 hN hi hloc rfl (fun s5 S5 => ?_) (.inr hln)
          refine wpAny_mono ((hsu a oe4 cls d (X.pn ++ pins) hz4 ⟨_, hd4⟩).run [] s5 _ H' _ S5 (hyes rfl a na)) (fun f s6 hsp => ?_) (fun _ _ z => False.elim z)
          have end_ : ∀ {σ6 : St} {H6 : Hp} {Q : Shared → Prop}, Inv (X.suite a ((a, oe4) :: (X.pn ++ pins))) [] σ6 H6 s6 → (∀ s7, Inv X pins (σ6.set i none) H6 s7 → Q s7) →
              wpAny (model X.prog X.w) X.A (do bindName X.env n .none; unbindBehindTheSuite X.env n pos') (fun _ s7 => Q s7) X.xe s6 := fun {σ6 H6 Q} S6 hq => gone_ok (S6.unsuite ok) hN hi hln hq
          cases f with
          | next =>
            obtain ⟨σ6, H6, S6, q6⟩ := hsp
            exact end_ S6 fun s7 J7 => ⟨_, _, J7, q6⟩
          | brk =>
            obtain ⟨σ6, H6, S6, q6⟩ := hsp
            exact end_ S6 fun s7 J7 => ⟨_, _, J7, q6⟩
          | cont =>
            obtain ⟨σ6, H6, S6, q6⟩ := hsp
            exact end_ S6 fun s7 J7 => ⟨_, _, J7, q6⟩
          | ret u =>
            obtain ⟨v6, σ6, H6, S6, r6, q6⟩ := hsp
            exact end_ S6 fun s7 J7 => ⟨_, _, _, J7, r6, q6⟩

        | false =>
          show wpAny _ X.A (handleBy (.ref a) X.env hds2) _ _ _
          exact ih (hno rfl)
    exact go hh w
  · cases f with
    | next =>
      obtain ⟨σ', H', J', q⟩ := hsp
      exact wpAny_execs_nil ⟨σ', H', J'.ofTry ok, q⟩
    | brk =>
      obtain ⟨σ', H', J', q⟩ := hsp
      exact ⟨σ', H', J'.ofTry ok, q⟩
    | cont =>
      obtain ⟨σ', H', J', q⟩ := hsp
      exact ⟨σ', H', J'.ofTry ok, q⟩
    | ret u =>
      obtain ⟨v, σ', H', J', r, q⟩ := hsp
      exact ⟨v, σ', H', J'.ofTry ok, r, q⟩
end
/-- a suite that raises nothing is entered -/
def setE (i : Option Nat) (a : Addr) (dd : Option Addr) (x : Exn) (δ : Slots) : Slots := match i with
  | some i => δ.set i (some (.exn a dd x.fs))
  | none => δ
/-- .. and left: its name is forgotten -/
def clrO (i : Option Nat) (r : Rs O) : Rs O := match i, r with
  | some i, .ok (.nx δ) m => .ok (.nx (δ.set i none)) m
  | some i, .ok (.bk δ) m => .ok (.bk (δ.set i none)) m
  | some i, .ok (.ct δ) m => .ok (.ct (δ.set i none)) m
  | _, .ok (.ex _ _) _ => .bad
  | _, r => r
abbrev HdD := Addr → Option Addr → CN → SE
def pickH (ex : CN → CN → Option Bool) : List (CN × Option Nat × HdD) → Exn → SE
  | [], x => fun δ m => .ok (.ex x δ) m
  | (c, i, h) :: r, x => fun δ m => match ex x.cls c with
    | some true => clrO i (h 0 none x.cls (setE i 0 none x δ) m)
    | some false => pickH ex r x δ m
    | none => .bad
def sTry (ex : CN → CN → Option Bool) (sb : SE) (hs : List (CN × Option Nat × HdD)) : SE := fun δ m => match sb δ m with
  | .ok (.ex x δ1) m1 => pickH ex hs x δ1 m1
  | r => r
def ExOk (K : PySem.W.Frag) (ex : CN → CN → Option Bool) : Prop := ∀ t c b, ex t c = some b → PySem.W.exmOne K (t.v K) (c.v K) = some b
/-- the suite does not hang on where the exception stands -/
def HPar (i : Option Nat) (h : HdD) : Prop := ∀ a dd x δ m, clrO i (h a dd x.cls (setE i a dd x δ) m) = clrO i (h 0 none x.cls (setE i 0 none x δ) m)
/-- the suite's reading -/
def tC0 (g : Gd) (cls : Value) (s : CN → SE) : TS := fun D σ H => ∃ c : CN, cls = c.v g.K ∧ tS g W0 (s c) D σ H
theorem tC0_of {X : Cx} {cls : Value} {sts : List Stmt} {s : CN → SE} (h : ∀ c : CN, cls = c.v X.K → PSs X sts (tS (gd X) W0 (s c))) : PSs X sts (tC0 (gd X) cls s) := ⟨fun pins sh σ H D I ⟨c, e, q⟩ => (h c e).run pins sh σ H D I q⟩
def lts (g : Gd) (l : List (CN × Option Nat × HdD)) : List (Value × Option Nat × (Addr → Value → Option Addr → TS)) := l.map fun t => (t.1.v g.K, t.2.1, fun a cls d => tC0 g cls (t.2.2 a d))
theorem WS.clr0 {g : Gd} {W : WX} {B B' : Bx} {H H' : Hp} {D : Ends} {r : Rs O} (h : WS g W B H (clrO none r) D) (l : Lift B H B' H') : WS g W0 B' H' r D := by
  have h := h.up l
  match r, h with
  | .ok (.nx δ) m, h => exact h
  | .ok (.bk δ) m, h => exact h
  | .ok (.ct δ) m, h => exact h
  | .ok (.rt δ) m, h => exact h
  | .ok (.ex x δ) m, h => exact h.elim
  | .exc x m, h => exact h.elim
  | .bad, h => exact h.elim
theorem WS.clr1 {g : Gd} {W : WX} {B B' : Bx} {H H' : Hp} {D : Ends} {r : Rs O} {i : Nat} (h : WS g W B H (clrO (some i) r) D) (l : Lift B H B' H') : WS g W0 B' H' r (ClD D i) := by
  have h := h.up l
  match r, h with
  | .ok (.nx δ) m, h => exact fun σ B2 H2 l2 S2 L2 => h _ B2 H2 l2 S2 (L2.none i)
  | .ok (.bk δ) m, h => exact fun σ B2 H2 l2 S2 L2 => h _ B2 H2 l2 S2 (L2.none i)
  | .ok (.ct δ) m, h => exact fun σ B2 H2 l2 S2 L2 => h _ B2 H2 l2 S2 (L2.none i)
  | .ok (.rt δ) m, h => exact h
  | .ok (.ex x δ) m, h => exact h.elim
  | .exc x m, h => exact h.elim
  | .bad, h => exact h.elim
theorem rep_exn {g : Gd} {B : Bx} {H : Hp} {x : Exn} {dx : Option Addr} {a : Addr} (h : ExRep g B H x dx) : Rep g B H (.exn a dx x.fs) (.ref a) := by
  unfold Rep
  refine ⟨rfl, ?_⟩
  rcases h with ⟨h1, h2⟩ | ⟨d, vs, h1, h2, h3, h4⟩
  · exact .inl ⟨h2, h1⟩
  · exact .inr ⟨d, vs, h1, h2, h3, h4⟩
theorem pick_of {g : Gd} {W : WX} {D : Ends} {ex : CN → CN → Option Bool} (hex : ExOk g.K ex) {x : Exn} {δ : Slots} {m : Mem} {σ : St} {dx : Option Addr} {B B' : Bx} {H H' : Hp} (l : Lift B H B' H') (S : SRel g B' H' m) (L : Sl g B' H' δ σ) (xr : ExRep g B' H' x dx) :
    ∀ (hs : List (CN × Option Nat × HdD)), (∀ t ∈ hs, HPar t.2.1 t.2.2) → WS g W B H (pickH ex hs x δ m) D → wMix g.K W D (lts g hs) (x.cls.v g.K) dx σ H'
  | [], _, h => h σ B' H' dx l S L xr
  | (c, none, f) :: r, hp, h => by
    unfold pickH at h
    cases e : ex x.cls c with
    | none => rw [e] at h; exact h.elim
    | some b =>
      rw [e] at h
      refine ⟨b, hex _ _ _ e, fun hb a _ => ?_, fun hb => ?_⟩
      · subst hb
        refine ⟨x.cls, rfl, B', m, δ, S, L, WS.clr0 (W := W) ?_ l⟩
        have := hp _ List.mem_cons_self a dx x δ m
        exact this ▸ h
      · subst hb
        exact pick_of hex l S L xr r (fun t ht => hp t (List.mem_cons_of_mem _ ht)) h
  | (c, some i, f) :: r, hp, h => by
    unfold pickH at h
    cases e : ex x.cls c with
    | none => rw [e] at h; exact h.elim
    | some b =>
      rw [e] at h
      refine ⟨b, hex _ _ _ e, fun hb a _ => ?_, fun hb => ?_⟩
      · subst hb
        refine ⟨x.cls, rfl, B', m, δ.set i (some (.exn a dx x.fs)), S, L.set (rep_exn xr) i, WS.clr1 (W := W) ?_ l⟩
        have := hp _ List.mem_cons_self a dx x δ m
        exact this ▸ h
      · subst hb
        exact pick_of hex l S L xr r (fun t ht => hp t (List.mem_cons_of_mem _ ht)) h
section
variable {X : Cx} {W : WX} {body : List Stmt} {h₀ : ExceptHandler} {hds : List ExceptHandler} {pos : Pos} {sb : SE}
theorem ds_try {ex : CN → CN → Option Bool} {l : List (CN × Option Nat × HdD)} (hex : ExOk X.K ex) (hs : X.stack = X.env :: X.outer) (hf : X.env.frame = some X.env.locals) (tk : Takes X W)
    (hb : ∀ (W' : WX) (pn : List (Addr × Obj)) (xe : Value → Shared → Prop), Takes (X.tr pn xe) W' → PassesOwn (model X.prog X.w) X.A X.env xe → PSs (X.tr pn xe) body (tS (gd X) W' sb))
    (hh : HdsG X (h₀ :: hds) (lts (gd X) l)) (hp : ∀ t ∈ l, HPar t.2.1 t.2.2) : PS X (.Try body (h₀ :: hds) [] [] pos) (tS (gd X) W (sTry ex sb l)) :=
  PS.imp (ps_try_mix (tb := fun W' => tS (gd X) W' sb) hs hf tk hb hh) fun D σ H ⟨B, m, δ, S, L, h⟩ => ⟨B, m, δ, S, L, by
    unfold sTry at h
    generalize sb δ m = r at h
    match r, h with
    | .ok (.nx δ) m, h => exact h
    | .ok (.bk δ) m, h => exact h
    | .ok (.ct δ) m, h => exact h
    | .ok (.rt δ) m, h => exact h
    | .ok (.ex x δ1) m1, h => exact fun σ1 B1 H1 dx l1 S1 L1 xr => pick_of (g := gd X) hex l1 S1 L1 xr l hp h
    | .exc x m, h => exact h.elim
    | .bad, h => exact h.elim⟩
end

/-! ### in a suite: the caught exception's fields, isinstance -/
theorem RepF.lookup {g : Gd} {B : Bx} {H : Hp} (f : Str) : ∀ {fs : List (Str × D)} {ys : List (Str × V)} {d : D}, RepF g B H fs ys → fs.lookup f = Option.some d → ∃ v, ys.lookup f = Option.some v ∧ Rep g B H d v
  | [], ys, d, _, e => by cases e
  | (k, x) :: r, ys, d, h, e => by
    unfold RepF at h
    obtain ⟨y, s, rfl, h1, h2⟩ := h
    rw [List.lookup_cons] at e ⊢
    cases q : f == k with
    | true => rw [q] at e; cases e; exact ⟨y, rfl, h1⟩
    | false => rw [q] at e; exact RepF.lookup f h2 e
def eXf (xc : CN → Str → Bool) (a : Addr) (dd : Option Addr) (cls : CN) (n : Str) (fo : DE) : DE := fun δ m => if xc cls n then (fo δ m).bind fun d m1 => match d with
  | .exn a' dd' fs => if a' = a ∧ dd' = dd then lf (fs.lookup n) m1 else .bad
  | _ => .bad else .bad
def XcOk (K : PySem.W.Frag) (xc : CN → Str → Bool) : Prop := ∀ c n, xc c n = true → ∃ C, c.v K = .ref C ∧ XfC K C ∧ PySem.W.findIn K (.ref C) n = some none
def opIsiE (kt : CN → CN → Option Bool) (a : Addr) (dd : Option Addr) (cls : CN) : OpN := fun _ ds => match ds with
  | [.exn a' dd' _, .cls C] => if a' = a ∧ dd' = dd then (kt cls (.own C)).map .bl else none
  | _ => none
def KtE (K : PySem.W.Frag) (kt : CN → CN → Option Bool) : Prop := ∀ t c b, kt t c = some b → PySem.W.kitOne K (t.v K) (c.v K) = some b ∧ ∃ D, t.v K = .ref D ∧ ExcC K D
section
variable {X : Cx} {a : Addr} {oe : Obj} {pn : List (Addr × Obj)} {cls : CN} {d : Option Addr} {e : Expr} {pos : Pos} {n : Str} {fo : DE}
theorem dx_xf {xc : CN → Str → Bool} (hxc : XcOk X.K xc) (hz : Zc (cls.v X.K) d oe) (hf : ∃ vs, oe.data = .fields vs) (he : PE (X.suite a ((a, oe) :: pn)) e (tE (gd X) W0 fo)) (hb : attributeBase e n X.env (eval e X.env) = eval e X.env := by rfl) :
    PE (X.suite a ((a, oe) :: pn)) (.Attribute e n pos) (tE (gd X) W0 (eXf xc a d cls n fo)) := by
  by_cases q : xc cls n = true
  · obtain ⟨C, ec, T, hno⟩ := hxc _ _ q
    refine PE.imp (pe_xf T hno hz hf he hb) fun σ H Q ⟨B, m, δ, S, L, h⟩ => ⟨B, m, δ, S, L, ?_⟩
    unfold eXf at h
    rw [if_pos q] at h
    refine (WP.step h).mono fun x m1 B1 H1 l1 _ ⟨_, S1, h1⟩ v rv => ?_
    match x, h1, rv with
    | .exn a' dd' fs, h1, rv =>
      by_cases c : a' = a ∧ dd' = d
      · rw [show (match D.exn a' dd' fs with | .exn a' dd' fs => if a' = a ∧ dd' = d then lf (fs.lookup n) m1 else Rs.bad | _ => Rs.bad) = lf (fs.lookup n) m1 from if_pos c] at h1
        obtain ⟨y, e1, k1⟩ := h1.lf
        obtain ⟨rfl, rfl⟩ := c
        unfold Rep at rv
        obtain ⟨rfl, ⟨c1, c2⟩ | ⟨dd, ys, c1, c2, c3, c4⟩⟩ := rv
        · rw [c2] at e1; cases e1
        · obtain ⟨v, h2, h3⟩ := RepF.lookup n c4 e1
          exact ⟨rfl, ec, dd, ys, v, c1, c3, h2, k1 B1 H1 (Lift.refl _ _) S1 v h3⟩
      · rw [show (match D.exn a' dd' fs with | .exn a' dd' fs => if a' = a ∧ dd' = d then lf (fs.lookup n) m1 else Rs.bad | _ => Rs.bad) = Rs.bad from if_neg c] at h1
        exact h1.elim
  · refine ⟨fun pins s σ H Q I ⟨B, m, δ, S, L, h⟩ => ?_⟩
    unfold eXf at h
    rw [if_neg q] at h
    exact h.elim
theorem dc_isiE {kt : CN → CN → Option Bool} (hkt : KtE X.K kt) (hz : Zc (cls.v X.K) d oe) (hf : ∃ vs, oe.data = .fields vs) : CallR (X.suite a ((a, oe) :: pn)) (.builtin "isinstance") (rN (gd X) (opIsiE kt a d cls)) := by
  intro pins s σ H xs us Q I rx ⟨B, m, ds, d0, S, r, e, k⟩
  unfold opIsiE at e
  split at e
  · rename_i a' dd' fs C
    split at e
    · rename_i c
      obtain ⟨rfl, rfl⟩ := c
      obtain ⟨b, e3, rfl⟩ := Option.map_eq_some_iff.mp e
      obtain ⟨v, w, rfl, r1, r2⟩ := repL2 r
      obtain ⟨e4, D, eD, T⟩ := hkt _ _ _ e3
      rw [eD] at hz e4
      unfold Rep at r1 r2
      obtain ⟨rfl, hd⟩ := r1
      subst r2
      cases rx with
      | cons ra rr =>
        cases rr with
        | cons rt rr =>
          cases rr
          cases ra
          cases rt
          obtain ⟨hget, _⟩ := I.pin (a', oe) (List.mem_append.mpr (.inl List.mem_cons_self))
          obtain ⟨vs, hv⟩ := hf
          have J : ∃ od, PySem.W.InstAt s.heap a' oe D od := by
            rcases hd with ⟨c1, c2⟩ | ⟨dd, ys, c1, c2, c3, c4⟩
            · refine ⟨none, hget, hz.1, by unfold PySem.W.notCls; rw [hv] <;> rfl, ?_⟩
              rw [hz.2, c1]
              trivial
            · have hx : ObjOk X.prog X.w H s.heap dd (.xd ys) := I.hok dd _ c3
              obtain ⟨mA, hns, hr⟩ := hx
              obtain ⟨od, ho, hl⟩ := lookIn_ns hns
              exact ⟨some od, hget, hz.1, by unfold PySem.W.notCls; rw [hv] <;> rfl, by rw [hz.2, c1]; exact ho⟩
          obtain ⟨od, J⟩ := J
          have hcl : (PySem.W.clsIn X.K D).isSome = true := by
            obtain ⟨cd, hc, _⟩ := PySem.W.any_some T.hd
            rw [hc]
            rfl
          exact PySem.W.kia_one (PySem.W.kitx_exc hcl T.hg T.hk T.hs T.ha T.hn T.ht T.hm) I.kIn J e4 (fun z => nomatch z) fun tk => ⟨.bl b, H, I.kept (t' := tk) fun _ _ z => z, rfl, k.same S rep_bl⟩
    · cases e
  · cases e
end

/-! ### raise C(e), C's own __init__: self.f = e -/
def spI1 (C : Addr) (f : Str) : Sp := fun vs H Q _ => ∃ a y, vs = [.ref a, y] ∧ H a = some (exo a C none) ∧ ∀ dx, H dx = none → dx ≠ a → Q .non (upd (upd H dx (exd dx [(f, y)])) a (exo a C (some dx)))
def sRaise1 (C : Str) (f : Str) (fe : DE) : SE := fun δ m => (fe δ m).st δ fun d m1 => .ok (.ex ⟨.own C, [(f, d)]⟩ δ) m1
section
variable {P : Program} {w : World} {K : PySem.W.Frag} {mg : Str → Option Value} {base : Heap} {qual f p1 : Str} {params : Arguments} {body : List Stmt} {scope : Scope} {fI C : Addr} {fd : FuncData} {CX : CXT} {pa pb pc pd : Pos}
theorem ok_init1 (T : OexC K C) (hno : PySem.W.findIn K (.ref C) f = some none) {dvs : List V} {kws : List (Str × V)} (G : FunD K "__init__" qual params body scope dvs kws fI fd) {N : List Str} (S : FnScope N ["self", p1] scope) (hN : N = ((["self", p1] : List Str))) (hs : scope.names = ([(("self" : Str), NameKind.local), (p1, NameKind.local)] : List (Str × NameKind))) (hp1 : (p1 == ("__debug__" : Str)) = false) (hp2 : (p1 == ("__classdict__" : Str)) = false) (hps : p1 ≠ "self")
    (hb : body = [.Assign [.Attribute (.Name "self" pa) f pb] (.Name p1 pc) pd]) : FnOk P w K mg base CX 1 fI fd ["self", p1] (spI1 C f) := by
  subst hN hb
  refine G.ok S (fun vs H Q E ⟨a, y, e, _⟩ => by rw [e]; rfl) fun cdv A outer s0 H vs Q E hr ⟨a, y, e, ha, k⟩ => ⟨tOst K f (tVar 0) (tVar 1), PSs.nox ?_, ?_⟩
  · have l1 : Vis (cxOf CX P w K mg base ["self", p1] qual scope fI cdv A outer s0 H E).env.scope "self" := by
      refine .inl ?_
      show scope.names.lookup ("self" : Str) = some NameKind.local
      rw [hs]; rfl
    have l2 : Vis (cxOf CX P w K mg base ["self", p1] qual scope fI cdv A outer s0 H E).env.scope p1 := by
      refine .inl ?_
      show scope.names.lookup p1 = some NameKind.local
      rw [hs]
      have : (p1 == ("self" : Str)) = false := by rw [beq_eq_false_iff_ne]; exact hps
      simp [List.lookup_cons, this]
    exact pss_one (ps_ost (pe_var rfl l1) (pe_var (i := 1) rfl l2 hp1 hp2))
  · subst e
    exact ⟨_, rfl, _, rfl, a, C, rfl, T, hno, .inl ⟨ha, fun dx h1 h2 => k dx h1 h2⟩⟩
end
section
variable {X : Cx} {W : WX} {pos p p' : Pos} {e : Expr} {fe : DE} {fI : Addr} {fd : FuncData} {k : Nat} {x f p1 : Str}
theorem ds_raise1 (hc : X.calm = true) (tk : Takes X W) (T : OexC X.K (He.ga X.K x)) (iC : PySem.W.findIn X.K (.ref (He.ga X.K x)) "__init__" = some (some (.ref fI))) (tI : PySem.W.typeIn X.K (.ref fI) = some (.type "function"))
    (F : FnOk X.prog X.w X.K X.mg X.base (L2.CX X.prog X.w) k fI fd ["self", p1] (spI1 (He.ga X.K x) f)) (hr : Room (k + 1) X.A) (hb : Binds X.K fd ["self", p1] []) (hg : Gl X x) (hm : X.mg x = some (.ref (He.ga X.K x))) (he : PE X e (tE (gd X) W fe))
    (hdb : (x == ("__debug__" : Str)) = false := by decide) (hs : starEach [e] X.env = [(false, eval e X.env)] := by rfl) : PS X (.Raise (some (.Call (.Name x p) [e] [] pos)) none p') (tS (gd X) W (sRaise1 x f fe)) :=
  PS.imp (ps_raise hc tk (pmk_oex (ta := tCons (tE (gd X) W fe) tNil) T iC tI F hr hb .nil passL hg hm (pa_cons he pa_nil hs) hdb hs rfl)) fun D σ H ⟨B, m, δ, S, L, h⟩ => ⟨B, m, δ, S, L, (WS.step h S L).mono fun d m1 B1 H1 l1 _ ⟨_, S1, h1⟩ v rv =>
    ⟨by show 1 ≤ 1000; decide, fun a ha => ⟨a, v, rfl, upd_same, fun dx h2 hne => by
      have hd : H1 dx = none := by rw [upd_ne hne] at h2; exact h2
      refine ⟨rfl, dx, [(f, v)], upd_same, by rw [upd_ne hne]; exact upd_same, hd, ?_⟩
      have eH : upd (del (upd (upd (upd H1 a (exo a (He.ga X.K x) none)) dx (exd dx [(f, v)])) a (exo a (He.ga X.K x) (some dx))) a) dx (.xd [(f, v)]) = upd H1 dx (.xd [(f, v)]) := by
        funext b
        by_cases q : b = dx
        · rw [q, upd_same, upd_same]
        · rw [upd_ne q, upd_ne q]
          by_cases q2 : b = a
          · rw [q2, del_same, ha]
          · rw [del_ne q2, upd_ne q2, upd_ne q, upd_ne q2]
      rw [eH]
      exact h1 σ B1 _ (some dx) (Lift.new hd) (S1.new hd) ((L.up S l1).up S1 (Lift.new hd)) (.inr ⟨dx, _, rfl, (S1.fresh hd), upd_same, by unfold RepF; exact ⟨v, [], rfl, rv.up S1 (Lift.new hd), by unfold RepF; rfl⟩⟩)⟩⟩⟩
end
end DL
/-! the run of a def: what is told of its end; making objects; fields; properties -/
namespace DL
open PySem L2 PySem.Spec
open PyProof.Rows hiding St
/-- what a def returns: new boxes are forgotten where nothing tells of them; a new box that is returned stays one, or (frz) nobody changes it any more -/
def retF (frz : Bool) (n : Nat) (d : D) (m : Mem) : Rs D := match frz, d with
  | true, .box j => match m[j]? with
    | some d' => if n ≤ j ∧ closed n d' = true ∧ closedL n (m.take n) = true then .ok d' (m.take n) else .bad
    | none => .bad
  | _, d => if closed n d = true ∧ closedL n (m.take n) = true then .ok d (m.take n) else .ok d m
def endF (frz : Bool) (n : Nat) : Rs O → Rs D
  | .ok (.rt d) m => retF frz n d m
  | .ok (.nx _) m => if closedL n (m.take n) = true then .ok .non (m.take n) else .ok .non m
  | .ok (.ex x _) m => if closedF n x.fs = true ∧ closedL n (m.take n) = true then .exc x (m.take n) else .bad
  | _ => .bad
theorem retF_ref (frz : Bool) (n : Nat) (d : D) (m : Mem) : Ref n (.ok (.rt d) m) (retF frz n d m) := by
  have key : Ref n (.ok (.rt d) m) (if closed n d = true ∧ closedL n (m.take n) = true then .ok d (m.take n) else .ok d m) := by
    split
    · rename_i c
      exact .cut d m n (Nat.le_refl _) c.1 c.2
    · exact .rt d m
  unfold retF
  split
  · rename_i j
    split
    · rename_i d' e
      split
      · rename_i c
        exact .frz j d' m n (Nat.le_refl _) c.1 e c.2.1 c.2.2
      · exact .bad
    · exact .bad
  · exact key
theorem endF_ref (frz : Bool) (n : Nat) (r : Rs O) : Ref n r (endF frz n r) := by
  match r with
  | .ok (.rt d) m => exact retF_ref frz n d m
  | .ok (.nx δ) m =>
    show Ref n _ (if closedL n (m.take n) = true then .ok .non (m.take n) else .ok .non m)
    split
    · rename_i c
      exact .ncut δ m n (Nat.le_refl _) c
    · exact .nx δ m
  | .ok (.ex x δ) m =>
    show Ref n _ (if closedF n x.fs = true ∧ closedL n (m.take n) = true then .exc x (m.take n) else .bad)
    split
    · rename_i c
      exact .exc x δ m n (Nat.le_refl _) c.1 c.2
    · exact .bad
  | .ok (.bk δ) m => exact .bad
  | .ok (.ct δ) m => exact .bad
  | .exc x m => exact .bad
  | .bad => exact .bad
/-- a def whose body does s; k slots beside the parameters -/
def runF (frz : Bool) (s : SE) (k : Nat) : List D → Mem → Rs D := fun ds m => endF frz m.length (s (ds.map some ++ List.replicate k none) m)
section
variable {P : Program} {w : World} {K : PySem.W.Frag} {mg : Str → Option Value} {base : Heap} {x qual : Str} {params : Arguments} {body : List Stmt} {scope : Scope} {f : Addr} {fd : FuncData}
theorem fnR {N ps : List Str} {k n j : Nat} (frz : Bool) {s : SE} {dvs : List V} {kws : List (Str × V)} (G : FunD K x qual params body scope dvs kws f fd) (S : FnScope N ps scope)
    (hb : ∀ (cdv : Value) (A : Around) (outer : List Env) (s0 : Shared) (H : Hp) (E : XK), Room k (A.deeper (envOfC qual scope s0.heap.objs.size f cdv)) → PSs (CxB P w K mg base N qual scope f cdv A outer s0 H E) body (tS ⟨P, w, K⟩ (WE E) s))
    (hn : ps.length = n := by rfl) (hj : N.length - n = j := by rfl) : FnOk P w K mg base (L2.CX P w) (k + 1) f fd ps (spD ⟨P, w, K⟩ n (runF frz s j)) :=
  fnD G S hn hb fun ds m _ => by
    unfold runF
    rw [hj]
    exact endF_ref frz m.length _
end

/-! ### statements -/
section
variable {X : Cx} {W : WX} {pos : Pos} {e : Expr} {f : DE}
/-- name = [..] on one line -/
theorem ds_setLc (bx : Bool) {i : Nat} {y : Str} {py spos : Pos} {elt tg iter : Expr} {ifs : List Expr} {scope : Scope} (own : List (Str × Nat)) {fi : DI} {t : DG} {c : DT} {fe : DE} {is : List Nat} (hc : X.calm = true) (hN : X.N.Nodup) (hi : PI X tg iter (tI (gd X) W fi)) (ok : BlkOk X.N X.env.scope scope own)
    (hg : ∀ (s : Shared) (H : Hp) (C : Addr) (cl : List (Str × Addr)) (fp : List Addr), PG (X.blk s H scope (compEnvC scope cl C X.env) fp) tg (tG (gd X) is t))
    (ht : ∀ (s : Shared) (H : Hp) (C : Addr) (cl : List (Str × Addr)) (fp : List Addr), PTs (X.blk s H scope (compEnvC scope cl C X.env) fp) ifs (tT (gd X) W0 c))
    (he : ∀ (s : Shared) (H : Hp) (C : Addr) (cl : List (Str × Addr)) (fp : List Addr), PE (X.blk s H scope (compEnvC scope cl C X.env) fp) elt (tE (gd X) W0 fe))
    (hy : X.N[i]? = some y := by rfl) (hyl : X.env.scope.names.lookup y = some .local := by rfl) (hk : X.env.scope.kind = .function := by rfl)
    (hl : (py.line == pos.line) = true := by rfl) (ha : (scope.names.any fun (n, k) => n == y && (k == .local || k == .cell)) = false := by decide +kernel) (hl2 : pos.line = spos.line := by rfl)
    (his : ∀ j ∈ is, j ∈ own.map (·.2) := by decide) (hs : ∀ x, foldedSetIterable iter X.env x = pure x := by intro _; rfl) :
    PS X (.Assign [.Name y py] (.ListComp elt [⟨tg, iter, ifs, 0⟩] scope pos) spos) (tS (gd X) W (sSet i (eCompG bx fi (own.map (·.2)) t c fe))) :=
  PS.imp (ps_setLc hc hN hy hyl (by rw [← hl2]; exact sw_true hk hyl hl ha) hi ok hg ht he hs) fun D σ H ⟨B, m, δ, S, L, h⟩ =>
    comp_core bx his σ H _ ⟨B, m, δ, S, L, (WS.step h S L).mono fun d m1 B1 H1 l1 _ ⟨_, S1, h1⟩ v rv => h1 _ B1 H1 (Lift.refl _ _) S1 ((L.up S l1).set rv i)⟩
/-- a, b, c = x, y, z -/
def sPar3 (i j l : Nat) (t : DA) : SE := fun δ m => (t δ m).st δ fun ds m1 => match ds with
  | [d, e, f] => .ok (.nx (((δ.set i (some d)).set j (some e)).set l (some f))) m1
  | _ => .bad
theorem ds_par3 {i j l : Nat} {x y z : Str} {a b c : Expr} {t : DA} {px py pz pt : Pos} {kt k2 pt2} (hc : X.calm = true) (hN : X.N.Nodup) (ha : PA X [a, b, c] (tA (gd X) W t)) (hi : X.N[i]? = some x := by rfl) (hj : X.N[j]? = some y := by rfl) (hl : X.N[l]? = some z := by rfl)
    (hij : i ≠ j := by decide) (hil : i ≠ l := by decide) (hjl : j ≠ l := by decide)
    (hx : X.env.scope.names.lookup x = some .local := by rfl) (hy : X.env.scope.names.lookup y = some .local := by rfl) (hz : X.env.scope.names.lookup z = some .local := by rfl)
    (hw : swappedStores [.Tuple [.Name x px, .Name y py, .Name z pz] kt pt] (.Tuple [a, b, c] k2 pt2) X.env = pure (some [x, y, z]) := by rfl)
    (hs : swapsWithSole [.Tuple [.Name x px, .Name y py, .Name z pz] kt pt] (.Tuple [a, b, c] k2 pt2) pos.line X.env = pure false := by rfl) :
    PS X (.Assign [.Tuple [.Name x px, .Name y py, .Name z pz] kt pt] (.Tuple [a, b, c] k2 pt2) pos) (tS (gd X) W (sPar3 i j l t)) :=
  PS.imp (ps_par3 hc hN hi hj hl hij hil hjl hx hy hz ha hw hs) fun N σ H ⟨B, m, δ, S, L, h⟩ => ⟨B, m, δ, S, L, (WS.step h S L).mono fun ds m1 B1 H1 l1 _ ⟨_, S1, h1⟩ vs rvs => by
    match ds, h1, rvs with
    | [d, e, f], h1, rvs =>
      unfold RepL at rvs
      obtain ⟨u, ys, rfl, r1, r2⟩ := rvs
      unfold RepL at r2
      obtain ⟨u2, ys, rfl, r2, r3⟩ := r2
      unfold RepL at r3
      obtain ⟨u3, ys, rfl, r3, r4⟩ := r3
      unfold RepL at r4
      subst r4
      exact ⟨u, u2, u3, rfl, h1 _ B1 H1 (Lift.refl _ _) S1 ((((L.up S l1).set r1 i).set r2 j).set r3 l)⟩
    | [], h1, _ => exact h1.elim
    | [d], h1, _ => exact h1.elim
    | [d, e], h1, _ => exact h1.elim
    | d :: e :: f :: q :: r, h1, _ => exact h1.elim⟩

theorem tTest_of {f : DE} : ∀ σ H Q, tT (gd X) W (cBl f) σ H Q → tTest (tE (gd X) W f) σ H Q := fun σ H Q ⟨B, m, δ, S, L, h⟩ =>
  ⟨B, m, δ, S, L, (WP.step h).mono fun d m1 B1 H1 l1 _ ⟨_, S1, h1⟩ v rv => by
    match d, h1, rv with
    | .bl b, h1, rv => exact ⟨b, of_bl rv, WP.at h1 (Lift.refl _ _) S1⟩⟩
theorem dt_cmp {op : CmpOp} {o : Op2} {a b : Expr} {fa fb : DE} (ho : OpR X (compareOp op) (rD (gd X) o)) (ha : PE X a (tE (gd X) W fa)) (hb : PE X b (tE (gd X) W fb)) (hm : behindInMarks op b = false := by first | exact nomark _ | rfl) :
    PT X (.Compare a [op] [b] pos) (tT (gd X) W (cBl (eBin o fa fb))) :=
  PT.imp (pt_cmpR ho ha hb hm) fun σ H Q h => tOp_of σ H _ (tTest_of σ H Q h)
theorem dt_chain {op op' : CmpOp} {o o' : Op2} {a b c : Expr} {fa fb fc : DE} (ho : OpR X (compareOp op) (rD (gd X) o)) (ho' : OpR X (compareOp op') (rD (gd X) o')) (ha : PE X a (tE (gd X) W fa)) (hb : PE X b (tE (gd X) W fb)) (hc : PE X c (tE (gd X) W fc))
    (hm : lastMarks [op, op'] [b, c] = false := by with_unfolding_all rfl) : PT X (.Compare a [op, op'] [b, c] pos) (tT (gd X) W (cBl (eChain o o' fa fb fc))) :=
  PT.imp (pt_chain ho ho' ha hb hc hm) fun σ H Q h => tChain_of σ H _ (tTest_of σ H Q h)

/-! ### calls without arguments; objects -/
variable {k n : Nat} {fa' C : Addr} {fd : FuncData} {ps : List Str} {F : List D → Mem → Rs D} {x : Str} {p : Pos} {es : List Expr} {t : DA}
theorem pe_callSD0 {sp : Sp} {dvs : List V} {ds : List Value} {E : St → XK} {CX : CXT} (F : FnOk X.prog X.w X.K X.mg X.base CX k fa' fd ps sp) (hr : Room k X.A) (hg : Gl X x) (hm : X.mg x = some (.ref fa')) (hk : PySem.W.keepIn X.K (.ref fa') = true) (hb : Binds X.K fd ps ds) (hd : Vals dvs ds) (hx : ∀ σ, PassesAt CX X σ (E σ))
    (hdb : (x == ("__debug__" : Str)) = false := by decide) : PE X (.Call (.Name x p) [] [] pos) (tCallSD sp dvs E tNil) := by
  refine ⟨fun pins s σ H Q I h => ?_⟩
  refine wpAny_Call_Name_kw (ld_glob I hg hm ?_ hdb)
  exact PySem.W.callWith_K0 I.kIn hk (run_fnSD (us := []) F hr hb hd (hx σ) I .nil h)
theorem dx_call0 (G : FnOk X.prog X.w X.K X.mg X.base (L2.CX X.prog X.w) k fa' fd ps (spD (gd X) 0 F)) (hr : Room k X.A) (hg : Gl X x) (hm : X.mg x = some (.ref fa')) (hk : PySem.W.keepIn X.K (.ref fa') = true) (hb : Binds X.K fd ps [])
    (tk : Takes X W) (hdb : (x == ("__debug__" : Str)) = false := by decide) : PE X (.Call (.Name x p) [] [] pos) (tE (gd X) W (eCall F aNil)) :=
  PE.imp (pe_callSD0 (E := fun σ c d H => W c d σ H) G hr hg hm hk hb .nil (fun σ => passAt tk σ) hdb) fun σ H Q ⟨B, m, δ, S, L, h⟩ => ⟨B, m, [], S, RepL.nil, rfl, h⟩
/-- C(..): the new object is a box, or (frz) nobody changes it any more -/
def mkR (frz : Bool) (C : Str) (F : List D → Mem → Rs D) (ds : List D) (m : Mem) : Rs D := match F (.box m.length :: ds) (m ++ [.ins C []]) with
  | .ok .non m2 => retF frz m.length (.box m.length) m2
  | .exc e m2 => endF frz m.length (.ok (.ex e []) m2)
  | _ => .bad
def eMake (frz : Bool) (C : Str) (F : List D → Mem → Rs D) (dds : List D) (t : DA) : DE := fun δ m => (t δ m).bind fun ds m1 => mkR frz C F (ds ++ dds) m1
theorem mk_of {C : Str} {g : Gd} {E : XK} {B : Bx} {H : Hp} {m : Mem} {frz : Bool} {ds dds : List D} {vs dvs : List V} {Q : VK} (S : SRel g B H m) (r : RepL g B H ds vs) (rd : ∀ B H, RepL g B H dds dvs) (hl : ds.length + dds.length + 1 = n)
    (h : WP g E B H (mkR frz C F (ds ++ dds) m) (fun d _ B' H' => ∀ v, Rep g B' H' d v → Q v H')) (x dx : Addr) (hx : H x = none) (hdx : H dx = none) (hne : dx ≠ x) :
    spD g n F (.ref x :: (vs ++ dvs)) (upd (upd H dx (.own x)) x (.ins (He.ga g.K C) dx [])) (fun v H2 => v = .non ∧ Q (.ref x) H2) E := by
  have l1 : Lift B H B (upd H dx (.own x)) := Lift.new hdx
  have S1 := S.new (o := .own x) hdx
  have hx1 : upd H dx (.own x) x = none := by rw [upd_ne (Ne.symm hne)]; exact hx
  have l2 : Lift B (upd H dx (.own x)) (B.add x) (upd (upd H dx (.own x)) x (.ins (He.ga g.K C) dx [])) := Lift.newBox hx1
  have S2 : SRel g (B.add x) (upd (upd H dx (.own x)) x (.ins (He.ga g.K C) dx [])) (m ++ [.ins C []]) := S1.newBox hx1 ⟨dx, [], upd_same, by unfold RepF; rfl⟩
  have l12 := l1.trans l2
  have rb : Rep g (B.add x) (upd (upd H dx (.own x)) x (.ins (He.ga g.K C) dx [])) (.box m.length) (.ref x) := by
    unfold Rep
    refine ⟨x, rfl, ?_⟩
    show (B.b ++ [x])[m.length]? = _
    rw [← S.len, List.getElem?_append_right (Nat.le_refl _)]
    simp
  refine ⟨B.add x, m ++ [.ins C []], .box m.length :: (ds ++ dds), S2, RepL.cons rb (RepL.app (r.up S l12) (rd _ _)), by simp; omega, ?_⟩
  unfold mkR at h
  generalize F (.box m.length :: (ds ++ dds)) (m ++ [.ins C []]) = q at h ⊢
  match q, h with
  | .ok .non m2, h =>
    intro B' H' l' S' v rv
    refine ⟨of_non rv, ?_⟩
    exact ws_ref (retF_ref frz m.length (.box m.length) m2) S h (.ref x) B' H' (l12.trans l') S' (rb.up S2 l')
  | .exc e m2, h =>
    intro B' H' d l' S' xr
    exact ws_ref (m := m) (endF_ref frz m.length (.ok (.ex e []) m2)) S h [] B' H' d (l12.trans l') S' ⟨rfl, fun i d e => by simp at e⟩ xr
  | .bad, h => exact h.elim
def tMakeSD (C : Addr) (sp : Sp) (dvs : List V) (E : St → XK) (t : TA) : TE := fun σ H Q => t σ H fun vs H1 => ∀ x dx, H1 x = none → H1 dx = none → dx ≠ x →
  sp (.ref x :: (vs ++ dvs)) (upd (upd H1 dx (.own x)) x (.ins C dx [])) (fun v H2 => v = .non ∧ Q (.ref x) H2) (E σ)
theorem run_makeSD {pins : List (Addr × Obj)} {σ : St} {H : Hp} {s : Shared} {Q : VK} {us : List Value} {vs dvs : List V} {ds : List Value} {sp : Sp} {CX : CXT} {E : XK} (M : Mk X.K C fa') (F : FnOk X.prog X.w X.K X.mg X.base CX k fa' fd ps sp) (hr : Room (k + 1) X.A) (hb : Binds X.K fd ps ds) (hd : Vals dvs ds)
    (hx : PassesAt CX X σ E) (I : Inv X pins σ H s) (r : Vals vs us)
    (h : ∀ x dx, H x = none → H dx = none → dx ≠ x → sp (.ref x :: (vs ++ dvs)) (upd (upd H dx (.own x)) x (.ins C dx [])) (fun v H2 => v = .non ∧ Q (.ref x) H2) E) :
    wpAny (model X.prog X.w) X.A (call (.ref C) us) (EP X pins σ Q) X.xe s := by
  have hq := h (s.heap.objs.size + 1) s.heap.objs.size (I.hok.fresh (Nat.le_succ _)) (I.hok.fresh (Nat.le_refl _)) (Nat.ne_of_lt (Nat.lt_succ_self _))
  have I2 := Inv.made (C := C) I
  have r2 : Vals (V.ref (s.heap.objs.size + 1) :: (vs ++ dvs)) (Value.ref (s.heap.objs.size + 1) :: (us ++ ds)) := .cons rfl (r.append hd)
  have hl : (Value.ref (s.heap.objs.size + 1) :: us ++ ds).length = ps.length := by
    have e := r2.length
    rw [F.len _ _ _ _ hq] at e
    exact e.symm
  refine wpAny_call (make_map (f := fa') I.kIn M.makes M.init (beq_iff_eq.mp M.fn) (codeAny_mono (F.run _ X.stack _ _ ⟨Value.ref (s.heap.objs.size + 1) :: us, []⟩ (Value.ref (s.heap.objs.size + 1) :: (us ++ ds)) _ _ E (hr.make C us [])
    (I2.env0.make C us []) (hb _ (Value.ref (s.heap.objs.size + 1) :: us) I2.kIn hl) r2 hq) fun r s' hq' => ?_))
  cases r with
  | error e => exact hx pins _ _ e s' I2 hq'
  | ok fl =>
    cases fl with
    | ret u =>
      obtain ⟨v, H', I3, rv, ev, q3⟩ := I2.after hq'
      subst ev
      exact ⟨rv, ⟨V.ref (s.heap.objs.size + 1), H', I3, rfl, q3⟩⟩
    | next => exact False.elim hq'
    | brk => exact False.elim hq'
    | cont => exact False.elim hq'
theorem dx_make (frz : Bool) {dds : List D} {dvs : List V} {ds : List Value} (M : Mk X.K (He.ga X.K x) fa') (G : FnOk X.prog X.w X.K X.mg X.base (L2.CX X.prog X.w) k fa' fd ps (spD (gd X) n F)) (hr : Room (k + 1) X.A) (hg : Gl X x) (hm : X.mg x = some (.ref (He.ga X.K x))) (hb : Binds X.K fd ps ds) (hd : Vals dvs ds) (rd : ∀ B H, RepL (gd X) B H dds dvs)
    (tk : Takes X W) {j : Nat} (ha : PA X (e :: es) (tA (gd X) W t)) (al : AL j t) (hj : j + dds.length + 1 = n := by rfl) (hdb : (x == ("__debug__" : Str)) = false := by decide) (he : starEach (e :: es) X.env = (false, eval e X.env) :: starEach es X.env := by rfl) (hpl : (backTo pos (starEach es X.env)).any (·.1) = false := by rfl) :
    PE X (.Call (.Name x p) (e :: es) [] pos) (tE (gd X) W (eMake frz x F dds t)) := by
  refine PE.imp (t := tMakeSD (He.ga X.K x) (spD (gd X) n F) dvs (fun σ c d H => W c d σ H) (tA (gd X) W t)) ⟨fun pins s σ H Q I h => ?_⟩ fun σ H Q ⟨B, m, δ, S, L, h⟩ => ?_
  · refine wpAny_Call_Name_kw (ld_glob I hg hm ?_ hdb)
    refine PySem.W.callWith_K (h₀ := X.base) I.ok.mod.kin M.kp (thn (ha.run pos pins s σ H _ I h) fun us s1 ⟨vs, H1, I1, r, q⟩ => ⟨I1.kIn, ?_⟩) he hpl
    exact run_makeSD M G hr hb hd (passAt tk σ) I1 r q
  · exact ⟨B, m, δ, S, L, WP.al al (WP.step h) fun ds m1 B1 H1 hl l1 _ ⟨_, S1, h1⟩ vs rvs a dx h2 h3 h4 => mk_of S1 rvs rd (by omega) h1 a dx h2 h3 h4⟩
theorem dx_make0 (frz : Bool) {dds : List D} {dvs : List V} {ds : List Value} (M : Mk X.K (He.ga X.K x) fa') (G : FnOk X.prog X.w X.K X.mg X.base (L2.CX X.prog X.w) k fa' fd ps (spD (gd X) n F)) (hr : Room (k + 1) X.A) (hg : Gl X x) (hm : X.mg x = some (.ref (He.ga X.K x))) (hb : Binds X.K fd ps ds) (hd : Vals dvs ds) (rd : ∀ B H, RepL (gd X) B H dds dvs)
    (tk : Takes X W) (hj : dds.length + 1 = n := by rfl) (hdb : (x == ("__debug__" : Str)) = false := by decide) :
    PE X (.Call (.Name x p) [] [] pos) (tE (gd X) W (eMake frz x F dds aNil)) := by
  refine PE.imp (t := tMakeSD (He.ga X.K x) (spD (gd X) n F) dvs (fun σ c d H => W c d σ H) tNil) ⟨fun pins s σ H Q I h => ?_⟩ fun σ H Q ⟨B, m, δ, S, L, h⟩ => ?_
  · refine wpAny_Call_Name_kw (ld_glob I hg hm ?_ hdb)
    exact PySem.W.callWith_K0 I.kIn M.kp (run_makeSD (us := []) M G hr hb hd (passAt tk σ) I .nil h)
  · exact fun a dx h2 h3 h4 => mk_of (ds := []) S RepL.nil rd (by simpa using hj) h a dx h2 h3 h4
end

/-! ### fields -/
def insI (m : Mem) : D → Option (Str × List (Str × D))
  | .ins C fs => some (C, fs)
  | .box j => match m[j]? with
    | some (.ins C fs) => some (C, fs)
    | _ => none
  | _ => none
theorem insI_of {g : Gd} {B : Bx} {H : Hp} {m : Mem} (S : SRel g B H m) {d : D} {v : V} {C : Str} {fs : List (Str × D)} (h : insI m d = some (C, fs)) (r : Rep g B H d v) : ∃ a dx ys, v = .ref a ∧ H a = some (.ins (He.ga g.K C) dx ys) ∧ RepF g B H fs ys := by
  match d, h, r with
  | .ins C' fs', h, r =>
    simp only [insI, Option.some.injEq, Prod.mk.injEq] at h
    obtain ⟨rfl, rfl⟩ := h
    unfold Rep at r
    obtain ⟨a, dx, ys, rfl, hn, h1, h2⟩ := r
    exact ⟨a, dx, ys, rfl, h1, h2⟩
  | .box j, h, r =>
    unfold Rep at r
    obtain ⟨a, rfl, e⟩ := r
    obtain ⟨x, hm, hb⟩ := S.get e
    simp only [insI, hm] at h
    match x, h, hb with
    | .ins C' fs', h, hb =>
      simp only [Option.some.injEq, Prod.mk.injEq] at h
      obtain ⟨rfl, rfl⟩ := h
      unfold BoxAt at hb
      obtain ⟨dx, ys, h1, h2⟩ := hb
      exact ⟨a, dx, ys, rfl, h1, h2⟩
def NcOk (K : PySem.W.Frag) (nc : Str → Str → Bool) : Prop := ∀ C n, nc C n = true → Cls K (He.ga K C) ∧ NoAttr K (He.ga K C) n
def eFld (nc : Str → Str → Bool) (n : Str) (fo : DE) : DE := fun δ m => (fo δ m).bind fun d m1 => (lf (insI m1 d) m1).bind fun cf m2 => if nc cf.1 n = true then lf (cf.2.lookup n) m2 else .bad
def putFD (f : Str) (v : D) : List (Str × D) → List (Str × D)
  | [] => [(f, v)]
  | (g, x) :: r => if g = f then (g, v) :: r else (g, x) :: putFD f v r
theorem putFD_of {g : Gd} {B : Bx} {H : Hp} {f : Str} {d : D} {v : V} (h : Rep g B H d v) : ∀ {fs : List (Str × D)} {ys : List (Str × V)}, RepF g B H fs ys → RepF g B H (putFD f d fs) (putF f v ys)
  | [], ys, r => by
    unfold RepF at r
    subst r
    unfold putFD putF RepF
    exact ⟨v, [], rfl, h, by unfold RepF; rfl⟩
  | (k, x) :: fs, ys, r => by
    unfold RepF at r
    obtain ⟨y, s, rfl, r1, r2⟩ := r
    unfold putFD putF
    by_cases q : k = f
    · rw [if_pos q, if_pos q]
      unfold RepF
      exact ⟨v, s, rfl, h, r2⟩
    · rw [if_neg q, if_neg q]
      unfold RepF
      exact ⟨y, _, rfl, r1, putFD_of h r2⟩
theorem RepF.len {g : Gd} {B : Bx} {H : Hp} : ∀ {fs : List (Str × D)} {ys : List (Str × V)}, RepF g B H fs ys → fs.length = ys.length
  | [], ys, r => by unfold RepF at r; subst r; rfl
  | (k, x) :: fs, ys, r => by
    unfold RepF at r
    obtain ⟨y, s, rfl, r1, r2⟩ := r
    simp [RepF.len r2]
/-- a box that is an object -/
def boxI (m : Mem) : D → Option (Nat × Str × List (Str × D))
  | .box j => match m[j]? with
    | some (.ins C fs) => some (j, C, fs)
    | _ => none
  | _ => none
def sFld (nc : Str → Str → Bool) (n : Str) (fo fv : DE) : SE := fun δ m => (fv δ m).st δ fun y m1 => (fo δ m1).st δ fun d m2 => match boxI m2 d with
  | some (j, C, fs) => if nc C n = true ∧ fs.length < 1000 then .ok (.nx δ) (m2.set j (.ins C (putFD n y fs))) else .bad
  | none => .bad
/-- the getter of a property: return self.r -/
def eProp (C : Str) (r : Str) (fo : DE) : DE := fun δ m => (fo δ m).bind fun d m1 => (lf (insI m1 d) m1).bind fun cf m2 => if cf.1 = C then lf (cf.2.lookup r) m2 else .bad
section
variable {X : Cx} {W : WX} {pos pos' : Pos} {e o : Expr} {fo fv : DE} {n : Str}
theorem dx_fld {nc : Str → Str → Bool} (hnc : NcOk X.K nc) (he : PE X e (tE (gd X) W fo)) (hb : attributeBase e n X.env (eval e X.env) = eval e X.env := by rfl) : PE X (.Attribute e n pos) (tE (gd X) W (eFld nc n fo)) :=
  PE.imp (pe_fld he hb) fun σ H Q ⟨B, m, δ, S, L, h⟩ => ⟨B, m, δ, S, L, (WP.step h).mono fun d m1 B1 H1 l1 _ ⟨_, S1, h1⟩ v rv => by
    obtain ⟨⟨C, fs⟩, e1, k1⟩ := (WP.step h1).lf
    obtain ⟨_, _, k2⟩ := k1 B1 H1 (Lift.refl _ _) S1
    by_cases c : nc C n = true
    · rw [if_pos c] at k2
      obtain ⟨y, e2, k3⟩ := k2.lf
      obtain ⟨a, dx, ys, rfl, h2, h3⟩ := insI_of S1 e1 rv
      obtain ⟨u, h4, h5⟩ := RepF.lookup n h3 e2
      obtain ⟨c1, c2⟩ := hnc _ _ c
      exact ⟨a, _, dx, ys, u, rfl, h2, c1, c2, h4, k3 B1 H1 (Lift.refl _ _) S1 u h5⟩
    · rw [if_neg c] at k2
      exact k2.elim⟩
theorem dx_prop {k : Nat} {C : Str} {p g : Addr} {f r : Str} {fd : FuncData} {ps : List Str} (he : PE X e (tE (gd X) W fo)) (c : Cls X.K (He.ga X.K C)) (hp : PropOf X.K (He.ga X.K C) f p g) (F : FnOk X.prog X.w X.K X.mg X.base (L2.CX X.prog X.w) k g fd ps (getSp (He.ga X.K C) r)) (hr : Room (k + 1) X.A) (hb : Binds X.K fd ps [])
    (hab : attributeBase e f X.env (eval e X.env) = eval e X.env := by rfl) : PE X (.Attribute e f pos) (tE (gd X) W (eProp C r fo)) :=
  PE.imp (pe_prop he c hp F hr hb .nil passL hab) fun σ H Q ⟨B, m, δ, S, L, h⟩ => ⟨B, m, δ, S, L, (WP.step h).mono fun d m1 B1 H1 l1 _ ⟨_, S1, h1⟩ v rv => by
    obtain ⟨⟨C', fs⟩, e1, k1⟩ := (WP.step h1).lf
    obtain ⟨_, _, k2⟩ := k1 B1 H1 (Lift.refl _ _) S1
    by_cases c : C' = C
    · rw [if_pos c] at k2
      obtain ⟨y, e2, k3⟩ := k2.lf
      obtain ⟨a, dx, ys, rfl, h2, h3⟩ := insI_of S1 e1 rv
      obtain ⟨u, h4, h5⟩ := RepF.lookup r h3 e2
      rw [c] at h2
      exact ⟨a, dx, ys, rfl, h2, a, dx, ys, u, rfl, h2, h4, k3 B1 H1 (Lift.refl _ _) S1 u h5⟩
    · rw [if_neg c] at k2
      exact k2.elim⟩
theorem ds_fld {nc : Str → Str → Bool} (hnc : NcOk X.K nc) (ho : PE X o (tE (gd X) W fo)) (hv : PE X e (tE (gd X) W fv)) (hs : swapsWith e (some (.Attribute o n pos')) pos.line X.env = pure false := by rfl) : PS X (.Assign [.Attribute o n pos'] e pos) (tS (gd X) W (sFld nc n fo fv)) :=
  PS.imp (ps_fld ho hv hs) fun D σ H ⟨B, m, δ, S, L, h⟩ => ⟨B, m, δ, S, L, (WS.step h S L).mono fun y m1 B1 H1 l1 _ ⟨_, S1, h1⟩ v rv =>
    ⟨B1, m1, δ, S1, L.up S l1, (WS.step h1 S1 (L.up S l1)).mono fun d m2 B2 H2 l2 _ ⟨_, S2, h2⟩ u ru => by
      match d, h2, ru with
      | .box j, h2, ru =>
        cases hj : m2[j]? with
        | none => simp only [boxI, hj] at h2; exact h2.elim
        | some x =>
          match x, hj with
          | .ins C fs, hj =>
            simp only [boxI, hj] at h2
            by_cases c : nc C n = true ∧ fs.length < 1000
            · rw [if_pos c] at h2
              unfold Rep at ru
              obtain ⟨a, rfl, ea⟩ := ru
              have hb := S2.at_ j a _ ea hj
              unfold BoxAt at hb
              obtain ⟨dx, ys, h3, h4⟩ := hb
              obtain ⟨c1, c2⟩ := hnc _ _ c.1
              have l3 : Lift B2 H2 B2 (upd H2 a (.ins (He.ga X.K C) dx (putF n v ys))) := Lift.write (List.mem_of_getElem? ea) h3 rfl
              exact ⟨a, _, dx, ys, rfl, h3, c1, c2, by rw [← h4.len]; exact c.2, h2 σ B2 _ l3 (S2.write ea ⟨dx, _, upd_same, RepF.up S2 l3 (putFD_of (rv.up S1 l2) h4)⟩) (((L.up S l1).up S1 l2).up S2 l3)⟩
            · rw [if_neg c] at h2
              exact h2.elim
          | .non, hj => simp only [boxI, hj] at h2; exact h2.elim
          | .bl _, hj => simp only [boxI, hj] at h2; exact h2.elim
          | .int _, hj => simp only [boxI, hj] at h2; exact h2.elim
          | .str _, hj => simp only [boxI, hj] at h2; exact h2.elim
          | .ty _, hj => simp only [boxI, hj] at h2; exact h2.elim
          | .cls _, hj => simp only [boxI, hj] at h2; exact h2.elim
          | .box _, hj => simp only [boxI, hj] at h2; exact h2.elim
          | .tup _, hj => simp only [boxI, hj] at h2; exact h2.elim
          | .lst _, hj => simp only [boxI, hj] at h2; exact h2.elim
          | .dct _, hj => simp only [boxI, hj] at h2; exact h2.elim
          | .set _, hj => simp only [boxI, hj] at h2; exact h2.elim
          | .exn _ _ _, hj => simp only [boxI, hj] at h2; exact h2.elim⟩⟩
end
end DL
/-! repr; defs that are called where no repr is under way -/
namespace DL
open PySem L2 PySem.Spec
open PyProof.Rows hiding St
/-- a def's promise where no repr is under way (a worked proof of the kit's, turned) -/
structure FnG (P : Program) (w : World) (K : PySem.W.Frag) (mg : Str → Option Value) (base : Heap) (CX : CXT) (k : Nat) (f : Addr) (fd : FuncData) (ps : List Str) (sp : Sp) : Prop where
  len : ∀ vs H Q E, sp vs H Q E → vs.length = ps.length
  run : ∀ (A : Around) (outer : List Env) (s : Shared) (H : Hp) (args : Args) (us : List Value) (vs : List V) (Q : VK) (E : XK), Room k A → A.guards = some [] → Env0 P w K mg base A outer s H → BindsTo s fd args (ps.zip us) → Vals vs us → sp vs H Q E →
    codeAny (model P w) A (.call (.ref f) args) (CR CX outer P w H s Q E) s
theorem fn_ofG {CX : CXT} {P : Program} {w : World} {K : PySem.W.Frag} {mg : Str → Option Value} {base : Heap} {k : Nat} {f : Addr} {name qual : Str} {params : Arguments} {body : List Stmt} {scope : Scope} {dV kV doc pm cdv ct oc : Value} {an od : Option Addr}
    {osl : Array (Option Value)} {N ps : List Str} {sp : Sp} (lk : K.lookup f = some ⟨oc, od, .func (PySem.W.fnOf name qual params body scope dV kV doc pm an cdv ct), osl⟩) (hcd : PySem.W.codeIn K cdv qual = true) (S : FnScope N ps scope)
    (len : ∀ vs H Q E, sp vs H Q E → vs.length = ps.length)
    (hbody : ∀ (A : Around) (outer : List Env) (s : Shared) (H : Hp) (vs : List V) (Q : VK) (E : XK), Room k (A.deeper (envOfC qual scope s.heap.objs.size f cdv)) → A.guards = some [] → sp vs H Q E →
      ∃ t, PSs (cxOf CX P w K mg base N qual scope f cdv A outer s H E) body t ∧ t { nx := fun _ H' => Q .non H', rt := Q } (start N vs) H) :
    FnG P w K mg base CX (k + 1) f (PySem.W.fnOf name qual params body scope dV kV doc pm an cdv ct) ps sp := by
  refine ⟨len, fun A outer s H args us vs Q E hr hgu e0 hb r hsp => ?_⟩
  have hl := len _ _ _ _ hsp
  have KX : K.In s.heap := e0.mod.kin.keeps fun b o e => (e0.bs b o e).1
  have lim : s.heap.NoLimit := e0.mod.nolimit.keeps fun b o e => (e0.bs b o e).1
  have hkind : ∀ y ∈ ps.zip us, scope.names.lookup y.1 = some .local ∨ (scope.names.lookup y.1 = some .cell ∧ ((cellsFrom (s.heap.objs.size + 1) scope.names []).lookup y.1).isSome = true) := fun ⟨n, v⟩ hy => by
    rcases S.par n (List.of_mem_zip hy).1 with q | q
    · exact .inl q
    · exact .inr ⟨q, PySem.W.cellsFrom_some _ _ _ (.inl q)⟩
  refine codeAny_call_function hr.depth (KX _ _ lk) rfl S.co S.gen rfl (PySem.W.codeRec_of KX hcd) (hb _ _ _ _ ?_)
  refine wpAny_newFunctionEnv_cells S.kind hkind fun env he s1 x => ?_
  subst he
  refine ⟨lim.keeps x.toInCall.keep, codeAny_func ?_⟩
  obtain ⟨t, ht, hq⟩ := hbody A outer s H vs Q E (hr.deeper _) hgu hsp
  have I : Inv (cxOf CX P w K mg base N qual scope f cdv A outer s H E) [] (start N vs) H s1 := inv_start S hr.hd e0 hl r x
  refine wpAny_mono (ht.run [] s1 (start N vs) H _ I hq) (fun fl s' hs => ?_) fun e s' hs => hs
  have fin : ∀ {σ' : St} {H' : Hp} {v : V} {u : Value}, Inv (cxOf CX P w K mg base N qual scope f cdv A outer s H E) [] σ' H' s' → RelV v u → Q v H' → CE outer P w H s Q u s' :=
    fun {σ' H' v u} J rv q => ⟨v, H', J.os, J.bare, J.base, J.hok, rv, q⟩
  cases fl with
  | ret u =>
    obtain ⟨v, σ', H', J, rv, q⟩ := hs
    exact fin J rv q
  | next =>
    obtain ⟨σ', H', J, q⟩ := hs
    exact fin (v := V.non) (u := Value.none) J rfl q
  | brk =>
    obtain ⟨_, _, _, q⟩ := hs
    exact False.elim q
  | cont =>
    obtain ⟨_, _, _, q⟩ := hs
    exact False.elim q

theorem law_callG {P : Program} {w : World} {K : PySem.W.Frag} {mg mb : Str → Option Value} {CX : CXT} {k : Nat} {fa a : Addr} {fd : FuncData} {x : Str} {sp : Sp} {s₁ : Shared} {vs : List Value} {ns : List Int}
    (KX : K.In s₁.heap) (hns : s₁.heap.Ns mainGlobals mg) (hb : s₁.heap.Ns builtinsNs mb) (hbb : ∀ x : Str, x ≠ "__name__" → mb x = bootBuiltins x) (hlim : s₁.heap.NoLimit) (hg : s₁.gens = #[])
    (ha : s₁.heap.get? a = some { cls := .type "list", data := .seq vs.toArray }) (hi : IntsAre vs ns) (hl : ns.length ≤ sizeLine) (hr : Room k callerA)
    (F : ∀ base : Heap, K.In base → base.Ns mainGlobals mg → FnG P w K mg base CX k fa fd [x] sp) (hbind : ∀ (s : Shared) (u : Value), BindsTo s fd ⟨[u], []⟩ [(x, u)])
    (hsp : ∀ H : Hp, Only H → (Rd H a (.lst (ns.map V.int)) ∨ KL K a (ns.map V.int)) → sp [.ref a] H (fun v _ => v = .bl true) fun _ _ _ => False)
    (hCX : ∀ H e s', CX [] H s₁ (fun _ _ _ => False) e s' → False) :
    codeAny (model P w) callerA (.call (.ref fa) ⟨[.ref a], []⟩) (fun r s' => r = .ok (.ret (.bool true)) ∧ OldK s₁.heap s'.heap ∧ s'.os = s₁.os ∧ AllBare s'.gens) s₁ := by
  have rv := vals_ints hi
  have lenV := hi.length
  -- from an abstract heap in which nothing but the script may be tracked
  have core : ∀ H : Hp, Only H → (Rd H a (.lst (ns.map V.int)) ∨ KL K a (ns.map V.int)) → HOk P w H s₁.heap → (∀ b, H b ≠ none → b = a) → (H a ≠ none → K.lookup a = none) →
      codeAny (model P w) callerA (.call (.ref fa) ⟨[.ref a], []⟩) (fun r s' => r = .ok (.ret (.bool true)) ∧ OldK s₁.heap s'.heap ∧ s'.os = s₁.os ∧ AllBare s'.gens) s₁ := by
    intro H hO hS hok hA hK
    have base_of : ∀ {b : Addr} {o : Obj}, s₁.heap.get? b = some o → H b = none → (hidT s₁.heap H).get? b = some o := fun e n => hidT_get e n
    have noA : ∀ {b : Addr} {o : Obj} {es : Array DictEntry} {ep : Nat}, s₁.heap.get? b = some o → o.data = .dict es ep → H b = none := fun {b o es ep} e d => by
      cases q : H b with
      | none => rfl
      | some u =>
        have e' : b = a := hA b (by rw [q]; simp)
        subst e'
        rw [ha] at e; cases e
        have d' : Data.seq vs.toArray _ = Data.dict es ep := d
        cases d'
    have nsK : ∀ {b : Addr} {m : Str → Option Value}, s₁.heap.Ns b m → (hidT s₁.heap H).Ns b m := fun {b m} ⟨o, es, ep, e, d, r⟩ => ⟨o, es, ep, base_of e (noA e d), d, r⟩
    have hKb : K.In (hidT s₁.heap H) := fun b o e => base_of (KX b o e) (by
      cases q : H b with
      | none => rfl
      | some u =>
        have e' : b = a := hA b (by rw [q]; simp)
        subst e'
        rw [hK (by rw [q]; simp)] at e; cases e)
    have hM : Mod K mg (hidT s₁.heap H) := ⟨hKb, nsK hns, ⟨mb, nsK hb, hbb⟩, let ⟨mc, h1, h2⟩ := hlim; ⟨mc, nsK h1, h2⟩⟩
    have e0 : Env0 P w K mg (hidT s₁.heap H) callerA [] s₁ H := ⟨rfl, hM, fun b o e => of_hidT e, Nat.le_of_eq (hidT_size _ _), trivial, fun b hb => absurd (show b ∈ ([] : List Addr) from hb) (by simp), hok, .of_eq hg⟩
    refine codeAny_mono ((F _ hKb (nsK hns)).run callerA [] s₁ H ⟨[.ref a], []⟩ [.ref a] [.ref a] _ _ hr rfl e0 (hbind s₁ (.ref a)) (.cons rfl .nil) (hsp H hO hS)) fun r s' h => ?_
    cases r with
    | error e => exact (hCX H e s' h).elim
    | ok fl =>
      cases fl with
      | next => exact False.elim h
      | brk => exact False.elim h
      | cont => exact False.elim h
      | ret u =>
        obtain ⟨v, H', os, bare, un, hok', r', q⟩ := h
        have q' : v = .bl true := q
        subst q'
        obtain rfl : u = Value.bool true := r'
        refine ⟨rfl, OldK.of_keep fun b o e => ?_, os, bare⟩
        cases q : H b with
        | none => exact un.keep b o e q (by intro z; exact absurd (show b ∈ ([] : List Addr) from z) (by simp)) (by simp)
        | some u =>
          rcases hO b with z | ⟨ob, xs, z⟩
          · rw [q] at z; cases z
          · have z2 := un.frzs b ob _ z
            obtain ⟨e1, _⟩ := hok b _ z
            obtain ⟨e2, _⟩ := hok' b _ z2
            rw [e] at e1; cases e1
            exact e2
  cases hk : K.lookup a with
  | some o =>
    -- the script is one of the module's own objects
    have e := KX a o hk
    rw [ha] at e
    cases e
    refine core (fun _ => none) (fun _ => .inl rfl) (.inr ⟨vs, _, hk, by rw [lenV]; exact hl, rv⟩) (fun b u z => by have z' : (none : Option HO) = some u := z; cases z') (fun b z => absurd rfl z) fun z => absurd rfl z
  | none =>
    refine core (fun b => if b = a then some (.frz { cls := .type "list", data := .seq vs.toArray } (.lst (ns.map V.int))) else none) (fun b => ?_) (.inl (.inr ⟨{ cls := .type "list", data := .seq vs.toArray }, if_pos rfl⟩)) (fun b u z => ?_) (fun b z => ?_) fun _ => hk
    · by_cases hb : b = a
      · exact .inr ⟨_, _, if_pos hb⟩
      · exact .inl (if_neg hb)
    · by_cases hb : b = a
      · have z' := (if_pos hb).symm.trans z
        cases z'
        subst hb
        exact ⟨ha, by rw [List.length_map]; exact hl, vs, _, rv, ha⟩
      · have z' := (if_neg hb).symm.trans z
        cases z'
    · by_cases hb : b = a
      · exact hb
      · exact absurd (if_neg hb) z

section
variable {P : Program} {w : World} {K : PySem.W.Frag} {mg : Str → Option Value} {base : Heap} {x qual : Str} {params : Arguments} {body : List Stmt} {scope : Scope} {f : Addr} {fd : FuncData}
theorem fnDG {N ps : List Str} {k n j : Nat} (frz : Bool) {s : SE} {dvs : List V} {kws : List (Str × V)} (G : FunD K x qual params body scope dvs kws f fd) (S : FnScope N ps scope)
    (hb : ∀ (cdv : Value) (A : Around) (outer : List Env) (s0 : Shared) (H : Hp) (E : XK), A.guards = some [] → Room k (A.deeper (envOfC qual scope s0.heap.objs.size f cdv)) → PSs (CxB P w K mg base N qual scope f cdv A outer s0 H E) body (tS ⟨P, w, K⟩ (WE E) s))
    (hn : ps.length = n := by rfl) (hj : N.length - n = j := by rfl) : FnG P w K mg base (L2.CX P w) (k + 1) f fd ps (spD ⟨P, w, K⟩ n (runF frz s j)) := by
  obtain ⟨oc, od, dV, kV, doc, pm, an, cdv, ct, osl, rfl, lk, hcd, _, _⟩ := G.ex
  refine fn_ofG lk hcd S (fun vs H Q E ⟨B, m, ds, _, r, hl, _⟩ => by rw [← r.len, hl, hn]) fun A outer s0 H vs Q E hr hgu ⟨B, m, ds, S0, r, hl, h⟩ => ⟨_, hb cdv A outer s0 H E hgu hr, B, m, ds.map some ++ List.replicate (N.length - n) none, S0, ?_, ws_ref (q := runF frz s j ds m) ?_ S0 h⟩
  · unfold L2.start
    rw [← r.len, hl]
    exact repL_start _ r
  · unfold runF
    rw [hj]
    exact endF_ref frz m.length _
end
def opRepr : OpN := fun m ds => match ds with
  | [d] => (toPy (dr m d)).bind fun p => if p.showable = true ∧ p.hasDict = false ∧ p.depth ≤ 190 ∧ p.shown.length ≤ sizeLine then (match p with
    | .list _ => some (.str p.shown)
    | .tuple _ => some (.str p.shown)
    | _ => none) else none
  | _ => none
theorem dc_repr {X : Cx} (hg : X.A.guards = some []) (hu : X.A.units + 200 < cLine) : CallR X (.builtin "repr") (rN (gd X) opRepr) := by
  intro pins s σ H xs us Q I rx ⟨B, m, ds, d, S, r, e, k⟩
  match ds, r, e with
  | [x], r, e =>
    obtain ⟨v, rfl, rv⟩ := repL1 r
    obtain ⟨p, e1, e2⟩ := Option.bind_eq_some_iff.mp e
    by_cases c : p.showable = true ∧ p.hasDict = false ∧ p.depth ≤ 190 ∧ p.shown.length ≤ sizeLine
    · rw [if_pos c] at e2
      obtain ⟨c1, c2, c3, c4⟩ := c
      have dp := dr_dp S rv e1
      cases rx with
      | cons ra rr =>
        cases rr
        obtain ⟨as, rd⟩ := Dp.reads I p v _ dp ra
        have fin : ∀ {a : Addr} {u : Value}, u = .ref a → Reads s.heap u p as → d = .str p.shown → wpAny (model X.prog X.w) X.A (call (.builtin "repr") [u]) (EP X pins σ Q) X.xe s := fun {a u} eu rd ed => by
          subst eu ed
          refine repr_of_reads' rd c1 (PyData.noDict_hsm c2) hg (by omega) (fun _ _ z => z) (fun h' u tk hk => ⟨.str p.shown, H, I.kept (t' := tk) hk, ⟨u, rfl⟩, k.same S rep_str⟩) c4
        cases rd with
        | list h1 h2 h3 h4 => exact fin rfl (.list h1 h2 h3 h4) (by cases e2; rfl)
        | tuple h1 h2 h3 h4 => exact fin rfl (.tuple h1 h2 h3 h4) (by cases e2; rfl)
        | dict h1 h2 h3 h4 h5 => cases e2
        | none => cases e2
        | bool => cases e2
        | int => cases e2
        | str => cases e2
    · rw [if_neg c] at e2
      cases e2

/-! ### the end of a law -/
theorem walk_ofG {l : PySem.W.OpenLaw} {n k : Nat} {q : Program} {loose : List Str} {XP : (Str → Option Value) → Heap → Prop} {YP : World → Heap → Prop} {d : DefRec} {x : Str}
    (hn : l.most = some n) (hn2 : n ≤ sizeLine) (hdf : d.params.defaults = []) (hr : Room k callerA)
    (F : ∀ (w : World) (mg : Str → Option Value) (fa : Addr) (h : Heap), YP w h → h.Ns mainGlobals mg → mg d.name = some (.ref fa) →
      ∃ (K : PySem.W.Frag) (fd : FuncData) (G : List D → Mem → Rs D), K.In h ∧ (∀ (s : Shared) (u : Value), BindsTo s fd ⟨[u], []⟩ [(x, u)]) ∧
        (∀ ns : List Int, ns.length ≤ n → (∀ z ∈ ns, Builtin.Int.intBits z ≤ 1048576) → ∃ m, G [.lst (ns.map .int)] [] = .ok (.bl true) m) ∧
        ∀ base : Heap, K.In base → base.Ns mainGlobals mg → FnG l.prog w K mg base (L2.CX l.prog w) k fa fd [x] (spD ⟨l.prog, w, K⟩ 1 G)) :
    PySem.W.WalkO q loose XP YP l.row.toRowW d [] (fun f vs => PySem.call f vs) := by
  refine Att.attach_callB hn hdf fun w s₀ s₁ mg mb fa o pm cd doc a vs ns G Y ho hd hcd hmg hobj hints hlen hbits hg => ?_
  obtain ⟨K, fd, sp, KX, hb, hsp, hF⟩ := F w mg fa _ Y G.T.g hmg
  refine law_callG KX G.T.g G.T.b G.T.builtins G.T.nolimit hg hobj hints (Nat.le_trans hlen hn2) hr hF hb (fun H hO hS => ?_) fun H e s' h => ?_
  · obtain ⟨m, e⟩ := hsp ns hlen hbits
    have RI : ∀ (ns : List Int), RepL ⟨l.prog, w, K⟩ ⟨[], []⟩ H (ns.map .int) (ns.map V.int) := by
      intro ns
      induction ns with
      | nil => exact RepL.nil
      | cons i ns ih => exact RepL.cons rep_int ih
    refine ⟨⟨[], []⟩, [], [.lst (ns.map .int)], ⟨rfl, List.nodup_nil, fun n a d h => by simp at h, fun a h => by simp at h, fun a h => by simp at h⟩, RepL.one ?_, rfl, ?_⟩
    · unfold Rep
      exact ⟨a, _, rfl, hS.imp (fun z => ⟨⟨by simp, by simp⟩, z⟩) id, RI ns⟩
    · rw [e]
      exact fun B' H' _ _ v rv => of_bl rv
  · obtain ⟨_, _, _, _, _, _, _, _, _, _, _, _, _, _, z⟩ := h
end DL
/-! the facts of a program behind its top; defs by their names -/
namespace DL
open PySem L2 PySem.Spec
open PyProof.Rows hiding St
abbrev FB : Type := PySem.W.Frag → Bool
/-- a def: where it stands, its name, qualified name, parameters, body, scope, defaults -/
structure DefA where
  ad : PySem.W.Frag → Addr
  name : Str
  qual : Str
  params : Arguments
  body : List Stmt
  scope : Scope
  dfl : List He.Dv := []
def DefA.val (d : DefA) : He.FnW := some (d.name, d.qual, d.params, .stmts d.body, d.scope, mainGlobals, [], builtinsNs)
def DefA.dvs (K : PySem.W.Frag) (d : DefA) : List V := d.dfl.map (He.Dv.v K)
def fnA (K : PySem.W.Frag) (a : Addr) : He.FnW := match K.lookup a with
  | some ⟨_, _, .func fd, _⟩ => some (fd.name, fd.qualname, fd.params, fd.body, fd.scope, fd.globals, fd.closure, fd.builtins)
  | _ => none
def DefA.ok (K : PySem.W.Frag) (d : DefA) : Bool := PySem.W.keepIn K (.ref (d.ad K)) && (match K.lookup (d.ad K) with
  | some ⟨_, _, .func fd, _⟩ => PySem.W.codeIn K fd.code d.qual && He.dflB K fd.defaults (d.dvs K)
  | _ => false)
theorem DefA.funD {K : PySem.W.Frag} {d : DefA} (e : fnA K (d.ad K) = d.val) (c : d.ok K = true) : ∃ fd, FunD K d.name d.qual d.params d.body d.scope (d.dvs K) [] (d.ad K) fd := by
  obtain ⟨kp, c2⟩ := He.ba c
  unfold fnA at e
  cases q : K.lookup (d.ad K) with
  | none =>
    rw [q] at c2
    cases c2
  | some o =>
    obtain ⟨oc, od, dt, osl⟩ := o
    rw [q] at c2 e
    cases dt with
    | func fd =>
      obtain ⟨n1, n2, n3, n4, n5, n6, n7, n8, n9, n10, n11, n12, n13, n14, n15⟩ := fd
      have e2 : (some (n1, n2, n3, n4, n5, n6, n7, n15) : He.FnW) = some (d.name, d.qual, d.params, .stmts d.body, d.scope, mainGlobals, [], builtinsNs) := e
      simp only [Option.some.injEq, Prod.mk.injEq] at e2
      obtain ⟨h1, h2, h3, h4, h5, h6, h7, h8⟩ := e2
      subst h1 h2 h3 h4 h5 h6 h7 h8
      obtain ⟨k1, k3⟩ := He.ba (show (PySem.W.codeIn K n13 d.qual && He.dflB K n8 (d.dvs K)) = true from c2)
      exact ⟨_, ⟨oc, od, n8, n9, n10, n11, n12, n13, n14, osl, rfl, q, k1, He.dflB_ok k3, .inl rfl⟩, kp⟩
    | _ => cases c2
abbrev AlB : Type := Bool × List He.FnW
def obsB (fa : List He.Fa) (fn : List DefA) (bs : List FB) (K : PySem.W.Frag) : AlB := ((fa.all fun f => f.ok K) && (fn.all (fun d => d.ok K) && bs.all fun b => b K), fn.map fun d => fnA K (d.ad K))
def valB (fn : List DefA) : AlB := (true, fn.map DefA.val)
def obsBG (n : Nat) (fa : List He.Fa) (fn : List DefA) (bs : List FB) (g : Addr → Option Obj) : AlB := obsB fa fn bs (He.frG g (He.asD g n))
/-- what the end leans on: defs, facts, own facts -/
def hookB (n : Nat) (fa : List He.Fa) (fn : List DefA) (bs : List FB) : PySem.W.Hook where
  α := AlB
  obs := fun s => obsBG n fa fn bs s.heap.get?
  val := fun _ => valB fn
  says := fun _ h => ∃ K : PySem.W.Frag, K.In h ∧ obsB fa fn bs K = valB fn
  of := fun _ _ e => ⟨_, He.frG_in, e⟩
  keeps := fun _ _ _ ⟨K, hK, c⟩ k => ⟨K, PySem.W.Frag.In.keeps hK k, c⟩
theorem obsBG_eq {n : Nat} {fa : List He.Fa} {fn : List DefA} {bs : List FB} {g : Addr → Option Obj} {s : Shared} (h : ∀ a, g a = s.heap.get? a) : obsBG n fa fn bs g = (hookB n fa fn bs).obs s := by
  have e : g = s.heap.get? := funext h
  rw [e] <;> rfl
/-- the program's facts, of a written part and a module -/
structure EnvK (fa : List He.Fa) (fn : List DefA) (bs : List FB) (K : PySem.W.Frag) (mg : Str → Option Value) : Prop where
  says : obsB fa fn bs K = valB fn
  heap : ∃ h : Heap, K.In h ∧ h.Ns mainGlobals mg
section
variable {fa : List He.Fa} {fn : List DefA} {bs : List FB} {K : PySem.W.Frag} {mg : Str → Option Value}
theorem EnvK.fact (E : EnvK fa fn bs K mg) (i : Nat) {f : He.Fa} (h : fa[i]? = some f := by rfl) : f.ok K = true := by
  have c := (He.ba (show ((fa.all fun f => f.ok K) && (fn.all (fun d => d.ok K) && bs.all fun b => b K)) = true from congrArg (fun z : AlB => z.1) E.says)).1
  exact List.all_eq_true.mp c f (List.mem_of_getElem? h)
theorem EnvK.own (E : EnvK fa fn bs K mg) (i : Nat) {b : FB} (h : bs[i]? = some b := by rfl) : b K = true := by
  have c := (He.ba (He.ba (show ((fa.all fun f => f.ok K) && (fn.all (fun d => d.ok K) && bs.all fun b => b K)) = true from congrArg (fun z : AlB => z.1) E.says)).2).2
  exact List.all_eq_true.mp c b (List.mem_of_getElem? h)
theorem EnvK.def_ (E : EnvK fa fn bs K mg) (i : Nat) {d : DefA} (h : fn[i]? = some d := by rfl) : ∃ fd, FunD K d.name d.qual d.params d.body d.scope (d.dvs K) [] (d.ad K) fd := by
  have c := (He.ba (He.ba (show ((fa.all fun f => f.ok K) && (fn.all (fun d => d.ok K) && bs.all fun b => b K)) = true from congrArg (fun z : AlB => z.1) E.says)).2).1
  have e : fn.map (fun d => fnA K (d.ad K)) = fn.map DefA.val := congrArg (fun z : AlB => z.2) E.says
  have e2 : (fn.map fun d => fnA K (d.ad K))[i]? = (fn.map DefA.val)[i]? := by rw [e]
  rw [List.getElem?_map, List.getElem?_map, h] at e2
  exact DefA.funD (Option.some.inj e2) (List.all_eq_true.mp c d (List.mem_of_getElem? h))
theorem EnvK.glo (E : EnvK fa fn bs K mg) (i : Nat) {x : Str} (h : fa[i]? = some (.glo x) := by rfl) : mg x = some (.ref (He.ga K x)) := by
  obtain ⟨hp, X, G⟩ := E.heap
  exact He.glo_ok X G (E.fact i h)
theorem EnvK.free (E : EnvK fa fn bs K mg) (i : Nat) {x : Str} (h : fa[i]? = some (.free x) := by rfl) : mg x = none := by
  obtain ⟨hp, X, G⟩ := E.heap
  exact He.free_ok X G (E.fact i h)
theorem EnvK.int (E : EnvK fa fn bs K mg) (i : Nat) {x : Str} {z : Int} (h : fa[i]? = some (.int x z) := by rfl) : ∃ u, mg x = some u ∧ RelV (.int z) u := by
  obtain ⟨hp, X, G⟩ := E.heap
  obtain ⟨t, e⟩ := He.int_ok X G (E.fact i h)
  exact ⟨_, e, t, rfl⟩
theorem EnvK.str (E : EnvK fa fn bs K mg) (i : Nat) {x z : Str} (h : fa[i]? = some (.str x z) := by rfl) : ∃ u, mg x = some u ∧ RelV (.str z) u := by
  obtain ⟨hp, X, G⟩ := E.heap
  obtain ⟨t, e⟩ := He.str_ok X G (E.fact i h)
  exact ⟨_, e, t, rfl⟩
end
/-! ### own facts, looked over -/
/-- an own class whose objects isinstance asks -/
def insB (x : Str) : FB := fun K => (He.Fa.cls x).ok K && (decide (PySem.W.findIn K (.ref (He.ga K x)) "__class__" = some (some (.builtin "object.__class__"))) && (decide (PySem.W.specialIn K (.builtin "object.__class__") "__get__" = some (some (.builtin "getset_descriptor.__get__"))) &&
  (decide (PySem.W.takesIn K (.builtin "object.__class__") = some true) && decide (PySem.W.mroIn K (He.ga K x) (.type "object") = some true))))
theorem insB_ok {x : Str} {K : PySem.W.Frag} (h : insB x K = true) : InsC K (He.ga K x) := by
  obtain ⟨h1, h⟩ := He.ba h
  obtain ⟨h2, h⟩ := He.ba h
  obtain ⟨h3, h⟩ := He.ba h
  obtain ⟨h4, h5⟩ := He.ba h
  exact ⟨He.cls_ok h1, of_decide_eq_true h2, of_decide_eq_true h3, of_decide_eq_true h4, of_decide_eq_true h5⟩
/-- an own exception class of which isinstance is asked -/
def excB (x : Str) : FB := fun K => xfB K (He.ga K x) && (decide (PySem.W.findIn K (.ref (He.ga K x)) "__class__" = some (some (.builtin "object.__class__"))) && (decide (PySem.W.specialIn K (.builtin "object.__class__") "__get__" = some (some (.builtin "getset_descriptor.__get__"))) &&
  (decide (PySem.W.takesIn K (.builtin "object.__class__") = some true) && decide (PySem.W.mroIn K (He.ga K x) (.type "object") = some true))))
theorem excB_xf {x : Str} {K : PySem.W.Frag} (h : excB x K = true) : XfC K (He.ga K x) := xfB_ok (He.ba h).1
theorem excB_ok {x : Str} {K : PySem.W.Frag} (h : excB x K = true) : ExcC K (He.ga K x) := by
  obtain ⟨h1, h⟩ := He.ba h
  obtain ⟨h2, h⟩ := He.ba h
  obtain ⟨h3, h⟩ := He.ba h
  obtain ⟨h4, h5⟩ := He.ba h
  have X := xfB_ok h1
  exact ⟨X.ga, X.gg, X.exC, X.hdC, of_decide_eq_true h2, of_decide_eq_true h3, of_decide_eq_true h4, of_decide_eq_true h5⟩
/-- an own exception class that is made by its own __init__ -/
def oexB (x : Str) : FB := fun K => (match K.lookup (He.ga K x) with
  | some ⟨.type "type", _, .cls cd, sl⟩ => (match cd.mro, sl.toList with
    | .ref C' :: bm, [_, _, _, _, some (.builtin n), _] => C' == He.ga K x && (n == "ValueError.__new__" && (!cd.hasDel && (cd.hasDict && PySem.HandSPX.refsVE bm)))
    | _, _ => false)
  | _ => false) && (decide (PySem.W.findIn K (.ref (He.ga K x)) "__setattr__" = some (some (.builtin "object.__setattr__"))) && (decide (PySem.W.subIn K (.ref (He.ga K x)) (.type "BaseException") = some true) && (decide (PySem.W.typeIn K (.ref (He.ga K x)) = some (.type "type")) && PySem.W.keepIn K (.ref (He.ga K x)))))
theorem oexB_ok {x : Str} {K : PySem.W.Frag} (h : oexB x K = true) : OexC K (He.ga K x) := by
  obtain ⟨h1, h⟩ := He.ba h
  obtain ⟨h2, h⟩ := He.ba h
  obtain ⟨h3, h⟩ := He.ba h
  obtain ⟨h4, h5⟩ := He.ba h
  refine ⟨?_, of_decide_eq_true h2, of_decide_eq_true h3, of_decide_eq_true h4, h5⟩
  split at h1
  · rename_i dd cd sl ho
    split at h1
    · rename_i C' bm k0 k1 k2 k3 n k5 hm hs
      simp only [Bool.and_eq_true, beq_iff_eq, Bool.not_eq_true'] at h1
      obtain ⟨rfl, rfl, hdel, hdic, hbm⟩ := h1
      obtain ⟨nm, bs, mro, ns, qn, hd, sn, sub, ab, col, del⟩ := cd
      dsimp only at hm hdel hdic
      subst hm hdel hdic
      have hsl : sl = #[k0, k1, k2, k3, some (.builtin "ValueError.__new__"), k5] := by
        obtain ⟨l⟩ := sl
        simp only at hs
        rw [hs]
      subst hsl
      exact ⟨_, _, _, _, _, _, _, _, _, _, _, _, _, _, _, ho, hbm⟩
    · cases h1
  · cases h1
/-- the init of an own exception class -/
def oinB (x : Str) : FB := fun K => decide (PySem.W.findIn K (.ref (He.ga K x)) "__init__" = some (some (.ref (He.ma K (He.ga K x) "__init__")))) && decide (PySem.W.typeIn K (.ref (He.ma K (He.ga K x) "__init__")) = some (.type "function"))
/-- the getter of a property -/
def getAd (x f : Str) (K : PySem.W.Frag) : Addr := match PySem.W.recIn K (He.ma K (He.ga K x) f) "property" with
  | some (.ref g :: _) => g
  | _ => 0
def propB (x f : Str) : FB := fun K => decide (PySem.W.findIn K (.ref (He.ga K x)) f = some (some (.ref (He.ma K (He.ga K x) f)))) && (decide (PySem.W.specialIn K (.ref (He.ma K (He.ga K x) f)) "__get__" = some (some (.builtin "property.__get__"))) && (decide (PySem.W.takesIn K (.ref (He.ma K (He.ga K x) f)) = some true) &&
  (match PySem.W.recIn K (He.ma K (He.ga K x) f) "property" with
  | some (.ref _ :: _) => true
  | _ => false)))
theorem propB_ok {x f : Str} {K : PySem.W.Frag} (h : propB x f K = true) : PropOf K (He.ga K x) f (He.ma K (He.ga K x) f) (getAd x f K) := by
  obtain ⟨h1, h⟩ := He.ba h
  obtain ⟨h2, h⟩ := He.ba h
  obtain ⟨h3, h4⟩ := He.ba h
  refine ⟨of_decide_eq_true h1, of_decide_eq_true h2, of_decide_eq_true h3, ?_⟩
  unfold getAd
  split at h4
  · rename_i g rest e
    exact ⟨rest, by rw [e]⟩
  · cases h4
/-- a def with its promise -/
structure OkF (P : Program) (w : World) (K : PySem.W.Frag) (mg : Str → Option Value) (base : Heap) (k : Nat) (f : Addr) (ps : List Str) (sp : Sp) : Prop where
  ex : ∃ fd, FnOk P w K mg base (L2.CX P w) k f fd ps sp ∧ Binds K fd ps []
  kp : PySem.W.keepIn K (.ref f) = true
abbrev BindsN (x qual : Str) (params : Arguments) (body : List Stmt) (scope : Scope) (ps : List Str) : Prop := ∀ (kV doc pm : Value) (an : Option Addr) (cdv ct : Value) (us : List Value), us.length = ps.length → bindArgs (PySem.W.fnOf x qual params body scope .none kV doc pm an cdv ct) ⟨us, []⟩ = pure (ps.zip us)
section
variable {P : Program} {w : World} {K : PySem.W.Frag} {mg : Str → Option Value} {base : Heap} {x qual : Str} {params : Arguments} {body : List Stmt} {scope : Scope} {f : Addr}
theorem okF {N ps : List Str} {k n j : Nat} (frz : Bool) {s : SE} {kws : List (Str × V)} (G : ∃ fd, FunD K x qual params body scope [] kws f fd) (S : FnScope N ps scope) (hbd : BindsN x qual params body scope ps)
    (hb : ∀ (cdv : Value) (A : Around) (outer : List Env) (s0 : Shared) (H : Hp) (E : XK), Room k (A.deeper (envOfC qual scope s0.heap.objs.size f cdv)) → PSs (CxB P w K mg base N qual scope f cdv A outer s0 H E) body (tS ⟨P, w, K⟩ (WE E) s))
    (hn : ps.length = n := by rfl) (hj : N.length - n = j := by rfl) : OkF P w K mg base (k + 1) f ps (spD ⟨P, w, K⟩ n (runF frz s j)) := by
  obtain ⟨fd, G⟩ := G
  exact ⟨⟨fd, fnR frz G S hb hn hj, G.bindsN hbd⟩, G.kp⟩
end
section
variable {X : Cx} {W : WX} {pos : Pos}
theorem dx_globO {x : Str} {d : D} {v : V} (hg : Gl X x) (hm : ∃ u, X.mg x = some u ∧ RelV v u) (hc : isC d v = true) (hd : (x == ("__debug__" : Str)) = false := by decide) : PE X (.Name x pos) (tE (gd X) W (eK d)) := by
  obtain ⟨u, h1, h2⟩ := hm
  exact dx_glob hg h1 h2 hc hd
/-- constants of a module's tuple -/
def dvD : He.Dv → Option D
  | .non => some .non
  | .bl b => some (.bl b)
  | .int i => some (.int i)
  | .str s => some (.str s)
  | _ => none
def dvDs : List He.Dv → Option (List D)
  | [] => some []
  | d :: r => (dvD d).bind fun x => (dvDs r).map fun xs => x :: xs
theorem dvDs_of {g : Gd} {B : Bx} {H : Hp} {K : PySem.W.Frag} : ∀ {vs : List He.Dv} {ds : List D}, dvDs vs = some ds → RepL g B H ds (vs.map (He.Dv.v K))
  | [], ds, h => by
    simp only [dvDs, Option.some.injEq] at h
    subst h
    exact RepL.nil
  | d :: r, ds, h => by
    simp only [dvDs, Option.bind_eq_some_iff, Option.map_eq_some_iff] at h
    obtain ⟨x, h1, xs, h2, rfl⟩ := h
    refine RepL.cons ?_ (dvDs_of h2)
    cases d <;> simp only [dvD, Option.some.injEq, reduceCtorEq] at h1 <;> subst h1 <;> unfold Rep He.Dv.v <;> rfl
theorem dx_gtupO {x : Str} {vs : List He.Dv} {ds : List D} (hg : Gl X x) (hm : X.mg x = some (.ref (He.ga X.K x))) (ht : He.tupB X.K x vs = true) (hr : dvDs vs = some ds := by rfl) (hd : (x == ("__debug__" : Str)) = false := by decide) : PE X (.Name x pos) (tE (gd X) W (eK (.tup ds))) :=
  dx_gtup hg hm (He.tupB_ok ht) (fun B H => dvDs_of hr) hd
variable {k j n : Nat} {ps : List Str} {F : List D → Mem → Rs D} {x : Str} {p : Pos} {e : Expr} {es : List Expr} {t : DA}
theorem dx_callO (O : OkF X.prog X.w X.K X.mg X.base j (He.ga X.K x) ps (spD (gd X) n F)) (hr : Room j X.A) (hm : X.mg x = some (.ref (He.ga X.K x))) (tk : Takes X W) (ha : PA X (e :: es) (tA (gd X) W t)) (al : AL n t) (hg : Gl X x := by rfl) (hdb : (x == ("__debug__" : Str)) = false := by decide)
    (he : starEach (e :: es) X.env = (false, eval e X.env) :: starEach es X.env := by rfl) (hpl : (backTo pos (starEach es X.env)).any (·.1) = false := by rfl) : PE X (.Call (.Name x p) (e :: es) [] pos) (tE (gd X) W (eCall F t)) := by
  obtain ⟨fd, G, b⟩ := O.ex
  exact dx_call G hr hg hm O.kp b tk ha al hdb he hpl
theorem dx_callO0 (O : OkF X.prog X.w X.K X.mg X.base j (He.ga X.K x) ps (spD (gd X) 0 F)) (hr : Room j X.A) (hm : X.mg x = some (.ref (He.ga X.K x))) (tk : Takes X W) (hg : Gl X x := by rfl) (hdb : (x == ("__debug__" : Str)) = false := by decide) :
    PE X (.Call (.Name x p) [] [] pos) (tE (gd X) W (eCall F aNil)) := by
  obtain ⟨fd, G, b⟩ := O.ex
  exact dx_call0 G hr hg hm O.kp b tk hdb
end
theorem units4 {k : Nat} {A : Around} (hr : Room k A) (h : 13 ≤ k) : A.units + 400 < cLine := by
  have := hr.un
  omega
/-- a comprehension's own block, looked over -/
def blkB (N : List Str) (sc scope : Scope) (own : List (Str × Nat)) : Bool :=
  decide (scope.kind = .function) && scope.names.all (fun y => decide (scope.names.lookup y.1 = some y.2)) && own.all (fun p => decide (N[p.2]? = some p.1)) &&
    scope.names.all (fun y => !(y.2 == .free) || (decide (sc.names.lookup y.1 = some .cell) || decide (sc.names.lookup y.1 = some .free))) &&
    scope.names.all fun y => !(y.2 == .local || y.2 == .cell) || ((own.map (·.1)).contains y.1 || !N.contains y.1)
theorem blkO {N N' : List Str} {sc sc' scope : Scope} {own : List (Str × Nat)} (hN : N' = N) (hs : sc' = sc) (h : blkB N sc scope own = true) : BlkOk N' sc' scope own := by
  subst hN hs
  unfold blkB at h
  simp only [Bool.and_eq_true, List.all_eq_true, decide_eq_true_eq, Bool.or_eq_true, Bool.not_eq_true'] at h
  obtain ⟨⟨⟨⟨h1, h2⟩, h3⟩, h4⟩, h5⟩ := h
  refine ⟨h1, h2, h3, fun y hy e => ?_, fun y hy e => ?_⟩
  · rcases h4 y hy with q | q
    · rw [e] at q; cases q
    · exact q
  · rcases h5 y hy with q | q
    · rcases e with e | e <;> rw [e] at q <;> cases q
    · rcases q with q | q
      · exact .inl (List.contains_iff_mem.mp q)
      · exact .inr fun z => by rw [List.contains_iff_mem.mpr z] at q; cases q
theorem guards_deeper {A : Around} {env : Env} (h : A.guards = some []) : (A.deeper env).guards = some [] := by
  first
    | exact h
    | simpa [Around.deeper, Around.under, pushGuards, Code.guards, Code.isGuard] using h
/-- a tuple found by a path of one's own -/
def tupAd (p : PySem.W.Frag → Addr) (vs : List He.Dv) : FB := fun K => match K.lookup (p K) with
  | some ⟨.type c, _, .seq its _, _⟩ => decide (c = "tuple") && (decide (its.size ≤ sizeLine) && He.relAll (vs.map (He.Dv.v K)) its.toList)
  | _ => false
theorem tupAd_ok {p : PySem.W.Frag → Addr} {vs : List He.Dv} {K : PySem.W.Frag} (h : tupAd p vs K = true) (H : Hp) : SqT K H (p K) (vs.map (He.Dv.v K)) := by
  unfold tupAd at h
  cases q : K.lookup (p K) with
  | none =>
    rw [q] at h
    cases h
  | some o =>
    obtain ⟨oc, od, dt, osl⟩ := o
    rw [q] at h
    cases oc with
    | type c =>
      cases dt with
      | seq its n =>
        obtain ⟨h1, h2⟩ := He.ba (show (decide (c = "tuple") && (decide (its.size ≤ sizeLine) && He.relAll (vs.map (He.Dv.v K)) its.toList)) = true from h)
        obtain ⟨h3, h4⟩ := He.ba h2
        exact .inr ⟨_, its, n, q, congrArg Value.type (of_decide_eq_true h1), rfl, of_decide_eq_true h3, He.relAll_ok h4⟩
      | _ => cases h
    | _ => cases dt <;> cases h
theorem hpar_ret {i : Option Nat} {fe : Addr → Option Addr → CN → DE} (h : ∀ a dd (x : Exn) δ m, fe a dd x.cls (setE i a dd x δ) m = fe 0 none x.cls (setE i 0 none x δ) m) : HPar i (fun a dd cn => sRet (fe a dd cn)) := fun a dd x δ m => by
  show clrO i ((fe a dd x.cls (setE i a dd x δ) m).st _ fun d m1 => .ok (.rt d) m1) = clrO i ((fe 0 none x.cls (setE i 0 none x δ) m).st _ fun d m1 => .ok (.rt d) m1)
  rw [h a dd x δ m]
  cases fe 0 none x.cls (setE i 0 none x δ) m <;> cases i <;> rfl
end DL
/-! plain reasoning over the data functions -/
namespace DL
open PySem L2
/-! ### what the parts do, for simp -/
section
variable {δ : Slots} {m : Mem} {f fa fb fc fo fe fi fk fx : DE} {t : DA} {s u : SE} {c d : DT} {op op' : Op2} {opn : OpN} {g n' : DG} {gs : DGs}
@[simp] theorem p_var {i : Nat} : eVar i δ m = match δ[i]? with | some (some d) => .ok d m | _ => .bad := rfl
@[simp] theorem p_k {x : D} : eK x δ m = .ok x m := rfl
@[simp] theorem p_bin : eBin op fa fb δ m = (fa δ m).bind fun a m1 => (fb δ m1).bind fun b m2 => lf (op m2 a b) m2 := rfl
@[simp] theorem p_chain : eChain op op' fa fb fc δ m = (fa δ m).bind fun a m1 => (fb δ m1).bind fun b m2 => (lf (op m2 a b) m2).bind fun t m3 => match t with
  | .bl true => (fc δ m3).bind fun c m4 => lf (op' m4 b c) m4
  | .bl false => .ok (.bl false) m3
  | _ => .bad := rfl
@[simp] theorem p_ctru : cTru f δ m = (f δ m).bind fun d m1 => lf (tru m1 d) m1 := rfl
@[simp] theorem p_cbl : cBl f δ m = (f δ m).bind fun d m1 => match d with | .bl b => .ok b m1 | _ => .bad := rfl
@[simp] theorem p_cnot : cNot c δ m = (c δ m).bind fun b m1 => .ok (!b) m1 := rfl
@[simp] theorem p_cand : cAnd c d δ m = (c δ m).bind fun b m1 => match b with | true => d δ m1 | false => .ok false m1 := rfl
@[simp] theorem p_cor : cOr c d δ m = (c δ m).bind fun b m1 => match b with | false => d δ m1 | true => .ok true m1 := rfl
@[simp] theorem p_eand : eAnd fa fb δ m = (fa δ m).bind fun d m1 => (lf (tru m1 d) m1).bind fun t m2 => match t with | true => fb δ m2 | false => .ok d m2 := rfl
@[simp] theorem p_eor : eOr fa fb δ m = (fa δ m).bind fun d m1 => (lf (tru m1 d) m1).bind fun t m2 => match t with | true => .ok d m2 | false => fb δ m2 := rfl
@[simp] theorem p_enot : eNot fa δ m = (fa δ m).bind fun d m1 => (lf (tru m1 d) m1).bind fun t m2 => .ok (.bl (!t)) m2 := rfl
@[simp] theorem p_if : eIf c fa fb δ m = (c δ m).bind fun b m1 => match b with | true => fa δ m1 | false => fb δ m1 := rfl
@[simp] theorem p_anil : aNil δ m = .ok [] m := rfl
@[simp] theorem p_acons : aCons f t δ m = (f δ m).bind fun d m1 => (t δ m1).bind fun ds m2 => .ok (d :: ds) m2 := rfl
@[simp] theorem p_tup : eTup t δ m = (t δ m).bind fun ds m1 => .ok (.tup ds) m1 := rfl
@[simp] theorem p_lst : eLst t δ m = (t δ m).bind fun ds m1 => .ok (.lst ds) m1 := rfl
@[simp] theorem p_new : eNew t δ m = (t δ m).bind fun ds m1 => .ok (.box m1.length) (m1 ++ [.lst ds]) := rfl
@[simp] theorem p_newD : eNewD δ m = .ok (.box m.length) (m ++ [.dct []]) := rfl
@[simp] theorem p_call {F : List D → Mem → Rs D} : eCall F t δ m = (t δ m).bind F := rfl
@[simp] theorem p_callB : eCallB opn t δ m = (t δ m).bind fun ds m1 => lf (opn m1 ds) m1 := rfl
@[simp] theorem p_sl {lo hi : DO} : eSl f lo hi δ m = (f δ m).bind fun a m1 => (lo δ m1).bind fun l m2 => (hi δ m2).bind fun h m3 => lf (opSl m3 a l h) m3 := rfl
@[simp] theorem p_onone : oNone δ m = .ok none m := rfl
@[simp] theorem p_osome : oSome f δ m = (f δ m).bind fun d m1 => match d with | .int i => .ok (some i) m1 | _ => .bad := rfl
@[simp] theorem p_lm {o : OpM} : eLM o fo t δ m = (fo δ m).bind fun a m1 => (lf (lstI m1 a) m1).bind fun _ m2 => (t δ m2).bind fun ds m3 => (o m3 a ds).only := rfl
@[simp] theorem p_lm0 {o : OpM} : eLM0 o fo δ m = (fo δ m).bind fun a m1 => (lf (lstI m1 a) m1).bind fun _ m2 => (o m2 a []).only := rfl
@[simp] theorem p_sm : eSM op fo fe δ m = (fo δ m).bind fun o m1 => (lf (if isStr o then some () else none) m1).bind fun _ m2 => (fe δ m2).bind fun d m3 => lf (op m3 o d) m3 := rfl
@[simp] theorem p_dget : eDGet fa fk fx δ m = (fa δ m).bind fun d m1 => (lf (dctI m1 d) m1).bind fun _ m1' => (fk δ m1').bind fun k m2 => (fx δ m2).bind fun x m3 => (lf (dctI m3 d) m3).bind fun kvs m4 => (lf (keyD k) m4).bind fun k m5 => .ok ((valD kvs k).getD x) m5 := rfl
@[simp] theorem p_compG {bx : Bool} {fi : DI} {vs : List Nat} : eCompG bx fi vs g c fe δ m = (fi δ m).bind fun ds m1 => (lf (if ds.length < sizeLine then some () else none) m1).bind fun _ m2 => (compL g c fe (wipeD δ vs) ds m2).bind fun xs m3 => endC bx xs m3 := rfl
@[simp] theorem p_endF (xs : List D) : endC false xs m = .ok (.lst xs) m := rfl
@[simp] theorem p_endT (xs : List D) : endC true xs m = .ok (.box m.length) (m ++ [.lst xs]) := rfl
@[simp] theorem p_iseq : iSeq f δ m = (f δ m).bind fun d m1 => lf (seqItems d) m1 := rfl
@[simp] theorem p_istr : iStr f δ m = (f δ m).bind fun d m1 => match d with | .str s => .ok (signs s) m1 | _ => .bad := rfl
@[simp] theorem p_irange : iRange t δ m = (t δ m).bind fun ds m1 => match ds with | [.int j] => lf (rangeItems 0 j) m1 | [.int i, .int j] => lf (rangeItems i j) m1 | _ => .bad := rfl
@[simp] theorem p_ienu : iEnu t δ m = (t δ m).bind fun ds m1 => match ds with | [d] => (lf (seqItems d) m1).bind fun xs m2 => .ok (enumItems xs) m2 | _ => .bad := rfl
@[simp] theorem p_iitems : iItems f δ m = (f δ m).bind fun d m1 => match d with | .dct kvs => .ok (kvs.map fun kv => .tup [kD kv.1, kv.2]) m1 | _ => .bad := rfl
@[simp] theorem p_yes : cYes δ m = .ok true m := rfl
@[simp] theorem p_name {i : Nat} {d : D} : nName i d δ m = .ok (δ.set i (some d)) m := rfl
@[simp] theorem p_nnil : nNil [] δ m = .ok δ m := rfl
@[simp] theorem p_ncons {d : D} {r : List D} : nCons g gs (d :: r) δ m = (g d δ m).bind fun δ1 m1 => gs r δ1 m1 := rfl
@[simp] theorem p_ntup {k : Nat} {ds : List D} : nTup k gs (.tup ds) δ m = if ds.length = k then gs ds δ m else .bad := rfl
@[simp] theorem p_nsub {v : D} : nSub fo fi v δ m = (fo δ m).only.bind fun o m1 => (fi δ m1).only.bind fun i m2 => match i with
  | .int i => (opBox (fSet i v) m2 o []).only.bind fun _ m3 => .ok δ m3
  | _ => .bad := rfl
@[simp] theorem p_next : sNext δ m = .ok (.nx δ) m := rfl
@[simp] theorem p_seq : sSeq s u δ m = match s δ m with | .ok (.nx δ1) m1 => u δ1 m1 | r => r := rfl
@[simp] theorem p_expr : sExpr f δ m = (f δ m).st δ fun _ m1 => .ok (.nx δ) m1 := rfl
@[simp] theorem p_ret : sRet f δ m = (f δ m).st δ fun d m1 => .ok (.rt d) m1 := rfl
@[simp] theorem p_sif : sIf c s u δ m = (c δ m).st δ fun b m1 => match b with | true => s δ m1 | false => u δ m1 := rfl
@[simp] theorem p_set {i : Nat} : sSet i f δ m = (f δ m).st δ fun d m1 => .ok (.nx (δ.set i (some d))) m1 := rfl
@[simp] theorem p_par {i j : Nat} : sPar i j t δ m = (t δ m).st δ fun ds m1 => match ds with | [d, e] => .ok (.nx ((δ.set i (some d)).set j (some e))) m1 | _ => .bad := rfl
@[simp] theorem p_par3 {i j l : Nat} : sPar3 i j l t δ m = (t δ m).st δ fun ds m1 => match ds with | [d, e, f] => .ok (.nx (((δ.set i (some d)).set j (some e)).set l (some f))) m1 | _ => .bad := rfl
@[simp] theorem p_asg : sAsg g f δ m = (f δ m).st δ fun d m1 => (g d δ m1).st δ fun δ1 m2 => .ok (.nx δ1) m2 := rfl
@[simp] theorem p_for {fi : DI} : sFor fi g s δ m = (fi δ m).st δ fun ds m1 => loopL g s ds δ m1 := rfl
end
/-! ### the end of a def -/
def isBox : D → Bool
  | .box _ => true
  | _ => false
theorem retF_same {frz : Bool} {n : Nat} {d : D} {m : Mem} (hd : isBox d = false) (hm : m.length = n) : retF frz n d m = .ok d m := by
  have e : m.take n = m := by rw [← hm, List.take_length]
  have key : (if closed n d = true ∧ closedL n (m.take n) = true then Rs.ok d (m.take n) else .ok d m) = .ok d m := by
    rw [e]
    split <;> rfl
  cases d <;> first | (cases hd; done) | (cases frz <;> exact key)
theorem runF_rt {frz : Bool} {s : SE} {k : Nat} {ds : List D} {m m' : Mem} {d : D} (h : s (ds.map some ++ List.replicate k none) m = .ok (.rt d) m') (hd : isBox d = false) (hm : m'.length = m.length) : runF frz s k ds m = .ok d m' := by
  unfold runF
  rw [h]
  exact retF_same hd hm
theorem runF_frz {s : SE} {k : Nat} {ds : List D} {m m' : Mem} {j : Nat} {d : D} (h : s (ds.map some ++ List.replicate k none) m = .ok (.rt (.box j)) m') (hj : m.length ≤ j) (e : m'[j]? = some d) (c : closed m.length d = true) (cm : closedL m.length (m'.take m.length) = true) :
    runF true s k ds m = .ok d (m'.take m.length) := by
  unfold runF
  rw [h]
  show (match m'[j]? with
    | some d' => if m.length ≤ j ∧ closed m.length d' = true ∧ closedL m.length (m'.take m.length) = true then Rs.ok d' (m'.take m.length) else .bad
    | none => .bad) = _
  rw [e]
  exact if_pos ⟨hj, c, cm⟩
/-! ### comprehensions, loops -/
/-- a comprehension that changes nothing -/
theorem compL_pure {t : DG} {c : DT} {e : DE} {δ : Slots} {m : Mem} (p : D → Bool) (f : D → D) : ∀ (ds : List D), (∀ d ∈ ds, ∃ δ1, t d δ m = .ok δ1 m ∧ c δ1 m = .ok (p d) m ∧ (p d = true → e δ1 m = .ok (f d) m)) → compL t c e δ ds m = .ok ((ds.filter p).map f) m
  | [], _ => rfl
  | d :: ds, h => by
    obtain ⟨δ1, h1, h2, h3⟩ := h d List.mem_cons_self
    have ih := compL_pure p f ds fun x hx => h x (List.mem_cons_of_mem _ hx)
    simp only [compL, h1, h2, only_ok, bind_ok]
    cases q : p d with
    | true => simp [q, h3 q, ih]
    | false => simp [q, ih]
theorem compL_map {t : DG} {e : DE} {δ : Slots} {m : Mem} (f : D → D) (ds : List D) (h : ∀ d ∈ ds, ∃ δ1, t d δ m = .ok δ1 m ∧ e δ1 m = .ok (f d) m) : compL t cYes e δ ds m = .ok (ds.map f) m := by
  have := compL_pure (t := t) (c := cYes) (e := e) (δ := δ) (m := m) (fun _ => true) f ds fun d hd => by
    obtain ⟨δ1, h1, h2⟩ := h d hd
    exact ⟨δ1, h1, rfl, fun _ => h2⟩
  rw [this, List.filter_eq_self.mpr fun _ _ => rfl]
/-- a comprehension whose parts change the memory: an invariant, a property of each item -/
theorem compL_inv {t : DG} {e : DE} {δ : Slots} (I : Mem → Prop) (P : D → Prop) : ∀ (ds : List D) (m : Mem), I m → (∀ d ∈ ds, ∀ m, I m → ∃ δ1 x m', t d δ m = .ok δ1 m ∧ e δ1 m = .ok x m' ∧ I m' ∧ P x) →
    ∃ xs m', compL t cYes e δ ds m = .ok xs m' ∧ I m' ∧ xs.length = ds.length ∧ ∀ x ∈ xs, P x
  | [], m, hi, _ => ⟨[], m, rfl, hi, rfl, fun x hx => by cases hx⟩
  | d :: ds, m, hi, h => by
    obtain ⟨δ1, x, m1, h1, h2, h3, h4⟩ := h d List.mem_cons_self m hi
    obtain ⟨xs, m2, k1, k2, k3, k4⟩ := compL_inv I P ds m1 h3 fun y hy => h y (List.mem_cons_of_mem _ hy)
    refine ⟨x :: xs, m2, ?_, k2, by simp [k3], fun y hy => ?_⟩
    · simp [compL, h1, h2, k1]
    · rcases List.mem_cons.mp hy with q | q
      · exact q ▸ h4
      · exact k4 y q
/-- a for that runs to its end -/
theorem loopL_inv {t : DG} {b : SE} (I : Nat → Slots → Mem → Prop) : ∀ (ds : List D) (j : Nat) (δ : Slots) (m : Mem), I j δ m → (∀ i d δ m, ds[i]? = some d → I (j + i) δ m → ∃ δ1 m1 δ2 m2, t d δ m = .ok δ1 m1 ∧ b δ1 m1 = .ok (.nx δ2) m2 ∧ I (j + i + 1) δ2 m2) →
    ∃ δ' m', loopL t b ds δ m = .ok (.nx δ') m' ∧ I (j + ds.length) δ' m'
  | [], j, δ, m, hi, _ => ⟨δ, m, rfl, hi⟩
  | d :: ds, j, δ, m, hi, h => by
    obtain ⟨δ1, m1, δ2, m2, h1, h2, h3⟩ := h 0 d δ m rfl hi
    obtain ⟨δ', m', k1, k2⟩ := loopL_inv I ds (j + 1) δ2 m2 h3 fun i x δ m hx hj => by
      have := h (i + 1) x δ m (by simpa using hx) (by rw [show j + (i + 1) = j + 1 + i by omega]; exact hj)
      rw [show j + (i + 1) + 1 = j + 1 + i + 1 by omega] at this
      exact this
    refine ⟨δ', m', ?_, by rw [show j + (d :: ds).length = j + 1 + ds.length by simp; omega]; exact k2⟩
    simp [loopL, h1, h2, k1]
/-- truth values of a comprehension -/
theorem bls_map (p : D → Bool) : ∀ ds : List D, blsI (ds.map fun d => .bl (p d)) = some (ds.map p)
  | [] => rfl
  | d :: ds => by simp [blsI, bls_map p ds]
/-! ### places, cuts -/
theorem ixN_nat (n i : Nat) : ixN n (i : Int) = if i < n then some i else none := by
  unfold ixN
  rw [if_pos (Int.natCast_nonneg i)]
  by_cases h : i < n
  · rw [if_pos (by omega), if_pos h]
    simp
  · rw [if_neg (by omega), if_neg h]
theorem atI_nat {α : Type} (xs : List α) (i : Nat) : atI xs (i : Int) = xs[i]? := by
  unfold atI
  rw [ixN_nat]
  by_cases h : i < xs.length
  · rw [if_pos h]; rfl
  · rw [if_neg h, List.getElem?_eq_none (by omega)]; rfl
theorem atI_0 {α : Type} (x : α) (xs : List α) : atI (x :: xs) 0 = some x := atI_nat (x :: xs) 0
theorem sIx_nat (n d a : Nat) : HT.sIx n d (some (a : Int)) = min a n := by
  unfold HT.sIx
  first
    | (simp; done)
    | (split <;> omega)
    | (simp; omega)
theorem cutD_drop {α : Type} (xs : List α) (a : Nat) : cutD xs (some (a : Int)) none = xs.drop a := by
  unfold cutD
  rw [sIx_nat]
  have : HT.sIx xs.length xs.length none = xs.length := rfl
  rw [this]
  by_cases h : a ≤ xs.length
  · rw [Nat.min_eq_left h, List.take_of_length_le (by rw [List.length_drop]; omega)]
  · rw [Nat.min_eq_right (by omega), List.drop_eq_nil_of_le (by omega), List.drop_eq_nil_of_le (by omega)]
    simp
theorem cutD_take {α : Type} (xs : List α) (a : Nat) : cutD xs none (some (a : Int)) = xs.take a := by
  unfold cutD
  rw [sIx_nat]
  have : HT.sIx xs.length 0 none = 0 := rfl
  rw [this, List.drop_zero, Nat.sub_zero]
  by_cases h : a ≤ xs.length
  · rw [Nat.min_eq_left h]
  · rw [Nat.min_eq_right (by omega), List.take_length, List.take_of_length_le (by omega)]
/-! ### operations on values of a known kind -/
theorem beqD {α : Type} [BEq α] [LawfulBEq α] [DecidableEq α] (a b : α) : (a == b) = decide (a = b) := by
  by_cases h : a = b
  · rw [decide_eq_true h, h]; simp
  · rw [decide_eq_false h]; simpa using h
section
variable {m : Mem} {a b : Int} {x y : Str} {xs ys : List D} {p q : Bool} {d : D}
@[simp] theorem q_eq_ii : opEq m (.int a) (.int b) = some (.bl (decide (a = b))) := by simp [opEq, eqOk, scalD, dr, eqD, beqD]
@[simp] theorem q_eq_ss : opEq m (.str x) (.str y) = some (.bl (decide (x = y))) := by simp [opEq, eqOk, scalD, dr, eqD, beqD]
@[simp] theorem q_eq_t0 : opEq m (.tup xs) (.tup []) = some (.bl xs.isEmpty) := by
  cases xs <;> simp [opEq, eqOk, scalD, eqE, dr, eqD, eqL]
@[simp] theorem q_eq_l0 : opEq m (.lst xs) (.lst []) = some (.bl xs.isEmpty) := by
  cases xs <;> simp [opEq, eqOk, scalD, eqE, dr, eqD, eqL]
@[simp] theorem q_ne_ii : opNe m (.int a) (.int b) = some (.bl (!decide (a = b))) := by simp [opNe, eqOk, scalD, dr, eqD, beqD]
@[simp] theorem q_ne_ss : opNe m (.str x) (.str y) = some (.bl (!decide (x = y))) := by simp [opNe, eqOk, scalD, dr, eqD, beqD]
@[simp] theorem q_ne_t0 : opNe m (.tup xs) (.tup []) = some (.bl (!xs.isEmpty)) := by
  cases xs <;> simp [opNe, eqOk, scalD, eqE, dr, eqD, eqL]
@[simp] theorem q_ne_l0 : opNe m (.lst xs) (.lst []) = some (.bl (!xs.isEmpty)) := by
  cases xs <;> simp [opNe, eqOk, scalD, eqE, dr, eqD, eqL]
theorem q_ne_b0 {n : Nat} (h : m[n]? = some (.lst xs)) : opNe m (.box n) (.lst []) = some (.bl (!xs.isEmpty)) := by
  cases xs <;> simp [opNe, eqOk, scalD, eqE, dr, eqD, eqL, h]
@[simp] theorem q_is : opIs m d .non = some (.bl (isNon d)) := rfl
@[simp] theorem q_isnot : opIsNot m d .non = some (.bl (!isNon d)) := rfl
@[simp] theorem q_isNon_non : isNon .non = true := rfl
@[simp] theorem q_isNon_str : isNon (.str x) = false := rfl
@[simp] theorem q_isNon_tup : isNon (.tup xs) = false := rfl
@[simp] theorem q_lt : opLt m (.int a) (.int b) = some (.bl (decide (a < b))) := rfl
@[simp] theorem q_le : opLe m (.int a) (.int b) = some (.bl (decide (a ≤ b))) := rfl
@[simp] theorem q_gt : opGt m (.int a) (.int b) = some (.bl (decide (b < a))) := rfl
@[simp] theorem q_ge : opGe m (.int a) (.int b) = some (.bl (decide (b ≤ a))) := rfl
@[simp] theorem q_len_t : opLen m [.tup xs] = some (.int (xs.length : Nat)) := rfl
@[simp] theorem q_len_l : opLen m [.lst xs] = some (.int (xs.length : Nat)) := rfl
theorem q_len_s (h : x.length ≤ sizeLine) : opLen m [.str x] = some (.int (x.length : Nat)) := if_pos h
@[simp] theorem q_tru_bl : tru m (.bl p) = some p := rfl
@[simp] theorem q_tru_tup : tru m (.tup xs) = some (!xs.isEmpty) := rfl
@[simp] theorem q_all {α : Type} {l : List α} {f : α → Bool} : opAll m [.lst (l.map fun c => .bl (f c))] = some (.bl (l.all f)) := by
  have h : ∀ l : List α, blsI (l.map fun c => D.bl (f c)) = some (l.map f) := fun l => by
    induction l with
    | nil => rfl
    | cons a l ih => simp [blsI, ih]
  simp [opAll, lstI, h, List.all_map, Function.comp_def]
@[simp] theorem q_ix_t {i : Nat} : opIx m (.tup xs) (.int (i : Int)) = xs[i]? := by simp [opIx, seqI, atI_nat]
@[simp] theorem q_ix_l {i : Nat} : opIx m (.lst xs) (.int (i : Int)) = xs[i]? := by simp [opIx, seqI, atI_nat]
@[simp] theorem q_ix_t0 : opIx m (.tup (d :: xs)) (.int 0) = some d := by simp [opIx, seqI, atI_0]
@[simp] theorem q_sl_t1 : opSl m (.tup xs) (some 1) none = some (.tup (xs.drop 1)) := by
  show some (D.tup (cutD xs (some ((1 : Nat) : Int)) none)) = _
  rw [cutD_drop]
@[simp] theorem q_add_ii : opAdd m (.int a) (.int b) = some (.int (a + b)) := rfl
@[simp] theorem q_sub_ii : opSub m (.int a) (.int b) = some (.int (a - b)) := rfl
@[simp] theorem q_items_t : seqItems (.tup xs) = some xs := rfl
@[simp] theorem q_items_l : seqItems (.lst xs) = some xs := rfl
@[simp] theorem q_int_i : opInt m [.int a] = some (.int a) := rfl
@[simp] theorem q_int_b : opInt m [.bl p] = some (.int (if p then 1 else 0)) := rfl
@[simp] theorem q_tuple_l : opTuple m [.lst xs] = some (.tup xs) := rfl
@[simp] theorem q_tuple_t : opTuple m [.tup xs] = some (.tup xs) := rfl
end
end DL
/-! the text of the law and its walk (printed by gen.py) -/
namespace K80
open PySem L2 DL PySem.Spec
open PyProof.Rows hiding St
def topS (i : Nat) : Stmt := PySem.Challenge.pw_twigscripts_k80_what_is_no_script_object.main.body.getD i (.Pass ⟨0, 0, 0, 0⟩)
def inClass : Stmt → Nat → Stmt
  | .ClassDef (body := b) .., j => b.getD j (.Pass ⟨0, 0, 0, 0⟩)
  | s, _ => s

def isOwn (C : Str) : Bool := decide (C = "Script")
def ktX (t c : CN) : Option Bool := match t, c with
  | .bt a, .bt b => ktn a b
  | .own C, .bt b => if isOwn C && ["str", "int", "bool", "tuple"].contains b then some false else none
  | .bt a, .own C => if isOwn C && ["NoneType", "bool", "int", "str", "tuple", "list", "dict"].contains a then some false else none
  | .own C, .own D => if isOwn C && isOwn D then some true else none
def exX (t c : CN) : Option Bool := if t = .own "BadScript" ∧ c = .own "BadScript" then some true else none
def ktE (t c : CN) : Option Bool := if t = .own "BadScript" then (if c = .own "TwigError" then some true else if c = .own "BadDeed" then some false else none) else none
def xcX (c : CN) (n : Str) : Bool := decide (c = .own "BadScript" ∧ n = "error")
def ncX (C n : Str) : Bool := isOwn C && decide (n = "row")

/-! is_name -/
abbrev s_is_name : Stmt := topS 34
theorem sc_is_name : FnScope ["value", "sign"] ["value"] (defScope s_is_name) := ⟨rfl, rfl, rfl, by decide +kernel, rfl, by decide +kernel, by decide +kernel⟩
def b_is_name : SE := (sSeq (sIf (cOr (cNot (cBl (eCallB (opIsi ktX) (aCons (eVar 0) (aCons (eK (.ty "str")) aNil))))) (cNot (cBl (eChain opLe opLe (eK (.int 1)) (eCallB opLen (aCons (eVar 0) aNil)) (eK (.int 8)))))) (sRet (eK (.bl false))) sNext)
  (sRet (eCallB opAll (aCons (eCompG false (iStr (eVar 0)) [1] (nName 1) cYes (eBin opIn (eVar 1) (eK (.str "abcdefghijklmnopqrstuvwxyz")))) aNil))))
def F_is_name : List D → Mem → Rs D := runF false b_is_name 1
/-! deed_error -/
abbrev s_deed_error : Stmt := topS 39
theorem sc_deed_error : FnScope ["value", "item"] ["value"] (defScope s_deed_error) := ⟨rfl, rfl, rfl, by decide +kernel, rfl, by decide +kernel, by decide +kernel⟩
def b_deed_error : SE := (sSeq (sIf (cOr (cNot (cBl (eCallB (opIsi ktX) (aCons (eVar 0) (aCons (eK (.ty "tuple")) aNil))))) (cOr (cBl (eBin opEq (eVar 0) (eTup aNil))) (cBl (eBin opNotIn (eBin opIx (eVar 0) (eK (.int 0))) (eK (.tup [.str "first", .str "last", .str "ahead", .str "behind", .str "front", .str "back", .str "swap", .str "turn", .str "lift", .str "cut", .str "pour", .str "wrap", .str "put"])))))) (sRet (eK (.str "deed"))) sNext)
  (sSeq (sIf (cBl (eBin opNe (eCallB opLen (aCons (eVar 0) aNil)) (eIf (cBl (eBin opIn (eBin opIx (eVar 0) (eK (.int 0))) (eK (.tup [.str "front", .str "back", .str "lift", .str "cut"])))) (eK (.int 2)) (eK (.int 3))))) (sRet (eK (.str "deed"))) sNext)
  (sRet (eIf (cTru (eCallB opAll (aCons (eCompG false (iSeq (eSl (eVar 0) (oSome (eK (.int 1))) oNone)) [1] (nName 1) cYes (eCall F_is_name (aCons (eVar 1) aNil))) aNil))) (eK .non) (eK (.str "name"))))))
def F_deed_error : List D → Mem → Rs D := runF false b_deed_error 1
/-! makes -/
abbrev s_makes : Stmt := topS 40
theorem sc_makes : FnScope ["deed", "k"] ["deed", "k"] (defScope s_makes) := ⟨rfl, rfl, rfl, by decide +kernel, rfl, by decide +kernel, by decide +kernel⟩
def b_makes : SE := (sRet (eOr (eAnd (eBin opEq (eBin opIx (eVar 0) (eK (.int 0))) (eK (.str "wrap"))) (eBin opEq (eVar 1) (eK (.int 2)))) (eAnd (eBin opEq (eBin opIx (eVar 0) (eK (.int 0))) (eK (.str "put"))) (eBin opEq (eVar 1) (eK (.int 1))))))
def F_makes : List D → Mem → Rs D := runF false b_makes 0
/-! roles -/
abbrev s_roles : Stmt := topS 41
theorem sc_roles : FnScope ["deeds", "found", "deed", "k", "item"] ["deeds"] (defScope s_roles) := ⟨rfl, rfl, rfl, by decide +kernel, rfl, by decide +kernel, by decide +kernel⟩
def b_roles : SE := (sSeq (sSet 1 eNewD)
  (sSeq (sFor (iSeq (eVar 0)) (nName 2) (sFor (iEnu (aCons (eVar 2) aNil)) (nTup 2 (nCons (nName 3) (nCons (nName 4) nNil))) (sIf (cBl (eBin opGt (eVar 3) (eK (.int 0)))) (sExpr (eSetd (eVar 1) (eVar 4) (eCall F_makes (aCons (eVar 2) (aCons (eVar 3) aNil))))) sNext)))
  (sRet (eVar 1))))
def F_roles : List D → Mem → Rs D := runF true b_roles 4
/-! old_names -/
abbrev s_old_names : Stmt := topS 42
theorem sc_old_names : FnScope ["script", "name", "is_new"] ["script"] (defScope s_old_names) := ⟨rfl, rfl, rfl, by decide +kernel, rfl, by decide +kernel, by decide +kernel⟩
def b_old_names : SE := (sRet (eCallB opTuple (aCons (eCallB opSorted (aCons (eCompG false (iItems (eCall F_roles (aCons (eVar 0) aNil))) [1, 2] (nTup 2 (nCons (nName 1) (nCons (nName 2) nNil))) (cNot (cTru (eVar 2))) (eVar 1)) aNil)) aNil)))
def F_old_names : List D → Mem → Rs D := runF false b_old_names 2
/-! new_names -/
abbrev s_new_names : Stmt := topS 43
theorem sc_new_names : FnScope ["script", "name", "is_new"] ["script"] (defScope s_new_names) := ⟨rfl, rfl, rfl, by decide +kernel, rfl, by decide +kernel, by decide +kernel⟩
def b_new_names : SE := (sRet (eCallB opTuple (aCons (eCallB opSorted (aCons (eCompG false (iItems (eCall F_roles (aCons (eVar 0) aNil))) [1, 2] (nTup 2 (nCons (nName 1) (nCons (nName 2) nNil))) (cTru (eVar 2)) (eVar 1)) aNil)) aNil)))
def F_new_names : List D → Mem → Rs D := runF false b_new_names 2
/-! script_error -/
abbrev s_script_error : Stmt := topS 44
theorem sc_script_error : FnScope ["value", "index", "deed", "word"] ["value"] (defScope s_script_error) := ⟨rfl, rfl, rfl, by decide +kernel, rfl, by decide +kernel, by decide +kernel⟩
def b_script_error : SE := (sSeq (sIf (cOr (cNot (cBl (eCallB (opIsi ktX) (aCons (eVar 0) (aCons (eK (.ty "tuple")) aNil))))) (cBl (eBin opGt (eCallB opLen (aCons (eVar 0) aNil)) (eK (.int 12))))) (sRet (eTup (aCons (eK .non) (aCons (eK (.str "script")) aNil)))) sNext)
  (sSeq (sFor (iEnu (aCons (eVar 0) aNil)) (nTup 2 (nCons (nName 1) (nCons (nName 2) nNil))) (sSeq (sSet 3 (eCall F_deed_error (aCons (eVar 2) aNil)))
  (sIf (cBl (eBin opIsNot (eVar 3) (eK .non))) (sRet (eTup (aCons (eVar 1) (aCons (eVar 3) aNil)))) sNext)))
  (sSeq (sIf (cBl (eBin opGt (eCallB opLen (aCons (eCall F_old_names (aCons (eVar 0) aNil)) aNil)) (eK (.int 4)))) (sRet (eTup (aCons (eK .non) (aCons (eK (.str "old")) aNil)))) sNext)
  (sRet (eIf (cBl (eBin opGt (eCallB opLen (aCons (eCall F_new_names (aCons (eVar 0) aNil)) aNil)) (eK (.int 3)))) (eTup (aCons (eK .non) (aCons (eK (.str "new")) aNil))) (eK .non))))))
def F_script_error : List D → Mem → Rs D := runF false b_script_error 3
/-! BadScript.__init__ -/
abbrev s_BadScript_init : Stmt := inClass (topS 27) 0
theorem sc_BadScript_init : FnScope ["self", "error"] ["self", "error"] (defScope s_BadScript_init) := ⟨rfl, rfl, rfl, by decide +kernel, rfl, by decide +kernel, by decide +kernel⟩
def b_BadScript_init : SE := (sFld ncX "error" (eVar 0) (eVar 1))
def F_BadScript_init : List D → Mem → Rs D := runF false b_BadScript_init 0
/-! Script.__init__ -/
abbrev s_Script_init : Stmt := inClass (topS 49) 0
theorem sc_Script_init : FnScope ["self", "deeds", "error"] ["self", "deeds"] (defScope s_Script_init) := ⟨rfl, rfl, rfl, by decide +kernel, rfl, by decide +kernel, by decide +kernel⟩
def b_Script_init : SE := (sSeq (sSet 2 (eCall F_script_error (aCons (eVar 1) aNil)))
  (sSeq (sIf (cBl (eBin opIsNot (eVar 2) (eK .non))) (sRaise1 "BadScript" "error" (eVar 2)) sNext)
  (sFld ncX "row" (eVar 0) (eVar 1))))
def F_Script_init : List D → Mem → Rs D := runF false b_Script_init 1
def mk_Script (t : DA) : DE := eMake true "Script" F_Script_init [] t
def mk0_Script : DE := eMake true "Script" F_Script_init [.tup []] aNil
/-! Script.deeds -/
abbrev s_Script_deeds : Stmt := inClass (topS 49) 2
theorem sc_Script_deeds : FnScope ["self"] ["self"] (defScope s_Script_deeds) := ⟨rfl, rfl, rfl, by decide +kernel, rfl, by decide +kernel, by decide +kernel⟩
def b_Script_deeds : SE := (sRet (eFld ncX "row" (eVar 0)))
def F_Script_deeds : List D → Mem → Rs D := runF false b_Script_deeds 0
/-! _law_deck -/
abbrev s_l_deck : Stmt := topS 51
theorem sc_l_deck : FnScope ["_law_script", "_law_great", "_law_mixed", "_law_cell", "_law_more"] ["_law_script"] (defScope s_l_deck) := ⟨rfl, rfl, rfl, by decide +kernel, rfl, by decide +kernel, by decide +kernel⟩
def b_l_deck : SE := (sSeq (sPar 1 2 (aCons (eK (.int 0)) (aCons (eBin opAdd (eK (.int 2917)) (eBin opMul (eK (.int 41)) (eCallB opLen (aCons (eVar 0) aNil)))) aNil)))
  (sSeq (sFor (iSeq (eSl (eVar 0) oNone (oSome (eK (.int 60))))) (nName 3) (sSeq (sSet 4 (eBin opAdd (eBin opAdd (eBin opMul (eK (.int 2)) (eCallB opAbs (aCons (eVar 3) aNil))) (eCallB opInt (aCons (eBin opLt (eVar 3) (eK (.int 0))) aNil))) (eK (.int 1))))
  (sSeq (sSet 2 (eBin opMod (eCallB opInt (aCons (eBin opAdd (eBin opMul (eVar 2) (eK (.int 6364136223846793005))) (eVar 4)) aNil)) (eK (.int 2305843009213693951))))
  (sIf (cBl (eBin opGe (eCallB opAbs (aCons (eVar 3) aNil)) (eBin opPow (eK (.int 10)) (eK (.int 18))))) (sSet 1 (eBin opAdd (eBin opMul (eVar 1) (eK (.int 37))) (eCallB opAbs (aCons (eVar 3) aNil)))) sNext))))
  (sRet (eNew (aCons (eVar 1) (aCons (eVar 2) (aCons (eK (.int 0)) aNil)))))))
def F_l_deck : List D → Mem → Rs D := runF false b_l_deck 4
/-! _law_draw -/
abbrev s_l_draw : Stmt := topS 52
theorem sc_l_draw : FnScope ["_law_deck_here", "_law_many", "_law_digit", "_law_mixed"] ["_law_deck_here", "_law_many"] (defScope s_l_draw) := ⟨rfl, rfl, rfl, by decide +kernel, rfl, by decide +kernel, by decide +kernel⟩
def b_l_draw : SE := (sSeq (sIf (cBl (eBin opGt (eBin opIx (eVar 0) (eK (.int 0))) (eK (.int 0)))) (sSeq (sSet 2 (eBin opMod (eCallB opInt (aCons (eBin opIx (eVar 0) (eK (.int 0))) aNil)) (eVar 1)))
  (sSeq (sAsg (nSub (eVar 0) (eK (.int 0))) (eBin opFdiv (eBin opIx (eVar 0) (eK (.int 0))) (eVar 1)))
  (sRet (eVar 2)))) sNext)
  (sSeq (sAsg (nSub (eVar 0) (eK (.int 2))) (eBin opAdd (eBin opIx (eVar 0) (eK (.int 2))) (eK (.int 1))))
  (sSeq (sSet 3 (eBin opMod (eCallB opInt (aCons (eBin opAdd (eBin opIx (eVar 0) (eK (.int 1))) (eBin opMul (eK (.int 11400714819323198485)) (eBin opIx (eVar 0) (eK (.int 2))))) aNil)) (eK (.int 18446744073709551557))))
  (sSeq (sSet 3 (eBin opMod (eCallB opInt (aCons (eBin opMul (eVar 3) (eBin opAdd (eBin opMod (eVar 3) (eK (.int 4294967291))) (eK (.int 7)))) aNil)) (eK (.int 2305843009213693951))))
  (sRet (eBin opMod (eBin opFdiv (eBin opMod (eCallB opInt (aCons (eBin opMul (eVar 3) (eVar 3)) aNil)) (eK (.int 2305843009213693921))) (eK (.int 2048))) (eVar 1)))))))
def F_l_draw : List D → Mem → Rs D := runF false b_l_draw 2
/-! _law_name -/
abbrev s_l_name : Stmt := topS 53
theorem sc_l_name : FnScope ["_law_deck_here", "_law_letters", "_law_k"] ["_law_deck_here"] (defScope s_l_name) := ⟨rfl, rfl, rfl, by decide +kernel, rfl, by decide +kernel, by decide +kernel⟩
def b_l_name : SE := (sSeq (sSet 1 (eK (.str "abcdefghijklmnopqrstuvwxyz")))
  (sRet (eSM opJoin (eK (.str "")) (eCompG false (iRange (aCons (eBin opAdd (eK (.int 1)) (eCall F_l_draw (aCons (eVar 0) (aCons (eK (.int 8)) aNil)))) aNil)) [2] (nName 2) cYes (eBin opIx (eVar 1) (eCall F_l_draw (aCons (eVar 0) (aCons (eK (.int 26)) aNil))))))))
def F_l_name : List D → Mem → Rs D := runF false b_l_name 2
/-! _law_names -/
abbrev s_l_names : Stmt := topS 54
theorem sc_l_names : FnScope ["_law_deck_here", "_law_many", "_law_letters", "_law_spare", "_law_way", "_law_base", "_law_place", "_law_at", "_law_names_here", "_law_k", "_law_kind", "_law_name_here"] ["_law_deck_here", "_law_many"] (defScope s_l_names) := ⟨rfl, rfl, rfl, by decide +kernel, rfl, by decide +kernel, by decide +kernel⟩
def b_l_names : SE := (sSeq (sSet 2 (eK (.str "abcdefghijklmnopqrstuvwxyz")))
  (sSeq (sSet 3 (eCompG false (iRange (aCons (eK (.int 676)) aNil)) [9] (nName 9) cYes (eBin opAdd (eBin opIx (eVar 2) (eBin opFdiv (eVar 9) (eK (.int 26)))) (eBin opIx (eVar 2) (eBin opMod (eVar 9) (eK (.int 26)))))))
  (sSeq (sPar 4 5 (aCons (eCall F_l_draw (aCons (eVar 0) (aCons (eK (.int 4)) aNil))) (aCons (eSl (eBin opMul (eCall F_l_name (aCons (eVar 0) aNil)) (eK (.int 8))) oNone (oSome (eK (.int 8)))) aNil)))
  (sSeq (sPar3 6 7 8 (aCons (eCall F_l_draw (aCons (eVar 0) (aCons (eK (.int 8)) aNil))) (aCons (eK (.int 0)) (aCons (eNew aNil) aNil))))
  (sSeq (sFor (iRange (aCons (eVar 1) aNil)) (nName 9) (sSeq (sSet 10 (eIf (cBl (eBin opEq (eVar 4) (eK (.int 3)))) (eCall F_l_draw (aCons (eVar 0) (aCons (eK (.int 3)) aNil))) (eVar 4)))
  (sSeq (sIf (cBl (eBin opEq (eVar 10) (eK (.int 0)))) (sSet 11 (eCall F_l_name (aCons (eVar 0) aNil))) (sIf (cBl (eBin opEq (eVar 10) (eK (.int 1)))) (sSet 11 (eBin opAdd (eBin opAdd (eSl (eVar 5) oNone (oSome (eVar 6))) (eBin opIx (eVar 2) (eCall F_l_draw (aCons (eVar 0) (aCons (eK (.int 26)) aNil))))) (eSl (eVar 5) (oSome (eBin opAdd (eVar 6) (eK (.int 1)))) oNone))) (sSet 11 (eSl (eVar 5) oNone (oSome (eBin opAdd (eK (.int 1)) (eCall F_l_draw (aCons (eVar 0) (aCons (eK (.int 8)) aNil)))))))))
  (sSeq (sWhile (cBl (eBin opIn (eVar 11) (eVar 8))) (sSeq (sSet 11 (eBin opIx (eVar 3) (eVar 7)))
  (sSet 7 (eBin opAdd (eVar 7) (eK (.int 1))))) 1000)
  (sExpr (eLM (opBox fApp) (eVar 8) (aCons (eVar 11) aNil)))))))
  (sRet (eVar 8)))))))
def F_l_names : List D → Mem → Rs D := runF true b_l_names 10
/-! _law_pick -/
abbrev s_l_pick : Stmt := topS 55
theorem sc_l_pick : FnScope ["_law_deck_here", "_law_items"] ["_law_deck_here", "_law_items"] (defScope s_l_pick) := ⟨rfl, rfl, rfl, by decide +kernel, rfl, by decide +kernel, by decide +kernel⟩
def b_l_pick : SE := (sRet (eBin opIx (eVar 1) (eCall F_l_draw (aCons (eVar 0) (aCons (eCallB opLen (aCons (eVar 1) aNil)) aNil)))))
def F_l_pick : List D → Mem → Rs D := runF false b_l_pick 0
/-! _law_words -/
abbrev s_l_words : Stmt := topS 56
theorem sc_l_words : FnScope ["_law_words_here"] [] (defScope s_l_words) := ⟨rfl, rfl, rfl, by decide +kernel, rfl, by decide +kernel, by decide +kernel⟩
def b_l_words : SE := (sSeq (sSet 0 (eLst (aCons (eK (.str "first")) (aCons (eK (.str "last")) (aCons (eK (.str "ahead")) (aCons (eK (.str "behind")) (aCons (eK (.str "front")) (aCons (eK (.str "back")) (aCons (eK (.str "swap")) aNil)))))))))
  (sRet (eBin opAdd (eVar 0) (eLst (aCons (eK (.str "turn")) (aCons (eK (.str "lift")) (aCons (eK (.str "cut")) (aCons (eK (.str "pour")) (aCons (eK (.str "wrap")) (aCons (eK (.str "put")) aNil))))))))))
def F_l_words : List D → Mem → Rs D := runF false b_l_words 1
/-! _law_some_deed -/
abbrev s_l_some_deed : Stmt := topS 57
theorem sc_l_some_deed : FnScope ["_law_deck_here", "_law_names_here", "_law_word"] ["_law_deck_here", "_law_names_here"] (defScope s_l_some_deed) := ⟨rfl, rfl, rfl, by decide +kernel, rfl, by decide +kernel, by decide +kernel⟩
def b_l_some_deed : SE := (sSeq (sSet 2 (eCall F_l_pick (aCons (eVar 0) (aCons (eCall F_l_words aNil) aNil))))
  (sSeq (sIf (cBl (eBin opIn (eVar 2) (eTup (aCons (eK (.str "front")) (aCons (eK (.str "back")) (aCons (eK (.str "lift")) (aCons (eK (.str "cut")) aNil))))))) (sRet (eTup (aCons (eVar 2) (aCons (eCall F_l_pick (aCons (eVar 0) (aCons (eVar 1) aNil))) aNil)))) sNext)
  (sRet (eTup (aCons (eVar 2) (aCons (eCall F_l_pick (aCons (eVar 0) (aCons (eVar 1) aNil))) (aCons (eCall F_l_pick (aCons (eVar 0) (aCons (eVar 1) aNil))) aNil)))))))
def F_l_some_deed : List D → Mem → Rs D := runF false b_l_some_deed 1
/-! _law_odd -/
abbrev s_l_odd : Stmt := topS 58
theorem sc_l_odd : FnScope ["_law_deck_here", "_law_some"] ["_law_deck_here"] (defScope s_l_odd) := ⟨rfl, rfl, rfl, by decide +kernel, rfl, by decide +kernel, by decide +kernel⟩
def b_l_odd : SE := (sSeq (sSet 1 (eLst (aCons (eK .non) (aCons (eK (.bl true)) (aCons (eK (.bl false)) (aCons (eK (.int 0)) (aCons (eK (.int 1)) (aCons (eBin opSub (eK (.int 0)) (eK (.int 7))) (aCons (eBin opPow (eK (.int 10)) (eK (.int 39))) (aCons (eK (.str "")) (aCons (eK (.str "A")) (aCons (eK (.str "a ")) (aCons (eK (.str "+a")) (aCons (eK (.str "aaaaaaaaa")) (aCons (eK (.str "a1")) (aCons (eK (.str "z")) (aCons (eK (.str "zzzzzzzz")) aNil)))))))))))))))))
  (sSeq (sSet 1 (eBin opAdd (eVar 1) (eLst (aCons (eK (.str "`")) (aCons (eK (.str "a\n")) (aCons (eK (.str "{")) (aCons (eK (.str "a{")) (aCons (eLst (aCons (eK (.str "z")) (aCons (eTup aNil) aNil))) (aCons (eK (.dct [(.inr "a", .int 1), (.inr "b", .int 2)])) aNil)))))))))
  (sSeq (sSet 1 (eBin opAdd (eVar 1) (eLst (aCons (eTup (aCons (eK (.str "a")) aNil)) (aCons (eTup (aCons (eK (.str "z")) (aCons (eTup aNil) aNil))) (aCons (eLst (aCons (eK (.str "a")) aNil)) (aCons (eLst aNil) (aCons (eK (.dct [])) (aCons (eK (.dct [(.inr "a", .int 1)])) (aCons (eTup aNil) (aCons (eTup (aCons (eTup aNil) (aCons (eTup aNil) aNil))) (aCons (eTup (aCons (eTup (aCons (eK (.str "z")) (aCons (eTup aNil) aNil))) aNil)) (aCons (eK (.str "first")) aNil)))))))))))))
  (sRet (eCall F_l_pick (aCons (eVar 0) (aCons (eVar 1) aNil)))))))
def F_l_odd : List D → Mem → Rs D := runF false b_l_odd 1
/-! _law_odd_deed -/
abbrev s_l_odd_deed : Stmt := topS 59
theorem sc_l_odd_deed : FnScope ["_law_deck_here", "_law_names_here", "_law_way", "_law_word", "_law_many", "_law_items", "_law_k"] ["_law_deck_here", "_law_names_here"] (defScope s_l_odd_deed) := ⟨rfl, rfl, rfl, by decide +kernel, rfl, by decide +kernel, by decide +kernel⟩
def b_l_odd_deed : SE := (sSeq (sPar 2 3 (aCons (eCall F_l_draw (aCons (eVar 0) (aCons (eK (.int 8)) aNil))) (aCons (eCall F_l_pick (aCons (eVar 0) (aCons (eCall F_l_words aNil) aNil))) aNil)))
  (sSeq (sIf (cBl (eBin opEq (eVar 2) (eK (.int 0)))) (sSet 3 (eCall F_l_pick (aCons (eVar 0) (aCons (eLst (aCons (eK (.str "top")) (aCons (eK (.str "First")) (aCons (eK (.str "")) (aCons (eK (.str "wra")) (aCons (eK (.str "puts")) (aCons (eK (.str "in")) (aCons (eCall F_l_odd (aCons (eVar 0) aNil)) aNil)))))))) aNil)))) sNext)
  (sSeq (sSet 4 (eBin opAdd (eK (.int 1)) (eCallB opInt (aCons (eBin opNotIn (eVar 3) (eTup (aCons (eK (.str "front")) (aCons (eK (.str "back")) (aCons (eK (.str "lift")) (aCons (eK (.str "cut")) aNil)))))) aNil))))
  (sSeq (sIf (cBl (eBin opEq (eVar 2) (eK (.int 1)))) (sSet 4 (eCall F_l_draw (aCons (eVar 0) (aCons (eK (.int 5)) aNil)))) sNext)
  (sSeq (sSet 5 (eCompG true (iRange (aCons (eVar 4) aNil)) [6] (nName 6) cYes (eCall F_l_pick (aCons (eVar 0) (aCons (eVar 1) aNil)))))
  (sSeq (sIf (cAnd (cBl (eBin opEq (eVar 2) (eK (.int 2)))) (cBl (eBin opNe (eVar 5) (eLst aNil)))) (sAsg (nSub (eVar 5) (eCall F_l_draw (aCons (eVar 0) (aCons (eCallB opLen (aCons (eVar 5) aNil)) aNil)))) (eCall F_l_odd (aCons (eVar 0) aNil))) sNext)
  (sSeq (sIf (cBl (eBin opEq (eVar 2) (eK (.int 3)))) (sRet (eCall F_l_pick (aCons (eVar 0) (aCons (eLst (aCons (eBin opAdd (eLst (aCons (eVar 3) aNil)) (eVar 5)) (aCons (eCall F_l_odd (aCons (eVar 0) aNil)) (aCons (eTup aNil) (aCons (eTup (aCons (eVar 3) aNil)) aNil))))) aNil)))) sNext)
  (sRet (eBin opAdd (eTup (aCons (eVar 3) aNil)) (eCallB opTuple (aCons (eVar 5) aNil)))))))))))
def F_l_odd_deed : List D → Mem → Rs D := runF false b_l_odd_deed 5
/-! _law_is_name -/
abbrev s_l_is_name : Stmt := topS 60
theorem sc_l_is_name : FnScope ["_law_value", "_law_sign"] ["_law_value"] (defScope s_l_is_name) := ⟨rfl, rfl, rfl, by decide +kernel, rfl, by decide +kernel, by decide +kernel⟩
def b_l_is_name : SE := (sSeq (sIf (cOr (cNot (cBl (eCallB (opIsi ktX) (aCons (eVar 0) (aCons (eK (.ty "str")) aNil))))) (cOr (cBl (eBin opEq (eVar 0) (eK (.str "")))) (cBl (eBin opGt (eCallB opLen (aCons (eVar 0) aNil)) (eK (.int 8)))))) (sRet (eK (.bl false))) sNext)
  (sRet (eBin opEq (eCompG false (iStr (eVar 0)) [1] (nName 1) (cBl (eBin opNotIn (eVar 1) (eK (.str "abcdefghijklmnopqrstuvwxyz")))) (eVar 1)) (eLst aNil))))
def F_l_is_name : List D → Mem → Rs D := runF false b_l_is_name 1
/-! _law_deed_error -/
abbrev s_l_deed_error : Stmt := topS 61
theorem sc_l_deed_error : FnScope ["_law_value", "_law_wrong", "_law_item"] ["_law_value"] (defScope s_l_deed_error) := ⟨rfl, rfl, rfl, by decide +kernel, rfl, by decide +kernel, by decide +kernel⟩
def b_l_deed_error : SE := (sSeq (sIf (cOr (cNot (cBl (eCallB (opIsi ktX) (aCons (eVar 0) (aCons (eK (.ty "tuple")) aNil))))) (cOr (cBl (eBin opEq (eVar 0) (eTup aNil))) (cNot (cBl (eCallB (opIsi ktX) (aCons (eBin opIx (eVar 0) (eK (.int 0))) (aCons (eK (.ty "str")) aNil))))))) (sRet (eK (.str "deed"))) sNext)
  (sSeq (sIf (cBl (eBin opNotIn (eBin opIx (eVar 0) (eK (.int 0))) (eCall F_l_words aNil))) (sRet (eK (.str "deed"))) sNext)
  (sSeq (sIf (cBl (eBin opNe (eCallB opLen (aCons (eVar 0) aNil)) (eBin opSub (eK (.int 3)) (eCallB opInt (aCons (eBin opIn (eBin opIx (eVar 0) (eK (.int 0))) (eTup (aCons (eK (.str "front")) (aCons (eK (.str "back")) (aCons (eK (.str "lift")) (aCons (eK (.str "cut")) aNil)))))) aNil))))) (sRet (eK (.str "deed"))) sNext)
  (sSeq (sSet 1 (eCompG false (iSeq (eSl (eVar 0) (oSome (eK (.int 1))) oNone)) [2] (nName 2) (cNot (cBl (eCall F_l_is_name (aCons (eVar 2) aNil)))) (eVar 2)))
  (sRet (eIf (cBl (eBin opNe (eVar 1) (eLst aNil))) (eK (.str "name")) (eK .non)))))))
def F_l_deed_error : List D → Mem → Rs D := runF false b_l_deed_error 2
/-! _law_roles -/
abbrev s_l_roles : Stmt := topS 62
theorem sc_l_roles : FnScope ["_law_deeds", "_law_old", "_law_new", "_law_deed", "_law_made", "_law_k"] ["_law_deeds"] (defScope s_l_roles) := ⟨rfl, rfl, rfl, by decide +kernel, rfl, by decide +kernel, by decide +kernel⟩
def b_l_roles : SE := (sSeq (sPar 1 2 (aCons (eNew aNil) (aCons (eNew aNil) aNil)))
  (sSeq (sFor (iSeq (eVar 0)) (nName 3) (sSeq (sSet 4 (eDGet (eK (.dct [(.inr "wrap", .int 2), (.inr "put", .int 1)])) (eBin opIx (eVar 3) (eK (.int 0))) (eK (.int 0))))
  (sFor (iRange (aCons (eK (.int 1)) (aCons (eCallB opLen (aCons (eVar 3) aNil)) aNil))) (nName 5) (sIf (cBl (eBin opNotIn (eBin opIx (eVar 3) (eVar 5)) (eBin opAdd (eVar 1) (eVar 2)))) (sIf (cBl (eBin opEq (eVar 5) (eVar 4))) (sExpr (eLM (opBox fApp) (eVar 2) (aCons (eBin opIx (eVar 3) (eVar 5)) aNil))) (sExpr (eLM (opBox fApp) (eVar 1) (aCons (eBin opIx (eVar 3) (eVar 5)) aNil)))) sNext))))
  (sRet (eTup (aCons (eCallB opTuple (aCons (eCallB opSorted (aCons (eVar 1) aNil)) aNil)) (aCons (eCallB opTuple (aCons (eCallB opSorted (aCons (eVar 2) aNil)) aNil)) aNil))))))
def F_l_roles : List D → Mem → Rs D := runF false b_l_roles 5
/-! _law_script_error -/
abbrev s_l_script_error : Stmt := topS 63
theorem sc_l_script_error : FnScope ["_law_value", "_law_k", "_law_word", "_law_old", "_law_new"] ["_law_value"] (defScope s_l_script_error) := ⟨rfl, rfl, rfl, by decide +kernel, rfl, by decide +kernel, by decide +kernel⟩
def b_l_script_error : SE := (sSeq (sIf (cOr (cNot (cBl (eCallB (opIsi ktX) (aCons (eVar 0) (aCons (eK (.ty "tuple")) aNil))))) (cBl (eBin opGt (eCallB opLen (aCons (eVar 0) aNil)) (eK (.int 12))))) (sRet (eTup (aCons (eK .non) (aCons (eK (.str "script")) aNil)))) sNext)
  (sSeq (sFor (iRange (aCons (eCallB opLen (aCons (eVar 0) aNil)) aNil)) (nName 1) (sSeq (sSet 2 (eCall F_l_deed_error (aCons (eBin opIx (eVar 0) (eVar 1)) aNil)))
  (sIf (cBl (eBin opIsNot (eVar 2) (eK .non))) (sRet (eTup (aCons (eVar 1) (aCons (eVar 2) aNil)))) sNext)))
  (sSeq (sAsg (nTup 2 (nCons (nName 3) (nCons (nName 4) nNil))) (eCall F_l_roles (aCons (eVar 0) aNil)))
  (sSeq (sIf (cBl (eBin opGt (eCallB opLen (aCons (eVar 3) aNil)) (eK (.int 4)))) (sRet (eTup (aCons (eK .non) (aCons (eK (.str "old")) aNil)))) sNext)
  (sRet (eIf (cBl (eBin opGt (eCallB opLen (aCons (eVar 4) aNil)) (eK (.int 3)))) (eTup (aCons (eK .non) (aCons (eK (.str "new")) aNil))) (eK .non)))))))
def F_l_script_error : List D → Mem → Rs D := runF false b_l_script_error 4
/-! _law_told -/
abbrev s_l_told : Stmt := topS 64
theorem sc_l_told : FnScope ["_law_value", "_law_found", "e"] ["_law_value"] (defScope s_l_told) := ⟨rfl, rfl, rfl, by decide +kernel, rfl, by decide +kernel, by decide +kernel⟩
def b_l_told : SE := (sSeq (sTry exX (sSet 1 (mk_Script (aCons (eVar 0) aNil))) [((.own "BadScript"), (some 2), fun a dd cn => (sRet (eIf (cAnd (cBl (eCallB (opIsiE ktE a dd cn) (aCons (eVar 2) (aCons (eK (.cls "TwigError")) aNil)))) (cNot (cBl (eCallB (opIsiE ktE a dd cn) (aCons (eVar 2) (aCons (eK (.cls "BadDeed")) aNil)))))) (eLst (aCons (eXf xcX a dd cn "error" (eVar 2)) aNil)) (eK .non))))])
  (sRet (eIf (cBl (eBin opEq (eProp "Script" "row" (eVar 1)) (eVar 0))) (eLst aNil) (eK .non))))
def F_l_told : List D → Mem → Rs D := runF false b_l_told 2
/-! law -/
abbrev s_law : Stmt := topS 65
theorem sc_law : FnScope ["_law_script", "_law_deck_here", "_law_names_here", "_law_way", "_law_rare", "_law_few", "_law_value", "_law_k", "_law_deed", "_law_error", "_law_due"] ["_law_script"] (defScope s_law) := ⟨rfl, rfl, rfl, by decide +kernel, rfl, by decide +kernel, by decide +kernel⟩
def b_law : SE := (sSeq (sSet 1 (eCall F_l_deck (aCons (eVar 0) aNil)))
  (sSeq (sSet 2 (eCall F_l_names (aCons (eVar 1) (aCons (eK (.int 9)) aNil))))
  (sSeq (sPar 3 4 (aCons (eCall F_l_draw (aCons (eVar 1) (aCons (eK (.int 8)) aNil))) (aCons (eBin opAdd (eK (.int 1)) (eCall F_l_draw (aCons (eVar 1) (aCons (eK (.int 20)) aNil)))) aNil)))
  (sSeq (sSet 5 (eSl (eVar 2) oNone (oSome (eBin opAdd (eK (.int 1)) (eCall F_l_draw (aCons (eVar 1) (aCons (eK (.int 9)) aNil)))))))
  (sSeq (sSet 6 (eTup aNil))
  (sSeq (sFor (iRange (aCons (eCall F_l_draw (aCons (eVar 1) (aCons (eK (.int 15)) aNil))) aNil)) (nName 7) (sSeq (sSet 8 (eCall F_l_some_deed (aCons (eVar 1) (aCons (eVar 5) aNil))))
  (sSeq (sIf (cBl (eBin opEq (eCall F_l_draw (aCons (eVar 1) (aCons (eVar 4) aNil))) (eK (.int 0)))) (sSet 8 (eCall F_l_odd_deed (aCons (eVar 1) (aCons (eVar 5) aNil)))) sNext)
  (sSet 6 (eBin opAdd (eVar 6) (eTup (aCons (eVar 8) aNil)))))))
  (sSeq (sIf (cBl (eBin opEq (eVar 3) (eK (.int 1)))) (sSet 6 (eCall F_l_pick (aCons (eVar 1) (aCons (eLst (aCons (eCallB opList (aCons (eVar 6) aNil)) (aCons (eCall F_l_odd (aCons (eVar 1) aNil)) (aCons (mk0_Script) (aCons (mk_Script (aCons (eTup (aCons (eTup (aCons (eK (.str "cut")) (aCons (eBin opIx (eVar 2) (eK (.int 0))) aNil))) aNil)) aNil)) (aCons (eTup (aCons (eVar 6) aNil)) aNil)))))) aNil)))) sNext)
  (sSeq (sSet 9 (eK .non))
  (sSeq (sIf (cBl (eCallB (opIsi ktX) (aCons (eVar 6) (aCons (eK (.cls "Script")) aNil)))) (sSet 9 (eTup (aCons (eK .non) (aCons (eK (.str "script")) aNil)))) (sSet 9 (eCall F_l_script_error (aCons (eVar 6) aNil))))
  (sSeq (sSet 10 (eIf (cBl (eBin opIs (eVar 9) (eK .non))) (eLst aNil) (eLst (aCons (eVar 9) aNil))))
  (sRet (eBin opEq (eCallB opRepr (aCons (eLst (aCons (eCall F_l_told (aCons (eVar 6) aNil)) (aCons (eCall F_l_told (aCons (eVar 6) aNil)) aNil))) aNil)) (eCallB opRepr (aCons (eLst (aCons (eVar 10) (aCons (eVar 10) aNil))) aNil))))))))))))))
def F_law : List D → Mem → Rs D := runF false b_law 10
def fa : List He.Fa := [.free "str", .free "isinstance", .free "len", .int "MAX_LETTERS" 8, .str "LETTERS" "abcdefghijklmnopqrstuvwxyz", .free "all", .free "tuple", .glo "WORDS", .glo "SINGLE", .glo "is_name", .free "enumerate", .glo "makes", .glo "roles", .free "sorted", .int "MAX_DEEDS" 12, .glo "deed_error", .glo "old_names", .int "MAX_OLD" 4, .glo "new_names", .int "MAX_NEW" 3, .glo "script_error", .free "abs", .free "int", .glo "_law_draw", .free "range", .glo "_law_name", .glo "_law_words", .glo "_law_pick", .glo "_law_odd", .glo "_law_is_name", .glo "_law_deed_error", .glo "_law_roles", .glo "TwigError", .glo "BadDeed", .glo "BadScript", .glo "_law_deck", .glo "_law_names", .glo "_law_some_deed", .glo "_law_odd_deed", .free "list", .glo "Script", .glo "_law_script_error", .glo "_law_told", .free "repr", .glo "law", .exm "BadScript" "BadScript" true, .noat "BadScript" "error", .cls "Script", .noat "Script" "row", .mkr "Script"]
def fn : List DefA := [⟨fun K => He.ga K "is_name", "is_name", "is_name", defArgs s_is_name, defBody s_is_name, defScope s_is_name, []⟩, ⟨fun K => He.ga K "deed_error", "deed_error", "deed_error", defArgs s_deed_error, defBody s_deed_error, defScope s_deed_error, []⟩, ⟨fun K => He.ga K "makes", "makes", "makes", defArgs s_makes, defBody s_makes, defScope s_makes, []⟩, ⟨fun K => He.ga K "roles", "roles", "roles", defArgs s_roles, defBody s_roles, defScope s_roles, []⟩, ⟨fun K => He.ga K "old_names", "old_names", "old_names", defArgs s_old_names, defBody s_old_names, defScope s_old_names, []⟩, ⟨fun K => He.ga K "new_names", "new_names", "new_names", defArgs s_new_names, defBody s_new_names, defScope s_new_names, []⟩, ⟨fun K => He.ga K "script_error", "script_error", "script_error", defArgs s_script_error, defBody s_script_error, defScope s_script_error, []⟩, ⟨fun K => He.ma K (He.ga K "BadScript") "__init__", "__init__", "BadScript.__init__", defArgs s_BadScript_init, defBody s_BadScript_init, defScope s_BadScript_init, []⟩, ⟨fun K => He.ma K (He.ga K "Script") "__init__", "__init__", "Script.__init__", defArgs s_Script_init, defBody s_Script_init, defScope s_Script_init, [.adr (He.dflAt ("Script", some "__init__") 0)]⟩, ⟨getAd "Script" "deeds", "deeds", "Script.deeds", defArgs s_Script_deeds, defBody s_Script_deeds, defScope s_Script_deeds, []⟩, ⟨fun K => He.ga K "_law_deck", "_law_deck", "_law_deck", defArgs s_l_deck, defBody s_l_deck, defScope s_l_deck, []⟩, ⟨fun K => He.ga K "_law_draw", "_law_draw", "_law_draw", defArgs s_l_draw, defBody s_l_draw, defScope s_l_draw, []⟩, ⟨fun K => He.ga K "_law_name", "_law_name", "_law_name", defArgs s_l_name, defBody s_l_name, defScope s_l_name, []⟩, ⟨fun K => He.ga K "_law_names", "_law_names", "_law_names", defArgs s_l_names, defBody s_l_names, defScope s_l_names, []⟩, ⟨fun K => He.ga K "_law_pick", "_law_pick", "_law_pick", defArgs s_l_pick, defBody s_l_pick, defScope s_l_pick, []⟩, ⟨fun K => He.ga K "_law_words", "_law_words", "_law_words", defArgs s_l_words, defBody s_l_words, defScope s_l_words, []⟩, ⟨fun K => He.ga K "_law_some_deed", "_law_some_deed", "_law_some_deed", defArgs s_l_some_deed, defBody s_l_some_deed, defScope s_l_some_deed, []⟩, ⟨fun K => He.ga K "_law_odd", "_law_odd", "_law_odd", defArgs s_l_odd, defBody s_l_odd, defScope s_l_odd, []⟩, ⟨fun K => He.ga K "_law_odd_deed", "_law_odd_deed", "_law_odd_deed", defArgs s_l_odd_deed, defBody s_l_odd_deed, defScope s_l_odd_deed, []⟩, ⟨fun K => He.ga K "_law_is_name", "_law_is_name", "_law_is_name", defArgs s_l_is_name, defBody s_l_is_name, defScope s_l_is_name, []⟩, ⟨fun K => He.ga K "_law_deed_error", "_law_deed_error", "_law_deed_error", defArgs s_l_deed_error, defBody s_l_deed_error, defScope s_l_deed_error, []⟩, ⟨fun K => He.ga K "_law_roles", "_law_roles", "_law_roles", defArgs s_l_roles, defBody s_l_roles, defScope s_l_roles, []⟩, ⟨fun K => He.ga K "_law_script_error", "_law_script_error", "_law_script_error", defArgs s_l_script_error, defBody s_l_script_error, defScope s_l_script_error, []⟩, ⟨fun K => He.ga K "_law_told", "_law_told", "_law_told", defArgs s_l_told, defBody s_l_told, defScope s_l_told, []⟩, ⟨fun K => He.ga K "law", "law", "law", defArgs s_law, defBody s_law, defScope s_law, []⟩]
def bs : List FB := [fun K => He.tupB K "WORDS" [.str "first", .str "last", .str "ahead", .str "behind", .str "front", .str "back", .str "swap", .str "turn", .str "lift", .str "cut", .str "pour", .str "wrap", .str "put"], fun K => He.tupB K "SINGLE" [.str "front", .str "back", .str "lift", .str "cut"], fun K => ["str", "int", "bool", "tuple"].all fun b => decide (PySem.W.kitOne K (.ref (He.ga K "Script")) (.type b) = some false), fun K => ["NoneType", "bool", "int", "str", "tuple", "list", "dict"].all fun b => decide (PySem.W.kitOne K (.type b) (.ref (He.ga K "Script")) = some false), fun K => decide (PySem.W.kitOne K (.ref (He.ga K "Script")) (.ref (He.ga K "Script")) = some true), insB "Script", fun K => decide (PySem.W.kitOne K (.ref (He.ga K "BadScript")) (.ref (He.ga K "TwigError")) = some true), fun K => decide (PySem.W.kitOne K (.ref (He.ga K "BadScript")) (.ref (He.ga K "BadDeed")) = some false), excB "BadScript", oexB "BadScript", oinB "BadScript", propB "Script" "deeds", tupAd (He.dflAt ("Script", some "__init__") 0) []]
abbrev EnvX (K : PySem.W.Frag) (mg : Str → Option Value) : Prop := EnvK fa fn bs K mg
section
variable {P : Program} {w : World} {K : PySem.W.Frag} {mg : Str → Option Value} {base : Heap}

theorem isOwn_ok {C : Str} (h : isOwn C = true) : C = "Script" := of_decide_eq_true h
theorem ktX_ok (Ev : EnvX K mg) : KtOk K ktX where
  hk := fun t c b h => by
    match t, c, h with
    | .bt a, .bt d, h => exact ktn_of h
    | .own C, .bt d, h =>
      simp only [ktX] at h
      split at h
      · rename_i q
        obtain ⟨q1, q2⟩ := He.ba q
        rw [isOwn_ok q1]
        cases h
        exact of_decide_eq_true (List.all_eq_true.mp (Ev.own 2) d (List.contains_iff_mem.mp q2))
      · cases h
    | .bt a, .own C, h =>
      simp only [ktX] at h
      split at h
      · rename_i q
        obtain ⟨q1, q2⟩ := He.ba q
        rw [isOwn_ok q1]
        cases h
        exact of_decide_eq_true (List.all_eq_true.mp (Ev.own 3) a (List.contains_iff_mem.mp q2))
      · cases h
    | .own C, .own D, h =>
      simp only [ktX] at h
      split at h
      · rename_i q
        obtain ⟨q1, q2⟩ := He.ba q
        rw [isOwn_ok q1, isOwn_ok q2]
        cases h
        exact of_decide_eq_true (Ev.own 4)
      · cases h
  hi := fun C c b h => by
    have key : isOwn C = true := by
      cases c <;> simp only [ktX] at h <;> split at h <;> first | (cases h; done) | skip
      all_goals
        rename_i q
        exact (He.ba q).1
    rw [isOwn_ok key]
    exact insB_ok (Ev.own 5)
theorem exX_ok (Ev : EnvX K mg) : ExOk K exX := fun t c b h => by
  unfold exX at h
  split at h
  · rename_i q
    obtain ⟨rfl, rfl⟩ := q
    cases h
    exact He.exm_ok (Ev.fact 45)
  · cases h
theorem ktE_ok (Ev : EnvX K mg) : KtE K ktE := fun t c b h => by
  unfold ktE at h
  split at h
  · rename_i q
    subst q
    refine ⟨?_, _, rfl, excB_ok (Ev.own 8)⟩
    split at h
    · rename_i q
      subst q
      cases h
      exact of_decide_eq_true (Ev.own 6)
    · split at h
      · rename_i q
        subst q
        cases h
        exact of_decide_eq_true (Ev.own 7)
      · cases h
  · cases h
theorem xcX_ok (Ev : EnvX K mg) : XcOk K xcX := fun c n h => by
  obtain ⟨rfl, rfl⟩ := of_decide_eq_true h
  exact ⟨_, rfl, excB_xf (Ev.own 8), He.noat_ok (Ev.fact 46)⟩
theorem ncX_ok (Ev : EnvX K mg) : NcOk K ncX := fun C n h => by
  obtain ⟨h1, h2⟩ := He.ba h
  rw [isOwn_ok h1, of_decide_eq_true h2]
  exact ⟨He.cls_ok (Ev.fact 47), He.noat_ok (Ev.fact 48)⟩

theorem fn_is_name (Ev : EnvX K mg) {f : Addr} {fd : FuncData} {dvs : List V} (G : FunD K "is_name" "is_name" (defArgs s_is_name) (defBody s_is_name) (defScope s_is_name) dvs [] f fd) : FnOk P w K mg base (L2.CX P w) 14 f fd ["value"] (spD ⟨P, w, K⟩ 1 F_is_name) := by
  refine fnR (k := 13) false G sc_is_name fun cdv A outer s0 H E hr => ?_
  have hN := sc_is_name.nd
  have tk : L2.Takes (CxB P w K mg base ["value", "sign"] "is_name" (defScope s_is_name) f cdv A outer s0 H E) (WE E) := takes_of rfl rfl rfl rfl
  have hp : PassesOwn (model P w) (CxB P w K mg base ["value", "sign"] "is_name" (defScope s_is_name) f cdv A outer s0 H E).A (CxB P w K mg base ["value", "sign"] "is_name" (defScope s_is_name) f cdv A outer s0 H E).env (CxB P w K mg base ["value", "sign"] "is_name" (defScope s_is_name) f cdv A outer s0 H E).xe := passes_of rfl
  have hu4 : (CxB P w K mg base ["value", "sign"] "is_name" (defScope s_is_name) f cdv A outer s0 H E).A.units + 400 < cLine := units4 hr (by decide)
  have hu2 : (CxB P w K mg base ["value", "sign"] "is_name" (defScope s_is_name) f cdv A outer s0 H E).A.units + 200 < cLine := by omega
  have hu1 : (CxB P w K mg base ["value", "sign"] "is_name" (defScope s_is_name) f cdv A outer s0 H E).A.units + 1 < cLine := by omega
  have hc : (CxB P w K mg base ["value", "sign"] "is_name" (defScope s_is_name) f cdv A outer s0 H E).calm = true := rfl
  exact (dss_cons (ds_if (dt_w (dw_or (dt_not (dt_bl (dx_callB (dc_isi (ktX_ok Ev)) rfl (Ev.free 1) rfl (da_cons (dx_var 0) (da_cons (dx_bltn (v := .ty "str") rfl (Ev.free 0) rfl rfl rfl) da_nil))))) (dw_or1 (dt_not (dt_chain do_le do_le dx_int (dx_callB dc_len rfl (Ev.free 2) rfl (da_cons (dx_var 0) da_nil)) (dx_globO (v := .int 8) rfl (Ev.int 3) rfl)))))) (dss_one (ds_ret dx_bl)) dss_nil)
  (dss_one (ds_ret (dx_callB (dc_all hc) rfl (Ev.free 5) rfl (da_cons (dx_comp [("sign", 1)] hc hN (di_str (dx_var 0)) (blkO (N := ["value", "sign"]) (sc := defScope s_is_name) rfl rfl (by decide +kernel)) (fun _ _ _ _ _ => (dg_name (i := 1) hN)) (fun _ _ _ _ _ => dts_nil) (fun _ _ _ _ _ => (dx_cmp (do_in hu4) (dx_var 1) (dx_globO (v := .str "abcdefghijklmnopqrstuvwxyz") rfl (Ev.str 4) rfl)))) da_nil)))))
theorem ok_is_name (Ev : EnvX K mg) : OkF P w K mg base 14 (He.ga K "is_name") ["value"] (spD ⟨P, w, K⟩ 1 F_is_name) := by
  obtain ⟨fd, G⟩ := Ev.def_ 0
  exact ⟨⟨fd, fn_is_name Ev G, G.bindsN fun _ _ _ _ _ _ us hl => match us, hl with | [_], _ => rfl⟩, G.kp⟩
theorem fn_deed_error (Ev : EnvX K mg) {f : Addr} {fd : FuncData} {dvs : List V} (G : FunD K "deed_error" "deed_error" (defArgs s_deed_error) (defBody s_deed_error) (defScope s_deed_error) dvs [] f fd) : FnOk P w K mg base (L2.CX P w) 15 f fd ["value"] (spD ⟨P, w, K⟩ 1 F_deed_error) := by
  refine fnR (k := 14) false G sc_deed_error fun cdv A outer s0 H E hr => ?_
  have hN := sc_deed_error.nd
  have tk : L2.Takes (CxB P w K mg base ["value", "item"] "deed_error" (defScope s_deed_error) f cdv A outer s0 H E) (WE E) := takes_of rfl rfl rfl rfl
  have hp : PassesOwn (model P w) (CxB P w K mg base ["value", "item"] "deed_error" (defScope s_deed_error) f cdv A outer s0 H E).A (CxB P w K mg base ["value", "item"] "deed_error" (defScope s_deed_error) f cdv A outer s0 H E).env (CxB P w K mg base ["value", "item"] "deed_error" (defScope s_deed_error) f cdv A outer s0 H E).xe := passes_of rfl
  have hu4 : (CxB P w K mg base ["value", "item"] "deed_error" (defScope s_deed_error) f cdv A outer s0 H E).A.units + 400 < cLine := units4 hr (by decide)
  have hu2 : (CxB P w K mg base ["value", "item"] "deed_error" (defScope s_deed_error) f cdv A outer s0 H E).A.units + 200 < cLine := by omega
  have hu1 : (CxB P w K mg base ["value", "item"] "deed_error" (defScope s_deed_error) f cdv A outer s0 H E).A.units + 1 < cLine := by omega
  have hc : (CxB P w K mg base ["value", "item"] "deed_error" (defScope s_deed_error) f cdv A outer s0 H E).calm = true := rfl
  exact (dss_cons (ds_if (dt_w (dw_or (dt_not (dt_bl (dx_callB (dc_isi (ktX_ok Ev)) rfl (Ev.free 1) rfl (da_cons (dx_var 0) (da_cons (dx_bltn (v := .ty "tuple") rfl (Ev.free 6) rfl rfl rfl) da_nil))))) (dw_or (dt_cmp (do_eq hu2) (dx_var 0) (dx_tup da_nil al_nil)) (dw_or1 (dt_cmp (do_notin hu4) (dx_ix (dx_var 0) dx_int) (dx_gtupO (vs := [.str "first", .str "last", .str "ahead", .str "behind", .str "front", .str "back", .str "swap", .str "turn", .str "lift", .str "cut", .str "pour", .str "wrap", .str "put"]) rfl (Ev.glo 7) (Ev.own 0) rfl)))))) (dss_one (ds_ret dx_str)) dss_nil)
  (dss_cons (ds_if (dt_cmp (do_ne hu2) (dx_callB dc_len rfl (Ev.free 2) rfl (da_cons (dx_var 0) da_nil)) (dx_if (dt_cmp (do_in hu4) (dx_ix (dx_var 0) dx_int) (dx_gtupO (vs := [.str "front", .str "back", .str "lift", .str "cut"]) rfl (Ev.glo 8) (Ev.own 1) rfl)) dx_int dx_int)) (dss_one (ds_ret dx_str)) dss_nil)
  (dss_one (ds_ret (dx_if (dt_tru (dx_callB (dc_all hc) rfl (Ev.free 5) rfl (da_cons (dx_comp [("item", 1)] hc hN (di_seq (dx_sl (dx_var 0) (do_some dx_int) do_none)) (blkO (N := ["value", "item"]) (sc := defScope s_deed_error) rfl rfl (by decide +kernel)) (fun _ _ _ _ _ => (dg_name (i := 1) hN)) (fun _ _ _ _ _ => dts_nil) (fun _ _ _ _ _ => (dx_callO (ok_is_name Ev) (hr.mono (by decide)) (Ev.glo 9) takes0 (da_cons (dx_var 1) da_nil) (al_cons al_nil)))) da_nil))) dx_non dx_str)))))
theorem ok_deed_error (Ev : EnvX K mg) : OkF P w K mg base 15 (He.ga K "deed_error") ["value"] (spD ⟨P, w, K⟩ 1 F_deed_error) := by
  obtain ⟨fd, G⟩ := Ev.def_ 1
  exact ⟨⟨fd, fn_deed_error Ev G, G.bindsN fun _ _ _ _ _ _ us hl => match us, hl with | [_], _ => rfl⟩, G.kp⟩
theorem fn_makes (Ev : EnvX K mg) {f : Addr} {fd : FuncData} {dvs : List V} (G : FunD K "makes" "makes" (defArgs s_makes) (defBody s_makes) (defScope s_makes) dvs [] f fd) : FnOk P w K mg base (L2.CX P w) 14 f fd ["deed", "k"] (spD ⟨P, w, K⟩ 2 F_makes) := by
  refine fnR (k := 13) false G sc_makes fun cdv A outer s0 H E hr => ?_
  have hN := sc_makes.nd
  have tk : L2.Takes (CxB P w K mg base ["deed", "k"] "makes" (defScope s_makes) f cdv A outer s0 H E) (WE E) := takes_of rfl rfl rfl rfl
  have hp : PassesOwn (model P w) (CxB P w K mg base ["deed", "k"] "makes" (defScope s_makes) f cdv A outer s0 H E).A (CxB P w K mg base ["deed", "k"] "makes" (defScope s_makes) f cdv A outer s0 H E).env (CxB P w K mg base ["deed", "k"] "makes" (defScope s_makes) f cdv A outer s0 H E).xe := passes_of rfl
  have hu4 : (CxB P w K mg base ["deed", "k"] "makes" (defScope s_makes) f cdv A outer s0 H E).A.units + 400 < cLine := units4 hr (by decide)
  have hu2 : (CxB P w K mg base ["deed", "k"] "makes" (defScope s_makes) f cdv A outer s0 H E).A.units + 200 < cLine := by omega
  have hu1 : (CxB P w K mg base ["deed", "k"] "makes" (defScope s_makes) f cdv A outer s0 H E).A.units + 1 < cLine := by omega
  have hc : (CxB P w K mg base ["deed", "k"] "makes" (defScope s_makes) f cdv A outer s0 H E).calm = true := rfl
  exact (dss_one (ds_ret (dx_or (dx_and (dx_cmp (do_eq hu2) (dx_ix (dx_var 0) dx_int) dx_str) (dx_one (dx_cmp (do_eq hu2) (dx_var 1) dx_int))) (dx_one (dx_and (dx_cmp (do_eq hu2) (dx_ix (dx_var 0) dx_int) dx_str) (dx_one (dx_cmp (do_eq hu2) (dx_var 1) dx_int)))))))
theorem ok_makes (Ev : EnvX K mg) : OkF P w K mg base 14 (He.ga K "makes") ["deed", "k"] (spD ⟨P, w, K⟩ 2 F_makes) := by
  obtain ⟨fd, G⟩ := Ev.def_ 2
  exact ⟨⟨fd, fn_makes Ev G, G.bindsN fun _ _ _ _ _ _ us hl => match us, hl with | [_, _], _ => rfl⟩, G.kp⟩
theorem fn_roles (Ev : EnvX K mg) {f : Addr} {fd : FuncData} {dvs : List V} (G : FunD K "roles" "roles" (defArgs s_roles) (defBody s_roles) (defScope s_roles) dvs [] f fd) : FnOk P w K mg base (L2.CX P w) 15 f fd ["deeds"] (spD ⟨P, w, K⟩ 1 F_roles) := by
  refine fnR (k := 14) true G sc_roles fun cdv A outer s0 H E hr => ?_
  have hN := sc_roles.nd
  have tk : L2.Takes (CxB P w K mg base ["deeds", "found", "deed", "k", "item"] "roles" (defScope s_roles) f cdv A outer s0 H E) (WE E) := takes_of rfl rfl rfl rfl
  have hp : PassesOwn (model P w) (CxB P w K mg base ["deeds", "found", "deed", "k", "item"] "roles" (defScope s_roles) f cdv A outer s0 H E).A (CxB P w K mg base ["deeds", "found", "deed", "k", "item"] "roles" (defScope s_roles) f cdv A outer s0 H E).env (CxB P w K mg base ["deeds", "found", "deed", "k", "item"] "roles" (defScope s_roles) f cdv A outer s0 H E).xe := passes_of rfl
  have hu4 : (CxB P w K mg base ["deeds", "found", "deed", "k", "item"] "roles" (defScope s_roles) f cdv A outer s0 H E).A.units + 400 < cLine := units4 hr (by decide)
  have hu2 : (CxB P w K mg base ["deeds", "found", "deed", "k", "item"] "roles" (defScope s_roles) f cdv A outer s0 H E).A.units + 200 < cLine := by omega
  have hu1 : (CxB P w K mg base ["deeds", "found", "deed", "k", "item"] "roles" (defScope s_roles) f cdv A outer s0 H E).A.units + 1 < cLine := by omega
  have hc : (CxB P w K mg base ["deeds", "found", "deed", "k", "item"] "roles" (defScope s_roles) f cdv A outer s0 H E).calm = true := rfl
  exact (dss_cons (ds_set (i := 1) hN dx_newD)
  (dss_cons (ds_for hp hc (di_seq (dx_var 0)) (dg_name (i := 2) hN) nx_name (dss_one (ds_for hp hc (di_enum rfl (Ev.free 10) (da_cons (dx_var 2) da_nil) (al_cons al_nil)) (dg_tup hc (dgs_cons (dg_name (i := 3) hN) (dgs_cons (dg_name (i := 4) hN) dgs_nil))) (nx_tup (nxs_cons nx_name (nxs_cons nx_name nxs_nil))) (dss_one (ds_if (dt_cmp do_gt (dx_var 3) dx_int) (dss_one (ds_expr (dx_setd (dx_var 1) (dx_var 4) (dx_callO (ok_makes Ev) (hr.mono (by decide)) (Ev.glo 11) tk (da_cons (dx_var 2) (da_cons (dx_var 3) da_nil)) (al_cons (al_cons al_nil)))))) dss_nil)))))
  (dss_one (ds_ret (dx_var 1)))))
theorem ok_roles (Ev : EnvX K mg) : OkF P w K mg base 15 (He.ga K "roles") ["deeds"] (spD ⟨P, w, K⟩ 1 F_roles) := by
  obtain ⟨fd, G⟩ := Ev.def_ 3
  exact ⟨⟨fd, fn_roles Ev G, G.bindsN fun _ _ _ _ _ _ us hl => match us, hl with | [_], _ => rfl⟩, G.kp⟩
theorem fn_old_names (Ev : EnvX K mg) {f : Addr} {fd : FuncData} {dvs : List V} (G : FunD K "old_names" "old_names" (defArgs s_old_names) (defBody s_old_names) (defScope s_old_names) dvs [] f fd) : FnOk P w K mg base (L2.CX P w) 16 f fd ["script"] (spD ⟨P, w, K⟩ 1 F_old_names) := by
  refine fnR (k := 15) false G sc_old_names fun cdv A outer s0 H E hr => ?_
  have hN := sc_old_names.nd
  have tk : L2.Takes (CxB P w K mg base ["script", "name", "is_new"] "old_names" (defScope s_old_names) f cdv A outer s0 H E) (WE E) := takes_of rfl rfl rfl rfl
  have hp : PassesOwn (model P w) (CxB P w K mg base ["script", "name", "is_new"] "old_names" (defScope s_old_names) f cdv A outer s0 H E).A (CxB P w K mg base ["script", "name", "is_new"] "old_names" (defScope s_old_names) f cdv A outer s0 H E).env (CxB P w K mg base ["script", "name", "is_new"] "old_names" (defScope s_old_names) f cdv A outer s0 H E).xe := passes_of rfl
  have hu4 : (CxB P w K mg base ["script", "name", "is_new"] "old_names" (defScope s_old_names) f cdv A outer s0 H E).A.units + 400 < cLine := units4 hr (by decide)
  have hu2 : (CxB P w K mg base ["script", "name", "is_new"] "old_names" (defScope s_old_names) f cdv A outer s0 H E).A.units + 200 < cLine := by omega
  have hu1 : (CxB P w K mg base ["script", "name", "is_new"] "old_names" (defScope s_old_names) f cdv A outer s0 H E).A.units + 1 < cLine := by omega
  have hc : (CxB P w K mg base ["script", "name", "is_new"] "old_names" (defScope s_old_names) f cdv A outer s0 H E).calm = true := rfl
  exact (dss_one (ds_ret (dx_callTy dc_tuple rfl (Ev.free 6) rfl (da_cons (dx_callB dc_sorted rfl (Ev.free 13) rfl (da_cons (dx_comp [("name", 1), ("is_new", 2)] hc hN (di_items (dx_callO (ok_roles Ev) (hr.mono (by decide)) (Ev.glo 12) tk (da_cons (dx_var 0) da_nil) (al_cons al_nil))) (blkO (N := ["script", "name", "is_new"]) (sc := defScope s_old_names) rfl rfl (by decide +kernel)) (fun _ _ _ _ _ => (dg_tup hc (dgs_cons (dg_name (i := 1) hN) (dgs_cons (dg_name (i := 2) hN) dgs_nil)))) (fun _ _ _ _ _ => (dts_one (dt_not (dt_tru (dx_var 2))))) (fun _ _ _ _ _ => (dx_var 1))) da_nil)) da_nil))))
theorem ok_old_names (Ev : EnvX K mg) : OkF P w K mg base 16 (He.ga K "old_names") ["script"] (spD ⟨P, w, K⟩ 1 F_old_names) := by
  obtain ⟨fd, G⟩ := Ev.def_ 4
  exact ⟨⟨fd, fn_old_names Ev G, G.bindsN fun _ _ _ _ _ _ us hl => match us, hl with | [_], _ => rfl⟩, G.kp⟩
theorem fn_new_names (Ev : EnvX K mg) {f : Addr} {fd : FuncData} {dvs : List V} (G : FunD K "new_names" "new_names" (defArgs s_new_names) (defBody s_new_names) (defScope s_new_names) dvs [] f fd) : FnOk P w K mg base (L2.CX P w) 16 f fd ["script"] (spD ⟨P, w, K⟩ 1 F_new_names) := by
  refine fnR (k := 15) false G sc_new_names fun cdv A outer s0 H E hr => ?_
  have hN := sc_new_names.nd
  have tk : L2.Takes (CxB P w K mg base ["script", "name", "is_new"] "new_names" (defScope s_new_names) f cdv A outer s0 H E) (WE E) := takes_of rfl rfl rfl rfl
  have hp : PassesOwn (model P w) (CxB P w K mg base ["script", "name", "is_new"] "new_names" (defScope s_new_names) f cdv A outer s0 H E).A (CxB P w K mg base ["script", "name", "is_new"] "new_names" (defScope s_new_names) f cdv A outer s0 H E).env (CxB P w K mg base ["script", "name", "is_new"] "new_names" (defScope s_new_names) f cdv A outer s0 H E).xe := passes_of rfl
  have hu4 : (CxB P w K mg base ["script", "name", "is_new"] "new_names" (defScope s_new_names) f cdv A outer s0 H E).A.units + 400 < cLine := units4 hr (by decide)
  have hu2 : (CxB P w K mg base ["script", "name", "is_new"] "new_names" (defScope s_new_names) f cdv A outer s0 H E).A.units + 200 < cLine := by omega
  have hu1 : (CxB P w K mg base ["script", "name", "is_new"] "new_names" (defScope s_new_names) f cdv A outer s0 H E).A.units + 1 < cLine := by omega
  have hc : (CxB P w K mg base ["script", "name", "is_new"] "new_names" (defScope s_new_names) f cdv A outer s0 H E).calm = true := rfl
  exact (dss_one (ds_ret (dx_callTy dc_tuple rfl (Ev.free 6) rfl (da_cons (dx_callB dc_sorted rfl (Ev.free 13) rfl (da_cons (dx_comp [("name", 1), ("is_new", 2)] hc hN (di_items (dx_callO (ok_roles Ev) (hr.mono (by decide)) (Ev.glo 12) tk (da_cons (dx_var 0) da_nil) (al_cons al_nil))) (blkO (N := ["script", "name", "is_new"]) (sc := defScope s_new_names) rfl rfl (by decide +kernel)) (fun _ _ _ _ _ => (dg_tup hc (dgs_cons (dg_name (i := 1) hN) (dgs_cons (dg_name (i := 2) hN) dgs_nil)))) (fun _ _ _ _ _ => (dts_one (dt_tru (dx_var 2)))) (fun _ _ _ _ _ => (dx_var 1))) da_nil)) da_nil))))
theorem ok_new_names (Ev : EnvX K mg) : OkF P w K mg base 16 (He.ga K "new_names") ["script"] (spD ⟨P, w, K⟩ 1 F_new_names) := by
  obtain ⟨fd, G⟩ := Ev.def_ 5
  exact ⟨⟨fd, fn_new_names Ev G, G.bindsN fun _ _ _ _ _ _ us hl => match us, hl with | [_], _ => rfl⟩, G.kp⟩
theorem fn_script_error (Ev : EnvX K mg) {f : Addr} {fd : FuncData} {dvs : List V} (G : FunD K "script_error" "script_error" (defArgs s_script_error) (defBody s_script_error) (defScope s_script_error) dvs [] f fd) : FnOk P w K mg base (L2.CX P w) 17 f fd ["value"] (spD ⟨P, w, K⟩ 1 F_script_error) := by
  refine fnR (k := 16) false G sc_script_error fun cdv A outer s0 H E hr => ?_
  have hN := sc_script_error.nd
  have tk : L2.Takes (CxB P w K mg base ["value", "index", "deed", "word"] "script_error" (defScope s_script_error) f cdv A outer s0 H E) (WE E) := takes_of rfl rfl rfl rfl
  have hp : PassesOwn (model P w) (CxB P w K mg base ["value", "index", "deed", "word"] "script_error" (defScope s_script_error) f cdv A outer s0 H E).A (CxB P w K mg base ["value", "index", "deed", "word"] "script_error" (defScope s_script_error) f cdv A outer s0 H E).env (CxB P w K mg base ["value", "index", "deed", "word"] "script_error" (defScope s_script_error) f cdv A outer s0 H E).xe := passes_of rfl
  have hu4 : (CxB P w K mg base ["value", "index", "deed", "word"] "script_error" (defScope s_script_error) f cdv A outer s0 H E).A.units + 400 < cLine := units4 hr (by decide)
  have hu2 : (CxB P w K mg base ["value", "index", "deed", "word"] "script_error" (defScope s_script_error) f cdv A outer s0 H E).A.units + 200 < cLine := by omega
  have hu1 : (CxB P w K mg base ["value", "index", "deed", "word"] "script_error" (defScope s_script_error) f cdv A outer s0 H E).A.units + 1 < cLine := by omega
  have hc : (CxB P w K mg base ["value", "index", "deed", "word"] "script_error" (defScope s_script_error) f cdv A outer s0 H E).calm = true := rfl
  exact (dss_cons (ds_if (dt_w (dw_or (dt_not (dt_bl (dx_callB (dc_isi (ktX_ok Ev)) rfl (Ev.free 1) rfl (da_cons (dx_var 0) (da_cons (dx_bltn (v := .ty "tuple") rfl (Ev.free 6) rfl rfl rfl) da_nil))))) (dw_or1 (dt_cmp do_gt (dx_callB dc_len rfl (Ev.free 2) rfl (da_cons (dx_var 0) da_nil)) (dx_globO (v := .int 12) rfl (Ev.int 14) rfl))))) (dss_one (ds_ret (dx_tup (da_cons dx_non (da_cons dx_str da_nil)) (al_cons (al_cons al_nil))))) dss_nil)
  (dss_cons (ds_for hp hc (di_enum rfl (Ev.free 10) (da_cons (dx_var 0) da_nil) (al_cons al_nil)) (dg_tup hc (dgs_cons (dg_name (i := 1) hN) (dgs_cons (dg_name (i := 2) hN) dgs_nil))) (nx_tup (nxs_cons nx_name (nxs_cons nx_name nxs_nil))) (dss_cons (ds_set (i := 3) hN (dx_callO (ok_deed_error Ev) (hr.mono (by decide)) (Ev.glo 15) tk (da_cons (dx_var 2) da_nil) (al_cons al_nil)))
  (dss_one (ds_if (dt_cmp do_isnot (dx_var 3) dx_non) (dss_one (ds_ret (dx_tup (da_cons (dx_var 1) (da_cons (dx_var 3) da_nil)) (al_cons (al_cons al_nil))))) dss_nil))))
  (dss_cons (ds_if (dt_cmp do_gt (dx_callB dc_len rfl (Ev.free 2) rfl (da_cons (dx_callO (ok_old_names Ev) (hr.mono (by decide)) (Ev.glo 16) tk (da_cons (dx_var 0) da_nil) (al_cons al_nil)) da_nil)) (dx_globO (v := .int 4) rfl (Ev.int 17) rfl)) (dss_one (ds_ret (dx_tup (da_cons dx_non (da_cons dx_str da_nil)) (al_cons (al_cons al_nil))))) dss_nil)
  (dss_one (ds_ret (dx_if (dt_cmp do_gt (dx_callB dc_len rfl (Ev.free 2) rfl (da_cons (dx_callO (ok_new_names Ev) (hr.mono (by decide)) (Ev.glo 18) tk (da_cons (dx_var 0) da_nil) (al_cons al_nil)) da_nil)) (dx_globO (v := .int 3) rfl (Ev.int 19) rfl)) (dx_tup (da_cons dx_non (da_cons dx_str da_nil)) (al_cons (al_cons al_nil))) dx_non))))))
theorem ok_script_error (Ev : EnvX K mg) : OkF P w K mg base 17 (He.ga K "script_error") ["value"] (spD ⟨P, w, K⟩ 1 F_script_error) := by
  obtain ⟨fd, G⟩ := Ev.def_ 6
  exact ⟨⟨fd, fn_script_error Ev G, G.bindsN fun _ _ _ _ _ _ us hl => match us, hl with | [_], _ => rfl⟩, G.kp⟩

theorem ok_BadScript_init (Ev : EnvX K mg) : ∃ fd, FnOk P w K mg base (L2.CX P w) 1 (He.ma K (He.ga K "BadScript") "__init__") fd ["self", "error"] (spI1 (He.ga K "BadScript") "error") ∧ Binds K fd ["self", "error"] [] := by
  obtain ⟨fd, G⟩ := Ev.def_ 7
  exact ⟨fd, ok_init1 (oexB_ok (Ev.own 9)) (He.noat_ok (Ev.fact 46)) G sc_BadScript_init rfl rfl (by decide) (by decide) (by decide) rfl, G.bindsN fun _ _ _ _ _ _ us hl => match us, hl with | [_, _], _ => rfl⟩
theorem dxr_BadScript {X : Cx} {W : WX} {pos p p' : Pos} {e : Expr} {fe : DE} (Ev : EnvX X.K X.mg) (hc : X.calm = true) (tk : Takes X W) (hr : Room 2 X.A) (he : PE X e (tE (gd X) W fe)) (hg : Gl X "BadScript" := by rfl) (hs : starEach [e] X.env = [(false, eval e X.env)] := by rfl) :
    PS X (.Raise (some (.Call (.Name "BadScript" p) [e] [] pos)) none p') (tS (gd X) W (sRaise1 "BadScript" "error" fe)) := by
  obtain ⟨fd, F, b⟩ := ok_BadScript_init (P := X.prog) (w := X.w) (base := X.base) Ev
  obtain ⟨h1, h2⟩ := He.ba (Ev.own 10)
  exact ds_raise1 hc tk (oexB_ok (Ev.own 9)) (of_decide_eq_true h1) (of_decide_eq_true h2) F hr b hg (Ev.glo 34) he (by decide) hs

theorem fn_Script_init (Ev : EnvX K mg) {f : Addr} {fd : FuncData} {dvs : List V} (G : FunD K "__init__" "Script.__init__" (defArgs s_Script_init) (defBody s_Script_init) (defScope s_Script_init) dvs [] f fd) : FnOk P w K mg base (L2.CX P w) 18 f fd ["self", "deeds"] (spD ⟨P, w, K⟩ 2 F_Script_init) := by
  refine fnR (k := 17) false G sc_Script_init fun cdv A outer s0 H E hr => ?_
  have hN := sc_Script_init.nd
  have tk : L2.Takes (CxB P w K mg base ["self", "deeds", "error"] "Script.__init__" (defScope s_Script_init) f cdv A outer s0 H E) (WE E) := takes_of rfl rfl rfl rfl
  have hp : PassesOwn (model P w) (CxB P w K mg base ["self", "deeds", "error"] "Script.__init__" (defScope s_Script_init) f cdv A outer s0 H E).A (CxB P w K mg base ["self", "deeds", "error"] "Script.__init__" (defScope s_Script_init) f cdv A outer s0 H E).env (CxB P w K mg base ["self", "deeds", "error"] "Script.__init__" (defScope s_Script_init) f cdv A outer s0 H E).xe := passes_of rfl
  have hu4 : (CxB P w K mg base ["self", "deeds", "error"] "Script.__init__" (defScope s_Script_init) f cdv A outer s0 H E).A.units + 400 < cLine := units4 hr (by decide)
  have hu2 : (CxB P w K mg base ["self", "deeds", "error"] "Script.__init__" (defScope s_Script_init) f cdv A outer s0 H E).A.units + 200 < cLine := by omega
  have hu1 : (CxB P w K mg base ["self", "deeds", "error"] "Script.__init__" (defScope s_Script_init) f cdv A outer s0 H E).A.units + 1 < cLine := by omega
  have hc : (CxB P w K mg base ["self", "deeds", "error"] "Script.__init__" (defScope s_Script_init) f cdv A outer s0 H E).calm = true := rfl
  exact (dss_cons (ds_set (i := 2) hN (dx_callO (ok_script_error Ev) (hr.mono (by decide)) (Ev.glo 20) tk (da_cons (dx_var 1) da_nil) (al_cons al_nil)))
  (dss_cons (ds_if (dt_cmp do_isnot (dx_var 2) dx_non) (dss_one (dxr_BadScript Ev hc tk (hr.mono (by decide)) (dx_var 2))) dss_nil)
  (dss_one (ds_fld (ncX_ok Ev) (dx_var 0) (dx_var 1)))))

theorem dxm_Script {X : Cx} {W : WX} {pos p : Pos} {e : Expr} {es : List Expr} {t : DA} (Ev : EnvX X.K X.mg) (hr : Room 19 X.A) (tk : Takes X W) (ha : PA X (e :: es) (tA (gd X) W t)) (al : AL 1 t) (hg : Gl X "Script" := by rfl)
    (he : starEach (e :: es) X.env = (false, eval e X.env) :: starEach es X.env := by rfl) (hpl : (backTo pos (starEach es X.env)).any (·.1) = false := by rfl) : PE X (.Call (.Name "Script" p) (e :: es) [] pos) (tE (gd X) W (mk_Script t)) := by
  obtain ⟨fd, G⟩ := Ev.def_ 8
  obtain ⟨ds, v, b⟩ := G.binds1 (ps := ["self", "deeds"]) 2 1 (List.cons_ne_nil _ _) rfl fun T kV doc pm an cdv ct us its hu hi => match us, its, hu, hi with | [_, _], [_], _, _ => ⟨_, rfl, rfl⟩
  exact dx_make true (He.mkr_ok (Ev.fact 49)) (fn_Script_init (P := X.prog) (w := X.w) (base := X.base) Ev G) hr hg (Ev.glo 40) b v (fun _ _ => RepL.nil) tk ha al rfl (by decide) he hpl
theorem dxm0_Script {X : Cx} {W : WX} {pos p : Pos} (Ev : EnvX X.K X.mg) (hr : Room 19 X.A) (tk : Takes X W) (hg : Gl X "Script" := by rfl) : PE X (.Call (.Name "Script" p) [] [] pos) (tE (gd X) W mk0_Script) := by
  obtain ⟨fd, G⟩ := Ev.def_ 8
  obtain ⟨ds, v, b⟩ := G.binds1 (ps := ["self", "deeds"]) 1 0 (List.cons_ne_nil _ _) rfl fun T kV doc pm an cdv ct us its hu hi => match us, its, hu, hi with | [_], [_], _, _ => ⟨_, rfl, rfl⟩
  exact dx_make0 true (He.mkr_ok (Ev.fact 49)) (fn_Script_init (P := X.prog) (w := X.w) (base := X.base) Ev G) hr hg (Ev.glo 40) b v (fun _ H => RepL.one (by unfold Rep; exact ⟨_, _, rfl, tupAd_ok (Ev.own 12) H, RepL.nil⟩)) tk rfl (by decide)
theorem pr_Script_deeds {X : Cx} {W : WX} {pos : Pos} {e : Expr} {fo : DE} (Ev : EnvX X.K X.mg) (hr : Room 2 X.A) (he : PE X e (tE (gd X) W fo)) (hab : attributeBase e "deeds" X.env (eval e X.env) = eval e X.env := by rfl) :
    PE X (.Attribute e "deeds" pos) (tE (gd X) W (eProp "Script" "row" fo)) := by
  obtain ⟨fd, G⟩ := Ev.def_ 9
  have b := G.bindsN (ps := ["self"]) fun _ _ _ _ _ _ us hl => match us, hl with | [_], _ => rfl
  obtain ⟨oc, od, dV, kV, doc, pm, an, cdv, ct, osl, rfl, lk, hcd, _, _⟩ := G.ex
  exact dx_prop he (He.cls_ok (Ev.fact 47)) (propB_ok (Ev.own 11)) (fn_getter (k := 0) lk hcd sc_Script_deeds rfl rfl (He.cls_ok (Ev.fact 47)) (He.noat_ok (Ev.fact 48))) hr b hab

theorem fn_l_deck (Ev : EnvX K mg) {f : Addr} {fd : FuncData} {dvs : List V} (G : FunD K "_law_deck" "_law_deck" (defArgs s_l_deck) (defBody s_l_deck) (defScope s_l_deck) dvs [] f fd) : FnOk P w K mg base (L2.CX P w) 14 f fd ["_law_script"] (spD ⟨P, w, K⟩ 1 F_l_deck) := by
  refine fnR (k := 13) false G sc_l_deck fun cdv A outer s0 H E hr => ?_
  have hN := sc_l_deck.nd
  have tk : L2.Takes (CxB P w K mg base ["_law_script", "_law_great", "_law_mixed", "_law_cell", "_law_more"] "_law_deck" (defScope s_l_deck) f cdv A outer s0 H E) (WE E) := takes_of rfl rfl rfl rfl
  have hp : PassesOwn (model P w) (CxB P w K mg base ["_law_script", "_law_great", "_law_mixed", "_law_cell", "_law_more"] "_law_deck" (defScope s_l_deck) f cdv A outer s0 H E).A (CxB P w K mg base ["_law_script", "_law_great", "_law_mixed", "_law_cell", "_law_more"] "_law_deck" (defScope s_l_deck) f cdv A outer s0 H E).env (CxB P w K mg base ["_law_script", "_law_great", "_law_mixed", "_law_cell", "_law_more"] "_law_deck" (defScope s_l_deck) f cdv A outer s0 H E).xe := passes_of rfl
  have hu4 : (CxB P w K mg base ["_law_script", "_law_great", "_law_mixed", "_law_cell", "_law_more"] "_law_deck" (defScope s_l_deck) f cdv A outer s0 H E).A.units + 400 < cLine := units4 hr (by decide)
  have hu2 : (CxB P w K mg base ["_law_script", "_law_great", "_law_mixed", "_law_cell", "_law_more"] "_law_deck" (defScope s_l_deck) f cdv A outer s0 H E).A.units + 200 < cLine := by omega
  have hu1 : (CxB P w K mg base ["_law_script", "_law_great", "_law_mixed", "_law_cell", "_law_more"] "_law_deck" (defScope s_l_deck) f cdv A outer s0 H E).A.units + 1 < cLine := by omega
  have hc : (CxB P w K mg base ["_law_script", "_law_great", "_law_mixed", "_law_cell", "_law_more"] "_law_deck" (defScope s_l_deck) f cdv A outer s0 H E).calm = true := rfl
  exact (dss_cons (ds_par (i := 1) (j := 2) hc hN (da_cons dx_int (da_cons (dx_bin do_add dx_int (dx_bin do_mul dx_int (dx_callB dc_len rfl (Ev.free 2) rfl (da_cons (dx_var 0) da_nil)))) da_nil)))
  (dss_cons (ds_for hp hc (di_seq (dx_sl (dx_var 0) do_none (do_some dx_int))) (dg_name (i := 3) hN) nx_name (dss_cons (ds_set (i := 4) hN (dx_bin do_add (dx_bin do_add (dx_bin do_mul dx_int (dx_callB dc_abs rfl (Ev.free 21) rfl (da_cons (dx_var 3) da_nil))) (dx_callTy dc_int rfl (Ev.free 22) rfl (da_cons (dx_cmp do_lt (dx_var 3) dx_int) da_nil))) dx_int))
  (dss_cons (ds_set (i := 2) hN (dx_bin do_mod (dx_callTy dc_int rfl (Ev.free 22) rfl (da_cons (dx_bin do_add (dx_bin do_mul (dx_var 2) dx_int) (dx_var 4)) da_nil)) dx_int))
  (dss_one (ds_if (dt_cmp do_ge (dx_callB dc_abs rfl (Ev.free 21) rfl (da_cons (dx_var 3) da_nil)) (dx_bin do_pow dx_int dx_int)) (dss_one (ds_set (i := 1) hN (dx_bin do_add (dx_bin do_mul (dx_var 1) dx_int) (dx_callB dc_abs rfl (Ev.free 21) rfl (da_cons (dx_var 3) da_nil))))) dss_nil)))))
  (dss_one (ds_ret (dx_new (da_cons (dx_var 1) (da_cons (dx_var 2) (da_cons dx_int da_nil))) (al_cons (al_cons (al_cons al_nil))))))))
theorem ok_l_deck (Ev : EnvX K mg) : OkF P w K mg base 14 (He.ga K "_law_deck") ["_law_script"] (spD ⟨P, w, K⟩ 1 F_l_deck) := by
  obtain ⟨fd, G⟩ := Ev.def_ 10
  exact ⟨⟨fd, fn_l_deck Ev G, G.bindsN fun _ _ _ _ _ _ us hl => match us, hl with | [_], _ => rfl⟩, G.kp⟩
theorem fn_l_draw (Ev : EnvX K mg) {f : Addr} {fd : FuncData} {dvs : List V} (G : FunD K "_law_draw" "_law_draw" (defArgs s_l_draw) (defBody s_l_draw) (defScope s_l_draw) dvs [] f fd) : FnOk P w K mg base (L2.CX P w) 14 f fd ["_law_deck_here", "_law_many"] (spD ⟨P, w, K⟩ 2 F_l_draw) := by
  refine fnR (k := 13) false G sc_l_draw fun cdv A outer s0 H E hr => ?_
  have hN := sc_l_draw.nd
  have tk : L2.Takes (CxB P w K mg base ["_law_deck_here", "_law_many", "_law_digit", "_law_mixed"] "_law_draw" (defScope s_l_draw) f cdv A outer s0 H E) (WE E) := takes_of rfl rfl rfl rfl
  have hp : PassesOwn (model P w) (CxB P w K mg base ["_law_deck_here", "_law_many", "_law_digit", "_law_mixed"] "_law_draw" (defScope s_l_draw) f cdv A outer s0 H E).A (CxB P w K mg base ["_law_deck_here", "_law_many", "_law_digit", "_law_mixed"] "_law_draw" (defScope s_l_draw) f cdv A outer s0 H E).env (CxB P w K mg base ["_law_deck_here", "_law_many", "_law_digit", "_law_mixed"] "_law_draw" (defScope s_l_draw) f cdv A outer s0 H E).xe := passes_of rfl
  have hu4 : (CxB P w K mg base ["_law_deck_here", "_law_many", "_law_digit", "_law_mixed"] "_law_draw" (defScope s_l_draw) f cdv A outer s0 H E).A.units + 400 < cLine := units4 hr (by decide)
  have hu2 : (CxB P w K mg base ["_law_deck_here", "_law_many", "_law_digit", "_law_mixed"] "_law_draw" (defScope s_l_draw) f cdv A outer s0 H E).A.units + 200 < cLine := by omega
  have hu1 : (CxB P w K mg base ["_law_deck_here", "_law_many", "_law_digit", "_law_mixed"] "_law_draw" (defScope s_l_draw) f cdv A outer s0 H E).A.units + 1 < cLine := by omega
  have hc : (CxB P w K mg base ["_law_deck_here", "_law_many", "_law_digit", "_law_mixed"] "_law_draw" (defScope s_l_draw) f cdv A outer s0 H E).calm = true := rfl
  exact (dss_cons (ds_if (dt_cmp do_gt (dx_ix (dx_var 0) dx_int) dx_int) (dss_cons (ds_set (i := 2) hN (dx_bin do_mod (dx_callTy dc_int rfl (Ev.free 22) rfl (da_cons (dx_ix (dx_var 0) dx_int) da_nil)) (dx_var 1)))
  (dss_cons (ds_asg (dx_bin do_fdiv (dx_ix (dx_var 0) dx_int) (dx_var 1)) (dg_sub (dx_var 0) dx_int (pg_sub (dx_var 0) dx_int set_list)) nx_sub)
  (dss_one (ds_ret (dx_var 2))))) dss_nil)
  (dss_cons (ds_asg (dx_bin do_add (dx_ix (dx_var 0) dx_int) dx_int) (dg_sub (dx_var 0) dx_int (pg_sub (dx_var 0) dx_int set_list)) nx_sub)
  (dss_cons (ds_set (i := 3) hN (dx_bin do_mod (dx_callTy dc_int rfl (Ev.free 22) rfl (da_cons (dx_bin do_add (dx_ix (dx_var 0) dx_int) (dx_bin do_mul dx_int (dx_ix (dx_var 0) dx_int))) da_nil)) dx_int))
  (dss_cons (ds_set (i := 3) hN (dx_bin do_mod (dx_callTy dc_int rfl (Ev.free 22) rfl (da_cons (dx_bin do_mul (dx_var 3) (dx_bin do_add (dx_bin do_mod (dx_var 3) dx_int) dx_int)) da_nil)) dx_int))
  (dss_one (ds_ret (dx_bin do_mod (dx_bin do_fdiv (dx_bin do_mod (dx_callTy dc_int rfl (Ev.free 22) rfl (da_cons (dx_bin do_mul (dx_var 3) (dx_var 3)) da_nil)) dx_int) dx_int) (dx_var 1))))))))
theorem ok_l_draw (Ev : EnvX K mg) : OkF P w K mg base 14 (He.ga K "_law_draw") ["_law_deck_here", "_law_many"] (spD ⟨P, w, K⟩ 2 F_l_draw) := by
  obtain ⟨fd, G⟩ := Ev.def_ 11
  exact ⟨⟨fd, fn_l_draw Ev G, G.bindsN fun _ _ _ _ _ _ us hl => match us, hl with | [_, _], _ => rfl⟩, G.kp⟩
theorem fn_l_name (Ev : EnvX K mg) {f : Addr} {fd : FuncData} {dvs : List V} (G : FunD K "_law_name" "_law_name" (defArgs s_l_name) (defBody s_l_name) (defScope s_l_name) dvs [] f fd) : FnOk P w K mg base (L2.CX P w) 15 f fd ["_law_deck_here"] (spD ⟨P, w, K⟩ 1 F_l_name) := by
  refine fnR (k := 14) false G sc_l_name fun cdv A outer s0 H E hr => ?_
  have hN := sc_l_name.nd
  have tk : L2.Takes (CxB P w K mg base ["_law_deck_here", "_law_letters", "_law_k"] "_law_name" (defScope s_l_name) f cdv A outer s0 H E) (WE E) := takes_of rfl rfl rfl rfl
  have hp : PassesOwn (model P w) (CxB P w K mg base ["_law_deck_here", "_law_letters", "_law_k"] "_law_name" (defScope s_l_name) f cdv A outer s0 H E).A (CxB P w K mg base ["_law_deck_here", "_law_letters", "_law_k"] "_law_name" (defScope s_l_name) f cdv A outer s0 H E).env (CxB P w K mg base ["_law_deck_here", "_law_letters", "_law_k"] "_law_name" (defScope s_l_name) f cdv A outer s0 H E).xe := passes_of rfl
  have hu4 : (CxB P w K mg base ["_law_deck_here", "_law_letters", "_law_k"] "_law_name" (defScope s_l_name) f cdv A outer s0 H E).A.units + 400 < cLine := units4 hr (by decide)
  have hu2 : (CxB P w K mg base ["_law_deck_here", "_law_letters", "_law_k"] "_law_name" (defScope s_l_name) f cdv A outer s0 H E).A.units + 200 < cLine := by omega
  have hu1 : (CxB P w K mg base ["_law_deck_here", "_law_letters", "_law_k"] "_law_name" (defScope s_l_name) f cdv A outer s0 H E).A.units + 1 < cLine := by omega
  have hc : (CxB P w K mg base ["_law_deck_here", "_law_letters", "_law_k"] "_law_name" (defScope s_l_name) f cdv A outer s0 H E).calm = true := rfl
  exact (dss_cons (ds_set (i := 1) hN dx_str)
  (dss_one (ds_ret (dx_sm1 PySem.F.slot_str_join PySem.F.type_str_join ds_join dx_str (dx_comp [("_law_k", 2)] hc hN (di_range1 rfl (Ev.free 24) (da_cons (dx_bin do_add dx_int (dx_callO (ok_l_draw Ev) (hr.mono (by decide)) (Ev.glo 23) tk (da_cons (dx_var 0) (da_cons dx_int da_nil)) (al_cons (al_cons al_nil)))) da_nil) (al_cons al_nil)) (blkO (N := ["_law_deck_here", "_law_letters", "_law_k"]) (sc := defScope s_l_name) rfl rfl (by decide +kernel)) (fun _ _ _ _ _ => (dg_name (i := 2) hN)) (fun _ _ _ _ _ => dts_nil) (fun _ _ _ _ _ => (dx_ix (dx_var 1) (dx_callO (ok_l_draw Ev) (hr.mono (by decide)) (Ev.glo 23) takes0 (da_cons (dx_var 0) (da_cons dx_int da_nil)) (al_cons (al_cons al_nil))))))))))
theorem ok_l_name (Ev : EnvX K mg) : OkF P w K mg base 15 (He.ga K "_law_name") ["_law_deck_here"] (spD ⟨P, w, K⟩ 1 F_l_name) := by
  obtain ⟨fd, G⟩ := Ev.def_ 12
  exact ⟨⟨fd, fn_l_name Ev G, G.bindsN fun _ _ _ _ _ _ us hl => match us, hl with | [_], _ => rfl⟩, G.kp⟩
theorem fn_l_names (Ev : EnvX K mg) {f : Addr} {fd : FuncData} {dvs : List V} (G : FunD K "_law_names" "_law_names" (defArgs s_l_names) (defBody s_l_names) (defScope s_l_names) dvs [] f fd) : FnOk P w K mg base (L2.CX P w) 16 f fd ["_law_deck_here", "_law_many"] (spD ⟨P, w, K⟩ 2 F_l_names) := by
  refine fnR (k := 15) true G sc_l_names fun cdv A outer s0 H E hr => ?_
  have hN := sc_l_names.nd
  have tk : L2.Takes (CxB P w K mg base ["_law_deck_here", "_law_many", "_law_letters", "_law_spare", "_law_way", "_law_base", "_law_place", "_law_at", "_law_names_here", "_law_k", "_law_kind", "_law_name_here"] "_law_names" (defScope s_l_names) f cdv A outer s0 H E) (WE E) := takes_of rfl rfl rfl rfl
  have hp : PassesOwn (model P w) (CxB P w K mg base ["_law_deck_here", "_law_many", "_law_letters", "_law_spare", "_law_way", "_law_base", "_law_place", "_law_at", "_law_names_here", "_law_k", "_law_kind", "_law_name_here"] "_law_names" (defScope s_l_names) f cdv A outer s0 H E).A (CxB P w K mg base ["_law_deck_here", "_law_many", "_law_letters", "_law_spare", "_law_way", "_law_base", "_law_place", "_law_at", "_law_names_here", "_law_k", "_law_kind", "_law_name_here"] "_law_names" (defScope s_l_names) f cdv A outer s0 H E).env (CxB P w K mg base ["_law_deck_here", "_law_many", "_law_letters", "_law_spare", "_law_way", "_law_base", "_law_place", "_law_at", "_law_names_here", "_law_k", "_law_kind", "_law_name_here"] "_law_names" (defScope s_l_names) f cdv A outer s0 H E).xe := passes_of rfl
  have hu4 : (CxB P w K mg base ["_law_deck_here", "_law_many", "_law_letters", "_law_spare", "_law_way", "_law_base", "_law_place", "_law_at", "_law_names_here", "_law_k", "_law_kind", "_law_name_here"] "_law_names" (defScope s_l_names) f cdv A outer s0 H E).A.units + 400 < cLine := units4 hr (by decide)
  have hu2 : (CxB P w K mg base ["_law_deck_here", "_law_many", "_law_letters", "_law_spare", "_law_way", "_law_base", "_law_place", "_law_at", "_law_names_here", "_law_k", "_law_kind", "_law_name_here"] "_law_names" (defScope s_l_names) f cdv A outer s0 H E).A.units + 200 < cLine := by omega
  have hu1 : (CxB P w K mg base ["_law_deck_here", "_law_many", "_law_letters", "_law_spare", "_law_way", "_law_base", "_law_place", "_law_at", "_law_names_here", "_law_k", "_law_kind", "_law_name_here"] "_law_names" (defScope s_l_names) f cdv A outer s0 H E).A.units + 1 < cLine := by omega
  have hc : (CxB P w K mg base ["_law_deck_here", "_law_many", "_law_letters", "_law_spare", "_law_way", "_law_base", "_law_place", "_law_at", "_law_names_here", "_law_k", "_law_kind", "_law_name_here"] "_law_names" (defScope s_l_names) f cdv A outer s0 H E).calm = true := rfl
  exact (dss_cons (ds_set (i := 2) hN dx_str)
  (dss_cons (ds_setLc (i := 3) false [("_law_k", 9)] hc hN (di_range1 rfl (Ev.free 24) (da_cons dx_int da_nil) (al_cons al_nil)) (blkO (N := ["_law_deck_here", "_law_many", "_law_letters", "_law_spare", "_law_way", "_law_base", "_law_place", "_law_at", "_law_names_here", "_law_k", "_law_kind", "_law_name_here"]) (sc := defScope s_l_names) rfl rfl (by decide +kernel)) (fun _ _ _ _ _ => (dg_name (i := 9) hN)) (fun _ _ _ _ _ => dts_nil) (fun _ _ _ _ _ => (dx_bin do_add (dx_ix (dx_var 2) (dx_bin do_fdiv (dx_var 9) dx_int)) (dx_ix (dx_var 2) (dx_bin do_mod (dx_var 9) dx_int)))))
  (dss_cons (ds_par (i := 4) (j := 5) hc hN (da_cons (dx_callO (ok_l_draw Ev) (hr.mono (by decide)) (Ev.glo 23) tk (da_cons (dx_var 0) (da_cons dx_int da_nil)) (al_cons (al_cons al_nil))) (da_cons (dx_sl (dx_bin do_mul (dx_callO (ok_l_name Ev) (hr.mono (by decide)) (Ev.glo 25) tk (da_cons (dx_var 0) da_nil) (al_cons al_nil)) dx_int) do_none (do_some dx_int)) da_nil)))
  (dss_cons (ds_par3 (i := 6) (j := 7) (l := 8) hc hN (da_cons (dx_callO (ok_l_draw Ev) (hr.mono (by decide)) (Ev.glo 23) tk (da_cons (dx_var 0) (da_cons dx_int da_nil)) (al_cons (al_cons al_nil))) (da_cons dx_int (da_cons (dx_new da_nil al_nil) da_nil))))
  (dss_cons (ds_for hp hc (di_range1 rfl (Ev.free 24) (da_cons (dx_var 1) da_nil) (al_cons al_nil)) (dg_name (i := 9) hN) nx_name (dss_cons (ds_set (i := 10) hN (dx_if (dt_cmp (do_eq hu2) (dx_var 4) dx_int) (dx_callO (ok_l_draw Ev) (hr.mono (by decide)) (Ev.glo 23) tk (da_cons (dx_var 0) (da_cons dx_int da_nil)) (al_cons (al_cons al_nil))) (dx_var 4)))
  (dss_cons (ds_if (dt_cmp (do_eq hu2) (dx_var 10) dx_int) (dss_one (ds_set (i := 11) hN (dx_callO (ok_l_name Ev) (hr.mono (by decide)) (Ev.glo 25) tk (da_cons (dx_var 0) da_nil) (al_cons al_nil)))) (dss_one (ds_if (dt_cmp (do_eq hu2) (dx_var 10) dx_int) (dss_one (ds_set (i := 11) hN (dx_bin do_add (dx_bin do_add (dx_sl (dx_var 5) do_none (do_some (dx_var 6))) (dx_ix (dx_var 2) (dx_callO (ok_l_draw Ev) (hr.mono (by decide)) (Ev.glo 23) tk (da_cons (dx_var 0) (da_cons dx_int da_nil)) (al_cons (al_cons al_nil))))) (dx_sl (dx_var 5) (do_some (dx_bin do_add (dx_var 6) dx_int)) do_none)))) (dss_one (ds_set (i := 11) hN (dx_sl (dx_var 5) do_none (do_some (dx_bin do_add dx_int (dx_callO (ok_l_draw Ev) (hr.mono (by decide)) (Ev.glo 23) tk (da_cons (dx_var 0) (da_cons dx_int da_nil)) (al_cons (al_cons al_nil)))))))))))
  (dss_cons (ds_while 1000 hp (dt_cmp (do_in hu4) (dx_var 11) (dx_var 8)) (dss_cons (ds_set (i := 11) hN (dx_ix (dx_var 3) (dx_var 7)))
  (dss_one (ds_set (i := 7) hN (dx_bin do_add (dx_var 7) dx_int)))))
  (dss_one (ds_expr (dx_lm PySem.F.slot_list_append PySem.F.type_list_append dm_append (dx_var 8) (da_cons (dx_var 11) da_nil))))))))
  (dss_one (ds_ret (dx_var 8))))))))
theorem ok_l_names (Ev : EnvX K mg) : OkF P w K mg base 16 (He.ga K "_law_names") ["_law_deck_here", "_law_many"] (spD ⟨P, w, K⟩ 2 F_l_names) := by
  obtain ⟨fd, G⟩ := Ev.def_ 13
  exact ⟨⟨fd, fn_l_names Ev G, G.bindsN fun _ _ _ _ _ _ us hl => match us, hl with | [_, _], _ => rfl⟩, G.kp⟩
theorem fn_l_pick (Ev : EnvX K mg) {f : Addr} {fd : FuncData} {dvs : List V} (G : FunD K "_law_pick" "_law_pick" (defArgs s_l_pick) (defBody s_l_pick) (defScope s_l_pick) dvs [] f fd) : FnOk P w K mg base (L2.CX P w) 15 f fd ["_law_deck_here", "_law_items"] (spD ⟨P, w, K⟩ 2 F_l_pick) := by
  refine fnR (k := 14) false G sc_l_pick fun cdv A outer s0 H E hr => ?_
  have hN := sc_l_pick.nd
  have tk : L2.Takes (CxB P w K mg base ["_law_deck_here", "_law_items"] "_law_pick" (defScope s_l_pick) f cdv A outer s0 H E) (WE E) := takes_of rfl rfl rfl rfl
  have hp : PassesOwn (model P w) (CxB P w K mg base ["_law_deck_here", "_law_items"] "_law_pick" (defScope s_l_pick) f cdv A outer s0 H E).A (CxB P w K mg base ["_law_deck_here", "_law_items"] "_law_pick" (defScope s_l_pick) f cdv A outer s0 H E).env (CxB P w K mg base ["_law_deck_here", "_law_items"] "_law_pick" (defScope s_l_pick) f cdv A outer s0 H E).xe := passes_of rfl
  have hu4 : (CxB P w K mg base ["_law_deck_here", "_law_items"] "_law_pick" (defScope s_l_pick) f cdv A outer s0 H E).A.units + 400 < cLine := units4 hr (by decide)
  have hu2 : (CxB P w K mg base ["_law_deck_here", "_law_items"] "_law_pick" (defScope s_l_pick) f cdv A outer s0 H E).A.units + 200 < cLine := by omega
  have hu1 : (CxB P w K mg base ["_law_deck_here", "_law_items"] "_law_pick" (defScope s_l_pick) f cdv A outer s0 H E).A.units + 1 < cLine := by omega
  have hc : (CxB P w K mg base ["_law_deck_here", "_law_items"] "_law_pick" (defScope s_l_pick) f cdv A outer s0 H E).calm = true := rfl
  exact (dss_one (ds_ret (dx_ix (dx_var 1) (dx_callO (ok_l_draw Ev) (hr.mono (by decide)) (Ev.glo 23) tk (da_cons (dx_var 0) (da_cons (dx_callB dc_len rfl (Ev.free 2) rfl (da_cons (dx_var 1) da_nil)) da_nil)) (al_cons (al_cons al_nil))))))
theorem ok_l_pick (Ev : EnvX K mg) : OkF P w K mg base 15 (He.ga K "_law_pick") ["_law_deck_here", "_law_items"] (spD ⟨P, w, K⟩ 2 F_l_pick) := by
  obtain ⟨fd, G⟩ := Ev.def_ 14
  exact ⟨⟨fd, fn_l_pick Ev G, G.bindsN fun _ _ _ _ _ _ us hl => match us, hl with | [_, _], _ => rfl⟩, G.kp⟩
theorem fn_l_words (Ev : EnvX K mg) {f : Addr} {fd : FuncData} {dvs : List V} (G : FunD K "_law_words" "_law_words" (defArgs s_l_words) (defBody s_l_words) (defScope s_l_words) dvs [] f fd) : FnOk P w K mg base (L2.CX P w) 14 f fd [] (spD ⟨P, w, K⟩ 0 F_l_words) := by
  refine fnR (k := 13) false G sc_l_words fun cdv A outer s0 H E hr => ?_
  have hN := sc_l_words.nd
  have tk : L2.Takes (CxB P w K mg base ["_law_words_here"] "_law_words" (defScope s_l_words) f cdv A outer s0 H E) (WE E) := takes_of rfl rfl rfl rfl
  have hp : PassesOwn (model P w) (CxB P w K mg base ["_law_words_here"] "_law_words" (defScope s_l_words) f cdv A outer s0 H E).A (CxB P w K mg base ["_law_words_here"] "_law_words" (defScope s_l_words) f cdv A outer s0 H E).env (CxB P w K mg base ["_law_words_here"] "_law_words" (defScope s_l_words) f cdv A outer s0 H E).xe := passes_of rfl
  have hu4 : (CxB P w K mg base ["_law_words_here"] "_law_words" (defScope s_l_words) f cdv A outer s0 H E).A.units + 400 < cLine := units4 hr (by decide)
  have hu2 : (CxB P w K mg base ["_law_words_here"] "_law_words" (defScope s_l_words) f cdv A outer s0 H E).A.units + 200 < cLine := by omega
  have hu1 : (CxB P w K mg base ["_law_words_here"] "_law_words" (defScope s_l_words) f cdv A outer s0 H E).A.units + 1 < cLine := by omega
  have hc : (CxB P w K mg base ["_law_words_here"] "_law_words" (defScope s_l_words) f cdv A outer s0 H E).calm = true := rfl
  exact (dss_cons (ds_set (i := 0) hN (dx_lst (da_cons dx_str (da_cons dx_str (da_cons dx_str (da_cons dx_str (da_cons dx_str (da_cons dx_str (da_cons dx_str da_nil))))))) (al_cons (al_cons (al_cons (al_cons (al_cons (al_cons (al_cons al_nil)))))))))
  (dss_one (ds_ret (dx_bin do_add (dx_var 0) (dx_lst (da_cons dx_str (da_cons dx_str (da_cons dx_str (da_cons dx_str (da_cons dx_str (da_cons dx_str da_nil)))))) (al_cons (al_cons (al_cons (al_cons (al_cons (al_cons al_nil)))))))))))
theorem ok_l_words (Ev : EnvX K mg) : OkF P w K mg base 14 (He.ga K "_law_words") [] (spD ⟨P, w, K⟩ 0 F_l_words) := by
  obtain ⟨fd, G⟩ := Ev.def_ 15
  exact ⟨⟨fd, fn_l_words Ev G, G.bindsN fun _ _ _ _ _ _ us hl => match us, hl with | [], _ => rfl⟩, G.kp⟩
theorem fn_l_some_deed (Ev : EnvX K mg) {f : Addr} {fd : FuncData} {dvs : List V} (G : FunD K "_law_some_deed" "_law_some_deed" (defArgs s_l_some_deed) (defBody s_l_some_deed) (defScope s_l_some_deed) dvs [] f fd) : FnOk P w K mg base (L2.CX P w) 16 f fd ["_law_deck_here", "_law_names_here"] (spD ⟨P, w, K⟩ 2 F_l_some_deed) := by
  refine fnR (k := 15) false G sc_l_some_deed fun cdv A outer s0 H E hr => ?_
  have hN := sc_l_some_deed.nd
  have tk : L2.Takes (CxB P w K mg base ["_law_deck_here", "_law_names_here", "_law_word"] "_law_some_deed" (defScope s_l_some_deed) f cdv A outer s0 H E) (WE E) := takes_of rfl rfl rfl rfl
  have hp : PassesOwn (model P w) (CxB P w K mg base ["_law_deck_here", "_law_names_here", "_law_word"] "_law_some_deed" (defScope s_l_some_deed) f cdv A outer s0 H E).A (CxB P w K mg base ["_law_deck_here", "_law_names_here", "_law_word"] "_law_some_deed" (defScope s_l_some_deed) f cdv A outer s0 H E).env (CxB P w K mg base ["_law_deck_here", "_law_names_here", "_law_word"] "_law_some_deed" (defScope s_l_some_deed) f cdv A outer s0 H E).xe := passes_of rfl
  have hu4 : (CxB P w K mg base ["_law_deck_here", "_law_names_here", "_law_word"] "_law_some_deed" (defScope s_l_some_deed) f cdv A outer s0 H E).A.units + 400 < cLine := units4 hr (by decide)
  have hu2 : (CxB P w K mg base ["_law_deck_here", "_law_names_here", "_law_word"] "_law_some_deed" (defScope s_l_some_deed) f cdv A outer s0 H E).A.units + 200 < cLine := by omega
  have hu1 : (CxB P w K mg base ["_law_deck_here", "_law_names_here", "_law_word"] "_law_some_deed" (defScope s_l_some_deed) f cdv A outer s0 H E).A.units + 1 < cLine := by omega
  have hc : (CxB P w K mg base ["_law_deck_here", "_law_names_here", "_law_word"] "_law_some_deed" (defScope s_l_some_deed) f cdv A outer s0 H E).calm = true := rfl
  exact (dss_cons (ds_set (i := 2) hN (dx_callO (ok_l_pick Ev) (hr.mono (by decide)) (Ev.glo 27) tk (da_cons (dx_var 0) (da_cons (dx_callO0 (ok_l_words Ev) (hr.mono (by decide)) (Ev.glo 26) tk) da_nil)) (al_cons (al_cons al_nil))))
  (dss_cons (ds_if (dt_cmp (do_in hu4) (dx_var 2) (dx_tup (da_cons dx_str (da_cons dx_str (da_cons dx_str (da_cons dx_str da_nil)))) (al_cons (al_cons (al_cons (al_cons al_nil)))))) (dss_one (ds_ret (dx_tup (da_cons (dx_var 2) (da_cons (dx_callO (ok_l_pick Ev) (hr.mono (by decide)) (Ev.glo 27) tk (da_cons (dx_var 0) (da_cons (dx_var 1) da_nil)) (al_cons (al_cons al_nil))) da_nil)) (al_cons (al_cons al_nil))))) dss_nil)
  (dss_one (ds_ret (dx_tup (da_cons (dx_var 2) (da_cons (dx_callO (ok_l_pick Ev) (hr.mono (by decide)) (Ev.glo 27) tk (da_cons (dx_var 0) (da_cons (dx_var 1) da_nil)) (al_cons (al_cons al_nil))) (da_cons (dx_callO (ok_l_pick Ev) (hr.mono (by decide)) (Ev.glo 27) tk (da_cons (dx_var 0) (da_cons (dx_var 1) da_nil)) (al_cons (al_cons al_nil))) da_nil))) (al_cons (al_cons (al_cons al_nil))))))))
theorem ok_l_some_deed (Ev : EnvX K mg) : OkF P w K mg base 16 (He.ga K "_law_some_deed") ["_law_deck_here", "_law_names_here"] (spD ⟨P, w, K⟩ 2 F_l_some_deed) := by
  obtain ⟨fd, G⟩ := Ev.def_ 16
  exact ⟨⟨fd, fn_l_some_deed Ev G, G.bindsN fun _ _ _ _ _ _ us hl => match us, hl with | [_, _], _ => rfl⟩, G.kp⟩
theorem fn_l_odd (Ev : EnvX K mg) {f : Addr} {fd : FuncData} {dvs : List V} (G : FunD K "_law_odd" "_law_odd" (defArgs s_l_odd) (defBody s_l_odd) (defScope s_l_odd) dvs [] f fd) : FnOk P w K mg base (L2.CX P w) 16 f fd ["_law_deck_here"] (spD ⟨P, w, K⟩ 1 F_l_odd) := by
  refine fnR (k := 15) false G sc_l_odd fun cdv A outer s0 H E hr => ?_
  have hN := sc_l_odd.nd
  have tk : L2.Takes (CxB P w K mg base ["_law_deck_here", "_law_some"] "_law_odd" (defScope s_l_odd) f cdv A outer s0 H E) (WE E) := takes_of rfl rfl rfl rfl
  have hp : PassesOwn (model P w) (CxB P w K mg base ["_law_deck_here", "_law_some"] "_law_odd" (defScope s_l_odd) f cdv A outer s0 H E).A (CxB P w K mg base ["_law_deck_here", "_law_some"] "_law_odd" (defScope s_l_odd) f cdv A outer s0 H E).env (CxB P w K mg base ["_law_deck_here", "_law_some"] "_law_odd" (defScope s_l_odd) f cdv A outer s0 H E).xe := passes_of rfl
  have hu4 : (CxB P w K mg base ["_law_deck_here", "_law_some"] "_law_odd" (defScope s_l_odd) f cdv A outer s0 H E).A.units + 400 < cLine := units4 hr (by decide)
  have hu2 : (CxB P w K mg base ["_law_deck_here", "_law_some"] "_law_odd" (defScope s_l_odd) f cdv A outer s0 H E).A.units + 200 < cLine := by omega
  have hu1 : (CxB P w K mg base ["_law_deck_here", "_law_some"] "_law_odd" (defScope s_l_odd) f cdv A outer s0 H E).A.units + 1 < cLine := by omega
  have hc : (CxB P w K mg base ["_law_deck_here", "_law_some"] "_law_odd" (defScope s_l_odd) f cdv A outer s0 H E).calm = true := rfl
  exact (dss_cons (ds_set (i := 1) hN (dx_lst (da_cons dx_non (da_cons dx_bl (da_cons dx_bl (da_cons dx_int (da_cons dx_int (da_cons (dx_bin do_sub dx_int dx_int) (da_cons (dx_bin do_pow dx_int dx_int) (da_cons dx_str (da_cons dx_str (da_cons dx_str (da_cons dx_str (da_cons dx_str (da_cons dx_str (da_cons dx_str (da_cons dx_str da_nil))))))))))))))) (al_cons (al_cons (al_cons (al_cons (al_cons (al_cons (al_cons (al_cons (al_cons (al_cons (al_cons (al_cons (al_cons (al_cons (al_cons al_nil)))))))))))))))))
  (dss_cons (ds_set (i := 1) hN (dx_bin do_add (dx_var 1) (dx_lst (da_cons dx_str (da_cons dx_str (da_cons dx_str (da_cons dx_str (da_cons (dx_lst (da_cons dx_str (da_cons (dx_tup da_nil al_nil) da_nil)) (al_cons (al_cons al_nil))) (da_cons (dx_dctC [(.inr "a", .int 1), (.inr "b", .int 2)] [(.inr "a", .int 1), (.inr "b", .int 2)] (pps_cons pe_str pe_int (pps_cons pe_str pe_int pps_nil))) da_nil)))))) (al_cons (al_cons (al_cons (al_cons (al_cons (al_cons al_nil)))))))))
  (dss_cons (ds_set (i := 1) hN (dx_bin do_add (dx_var 1) (dx_lst (da_cons (dx_tup (da_cons dx_str da_nil) (al_cons al_nil)) (da_cons (dx_tup (da_cons dx_str (da_cons (dx_tup da_nil al_nil) da_nil)) (al_cons (al_cons al_nil))) (da_cons (dx_lst (da_cons dx_str da_nil) (al_cons al_nil)) (da_cons (dx_lst da_nil al_nil) (da_cons dx_dct0 (da_cons (dx_dctC [(.inr "a", .int 1)] [(.inr "a", .int 1)] (pps_cons pe_str pe_int pps_nil)) (da_cons (dx_tup da_nil al_nil) (da_cons (dx_tup (da_cons (dx_tup da_nil al_nil) (da_cons (dx_tup da_nil al_nil) da_nil)) (al_cons (al_cons al_nil))) (da_cons (dx_tup (da_cons (dx_tup (da_cons dx_str (da_cons (dx_tup da_nil al_nil) da_nil)) (al_cons (al_cons al_nil))) da_nil) (al_cons al_nil)) (da_cons dx_str da_nil)))))))))) (al_cons (al_cons (al_cons (al_cons (al_cons (al_cons (al_cons (al_cons (al_cons (al_cons al_nil)))))))))))))
  (dss_one (ds_ret (dx_callO (ok_l_pick Ev) (hr.mono (by decide)) (Ev.glo 27) tk (da_cons (dx_var 0) (da_cons (dx_var 1) da_nil)) (al_cons (al_cons al_nil))))))))
theorem ok_l_odd (Ev : EnvX K mg) : OkF P w K mg base 16 (He.ga K "_law_odd") ["_law_deck_here"] (spD ⟨P, w, K⟩ 1 F_l_odd) := by
  obtain ⟨fd, G⟩ := Ev.def_ 17
  exact ⟨⟨fd, fn_l_odd Ev G, G.bindsN fun _ _ _ _ _ _ us hl => match us, hl with | [_], _ => rfl⟩, G.kp⟩
theorem fn_l_odd_deed (Ev : EnvX K mg) {f : Addr} {fd : FuncData} {dvs : List V} (G : FunD K "_law_odd_deed" "_law_odd_deed" (defArgs s_l_odd_deed) (defBody s_l_odd_deed) (defScope s_l_odd_deed) dvs [] f fd) : FnOk P w K mg base (L2.CX P w) 17 f fd ["_law_deck_here", "_law_names_here"] (spD ⟨P, w, K⟩ 2 F_l_odd_deed) := by
  refine fnR (k := 16) false G sc_l_odd_deed fun cdv A outer s0 H E hr => ?_
  have hN := sc_l_odd_deed.nd
  have tk : L2.Takes (CxB P w K mg base ["_law_deck_here", "_law_names_here", "_law_way", "_law_word", "_law_many", "_law_items", "_law_k"] "_law_odd_deed" (defScope s_l_odd_deed) f cdv A outer s0 H E) (WE E) := takes_of rfl rfl rfl rfl
  have hp : PassesOwn (model P w) (CxB P w K mg base ["_law_deck_here", "_law_names_here", "_law_way", "_law_word", "_law_many", "_law_items", "_law_k"] "_law_odd_deed" (defScope s_l_odd_deed) f cdv A outer s0 H E).A (CxB P w K mg base ["_law_deck_here", "_law_names_here", "_law_way", "_law_word", "_law_many", "_law_items", "_law_k"] "_law_odd_deed" (defScope s_l_odd_deed) f cdv A outer s0 H E).env (CxB P w K mg base ["_law_deck_here", "_law_names_here", "_law_way", "_law_word", "_law_many", "_law_items", "_law_k"] "_law_odd_deed" (defScope s_l_odd_deed) f cdv A outer s0 H E).xe := passes_of rfl
  have hu4 : (CxB P w K mg base ["_law_deck_here", "_law_names_here", "_law_way", "_law_word", "_law_many", "_law_items", "_law_k"] "_law_odd_deed" (defScope s_l_odd_deed) f cdv A outer s0 H E).A.units + 400 < cLine := units4 hr (by decide)
  have hu2 : (CxB P w K mg base ["_law_deck_here", "_law_names_here", "_law_way", "_law_word", "_law_many", "_law_items", "_law_k"] "_law_odd_deed" (defScope s_l_odd_deed) f cdv A outer s0 H E).A.units + 200 < cLine := by omega
  have hu1 : (CxB P w K mg base ["_law_deck_here", "_law_names_here", "_law_way", "_law_word", "_law_many", "_law_items", "_law_k"] "_law_odd_deed" (defScope s_l_odd_deed) f cdv A outer s0 H E).A.units + 1 < cLine := by omega
  have hc : (CxB P w K mg base ["_law_deck_here", "_law_names_here", "_law_way", "_law_word", "_law_many", "_law_items", "_law_k"] "_law_odd_deed" (defScope s_l_odd_deed) f cdv A outer s0 H E).calm = true := rfl
  exact (dss_cons (ds_par (i := 2) (j := 3) hc hN (da_cons (dx_callO (ok_l_draw Ev) (hr.mono (by decide)) (Ev.glo 23) tk (da_cons (dx_var 0) (da_cons dx_int da_nil)) (al_cons (al_cons al_nil))) (da_cons (dx_callO (ok_l_pick Ev) (hr.mono (by decide)) (Ev.glo 27) tk (da_cons (dx_var 0) (da_cons (dx_callO0 (ok_l_words Ev) (hr.mono (by decide)) (Ev.glo 26) tk) da_nil)) (al_cons (al_cons al_nil))) da_nil)))
  (dss_cons (ds_if (dt_cmp (do_eq hu2) (dx_var 2) dx_int) (dss_one (ds_set (i := 3) hN (dx_callO (ok_l_pick Ev) (hr.mono (by decide)) (Ev.glo 27) tk (da_cons (dx_var 0) (da_cons (dx_lst (da_cons dx_str (da_cons dx_str (da_cons dx_str (da_cons dx_str (da_cons dx_str (da_cons dx_str (da_cons (dx_callO (ok_l_odd Ev) (hr.mono (by decide)) (Ev.glo 28) tk (da_cons (dx_var 0) da_nil) (al_cons al_nil)) da_nil))))))) (al_cons (al_cons (al_cons (al_cons (al_cons (al_cons (al_cons al_nil)))))))) da_nil)) (al_cons (al_cons al_nil))))) dss_nil)
  (dss_cons (ds_set (i := 4) hN (dx_bin do_add dx_int (dx_callTy dc_int rfl (Ev.free 22) rfl (da_cons (dx_cmp (do_notin hu4) (dx_var 3) (dx_tup (da_cons dx_str (da_cons dx_str (da_cons dx_str (da_cons dx_str da_nil)))) (al_cons (al_cons (al_cons (al_cons al_nil)))))) da_nil))))
  (dss_cons (ds_if (dt_cmp (do_eq hu2) (dx_var 2) dx_int) (dss_one (ds_set (i := 4) hN (dx_callO (ok_l_draw Ev) (hr.mono (by decide)) (Ev.glo 23) tk (da_cons (dx_var 0) (da_cons dx_int da_nil)) (al_cons (al_cons al_nil))))) dss_nil)
  (dss_cons (ds_setLc (i := 5) true [("_law_k", 6)] hc hN (di_range1 rfl (Ev.free 24) (da_cons (dx_var 4) da_nil) (al_cons al_nil)) (blkO (N := ["_law_deck_here", "_law_names_here", "_law_way", "_law_word", "_law_many", "_law_items", "_law_k"]) (sc := defScope s_l_odd_deed) rfl rfl (by decide +kernel)) (fun _ _ _ _ _ => (dg_name (i := 6) hN)) (fun _ _ _ _ _ => dts_nil) (fun _ _ _ _ _ => (dx_callO (ok_l_pick Ev) (hr.mono (by decide)) (Ev.glo 27) takes0 (da_cons (dx_var 0) (da_cons (dx_var 1) da_nil)) (al_cons (al_cons al_nil)))))
  (dss_cons (ds_if (dt_w (dw_and (dt_cmp (do_eq hu2) (dx_var 2) dx_int) (dw_and1 (dt_cmp (do_ne hu2) (dx_var 5) (dx_lst da_nil al_nil))))) (dss_one (ds_asg (dx_callO (ok_l_odd Ev) (hr.mono (by decide)) (Ev.glo 28) tk (da_cons (dx_var 0) da_nil) (al_cons al_nil)) (dg_sub (dx_var 5) (dx_callO (ok_l_draw Ev) (hr.mono (by decide)) (Ev.glo 23) takes0 (da_cons (dx_var 0) (da_cons (dx_callB dc_len rfl (Ev.free 2) rfl (da_cons (dx_var 5) da_nil)) da_nil)) (al_cons (al_cons al_nil))) (pg_sub (dx_var 5) (dx_callO (ok_l_draw Ev) (hr.mono (by decide)) (Ev.glo 23) takes0 (da_cons (dx_var 0) (da_cons (dx_callB dc_len rfl (Ev.free 2) rfl (da_cons (dx_var 5) da_nil)) da_nil)) (al_cons (al_cons al_nil))) set_list)) nx_sub)) dss_nil)
  (dss_cons (ds_if (dt_cmp (do_eq hu2) (dx_var 2) dx_int) (dss_one (ds_ret (dx_callO (ok_l_pick Ev) (hr.mono (by decide)) (Ev.glo 27) tk (da_cons (dx_var 0) (da_cons (dx_lst (da_cons (dx_bin do_add (dx_lst (da_cons (dx_var 3) da_nil) (al_cons al_nil)) (dx_var 5)) (da_cons (dx_callO (ok_l_odd Ev) (hr.mono (by decide)) (Ev.glo 28) tk (da_cons (dx_var 0) da_nil) (al_cons al_nil)) (da_cons (dx_tup da_nil al_nil) (da_cons (dx_tup (da_cons (dx_var 3) da_nil) (al_cons al_nil)) da_nil)))) (al_cons (al_cons (al_cons (al_cons al_nil))))) da_nil)) (al_cons (al_cons al_nil))))) dss_nil)
  (dss_one (ds_ret (dx_bin do_add (dx_tup (da_cons (dx_var 3) da_nil) (al_cons al_nil)) (dx_callTy dc_tuple rfl (Ev.free 6) rfl (da_cons (dx_var 5) da_nil))))))))))))
theorem ok_l_odd_deed (Ev : EnvX K mg) : OkF P w K mg base 17 (He.ga K "_law_odd_deed") ["_law_deck_here", "_law_names_here"] (spD ⟨P, w, K⟩ 2 F_l_odd_deed) := by
  obtain ⟨fd, G⟩ := Ev.def_ 18
  exact ⟨⟨fd, fn_l_odd_deed Ev G, G.bindsN fun _ _ _ _ _ _ us hl => match us, hl with | [_, _], _ => rfl⟩, G.kp⟩
theorem fn_l_is_name (Ev : EnvX K mg) {f : Addr} {fd : FuncData} {dvs : List V} (G : FunD K "_law_is_name" "_law_is_name" (defArgs s_l_is_name) (defBody s_l_is_name) (defScope s_l_is_name) dvs [] f fd) : FnOk P w K mg base (L2.CX P w) 14 f fd ["_law_value"] (spD ⟨P, w, K⟩ 1 F_l_is_name) := by
  refine fnR (k := 13) false G sc_l_is_name fun cdv A outer s0 H E hr => ?_
  have hN := sc_l_is_name.nd
  have tk : L2.Takes (CxB P w K mg base ["_law_value", "_law_sign"] "_law_is_name" (defScope s_l_is_name) f cdv A outer s0 H E) (WE E) := takes_of rfl rfl rfl rfl
  have hp : PassesOwn (model P w) (CxB P w K mg base ["_law_value", "_law_sign"] "_law_is_name" (defScope s_l_is_name) f cdv A outer s0 H E).A (CxB P w K mg base ["_law_value", "_law_sign"] "_law_is_name" (defScope s_l_is_name) f cdv A outer s0 H E).env (CxB P w K mg base ["_law_value", "_law_sign"] "_law_is_name" (defScope s_l_is_name) f cdv A outer s0 H E).xe := passes_of rfl
  have hu4 : (CxB P w K mg base ["_law_value", "_law_sign"] "_law_is_name" (defScope s_l_is_name) f cdv A outer s0 H E).A.units + 400 < cLine := units4 hr (by decide)
  have hu2 : (CxB P w K mg base ["_law_value", "_law_sign"] "_law_is_name" (defScope s_l_is_name) f cdv A outer s0 H E).A.units + 200 < cLine := by omega
  have hu1 : (CxB P w K mg base ["_law_value", "_law_sign"] "_law_is_name" (defScope s_l_is_name) f cdv A outer s0 H E).A.units + 1 < cLine := by omega
  have hc : (CxB P w K mg base ["_law_value", "_law_sign"] "_law_is_name" (defScope s_l_is_name) f cdv A outer s0 H E).calm = true := rfl
  exact (dss_cons (ds_if (dt_w (dw_or (dt_not (dt_bl (dx_callB (dc_isi (ktX_ok Ev)) rfl (Ev.free 1) rfl (da_cons (dx_var 0) (da_cons (dx_bltn (v := .ty "str") rfl (Ev.free 0) rfl rfl rfl) da_nil))))) (dw_or (dt_cmp (do_eq hu2) (dx_var 0) dx_str) (dw_or1 (dt_cmp do_gt (dx_callB dc_len rfl (Ev.free 2) rfl (da_cons (dx_var 0) da_nil)) dx_int))))) (dss_one (ds_ret dx_bl)) dss_nil)
  (dss_one (ds_ret (dx_cmp (do_eq hu2) (dx_comp [("_law_sign", 1)] hc hN (di_str (dx_var 0)) (blkO (N := ["_law_value", "_law_sign"]) (sc := defScope s_l_is_name) rfl rfl (by decide +kernel)) (fun _ _ _ _ _ => (dg_name (i := 1) hN)) (fun _ _ _ _ _ => (dts_one (dt_cmp (do_notin hu4) (dx_var 1) dx_str))) (fun _ _ _ _ _ => (dx_var 1))) (dx_lst da_nil al_nil)))))
theorem ok_l_is_name (Ev : EnvX K mg) : OkF P w K mg base 14 (He.ga K "_law_is_name") ["_law_value"] (spD ⟨P, w, K⟩ 1 F_l_is_name) := by
  obtain ⟨fd, G⟩ := Ev.def_ 19
  exact ⟨⟨fd, fn_l_is_name Ev G, G.bindsN fun _ _ _ _ _ _ us hl => match us, hl with | [_], _ => rfl⟩, G.kp⟩
theorem fn_l_deed_error (Ev : EnvX K mg) {f : Addr} {fd : FuncData} {dvs : List V} (G : FunD K "_law_deed_error" "_law_deed_error" (defArgs s_l_deed_error) (defBody s_l_deed_error) (defScope s_l_deed_error) dvs [] f fd) : FnOk P w K mg base (L2.CX P w) 15 f fd ["_law_value"] (spD ⟨P, w, K⟩ 1 F_l_deed_error) := by
  refine fnR (k := 14) false G sc_l_deed_error fun cdv A outer s0 H E hr => ?_
  have hN := sc_l_deed_error.nd
  have tk : L2.Takes (CxB P w K mg base ["_law_value", "_law_wrong", "_law_item"] "_law_deed_error" (defScope s_l_deed_error) f cdv A outer s0 H E) (WE E) := takes_of rfl rfl rfl rfl
  have hp : PassesOwn (model P w) (CxB P w K mg base ["_law_value", "_law_wrong", "_law_item"] "_law_deed_error" (defScope s_l_deed_error) f cdv A outer s0 H E).A (CxB P w K mg base ["_law_value", "_law_wrong", "_law_item"] "_law_deed_error" (defScope s_l_deed_error) f cdv A outer s0 H E).env (CxB P w K mg base ["_law_value", "_law_wrong", "_law_item"] "_law_deed_error" (defScope s_l_deed_error) f cdv A outer s0 H E).xe := passes_of rfl
  have hu4 : (CxB P w K mg base ["_law_value", "_law_wrong", "_law_item"] "_law_deed_error" (defScope s_l_deed_error) f cdv A outer s0 H E).A.units + 400 < cLine := units4 hr (by decide)
  have hu2 : (CxB P w K mg base ["_law_value", "_law_wrong", "_law_item"] "_law_deed_error" (defScope s_l_deed_error) f cdv A outer s0 H E).A.units + 200 < cLine := by omega
  have hu1 : (CxB P w K mg base ["_law_value", "_law_wrong", "_law_item"] "_law_deed_error" (defScope s_l_deed_error) f cdv A outer s0 H E).A.units + 1 < cLine := by omega
  have hc : (CxB P w K mg base ["_law_value", "_law_wrong", "_law_item"] "_law_deed_error" (defScope s_l_deed_error) f cdv A outer s0 H E).calm = true := rfl
  exact (dss_cons (ds_if (dt_w (dw_or (dt_not (dt_bl (dx_callB (dc_isi (ktX_ok Ev)) rfl (Ev.free 1) rfl (da_cons (dx_var 0) (da_cons (dx_bltn (v := .ty "tuple") rfl (Ev.free 6) rfl rfl rfl) da_nil))))) (dw_or (dt_cmp (do_eq hu2) (dx_var 0) (dx_tup da_nil al_nil)) (dw_or1 (dt_not (dt_bl (dx_callB (dc_isi (ktX_ok Ev)) rfl (Ev.free 1) rfl (da_cons (dx_ix (dx_var 0) dx_int) (da_cons (dx_bltn (v := .ty "str") rfl (Ev.free 0) rfl rfl rfl) da_nil))))))))) (dss_one (ds_ret dx_str)) dss_nil)
  (dss_cons (ds_if (dt_cmp (do_notin hu4) (dx_ix (dx_var 0) dx_int) (dx_callO0 (ok_l_words Ev) (hr.mono (by decide)) (Ev.glo 26) tk)) (dss_one (ds_ret dx_str)) dss_nil)
  (dss_cons (ds_if (dt_cmp (do_ne hu2) (dx_callB dc_len rfl (Ev.free 2) rfl (da_cons (dx_var 0) da_nil)) (dx_bin do_sub dx_int (dx_callTy dc_int rfl (Ev.free 22) rfl (da_cons (dx_cmp (do_in hu4) (dx_ix (dx_var 0) dx_int) (dx_tup (da_cons dx_str (da_cons dx_str (da_cons dx_str (da_cons dx_str da_nil)))) (al_cons (al_cons (al_cons (al_cons al_nil)))))) da_nil)))) (dss_one (ds_ret dx_str)) dss_nil)
  (dss_cons (ds_setLc (i := 1) false [("_law_item", 2)] hc hN (di_seq (dx_sl (dx_var 0) (do_some dx_int) do_none)) (blkO (N := ["_law_value", "_law_wrong", "_law_item"]) (sc := defScope s_l_deed_error) rfl rfl (by decide +kernel)) (fun _ _ _ _ _ => (dg_name (i := 2) hN)) (fun _ _ _ _ _ => (dts_one (dt_not (dt_bl (dx_callO (ok_l_is_name Ev) (hr.mono (by decide)) (Ev.glo 29) takes0 (da_cons (dx_var 2) da_nil) (al_cons al_nil)))))) (fun _ _ _ _ _ => (dx_var 2)))
  (dss_one (ds_ret (dx_if (dt_cmp (do_ne hu2) (dx_var 1) (dx_lst da_nil al_nil)) dx_str dx_non)))))))
theorem ok_l_deed_error (Ev : EnvX K mg) : OkF P w K mg base 15 (He.ga K "_law_deed_error") ["_law_value"] (spD ⟨P, w, K⟩ 1 F_l_deed_error) := by
  obtain ⟨fd, G⟩ := Ev.def_ 20
  exact ⟨⟨fd, fn_l_deed_error Ev G, G.bindsN fun _ _ _ _ _ _ us hl => match us, hl with | [_], _ => rfl⟩, G.kp⟩
theorem fn_l_roles (Ev : EnvX K mg) {f : Addr} {fd : FuncData} {dvs : List V} (G : FunD K "_law_roles" "_law_roles" (defArgs s_l_roles) (defBody s_l_roles) (defScope s_l_roles) dvs [] f fd) : FnOk P w K mg base (L2.CX P w) 14 f fd ["_law_deeds"] (spD ⟨P, w, K⟩ 1 F_l_roles) := by
  refine fnR (k := 13) false G sc_l_roles fun cdv A outer s0 H E hr => ?_
  have hN := sc_l_roles.nd
  have tk : L2.Takes (CxB P w K mg base ["_law_deeds", "_law_old", "_law_new", "_law_deed", "_law_made", "_law_k"] "_law_roles" (defScope s_l_roles) f cdv A outer s0 H E) (WE E) := takes_of rfl rfl rfl rfl
  have hp : PassesOwn (model P w) (CxB P w K mg base ["_law_deeds", "_law_old", "_law_new", "_law_deed", "_law_made", "_law_k"] "_law_roles" (defScope s_l_roles) f cdv A outer s0 H E).A (CxB P w K mg base ["_law_deeds", "_law_old", "_law_new", "_law_deed", "_law_made", "_law_k"] "_law_roles" (defScope s_l_roles) f cdv A outer s0 H E).env (CxB P w K mg base ["_law_deeds", "_law_old", "_law_new", "_law_deed", "_law_made", "_law_k"] "_law_roles" (defScope s_l_roles) f cdv A outer s0 H E).xe := passes_of rfl
  have hu4 : (CxB P w K mg base ["_law_deeds", "_law_old", "_law_new", "_law_deed", "_law_made", "_law_k"] "_law_roles" (defScope s_l_roles) f cdv A outer s0 H E).A.units + 400 < cLine := units4 hr (by decide)
  have hu2 : (CxB P w K mg base ["_law_deeds", "_law_old", "_law_new", "_law_deed", "_law_made", "_law_k"] "_law_roles" (defScope s_l_roles) f cdv A outer s0 H E).A.units + 200 < cLine := by omega
  have hu1 : (CxB P w K mg base ["_law_deeds", "_law_old", "_law_new", "_law_deed", "_law_made", "_law_k"] "_law_roles" (defScope s_l_roles) f cdv A outer s0 H E).A.units + 1 < cLine := by omega
  have hc : (CxB P w K mg base ["_law_deeds", "_law_old", "_law_new", "_law_deed", "_law_made", "_law_k"] "_law_roles" (defScope s_l_roles) f cdv A outer s0 H E).calm = true := rfl
  exact (dss_cons (ds_par (i := 1) (j := 2) hc hN (da_cons (dx_new da_nil al_nil) (da_cons (dx_new da_nil al_nil) da_nil)))
  (dss_cons (ds_for hp hc (di_seq (dx_var 0)) (dg_name (i := 3) hN) nx_name (dss_cons (ds_set (i := 4) hN (dx_dget2 hu1 (dx_dctC [(.inr "wrap", .int 2), (.inr "put", .int 1)] [(.inr "wrap", .int 2), (.inr "put", .int 1)] (pps_cons pe_str pe_int (pps_cons pe_str pe_int pps_nil))) (dx_ix (dx_var 3) dx_int) dx_int))
  (dss_one (ds_for hp hc (di_range2 rfl (Ev.free 24) (da_cons dx_int (da_cons (dx_callB dc_len rfl (Ev.free 2) rfl (da_cons (dx_var 3) da_nil)) da_nil)) (al_cons (al_cons al_nil))) (dg_name (i := 5) hN) nx_name (dss_one (ds_if (dt_cmp (do_notin hu4) (dx_ix (dx_var 3) (dx_var 5)) (dx_bin do_add (dx_var 1) (dx_var 2))) (dss_one (ds_if (dt_cmp (do_eq hu2) (dx_var 5) (dx_var 4)) (dss_one (ds_expr (dx_lm PySem.F.slot_list_append PySem.F.type_list_append dm_append (dx_var 2) (da_cons (dx_ix (dx_var 3) (dx_var 5)) da_nil)))) (dss_one (ds_expr (dx_lm PySem.F.slot_list_append PySem.F.type_list_append dm_append (dx_var 1) (da_cons (dx_ix (dx_var 3) (dx_var 5)) da_nil)))))) dss_nil))))))
  (dss_one (ds_ret (dx_tup (da_cons (dx_callTy dc_tuple rfl (Ev.free 6) rfl (da_cons (dx_callB dc_sorted rfl (Ev.free 13) rfl (da_cons (dx_var 1) da_nil)) da_nil)) (da_cons (dx_callTy dc_tuple rfl (Ev.free 6) rfl (da_cons (dx_callB dc_sorted rfl (Ev.free 13) rfl (da_cons (dx_var 2) da_nil)) da_nil)) da_nil)) (al_cons (al_cons al_nil)))))))
theorem ok_l_roles (Ev : EnvX K mg) : OkF P w K mg base 14 (He.ga K "_law_roles") ["_law_deeds"] (spD ⟨P, w, K⟩ 1 F_l_roles) := by
  obtain ⟨fd, G⟩ := Ev.def_ 21
  exact ⟨⟨fd, fn_l_roles Ev G, G.bindsN fun _ _ _ _ _ _ us hl => match us, hl with | [_], _ => rfl⟩, G.kp⟩
theorem fn_l_script_error (Ev : EnvX K mg) {f : Addr} {fd : FuncData} {dvs : List V} (G : FunD K "_law_script_error" "_law_script_error" (defArgs s_l_script_error) (defBody s_l_script_error) (defScope s_l_script_error) dvs [] f fd) : FnOk P w K mg base (L2.CX P w) 16 f fd ["_law_value"] (spD ⟨P, w, K⟩ 1 F_l_script_error) := by
  refine fnR (k := 15) false G sc_l_script_error fun cdv A outer s0 H E hr => ?_
  have hN := sc_l_script_error.nd
  have tk : L2.Takes (CxB P w K mg base ["_law_value", "_law_k", "_law_word", "_law_old", "_law_new"] "_law_script_error" (defScope s_l_script_error) f cdv A outer s0 H E) (WE E) := takes_of rfl rfl rfl rfl
  have hp : PassesOwn (model P w) (CxB P w K mg base ["_law_value", "_law_k", "_law_word", "_law_old", "_law_new"] "_law_script_error" (defScope s_l_script_error) f cdv A outer s0 H E).A (CxB P w K mg base ["_law_value", "_law_k", "_law_word", "_law_old", "_law_new"] "_law_script_error" (defScope s_l_script_error) f cdv A outer s0 H E).env (CxB P w K mg base ["_law_value", "_law_k", "_law_word", "_law_old", "_law_new"] "_law_script_error" (defScope s_l_script_error) f cdv A outer s0 H E).xe := passes_of rfl
  have hu4 : (CxB P w K mg base ["_law_value", "_law_k", "_law_word", "_law_old", "_law_new"] "_law_script_error" (defScope s_l_script_error) f cdv A outer s0 H E).A.units + 400 < cLine := units4 hr (by decide)
  have hu2 : (CxB P w K mg base ["_law_value", "_law_k", "_law_word", "_law_old", "_law_new"] "_law_script_error" (defScope s_l_script_error) f cdv A outer s0 H E).A.units + 200 < cLine := by omega
  have hu1 : (CxB P w K mg base ["_law_value", "_law_k", "_law_word", "_law_old", "_law_new"] "_law_script_error" (defScope s_l_script_error) f cdv A outer s0 H E).A.units + 1 < cLine := by omega
  have hc : (CxB P w K mg base ["_law_value", "_law_k", "_law_word", "_law_old", "_law_new"] "_law_script_error" (defScope s_l_script_error) f cdv A outer s0 H E).calm = true := rfl
  exact (dss_cons (ds_if (dt_w (dw_or (dt_not (dt_bl (dx_callB (dc_isi (ktX_ok Ev)) rfl (Ev.free 1) rfl (da_cons (dx_var 0) (da_cons (dx_bltn (v := .ty "tuple") rfl (Ev.free 6) rfl rfl rfl) da_nil))))) (dw_or1 (dt_cmp do_gt (dx_callB dc_len rfl (Ev.free 2) rfl (da_cons (dx_var 0) da_nil)) dx_int)))) (dss_one (ds_ret (dx_tup (da_cons dx_non (da_cons dx_str da_nil)) (al_cons (al_cons al_nil))))) dss_nil)
  (dss_cons (ds_for hp hc (di_range1 rfl (Ev.free 24) (da_cons (dx_callB dc_len rfl (Ev.free 2) rfl (da_cons (dx_var 0) da_nil)) da_nil) (al_cons al_nil)) (dg_name (i := 1) hN) nx_name (dss_cons (ds_set (i := 2) hN (dx_callO (ok_l_deed_error Ev) (hr.mono (by decide)) (Ev.glo 30) tk (da_cons (dx_ix (dx_var 0) (dx_var 1)) da_nil) (al_cons al_nil)))
  (dss_one (ds_if (dt_cmp do_isnot (dx_var 2) dx_non) (dss_one (ds_ret (dx_tup (da_cons (dx_var 1) (da_cons (dx_var 2) da_nil)) (al_cons (al_cons al_nil))))) dss_nil))))
  (dss_cons (ds_asg (dx_callO (ok_l_roles Ev) (hr.mono (by decide)) (Ev.glo 31) tk (da_cons (dx_var 0) da_nil) (al_cons al_nil)) (dg_tup hc (dgs_cons (dg_name (i := 3) hN) (dgs_cons (dg_name (i := 4) hN) dgs_nil))) (nx_tup (nxs_cons nx_name (nxs_cons nx_name nxs_nil))))
  (dss_cons (ds_if (dt_cmp do_gt (dx_callB dc_len rfl (Ev.free 2) rfl (da_cons (dx_var 3) da_nil)) dx_int) (dss_one (ds_ret (dx_tup (da_cons dx_non (da_cons dx_str da_nil)) (al_cons (al_cons al_nil))))) dss_nil)
  (dss_one (ds_ret (dx_if (dt_cmp do_gt (dx_callB dc_len rfl (Ev.free 2) rfl (da_cons (dx_var 4) da_nil)) dx_int) (dx_tup (da_cons dx_non (da_cons dx_str da_nil)) (al_cons (al_cons al_nil))) dx_non)))))))
theorem ok_l_script_error (Ev : EnvX K mg) : OkF P w K mg base 16 (He.ga K "_law_script_error") ["_law_value"] (spD ⟨P, w, K⟩ 1 F_l_script_error) := by
  obtain ⟨fd, G⟩ := Ev.def_ 22
  exact ⟨⟨fd, fn_l_script_error Ev G, G.bindsN fun _ _ _ _ _ _ us hl => match us, hl with | [_], _ => rfl⟩, G.kp⟩
theorem fn_l_told (Ev : EnvX K mg) {f : Addr} {fd : FuncData} {dvs : List V} (G : FunD K "_law_told" "_law_told" (defArgs s_l_told) (defBody s_l_told) (defScope s_l_told) dvs [] f fd) : FnOk P w K mg base (L2.CX P w) 20 f fd ["_law_value"] (spD ⟨P, w, K⟩ 1 F_l_told) := by
  refine fnR (k := 19) false G sc_l_told fun cdv A outer s0 H E hr => ?_
  have hN := sc_l_told.nd
  have tk : L2.Takes (CxB P w K mg base ["_law_value", "_law_found", "e"] "_law_told" (defScope s_l_told) f cdv A outer s0 H E) (WE E) := takes_of rfl rfl rfl rfl
  have hp : PassesOwn (model P w) (CxB P w K mg base ["_law_value", "_law_found", "e"] "_law_told" (defScope s_l_told) f cdv A outer s0 H E).A (CxB P w K mg base ["_law_value", "_law_found", "e"] "_law_told" (defScope s_l_told) f cdv A outer s0 H E).env (CxB P w K mg base ["_law_value", "_law_found", "e"] "_law_told" (defScope s_l_told) f cdv A outer s0 H E).xe := passes_of rfl
  have hu4 : (CxB P w K mg base ["_law_value", "_law_found", "e"] "_law_told" (defScope s_l_told) f cdv A outer s0 H E).A.units + 400 < cLine := units4 hr (by decide)
  have hu2 : (CxB P w K mg base ["_law_value", "_law_found", "e"] "_law_told" (defScope s_l_told) f cdv A outer s0 H E).A.units + 200 < cLine := by omega
  have hu1 : (CxB P w K mg base ["_law_value", "_law_found", "e"] "_law_told" (defScope s_l_told) f cdv A outer s0 H E).A.units + 1 < cLine := by omega
  have hc : (CxB P w K mg base ["_law_value", "_law_found", "e"] "_law_told" (defScope s_l_told) f cdv A outer s0 H E).calm = true := rfl
  exact (dss_cons (ds_try (exX_ok Ev) rfl rfl tk (fun W' pn xe tk' hp => (dss_one (ds_set (i := 1) hN (dxm_Script Ev (hr.mono (by decide)) tk' (da_cons (dx_var 0) da_nil) (al_cons al_nil))))) (.as_ hN rfl rfl ⟨rfl, by decide, .inl (Ev.glo 34)⟩ (fun a oe cls dd pn hz hf => tC0_of fun cn ecn => by subst ecn; exact (dss_one (ds_ret (dx_if (dt_w (dw_and (dt_bl (dx_callB (dc_isiE (ktE_ok Ev) hz hf) rfl (Ev.free 1) rfl (da_cons (dx_var 2) (da_cons (dx_cls rfl (Ev.glo 32)) da_nil)))) (dw_and1 (dt_not (dt_bl (dx_callB (dc_isiE (ktE_ok Ev) hz hf) rfl (Ev.free 1) rfl (da_cons (dx_var 2) (da_cons (dx_cls rfl (Ev.glo 33)) da_nil)))))))) (dx_lst (da_cons (dx_xf (xcX_ok Ev) hz hf (dx_var 2)) da_nil) (al_cons al_nil)) dx_non)))) HdsG.nil) (by
    intro t ht
    rcases List.mem_cons.mp ht with rfl | ht
    · first | exact fun _ _ _ _ _ => rfl | (refine hpar_ret (fe := fun a dd cn => _) fun a dd x δ m => ?_; by_cases hl : 2 < δ.length <;> simp [setE, eIf, cAnd, cOr, cNot, cBl, cTru, eCallB, opIsiE, aCons, aNil, eVar, eXf, eLst, eTup, eK, List.getElem?_set, hl])
    cases ht))
  (dss_one (ds_ret (dx_if (dt_cmp (do_eq hu2) (pr_Script_deeds Ev (hr.mono (by decide)) (dx_var 1)) (dx_var 0)) (dx_lst da_nil al_nil) dx_non))))
theorem ok_l_told (Ev : EnvX K mg) : OkF P w K mg base 20 (He.ga K "_law_told") ["_law_value"] (spD ⟨P, w, K⟩ 1 F_l_told) := by
  obtain ⟨fd, G⟩ := Ev.def_ 23
  exact ⟨⟨fd, fn_l_told Ev G, G.bindsN fun _ _ _ _ _ _ us hl => match us, hl with | [_], _ => rfl⟩, G.kp⟩
theorem fn_law (Ev : EnvX K mg) {f : Addr} {fd : FuncData} {dvs : List V} (G : FunD K "law" "law" (defArgs s_law) (defBody s_law) (defScope s_law) dvs [] f fd) : FnG P w K mg base (L2.CX P w) 21 f fd ["_law_script"] (spD ⟨P, w, K⟩ 1 F_law) := by
  refine fnDG (k := 20) false G sc_law fun cdv A outer s0 H E hgu0 hr => ?_
  have hN := sc_law.nd
  have tk : L2.Takes (CxB P w K mg base ["_law_script", "_law_deck_here", "_law_names_here", "_law_way", "_law_rare", "_law_few", "_law_value", "_law_k", "_law_deed", "_law_error", "_law_due"] "law" (defScope s_law) f cdv A outer s0 H E) (WE E) := takes_of rfl rfl rfl rfl
  have hp : PassesOwn (model P w) (CxB P w K mg base ["_law_script", "_law_deck_here", "_law_names_here", "_law_way", "_law_rare", "_law_few", "_law_value", "_law_k", "_law_deed", "_law_error", "_law_due"] "law" (defScope s_law) f cdv A outer s0 H E).A (CxB P w K mg base ["_law_script", "_law_deck_here", "_law_names_here", "_law_way", "_law_rare", "_law_few", "_law_value", "_law_k", "_law_deed", "_law_error", "_law_due"] "law" (defScope s_law) f cdv A outer s0 H E).env (CxB P w K mg base ["_law_script", "_law_deck_here", "_law_names_here", "_law_way", "_law_rare", "_law_few", "_law_value", "_law_k", "_law_deed", "_law_error", "_law_due"] "law" (defScope s_law) f cdv A outer s0 H E).xe := passes_of rfl
  have hu4 : (CxB P w K mg base ["_law_script", "_law_deck_here", "_law_names_here", "_law_way", "_law_rare", "_law_few", "_law_value", "_law_k", "_law_deed", "_law_error", "_law_due"] "law" (defScope s_law) f cdv A outer s0 H E).A.units + 400 < cLine := units4 hr (by decide)
  have hu2 : (CxB P w K mg base ["_law_script", "_law_deck_here", "_law_names_here", "_law_way", "_law_rare", "_law_few", "_law_value", "_law_k", "_law_deed", "_law_error", "_law_due"] "law" (defScope s_law) f cdv A outer s0 H E).A.units + 200 < cLine := by omega
  have hu1 : (CxB P w K mg base ["_law_script", "_law_deck_here", "_law_names_here", "_law_way", "_law_rare", "_law_few", "_law_value", "_law_k", "_law_deed", "_law_error", "_law_due"] "law" (defScope s_law) f cdv A outer s0 H E).A.units + 1 < cLine := by omega
  have hc : (CxB P w K mg base ["_law_script", "_law_deck_here", "_law_names_here", "_law_way", "_law_rare", "_law_few", "_law_value", "_law_k", "_law_deed", "_law_error", "_law_due"] "law" (defScope s_law) f cdv A outer s0 H E).calm = true := rfl
  have hgu : (CxB P w K mg base ["_law_script", "_law_deck_here", "_law_names_here", "_law_way", "_law_rare", "_law_few", "_law_value", "_law_k", "_law_deed", "_law_error", "_law_due"] "law" (defScope s_law) f cdv A outer s0 H E).A.guards = some [] := guards_deeper hgu0
  exact (dss_cons (ds_set (i := 1) hN (dx_callO (ok_l_deck Ev) (hr.mono (by decide)) (Ev.glo 35) tk (da_cons (dx_var 0) da_nil) (al_cons al_nil)))
  (dss_cons (ds_set (i := 2) hN (dx_callO (ok_l_names Ev) (hr.mono (by decide)) (Ev.glo 36) tk (da_cons (dx_var 1) (da_cons dx_int da_nil)) (al_cons (al_cons al_nil))))
  (dss_cons (ds_par (i := 3) (j := 4) hc hN (da_cons (dx_callO (ok_l_draw Ev) (hr.mono (by decide)) (Ev.glo 23) tk (da_cons (dx_var 1) (da_cons dx_int da_nil)) (al_cons (al_cons al_nil))) (da_cons (dx_bin do_add dx_int (dx_callO (ok_l_draw Ev) (hr.mono (by decide)) (Ev.glo 23) tk (da_cons (dx_var 1) (da_cons dx_int da_nil)) (al_cons (al_cons al_nil)))) da_nil)))
  (dss_cons (ds_set (i := 5) hN (dx_sl (dx_var 2) do_none (do_some (dx_bin do_add dx_int (dx_callO (ok_l_draw Ev) (hr.mono (by decide)) (Ev.glo 23) tk (da_cons (dx_var 1) (da_cons dx_int da_nil)) (al_cons (al_cons al_nil)))))))
  (dss_cons (ds_set (i := 6) hN (dx_tup da_nil al_nil))
  (dss_cons (ds_for hp hc (di_range1 rfl (Ev.free 24) (da_cons (dx_callO (ok_l_draw Ev) (hr.mono (by decide)) (Ev.glo 23) tk (da_cons (dx_var 1) (da_cons dx_int da_nil)) (al_cons (al_cons al_nil))) da_nil) (al_cons al_nil)) (dg_name (i := 7) hN) nx_name (dss_cons (ds_set (i := 8) hN (dx_callO (ok_l_some_deed Ev) (hr.mono (by decide)) (Ev.glo 37) tk (da_cons (dx_var 1) (da_cons (dx_var 5) da_nil)) (al_cons (al_cons al_nil))))
  (dss_cons (ds_if (dt_cmp (do_eq hu2) (dx_callO (ok_l_draw Ev) (hr.mono (by decide)) (Ev.glo 23) tk (da_cons (dx_var 1) (da_cons (dx_var 4) da_nil)) (al_cons (al_cons al_nil))) dx_int) (dss_one (ds_set (i := 8) hN (dx_callO (ok_l_odd_deed Ev) (hr.mono (by decide)) (Ev.glo 38) tk (da_cons (dx_var 1) (da_cons (dx_var 5) da_nil)) (al_cons (al_cons al_nil))))) dss_nil)
  (dss_one (ds_set (i := 6) hN (dx_bin do_add (dx_var 6) (dx_tup (da_cons (dx_var 8) da_nil) (al_cons al_nil))))))))
  (dss_cons (ds_if (dt_cmp (do_eq hu2) (dx_var 3) dx_int) (dss_one (ds_set (i := 6) hN (dx_callO (ok_l_pick Ev) (hr.mono (by decide)) (Ev.glo 27) tk (da_cons (dx_var 1) (da_cons (dx_lst (da_cons (dx_callTy dc_list rfl (Ev.free 39) rfl (da_cons (dx_var 6) da_nil)) (da_cons (dx_callO (ok_l_odd Ev) (hr.mono (by decide)) (Ev.glo 28) tk (da_cons (dx_var 1) da_nil) (al_cons al_nil)) (da_cons (dxm0_Script Ev (hr.mono (by decide)) tk) (da_cons (dxm_Script Ev (hr.mono (by decide)) tk (da_cons (dx_tup (da_cons (dx_tup (da_cons dx_str (da_cons (dx_ix (dx_var 2) dx_int) da_nil)) (al_cons (al_cons al_nil))) da_nil) (al_cons al_nil)) da_nil) (al_cons al_nil)) (da_cons (dx_tup (da_cons (dx_var 6) da_nil) (al_cons al_nil)) da_nil))))) (al_cons (al_cons (al_cons (al_cons (al_cons al_nil)))))) da_nil)) (al_cons (al_cons al_nil))))) dss_nil)
  (dss_cons (ds_set (i := 9) hN dx_non)
  (dss_cons (ds_if (dt_bl (dx_callB (dc_isi (ktX_ok Ev)) rfl (Ev.free 1) rfl (da_cons (dx_var 6) (da_cons (dx_cls rfl (Ev.glo 40)) da_nil)))) (dss_one (ds_set (i := 9) hN (dx_tup (da_cons dx_non (da_cons dx_str da_nil)) (al_cons (al_cons al_nil))))) (dss_one (ds_set (i := 9) hN (dx_callO (ok_l_script_error Ev) (hr.mono (by decide)) (Ev.glo 41) tk (da_cons (dx_var 6) da_nil) (al_cons al_nil)))))
  (dss_cons (ds_set (i := 10) hN (dx_if (dt_cmp do_is (dx_var 9) dx_non) (dx_lst da_nil al_nil) (dx_lst (da_cons (dx_var 9) da_nil) (al_cons al_nil))))
  (dss_one (ds_ret (dx_cmp (do_eq hu2) (dx_callB (dc_repr hgu hu2) rfl (Ev.free 43) rfl (da_cons (dx_lst (da_cons (dx_callO (ok_l_told Ev) (hr.mono (by decide)) (Ev.glo 42) tk (da_cons (dx_var 6) da_nil) (al_cons al_nil)) (da_cons (dx_callO (ok_l_told Ev) (hr.mono (by decide)) (Ev.glo 42) tk (da_cons (dx_var 6) da_nil) (al_cons al_nil)) da_nil)) (al_cons (al_cons al_nil))) da_nil)) (dx_callB (dc_repr hgu hu2) rfl (Ev.free 43) rfl (da_cons (dx_lst (da_cons (dx_var 10) (da_cons (dx_var 10) da_nil)) (al_cons (al_cons al_nil))) da_nil)))))))))))))))
end
end K80
namespace K80
open PySem L2 DL PySem.Spec
open PyProof.Rows hiding St
abbrev R : PySem.W.OpenRow := PySem.W.OpenLaw.row PySem.Challenge.rw_twigscripts_k80_what_is_no_script_object
abbrev hk : PySem.W.Hook := hookB 5 fa fn bs
def ob (s : PySem.W.SharedT) : AlB := obsBG 5 fa fn bs (HandSHeadRun.getT s)
theorem ob_eq (s : PySem.W.SharedT) : ob s = hk.obs s.abs := obsBG_eq (HandSHeadRun.getT_eq s)
def loose1 : List PySem.Str := ["_wall", "MAX_DEEDS", "MAX_DEEP", "MAX_NAMES", "MAX_NEW", "MAX_OLD", "MOVES", "WORDS", "SINGLE", "begin_of", "end_of", "span", "is_there", "is_within", "old_of", "new_of", "stop_of", "moved", "swapped", "turned", "poured", "done", "done_all", "TwigError", "BadDeed", "BadScript", "BadWood", "Stopped", "Unlike", "LETTERS"]
def loose2 : List PySem.Str := ["MAX_LETTERS", "is_name", "wood_error", "row_of", "wood_from", "deed_error", "makes", "roles", "old_names", "new_names", "script_error", "do_script", "script_text", "Script", "_law_deck", "_law_draw", "_law_name", "_law_names", "_law_pick", "_law_words", "_law_some_deed", "_law_odd", "_law_odd_deed", "_law_is_name", "_law_deed_error", "_law_roles", "_law_script_error", "_law_told"]
abbrev loose : List PySem.Str := loose1 ++ loose2
theorem run (w : World) : HandSHeadRun.RunEq R (PySem.W.view R.prog [65]) hk ob 6000 loose w := by
  intro os
  kernel_rfl
end K80
namespace K80
open PySem L2 DL
/-- a value that is told of: no box, no class; a text that is not too long -/
def tg : D → Bool
  | .non => true | .bl _ => true | .int _ => true | .tup _ => true | .lst _ => true | .dct _ => true
  | .str y => decide (y.length ≤ 1000)
  | _ => false
theorem le_line {n : Nat} (h : n ≤ 1000) : n ≤ sizeLine := Nat.le_trans h (by decide)
/-! ### names -/
def low (c : Nat) : Bool := decide (c ∈ (Str.ofString "abcdefghijklmnopqrstuvwxyz").cps.toList)
def isNm (y : Str) : Bool := decide (1 ≤ y.length ∧ y.length ≤ 8) && y.cps.toList.all low
def isNameD : D → Bool
  | .str y => isNm y
  | _ => false
theorem in_low (c : Nat) (m : Mem) : inD m (.str ⟨#[c]⟩) (.str "abcdefghijklmnopqrstuvwxyz") = some (low c) := by
  simp [inD, oneCode, low]
theorem low_signs (y : Str) {δ : Slots} {m : Mem} (hδ : δ.length = 2) : compL (nName 1) cYes (eBin opIn (eVar 1) (eK (.str "abcdefghijklmnopqrstuvwxyz"))) δ (signs y) m = .ok ((y.cps.toList.map fun c => D.bl (low c))) m := by
  have h := compL_map (t := nName 1) (e := eBin opIn (eVar 1) (eK (.str "abcdefghijklmnopqrstuvwxyz"))) (δ := δ) (m := m) (fun d => match d with | .str z => (match oneCode z with | some c => .bl (low c) | none => .non) | _ => .non) (signs y) fun d hd => by
    obtain ⟨c, hc, rfl⟩ := List.mem_map.mp hd
    refine ⟨δ.set 1 (some (.str ⟨#[c]⟩)), rfl, ?_⟩
    simp [hδ, opIn, in_low, oneCode]
  rw [h]
  simp [signs, oneCode]
theorem blsI_map {α : Type} (l : List α) (p : α → Bool) : blsI (l.map fun c => D.bl (p c)) = some (l.map p) := by
  induction l with
  | nil => rfl
  | cons a l ih => simp [blsI, ih]
theorem is_name_eq (d : D) (m : Mem) (h : tg d = true) : F_is_name [d] m = .ok (.bl (isNameD d)) m := by
  refine runF_rt ?_ rfl rfl
  cases d with
  | str y =>
    have hy : y.length ≤ 1000 := of_decide_eq_true h
    have hs := le_line hy
    by_cases c : 1 ≤ y.length ∧ y.length ≤ 8
    · have c1 : (1 : Int) ≤ (y.length : Int) := by omega
      have c2 : (y.length : Int) ≤ 8 := by omega
      have hl : (signs y).length < sizeLine := by
        have : (signs y).length = y.length := by simp [signs]; rfl
        rw [this]
        exact Nat.lt_of_le_of_lt c.2 (by decide)
      simp [b_is_name, opIsi, tagD, tagN, ktX, ktn, opLen, hs, opLe, opCmp, c1, c2, wipeD, low_signs, opAll, lstI, blsI_map, isNameD, isNm, c, hl]
    · by_cases c1 : (1 : Int) ≤ (y.length : Int)
      · have c2 : ¬ (y.length : Int) ≤ 8 := by omega
        simp [b_is_name, opIsi, tagD, tagN, ktX, ktn, opLen, hs, opLe, opCmp, c1, c2, isNameD, isNm, c]
      · simp [b_is_name, opIsi, tagD, tagN, ktX, ktn, opLen, hs, opLe, opCmp, c1, isNameD, isNm, c]
  | _ => first | (cases h; done) | simp [b_is_name, opIsi, tagD, tagN, ktX, ktn, isNameD]
/-! ### deeds -/
def words : List Str := ["first", "last", "ahead", "behind", "front", "back", "swap", "turn", "lift", "cut", "pour", "wrap", "put"]
def single : List Str := ["front", "back", "lift", "cut"]
def inW (l : List Str) : D → Bool
  | .str y => l.any fun z => z == y
  | _ => false
theorem inD_w (l : List Str) (x : D) (m : Mem) (h : tg x = true) : inD m x (.tup (l.map .str)) = some (inW l x) := by
  have hs : ((l.map D.str).all isStr) = true := by simp [isStr]
  have hf : ((l.map D.str).all flatD) = true := by simp [flatD]
  have key : ((l.map D.str).any fun y => eqD y x) = inW l x := by
    cases x <;> simp [eqD, inW, List.any_map, Function.comp_def]
  unfold inD
  simp only [seqI]
  rw [if_pos, key]
  rw [hs, hf]
  cases x <;> first | (cases h; done) | simp [flatD, isDct]
/-- what is wrong with a deed -/
def deedE : D → D
  | .tup (x :: xs) => if inW words x = false then .str "deed" else if xs.length + 1 ≠ (if inW single x then 2 else 3) then .str "deed" else if xs.all isNameD then .non else .str "name"
  | _ => .str "deed"
/-- a deed whose parts are told of -/
def dg : D → Bool
  | .tup xs => xs.all tg && decide (xs.length ≤ 1000)
  | d => tg d
theorem words_eq : D.tup [.str "first", .str "last", .str "ahead", .str "behind", .str "front", .str "back", .str "swap", .str "turn", .str "lift", .str "cut", .str "pour", .str "wrap", .str "put"] = .tup (words.map .str) := rfl
theorem single_eq : D.tup [.str "front", .str "back", .str "lift", .str "cut"] = .tup (single.map .str) := rfl
theorem nm_comp (k : Nat) {F : List D → Mem → Rs D} (xs : List D) {δ : Slots} {m : Mem} (hk : k < δ.length) (hF : ∀ d m, tg d = true → F [d] m = .ok (.bl (isNameD d)) m) (h : xs.all tg = true) : compL (nName k) cYes (eCall F (aCons (eVar k) aNil)) δ xs m = .ok (xs.map fun d => .bl (isNameD d)) m :=
  compL_map _ xs fun d hd => ⟨δ.set k (some d), rfl, by
    simp [hk, List.getElem?_set, hF d m (List.all_eq_true.mp h d hd)]⟩
theorem len_line {α : Type} {xs : List α} (h : xs.length ≤ 1000) : xs.length < sizeLine := Nat.lt_of_le_of_lt h (by decide)
theorem deedE_box (d : D) : isBox (deedE d) = false := by
  have : deedE d = .non ∨ ∃ y, deedE d = .str y := by
    unfold deedE
    split
    · split
      · exact .inr ⟨_, rfl⟩
      · generalize (if inW single _ = true then 2 else 3 : Nat) = n
        split
        · exact .inr ⟨_, rfl⟩
        · split
          · exact .inl rfl
          · exact .inr ⟨_, rfl⟩
    · exact .inr ⟨_, rfl⟩
  rcases this with h | ⟨y, h⟩ <;> rw [h] <;> rfl
theorem deed_error_eq (d : D) (m : Mem) (h : dg d = true) : F_deed_error [d] m = .ok (deedE d) m := by
  refine runF_rt ?_ (deedE_box d) rfl
  cases d with
  | tup xs =>
    cases xs with
    | nil => simp [b_deed_error, opIsi, tagD, tagN, ktX, ktn, deedE]
    | cons x xs =>
      simp only [dg, List.all_cons, Bool.and_eq_true, decide_eq_true_eq] at h
      obtain ⟨⟨h1, h2⟩, h3⟩ := h
      have e1 := inD_w words x m h1
      have e2 := inD_w single x m h1
      rw [← words_eq] at e1
      rw [← single_eq] at e2
      have hln : xs.length < sizeLine := len_line (by simp at h3; omega)
      have hc := nm_comp 1 xs (δ := [some (.tup (x :: xs)), none]) (m := m) (by simp) is_name_eq h2
      have h2s : 2 < sizeLine := by decide
      have h1s : 1 < sizeLine := by decide
      cases hw : inW words x with
      | false => simp [b_deed_error, opIsi, tagD, tagN, ktX, ktn, deedE, opNotIn, e1, hw]
      | true =>
        cases hs : inW single x with
        | false =>
          by_cases q : xs.length = 2
          · cases ha : xs.all isNameD <;> simp [b_deed_error, opIsi, tagD, tagN, ktX, ktn, deedE, opNotIn, opIn, e1, e2, hw, hs, q, h2s, wipeD, hc, ha]
          · have q2 : ¬ ((xs.length : Int) + 1 = 3) := by omega
            simp [b_deed_error, opIsi, tagD, tagN, ktX, ktn, deedE, opNotIn, opIn, e1, e2, hw, hs, q, q2]
        | true =>
          by_cases q : xs.length = 1
          · cases ha : xs.all isNameD <;> simp [b_deed_error, opIsi, tagD, tagN, ktX, ktn, deedE, opNotIn, opIn, e1, e2, hw, hs, q, h1s, wipeD, hc, ha]
          · have q2 : ¬ ((xs.length : Int) + 1 = 2) := by omega
            simp [b_deed_error, opIsi, tagD, tagN, ktX, ktn, deedE, opNotIn, opIn, e1, e2, hw, hs, q, q2]
  | _ => first | (cases h; done) | simp [b_deed_error, opIsi, tagD, tagN, ktX, ktn, deedE]
end K80
namespace K80
open PySem L2 DL
/-! ### the law's own names and deeds -/
theorem not_low_signs (y : Str) {δ : Slots} {m : Mem} (hδ : δ.length = 2) : compL (nName 1) (cBl (eBin opNotIn (eVar 1) (eK (.str "abcdefghijklmnopqrstuvwxyz")))) (eVar 1) δ (signs y) m = .ok ((y.cps.toList.filter fun c => !low c).map fun c => D.str ⟨#[c]⟩) m := by
  have h := compL_pure (t := nName 1) (c := cBl (eBin opNotIn (eVar 1) (eK (.str "abcdefghijklmnopqrstuvwxyz")))) (e := eVar 1) (δ := δ) (m := m) (fun d => match d with | .str z => (match oneCode z with | some c => !low c | none => false) | _ => false) (fun d => d) (signs y) fun d hd => by
    obtain ⟨c, hc, rfl⟩ := List.mem_map.mp hd
    refine ⟨δ.set 1 (some (.str ⟨#[c]⟩)), rfl, ?_, fun _ => ?_⟩
    · simp [hδ, opNotIn, in_low, oneCode]
    · simp [hδ]
  rw [h]
  simp [signs, oneCode, List.filter_map, Function.comp_def]
theorem signs_len (y : Str) : (signs y).length = y.length := by
  have : (signs y).length = y.length := by simp [signs]; rfl
  exact this
theorem l_is_name_eq (d : D) (m : Mem) (h : tg d = true) : F_l_is_name [d] m = .ok (.bl (isNameD d)) m := by
  refine runF_rt ?_ rfl rfl
  cases d with
  | str y =>
    have hy : y.length ≤ 1000 := of_decide_eq_true h
    have hs := le_line hy
    have hl : (signs y).length < sizeLine := by rw [signs_len]; exact Nat.lt_of_le_of_lt hy (by decide)
    have he : y = ("" : Str) ↔ y.length = 0 := by
      constructor
      · intro e; rw [e]; rfl
      · intro e
        obtain ⟨a⟩ := y
        have : a = #[] := Array.eq_empty_of_size_eq_zero e
        subst this
        rfl
    by_cases c0 : y.length = 0
    · have e := he.mpr c0
      subst e
      have : isNm ("" : Str) = false := by decide
      simp [b_l_is_name, opIsi, tagD, tagN, ktX, ktn, isNameD, this]
    · have c1 : ¬ y = ("" : Str) := fun e => c0 (he.mp e)
      by_cases c2 : y.length ≤ 8
      · have c3 : ¬ ((8 : Int) < (y.length : Int)) := by omega
        have c4 : 1 ≤ y.length := by omega
        have key : ((y.cps.toList.filter fun c => !low c).map fun c => D.str ⟨#[c]⟩).isEmpty = y.cps.toList.all low := by
          rw [List.isEmpty_map]
          induction y.cps.toList with
          | nil => rfl
          | cons a l ih => cases q : low a <;> simp [q] <;> simpa using ih
        simp [b_l_is_name, opIsi, tagD, tagN, ktX, ktn, q_len_s hs, c1, c3, wipeD, not_low_signs, hl, isNameD, isNm, c2, c4]
        simpa using key
      · have c3 : (8 : Int) < (y.length : Int) := by omega
        simp [b_l_is_name, opIsi, tagD, tagN, ktX, ktn, q_len_s hs, c1, c3, isNameD, isNm, c2]
  | _ => first | (cases h; done) | simp [b_l_is_name, opIsi, tagD, tagN, ktX, ktn, isNameD]
theorem l_words_eq (m : Mem) : F_l_words [] m = .ok (.lst (words.map .str)) m := by
  refine runF_rt ?_ rfl rfl
  simp [b_l_words, opAdd, lstI, words]
  rfl
theorem inD_wl (l : List Str) (y : Str) (m : Mem) : inD m (.str y) (.lst (l.map .str)) = some (inW l (.str y)) := by
  have hf : ((l.map D.str).all flatD) = true := by simp [flatD]
  have key : ((l.map D.str).any fun z => eqD z (.str y)) = inW l (.str y) := by simp [eqD, inW, List.any_map, Function.comp_def]
  unfold inD
  simp only [seqI]
  rw [if_pos, key]
  rw [hf]
  rfl
theorem l_deed_error_eq (d : D) (m : Mem) (h : dg d = true) : F_l_deed_error [d] m = .ok (deedE d) m := by
  refine runF_rt ?_ (deedE_box d) rfl
  cases d with
  | tup xs =>
    cases xs with
    | nil => simp [b_l_deed_error, opIsi, tagD, tagN, ktX, ktn, deedE]
    | cons x xs =>
      simp only [dg, List.all_cons, Bool.and_eq_true, decide_eq_true_eq] at h
      obtain ⟨⟨h1, h2⟩, h3⟩ := h
      cases x with
      | str y =>
        have e1 := inD_wl words y m
        have e2 := inD_w single (.str y) m h1
        rw [← single_eq] at e2
        have hln : xs.length < sizeLine := len_line (by simp at h3; omega)
        have h2s : 2 < sizeLine := by decide
        have h1s : 1 < sizeLine := by decide
        have hc := compL_pure (t := nName 2) (c := cNot (cBl (eCall F_l_is_name (aCons (eVar 2) aNil)))) (e := eVar 2) (δ := [some (.tup (.str y :: xs)), none, none]) (m := m) (fun d => !isNameD d) (fun d => d) xs fun d hd => by
          refine ⟨[some (.tup (.str y :: xs)), none, some d], rfl, ?_, fun _ => ?_⟩
          · simp [l_is_name_eq d m (List.all_eq_true.mp h2 d hd)]
          · simp
        have key : (xs.filter fun d => !isNameD d).isEmpty = xs.all isNameD := by
          clear hc hln h2 h3
          induction xs with
          | nil => rfl
          | cons a l ih => cases q : isNameD a <;> simp [q] <;> simpa using ih
        cases hw : inW words (.str y) with
        | false => simp [b_l_deed_error, opIsi, tagD, tagN, ktX, ktn, deedE, l_words_eq, opNotIn, e1, hw]
        | true =>
          cases hs : inW single (.str y) with
          | false =>
            by_cases q : xs.length = 2
            · cases ha : xs.all isNameD <;> simp [b_l_deed_error, opIsi, tagD, tagN, ktX, ktn, deedE, l_words_eq, opNotIn, opIn, e1, e2, hw, hs, q, h2s, wipeD, hc, ha, key]
            · have q2 : ¬ ((xs.length : Int) + 1 = 3) := by omega
              simp [b_l_deed_error, opIsi, tagD, tagN, ktX, ktn, deedE, l_words_eq, opNotIn, opIn, e1, e2, hw, hs, q, q2]
          | true =>
            by_cases q : xs.length = 1
            · cases ha : xs.all isNameD <;> simp [b_l_deed_error, opIsi, tagD, tagN, ktX, ktn, deedE, l_words_eq, opNotIn, opIn, e1, e2, hw, hs, q, h1s, wipeD, hc, ha, key]
            · have q2 : ¬ ((xs.length : Int) + 1 = 2) := by omega
              simp [b_l_deed_error, opIsi, tagD, tagN, ktX, ktn, deedE, l_words_eq, opNotIn, opIn, e1, e2, hw, hs, q, q2]
      | _ => first | (cases h1; done) | simp [b_l_deed_error, opIsi, tagD, tagN, ktX, ktn, deedE, inW]
  | _ => first | (cases h; done) | simp [b_l_deed_error, opIsi, tagD, tagN, ktX, ktn, deedE]
end K80
namespace K80
open PySem L2 DL
/-! ### right deeds -/
abbrev Dd := Str × List Str
def dD (p : Dd) : D := .tup (.str p.1 :: p.2.map .str)
def okD (p : Dd) : Prop := (p.2.length = 1 ∨ p.2.length = 2) ∧ (∀ x ∈ p.2, isNm x = true) ∧ p.1 ∈ words
theorem isNm_len {x : Str} (h : isNm x = true) : x.length ≤ 8 := by
  unfold isNm at h
  simp only [Bool.and_eq_true, decide_eq_true_eq] at h
  exact h.1.2
theorem right_of {d : D} (h : deedE d = .non) : ∃ p : Dd, d = dD p ∧ okD p := by
  unfold deedE at h
  split at h
  · rename_i x xs
    split at h
    · cases h
    · rename_i hw
      obtain ⟨n, en⟩ : ∃ n, n = (if inW single x = true then 2 else 3 : Nat) := ⟨_, rfl⟩
      rw [← en] at h
      by_cases hl : xs.length + 1 ≠ n
      · rw [if_pos hl] at h
        cases h
      · rw [if_neg hl] at h
        by_cases ha : xs.all isNameD = true
        · have hx : ∃ y, x = .str y := by
            cases x <;> simp [inW] at hw
            exact ⟨_, rfl⟩
          obtain ⟨y, rfl⟩ := hx
          have hs : ∃ ys : List Str, xs = ys.map .str ∧ ∀ z ∈ ys, isNm z = true := by
            clear hl hw h en
            induction xs with
            | nil => exact ⟨[], rfl, by simp⟩
            | cons a l ih =>
              rw [List.all_cons, Bool.and_eq_true] at ha
              obtain ⟨ys, e, hy⟩ := ih ha.2
              cases a <;> first | (cases ha.1; done) | skip
              rename_i s
              exact ⟨s :: ys, by rw [e]; rfl, fun z hz => by
                rcases List.mem_cons.mp hz with q | q
                · rw [q]; exact ha.1
                · exact hy z q⟩
          obtain ⟨ys, rfl, hy⟩ := hs
          refine ⟨(y, ys), rfl, ?_, hy, by simpa [inW] using hw⟩
          rw [List.length_map] at hl
          show ys.length = 1 ∨ ys.length = 2
          generalize inW single (D.str y) = b at en
          cases b <;> simp at en <;> omega
        · rw [if_neg ha] at h
          cases h
  · cases h
/-- names and whether they are made, in the order of the text -/
abbrev Ro := List (Str × Bool)
def addR (l : Ro) (x : Str) (b : Bool) : Ro := if (l.any fun p => decide (p.1 = x)) = true then l else l ++ [(x, b)]
def mkS (w : Str) (k : Nat) : Bool := (decide (w = "wrap") && decide (k = 2)) || (decide (w = "put") && decide (k = 1))
def addD (l : Ro) (p : Dd) : Ro := match p.2 with
  | [x] => addR l x (mkS p.1 1)
  | [x, y] => addR (addR l x (mkS p.1 1)) y (mkS p.1 2)
  | _ => l
def rolesOf (ps : List Dd) : Ro := ps.foldl addD []
theorem addR_len (l : Ro) (x : Str) (b : Bool) : (addR l x b).length ≤ l.length + 1 := by
  unfold addR
  split <;> simp
theorem addD_len (l : Ro) (p : Dd) : (addD l p).length ≤ l.length + 2 := by
  unfold addD
  split
  · have := addR_len l ‹_› (mkS p.1 1); omega
  · rename_i x y _
    have h1 := addR_len l x (mkS p.1 1)
    have h2 := addR_len (addR l x (mkS p.1 1)) y (mkS p.1 2)
    omega
  · omega
/-! ### the program's roles -/
def kd (l : Ro) : List (Key × D) := l.map fun p => (.inr p.1, .bl p.2)
theorem kd_val (l : Ro) (x : Str) : (valD (kd l) (.inr x)).isSome = l.any fun p => decide (p.1 = x) := by
  unfold valD kd
  induction l with
  | nil => rfl
  | cons a l ih =>
    simp only [List.map_cons, List.find?_cons, List.any_cons]
    by_cases h : a.1 = x
    · simp [h]
    · have : ¬ ((Sum.inr a.1 : Key) = Sum.inr x) := fun z => h (Sum.inr.inj z)
      simp [h, this]
      simpa using ih
theorem kd_any (l : Ro) (x : Str) : ((kd l).any fun kv => decide (kv.1 = (.inr x : Key))) = l.any fun p => decide (p.1 = x) := by
  unfold kd
  rw [List.any_map]
  congr 1
  funext p
  by_cases h : p.1 = x
  · simp [h]
  · have : ¬ ((Sum.inr p.1 : Key) = Sum.inr x) := fun z => h (Sum.inr.inj z)
    simp [h, this]
theorem kd_put (l : Ro) (x : Str) (b : Bool) (h : valD (kd l) (.inr x) = none) : putD (kd l) (.inr x) (.bl b) = kd (addR l x b) := by
  have h1 := kd_val l x
  rw [h] at h1
  have h2 : (l.any fun p => decide (p.1 = x)) = false := h1.symm
  unfold putD addR
  rw [kd_any, h2]
  simp [kd]
theorem kd_some (l : Ro) (x : Str) (b : Bool) {w : D} (h : valD (kd l) (.inr x) = some w) : addR l x b = l := by
  have h1 := kd_val l x
  rw [h] at h1
  unfold addR
  rw [← h1]
  rfl
theorem makes_eq (w : Str) (xs : List D) (k : Nat) (m : Mem) : F_makes [.tup (.str w :: xs), .int (k : Int)] m = .ok (.bl (mkS w k)) m := by
  refine runF_rt ?_ rfl rfl
  have e2 : decide ((k : Int) = 2) = decide (k = 2) := by
    by_cases h : k = 2
    · subst h; rfl
    · rw [decide_eq_false h, decide_eq_false (by omega)]
  have e1 : decide ((k : Int) = 1) = decide (k = 1) := by
    by_cases h : k = 1
    · subst h; rfl
    · rw [decide_eq_false h, decide_eq_false (by omega)]
  by_cases h1 : w = "wrap"
  · subst h1
    have h3 : ¬ ((Str.ofString "wrap") = Str.ofString "put") := by decide
    cases h : decide (k = 2) <;> simp [b_makes, mkS, e1, e2, h, h3]
  · by_cases h2 : w = "put"
    · subst h2
      simp [b_makes, mkS, e1, e2, h1]
    · simp [b_makes, mkS, h1, h2]
theorem set_last (m0 : Mem) (a b : D) : (m0 ++ [a]).set m0.length b = m0 ++ [b] := by
  induction m0 with
  | nil => rfl
  | cons x m0 ih => simp [ih]
/-- one name is put into the dict -/
theorem setd_eq (m0 : Mem) (l : Ro) (hl : l.length < 1000) (w : Str) (xs : List D) (k : Nat) (x : Str) (v : D) : (sExpr (eSetd (eVar 1) (eVar 4) (eCall F_makes (aCons (eVar 2) (aCons (eVar 3) aNil))))) [some v, some (.box m0.length), some (.tup (.str w :: xs)), some (.int (k : Int)), some (.str x)] (m0 ++ [.dct (kd l)]) =
    .ok (.nx [some v, some (.box m0.length), some (.tup (.str w :: xs)), some (.int (k : Int)), some (.str x)]) (m0 ++ [.dct (kd (addR l x (mkS w k)))]) := by
  have hb : boxD (m0 ++ [.dct (kd l)]) (.box m0.length) = some (m0.length, kd l) := by simp [boxD]
  have hs : (kd l).length < sizeLine := by unfold kd; rw [List.length_map]; exact Nat.lt_of_lt_of_le hl (by decide)
  cases hv : valD (kd l) (.inr x) with
  | none => simp [eSetd, hb, makes_eq, keyD, hs, hv, kd_put l x _ hv, set_last]
  | some z => simp [eSetd, hb, makes_eq, keyD, hs, hv, kd_some l x (mkS w k) hv]
def stp : SE := sExpr (eSetd (eVar 1) (eVar 4) (eCall F_makes (aCons (eVar 2) (aCons (eVar 3) aNil))))
def inr : SE := sFor (iEnu (aCons (eVar 2) aNil)) (nTup 2 (nCons (nName 3) (nCons (nName 4) nNil))) (sIf (cBl (eBin opGt (eVar 3) (eK (.int 0)))) stp sNext)
theorem b_roles_is : b_roles = sSeq (sSet 1 eNewD) (sSeq (sFor (iSeq (eVar 0)) (nName 2) inr) (sRet (eVar 1))) := rfl
theorem stp_eq (m0 : Mem) (l : Ro) (hl : l.length < 1000) (w : Str) (xs : List D) (k : Nat) (x : Str) (v : D) : stp [some v, some (.box m0.length), some (.tup (.str w :: xs)), some (.int (k : Int)), some (.str x)] (m0 ++ [.dct (kd l)]) =
    .ok (.nx [some v, some (.box m0.length), some (.tup (.str w :: xs)), some (.int (k : Int)), some (.str x)]) (m0 ++ [.dct (kd (addR l x (mkS w k)))]) := setd_eq m0 l hl w xs k x v
/-- one deed's names -/
theorem inr_eq (m0 : Mem) (l : Ro) (hl : l.length < 900) (p : Dd) (hp : okD p) (v : D) (b c : Option D) : ∃ b' c', inr [some v, some (.box m0.length), some (dD p), b, c] (m0 ++ [.dct (kd l)]) = .ok (.nx [some v, some (.box m0.length), some (dD p), b', c']) (m0 ++ [.dct (kd (addD l p))]) := by
  obtain ⟨w, xs⟩ := p
  rcases hp.1 with h | h
  · match xs, h with
    | [x], _ =>
      have s1 := stp_eq m0 l (by omega) w [.str x] 1 x v
      refine ⟨some (.int 1), some (.str x), ?_⟩
      rw [show ((1 : Nat) : Int) = 1 from rfl] at s1
      simp [inr, dD, enumItems, loopL, s1, addD]
  · match xs, h with
    | [x, y], _ =>
      have s1 := stp_eq m0 l (by omega) w [.str x, .str y] 1 x v
      have s2 := stp_eq m0 (addR l x (mkS w 1)) (by have := addR_len l x (mkS w 1); omega) w [.str x, .str y] 2 y v
      refine ⟨some (.int 2), some (.str y), ?_⟩
      rw [show ((1 : Nat) : Int) = 1 from rfl] at s1
      rw [show ((2 : Nat) : Int) = 2 from rfl] at s2
      simp [inr, dD, enumItems, loopL, s1, s2, addD]
theorem outer_eq (m0 : Mem) (v : D) : ∀ (ps : List Dd) (l : Ro) (a b c : Option D), l.length + 2 * ps.length < 900 → (∀ p ∈ ps, okD p) → ∃ a' b' c', loopL (nName 2) inr (ps.map dD) [some v, some (.box m0.length), a, b, c] (m0 ++ [.dct (kd l)]) = .ok (.nx [some v, some (.box m0.length), a', b', c']) (m0 ++ [.dct (kd (ps.foldl addD l))])
  | [], l, a, b, c, _, _ => ⟨a, b, c, rfl⟩
  | p :: ps, l, a, b, c, hl, hp => by
    obtain ⟨b1, c1, e1⟩ := inr_eq m0 l (by simp at hl; omega) p (hp p List.mem_cons_self) v b c
    obtain ⟨a2, b2, c2, e2⟩ := outer_eq m0 v ps (addD l p) (some (dD p)) b1 c1 (by have := addD_len l p; simp at hl; omega) fun q hq => hp q (List.mem_cons_of_mem _ hq)
    exact ⟨a2, b2, c2, by simp [loopL, e1, e2]⟩
theorem closedK_kd (n : Nat) (l : Ro) : closedK n (kd l) = true := by
  unfold kd
  induction l with
  | nil => rfl
  | cons a l ih => simp [closedK, closed, ih]
theorem roles_eq (ps : List Dd) (m : Mem) (hn : ps.length ≤ 12) (hp : ∀ p ∈ ps, okD p) (hm : closedL m.length m = true) : F_roles [.tup (ps.map dD)] m = .ok (.dct (kd (rolesOf ps))) m := by
  obtain ⟨a, b, c, e⟩ := outer_eq m (.tup (ps.map dD)) ps [] none none none (by simp; omega) hp
  have h := runF_frz (s := b_roles) (k := 4) (ds := [.tup (ps.map dD)]) (m := m) (m' := m ++ [.dct (kd (rolesOf ps))]) (j := m.length) (d := .dct (kd (rolesOf ps))) (by
    rw [b_roles_is]
    have e' : loopL (nName 2) inr (ps.map dD) [some (D.tup (ps.map dD)), some (.box m.length), none, none, none] (m ++ [.dct []]) = _ := e
    simp [e', rolesOf]) (Nat.le_refl _) (by simp) (by simp [closed, closedK_kd]) (by simpa using hm)
  rw [show F_roles = runF true b_roles 4 from rfl, h]
  simp
/-! ### their numbers -/
def oldN (l : Ro) : Nat := (l.filter fun p => !p.2).length
def newN (l : Ro) : Nat := (l.filter fun p => p.2).length
theorem insS_len (x : Str) : ∀ l : List Str, (insS x l).length = l.length + 1
  | [] => rfl
  | y :: r => by
    unfold insS
    split
    · simp
    · simp [insS_len x r]
theorem sortS_len : ∀ l : List Str, (sortS l).length = l.length
  | [] => rfl
  | x :: r => by unfold sortS; rw [insS_len, sortS_len r]; simp
theorem strsI_map : ∀ l : List Str, strsI (l.map D.str) = some l
  | [] => rfl
  | x :: l => by simp [strsI, strsI_map l]
theorem foldl_len : ∀ (ps : List Dd) (l : Ro), (ps.foldl addD l).length ≤ l.length + 2 * ps.length
  | [], l => by simp
  | p :: ps, l => by
    have h1 := addD_len l p
    have h2 := foldl_len ps (addD l p)
    simp only [List.foldl_cons, List.length_cons]
    omega
theorem comp_ro (neg : Bool) (l : Ro) (m : Mem) (v : D) : compL (nTup 2 (nCons (nName 1) (nCons (nName 2) nNil))) (if neg then cNot (cTru (eVar 2)) else cTru (eVar 2)) (eVar 1) [some v, none, none] ((kd l).map fun kv => .tup [kD kv.1, kv.2]) m = .ok ((l.filter fun p => if neg then !p.2 else p.2).map fun p => D.str p.1) m := by
  induction l with
  | nil => rfl
  | cons a l ih =>
    have e : (kd (a :: l)).map (fun kv => D.tup [kD kv.1, kv.2]) = .tup [.str a.1, .bl a.2] :: (kd l).map fun kv => .tup [kD kv.1, kv.2] := rfl
    rw [e]
    obtain ⟨x, b⟩ := a
    cases neg <;> cases b <;> simp at ih <;> simp [compL, ih]
theorem old_names_eq (ps : List Dd) (m : Mem) (hn : ps.length ≤ 12) (hp : ∀ p ∈ ps, okD p) (hm : closedL m.length m = true) : ∃ xs, F_old_names [.tup (ps.map dD)] m = .ok (.tup xs) m ∧ xs.length = oldN (rolesOf ps) := by
  have hc := comp_ro true (rolesOf ps) m (.tup (ps.map dD))
  have hl := foldl_len ps []
  have hl2 : (rolesOf ps).length ≤ 24 := by unfold rolesOf; simp at hl; omega
  have hk : ((kd (rolesOf ps)).map fun kv => D.tup [kD kv.1, kv.2]).length < sizeLine := by simp [kd]; exact Nat.lt_of_le_of_lt hl2 (by decide)
  have hf : ((rolesOf ps).filter fun p => !p.2).length < 64 := Nat.lt_of_le_of_lt (List.length_filter_le _ _) (by omega)
  refine ⟨(sortS (((rolesOf ps).filter fun p => !p.2).map (·.1))).map .str, ?_, by rw [List.length_map, sortS_len, List.length_map]; rfl⟩
  refine runF_rt ?_ rfl rfl
  have hs : strsI (((rolesOf ps).filter fun p => !p.2).map fun p => D.str p.1) = some (((rolesOf ps).filter fun p => !p.2).map (·.1)) := by
    rw [← strsI_map, List.map_map]; rfl
  simp at hc hk
  simp [b_old_names, roles_eq ps m hn hp hm, hk, wipeD, hc, opSorted, lstI, hs, hf]
theorem new_names_eq (ps : List Dd) (m : Mem) (hn : ps.length ≤ 12) (hp : ∀ p ∈ ps, okD p) (hm : closedL m.length m = true) : ∃ xs, F_new_names [.tup (ps.map dD)] m = .ok (.tup xs) m ∧ xs.length = newN (rolesOf ps) := by
  have hc := comp_ro false (rolesOf ps) m (.tup (ps.map dD))
  have hl := foldl_len ps []
  have hl2 : (rolesOf ps).length ≤ 24 := by unfold rolesOf; simp at hl; omega
  have hk : ((kd (rolesOf ps)).map fun kv => D.tup [kD kv.1, kv.2]).length < sizeLine := by simp [kd]; exact Nat.lt_of_le_of_lt hl2 (by decide)
  have hf : ((rolesOf ps).filter fun p => p.2).length < 64 := Nat.lt_of_le_of_lt (List.length_filter_le _ _) (by omega)
  refine ⟨(sortS (((rolesOf ps).filter fun p => p.2).map (·.1))).map .str, ?_, by rw [List.length_map, sortS_len, List.length_map]; rfl⟩
  refine runF_rt ?_ rfl rfl
  have hs : strsI (((rolesOf ps).filter fun p => p.2).map fun p => D.str p.1) = some (((rolesOf ps).filter fun p => p.2).map (·.1)) := by
    rw [← strsI_map, List.map_map]; rfl
  simp at hc hk
  simp [b_new_names, roles_eq ps m hn hp hm, hk, wipeD, hc, opSorted, lstI, hs, hf]
end K80
namespace K80
open PySem L2 DL
/-! ### the law's roles -/
def oldL (l : Ro) : List D := (l.filter fun p => !p.2).map fun p => .str p.1
def newL (l : Ro) : List D := (l.filter fun p => p.2).map fun p => .str p.1
def mm (m : Mem) (a b : List D) : Mem := m ++ [.lst a, .lst b]
theorem mm0 (m : Mem) (a b : List D) : (mm m a b)[m.length]? = some (.lst a) := by simp [mm]
theorem mm1 (m : Mem) (a b : List D) : (mm m a b)[m.length + 1]? = some (.lst b) := by
  unfold mm
  rw [List.getElem?_append_right (by omega)]
  simp
theorem mms0 (m : Mem) (a b c : List D) : (mm m a b).set m.length (.lst c) = mm m c b := by
  unfold mm
  rw [List.set_append_right _ _ (Nat.le_refl _)]
  simp
theorem mms1 (m : Mem) (a b c : List D) : (mm m a b).set (m.length + 1) (.lst c) = mm m a c := by
  unfold mm
  rw [List.set_append_right _ _ (by omega)]
  simp
theorem in_both (l : Ro) (x : Str) (m : Mem) : inD m (.str x) (.lst (oldL l ++ newL l)) = some (l.any fun p => decide (p.1 = x)) := by
  have hf : ((oldL l ++ newL l).all flatD) = true := by simp [oldL, newL, flatD]
  have key : ((oldL l ++ newL l).any fun z => eqD z (.str x)) = l.any fun p => decide (p.1 = x) := by
    clear hf
    unfold oldL newL
    rw [List.any_append, List.any_map, List.any_map]
    induction l with
    | nil => rfl
    | cons a l ih =>
      obtain ⟨y, b⟩ := a
      rw [List.any_cons, ← ih]
      cases b <;> simp [eqD, beqD, Function.comp_def, Bool.or_left_comm, Bool.or_assoc]
  unfold inD
  simp only [seqI]
  rw [if_pos, key]
  rw [hf]
  rfl
def made (w : Str) : Int := if w = "wrap" then 2 else if w = "put" then 1 else 0
theorem made_eq (w : Str) (k : Nat) (hk : k = 1 ∨ k = 2) : decide ((k : Int) = made w) = mkS w k := by
  unfold made mkS
  by_cases h1 : w = "wrap"
  · subst h1
    have h3 : ¬ ((Str.ofString "wrap") = Str.ofString "put") := by decide
    rcases hk with rfl | rfl <;> simp [h3]
  · by_cases h2 : w = "put"
    · rw [if_neg h1, if_pos h2]
      have h3 : ¬ ((Str.ofString "put") = Str.ofString "wrap") := by decide
      rcases hk with rfl | rfl <;> simp [h3, h2]
    · rw [if_neg h1, if_neg h2]
      rcases hk with rfl | rfl <;> simp [h1, h2]
theorem old_add (l : Ro) (x : Str) (b : Bool) (h : (l.any fun p => decide (p.1 = x)) = false) : oldL (addR l x b) = (if b then oldL l else oldL l ++ [.str x]) ∧ newL (addR l x b) = (if b then newL l ++ [.str x] else newL l) := by
  unfold addR
  rw [h]
  cases b <;> simp [oldL, newL]
def lbd : SE := sIf (cBl (eBin opNotIn (eBin opIx (eVar 3) (eVar 5)) (eBin opAdd (eVar 1) (eVar 2)))) (sIf (cBl (eBin opEq (eVar 5) (eVar 4))) (sExpr (eLM (opBox fApp) (eVar 2) (aCons (eBin opIx (eVar 3) (eVar 5)) aNil))) (sExpr (eLM (opBox fApp) (eVar 1) (aCons (eBin opIx (eVar 3) (eVar 5)) aNil)))) sNext
theorem add_mm (m : Mem) (a b : List D) (h : a.length + b.length ≤ sizeLine) : opAdd (mm m a b) (.box m.length) (.box (m.length + 1)) = some (.lst (a ++ b)) := by
  simp [opAdd, lstI, mm0, mm1, h]
theorem ro_lens (l : Ro) : (oldL l).length + (newL l).length = l.length := by
  unfold oldL newL
  rw [List.length_map, List.length_map]
  induction l with
  | nil => rfl
  | cons a l ih => obtain ⟨x, b⟩ := a; cases b <;> simp <;> omega
theorem lbd_eq (m : Mem) (l : Ro) (hl : l.length < 1000) (w : Str) (xs : List D) (k : Nat) (hk : k = 1 ∨ k = 2) (x : Str) (hx : (D.str w :: xs)[k]? = some (.str x)) (v : D) :
    lbd [some v, some (.box m.length), some (.box (m.length + 1)), some (.tup (.str w :: xs)), some (.int (made w)), some (.int (k : Int))] (mm m (oldL l) (newL l)) =
      .ok (.nx [some v, some (.box m.length), some (.box (m.length + 1)), some (.tup (.str w :: xs)), some (.int (made w)), some (.int (k : Int))]) (mm m (oldL (addR l x (mkS w k))) (newL (addR l x (mkS w k)))) := by
  have hll := ro_lens l
  have hadd := add_mm m (oldL l) (newL l) (by rw [hll]; exact le_line (by omega))
  have hin := in_both l x (mm m (oldL l) (newL l))
  have hmd := made_eq w k hk
  have h0 : (oldL l).length < sizeLine := Nat.lt_of_le_of_lt (show _ ≤ 1000 by omega) (by decide)
  have h1 : (newL l).length < sizeLine := Nat.lt_of_le_of_lt (show _ ≤ 1000 by omega) (by decide)
  have g0 : lstI (mm m (oldL l) (newL l)) (.box m.length) = some (oldL l) := by simp [lstI, mm0]
  have g1 : lstI (mm m (oldL l) (newL l)) (.box (m.length + 1)) = some (newL l) := by simp [lstI, mm1]
  have b0 : boxL (mm m (oldL l) (newL l)) (.box m.length) = some (m.length, oldL l) := by simp [boxL, mm0]
  have b1 : boxL (mm m (oldL l) (newL l)) (.box (m.length + 1)) = some (m.length + 1, newL l) := by simp [boxL, mm1]
  cases ha : l.any fun p => decide (p.1 = x) with
  | true =>
    rw [ha] at hin
    have e : addR l x (mkS w k) = l := by unfold addR; rw [ha]; rfl
    rw [e]
    simp [lbd, hx, hadd, opNotIn, hin]
  | false =>
    rw [ha] at hin
    obtain ⟨e1, e2⟩ := old_add l x (mkS w k) ha
    rw [e1, e2]
    cases hb : mkS w k with
    | true =>
      rw [hb] at hmd
      simp [lbd, hx, hadd, opNotIn, hin, hmd, g1, opBox, b1, fApp, h1, mms1]
    | false =>
      rw [hb] at hmd
      simp [lbd, hx, hadd, opNotIn, hin, hmd, g0, opBox, b0, fApp, h0, mms0]
def linr : SE := sSeq (sSet 4 (eDGet (eK (.dct [(.inr "wrap", .int 2), (.inr "put", .int 1)])) (eBin opIx (eVar 3) (eK (.int 0))) (eK (.int 0))))
  (sFor (iRange (aCons (eK (.int 1)) (aCons (eCallB opLen (aCons (eVar 3) aNil)) aNil))) (nName 5) lbd)
theorem b_l_roles_is : b_l_roles = sSeq (sPar 1 2 (aCons (eNew aNil) (aCons (eNew aNil) aNil))) (sSeq (sFor (iSeq (eVar 0)) (nName 3) linr) (sRet (eTup (aCons (eCallB opTuple (aCons (eCallB opSorted (aCons (eVar 1) aNil)) aNil)) (aCons (eCallB opTuple (aCons (eCallB opSorted (aCons (eVar 2) aNil)) aNil)) aNil))))) := rfl
theorem get_made (w : Str) : (valD [((.inr "wrap" : Key), D.int 2), (.inr "put", .int 1)] (.inr w)).getD (.int 0) = .int (made w) := by
  unfold made valD
  by_cases h1 : w = "wrap"
  · subst h1; rfl
  · rw [if_neg h1]
    have n1 : ¬ ((Sum.inr (Str.ofString "wrap") : Key) = Sum.inr w) := fun z => h1 (Sum.inr.inj z).symm
    by_cases h2 : w = "put"
    · subst h2
      simp [n1]
    · rw [if_neg h2]
      have n2 : ¬ ((Sum.inr (Str.ofString "put") : Key) = Sum.inr w) := fun z => h2 (Sum.inr.inj z).symm
      simp [n1, n2]
theorem linr_eq (m : Mem) (l : Ro) (hl : l.length < 900) (p : Dd) (hp : okD p) (v : D) (b c : Option D) : ∃ b' c', linr [some v, some (.box m.length), some (.box (m.length + 1)), some (dD p), b, c] (mm m (oldL l) (newL l)) =
    .ok (.nx [some v, some (.box m.length), some (.box (m.length + 1)), some (dD p), b', c']) (mm m (oldL (addD l p)) (newL (addD l p))) := by
  obtain ⟨w, xs⟩ := p
  have hg := get_made w
  rcases hp.1 with h | h
  · match xs, h with
    | [x], _ =>
      have s1 := lbd_eq m l (by omega) w [.str x] 1 (.inl rfl) x rfl v
      rw [show ((1 : Nat) : Int) = 1 from rfl] at s1
      refine ⟨some (.int (made w)), some (.int 1), ?_⟩
      have hr : rangeItems 1 2 = some [.int 1] := by rfl
      simp [linr, dD, dctI, keyD, hg, hr, loopL, s1, addD]
  · match xs, h with
    | [x, y], _ =>
      have s1 := lbd_eq m l (by omega) w [.str x, .str y] 1 (.inl rfl) x rfl v
      have s2 := lbd_eq m (addR l x (mkS w 1)) (by have := addR_len l x (mkS w 1); omega) w [.str x, .str y] 2 (.inr rfl) y rfl v
      rw [show ((1 : Nat) : Int) = 1 from rfl] at s1
      rw [show ((2 : Nat) : Int) = 2 from rfl] at s2
      refine ⟨some (.int (made w)), some (.int 2), ?_⟩
      have hr : rangeItems 1 3 = some [.int 1, .int 2] := by rfl
      simp [linr, dD, dctI, keyD, hg, hr, loopL, s1, s2, addD]
theorem louter_eq (m : Mem) (v : D) : ∀ (ps : List Dd) (l : Ro) (a b c : Option D), l.length + 2 * ps.length < 900 → (∀ p ∈ ps, okD p) → ∃ a' b' c', loopL (nName 3) linr (ps.map dD) [some v, some (.box m.length), some (.box (m.length + 1)), a, b, c] (mm m (oldL l) (newL l)) =
    .ok (.nx [some v, some (.box m.length), some (.box (m.length + 1)), a', b', c']) (mm m (oldL (ps.foldl addD l)) (newL (ps.foldl addD l)))
  | [], l, a, b, c, _, _ => ⟨a, b, c, rfl⟩
  | p :: ps, l, a, b, c, hl, hp => by
    obtain ⟨b1, c1, e1⟩ := linr_eq m l (by simp at hl; omega) p (hp p List.mem_cons_self) v b c
    obtain ⟨a2, b2, c2, e2⟩ := louter_eq m v ps (addD l p) (some (dD p)) b1 c1 (by have := addD_len l p; simp at hl; omega) fun q hq => hp q (List.mem_cons_of_mem _ hq)
    exact ⟨a2, b2, c2, by simp [loopL, e1, e2]⟩
theorem l_roles_eq (ps : List Dd) (m : Mem) (hn : ps.length ≤ 12) (hp : ∀ p ∈ ps, okD p) (hm : closedL m.length m = true) : ∃ xs ys, F_l_roles [.tup (ps.map dD)] m = .ok (.tup [.tup xs, .tup ys]) m ∧ xs.length = oldN (rolesOf ps) ∧ ys.length = newN (rolesOf ps) := by
  obtain ⟨a, b, c, e⟩ := louter_eq m (.tup (ps.map dD)) ps [] none none none (by simp; omega) hp
  have hl := foldl_len ps []
  have hl2 : (rolesOf ps).length ≤ 24 := by unfold rolesOf; simp at hl; omega
  have hll := ro_lens (rolesOf ps)
  have hso : ∀ l : Ro, strsI (oldL l) = some ((l.filter fun p => !p.2).map (·.1)) := fun l => by
    rw [← strsI_map, List.map_map]; rfl
  have hsn : ∀ l : Ro, strsI (newL l) = some ((l.filter fun p => p.2).map (·.1)) := fun l => by
    rw [← strsI_map, List.map_map]; rfl
  have f1 : ((rolesOf ps).filter fun p => !p.2).length < 64 := Nat.lt_of_le_of_lt (List.length_filter_le _ _) (by omega)
  have f2 : ((rolesOf ps).filter fun p => p.2).length < 64 := Nat.lt_of_le_of_lt (List.length_filter_le _ _) (by omega)
  refine ⟨(sortS (((rolesOf ps).filter fun p => !p.2).map (·.1))).map .str, (sortS (((rolesOf ps).filter fun p => p.2).map (·.1))).map .str, ?_, by rw [List.length_map, sortS_len, List.length_map]; rfl, by rw [List.length_map, sortS_len, List.length_map]; rfl⟩
  have hb : b_l_roles [some (.tup (ps.map dD)), none, none, none, none, none] m = .ok (.rt (.tup [.tup ((sortS (((rolesOf ps).filter fun p => !p.2).map (·.1))).map .str), .tup ((sortS (((rolesOf ps).filter fun p => p.2).map (·.1))).map .str)])) (mm m (oldL (rolesOf ps)) (newL (rolesOf ps))) := by
    rw [b_l_roles_is]
    have e' : loopL (nName 3) linr (ps.map dD) [some (D.tup (ps.map dD)), some (.box m.length), some (.box (m.length + 1)), none, none, none] (m ++ [.lst [], .lst []]) = .ok (.nx [some (D.tup (ps.map dD)), some (.box m.length), some (.box (m.length + 1)), a, b, c]) (mm m (oldL (rolesOf ps)) (newL (rolesOf ps))) := e
    have g0 : lstI (mm m (oldL (rolesOf ps)) (newL (rolesOf ps))) (.box m.length) = some (oldL (rolesOf ps)) := by simp [lstI, mm0]
    have g1 : lstI (mm m (oldL (rolesOf ps)) (newL (rolesOf ps))) (.box (m.length + 1)) = some (newL (rolesOf ps)) := by simp [lstI, mm1]
    simp [e', opSorted, g0, g1, hso, hsn, f1, f2]
  have hcl : ∀ l : List Str, closedL m.length (l.map D.str) = true := fun l => by
    induction l with
    | nil => rfl
    | cons a l ih => simp [closedL, closed, ih]
  unfold F_l_roles runF
  simp only [List.map_cons, List.map_nil, List.replicate, List.cons_append, List.nil_append, hb]
  have ht : (mm m (oldL (rolesOf ps)) (newL (rolesOf ps))).take m.length = m := by simp [mm]
  show retF false m.length _ _ = _
  unfold retF
  simp only [ht, hm, closed, closedL, hcl]
  rfl
end K80
namespace K80
open PySem L2 DL
/-! ### what is wrong with a script -/
def firstE : Nat → List D → Option D
  | _, [] => none
  | i, d :: ds => match isNon (deedE d) with
    | true => firstE (i + 1) ds
    | false => some (.tup [.int (i : Nat), deedE d])
theorem isNon_eq {d : D} (h : isNon d = true) : d = .non := by
  cases d <;> first | rfl | cases h
def pbd : SE := sSeq (sSet 3 (eCall F_deed_error (aCons (eVar 2) aNil))) (sIf (cBl (eBin opIsNot (eVar 3) (eK .non))) (sRet (eTup (aCons (eVar 1) (aCons (eVar 3) aNil)))) sNext)
def tgt2 : DG := nTup 2 (nCons (nName 1) (nCons (nName 2) nNil))
theorem ploop (m : Mem) (v : D) : ∀ (ds : List D) (i : Nat) (a b c : Option D), (∀ d ∈ ds, dg d = true) → (∃ a' b' c', firstE i ds = none ∧ loopL tgt2 pbd (ds.mapIdx fun j d => .tup [.int ((i + j : Nat) : Int), d]) [some v, a, b, c] m = .ok (.nx [some v, a', b', c']) m) ∨
    (∃ e, firstE i ds = some e ∧ loopL tgt2 pbd (ds.mapIdx fun j d => .tup [.int ((i + j : Nat) : Int), d]) [some v, a, b, c] m = .ok (.rt e) m)
  | [], i, a, b, c, _ => .inl ⟨a, b, c, rfl, rfl⟩
  | d :: ds, i, a, b, c, h => by
    have hd := deed_error_eq d m (h d List.mem_cons_self)
    rw [List.mapIdx_cons]
    have e2 : (fun j d => D.tup [.int ((i + (j + 1) : Nat) : Int), d]) = fun j d => D.tup [.int ((i + 1 + j : Nat) : Int), d] := by
      funext j d
      rw [show i + (j + 1) = i + 1 + j by omega]
    have e3 : (ds.mapIdx fun j d => D.tup [.int ((i + (j + 1) : Nat) : Int), d]) = ds.mapIdx fun j d => D.tup [.int ((i + 1 + j : Nat) : Int), d] := by rw [e2]
    cases hn : isNon (deedE d) with
    | true =>
      have ih := ploop m v ds (i + 1) (some (.int ((i : Nat) : Int))) (some d) (some (deedE d)) fun x hx => h x (List.mem_cons_of_mem _ hx)
      have hs : ∀ r, loopL tgt2 pbd (ds.mapIdx fun j d => .tup [.int ((i + 1 + j : Nat) : Int), d]) [some v, some (.int ((i : Nat) : Int)), some d, some (deedE d)] m = r → loopL tgt2 pbd (D.tup [.int ((i + 0 : Nat) : Int), d] :: ds.mapIdx fun j d => .tup [.int ((i + (j + 1) : Nat) : Int), d]) [some v, a, b, c] m = r := fun r hr => by
        rw [e3]
        rw [← hr]
        simp [loopL, tgt2, pbd, hd, hn]
      rcases ih with ⟨a', b', c', h1, h2⟩ | ⟨e, h1, h2⟩
      · exact .inl ⟨a', b', c', by unfold firstE; rw [hn]; exact h1, hs _ h2⟩
      · exact .inr ⟨e, by unfold firstE; rw [hn]; exact h1, hs _ h2⟩
    | false =>
      refine .inr ⟨_, by unfold firstE; rw [hn], ?_⟩
      simp [loopL, tgt2, pbd, hd, hn]
def lbody : SE := sSeq (sSet 2 (eCall F_l_deed_error (aCons (eBin opIx (eVar 0) (eVar 1)) aNil))) (sIf (cBl (eBin opIsNot (eVar 2) (eK .non))) (sRet (eTup (aCons (eVar 1) (aCons (eVar 2) aNil)))) sNext)
theorem lloop (m : Mem) (ds : List D) (h : ∀ d ∈ ds, dg d = true) (x y : Option D) : ∀ (k i : Nat) (a b : Option D), i + k = ds.length → (∃ a' b', firstE i (ds.drop i) = none ∧ loopL (nName 1) lbody ((List.range' i k).map fun j => .int ((j : Nat) : Int)) [some (.tup ds), a, b, x, y] m = .ok (.nx [some (.tup ds), a', b', x, y]) m) ∨
    (∃ e, firstE i (ds.drop i) = some e ∧ loopL (nName 1) lbody ((List.range' i k).map fun j => .int ((j : Nat) : Int)) [some (.tup ds), a, b, x, y] m = .ok (.rt e) m)
  | 0, i, a, b, hi => .inl ⟨a, b, by rw [List.drop_eq_nil_of_le (by omega)]; rfl, rfl⟩
  | k + 1, i, a, b, hi => by
    have hlt : i < ds.length := by omega
    have hg : ds[i]? = some ds[i] := List.getElem?_eq_getElem hlt
    have hd := l_deed_error_eq ds[i] m (h _ (List.getElem_mem hlt))
    have ed : ds.drop i = ds[i] :: ds.drop (i + 1) := List.drop_eq_getElem_cons hlt
    rw [ed, List.range'_succ]
    cases hn : isNon (deedE ds[i]) with
    | true =>
      have ih := lloop m ds h x y k (i + 1) (some (.int ((i : Nat) : Int))) (some (deedE ds[i])) (by omega)
      have hs : ∀ r, loopL (nName 1) lbody ((List.range' (i + 1) k).map fun j => .int ((j : Nat) : Int)) [some (.tup ds), some (.int ((i : Nat) : Int)), some (deedE ds[i]), x, y] m = r → loopL (nName 1) lbody ((i :: List.range' (i + 1) k).map fun j => .int ((j : Nat) : Int)) [some (.tup ds), a, b, x, y] m = r := fun r hr => by
        rw [← hr]
        simp [loopL, lbody, hg, hd, hn]
      rcases ih with ⟨a', b', h1, h2⟩ | ⟨e, h1, h2⟩
      · exact .inl ⟨a', b', by unfold firstE; rw [hn]; exact h1, hs _ h2⟩
      · exact .inr ⟨e, by unfold firstE; rw [hn]; exact h1, hs _ h2⟩
    | false =>
      refine .inr ⟨_, by unfold firstE; rw [hn], ?_⟩
      simp [loopL, lbody, hg, hd, hn]
theorem firstE_none : ∀ (ds : List D) (i : Nat), firstE i ds = none → ∃ ps : List Dd, ds = ps.map dD ∧ ∀ p ∈ ps, okD p
  | [], i, _ => ⟨[], rfl, by simp⟩
  | d :: ds, i, h => by
    unfold firstE at h
    split at h
    · rename_i hn
      obtain ⟨p, e, hp⟩ := right_of (isNon_eq hn)
      obtain ⟨ps, e2, hps⟩ := firstE_none ds (i + 1) h
      exact ⟨p :: ps, by rw [e, e2]; rfl, fun q hq => by
        rcases List.mem_cons.mp hq with z | z
        · exact z ▸ hp
        · exact hps q z⟩
    · cases h
theorem deedE_of {d : D} (h : isNon (deedE d) = false) : deedE d = .str "deed" ∨ deedE d = .str "name" := by
  unfold deedE at h ⊢
  split
  · rename_i x xs
    obtain ⟨n, en⟩ : ∃ n, n = (if inW single x = true then 2 else 3 : Nat) := ⟨_, rfl⟩
    simp only [← en] at h ⊢
    by_cases h1 : inW words x = false
    · rw [if_pos h1]; exact .inl rfl
    · rw [if_neg h1] at h ⊢
      by_cases h2 : xs.length + 1 ≠ n
      · rw [if_pos h2]; exact .inl rfl
      · rw [if_neg h2] at h ⊢
        by_cases h3 : xs.all isNameD = true
        · rw [if_pos h3] at h; cases h
        · rw [if_neg h3]; exact .inr rfl
  · exact .inl rfl
theorem firstE_some : ∀ (ds : List D) (i : Nat) {e : D}, firstE i ds = some e → ∃ k w, k < i + ds.length ∧ (w = Str.ofString "deed" ∨ w = Str.ofString "name") ∧ e = .tup [.int ((k : Nat) : Int), .str w]
  | [], i, e, h => by cases h
  | d :: ds, i, e, h => by
    unfold firstE at h
    split at h
    · obtain ⟨k, w, h1, h2, h3⟩ := firstE_some ds (i + 1) h
      exact ⟨k, w, by simp; omega, h2, h3⟩
    · rename_i hn
      cases h
      rcases deedE_of hn with q | q
      · exact ⟨i, _, by simp, .inl rfl, by rw [q]⟩
      · exact ⟨i, _, by simp, .inr rfl, by rw [q]⟩
/-- the errors -/
inductive ErrK : D → Prop
  | sc (w : Str) (h : w = Str.ofString "script" ∨ w = Str.ofString "old" ∨ w = Str.ofString "new") : ErrK (.tup [.non, .str w])
  | at_ (k : Nat) (w : Str) (hk : k < 12) (h : w = Str.ofString "deed" ∨ w = Str.ofString "name") : ErrK (.tup [.int ((k : Nat) : Int), .str w])
/-- what a value is that is held against the rules -/
def vg (d : D) : Prop := (∃ ds, d = .tup ds ∧ ds.length ≤ 1000 ∧ ∀ x ∈ ds, dg x = true) ∨ (tg d = true ∧ ∀ ds, d ≠ .tup ds) ∨ ∃ fs, d = .ins "Script" fs
theorem b_script_error_is : b_script_error = (sSeq (sIf (cOr (cNot (cBl (eCallB (opIsi ktX) (aCons (eVar 0) (aCons (eK (.ty "tuple")) aNil))))) (cBl (eBin opGt (eCallB opLen (aCons (eVar 0) aNil)) (eK (.int 12))))) (sRet (eTup (aCons (eK .non) (aCons (eK (.str "script")) aNil)))) sNext)
  (sSeq (sFor (iEnu (aCons (eVar 0) aNil)) tgt2 pbd)
  (sSeq (sIf (cBl (eBin opGt (eCallB opLen (aCons (eCall F_old_names (aCons (eVar 0) aNil)) aNil)) (eK (.int 4)))) (sRet (eTup (aCons (eK .non) (aCons (eK (.str "old")) aNil)))) sNext)
  (sRet (eIf (cBl (eBin opGt (eCallB opLen (aCons (eCall F_new_names (aCons (eVar 0) aNil)) aNil)) (eK (.int 3)))) (eTup (aCons (eK .non) (aCons (eK (.str "new")) aNil))) (eK .non)))))) := rfl
theorem b_l_script_error_is : b_l_script_error = (sSeq (sIf (cOr (cNot (cBl (eCallB (opIsi ktX) (aCons (eVar 0) (aCons (eK (.ty "tuple")) aNil))))) (cBl (eBin opGt (eCallB opLen (aCons (eVar 0) aNil)) (eK (.int 12))))) (sRet (eTup (aCons (eK .non) (aCons (eK (.str "script")) aNil)))) sNext)
  (sSeq (sFor (iRange (aCons (eCallB opLen (aCons (eVar 0) aNil)) aNil)) (nName 1) lbody)
  (sSeq (sAsg (nTup 2 (nCons (nName 3) (nCons (nName 4) nNil))) (eCall F_l_roles (aCons (eVar 0) aNil)))
  (sSeq (sIf (cBl (eBin opGt (eCallB opLen (aCons (eVar 3) aNil)) (eK (.int 4)))) (sRet (eTup (aCons (eK .non) (aCons (eK (.str "old")) aNil)))) sNext)
  (sRet (eIf (cBl (eBin opGt (eCallB opLen (aCons (eVar 4) aNil)) (eK (.int 3)))) (eTup (aCons (eK .non) (aCons (eK (.str "new")) aNil))) (eK .non))))))) := rfl
def scr : D := .tup [.non, .str "script"]
theorem rng_eq (n : Nat) (h : n ≤ 1000) : rangeItems 0 (n : Int) = some ((List.range' 0 n).map fun j => .int ((j : Nat) : Int)) := by
  unfold rangeItems
  have e : (2 : Int) ^ 62 = 4611686018427387904 := by decide
  rw [e, if_pos ⟨by omega, by omega, by omega, by omega⟩]
  simp [List.range_eq_range']
theorem irange_t {t : DA} {δ : Slots} {m m1 : Mem} {z : Int} (h : t δ m = .ok [.int z] m1) : iRange t δ m = lf (rangeItems 0 z) m1 := by
  rw [p_irange, h]
  rfl
theorem irange_n (n : Nat) (h : n ≤ 1000) {m : Mem} : lf (rangeItems 0 (n : Int)) m = .ok ((List.range' 0 n).map fun j => .int ((j : Nat) : Int)) m := by
  have e := rng_eq n h
  generalize rangeItems 0 (n : Int) = r at e
  subst e
  rfl
/-- the law's loop over the deeds' places -/
theorem lfirst (ds : List D) (m : Mem) (hl : ds.length ≤ 1000) (hd : ∀ x ∈ ds, dg x = true) : ∃ L, iRange (aCons (eCallB opLen (aCons (eVar 0) aNil)) aNil) [some (.tup ds), none, none, none, none] m = .ok L m ∧
    ((∃ a' b', firstE 0 ds = none ∧ loopL (nName 1) lbody L [some (.tup ds), none, none, none, none] m = .ok (.nx [some (.tup ds), a', b', none, none]) m) ∨ (∃ e, firstE 0 ds = some e ∧ loopL (nName 1) lbody L [some (.tup ds), none, none, none, none] m = .ok (.rt e) m)) := by
  have hq := lloop m ds hd none none ds.length 0 none none (by omega)
  rw [List.drop_zero] at hq
  exact ⟨_, (irange_t (z := (ds.length : Nat)) (m1 := m) (by simp)).trans (irange_n ds.length hl), hq⟩
theorem u1 (ds : List D) (m : Mem) {L : List D} {e : D} (h1 : iRange (aCons (eCallB opLen (aCons (eVar 0) aNil)) aNil) [some (.tup ds), none, none, none, none] m = .ok L m) (h2 : loopL (nName 1) lbody L [some (.tup ds), none, none, none, none] m = .ok (.rt e) m) :
    (sFor (iRange (aCons (eCallB opLen (aCons (eVar 0) aNil)) aNil)) (nName 1) lbody) [some (.tup ds), none, none, none, none] m = .ok (.rt e) m := by
  rw [p_for, h1]
  exact h2
theorem u2 (s t : SE) (δ : Slots) (m : Mem) {e : D} (h : s δ m = .ok (.rt e) m) : sSeq s t δ m = .ok (.rt e) m := by
  rw [p_seq, h]
theorem u3 (s t : SE) (δ δ1 : Slots) (m m1 : Mem) (h : s δ m = .ok (.nx δ1) m1) : sSeq s t δ m = t δ1 m1 := by
  rw [p_seq, h]
theorem u4 (ds : List D) (m : Mem) (hl : ds.length ≤ 12) : (sIf (cOr (cNot (cBl (eCallB (opIsi ktX) (aCons (eVar 0) (aCons (eK (.ty "tuple")) aNil))))) (cBl (eBin opGt (eCallB opLen (aCons (eVar 0) aNil)) (eK (.int 12))))) (sRet (eTup (aCons (eK .non) (aCons (eK (.str "script")) aNil)))) sNext) [some (.tup ds), none, none, none, none] m = .ok (.nx [some (.tup ds), none, none, none, none]) m := by
  have h12' : ¬ ((12 : Int) < (ds.length : Int)) := by omega
  simp [opIsi, tagD, tagN, ktX, ktn, h12']
theorem body_rt (ds : List D) (m : Mem) (hl : ds.length ≤ 12) {L : List D} {e : D} (h1 : iRange (aCons (eCallB opLen (aCons (eVar 0) aNil)) aNil) [some (.tup ds), none, none, none, none] m = .ok L m) (h2 : loopL (nName 1) lbody L [some (.tup ds), none, none, none, none] m = .ok (.rt e) m) :
    b_l_script_error [some (.tup ds), none, none, none, none] m = .ok (.rt e) m := by
  rw [b_l_script_error_is]
  exact (u3 _ _ _ _ _ _ (u4 ds m hl)).trans (u2 _ _ _ _ (u1 ds m h1 h2))
theorem wrong (d : D) (m : Mem) {t : CN} (ht : tagD m d = some t) (hk : ktX t (.bt "tuple") = some false) : F_script_error [d] m = .ok scr m ∧ F_l_script_error [d] m = .ok scr m := by
  refine ⟨runF_rt ?_ rfl rfl, runF_rt ?_ rfl rfl⟩
  · simp [b_script_error, opIsi, ht, hk, scr]
  · simp [b_l_script_error, opIsi, ht, hk, scr]
theorem tg_wrong (d : D) (m : Mem) (ht : tg d = true) (hn : ∀ ds, d ≠ .tup ds) : ∃ t, tagD m d = some t ∧ ktX t (.bt "tuple") = some false := by
  cases d <;> first | (cases ht; done) | (exact absurd rfl (hn _)) | exact ⟨_, rfl, by simp [ktX, ktn]⟩
theorem too_many (ds : List D) (m : Mem) (h : 12 < ds.length) : F_script_error [.tup ds] m = .ok scr m ∧ F_l_script_error [.tup ds] m = .ok scr m := by
  have h12' : (12 : Int) < (ds.length : Int) := by omega
  refine ⟨runF_rt ?_ rfl rfl, runF_rt ?_ rfl rfl⟩
  · simp [b_script_error, opIsi, tagD, tagN, ktX, ktn, h12', scr]
  · simp [b_l_script_error, opIsi, tagD, tagN, ktX, ktn, h12', scr]
theorem hen_eq (ds : List D) : enumItems ds = ds.mapIdx fun j d => .tup [.int ((0 + j : Nat) : Int), d] := by
  unfold enumItems
  congr 1
  funext j d
  rw [Nat.zero_add]
theorem bad_deed (ds : List D) (m : Mem) (hl : ds.length ≤ 12) (hd : ∀ x ∈ ds, dg x = true) {e : D} (hf : firstE 0 ds = some e) : F_script_error [.tup ds] m = .ok e m ∧ F_l_script_error [.tup ds] m = .ok e m := by
  have h12' : ¬ ((12 : Int) < (ds.length : Int)) := by omega
  have hen := hen_eq ds
  have hp := ploop m (.tup ds) ds 0 none none none hd
  obtain ⟨L, hL, hq⟩ := lfirst ds m (by omega) hd
  obtain ⟨k, w, h1, h2, h3⟩ := firstE_some ds 0 hf
  rcases hp with ⟨_, _, _, z, _⟩ | ⟨e1, z1, hp⟩
  · rw [hf] at z; cases z
  rcases hq with ⟨_, _, z, _⟩ | ⟨e2, z2, hq⟩
  · rw [hf] at z; cases z
  rw [hf] at z1 z2
  cases z1
  cases z2
  have hb : isBox e = false := by rw [h3]; rfl
  rw [← hen] at hp
  refine ⟨runF_rt ?_ hb rfl, runF_rt ?_ hb rfl⟩
  · rw [b_script_error_is]
    simp [opIsi, tagD, tagN, ktX, ktn, h12', hp]
  · exact body_rt ds m hl hL hq
/-- what right deeds come to -/
def cntE (l : Ro) : D := if 4 < oldN l then .tup [.non, .str "old"] else if 3 < newN l then .tup [.non, .str "new"] else .non
theorem cntE_box (l : Ro) : isBox (cntE l) = false := by
  unfold cntE
  split
  · rfl
  · split <;> rfl
theorem right_p (ps : List Dd) (m : Mem) (hl : ps.length ≤ 12) (hd : ∀ x ∈ ps.map dD, dg x = true) (hok : ∀ p ∈ ps, okD p) (hm : closedL m.length m = true) (hf : firstE 0 (ps.map dD) = none) : F_script_error [.tup (ps.map dD)] m = .ok (cntE (rolesOf ps)) m := by
  have h12' : ¬ ((12 : Int) < (ps.length : Int)) := by omega
  have hen := hen_eq (ps.map dD)
  have hp := ploop m (.tup (ps.map dD)) (ps.map dD) 0 none none none hd
  rcases hp with ⟨a', b', c', _, hp⟩ | ⟨e1, z1, _⟩
  case inr => rw [hf] at z1; cases z1
  rw [← hen] at hp
  obtain ⟨xs, o1, o2⟩ := old_names_eq ps m hl hok hm
  obtain ⟨ys, n1, n2⟩ := new_names_eq ps m hl hok hm
  refine runF_rt ?_ (cntE_box _) rfl
  rw [b_script_error_is]
  unfold cntE
  by_cases c1 : 4 < oldN (rolesOf ps)
  · have c1' : (4 : Int) < (oldN (rolesOf ps) : Int) := by omega
    simp [opIsi, tagD, tagN, ktX, ktn, h12', hp, o1, o2, c1, c1']
  · have c1' : ¬ ((4 : Int) < (oldN (rolesOf ps) : Int)) := by omega
    by_cases c2 : 3 < newN (rolesOf ps)
    · have c2' : (3 : Int) < (newN (rolesOf ps) : Int) := by omega
      simp [opIsi, tagD, tagN, ktX, ktn, h12', hp, o1, o2, n1, n2, c1, c1', c2, c2']
    · have c2' : ¬ ((3 : Int) < (newN (rolesOf ps) : Int)) := by omega
      simp [opIsi, tagD, tagN, ktX, ktn, h12', hp, o1, o2, n1, n2, c1, c1', c2, c2']
theorem u5 (ds : List D) (m : Mem) {L : List D} {a b : Option D} (h1 : iRange (aCons (eCallB opLen (aCons (eVar 0) aNil)) aNil) [some (.tup ds), none, none, none, none] m = .ok L m) (h2 : loopL (nName 1) lbody L [some (.tup ds), none, none, none, none] m = .ok (.nx [some (.tup ds), a, b, none, none]) m) :
    (sFor (iRange (aCons (eCallB opLen (aCons (eVar 0) aNil)) aNil)) (nName 1) lbody) [some (.tup ds), none, none, none, none] m = .ok (.nx [some (.tup ds), a, b, none, none]) m := by
  rw [p_for, h1]
  exact h2
theorem u6 (ds : List D) (m : Mem) {a b : Option D} {xs ys : List D} {l : Ro} (r1 : F_l_roles [.tup ds] m = .ok (.tup [.tup xs, .tup ys]) m) (r2 : xs.length = oldN l) (r3 : ys.length = newN l) :
    (sSeq (sAsg (nTup 2 (nCons (nName 3) (nCons (nName 4) nNil))) (eCall F_l_roles (aCons (eVar 0) aNil)))
  (sSeq (sIf (cBl (eBin opGt (eCallB opLen (aCons (eVar 3) aNil)) (eK (.int 4)))) (sRet (eTup (aCons (eK .non) (aCons (eK (.str "old")) aNil)))) sNext)
  (sRet (eIf (cBl (eBin opGt (eCallB opLen (aCons (eVar 4) aNil)) (eK (.int 3)))) (eTup (aCons (eK .non) (aCons (eK (.str "new")) aNil))) (eK .non))))) [some (.tup ds), a, b, none, none] m = .ok (.rt (cntE l)) m := by
  unfold cntE
  by_cases c1 : 4 < oldN l
  · have c1' : (4 : Int) < (oldN l : Int) := by omega
    simp [r1, r2, c1, c1']
  · have c1' : ¬ ((4 : Int) < (oldN l : Int)) := by omega
    by_cases c2 : 3 < newN l
    · have c2' : (3 : Int) < (newN l : Int) := by omega
      simp [r1, r2, r3, c1, c1', c2, c2']
    · have c2' : ¬ ((3 : Int) < (newN l : Int)) := by omega
      simp [r1, r2, r3, c1, c1', c2, c2']
theorem body_nx (ds : List D) (m : Mem) (hl : ds.length ≤ 12) {L : List D} {a b : Option D} {xs ys : List D} {l : Ro} (h1 : iRange (aCons (eCallB opLen (aCons (eVar 0) aNil)) aNil) [some (.tup ds), none, none, none, none] m = .ok L m) (h2 : loopL (nName 1) lbody L [some (.tup ds), none, none, none, none] m = .ok (.nx [some (.tup ds), a, b, none, none]) m)
    (r1 : F_l_roles [.tup ds] m = .ok (.tup [.tup xs, .tup ys]) m) (r2 : xs.length = oldN l) (r3 : ys.length = newN l) : b_l_script_error [some (.tup ds), none, none, none, none] m = .ok (.rt (cntE l)) m := by
  rw [b_l_script_error_is]
  exact (u3 _ _ _ _ _ _ (u4 ds m hl)).trans ((u3 _ _ _ _ _ _ (u5 ds m h1 h2)).trans (u6 ds m r1 r2 r3))
theorem right_l (ps : List Dd) (m : Mem) (hl : ps.length ≤ 12) (hd : ∀ x ∈ ps.map dD, dg x = true) (hok : ∀ p ∈ ps, okD p) (hm : closedL m.length m = true) (hf : firstE 0 (ps.map dD) = none) : F_l_script_error [.tup (ps.map dD)] m = .ok (cntE (rolesOf ps)) m := by
  obtain ⟨L, hL, hq⟩ := lfirst (ps.map dD) m (by rw [List.length_map]; omega) hd
  rcases hq with ⟨a2, b2, _, hq⟩ | ⟨e2, z2, _⟩
  case inr => rw [hf] at z2; cases z2
  obtain ⟨xs2, ys2, r1, r2, r3⟩ := l_roles_eq ps m hl hok hm
  exact runF_rt (body_nx _ m (by rw [List.length_map]; exact hl) hL hq r1 r2 r3) (cntE_box _) rfl
/-- both find the same -/
theorem both (d : D) (m : Mem) (hv : vg d) (hm : closedL m.length m = true) : ∃ e, F_script_error [d] m = .ok e m ∧ F_l_script_error [d] m = .ok e m ∧ (ErrK e ∨ (e = .non ∧ ∃ ps : List Dd, d = .tup (ps.map dD) ∧ ps.length ≤ 12 ∧ ∀ p ∈ ps, okD p)) := by
  have hw : ErrK scr := .sc _ (.inl rfl)
  rcases hv with ⟨ds, rfl, hl, hd⟩ | ⟨ht, hn⟩ | ⟨fs, rfl⟩
  · by_cases h12 : 12 < ds.length
    · obtain ⟨h1, h2⟩ := too_many ds m h12
      exact ⟨scr, h1, h2, .inl hw⟩
    · cases hf : firstE 0 ds with
      | some e =>
        obtain ⟨h1, h2⟩ := bad_deed ds m (by omega) hd hf
        obtain ⟨k, w, k1, k2, k3⟩ := firstE_some ds 0 hf
        exact ⟨e, h1, h2, .inl (by rw [k3]; exact .at_ k w (by omega) k2)⟩
      | none =>
        obtain ⟨ps, rfl, hok⟩ := firstE_none ds 0 hf
        rw [List.length_map] at h12
        refine ⟨_, right_p ps m (by omega) hd hok hm hf, right_l ps m (by omega) hd hok hm hf, ?_⟩
        unfold cntE
        split
        · exact .inl (.sc _ (.inr (.inl rfl)))
        · split
          · exact .inl (.sc _ (.inr (.inr rfl)))
          · exact .inr ⟨rfl, ps, rfl, by omega, hok⟩
  · obtain ⟨t, h1, h2⟩ := tg_wrong d m ht hn
    obtain ⟨w1, w2⟩ := wrong d m h1 h2
    exact ⟨scr, w1, w2, .inl hw⟩
  · obtain ⟨w1, w2⟩ := wrong (.ins "Script" fs) m (t := .own "Script") rfl (by simp [ktX, isOwn])
    exact ⟨scr, w1, w2, .inl hw⟩
end K80
namespace K80
open PySem L2 DL
/-! ### Script(value), as the law tells it -/
/-- the deck -/
structure Dk where
  g : Int
  x : Int
  c : Int
def Dk.d (s : Dk) : D := .lst [.int s.g, .int s.x, .int s.c]
theorem dk_closed (s : Dk) : closedL [s.d].length [s.d] = true := by simp [closedL, closed, Dk.d]
theorem dk_closed2 (s : Dk) : closedL [s.d, D.ins "Script" []].length [s.d, D.ins "Script" []] = true := by simp [closedL, closed, Dk.d, closedF]
theorem errK_closed {e : D} (h : ErrK e) (n : Nat) : closed n e = true := by
  cases h <;> simp [closed, closedL]
theorem errK_non {e : D} (h : ErrK e) : isNon e = false := by
  cases h <;> rfl
theorem init_err (d e : D) (s : Dk) (h : F_script_error [d] [s.d, .ins "Script" []] = .ok e [s.d, .ins "Script" []]) (he : ErrK e) : F_Script_init [.box 1, d] [s.d, .ins "Script" []] = .exc ⟨.own "BadScript", [("error", e)]⟩ [s.d, .ins "Script" []] := by
  have hb : b_Script_init [some (.box 1), some d, none] [s.d, .ins "Script" []] = .ok (.ex ⟨.own "BadScript", [("error", e)]⟩ [some (.box 1), some d, some e]) [s.d, .ins "Script" []] := by
    simp [b_Script_init, h, errK_non he, sRaise1]
  have hc := errK_closed he 2
  show endF false 2 (b_Script_init [some (.box 1), some d, none] [s.d, .ins "Script" []]) = _
  rw [hb]
  show (if closedF 2 [("error", e)] = true ∧ closedL 2 ([s.d, D.ins "Script" []].take 2) = true then _ else _) = _
  rw [if_pos ⟨by simp [closedF, hc], dk_closed2 s⟩]
  rfl
theorem make_err (d e : D) (s : Dk) (h : F_script_error [d] [s.d, .ins "Script" []] = .ok e [s.d, .ins "Script" []]) (he : ErrK e) : mkR true "Script" F_Script_init [d] [s.d] = .exc ⟨.own "BadScript", [("error", e)]⟩ [s.d] := by
  have hi := init_err d e s h he
  have hc := errK_closed he 1
  unfold mkR
  rw [show F_Script_init (.box [s.d].length :: [d]) ([s.d] ++ [.ins "Script" []]) = _ from hi]
  show (if closedF 1 [("error", e)] = true ∧ closedL 1 ([s.d, D.ins "Script" []].take 1) = true then _ else _) = _
  rw [if_pos ⟨by simp [closedF, hc], by simp [closedL, closed, Dk.d]⟩]
  rfl
theorem told_err (d e : D) (s : Dk) (h : F_script_error [d] [s.d, .ins "Script" []] = .ok e [s.d, .ins "Script" []]) (he : ErrK e) : F_l_told [d] [s.d] = .ok (.lst [e]) [s.d] := by
  have hm := make_err d e s h he
  refine runF_rt ?_ rfl rfl
  have h3 : ¬ (Str.ofString "BadDeed" = Str.ofString "TwigError") := by decide
  simp [b_l_told, sTry, mk_Script, eMake, hm, pickH, exX, clrO, setE, opIsiE, ktE, eXf, xcX, h3]
theorem closed_dD (ps : List Dd) (n : Nat) : closed n (.tup (ps.map dD)) = true := by
  have hs : ∀ l : List Str, closedL n (l.map D.str) = true := fun l => by
    induction l with
    | nil => rfl
    | cons a l ih => simp [closedL, closed, ih]
  have : closedL n (ps.map dD) = true := by
    induction ps with
    | nil => rfl
    | cons p ps ih => simp [closedL, closed, dD, hs, ih]
  simpa [closed] using this
theorem low_ok (c : Nat) (h : low c = true) : c < 0x110000 := by
  have : ∀ c ∈ (Str.ofString "abcdefghijklmnopqrstuvwxyz").cps.toList, c < 0x110000 := by decide
  exact this c (of_decide_eq_true h)
theorem nm_ok {y : Str} (h : isNm y = true) : PyData.strOk y = true := by
  unfold isNm at h
  simp only [Bool.and_eq_true, List.all_eq_true] at h
  unfold PyData.strOk
  rw [← Array.all_toList, List.all_eq_true]
  exact fun c hc => decide_eq_true (low_ok c (h.2 c hc))
theorem words_ok : ∀ w ∈ words, PyData.strOk w = true ∧ w.length ≤ 8 := by decide +kernel
theorem lay_dD (ps : List Dd) (hp : ∀ p ∈ ps, okD p) : layD (.tup (ps.map dD)) = true ∧ depD (.tup (ps.map dD)) ≤ 2 := by
  have hs : ∀ l : List Str, (∀ x ∈ l, isNm x = true) → layL (l.map D.str) = true ∧ depL (l.map D.str) = 0 := fun l h => by
    induction l with
    | nil => exact ⟨rfl, rfl⟩
    | cons a l ih =>
      obtain ⟨i1, i2⟩ := ih fun x hx => h x (List.mem_cons_of_mem _ hx)
      exact ⟨by simp [layL, layD, nm_ok (h a List.mem_cons_self), i1], by simp [depL, depD, i2]⟩
  have : layL (ps.map dD) = true ∧ depL (ps.map dD) ≤ 1 := by
    induction ps with
    | nil => exact ⟨rfl, by simp [depL]⟩
    | cons p ps ih =>
      obtain ⟨i1, i2⟩ := ih fun x hx => hp x (List.mem_cons_of_mem _ hx)
      obtain ⟨h1, h2, h3⟩ := hp p List.mem_cons_self
      obtain ⟨s1, s2⟩ := hs p.2 h2
      exact ⟨by simp [layL, layD, dD, s1, (words_ok _ h3).1, i1], by simp [depL, depD, dD, s2]; omega⟩
  exact ⟨by simpa [layD] using this.1, by simp only [depD]; omega⟩
theorem eqD_refl_s (l : List Str) : eqL (l.map D.str) (l.map D.str) = true := by
  induction l with
  | nil => simp [eqL]
  | cons a l ih => simp [eqL, eqD, ih]
theorem eqD_dD (ps : List Dd) : eqD (.tup (ps.map dD)) (.tup (ps.map dD)) = true := by
  have : eqL (ps.map dD) (ps.map dD) = true := by
    induction ps with
    | nil => simp [eqL]
    | cons p ps ih => simp [eqL, eqD, dD, eqD_refl_s, ih]
  simpa [eqD] using this
theorem make_ok (ps : List Dd) (s : Dk) (h : F_script_error [.tup (ps.map dD)] [s.d, .ins "Script" []] = .ok .non [s.d, .ins "Script" []]) : mkR true "Script" F_Script_init [.tup (ps.map dD)] [s.d] = .ok (.ins "Script" [("row", .tup (ps.map dD))]) [s.d] := by
  have hc := closed_dD ps
  have hn : ncX "Script" "row" = true := by decide
  have hb : b_Script_init [some (.box 1), some (.tup (ps.map dD)), none] [s.d, .ins "Script" []] = .ok (.nx [some (.box 1), some (.tup (ps.map dD)), some .non]) [s.d, .ins "Script" [("row", .tup (ps.map dD))]] := by
    simp [b_Script_init, h, DL.sFld, boxI, hn, putFD]
  have hi : F_Script_init [.box 1, .tup (ps.map dD)] [s.d, .ins "Script" []] = .ok .non [s.d, .ins "Script" [("row", .tup (ps.map dD))]] := by
    show endF false 2 (b_Script_init [some (.box 1), some (.tup (ps.map dD)), none] [s.d, .ins "Script" []]) = _
    rw [hb]
    show (if closedL 2 ([s.d, D.ins "Script" [("row", .tup (ps.map dD))]].take 2) = true then _ else _) = _
    split <;> rfl
  unfold mkR
  rw [show F_Script_init (.box [s.d].length :: [.tup (ps.map dD)]) ([s.d] ++ [.ins "Script" []]) = _ from hi]
  show (if (1 : Nat) ≤ 1 ∧ closed 1 (D.ins "Script" [("row", .tup (ps.map dD))]) = true ∧ closedL 1 ([s.d, D.ins "Script" [("row", .tup (ps.map dD))]].take 1) = true then _ else _) = _
  rw [if_pos ⟨Nat.le_refl _, by simpa [closed, closedF] using hc 1, by simp [closedL, closed, Dk.d]⟩]
  rfl
theorem told_ok (ps : List Dd) (s : Dk) (hp : ∀ p ∈ ps, okD p) (h : F_script_error [.tup (ps.map dD)] [s.d, .ins "Script" []] = .ok .non [s.d, .ins "Script" []]) : F_l_told [.tup (ps.map dD)] [s.d] = .ok (.lst []) [s.d] := by
  have hm := make_ok ps s h
  obtain ⟨l1, l2⟩ := lay_dD ps hp
  have he : opEq [s.d] (.tup (ps.map dD)) (.tup (ps.map dD)) = some (.bl true) := by
    unfold opEq
    have e : dr [s.d] (.tup (ps.map dD)) = .tup (ps.map dD) := rfl
    have ok : eqOk [s.d] (.tup (ps.map dD)) (.tup (ps.map dD)) = true := by
      unfold eqOk
      rw [e, l1, decide_eq_true (show min _ _ ≤ 190 by omega)]
      simp
    rw [if_pos ok, e, eqD_dD]
  refine runF_rt ?_ rfl rfl
  simp [b_l_told, sTry, mk_Script, eMake, hm, eProp, insI, he]
/-! ### the text of both -/
def errP (p : PyData) : PyData := .list [.list [p], .list [p]]
theorem shown_sc : ∀ w ∈ ([Str.ofString "script", Str.ofString "old", Str.ofString "new"] : List Str), (errP (.tuple [.none, .str w])).shown.length ≤ 1000 := by decide +kernel
theorem shown_at : ∀ w ∈ ([Str.ofString "deed", Str.ofString "name"] : List Str), ∀ k < 12, (errP (.tuple [.int ((k : Nat) : Int), .str w])).shown.length ≤ 1000 := by decide +kernel
theorem int_show : ∀ k < 12, (((k : Nat) : Int).natAbs.log2 < 1920) := by decide +kernel
theorem repr_err {e : D} (m : Mem) (h : ErrK e) : ∃ t, opRepr m [.lst [.lst [e], .lst [e]]] = some (.str t) := by
  cases h with
  | sc w h =>
    have hz : (errP (.tuple [.none, .str w])).shown.length ≤ sizeLine := le_line (shown_sc w (by rcases h with h | h | h <;> simp [h]))
    refine ⟨(errP (.tuple [.none, .str w])).shown, ?_⟩
    unfold errP at hz ⊢
    simp [opRepr, dr, toPy, toPyL, PyData.showable, PyData.showableAll, PyData.hasDict, PyData.hasDictAll, PyData.depth, PyData.depthAll, hz]
  | at_ k w hk h =>
    have hz : (errP (.tuple [.int ((k : Nat) : Int), .str w])).shown.length ≤ sizeLine := le_line (shown_at w (by rcases h with h | h <;> simp [h]) k hk)
    have hi := int_show k hk
    refine ⟨(errP (.tuple [.int ((k : Nat) : Int), .str w])).shown, ?_⟩
    unfold errP at hz ⊢
    simp at hi
    simp [opRepr, dr, toPy, toPyL, PyData.showable, PyData.showableAll, PyData.hasDict, PyData.hasDictAll, PyData.depth, PyData.depthAll, hz, hi]
theorem repr_ok (m : Mem) : ∃ t, opRepr m [.lst [.lst [], .lst []]] = some (.str t) := by
  have hz : (PyData.list [.list [], .list []]).shown.length ≤ sizeLine := le_line (by decide +kernel)
  refine ⟨(PyData.list [.list [], .list []]).shown, ?_⟩
  simp [opRepr, dr, toPy, toPyL, PyData.showable, PyData.showableAll, PyData.hasDict, PyData.hasDictAll, PyData.depth, PyData.depthAll, hz]
end K80
namespace K80
open PySem L2 DL
/-! ### the deck, draws -/
section
variable {m : Mem}
theorem q_mul_l {i j : Int} (h : i.natAbs < 2 ^ 64) : opMul m (.int i) (.int j) = some (.int (i * j)) := by
  simp only [opMul, mulOk, decide_eq_true h, Bool.true_or, if_true]
theorem q_mul_r {i j : Int} (h : j.natAbs < 2 ^ 64) : opMul m (.int i) (.int j) = some (.int (i * j)) := by
  simp only [opMul, mulOk, decide_eq_true h, Bool.true_or, Bool.or_true, if_true]
theorem q_mod {i j : Int} (h : 0 < j) : opMod m (.int i) (.int j) = some (.int (i % j)) := by
  simp [opMod, DL.opI, h]
theorem q_div {i j : Int} (h : 0 < j) (h2 : j ≤ 2048) : opFdiv m (.int i) (.int j) = some (.int (i / j)) := by
  have e : j.natAbs.log2 < 9000 := by
    have h1 : j.natAbs ≤ 2048 := by omega
    have : j.natAbs.log2 ≤ j.natAbs := Nat.log2_le_self _
    omega
  simp [opFdiv, DL.opI, divOk, h, e]
theorem q_abs {i : Int} : opAbs m [.int i] = some (.int (if i < 0 then -i else i)) := rfl
theorem q_pow18 : opPow m (.int 10) (.int 18) = some (.int (10 ^ 18)) := by
  have : (decide ((0 : Int) ≤ 18 ∧ (18 : Int) ≤ 1000000 ∧ (10 : Int).natAbs < 2 ^ 64)) = true := by decide
  simp only [opPow, DL.opI, this, if_true]
  rfl
end
def dbody : SE := (sSeq (sSet 4 (eBin opAdd (eBin opAdd (eBin opMul (eK (.int 2)) (eCallB opAbs (aCons (eVar 3) aNil))) (eCallB opInt (aCons (eBin opLt (eVar 3) (eK (.int 0))) aNil))) (eK (.int 1))))
  (sSeq (sSet 2 (eBin opMod (eCallB opInt (aCons (eBin opAdd (eBin opMul (eVar 2) (eK (.int 6364136223846793005))) (eVar 4)) aNil)) (eK (.int 2305843009213693951))))
  (sIf (cBl (eBin opGe (eCallB opAbs (aCons (eVar 3) aNil)) (eBin opPow (eK (.int 10)) (eK (.int 18))))) (sSet 1 (eBin opAdd (eBin opMul (eVar 1) (eK (.int 37))) (eCallB opAbs (aCons (eVar 3) aNil)))) sNext)))
theorem b_l_deck_is : b_l_deck = (sSeq (sPar 1 2 (aCons (eK (.int 0)) (aCons (eBin opAdd (eK (.int 2917)) (eBin opMul (eK (.int 41)) (eCallB opLen (aCons (eVar 0) aNil)))) aNil)))
  (sSeq (sFor (iSeq (eSl (eVar 0) oNone (oSome (eK (.int 60))))) (nName 3) dbody)
  (sRet (eNew (aCons (eVar 1) (aCons (eVar 2) (aCons (eK (.int 0)) aNil))))))) := rfl
theorem k37 : (37 : Int).natAbs < 2 ^ 64 := by decide
theorem kbig : (6364136223846793005 : Int).natAbs < 2 ^ 64 := by decide
theorem k2 : (2 : Int).natAbs < 2 ^ 64 := by decide
theorem k41 : (41 : Int).natAbs < 2 ^ 64 := by decide
theorem km1 : (0 : Int) < 2305843009213693951 := by decide
theorem dbody_eq (v : D) (g x i : Int) (b : Option D) : ∃ g' x' b', dbody [some v, some (.int g), some (.int x), some (.int i), b] [] = .ok (.nx [some v, some (.int g'), some (.int x'), some (.int i), some b']) [] := by
  obtain ⟨ab, hab⟩ : ∃ ab : Int, ab = (if i < 0 then -i else i) := ⟨_, rfl⟩
  have ha : opAbs [] [.int i] = some (.int ab) := by rw [hab]; rfl
  obtain ⟨M, hM⟩ : ∃ M : Int, M = 2 * ab + (if decide (i < 0) = true then 1 else 0) + 1 := ⟨_, rfl⟩
  by_cases h : (10 : Int) ^ 18 ≤ ab
  · refine ⟨g * 37 + ab, (x * 6364136223846793005 + M) % 2305843009213693951, .int M, ?_⟩
    simp only [dbody, p_seq, p_set, p_bin, p_k, p_var, p_callB, p_acons, p_anil, p_sif, p_cbl, p_next, bind_ok, st_ok, lf_some, List.getElem?_cons_succ, List.getElem?_cons_zero, List.set_cons_succ, List.set_cons_zero, q_mul_l k2, q_mul_r kbig, q_mul_r k37, q_int_b, q_int_i, q_lt, q_add_ii, q_mod km1, q_pow18, q_ge, ha, decide_eq_true h, hM]
  · refine ⟨g, (x * 6364136223846793005 + M) % 2305843009213693951, .int M, ?_⟩
    simp only [dbody, p_seq, p_set, p_bin, p_k, p_var, p_callB, p_acons, p_anil, p_sif, p_cbl, p_next, bind_ok, st_ok, lf_some, List.getElem?_cons_succ, List.getElem?_cons_zero, List.set_cons_succ, List.set_cons_zero, q_mul_l k2, q_mul_r kbig, q_mul_r k37, q_int_b, q_int_i, q_lt, q_add_ii, q_mod km1, q_pow18, q_ge, ha, decide_eq_false h, hM]
theorem dloop (v : D) : ∀ (ns : List Int) (g x : Int) (a b : Option D), ∃ g' x' a' b', loopL (nName 3) dbody (ns.map .int) [some v, some (.int g), some (.int x), a, b] [] = .ok (.nx [some v, some (.int g'), some (.int x'), a', b']) []
  | [], g, x, a, b => ⟨g, x, a, b, rfl⟩
  | i :: ns, g, x, a, b => by
    obtain ⟨g1, x1, b1, e1⟩ := dbody_eq v g x i b
    obtain ⟨g2, x2, a2, b2, e2⟩ := dloop v ns g1 x1 (some (.int i)) (some b1)
    exact ⟨g2, x2, a2, b2, by simp [loopL, e1, e2]⟩
theorem deck_eq (ns : List Int) : ∃ s : Dk, F_l_deck [.lst (ns.map .int)] [] = .ok (.box 0) [s.d] := by
  obtain ⟨g, x, a, b, e⟩ := dloop (.lst (ns.map .int)) (ns.take 60) 0 (2917 + 41 * (ns.length : Nat)) none none
  refine ⟨⟨g, x, 0⟩, ?_⟩
  have hsl : opSl [] (.lst (ns.map .int)) none (some 60) = some (.lst ((ns.take 60).map .int)) := by
    show some (D.lst (cutD (ns.map D.int) none (some ((60 : Nat) : Int)))) = _
    rw [cutD_take, List.map_take]
  have hb : b_l_deck [some (.lst (ns.map .int)), none, none, none, none] [] = .ok (.rt (.box 0)) [.lst [.int g, .int x, .int 0]] := by
    rw [b_l_deck_is]
    simp only [p_seq, p_par, p_acons, p_anil, p_k, p_bin, p_callB, p_var, bind_ok, st_ok, lf_some, List.getElem?_cons_succ, List.getElem?_cons_zero, List.set_cons_succ, List.set_cons_zero, q_len_l, List.length_map, q_mul_l k41, q_add_ii, p_for, p_iseq, p_sl, p_onone, p_osome, hsl, q_items_l, e, p_ret, p_new, List.length_nil, List.nil_append]
  show endF false 0 (b_l_deck [some (.lst (ns.map .int)), none, none, none, none] []) = _
  rw [hb]
  rfl
/-! ### a draw -/
section
variable {s : Dk} {r : Mem}
theorem ix0 : opIx (s.d :: r) (.box 0) (.int 0) = some (.int s.g) := rfl
theorem ix1 : opIx (s.d :: r) (.box 0) (.int 1) = some (.int s.x) := rfl
theorem ix2 : opIx (s.d :: r) (.box 0) (.int 2) = some (.int s.c) := rfl
theorem set0 {v : Int} : opBox (fSet 0 (.int v)) (s.d :: r) (.box 0) [] = .ok .non ((Dk.mk v s.x s.c).d :: r) := rfl
theorem set2 {v : Int} : opBox (fSet 2 (.int v)) (s.d :: r) (.box 0) [] = .ok .non ((Dk.mk s.g s.x v).d :: r) := rfl
end
theorem kq : (11400714819323198485 : Int).natAbs < 2 ^ 64 := by decide
theorem m1 : (0 : Int) < 18446744073709551557 := by decide
theorem m2 : (0 : Int) < 2305843009213693951 := by decide
theorem m3 : (0 : Int) < 2305843009213693921 := by decide
theorem m4 : (0 : Int) < 4294967291 := by decide
theorem dv2048 {m : Mem} {i : Int} : opFdiv m (.int i) (.int 2048) = some (.int (i / 2048)) := q_div (by decide) (by decide)
theorem draw_eq (s : Dk) (r : Mem) (n : Int) (h0 : 0 < n) (h1 : n ≤ 1000) : ∃ (v : Int) (s' : Dk), F_l_draw [.box 0, .int n] (s.d :: r) = .ok (.int v) (s'.d :: r) ∧ 0 ≤ v ∧ v < n := by
  by_cases hg : 0 < s.g
  · refine ⟨s.g % n, ⟨s.g / n, s.x, s.c⟩, runF_rt ?_ rfl rfl, Int.emod_nonneg _ (by omega), Int.emod_lt_of_pos _ h0⟩
    simp only [b_l_draw, List.map_cons, List.map_nil, List.replicate, List.cons_append, List.nil_append, p_seq, p_set, p_bin, p_k, p_var, p_callB, p_acons, p_anil, p_sif, p_cbl, p_next, bind_ok, st_ok, lf_some, List.getElem?_cons_succ, List.getElem?_cons_zero, List.set_cons_succ, List.set_cons_zero, q_int_i, q_add_ii, q_gt, p_ret, p_asg, p_nsub, only_ok, ix0, q_mod h0, q_div h0 (show n ≤ 2048 by omega), decide_eq_true hg, set0]
  · obtain ⟨c, hc⟩ : ∃ c, c = s.c + 1 := ⟨_, rfl⟩
    obtain ⟨y, hy⟩ : ∃ y, y = (s.x + 11400714819323198485 * c) % 18446744073709551557 := ⟨_, rfl⟩
    have y0 : 0 ≤ y := by rw [hy]; exact Int.emod_nonneg _ (by decide)
    have y1 : y < 18446744073709551557 := by rw [hy]; exact Int.emod_lt_of_pos _ m1
    have y2 : y.natAbs < 2 ^ 64 := by omega
    obtain ⟨z, hz⟩ : ∃ z, z = (y * (y % 4294967291 + 7)) % 2305843009213693951 := ⟨_, rfl⟩
    have z0 : 0 ≤ z := by rw [hz]; exact Int.emod_nonneg _ (by decide)
    have z1 : z < 2305843009213693951 := by rw [hz]; exact Int.emod_lt_of_pos _ m2
    have z2 : z.natAbs < 2 ^ 64 := by omega
    refine ⟨(z * z) % 2305843009213693921 / 2048 % n, ⟨s.g, s.x, c⟩, runF_rt ?_ rfl rfl, Int.emod_nonneg _ (by omega), Int.emod_lt_of_pos _ h0⟩
    have j1 : opIx ((Dk.mk s.g s.x c).d :: r) (.box 0) (.int 1) = some (.int s.x) := rfl
    have j2 : opIx ((Dk.mk s.g s.x c).d :: r) (.box 0) (.int 2) = some (.int c) := rfl
    have hs : opBox (fSet 2 (.int (s.c + 1))) (s.d :: r) (.box 0) [] = .ok .non ((Dk.mk s.g s.x c).d :: r) := by rw [hc]; exact set2
    simp only [b_l_draw, List.map_cons, List.map_nil, List.replicate, List.cons_append, List.nil_append, p_seq, p_set, p_bin, p_k, p_var, p_callB, p_acons, p_anil, p_sif, p_cbl, p_next, bind_ok, st_ok, lf_some, List.getElem?_cons_succ, List.getElem?_cons_zero, List.set_cons_succ, List.set_cons_zero, q_int_i, q_add_ii, q_gt, p_ret, p_asg, p_nsub, only_ok, ix0, ix2, decide_eq_false hg, hs, j1, j2, q_mul_l kq, q_mod m1, ← hy, q_mod m4, q_mul_l y2, q_mod m2, ← hz, q_mul_l z2, q_mod m3, dv2048, q_mod h0]
/-- a pick of a list -/
theorem pick_l (s : Dk) (r : Mem) (xs : List D) (h0 : xs ≠ []) (h1 : xs.length ≤ 1000) (hx : ∀ x ∈ xs, isBox x = false) : ∃ (x : D) (s' : Dk), F_l_pick [.box 0, .lst xs] (s.d :: r) = .ok x (s'.d :: r) ∧ x ∈ xs := by
  have hp : 0 < xs.length := List.length_pos_iff.mpr h0
  obtain ⟨v, s', e, v0, v1⟩ := draw_eq s r (xs.length : Nat) (by omega) (by omega)
  obtain ⟨k, rfl⟩ := Int.eq_ofNat_of_zero_le v0
  have hk : k < xs.length := by omega
  refine ⟨xs[k], s', runF_rt ?_ (hx _ (List.getElem_mem hk)) rfl, List.getElem_mem hk⟩
  have hi : opIx (s'.d :: r) (.lst xs) (.int ((k : Nat) : Int)) = some xs[k] := by rw [q_ix_l]; exact List.getElem?_eq_getElem hk
  simp only [b_l_pick, List.map_cons, List.map_nil, List.replicate, List.cons_append, List.nil_append, p_ret, p_bin, p_var, p_call, p_acons, p_anil, p_callB, bind_ok, st_ok, lf_some, List.getElem?_cons_succ, List.getElem?_cons_zero, q_len_l, e, hi]
end K80
namespace K80
open PySem L2 DL
/-! ### names -/
def letters : Str := "abcdefghijklmnopqrstuvwxyz"
theorem let_len : letters.cps.toList.length = 26 := by decide
theorem joinL_signs : ∀ cs : List Nat, TL.joinL [] (cs.map fun c => [c]) = cs
  | [] => rfl
  | [c] => rfl
  | a :: b :: cs => by
    have ih := joinL_signs (b :: cs)
    simp only [List.map_cons] at ih ⊢
    simp only [TL.joinL, List.nil_append, ih]
    rfl
theorem join_signs (cs : List Nat) : (Txt.join ("" : Str) (cs.map fun c => (⟨#[c]⟩ : Str))).cps.toList = cs := by
  have h1 : Txt.join ("" : Str) (cs.map fun c => (⟨#[c]⟩ : Str)) = Str.join "" (cs.map fun c => (⟨#[c]⟩ : Str)) := StrLaws.glued_eq_join _ _
  rw [h1]
  have h2 := TL.tl_join ("" : Str) (cs.map fun c => (⟨#[c]⟩ : Str))
  have h3 : TL.tl ("" : Str) = [] := rfl
  rw [h3, List.map_map] at h2
  have h4 : (TL.tl ∘ fun c => (⟨#[c]⟩ : Str)) = fun c => [c] := rfl
  rw [h4, joinL_signs] at h2
  exact h2
theorem letter (m : Mem) (k : Nat) (hk : k < 26) : ∃ c, opIx m (.str letters) (.int ((k : Nat) : Int)) = some (.str ⟨#[c]⟩) ∧ low c = true := by
  have hl : k < letters.cps.toList.length := by rw [let_len]; exact hk
  refine ⟨letters.cps.toList[k], ?_, decide_eq_true (List.getElem_mem hl)⟩
  have hz : letters.length ≤ sizeLine := by decide
  simp only [opIx]
  rw [if_pos hz, DL.atI_nat, List.getElem?_eq_getElem hl]
  rfl
theorem draw_nat (s : Dk) (r : Mem) (n : Nat) (h0 : 0 < n) (h1 : n ≤ 1000) : ∃ (k : Nat) (s' : Dk), F_l_draw [.box 0, .int (n : Int)] (s.d :: r) = .ok (.int (k : Int)) (s'.d :: r) ∧ k < n := by
  obtain ⟨v, s', e, v0, v1⟩ := draw_eq s r n (by omega) (by omega)
  obtain ⟨k, rfl⟩ := Int.eq_ofNat_of_zero_le v0
  exact ⟨k, s', e, by omega⟩
/-- a letter is drawn -/
theorem draw_letter (s : Dk) (r : Mem) {δ : Slots} (i j : Nat) (hi : δ[i]? = some (some (.str letters))) (hj : δ[j]? = some (some (.box 0))) : ∃ (c : Nat) (s' : Dk), eBin opIx (eVar i) (eCall F_l_draw (aCons (eVar j) (aCons (eK (.int 26)) aNil))) δ (s.d :: r) = .ok (.str ⟨#[c]⟩) (s'.d :: r) ∧ low c = true := by
  obtain ⟨k, s', e, hk⟩ := draw_nat s r 26 (by decide) (by decide)
  obtain ⟨c, hc, hl⟩ := letter (s'.d :: r) k hk
  refine ⟨c, s', ?_, hl⟩
  rw [show ((26 : Nat) : Int) = 26 from rfl] at e
  simp only [p_bin, p_var, hi, hj, p_call, p_acons, p_anil, p_k, bind_ok, e, hc, lf_some]
theorem signs_of (xs : List D) (h : ∀ x ∈ xs, ∃ c, x = .str ⟨#[c]⟩ ∧ low c = true) : ∃ cs : List Nat, xs = cs.map (fun c => .str ⟨#[c]⟩) ∧ ∀ c ∈ cs, low c = true := by
  induction xs with
  | nil => exact ⟨[], rfl, by simp⟩
  | cons a xs ih =>
    obtain ⟨cs, e, hc⟩ := ih fun x hx => h x (List.mem_cons_of_mem _ hx)
    obtain ⟨c, rfl, hl⟩ := h a List.mem_cons_self
    exact ⟨c :: cs, by rw [e]; rfl, fun d hd => by
      rcases List.mem_cons.mp hd with z | z
      · exact z ▸ hl
      · exact hc d z⟩
theorem name_eq (s : Dk) (r : Mem) : ∃ (y : Str) (s' : Dk), F_l_name [.box 0] (s.d :: r) = .ok (.str y) (s'.d :: r) ∧ isNm y = true := by
  obtain ⟨k, s1, e1, hk⟩ := draw_nat s r 8 (by decide) (by decide)
  rw [show ((8 : Nat) : Int) = 8 from rfl] at e1
  have hr : iRange (aCons (eBin opAdd (eK (.int 1)) (eCall F_l_draw (aCons (eVar 0) (aCons (eK (.int 8)) aNil)))) aNil) [some (.box 0), some (.str letters), none] (s.d :: r) = .ok ((List.range' 0 (k + 1)).map fun j => .int ((j : Nat) : Int)) (s1.d :: r) := by
    refine (irange_t (z := ((k + 1 : Nat) : Int)) (m1 := s1.d :: r) ?_).trans (irange_n (k + 1) (by omega))
    simp only [p_acons, p_bin, p_k, p_call, p_var, p_anil, List.getElem?_cons_zero, bind_ok, e1, q_add_ii, lf_some]
    rw [show (1 : Int) + (k : Int) = ((k + 1 : Nat) : Int) by omega]
  obtain ⟨xs, m2, h1, ⟨s2, rfl⟩, h3, h4⟩ := compL_inv (t := nName 2) (e := eBin opIx (eVar 1) (eCall F_l_draw (aCons (eVar 0) (aCons (eK (.int 26)) aNil)))) (δ := [some (.box 0), some (.str letters), none]) (fun m => ∃ s' : Dk, m = s'.d :: r) (fun x => ∃ c, x = .str ⟨#[c]⟩ ∧ low c = true)
    ((List.range' 0 (k + 1)).map fun j => .int ((j : Nat) : Int)) (s1.d :: r) ⟨s1, rfl⟩ (by
      rintro d hd m ⟨s', rfl⟩
      obtain ⟨c, s'', e, hl⟩ := draw_letter s' r (δ := [some (.box 0), some (.str letters), some d]) 1 0 rfl rfl
      exact ⟨_, _, _, rfl, e, ⟨s'', rfl⟩, c, rfl, hl⟩)
  obtain ⟨cs, rfl, hcs⟩ := signs_of xs h4
  rw [List.length_map, List.length_map, List.length_range'] at h3
  have hj := join_signs cs
  have hst : strsI (cs.map fun c => D.str ⟨#[c]⟩) = some (cs.map fun c => (⟨#[c]⟩ : Str)) := by
    rw [← strsI_map, List.map_map]; rfl
  have hsum : ((cs.map fun c => (⟨#[c]⟩ : Str)).map (·.length)).sum = cs.length := by
    clear hst hj hcs h4 h1 h3
    induction cs with
    | nil => rfl
    | cons a cs ih =>
      simp only [List.map_cons, List.sum_cons, List.length_cons, ih]
      show 1 + _ = _
      omega
  have hjo : opJoin (s2.d :: r) (.str "") (.lst (cs.map fun c => D.str ⟨#[c]⟩)) = some (.str (Txt.join ("" : Str) (cs.map fun c => (⟨#[c]⟩ : Str)))) := by
    simp only [opJoin, seqI, Option.bind_some, hst]
    rw [hsum, if_pos (by rw [List.length_map]; show cs.length + cs.length * 0 ≤ _; omega)]
  refine ⟨Txt.join ("" : Str) (cs.map fun c => (⟨#[c]⟩ : Str)), s2, runF_rt ?_ rfl rfl, ?_⟩
  · have hk9 : ((List.range' 0 (k + 1)).map fun j => D.int ((j : Nat) : Int)).length < sizeLine := by
      rw [List.length_map, List.length_range']
      exact Nat.lt_of_le_of_lt (show k + 1 ≤ 8 by omega) (by decide)
    have hset : (eK (.str "abcdefghijklmnopqrstuvwxyz")) [some (D.box 0), none, none] (s.d :: r) = .ok (.str letters) (s.d :: r) := rfl
    simp only [b_l_name, List.map_cons, List.map_nil, List.replicate, List.cons_append, List.nil_append, p_seq, p_set, hset, st_ok, List.set_cons_succ, List.set_cons_zero, p_ret, p_sm, p_k, bind_ok, isStr, if_true, lf_some, p_compG, hr, hk9, wipeD, h1, p_endF, hjo]
  · unfold isNm
    have hl : (Txt.join ("" : Str) (cs.map fun c => (⟨#[c]⟩ : Str))).length = cs.length := by
      show (Txt.join ("" : Str) (cs.map fun c => (⟨#[c]⟩ : Str))).cps.size = _
      rw [← Array.length_toList, hj]
    rw [hl, hj, Bool.and_eq_true]
    exact ⟨decide_eq_true (by omega), List.all_eq_true.mpr hcs⟩
end K80
namespace K80
open PySem L2 DL
/-! ### nine names -/
def sp (j : Nat) : Str := ⟨#[97 + j / 26, 97 + j % 26]⟩
theorem let_at : ∀ k < 26, letters.cps.toList[k]? = some (97 + k) := by decide
theorem low_at : ∀ k < 26, low (97 + k) = true := by decide
theorem ix_let (m : Mem) (k : Nat) (hk : k < 26) : opIx m (.str letters) (.int ((k : Nat) : Int)) = some (.str ⟨#[97 + k]⟩) := by
  have hz : letters.length ≤ sizeLine := by decide
  simp only [opIx]
  rw [if_pos hz, DL.atI_nat, let_at k hk]
  rfl
theorem sp_nm (j : Nat) (hj : j < 676) : isNm (sp j) = true := by
  have h1 := low_at (j / 26) (by omega)
  have h2 := low_at (j % 26) (by omega)
  unfold isNm sp
  have hl : (⟨#[97 + j / 26, 97 + j % 26]⟩ : Str).length = 2 := rfl
  rw [hl]
  simp [h1, h2]
theorem sp_inj {i j : Nat} (h : sp i = sp j) : i = j := by
  unfold sp at h
  simp only [Str.mk.injEq, Array.mk.injEq, List.cons.injEq, and_true] at h
  omega
theorem spare_eq (m : Mem) (δ : Slots) (h2 : δ[2]? = some (some (.str letters))) (h9 : 9 < δ.length) : compL (nName 9) cYes (eBin opAdd (eBin opIx (eVar 2) (eBin opFdiv (eVar 9) (eK (.int 26)))) (eBin opIx (eVar 2) (eBin opMod (eVar 9) (eK (.int 26))))) δ ((List.range' 0 676).map fun j => .int ((j : Nat) : Int)) m = .ok ((List.range' 0 676).map fun j => .str (sp j)) m := by
  have h := compL_map (t := nName 9) (e := eBin opAdd (eBin opIx (eVar 2) (eBin opFdiv (eVar 9) (eK (.int 26)))) (eBin opIx (eVar 2) (eBin opMod (eVar 9) (eK (.int 26))))) (δ := δ) (m := m) (fun d => match d with | .int z => .str (sp z.toNat) | _ => .non) ((List.range' 0 676).map fun j => .int ((j : Nat) : Int)) fun d hd => by
    obtain ⟨j, hj, rfl⟩ := List.mem_map.mp hd
    have hj2 : j < 676 := by
      have := (List.mem_range'_1.mp hj).2
      omega
    refine ⟨δ.set 9 (some (.int ((j : Nat) : Int))), rfl, ?_⟩
    have e1 : (δ.set 9 (some (.int ((j : Nat) : Int))))[2]? = some (some (.str letters)) := by rw [List.getElem?_set_ne (by decide)]; exact h2
    have e2 : (δ.set 9 (some (.int ((j : Nat) : Int))))[9]? = some (some (.int ((j : Nat) : Int))) := List.getElem?_set_self h9
    have hd1 : opFdiv m (.int ((j : Nat) : Int)) (.int 26) = some (.int ((j / 26 : Nat) : Int)) := by rw [q_div (by decide) (by decide)]; rfl
    have hd2 : opMod m (.int ((j : Nat) : Int)) (.int 26) = some (.int ((j % 26 : Nat) : Int)) := by rw [q_mod (by decide)]; rfl
    have ha : opAdd m (.str ⟨#[97 + j / 26]⟩) (.str ⟨#[97 + j % 26]⟩) = some (.str (sp j)) := by
      simp only [opAdd]
      rw [if_pos (by show 1 + 1 ≤ sizeLine; decide)]
      rfl
    simp only [p_bin, p_var, e1, e2, p_k, bind_ok, hd1, hd2, lf_some, ix_let m _ (show j / 26 < 26 by omega), ix_let m _ (show j % 26 < 26 by omega), ha]
    simp
  rw [h, List.map_map]
  rfl
theorem nodup_sub : ∀ (l ys : List Str), l.Nodup → (∀ x ∈ l, x ∈ ys) → l.length ≤ ys.length
  | [], ys, _, _ => Nat.zero_le _
  | a :: l, ys, hn, h => by
    obtain ⟨h1, h2⟩ := List.nodup_cons.mp hn
    have ha := h a List.mem_cons_self
    have ih := nodup_sub l (ys.erase a) h2 fun x hx => (List.mem_erase_of_ne (show x ≠ a from fun e => h1 (by rw [← e]; exact hx))).mpr (h x (List.mem_cons_of_mem _ hx))
    rw [List.length_erase_of_mem ha] at ih
    have : 0 < ys.length := List.length_pos_of_mem ha
    simp only [List.length_cons]
    omega
theorem pig (ys : List Str) (a n : Nat) (h : ys.length < n) : ∃ j, j < n ∧ sp (a + j) ∉ ys := by
  by_cases q : ∃ j, j < n ∧ sp (a + j) ∉ ys
  · exact q
  · exfalso
    have hall : ∀ j, j < n → sp (a + j) ∈ ys := fun j hj => by
      by_cases z : sp (a + j) ∈ ys
      · exact z
      · exact absurd ⟨j, hj, z⟩ q
    have := nodup_sub ((List.range n).map fun j => sp (a + j)) ys (by
      rw [List.nodup_iff_pairwise_ne, List.pairwise_map]
      exact (List.nodup_iff_pairwise_ne.mp List.nodup_range).imp fun {i j} hij e => hij (by have := sp_inj e; omega)) fun x hx => by
        obtain ⟨j, hj, rfl⟩ := List.mem_map.mp hx
        exact hall j (List.mem_range.mp hj)
    simp at this
    omega
/-! the loop that looks for a free name -/
def wc : DT := cBl (eBin opIn (eVar 11) (eVar 8))
def wb : SE := sSeq (sSet 11 (eBin opIx (eVar 3) (eVar 7))) (sSet 7 (eBin opAdd (eVar 7) (eK (.int 1))))
def spares : D := .lst ((List.range' 0 676).map fun j => .str (sp j))
abbrev SL (way : Int) (base : Str) (place at_ : Int) (k c : Option D) (x : Str) : Slots := [some (.box 0), some (.int 9), some (.str letters), some spares, some (.int way), some (.str base), some (.int place), some (.int at_), some (.box 1), k, c, some (.str x)]
theorem in_names (s : Dk) (ys : List Str) (x : Str) : opIn [s.d, .lst (ys.map .str)] (.str x) (.box 1) = some (.bl (decide (x ∈ ys))) := by
  have hf : ((ys.map D.str).all flatD) = true := by simp [flatD]
  have key : ((ys.map D.str).any fun z => eqD z (.str x)) = decide (x ∈ ys) := by
    rw [List.any_map]
    induction ys with
    | nil => simp
    | cons a l ih => 
      have := ih (by simp [flatD])
      rw [List.any_cons, this]
      by_cases q : a = x
      · subst q; simp [eqD]
      · have q2 : ¬ x = a := fun e => q e.symm
        simp [eqD, q, q2]
  unfold opIn inD
  simp only [seqI, List.getElem?_cons_succ, List.getElem?_cons_zero]
  rw [if_pos, key]
  · rfl
  · rw [hf]; rfl
theorem wl (s : Dk) (ys : List Str) (way : Int) (base : Str) (place : Int) (k c : Option D) : ∀ (t : Nat) (x : Str) (a f : Nat), (x ∉ ys ∨ ∃ j, j < t ∧ sp (a + j) ∉ ys) → t < f → a + t ≤ 676 → isNm x = true →
    ∃ x' a', sWhile wc wb f (SL way base place (a : Nat) k c x) [s.d, .lst (ys.map .str)] = .ok (.nx (SL way base place (a' : Nat) k c x')) [s.d, .lst (ys.map .str)] ∧ a' ≤ a + t ∧ x' ∉ ys ∧ isNm x' = true := by
  intro t
  induction t with
  | zero =>
    intro x a f h hf ha hx
    obtain ⟨f, rfl⟩ : ∃ g, f = g + 1 := ⟨f - 1, by omega⟩
    have hn : x ∉ ys := by
      rcases h with h | ⟨j, hj, _⟩
      · exact h
      · omega
    refine ⟨x, a, ?_, by omega, hn, hx⟩
    simp only [sWhile, wc, p_cbl, p_bin, p_var, List.getElem?_cons_succ, List.getElem?_cons_zero, bind_ok, in_names, decide_eq_false hn, lf_some, st_ok]
  | succ t ih =>
    intro x a f h hf ha hx
    obtain ⟨f, rfl⟩ : ∃ g, f = g + 1 := ⟨f - 1, by omega⟩
    by_cases hn : x ∈ ys
    · have h' : sp a ∉ ys ∨ ∃ j, j < t ∧ sp (a + 1 + j) ∉ ys := by
        rcases h with h | ⟨j, hj, hs⟩
        · exact absurd hn h
        · cases j with
          | zero => exact .inl hs
          | succ j => exact .inr ⟨j, by omega, by rw [show a + 1 + j = a + (j + 1) by omega]; exact hs⟩
      obtain ⟨x', a', e, h1, h2, h3⟩ := ih (sp a) (a + 1) f h' (by omega) (by omega) (sp_nm a (by omega))
      refine ⟨x', a', ?_, by omega, h2, h3⟩
      have hix : opIx [s.d, .lst (ys.map .str)] spares (.int ((a : Nat) : Int)) = some (.str (sp a)) := by
        unfold spares
        rw [q_ix_l, List.getElem?_map, List.getElem?_range' (by omega)]
        simp
      have hc : wc (SL way base place (a : Nat) k c x) [s.d, .lst (ys.map .str)] = .ok true [s.d, .lst (ys.map .str)] := by
        simp only [wc, p_cbl, p_bin, p_var, List.getElem?_cons_succ, List.getElem?_cons_zero, bind_ok, in_names, decide_eq_true hn, lf_some]
      have hb : wb (SL way base place (a : Nat) k c x) [s.d, .lst (ys.map .str)] = .ok (.nx (SL way base place ((a + 1 : Nat) : Int) k c (sp a))) [s.d, .lst (ys.map .str)] := by
        simp only [wb, p_seq, p_set, p_bin, p_var, p_k, List.getElem?_cons_succ, List.getElem?_cons_zero, bind_ok, hix, lf_some, st_ok, List.set_cons_succ, List.set_cons_zero, q_add_ii]
        rfl
      show (wc _ _).st _ _ = _
      rw [hc]
      show (match wb (SL way base place (a : Nat) k c x) [s.d, .lst (ys.map .str)] with
        | .ok (.nx δ2) m2 => sWhile wc wb f δ2 m2
        | .ok (.ct δ2) m2 => sWhile wc wb f δ2 m2
        | .ok (.bk δ2) m2 => .ok (.nx δ2) m2
        | r => r) = _
      rw [hb]
      exact e
    · refine ⟨x, a, ?_, by omega, hn, hx⟩
      simp only [sWhile, wc, p_cbl, p_bin, p_var, List.getElem?_cons_succ, List.getElem?_cons_zero, bind_ok, in_names, decide_eq_false hn, lf_some, st_ok]
/-! the texts that names are cut from -/
def allLow (y : Str) : Prop := ∀ c ∈ y.cps.toList, low c = true
theorem nm_of {y : Str} (h1 : 1 ≤ y.length) (h2 : y.length ≤ 8) (h : allLow y) : isNm y = true := by
  unfold isNm
  rw [decide_eq_true ⟨h1, h2⟩, Bool.true_and, List.all_eq_true]
  exact h
theorem of_nm {y : Str} (h : isNm y = true) : 1 ≤ y.length ∧ y.length ≤ 8 ∧ allLow y := by
  unfold isNm at h
  simp only [Bool.and_eq_true, decide_eq_true_eq, List.all_eq_true] at h
  exact ⟨h.1.1, h.1.2, h.2⟩
theorem slen (y : Str) : y.length = y.cps.toList.length := by
  show y.cps.size = _
  simp
theorem cutS_take (z : Str) (k : Nat) : (cutS z none (some ((k : Nat) : Int))).cps.toList = z.cps.toList.take k := by
  unfold cutS
  have h1 : HT.sIx z.length 0 none = 0 := rfl
  rw [h1, HT.sIx_nat, List.drop_zero, Nat.sub_zero, slen]
  simp only [List.toList_toArray]
  by_cases h : k ≤ z.cps.toList.length
  · rw [Nat.min_eq_left h]
  · rw [Nat.min_eq_right (by omega), List.take_length, List.take_of_length_le (by omega)]
theorem cutS_drop (z : Str) (k : Nat) : (cutS z (some ((k : Nat) : Int)) none).cps.toList = z.cps.toList.drop k := by
  unfold cutS
  have h1 : HT.sIx z.length z.length none = z.length := rfl
  rw [h1, HT.sIx_nat, slen]
  simp only [List.toList_toArray]
  by_cases h : k ≤ z.cps.toList.length
  · rw [Nat.min_eq_left h, List.take_of_length_le (by rw [List.length_drop]; omega)]
  · rw [Nat.min_eq_right (by omega), List.drop_eq_nil_of_le (by omega), List.drop_eq_nil_of_le (by omega)]
    simp
theorem mul8 (y : Str) (h1 : 1 ≤ y.length) (hy : allLow y) : allLow (Txt.mul y 8) ∧ (Txt.mul y 8).length = 8 * y.length := by
  have h0 : ¬ (y.length = 0) := by omega
  have e : (Txt.mul y 8).cps.toList = y.cps.toList ++ (y.cps.toList ++ (y.cps.toList ++ (y.cps.toList ++ (y.cps.toList ++ (y.cps.toList ++ (y.cps.toList ++ y.cps.toList)))))) := by
    unfold Txt.mul
    simp [h0, List.replicate]
  refine ⟨fun c hc => ?_, ?_⟩
  · rw [e] at hc
    simp only [List.mem_append] at hc
    rcases hc with h | h | h | h | h | h | h | h <;> exact hy c h
  · rw [slen, e, slen]
    simp only [List.length_append]
    omega
theorem opSl_take (m : Mem) (z : Str) (k : Nat) (h : z.length ≤ 1000) : opSl m (.str z) none (some ((k : Nat) : Int)) = some (.str (cutS z none (some ((k : Nat) : Int)))) := if_pos (le_line h)
theorem opSl_drop (m : Mem) (z : Str) (k : Nat) (h : z.length ≤ 1000) : opSl m (.str z) (some ((k : Nat) : Int)) none = some (.str (cutS z (some ((k : Nat) : Int)) none)) := if_pos (le_line h)
theorem add_s (m : Mem) (x y : Str) (h : x.length + y.length ≤ 1000) : opAdd m (.str x) (.str y) = some (.str (x ++ y)) := if_pos (le_line h)
end K80
namespace K80
open PySem L2 DL
abbrev SL0 (way : Int) (base : Str) (place at_ : Int) (k b c : Option D) : Slots := [some (.box 0), some (.int 9), some (.str letters), some spares, some (.int way), some (.str base), some (.int place), some (.int at_), some (.box 1), k, b, c]
theorem e_bin {op : Op2} {fa fb : DE} {δ : Slots} {m m1 m2 : Mem} {a b d : D} (h1 : fa δ m = .ok a m1) (h2 : fb δ m1 = .ok b m2) (h3 : op m2 a b = some d) : eBin op fa fb δ m = .ok d m2 := by
  rw [p_bin, h1]
  simp only [bind_ok]
  rw [h2]
  simp only [bind_ok]
  rw [h3]
  rfl
theorem cpsA (a b : Str) : (a ++ b).cps.toList = a.cps.toList ++ b.cps.toList := by
  show (a.cps ++ b.cps).toList = _
  simp
def nk : SE := sSet 10 (eIf (cBl (eBin opEq (eVar 4) (eK (.int 3)))) (eCall F_l_draw (aCons (eVar 0) (aCons (eK (.int 3)) aNil))) (eVar 4))
def nx3 : SE := sIf (cBl (eBin opEq (eVar 10) (eK (.int 0)))) (sSet 11 (eCall F_l_name (aCons (eVar 0) aNil))) (sIf (cBl (eBin opEq (eVar 10) (eK (.int 1)))) (sSet 11 (eBin opAdd (eBin opAdd (eSl (eVar 5) oNone (oSome (eVar 6))) (eBin opIx (eVar 2) (eCall F_l_draw (aCons (eVar 0) (aCons (eK (.int 26)) aNil))))) (eSl (eVar 5) (oSome (eBin opAdd (eVar 6) (eK (.int 1)))) oNone))) (sSet 11 (eSl (eVar 5) oNone (oSome (eBin opAdd (eK (.int 1)) (eCall F_l_draw (aCons (eVar 0) (aCons (eK (.int 8)) aNil))))))))
def nap : SE := sExpr (eLM (opBox fApp) (eVar 8) (aCons (eVar 11) aNil))
def nb : SE := sSeq nk (sSeq nx3 (sSeq (sWhile wc wb 1000) nap))
theorem b_l_names_is : b_l_names = (sSeq (sSet 2 (eK (.str "abcdefghijklmnopqrstuvwxyz")))
  (sSeq (sSet 3 (eCompG false (iRange (aCons (eK (.int 676)) aNil)) [9] (nName 9) cYes (eBin opAdd (eBin opIx (eVar 2) (eBin opFdiv (eVar 9) (eK (.int 26)))) (eBin opIx (eVar 2) (eBin opMod (eVar 9) (eK (.int 26)))))))
  (sSeq (sPar 4 5 (aCons (eCall F_l_draw (aCons (eVar 0) (aCons (eK (.int 4)) aNil))) (aCons (eSl (eBin opMul (eCall F_l_name (aCons (eVar 0) aNil)) (eK (.int 8))) oNone (oSome (eK (.int 8)))) aNil)))
  (sSeq (sPar3 6 7 8 (aCons (eCall F_l_draw (aCons (eVar 0) (aCons (eK (.int 8)) aNil))) (aCons (eK (.int 0)) (aCons (eNew aNil) aNil))))
  (sSeq (sFor (iRange (aCons (eVar 1) aNil)) (nName 9) nb)
  (sRet (eVar 8))))))) := rfl
theorem nk_eq (s : Dk) (r : Mem) (way : Int) (base : Str) (p a : Int) (k b c : Option D) : ∃ (q : Int) (s' : Dk), nk (SL0 way base p a k b c) (s.d :: r) = .ok (.nx (SL0 way base p a k (some (.int q)) c)) (s'.d :: r) := by
  by_cases h : way = 3
  · obtain ⟨v, s', e, _⟩ := draw_nat s r 3 (by decide) (by decide)
    rw [show ((3 : Nat) : Int) = 3 from rfl] at e
    refine ⟨(v : Int), s', ?_⟩
    simp only [nk, p_set, p_if, p_cbl, p_bin, p_var, p_k, p_call, p_acons, p_anil, List.getElem?_cons_succ, List.getElem?_cons_zero, bind_ok, q_eq_ii, decide_eq_true h, lf_some, e, st_ok, List.set_cons_succ, List.set_cons_zero]
  · refine ⟨way, s, ?_⟩
    simp only [nk, p_set, p_if, p_cbl, p_bin, p_var, p_k, List.getElem?_cons_succ, List.getElem?_cons_zero, bind_ok, q_eq_ii, decide_eq_false h, lf_some, st_ok, List.set_cons_succ, List.set_cons_zero]
theorem nx3_eq (s : Dk) (r : Mem) (way q : Int) (base : Str) (hb : allLow base) (hl : base.length = 8) (p : Nat) (hp : p < 8) (a : Int) (k c : Option D) : ∃ (x : Str) (s' : Dk), nx3 (SL0 way base (p : Int) a k (some (.int q)) c) (s.d :: r) = .ok (.nx (SL way base (p : Int) a k (some (.int q)) x)) (s'.d :: r) ∧ isNm x = true := by
  have hl2 : base.cps.toList.length = 8 := by rw [← slen]; exact hl
  by_cases h0 : q = 0
  · obtain ⟨y, s', e, hy⟩ := name_eq s r
    refine ⟨y, s', ?_, hy⟩
    simp only [nx3, p_sif, p_set, p_cbl, p_bin, p_var, p_k, p_call, p_acons, p_anil, List.getElem?_cons_succ, List.getElem?_cons_zero, bind_ok, q_eq_ii, decide_eq_true h0, lf_some, e, st_ok, List.set_cons_succ, List.set_cons_zero]
  · by_cases h1 : q = 1
    · obtain ⟨ch, s', e, hc⟩ := draw_letter s r (δ := SL0 way base (p : Int) a k (some (.int q)) c) 2 0 rfl rfl
      have t1 := cutS_take base p
      have t2 := cutS_drop base (p + 1)
      have l1 : (cutS base none (some ((p : Nat) : Int))).length = p := by rw [slen, t1, List.length_take, hl2]; omega
      have l2 : (cutS base (some ((p + 1 : Nat) : Int)) none).length = 7 - p := by rw [slen, t2, List.length_drop, hl2]; omega
      have lc : (⟨#[ch]⟩ : Str).length = 1 := rfl
      have a1 := add_s (s'.d :: r) (cutS base none (some ((p : Nat) : Int))) ⟨#[ch]⟩ (by rw [l1, lc]; omega)
      have l3 : (cutS base none (some ((p : Nat) : Int)) ++ (⟨#[ch]⟩ : Str)).length = p + 1 := by rw [strLen_append, l1, lc]
      have a2 := add_s (s'.d :: r) (cutS base none (some ((p : Nat) : Int)) ++ (⟨#[ch]⟩ : Str)) (cutS base (some ((p + 1 : Nat) : Int)) none) (by rw [l3, l2]; omega)
      refine ⟨cutS base none (some ((p : Nat) : Int)) ++ (⟨#[ch]⟩ : Str) ++ cutS base (some ((p + 1 : Nat) : Int)) none, s', ?_, nm_of (by rw [strLen_append, l3, l2]; omega) (by rw [strLen_append, l3, l2]; omega) ?_⟩
      · have c1 := opSl_take (s.d :: r) base p (by omega)
        have c2 := opSl_drop (s'.d :: r) base (p + 1) (by omega)
        have x1 : eSl (eVar 5) oNone (oSome (eVar 6)) (SL0 way base (p : Int) a k (some (.int q)) c) (s.d :: r) = .ok (.str (cutS base none (some ((p : Nat) : Int)))) (s.d :: r) := by
          simp only [p_sl, p_var, p_onone, p_osome, List.getElem?_cons_succ, List.getElem?_cons_zero, bind_ok, c1, lf_some]
        have x2 : eSl (eVar 5) (oSome (eBin opAdd (eVar 6) (eK (.int 1)))) oNone (SL0 way base (p : Int) a k (some (.int q)) c) (s'.d :: r) = .ok (.str (cutS base (some ((p + 1 : Nat) : Int)) none)) (s'.d :: r) := by
          simp only [p_sl, p_var, p_onone, p_osome, p_bin, p_k, List.getElem?_cons_succ, List.getElem?_cons_zero, bind_ok, q_add_ii, lf_some]
          rw [show ((p : Nat) : Int) + 1 = ((p + 1 : Nat) : Int) from rfl, c2]
          rfl
        have x3 := e_bin (op := opAdd) (e_bin (op := opAdd) x1 e a1) x2 a2
        have y0 : cBl (eBin opEq (eVar 10) (eK (.int 0))) (SL0 way base (p : Int) a k (some (.int q)) c) (s.d :: r) = .ok false (s.d :: r) := by
          simp only [p_cbl, p_bin, p_var, p_k, List.getElem?_cons_succ, List.getElem?_cons_zero, bind_ok, q_eq_ii, decide_eq_false h0, lf_some]
        have y1 : cBl (eBin opEq (eVar 10) (eK (.int 1))) (SL0 way base (p : Int) a k (some (.int q)) c) (s.d :: r) = .ok true (s.d :: r) := by
          simp only [p_cbl, p_bin, p_var, p_k, List.getElem?_cons_succ, List.getElem?_cons_zero, bind_ok, q_eq_ii, decide_eq_true h1, lf_some]
        unfold nx3
        rw [p_sif, y0]
        simp only [st_ok]
        rw [p_sif, y1]
        simp only [st_ok]
        rw [p_set, x3]
        rfl
      · intro d hd
        rw [show (cutS base none (some ((p : Nat) : Int)) ++ (⟨#[ch]⟩ : Str) ++ cutS base (some ((p + 1 : Nat) : Int)) none).cps.toList = (cutS base none (some ((p : Nat) : Int))).cps.toList ++ [ch] ++ (cutS base (some ((p + 1 : Nat) : Int)) none).cps.toList by
          rw [cpsA, cpsA]] at hd
        rw [t1, t2] at hd
        simp only [List.mem_append, List.mem_singleton] at hd
        rcases hd with (hd | hd) | hd
        · exact hb d (List.mem_of_mem_take hd)
        · rw [hd]; exact hc
        · exact hb d (List.mem_of_mem_drop hd)
    · obtain ⟨v, s', e, hv⟩ := draw_nat s r 8 (by decide) (by decide)
      rw [show ((8 : Nat) : Int) = 8 from rfl] at e
      have t1 := cutS_take base (v + 1)
      have l1 : (cutS base none (some ((v + 1 : Nat) : Int))).length = v + 1 := by rw [slen, t1, List.length_take, hl2]; omega
      have c1 := opSl_take (s'.d :: r) base (v + 1) (by omega)
      refine ⟨cutS base none (some ((v + 1 : Nat) : Int)), s', ?_, nm_of (by omega) (by omega) fun d hd => by rw [t1] at hd; exact hb d (List.mem_of_mem_take hd)⟩
      simp only [nx3, p_sif, p_set, p_cbl, p_bin, p_var, p_k, p_call, p_acons, p_anil, p_sl, p_onone, p_osome, List.getElem?_cons_succ, List.getElem?_cons_zero, bind_ok, q_eq_ii, decide_eq_false h0, decide_eq_false h1, lf_some, e, st_ok, q_add_ii]
      rw [show (1 : Int) + (v : Int) = ((v + 1 : Nat) : Int) by omega, c1]
      rfl
theorem nap_eq (s : Dk) (ys : List Str) (hy : ys.length ≤ 100) (way : Int) (base : Str) (p a : Int) (k b : Option D) (x : Str) : nap (SL way base p a k b x) [s.d, .lst (ys.map .str)] = .ok (.nx (SL way base p a k b x)) [s.d, .lst ((ys ++ [x]).map .str)] := by
  have hs : (ys.map D.str).length < sizeLine := by rw [List.length_map]; exact Nat.lt_of_le_of_lt hy (by decide)
  simp only [nap, p_expr, p_lm, p_var, p_acons, p_anil, List.getElem?_cons_succ, List.getElem?_cons_zero, bind_ok, lstI, lf_some, opBox, boxL, fApp, hs, if_true, only_ok, st_ok, List.set_cons_succ, List.set_cons_zero, List.map_append, List.map_cons, List.map_nil]
theorem nb_eq (s : Dk) (ys : List Str) (hy : ys.length ≤ 9) (way : Int) (base : Str) (hb : allLow base) (hl : base.length = 8) (p : Nat) (hp : p < 8) (a : Nat) (ha : a ≤ 600) (k b c : Option D) : ∃ (x : Str) (s' : Dk) (q : Option D) (a' : Nat), nb (SL0 way base (p : Int) (a : Int) k b c) [s.d, .lst (ys.map .str)] = .ok (.nx (SL way base (p : Int) (a' : Int) k q x)) [s'.d, .lst ((ys ++ [x]).map .str)] ∧ isNm x = true ∧ a' ≤ a + 10 := by
  obtain ⟨q, s1, e1⟩ := nk_eq s [.lst (ys.map .str)] way base p a k b c
  obtain ⟨x, s2, e2, hx⟩ := nx3_eq s1 [.lst (ys.map .str)] way q base hb hl p hp a k c
  obtain ⟨x', a', e3, h1, h2, h3⟩ := wl s2 ys way base p k (some (.int q)) 10 x a 1000 (.inr (by obtain ⟨j, h⟩ := pig ys a 10 (by omega); exact ⟨j, h⟩)) (by decide) (by omega) hx
  have e4 := nap_eq s2 ys (by omega) way base p a' k (some (.int q)) x'
  refine ⟨x', s2, some (.int q), a', ?_, h3, h1⟩
  unfold nb
  exact (u3 _ _ _ _ _ _ e1).trans ((u3 _ _ _ _ _ _ e2).trans ((u3 _ _ _ _ _ _ e3).trans e4))
theorem nloop (way : Int) (base : Str) (hb : allLow base) (hl : base.length = 8) (p : Nat) (hp : p < 8) : ∀ (items : List D) (s : Dk) (ys : List Str) (a : Nat) (k b c : Option D), (∀ y ∈ ys, isNm y = true) → ys.length + items.length ≤ 9 → a + 10 * items.length ≤ 600 →
    ∃ (s' : Dk) (ys' : List Str) (a' : Nat) (k' b' c' : Option D), loopL (nName 9) nb items (SL0 way base (p : Int) (a : Int) k b c) [s.d, .lst (ys.map .str)] = .ok (.nx (SL0 way base (p : Int) (a' : Nat) k' b' c')) [s'.d, .lst (ys'.map .str)] ∧ (∀ y ∈ ys', isNm y = true) ∧ ys'.length = ys.length + items.length
  | [], s, ys, a, k, b, c, hy, _, _ => ⟨s, ys, a, k, b, c, rfl, hy, by simp⟩
  | d :: items, s, ys, a, k, b, c, hy, hn, ha => by
    simp only [List.length_cons] at hn ha
    obtain ⟨x, s1, q, a1, e1, hx, h1⟩ := nb_eq s ys (by omega) way base hb hl p hp a (by omega) (some d) b c
    obtain ⟨s2, ys2, a2, k2, b2, c2, e2, h2, h3⟩ := nloop way base hb hl p hp items s1 (ys ++ [x]) a1 (some d) q (some (.str x)) (fun y hy' => by
      rcases List.mem_append.mp hy' with z | z
      · exact hy y z
      · rw [List.mem_singleton.mp z]; exact hx) (by simp; omega) (by omega)
    refine ⟨s2, ys2, a2, k2, b2, c2, ?_, h2, by rw [h3]; simp; omega⟩
    have ht : nName 9 d (SL0 way base (p : Int) (a : Int) k b c) [s.d, .lst (ys.map .str)] = .ok (SL0 way base (p : Int) (a : Int) (some d) b c) [s.d, .lst (ys.map .str)] := rfl
    simp only [loopL, ht, st_ok, e1, e2]
theorem closed_strs (n : Nat) (l : List Str) : closedL n (l.map D.str) = true := by
  induction l with
  | nil => rfl
  | cons a l ih => simp [closedL, closed, ih]
theorem st1 (s : Dk) : (sSet 2 (eK (.str "abcdefghijklmnopqrstuvwxyz"))) [some (.box 0), some (.int 9), none, none, none, none, none, none, none, none, none, none] [s.d] = .ok (.nx [some (.box 0), some (.int 9), some (.str letters), none, none, none, none, none, none, none, none, none]) [s.d] := rfl
theorem st2 (s : Dk) : (sSet 3 (eCompG false (iRange (aCons (eK (.int 676)) aNil)) [9] (nName 9) cYes (eBin opAdd (eBin opIx (eVar 2) (eBin opFdiv (eVar 9) (eK (.int 26)))) (eBin opIx (eVar 2) (eBin opMod (eVar 9) (eK (.int 26))))))) [some (.box 0), some (.int 9), some (.str letters), none, none, none, none, none, none, none, none, none] [s.d] =
    .ok (.nx [some (.box 0), some (.int 9), some (.str letters), some spares, none, none, none, none, none, none, none, none]) [s.d] := by
  have hr : iRange (aCons (eK (.int 676)) aNil) [some (.box 0), some (.int 9), some (.str letters), none, none, none, none, none, none, none, none, none] [s.d] = .ok ((List.range' 0 676).map fun j => .int ((j : Nat) : Int)) [s.d] :=
    (irange_t (z := ((676 : Nat) : Int)) (m1 := [s.d]) rfl).trans (irange_n 676 (by decide))
  have hc := spare_eq [s.d] [some (.box 0), some (.int 9), some (.str letters), none, none, none, none, none, none, none, none, none] rfl (by decide)
  have hl : ((List.range' 0 676).map fun j => D.int ((j : Nat) : Int)).length < sizeLine := by rw [List.length_map, List.length_range']; decide
  rw [p_set, p_compG, hr]
  simp only [bind_ok]
  rw [if_pos hl]
  simp only [lf_some, bind_ok]
  rw [show wipeD [some (D.box 0), some (.int 9), some (.str letters), none, none, none, none, none, none, none, none, none] [9] = [some (.box 0), some (.int 9), some (.str letters), none, none, none, none, none, none, none, none, none] from rfl, hc]
  rfl
theorem st3 (s : Dk) : ∃ (way : Int) (base : Str) (s' : Dk), (sPar 4 5 (aCons (eCall F_l_draw (aCons (eVar 0) (aCons (eK (.int 4)) aNil))) (aCons (eSl (eBin opMul (eCall F_l_name (aCons (eVar 0) aNil)) (eK (.int 8))) oNone (oSome (eK (.int 8)))) aNil))) [some (.box 0), some (.int 9), some (.str letters), some spares, none, none, none, none, none, none, none, none] [s.d] =
    .ok (.nx [some (.box 0), some (.int 9), some (.str letters), some spares, some (.int way), some (.str base), none, none, none, none, none, none]) [s'.d] ∧ allLow base ∧ base.length = 8 := by
  obtain ⟨v, s1, e1, _⟩ := draw_nat s [] 4 (by decide) (by decide)
  rw [show ((4 : Nat) : Int) = 4 from rfl] at e1
  obtain ⟨y, s2, e2, hy⟩ := name_eq s1 []
  obtain ⟨y1, y2, y3⟩ := of_nm hy
  obtain ⟨z1, z2⟩ := mul8 y y1 y3
  have hm : opMul [s2.d] (.str y) (.int 8) = some (.str (Txt.mul y 8)) := if_pos ⟨by decide, by decide, by omega⟩
  have hc := opSl_take [s2.d] (Txt.mul y 8) 8 (by omega)
  rw [show ((8 : Nat) : Int) = 8 from rfl] at hc
  have t1 := cutS_take (Txt.mul y 8) 8
  rw [show ((8 : Nat) : Int) = 8 from rfl] at t1
  refine ⟨v, cutS (Txt.mul y 8) none (some 8), s2, ?_, fun c hc => by rw [t1] at hc; exact z1 c (List.mem_of_mem_take hc), by rw [slen, t1, List.length_take, ← slen, z2]; omega⟩
  simp only [p_par, p_acons, p_anil, p_call, p_var, p_k, List.getElem?_cons_succ, List.getElem?_cons_zero, bind_ok, e1, p_sl, p_bin, e2, hm, lf_some, p_onone, p_osome, hc, st_ok, List.set_cons_succ, List.set_cons_zero]
theorem st4 (s : Dk) (way : Int) (base : Str) : ∃ (p : Nat) (s' : Dk), (sPar3 6 7 8 (aCons (eCall F_l_draw (aCons (eVar 0) (aCons (eK (.int 8)) aNil))) (aCons (eK (.int 0)) (aCons (eNew aNil) aNil)))) [some (.box 0), some (.int 9), some (.str letters), some spares, some (.int way), some (.str base), none, none, none, none, none, none] [s.d] =
    .ok (.nx (SL0 way base (p : Int) ((0 : Nat) : Int) none none none)) [s'.d, .lst []] ∧ p < 8 := by
  obtain ⟨v, s1, e1, hv⟩ := draw_nat s [] 8 (by decide) (by decide)
  rw [show ((8 : Nat) : Int) = 8 from rfl] at e1
  refine ⟨v, s1, ?_, hv⟩
  simp only [p_par3, p_acons, p_anil, p_call, p_var, p_k, List.getElem?_cons_succ, List.getElem?_cons_zero, bind_ok, e1, p_new, st_ok, List.set_cons_succ, List.set_cons_zero]
  rfl
theorem names_eq (s : Dk) : ∃ (ys : List Str) (s' : Dk), F_l_names [.box 0, .int 9] [s.d] = .ok (.lst (ys.map .str)) [s'.d] ∧ ys.length = 9 ∧ ∀ y ∈ ys, isNm y = true := by
  obtain ⟨way, base, s1, e3, hb, hl⟩ := st3 s
  obtain ⟨p, s2, e4, hp⟩ := st4 s1 way base
  have hr : iRange (aCons (eVar 1) aNil) (SL0 way base (p : Int) ((0 : Nat) : Int) none none none) [s2.d, .lst []] = .ok ((List.range' 0 9).map fun j => .int ((j : Nat) : Int)) [s2.d, .lst []] :=
    (irange_t (z := ((9 : Nat) : Int)) (m1 := [s2.d, .lst []]) rfl).trans (irange_n 9 (by decide))
  obtain ⟨s3, ys, a', k', b', c', e5, h1, h2⟩ := nloop way base hb hl p hp ((List.range' 0 9).map fun j => .int ((j : Nat) : Int)) s2 [] 0 none none none (by simp) (by simp) (by simp)
  have h2' : ys.length = 9 := by rw [h2]; simp
  have e6 : (sFor (iRange (aCons (eVar 1) aNil)) (nName 9) nb) (SL0 way base (p : Int) ((0 : Nat) : Int) none none none) [s2.d, .lst []] = .ok (.nx (SL0 way base (p : Int) (a' : Int) k' b' c')) [s3.d, .lst (ys.map .str)] := by
    rw [p_for, hr]
    exact e5
  have hbody : b_l_names [some (.box 0), some (.int 9), none, none, none, none, none, none, none, none, none, none] [s.d] = .ok (.rt (.box 1)) [s3.d, .lst (ys.map .str)] := by
    rw [b_l_names_is]
    refine (u3 _ _ _ _ _ _ (st1 s)).trans ((u3 _ _ _ _ _ _ (st2 s)).trans ((u3 _ _ _ _ _ _ e3).trans ((u3 _ _ _ _ _ _ e4).trans ((u3 _ _ _ _ _ _ e6).trans ?_))))
    rfl
  refine ⟨ys, s3, ?_, h2', h1⟩
  exact runF_frz (s := b_l_names) (k := 10) (ds := [.box 0, .int 9]) (m := [s.d]) (m' := [s3.d, .lst (ys.map .str)]) (j := 1) hbody (Nat.le_refl 1) rfl (by simpa [closed] using closed_strs 1 ys) (by simp [closedL, closed, Dk.d])
end K80
namespace K80
open PySem L2 DL
/-! ### deeds that are drawn -/
/-- a part of a deed; a deed -/
def GI (x : D) : Prop := tg x = true ∧ (∀ n, closed n x = true) ∧ isBox x = false
def GD (x : D) : Prop := dg x = true ∧ (∀ n, closed n x = true) ∧ isBox x = false
theorem gi_str {y : Str} (h : y.length ≤ 1000) : GI (.str y) := ⟨decide_eq_true h, fun n => by simp [closed], rfl⟩
theorem gi_nm {y : Str} (h : isNm y = true) : GI (.str y) := gi_str (by have := isNm_len h; omega)
theorem closedL_of (n : Nat) : ∀ xs : List D, (∀ x ∈ xs, GI x) → closedL n xs = true
  | [], _ => rfl
  | x :: xs, h => by simp [closedL, (h x List.mem_cons_self).2.1 n, closedL_of n xs fun y hy => h y (List.mem_cons_of_mem _ hy)]
theorem gd_tup {xs : List D} (h : ∀ x ∈ xs, GI x) (hl : xs.length ≤ 1000) : GD (.tup xs) :=
  ⟨by simp only [dg, Bool.and_eq_true, List.all_eq_true, decide_eq_true_eq]; exact ⟨fun x hx => (h x hx).1, hl⟩, fun n => by simpa [closed] using closedL_of n xs h, rfl⟩
theorem gd_gi {x : D} (h : GD x) : GI x := by
  refine ⟨?_, h.2.1, h.2.2⟩
  have := h.1
  cases x <;> first | exact this | rfl
theorem gd_lst {xs : List D} (h : ∀ x ∈ xs, GI x) : GD (.lst xs) := ⟨rfl, fun n => by simpa [closed] using closedL_of n xs h, rfl⟩
theorem box_of {xs : List D} (h : ∀ x ∈ xs, GI x) : ∀ x ∈ xs, isBox x = false := fun x hx => (h x hx).2.2
theorem pick_str (s : Dk) (r : Mem) (ys : List Str) (h0 : ys ≠ []) (h1 : ys.length ≤ 1000) : ∃ (y : Str) (s' : Dk), F_l_pick [.box 0, .lst (ys.map .str)] (s.d :: r) = .ok (.str y) (s'.d :: r) ∧ y ∈ ys := by
  obtain ⟨x, s', e, hx⟩ := pick_l s r (ys.map .str) (by simpa using h0) (by simpa using h1) (fun x hx => by obtain ⟨y, _, rfl⟩ := List.mem_map.mp hx; rfl)
  obtain ⟨y, hy, rfl⟩ := List.mem_map.mp hx
  exact ⟨y, s', e, hy⟩
theorem some_deed_eq (s : Dk) (r : Mem) (few : List Str) (h0 : few ≠ []) (h1 : few.length ≤ 9) (hn : ∀ y ∈ few, isNm y = true) : ∃ (d : D) (s' : Dk), F_l_some_deed [.box 0, .lst (few.map .str)] (s.d :: r) = .ok d (s'.d :: r) ∧ GD d := by
  obtain ⟨w, s1, e1, hw⟩ := pick_str s r words (by decide) (by decide)
  have hw8 := (words_ok w hw).2
  obtain ⟨a, s2, e2, ha⟩ := pick_str s1 r few h0 (by omega)
  obtain ⟨b, s3, e3, hb⟩ := pick_str s2 r few h0 (by omega)
  have hin := inD_w single (.str w) (s1.d :: r) (decide_eq_true (show w.length ≤ 1000 by omega))
  rw [← single_eq] at hin
  have hop : opIn (s1.d :: r) (.str w) (.tup [.str "front", .str "back", .str "lift", .str "cut"]) = some (.bl (inW single (.str w))) := by unfold opIn; rw [hin]; rfl
  have hwords := l_words_eq (s.d :: r)
  cases hs : inW single (.str w) with
  | true =>
    rw [hs] at hop
    refine ⟨.tup [.str w, .str a], s2, runF_rt ?_ rfl rfl, gd_tup (fun x hx => ?_) (by simp)⟩
    · simp only [b_l_some_deed, List.map_cons, List.map_nil, List.replicate, List.cons_append, List.nil_append, p_seq, p_set, p_sif, p_ret, p_tup, p_cbl, p_bin, p_var, p_k, p_call, p_acons, p_anil, List.getElem?_cons_succ, List.getElem?_cons_zero, List.set_cons_succ, List.set_cons_zero, bind_ok, st_ok, lf_some, hwords, e1, hop, e2]
    · simp only [List.mem_cons, List.not_mem_nil, or_false] at hx
      rcases hx with rfl | rfl
      · exact gi_str (by omega)
      · exact gi_nm (hn a ha)
  | false =>
    rw [hs] at hop
    refine ⟨.tup [.str w, .str a, .str b], s3, runF_rt ?_ rfl rfl, gd_tup (fun x hx => ?_) (by simp)⟩
    · simp only [b_l_some_deed, List.map_cons, List.map_nil, List.replicate, List.cons_append, List.nil_append, p_seq, p_set, p_sif, p_ret, p_tup, p_cbl, p_bin, p_var, p_k, p_call, p_acons, p_anil, p_next, List.getElem?_cons_succ, List.getElem?_cons_zero, List.set_cons_succ, List.set_cons_zero, bind_ok, st_ok, lf_some, hwords, e1, hop, e2, e3]
    · simp only [List.mem_cons, List.not_mem_nil, or_false] at hx
      rcases hx with rfl | rfl | rfl
      · exact gi_str (by omega)
      · exact gi_nm (hn a ha)
      · exact gi_nm (hn b hb)
/-! odd values -/
def odd1 : List D := [.non, .bl true, .bl false, .int 0, .int 1, .int (0 - 7), .int (10 ^ 39), .str "", .str "A", .str "a ", .str "+a", .str "aaaaaaaaa", .str "a1", .str "z", .str "zzzzzzzz"]
def odd2 : List D := [.str "`", .str "a\n", .str "{", .str "a{", .lst [.str "z", .tup []], .dct [(.inr "a", .int 1), (.inr "b", .int 2)]]
def odd3 : List D := [.tup [.str "a"], .tup [.str "z", .tup []], .lst [.str "a"], .lst [], .dct [], .dct [(.inr "a", .int 1)], .tup [], .tup [.tup [], .tup []], .tup [.tup [.str "z", .tup []]], .str "first"]
/-- a value that is held against the rules -/
def vgB : D → Bool
  | .tup ds => ds.all dg && decide (ds.length ≤ 1000)
  | d => tg d
theorem odd_ok : ∀ x ∈ odd1 ++ odd2 ++ odd3, GI x ∧ GD x ∧ vgB x = true := by
  have h1 : ∀ x ∈ odd1 ++ odd2 ++ odd3, tg x = true ∧ dg x = true ∧ isBox x = false ∧ vgB x = true := by decide +kernel
  have h2 : ∀ n, ∀ x ∈ odd1 ++ odd2 ++ odd3, closed n x = true := by
    intro n x hx
    simp only [odd1, odd2, odd3, List.cons_append, List.nil_append, List.mem_cons, List.not_mem_nil, or_false] at hx
    rcases hx with h | h | h | h | h | h | h | h | h | h | h | h | h | h | h | h | h | h | h | h | h | h | h | h | h | h | h | h | h | h | h <;> subst h <;> simp [closed, closedL, closedK]
  exact fun x hx => ⟨⟨(h1 x hx).1, fun n => h2 n x hx, (h1 x hx).2.2.1⟩, ⟨(h1 x hx).2.1, fun n => h2 n x hx, (h1 x hx).2.2.1⟩, (h1 x hx).2.2.2⟩
theorem add_ll (m : Mem) (xs ys : List D) (h : xs.length + ys.length ≤ 1000) : opAdd m (.lst xs) (.lst ys) = some (.lst (xs ++ ys)) := if_pos (le_line h)
theorem pow39 (m : Mem) : opPow m (.int 10) (.int 39) = some (.int (10 ^ 39)) := by
  have : (decide ((0 : Int) ≤ 39 ∧ (39 : Int) ≤ 1000000 ∧ (10 : Int).natAbs < 2 ^ 64)) = true := by decide
  simp only [opPow, DL.opI, this, if_true]
  rfl
theorem odd_eq (s : Dk) (r : Mem) : ∃ (x : D) (s' : Dk), F_l_odd [.box 0] (s.d :: r) = .ok x (s'.d :: r) ∧ GI x ∧ GD x ∧ vgB x = true := by
  obtain ⟨x, s', e, hx⟩ := pick_l s r (odd1 ++ odd2 ++ odd3) (by decide) (by decide) (fun x hx => (odd_ok x hx).1.2.2)
  refine ⟨x, s', runF_rt ?_ (odd_ok x hx).1.2.2 rfl, odd_ok x hx⟩
  have a1 := add_ll (s.d :: r) odd1 odd2 (by decide)
  have a2 := add_ll (s.d :: r) (odd1 ++ odd2) odd3 (by decide)
  have q1 := pow39 (s.d :: r)
  have g1 : (eLst (aCons (eK .non) (aCons (eK (.bl true)) (aCons (eK (.bl false)) (aCons (eK (.int 0)) (aCons (eK (.int 1)) (aCons (eBin opSub (eK (.int 0)) (eK (.int 7))) (aCons (eBin opPow (eK (.int 10)) (eK (.int 39))) (aCons (eK (.str "")) (aCons (eK (.str "A")) (aCons (eK (.str "a ")) (aCons (eK (.str "+a")) (aCons (eK (.str "aaaaaaaaa")) (aCons (eK (.str "a1")) (aCons (eK (.str "z")) (aCons (eK (.str "zzzzzzzz")) aNil)))))))))))))))) [some (D.box 0), none] (s.d :: r) = .ok (.lst odd1) (s.d :: r) := by
    simp only [p_lst, p_acons, p_anil, p_k, p_bin, bind_ok, q1, lf_some, q_sub_ii, odd1]
  have g2 : ∀ v : Option D, (eLst (aCons (eK (.str "`")) (aCons (eK (.str "a\n")) (aCons (eK (.str "{")) (aCons (eK (.str "a{")) (aCons (eLst (aCons (eK (.str "z")) (aCons (eTup aNil) aNil))) (aCons (eK (.dct [(.inr "a", .int 1), (.inr "b", .int 2)])) aNil))))))) [some (D.box 0), v] (s.d :: r) = .ok (.lst odd2) (s.d :: r) := fun v => rfl
  have g3 : ∀ v : Option D, (eLst (aCons (eTup (aCons (eK (.str "a")) aNil)) (aCons (eTup (aCons (eK (.str "z")) (aCons (eTup aNil) aNil))) (aCons (eLst (aCons (eK (.str "a")) aNil)) (aCons (eLst aNil) (aCons (eK (.dct [])) (aCons (eK (.dct [(.inr "a", .int 1)])) (aCons (eTup aNil) (aCons (eTup (aCons (eTup aNil) (aCons (eTup aNil) aNil))) (aCons (eTup (aCons (eTup (aCons (eK (.str "z")) (aCons (eTup aNil) aNil))) aNil)) (aCons (eK (.str "first")) aNil))))))))))) [some (D.box 0), v] (s.d :: r) = .ok (.lst odd3) (s.d :: r) := fun v => rfl
  have b1 : ∀ v, eVar 1 [some (D.box 0), some v] (s.d :: r) = .ok v (s.d :: r) := fun v => rfl
  show b_l_odd [some (.box 0), none] (s.d :: r) = _
  unfold b_l_odd
  rw [p_seq, p_set, g1]
  simp only [st_ok, List.set_cons_succ, List.set_cons_zero]
  rw [p_seq, p_set, e_bin (b1 _) (g2 _) a1]
  simp only [st_ok, List.set_cons_succ, List.set_cons_zero]
  rw [p_seq, p_set, e_bin (b1 _) (g3 _) a2]
  simp only [st_ok, List.set_cons_succ, List.set_cons_zero, p_ret, p_call, p_acons, p_anil, p_var, List.getElem?_cons_succ, List.getElem?_cons_zero, bind_ok, e]
end K80
namespace K80
open PySem L2 DL
/-! ### a deed with something odd -/
theorem runF_cut {s : SE} {k : Nat} {ds : List D} {m m' : Mem} {d : D} (h : s (ds.map some ++ List.replicate k none) m = .ok (.rt d) m') (hd : isBox d = false) (c : closed m.length d = true) (cm : closedL m.length (m'.take m.length) = true) : runF false s k ds m = .ok d (m'.take m.length) := by
  unfold runF
  rw [h]
  show retF false m.length d m' = _
  unfold retF
  exact if_pos ⟨c, cm⟩
theorem u7 (s t : SE) (δ : Slots) (m m1 : Mem) {d : D} (h : s δ m = .ok (.rt d) m1) : sSeq s t δ m = .ok (.rt d) m1 := by
  rw [p_seq, h]
abbrev OS (few : List Str) (a b c d e : Option D) : Slots := [some (.box 0), some (.lst (few.map .str)), a, b, c, d, e]
def o1 : SE := sPar 2 3 (aCons (eCall F_l_draw (aCons (eVar 0) (aCons (eK (.int 8)) aNil))) (aCons (eCall F_l_pick (aCons (eVar 0) (aCons (eCall F_l_words aNil) aNil))) aNil))
def o2 : SE := sIf (cBl (eBin opEq (eVar 2) (eK (.int 0)))) (sSet 3 (eCall F_l_pick (aCons (eVar 0) (aCons (eLst (aCons (eK (.str "top")) (aCons (eK (.str "First")) (aCons (eK (.str "")) (aCons (eK (.str "wra")) (aCons (eK (.str "puts")) (aCons (eK (.str "in")) (aCons (eCall F_l_odd (aCons (eVar 0) aNil)) aNil)))))))) aNil)))) sNext
def o3 : SE := sSet 4 (eBin opAdd (eK (.int 1)) (eCallB opInt (aCons (eBin opNotIn (eVar 3) (eTup (aCons (eK (.str "front")) (aCons (eK (.str "back")) (aCons (eK (.str "lift")) (aCons (eK (.str "cut")) aNil)))))) aNil)))
def o4 : SE := sIf (cBl (eBin opEq (eVar 2) (eK (.int 1)))) (sSet 4 (eCall F_l_draw (aCons (eVar 0) (aCons (eK (.int 5)) aNil)))) sNext
def o5 : SE := sSet 5 (eCompG true (iRange (aCons (eVar 4) aNil)) [6] (nName 6) cYes (eCall F_l_pick (aCons (eVar 0) (aCons (eVar 1) aNil))))
def o6 : SE := sIf (cAnd (cBl (eBin opEq (eVar 2) (eK (.int 2)))) (cBl (eBin opNe (eVar 5) (eLst aNil)))) (sAsg (nSub (eVar 5) (eCall F_l_draw (aCons (eVar 0) (aCons (eCallB opLen (aCons (eVar 5) aNil)) aNil)))) (eCall F_l_odd (aCons (eVar 0) aNil))) sNext
def o7 : SE := sIf (cBl (eBin opEq (eVar 2) (eK (.int 3)))) (sRet (eCall F_l_pick (aCons (eVar 0) (aCons (eLst (aCons (eBin opAdd (eLst (aCons (eVar 3) aNil)) (eVar 5)) (aCons (eCall F_l_odd (aCons (eVar 0) aNil)) (aCons (eTup aNil) (aCons (eTup (aCons (eVar 3) aNil)) aNil))))) aNil)))) sNext
def o8 : SE := sRet (eBin opAdd (eTup (aCons (eVar 3) aNil)) (eCallB opTuple (aCons (eVar 5) aNil)))
theorem b_l_odd_deed_is : b_l_odd_deed = sSeq o1 (sSeq o2 (sSeq o3 (sSeq o4 (sSeq o5 (sSeq o6 (sSeq o7 o8)))))) := rfl
theorem o1_eq (s : Dk) (few : List Str) : ∃ (v : Int) (w : Str) (s' : Dk), o1 (OS few none none none none none) [s.d] = .ok (.nx (OS few (some (.int v)) (some (.str w)) none none none)) [s'.d] ∧ w ∈ words := by
  obtain ⟨v, s1, e1, _⟩ := draw_nat s [] 8 (by decide) (by decide)
  rw [show ((8 : Nat) : Int) = 8 from rfl] at e1
  obtain ⟨w, s2, e2, hw⟩ := pick_str s1 [] words (by decide) (by decide)
  refine ⟨v, w, s2, ?_, hw⟩
  simp only [o1, p_par, p_acons, p_anil, p_call, p_var, p_k, List.getElem?_cons_succ, List.getElem?_cons_zero, bind_ok, e1, l_words_eq, e2, st_ok, List.set_cons_succ, List.set_cons_zero]
theorem o2_eq (s : Dk) (few : List Str) (v : Int) (w : Str) (hw : w ∈ words) : ∃ (x : D) (s' : Dk), o2 (OS few (some (.int v)) (some (.str w)) none none none) [s.d] = .ok (.nx (OS few (some (.int v)) (some x) none none none)) [s'.d] ∧ GI x := by
  have hg : GI (.str w) := gi_str (by have := (words_ok w hw).2; omega)
  by_cases h : v = 0
  · obtain ⟨y, s1, e1, hy, _⟩ := odd_eq s []
    have hall : ∀ x ∈ ([.str "top", .str "First", .str "", .str "wra", .str "puts", .str "in", y] : List D), GI x := by
      intro x hx
      simp only [List.mem_cons, List.not_mem_nil, or_false] at hx
      rcases hx with h | h | h | h | h | h | h <;> subst h <;> first | exact hy | exact gi_str (by decide)
    obtain ⟨x, s2, e2, hx⟩ := pick_l s1 [] _ (by simp) (by simp) (box_of hall)
    refine ⟨x, s2, ?_, hall x hx⟩
    simp only [o2, p_sif, p_cbl, p_bin, p_set, p_lst, p_acons, p_anil, p_call, p_var, p_k, List.getElem?_cons_succ, List.getElem?_cons_zero, bind_ok, q_eq_ii, decide_eq_true h, lf_some, e1, e2, st_ok, List.set_cons_succ, List.set_cons_zero]
  · refine ⟨.str w, s, ?_, hg⟩
    simp only [o2, p_sif, p_cbl, p_bin, p_var, p_k, p_next, List.getElem?_cons_succ, List.getElem?_cons_zero, bind_ok, q_eq_ii, decide_eq_false h, lf_some, st_ok]
theorem o3_eq (s : Dk) (few : List Str) (v : Int) (x : D) (hx : GI x) : ∃ n : Nat, o3 (OS few (some (.int v)) (some x) none none none) [s.d] = .ok (.nx (OS few (some (.int v)) (some x) (some (.int (n : Int))) none none)) [s.d] ∧ n ≤ 4 := by
  have hin := inD_w single x [s.d] hx.1
  rw [← single_eq] at hin
  have hop : opNotIn [s.d] x (.tup [.str "front", .str "back", .str "lift", .str "cut"]) = some (.bl (!inW single x)) := by unfold opNotIn; rw [hin]; rfl
  refine ⟨if inW single x then 1 else 2, ?_, by split <;> omega⟩
  simp only [o3, p_set, p_bin, p_k, p_callB, p_acons, p_anil, p_var, p_tup, List.getElem?_cons_succ, List.getElem?_cons_zero, bind_ok, hop, lf_some, q_int_b, q_add_ii, st_ok, List.set_cons_succ, List.set_cons_zero]
  cases inW single x <;> rfl
theorem o4_eq (s : Dk) (few : List Str) (v : Int) (x : D) (n : Nat) (hn : n ≤ 4) : ∃ (n' : Nat) (s' : Dk), o4 (OS few (some (.int v)) (some x) (some (.int (n : Int))) none none) [s.d] = .ok (.nx (OS few (some (.int v)) (some x) (some (.int (n' : Int))) none none)) [s'.d] ∧ n' ≤ 4 := by
  by_cases h : v = 1
  · obtain ⟨k, s1, e1, hk⟩ := draw_nat s [] 5 (by decide) (by decide)
    rw [show ((5 : Nat) : Int) = 5 from rfl] at e1
    refine ⟨k, s1, ?_, by omega⟩
    simp only [o4, p_sif, p_cbl, p_bin, p_set, p_acons, p_anil, p_call, p_var, p_k, List.getElem?_cons_succ, List.getElem?_cons_zero, bind_ok, q_eq_ii, decide_eq_true h, lf_some, e1, st_ok, List.set_cons_succ, List.set_cons_zero]
  · refine ⟨n, s, ?_, hn⟩
    simp only [o4, p_sif, p_cbl, p_bin, p_var, p_k, p_next, List.getElem?_cons_succ, List.getElem?_cons_zero, bind_ok, q_eq_ii, decide_eq_false h, lf_some, st_ok]
theorem o5_eq (s : Dk) (few : List Str) (h0 : few ≠ []) (h1 : few.length ≤ 9) (hn : ∀ y ∈ few, isNm y = true) (v : Int) (x : D) (n : Nat) (h4 : n ≤ 4) : ∃ (xs : List D) (s' : Dk), o5 (OS few (some (.int v)) (some x) (some (.int (n : Int))) none none) [s.d] = .ok (.nx (OS few (some (.int v)) (some x) (some (.int (n : Int))) (some (.box 1)) none)) [s'.d, .lst xs] ∧ xs.length ≤ 4 ∧ ∀ y ∈ xs, GI y := by
  have hr : iRange (aCons (eVar 4) aNil) (OS few (some (.int v)) (some x) (some (.int (n : Int))) none none) [s.d] = .ok ((List.range' 0 n).map fun j => .int ((j : Nat) : Int)) [s.d] :=
    (irange_t (z := (n : Int)) (m1 := [s.d]) rfl).trans (irange_n n (by omega))
  obtain ⟨xs, m2, e1, ⟨s2, rfl⟩, h3, hP⟩ := compL_inv (t := nName 6) (e := eCall F_l_pick (aCons (eVar 0) (aCons (eVar 1) aNil))) (δ := OS few (some (.int v)) (some x) (some (.int (n : Int))) none none) (fun m => ∃ s' : Dk, m = [s'.d]) GI
    ((List.range' 0 n).map fun j => .int ((j : Nat) : Int)) [s.d] ⟨s, rfl⟩ (by
      rintro d hd m ⟨s', rfl⟩
      obtain ⟨y, s'', e, hy⟩ := pick_str s' [] few h0 (by omega)
      refine ⟨_, .str y, [s''.d], rfl, ?_, ⟨s'', rfl⟩, gi_nm (hn y hy)⟩
      simp only [p_call, p_acons, p_anil, p_var, List.getElem?_cons_succ, List.getElem?_cons_zero, List.set_cons_succ, List.set_cons_zero, bind_ok, e])
  rw [List.length_map, List.length_range'] at h3
  have hl : ((List.range' 0 n).map fun j => D.int ((j : Nat) : Int)).length < sizeLine := by
    rw [List.length_map, List.length_range']
    exact Nat.lt_of_le_of_lt h4 (by decide)
  refine ⟨xs, s2, ?_, by omega, hP⟩
  unfold o5
  rw [p_set, p_compG, hr]
  simp only [bind_ok]
  rw [if_pos hl]
  simp only [lf_some, bind_ok]
  rw [show wipeD (OS few (some (.int v)) (some x) (some (.int (n : Int))) none none) [6] = OS few (some (.int v)) (some x) (some (.int (n : Int))) none none from rfl, e1]
  rfl
theorem o6_eq (s : Dk) (few : List Str) (v : Int) (x : D) (n : Option D) (xs : List D) (hl : xs.length ≤ 4) (hg : ∀ y ∈ xs, GI y) : ∃ (ys : List D) (s' : Dk), o6 (OS few (some (.int v)) (some x) n (some (.box 1)) none) [s.d, .lst xs] = .ok (.nx (OS few (some (.int v)) (some x) n (some (.box 1)) none)) [s'.d, .lst ys] ∧ ys.length ≤ 4 ∧ ∀ y ∈ ys, GI y := by
  have hne : opNe [s.d, .lst xs] (.box 1) (.lst []) = some (.bl (!xs.isEmpty)) := q_ne_b0 rfl
  by_cases h : v = 2
  · cases xs with
    | nil =>
      refine ⟨[], s, ?_, by simp, by simp⟩
      simp only [o6, p_sif, p_cand, p_cbl, p_bin, p_var, p_k, p_lst, p_anil, p_next, List.getElem?_cons_succ, List.getElem?_cons_zero, bind_ok, q_eq_ii, decide_eq_true h, lf_some, hne, List.isEmpty_nil, Bool.not_true, st_ok]
    | cons a l =>
      obtain ⟨y, s1, e1, hy, _⟩ := odd_eq s [.lst (a :: l)]
      obtain ⟨k, s2, e2, hk⟩ := draw_nat s1 [.lst (a :: l)] (a :: l).length (by simp) (by omega)
      have hlen : opLen [s1.d, .lst (a :: l)] [.box 1] = some (.int ((a :: l).length : Nat)) := rfl
      have hset : opBox (fSet ((k : Nat) : Int) y) [s2.d, .lst (a :: l)] (.box 1) [] = .ok .non [s2.d, .lst ((a :: l).set k y)] := by
        have hb : boxL [s2.d, .lst (a :: l)] (.box 1) = some (1, a :: l) := rfl
        simp only [opBox, hb, fSet, ixN_nat, hk, if_true, Option.map_some]
        rfl
      refine ⟨(a :: l).set k y, s2, ?_, by rw [List.length_set]; exact hl, fun z hz => ?_⟩
      · have ht : nSub (eVar 5) (eCall F_l_draw (aCons (eVar 0) (aCons (eCallB opLen (aCons (eVar 5) aNil)) aNil))) y (OS few (some (.int v)) (some x) n (some (.box 1)) none) [s1.d, .lst (a :: l)] = .ok (OS few (some (.int v)) (some x) n (some (.box 1)) none) [s2.d, .lst ((a :: l).set k y)] := by
          simp only [p_nsub, p_var, p_call, p_callB, p_acons, p_anil, List.getElem?_cons_succ, List.getElem?_cons_zero, bind_ok, only_ok, hlen, lf_some, e2, hset]
        simp only [o6, p_sif, p_cand, p_cbl, p_bin, p_var, p_k, p_lst, p_anil, List.getElem?_cons_succ, List.getElem?_cons_zero, bind_ok, q_eq_ii, decide_eq_true h, lf_some, hne, List.isEmpty_cons, Bool.not_false, st_ok, p_asg, p_call, p_acons, e1]
        rw [ht]
        rfl
      · rcases List.mem_or_eq_of_mem_set hz with q | q
        · exact hg z q
        · rw [q]; exact hy
  · refine ⟨xs, s, ?_, hl, hg⟩
    simp only [o6, p_sif, p_cand, p_cbl, p_bin, p_var, p_k, p_next, List.getElem?_cons_succ, List.getElem?_cons_zero, bind_ok, q_eq_ii, decide_eq_false h, lf_some, st_ok]
theorem odd_deed_eq (s : Dk) (few : List Str) (h0 : few ≠ []) (h1 : few.length ≤ 9) (hn : ∀ y ∈ few, isNm y = true) : ∃ (d : D) (s' : Dk), F_l_odd_deed [.box 0, .lst (few.map .str)] [s.d] = .ok d [s'.d] ∧ GD d := by
  obtain ⟨v, w, s1, e1, hw⟩ := o1_eq s few
  obtain ⟨x, s2, e2, hx⟩ := o2_eq s1 few v w hw
  obtain ⟨n, e3, hn4⟩ := o3_eq s2 few v x hx
  obtain ⟨n', s3, e4, hn5⟩ := o4_eq s2 few v x n hn4
  obtain ⟨xs, s4, e5, l5, g5⟩ := o5_eq s3 few h0 h1 hn v x n' hn5
  obtain ⟨ys, s5, e6, l6, g6⟩ := o6_eq s4 few v x (some (.int (n' : Int))) xs l5 g5
  have fin : ∀ (d : D) (s' : Dk), (sSeq o7 o8) (OS few (some (.int v)) (some x) (some (.int (n' : Int))) (some (.box 1)) none) [s5.d, .lst ys] = .ok (.rt d) [s'.d, .lst ys] → GD d → ∃ (d : D) (s' : Dk), F_l_odd_deed [.box 0, .lst (few.map .str)] [s.d] = .ok d [s'.d] ∧ GD d := fun d s' h g => by
    refine ⟨d, s', ?_, g⟩
    refine runF_cut (s := b_l_odd_deed) (k := 5) (ds := [.box 0, .lst (few.map .str)]) (m := [s.d]) (m' := [s'.d, .lst ys]) ?_ g.2.2 (g.2.1 _) (by simp [closedL, closed, Dk.d])
    rw [b_l_odd_deed_is]
    exact (u3 _ _ _ _ _ _ e1).trans ((u3 _ _ _ _ _ _ e2).trans ((u3 _ _ _ _ _ _ e3).trans ((u3 _ _ _ _ _ _ e4).trans ((u3 _ _ _ _ _ _ e5).trans ((u3 _ _ _ _ _ _ e6).trans h)))))
  by_cases h : v = 3
  · obtain ⟨y, s6, q1, _, hy, _⟩ := odd_eq s5 [.lst ys]
    have hadd : opAdd [s5.d, .lst ys] (.lst [x]) (.box 1) = some (.lst (x :: ys)) := by
      have : [x].length + ys.length ≤ sizeLine := le_line (by simp; omega)
      simp only [opAdd, lstI, List.getElem?_cons_succ, List.getElem?_cons_zero]
      rw [if_pos this]
      rfl
    have hgx : ∀ z ∈ x :: ys, GI z := fun z hz => by
      rcases List.mem_cons.mp hz with q | q
      · rw [q]; exact hx
      · exact g6 z q
    have hall : ∀ z ∈ ([.lst (x :: ys), y, .tup [], .tup [x]] : List D), GD z := by
      intro z hz
      simp only [List.mem_cons, List.not_mem_nil, or_false] at hz
      rcases hz with h | h | h | h <;> subst h
      · exact gd_lst hgx
      · exact hy
      · exact gd_tup (by simp) (by simp)
      · exact gd_tup (by simpa using hx) (by simp)
    obtain ⟨d, s7, q2, hd⟩ := pick_l s6 [.lst ys] _ (by simp) (by simp) (fun z hz => (hall z hz).2.2)
    refine fin d s7 (u7 _ _ _ _ _ ?_) (hall d hd)
    simp only [o7, p_sif, p_cbl, p_bin, p_var, p_k, p_ret, p_call, p_acons, p_anil, p_lst, p_tup, List.getElem?_cons_succ, List.getElem?_cons_zero, bind_ok, q_eq_ii, decide_eq_true h, lf_some, st_ok, hadd, q1, q2]
  · have e7 : o7 (OS few (some (.int v)) (some x) (some (.int (n' : Int))) (some (.box 1)) none) [s5.d, .lst ys] = .ok (.nx (OS few (some (.int v)) (some x) (some (.int (n' : Int))) (some (.box 1)) none)) [s5.d, .lst ys] := by
      simp only [o7, p_sif, p_cbl, p_bin, p_var, p_k, p_next, List.getElem?_cons_succ, List.getElem?_cons_zero, bind_ok, q_eq_ii, decide_eq_false h, lf_some, st_ok]
    have e8 : o8 (OS few (some (.int v)) (some x) (some (.int (n' : Int))) (some (.box 1)) none) [s5.d, .lst ys] = .ok (.rt (.tup (x :: ys))) [s5.d, .lst ys] := by
      have ht : opTuple [s5.d, .lst ys] [.box 1] = some (.tup ys) := rfl
      have ha : opAdd [s5.d, .lst ys] (.tup [x]) (.tup ys) = some (.tup (x :: ys)) := if_pos (le_line (by simp; omega))
      simp only [o8, p_ret, p_bin, p_tup, p_acons, p_anil, p_var, p_callB, List.getElem?_cons_succ, List.getElem?_cons_zero, bind_ok, ht, lf_some, ha, st_ok]
    refine fin (.tup (x :: ys)) s5 ((u3 _ _ _ _ _ _ e7).trans e8) (gd_tup (fun z hz => ?_) (by simp; omega))
    rcases List.mem_cons.mp hz with q | q
    · rw [q]; exact hx
    · exact g6 z q
end K80
namespace K80
open PySem L2 DL
/-! ### the law -/
theorem both2 (d : D) (m m2 : Mem) (hv : vg d) (hm : closedL m.length m = true) (hm2 : closedL m2.length m2 = true) : ∃ e, F_script_error [d] m = .ok e m ∧ F_l_script_error [d] m2 = .ok e m2 ∧ (ErrK e ∨ (e = .non ∧ ∃ ps : List Dd, d = .tup (ps.map dD) ∧ ps.length ≤ 12 ∧ ∀ p ∈ ps, okD p)) := by
  have hw : ErrK scr := .sc _ (.inl rfl)
  rcases hv with ⟨ds, rfl, hl, hd⟩ | ⟨ht, hn⟩ | ⟨fs, rfl⟩
  · by_cases h12 : 12 < ds.length
    · exact ⟨scr, (too_many ds m h12).1, (too_many ds m2 h12).2, .inl hw⟩
    · cases hf : firstE 0 ds with
      | some e =>
        obtain ⟨k, w, k1, k2, k3⟩ := firstE_some ds 0 hf
        exact ⟨e, (bad_deed ds m (by omega) hd hf).1, (bad_deed ds m2 (by omega) hd hf).2, .inl (by rw [k3]; exact .at_ k w (by omega) k2)⟩
      | none =>
        obtain ⟨ps, rfl, hok⟩ := firstE_none ds 0 hf
        rw [List.length_map] at h12
        refine ⟨_, right_p ps m (by omega) hd hok hm hf, right_l ps m2 (by omega) hd hok hm2 hf, ?_⟩
        unfold cntE
        split
        · exact .inl (.sc _ (.inr (.inl rfl)))
        · split
          · exact .inl (.sc _ (.inr (.inr rfl)))
          · exact .inr ⟨rfl, ps, rfl, by omega, hok⟩
  · obtain ⟨t, h1, h2⟩ := tg_wrong d m ht hn
    obtain ⟨t', h1', h2'⟩ := tg_wrong d m2 ht hn
    exact ⟨scr, (wrong d m h1 h2).1, (wrong d m2 h1' h2').2, .inl hw⟩
  · exact ⟨scr, (wrong (.ins "Script" fs) m (t := .own "Script") rfl (by simp [ktX, isOwn])).1, (wrong (.ins "Script" fs) m2 (t := .own "Script") rfl (by simp [ktX, isOwn])).2, .inl hw⟩
/-- a value that is held against the rules -/
def VV (d : D) : Prop := vg d ∧ isBox d = false
theorem vv_tup {ds : List D} (h : ∀ x ∈ ds, GD x) (hl : ds.length ≤ 1000) : VV (.tup ds) := ⟨.inl ⟨ds, rfl, hl, fun x hx => (h x hx).1⟩, rfl⟩
theorem vv_b {d : D} (h : vgB d = true) (hb : isBox d = false) : VV d := by
  refine ⟨?_, hb⟩
  cases d <;> first
    | (cases h; done)
    | exact .inr (.inl ⟨h, fun _ => nofun⟩)
    | skip
  rename_i xs
  simp only [vgB, Bool.and_eq_true, List.all_eq_true, decide_eq_true_eq] at h
  exact .inl ⟨xs, rfl, h.2, h.1⟩
theorem vv_lst {ds : List D} : VV (.lst ds) := ⟨.inr (.inl ⟨rfl, fun _ => nofun⟩), rfl⟩
theorem make0_eq (s : Dk) : mk0_Script = eMake true "Script" F_Script_init [.tup []] aNil := rfl
theorem script0 (s : Dk) : mkR true "Script" F_Script_init [.tup []] [s.d] = .ok (.ins "Script" [("row", .tup [])]) [s.d] :=
  make_ok [] s (right_p [] [s.d, .ins "Script" []] (by decide) (by simp) (by simp) (dk_closed2 s) rfl)
theorem script1 (s : Dk) (y : Str) (hy : isNm y = true) : mkR true "Script" F_Script_init [.tup [.tup [.str "cut", .str y]]] [s.d] = .ok (.ins "Script" [("row", .tup [.tup [.str "cut", .str y]])]) [s.d] := by
  have hok : ∀ p ∈ ([("cut", [y])] : List Dd), okD p := by
    intro p hp
    rw [List.mem_singleton.mp hp]
    exact ⟨.inl rfl, by simpa using hy, (show Str.ofString "cut" ∈ words by decide)⟩
  have hdg : ∀ x ∈ ([("cut", [y])] : List Dd).map dD, dg x = true := by
    intro x hx
    have := isNm_len hy
    simp [dD] at hx
    subst hx
    simp [dg, tg]
    refine ⟨by decide, by omega⟩
  have hf : firstE 0 (([("cut", [y])] : List Dd).map dD) = none := by
    have e : deedE (dD ("cut", [y])) = .non := by
      have h1 : inW words (.str "cut") = true := by decide
      have h2 : inW single (.str "cut") = true := by decide
      simp [dD, deedE, h1, h2, isNameD, hy]
    simp [firstE, e]
  have hr := right_p [("cut", [y])] [s.d, .ins "Script" []] (by simp) hdg hok (dk_closed2 s) hf
  have hc : cntE (rolesOf [("cut", [y])]) = .non := by
    have h3 : mkS "cut" 1 = false := by decide
    have e : rolesOf [("cut", [y])] = [(y, false)] := by simp [rolesOf, addD, addR, h3]
    rw [e]
    rfl
  rw [hc] at hr
  exact make_ok [("cut", [y])] s hr
abbrev LS (v : D) (ys : List Str) (way rare : Int) (few : List Str) (val : D) (k d e u : Option D) : Slots := [some v, some (.box 0), some (.lst (ys.map .str)), some (.int way), some (.int rare), some (.lst (few.map .str)), some val, k, d, e, u]
def lb1 : SE := sSet 8 (eCall F_l_some_deed (aCons (eVar 1) (aCons (eVar 5) aNil)))
def lb2 : SE := sIf (cBl (eBin opEq (eCall F_l_draw (aCons (eVar 1) (aCons (eVar 4) aNil))) (eK (.int 0)))) (sSet 8 (eCall F_l_odd_deed (aCons (eVar 1) (aCons (eVar 5) aNil)))) sNext
def lb3 : SE := sSet 6 (eBin opAdd (eVar 6) (eTup (aCons (eVar 8) aNil)))
def lb : SE := sSeq lb1 (sSeq lb2 lb3)
section
variable (v : D) (ys : List Str) (way : Int) (rare : Nat) (few : List Str)
theorem lb_eq (s : Dk) (hr : 0 < rare ∧ rare ≤ 20) (h0 : few ≠ []) (h1 : few.length ≤ 9) (hn : ∀ y ∈ few, isNm y = true) (ds : List D) (hl : ds.length ≤ 100) (hg : ∀ x ∈ ds, GD x) (k d : Option D) : ∃ (x : D) (s' : Dk), lb (LS v ys way rare few (.tup ds) k d none none) [s.d] = .ok (.nx (LS v ys way rare few (.tup (ds ++ [x])) k (some x) none none)) [s'.d] ∧ GD x := by
  obtain ⟨x1, s1, e1, g1⟩ := some_deed_eq s [] few h0 h1 hn
  have q1 : lb1 (LS v ys way rare few (.tup ds) k d none none) [s.d] = .ok (.nx (LS v ys way rare few (.tup ds) k (some x1) none none)) [s1.d] := by
    simp only [lb1, p_set, p_call, p_acons, p_anil, p_var, List.getElem?_cons_succ, List.getElem?_cons_zero, bind_ok, e1, st_ok, List.set_cons_succ, List.set_cons_zero]
  obtain ⟨n, s2, e2, hn2⟩ := draw_nat s1 [] rare hr.1 (by omega)
  have q2 : ∃ (x2 : D) (s3 : Dk), lb2 (LS v ys way rare few (.tup ds) k (some x1) none none) [s1.d] = .ok (.nx (LS v ys way rare few (.tup ds) k (some x2) none none)) [s3.d] ∧ GD x2 := by
    by_cases h : ((n : Nat) : Int) = 0
    · obtain ⟨x2, s3, e3, g3⟩ := odd_deed_eq s2 few h0 h1 hn
      refine ⟨x2, s3, ?_, g3⟩
      simp only [lb2, p_sif, p_cbl, p_bin, p_set, p_call, p_acons, p_anil, p_var, p_k, List.getElem?_cons_succ, List.getElem?_cons_zero, bind_ok, e2, q_eq_ii, decide_eq_true h, lf_some, e3, st_ok, List.set_cons_succ, List.set_cons_zero]
    · refine ⟨x1, s2, ?_, g1⟩
      simp only [lb2, p_sif, p_cbl, p_bin, p_next, p_call, p_acons, p_anil, p_var, p_k, List.getElem?_cons_succ, List.getElem?_cons_zero, bind_ok, e2, q_eq_ii, decide_eq_false h, lf_some, st_ok]
  obtain ⟨x2, s3, e3, g3⟩ := q2
  have ha : opAdd [s3.d] (.tup ds) (.tup [x2]) = some (.tup (ds ++ [x2])) := if_pos (le_line (by simp; omega))
  have q3 : lb3 (LS v ys way rare few (.tup ds) k (some x2) none none) [s3.d] = .ok (.nx (LS v ys way rare few (.tup (ds ++ [x2])) k (some x2) none none)) [s3.d] := by
    simp only [lb3, p_set, p_bin, p_tup, p_acons, p_anil, p_var, List.getElem?_cons_succ, List.getElem?_cons_zero, bind_ok, ha, lf_some, st_ok, List.set_cons_succ, List.set_cons_zero]
  exact ⟨x2, s3, (u3 _ _ _ _ _ _ q1).trans ((u3 _ _ _ _ _ _ e3).trans q3), g3⟩
theorem lb_loop (hr : 0 < rare ∧ rare ≤ 20) (h0 : few ≠ []) (h1 : few.length ≤ 9) (hn : ∀ y ∈ few, isNm y = true) : ∀ (items : List D) (s : Dk) (ds : List D) (k d : Option D), ds.length + items.length ≤ 100 → (∀ x ∈ ds, GD x) → ∃ (ds' : List D) (s' : Dk) (k' d' : Option D), loopL (nName 7) lb items (LS v ys way rare few (.tup ds) k d none none) [s.d] = .ok (.nx (LS v ys way rare few (.tup ds') k' d' none none)) [s'.d] ∧ (∀ x ∈ ds', GD x) ∧ ds'.length ≤ 100
  | [], s, ds, k, d, hl, hg => ⟨ds, s, k, d, rfl, hg, by simpa using hl⟩
  | it :: items, s, ds, k, d, hl, hg => by
    simp only [List.length_cons] at hl
    obtain ⟨x, s1, e1, g1⟩ := lb_eq v ys way rare few s hr h0 h1 hn ds (by omega) hg (some it) d
    obtain ⟨ds2, s2, k2, d2, e2, g2, l2⟩ := lb_loop hr h0 h1 hn items s1 (ds ++ [x]) (some it) (some x) (by simp; omega) (fun y hy => by
      rcases List.mem_append.mp hy with z | z
      · exact hg y z
      · rw [List.mem_singleton.mp z]; exact g1)
    refine ⟨ds2, s2, k2, d2, ?_, g2, l2⟩
    have ht : nName 7 it (LS v ys way rare few (.tup ds) k d none none) [s.d] = .ok (LS v ys way rare few (.tup ds) (some it) d none none) [s.d] := rfl
    simp only [loopL, ht, st_ok, e1, e2]
def l7 : SE := sIf (cBl (eBin opEq (eVar 3) (eK (.int 1)))) (sSet 6 (eCall F_l_pick (aCons (eVar 1) (aCons (eLst (aCons (eCallB opList (aCons (eVar 6) aNil)) (aCons (eCall F_l_odd (aCons (eVar 1) aNil)) (aCons (mk0_Script) (aCons (mk_Script (aCons (eTup (aCons (eTup (aCons (eK (.str "cut")) (aCons (eBin opIx (eVar 2) (eK (.int 0))) aNil))) aNil)) aNil)) (aCons (eTup (aCons (eVar 6) aNil)) aNil)))))) aNil)))) sNext
theorem l7_eq (s : Dk) (y0 : Str) (ys' : List Str) (hys : ys = y0 :: ys') (hy0 : isNm y0 = true) (ds : List D) (hl : ds.length ≤ 100) (hg : ∀ x ∈ ds, GD x) (k d : Option D) : ∃ (x : D) (s' : Dk), l7 (LS v ys way rare few (.tup ds) k d none none) [s.d] = .ok (.nx (LS v ys way rare few x k d none none)) [s'.d] ∧ VV x := by
  by_cases h : way = 1
  · obtain ⟨o, s1, e1, go, _, vo⟩ := odd_eq s []
    have hall : ∀ x ∈ ([.lst ds, o, .ins "Script" [("row", .tup [])], .ins "Script" [("row", .tup [.tup [.str "cut", .str y0]])], .tup [.tup ds]] : List D), VV x := by
      intro x hx
      simp only [List.mem_cons, List.not_mem_nil, or_false] at hx
      rcases hx with h | h | h | h | h <;> subst h
      · exact vv_lst
      · exact vv_b vo go.2.2
      · exact ⟨.inr (.inr ⟨_, rfl⟩), rfl⟩
      · exact ⟨.inr (.inr ⟨_, rfl⟩), rfl⟩
      · exact vv_tup (fun x hx => by
          rw [List.mem_singleton.mp hx]
          exact gd_tup (fun z hz => gd_gi (hg z hz)) (by omega)) (by simp)
    obtain ⟨x, s2, e2, hx⟩ := pick_l s1 [] _ (by simp) (by simp) (fun x hx => (hall x hx).2)
    refine ⟨x, s2, ?_, hall x hx⟩
    have hm0 := script0 s1
    have hm1 := script1 s1 y0 hy0
    have hix : opIx [s1.d] (.lst (ys.map .str)) (.int 0) = some (.str y0) := by
      rw [hys]
      simp [opIx, seqI, atI_0]
    have hli : opList [s.d] [.tup ds] = some (.lst ds) := rfl
    simp only [l7, p_sif, p_cbl, p_bin, p_set, p_lst, p_tup, p_acons, p_anil, p_call, p_callB, p_var, p_k, List.getElem?_cons_succ, List.getElem?_cons_zero, bind_ok, q_eq_ii, decide_eq_true h, lf_some, hli, e1, mk0_Script, mk_Script, eMake, List.nil_append, List.append_nil, hm0, hix, hm1, e2, st_ok, List.set_cons_succ, List.set_cons_zero]
  · refine ⟨.tup ds, s, ?_, vv_tup hg (by omega)⟩
    simp only [l7, p_sif, p_cbl, p_bin, p_var, p_k, p_next, List.getElem?_cons_succ, List.getElem?_cons_zero, bind_ok, q_eq_ii, decide_eq_false h, lf_some, st_ok]
end

def l8 : SE := sSet 9 (eK .non)
def l9 : SE := sIf (cBl (eCallB (opIsi ktX) (aCons (eVar 6) (aCons (eK (.cls "Script")) aNil)))) (sSet 9 (eTup (aCons (eK .non) (aCons (eK (.str "script")) aNil)))) (sSet 9 (eCall F_l_script_error (aCons (eVar 6) aNil)))
def l10 : SE := sSet 10 (eIf (cBl (eBin opIs (eVar 9) (eK .non))) (eLst aNil) (eLst (aCons (eVar 9) aNil)))
def l11 : SE := sRet (eBin opEq (eCallB opRepr (aCons (eLst (aCons (eCall F_l_told (aCons (eVar 6) aNil)) (aCons (eCall F_l_told (aCons (eVar 6) aNil)) aNil))) aNil)) (eCallB opRepr (aCons (eLst (aCons (eVar 10) (aCons (eVar 10) aNil))) aNil)))
section
variable (v : D) (ys : List Str) (way : Int) (rare : Nat) (few : List Str)
theorem l9_eq (s : Dk) (x : D) (hx : VV x) (k d : Option D) : ∃ e : D, l9 (LS v ys way rare few x k d (some .non) none) [s.d] = .ok (.nx (LS v ys way rare few x k d (some e) none)) [s.d] ∧ ((ErrK e ∧ F_l_told [x] [s.d] = .ok (.lst [e]) [s.d]) ∨ (e = .non ∧ F_l_told [x] [s.d] = .ok (.lst []) [s.d])) := by
  obtain ⟨e, h1, h2, h3⟩ := both2 x [s.d, .ins "Script" []] [s.d] hx.1 (dk_closed2 s) (dk_closed s)
  have hk : (∀ fs, x ≠ .ins "Script" fs) → opIsi ktX [s.d] [x, .cls "Script"] = some (.bl false) := by
    intro hn
    rcases hx.1 with ⟨ds, rfl, hl, hd⟩ | ⟨ht, hn'⟩ | ⟨fs, rfl⟩
    · simp [opIsi, tagD, tagN, ktX, isOwn]
    · cases x <;> first | (cases ht; done) | (exact absurd rfl (hn' _)) | (simp [opIsi, tagD, tagN, ktX, isOwn])
    · exact absurd rfl (hn fs)
  by_cases hc : ∃ fs, x = .ins "Script" fs
  · obtain ⟨fs, rfl⟩ := hc
    have hs := (wrong (.ins "Script" fs) [s.d, .ins "Script" []] (t := .own "Script") rfl (by simp [ktX, isOwn])).1
    have hw : ErrK scr := .sc _ (.inl rfl)
    have hb : opIsi ktX [s.d] [.ins "Script" fs, .cls "Script"] = some (.bl true) := by simp [opIsi, tagD, tagN, ktX, isOwn]
    refine ⟨scr, ?_, .inl ⟨hw, told_err _ _ s hs hw⟩⟩
    simp only [l9, p_sif, p_cbl, p_callB, p_set, p_tup, p_acons, p_anil, p_var, p_k, List.getElem?_cons_succ, List.getElem?_cons_zero, bind_ok, hb, lf_some, st_ok, List.set_cons_succ, List.set_cons_zero, scr]
  · have hb := hk fun fs q => hc ⟨fs, q⟩
    refine ⟨e, ?_, ?_⟩
    · simp only [l9, p_sif, p_cbl, p_callB, p_set, p_call, p_acons, p_anil, p_var, p_k, List.getElem?_cons_succ, List.getElem?_cons_zero, bind_ok, hb, lf_some, h2, st_ok, List.set_cons_succ, List.set_cons_zero]
    · rcases h3 with h3 | ⟨rfl, ps, rfl, hl, hp⟩
      · exact .inl ⟨h3, told_err _ _ s h1 h3⟩
      · exact .inr ⟨rfl, told_ok ps s hp h1⟩
theorem end_eq (s : Dk) (x : D) (hx : VV x) (k d : Option D) : ∃ δ m, (sSeq l8 (sSeq l9 (sSeq l10 l11))) (LS v ys way rare few x k d none none) [s.d] = .ok (.rt (.bl true)) [s.d] ∧ δ = k ∧ m = d := by
  obtain ⟨e, h9, hh⟩ := l9_eq v ys way rare few s x hx k d
  refine ⟨k, d, ?_, rfl, rfl⟩
  have h8 : l8 (LS v ys way rare few x k d none none) [s.d] = .ok (.nx (LS v ys way rare few x k d (some .non) none)) [s.d] := by
    simp only [l8, p_set, p_k, st_ok, List.set_cons_succ, List.set_cons_zero]
  refine (u3 _ _ _ _ _ _ h8).trans ((u3 _ _ _ _ _ _ h9).trans ?_)
  rcases hh with ⟨he, ht⟩ | ⟨rfl, ht⟩
  · obtain ⟨t, hr⟩ := repr_err [s.d] he
    have h10 : l10 (LS v ys way rare few x k d (some e) none) [s.d] = .ok (.nx (LS v ys way rare few x k d (some e) (some (.lst [e])))) [s.d] := by
      simp only [l10, p_set, p_if, p_cbl, p_bin, p_lst, p_acons, p_anil, p_var, p_k, List.getElem?_cons_succ, List.getElem?_cons_zero, bind_ok, q_is, errK_non he, lf_some, st_ok, List.set_cons_succ, List.set_cons_zero]
    refine (u3 _ _ _ _ _ _ h10).trans ?_
    simp only [l11, p_ret, p_bin, p_callB, p_call, p_lst, p_acons, p_anil, p_var, List.getElem?_cons_succ, List.getElem?_cons_zero, bind_ok, ht, hr, lf_some, q_eq_ss, decide_true, st_ok]
  · obtain ⟨t, hr⟩ := repr_ok [s.d]
    have h10 : l10 (LS v ys way rare few x k d (some .non) none) [s.d] = .ok (.nx (LS v ys way rare few x k d (some .non) (some (.lst [])))) [s.d] := by
      simp only [l10, p_set, p_if, p_cbl, p_bin, p_lst, p_acons, p_anil, p_var, p_k, List.getElem?_cons_succ, List.getElem?_cons_zero, bind_ok, q_is, q_isNon_non, lf_some, st_ok, List.set_cons_succ, List.set_cons_zero]
    refine (u3 _ _ _ _ _ _ h10).trans ?_
    simp only [l11, p_ret, p_bin, p_callB, p_call, p_lst, p_acons, p_anil, p_var, List.getElem?_cons_succ, List.getElem?_cons_zero, bind_ok, ht, hr, lf_some, q_eq_ss, decide_true, st_ok]
end
def l1 : SE := sSet 1 (eCall F_l_deck (aCons (eVar 0) aNil))
def l2 : SE := sSet 2 (eCall F_l_names (aCons (eVar 1) (aCons (eK (.int 9)) aNil)))
def l3 : SE := sPar 3 4 (aCons (eCall F_l_draw (aCons (eVar 1) (aCons (eK (.int 8)) aNil))) (aCons (eBin opAdd (eK (.int 1)) (eCall F_l_draw (aCons (eVar 1) (aCons (eK (.int 20)) aNil)))) aNil))
def l4 : SE := sSet 5 (eSl (eVar 2) oNone (oSome (eBin opAdd (eK (.int 1)) (eCall F_l_draw (aCons (eVar 1) (aCons (eK (.int 9)) aNil))))))
def l5 : SE := sSet 6 (eTup aNil)
def l6 : SE := sFor (iRange (aCons (eCall F_l_draw (aCons (eVar 1) (aCons (eK (.int 15)) aNil))) aNil)) (nName 7) lb
theorem b_law_is : b_law = sSeq l1 (sSeq l2 (sSeq l3 (sSeq l4 (sSeq l5 (sSeq l6 (sSeq l7 (sSeq l8 (sSeq l9 (sSeq l10 l11))))))))) := rfl
theorem law_true (ns : List Int) : ∃ m, F_law [.lst (ns.map .int)] [] = .ok (.bl true) m := by
  let v : D := .lst (ns.map .int)
  obtain ⟨s1, e1⟩ := deck_eq ns
  have h1 : l1 [some v, none, none, none, none, none, none, none, none, none, none] [] = .ok (.nx [some v, some (.box 0), none, none, none, none, none, none, none, none, none]) [s1.d] := by
    simp only [l1, p_set, p_call, p_acons, p_anil, p_var, List.getElem?_cons_succ, List.getElem?_cons_zero, bind_ok, v, e1, st_ok, List.set_cons_succ, List.set_cons_zero]
  obtain ⟨ys, s2, e2, hl, hn⟩ := names_eq s1
  have h2 : l2 [some v, some (.box 0), none, none, none, none, none, none, none, none, none] [s1.d] = .ok (.nx [some v, some (.box 0), some (.lst (ys.map .str)), none, none, none, none, none, none, none, none]) [s2.d] := by
    simp only [l2, p_set, p_call, p_acons, p_anil, p_var, p_k, List.getElem?_cons_succ, List.getElem?_cons_zero, bind_ok, e2, st_ok, List.set_cons_succ, List.set_cons_zero]
  obtain ⟨way, s3, e3, _⟩ := draw_nat s2 [] 8 (by decide) (by decide)
  rw [show ((8 : Nat) : Int) = 8 from rfl] at e3
  obtain ⟨r, s4, e4, hr⟩ := draw_nat s3 [] 20 (by decide) (by decide)
  rw [show ((20 : Nat) : Int) = 20 from rfl] at e4
  have h3 : l3 [some v, some (.box 0), some (.lst (ys.map .str)), none, none, none, none, none, none, none, none] [s2.d] = .ok (.nx [some v, some (.box 0), some (.lst (ys.map .str)), some (.int (way : Int)), some (.int ((r + 1 : Nat) : Int)), none, none, none, none, none, none]) [s4.d] := by
    have : (1 : Int) + (r : Int) = ((r + 1 : Nat) : Int) := by omega
    simp only [l3, p_par, p_call, p_bin, p_acons, p_anil, p_var, p_k, List.getElem?_cons_succ, List.getElem?_cons_zero, bind_ok, e3, e4, q_add_ii, lf_some, st_ok, List.set_cons_succ, List.set_cons_zero, this]
  obtain ⟨q, s5, e5, hq⟩ := draw_nat s4 [] 9 (by decide) (by decide)
  rw [show ((9 : Nat) : Int) = 9 from rfl] at e5
  have hsl : opSl [s5.d] (.lst (ys.map .str)) none (some ((q + 1 : Nat) : Int)) = some (.lst ((ys.take (q + 1)).map .str)) := by
    have := cutD_take (ys.map D.str) (q + 1)
    show some (D.lst (cutD (ys.map D.str) none (some ((q + 1 : Nat) : Int)))) = _
    rw [this, List.map_take]
  have h4 : l4 [some v, some (.box 0), some (.lst (ys.map .str)), some (.int (way : Int)), some (.int ((r + 1 : Nat) : Int)), none, none, none, none, none, none] [s4.d] = .ok (.nx [some v, some (.box 0), some (.lst (ys.map .str)), some (.int (way : Int)), some (.int ((r + 1 : Nat) : Int)), some (.lst ((ys.take (q + 1)).map .str)), none, none, none, none, none]) [s5.d] := by
    have : (1 : Int) + (q : Int) = ((q + 1 : Nat) : Int) := by omega
    simp only [l4, p_set, p_sl, p_onone, p_osome, p_call, p_bin, p_acons, p_anil, p_var, p_k, List.getElem?_cons_succ, List.getElem?_cons_zero, bind_ok, e5, q_add_ii, lf_some, st_ok, List.set_cons_succ, List.set_cons_zero, this, hsl]
  have h5 : l5 [some v, some (.box 0), some (.lst (ys.map .str)), some (.int (way : Int)), some (.int ((r + 1 : Nat) : Int)), some (.lst ((ys.take (q + 1)).map .str)), none, none, none, none, none] [s5.d] = .ok (.nx (LS v ys way (r + 1 : Nat) (ys.take (q + 1)) (.tup []) none none none none)) [s5.d] := by
    simp only [l5, p_set, p_tup, p_anil, bind_ok, st_ok, List.set_cons_succ, List.set_cons_zero]
  obtain ⟨j, s6, e6, hj⟩ := draw_nat s5 [] 15 (by decide) (by decide)
  rw [show ((15 : Nat) : Int) = 15 from rfl] at e6
  have hit : iRange (aCons (eCall F_l_draw (aCons (eVar 1) (aCons (eK (.int 15)) aNil))) aNil) (LS v ys way (r + 1 : Nat) (ys.take (q + 1)) (.tup []) none none none none) [s5.d] = .ok ((List.range' 0 j).map fun i => .int ((i : Nat) : Int)) [s6.d] := by
    refine (irange_t (z := (j : Int)) (m1 := [s6.d]) ?_).trans (irange_n j (by omega))
    simp only [p_call, p_acons, p_anil, p_var, p_k, List.getElem?_cons_succ, List.getElem?_cons_zero, bind_ok, e6]
  have h0 : ys.take (q + 1) ≠ [] := by
    intro h
    have := congrArg List.length h
    rw [List.length_take, hl] at this
    simp at this
  have hle : (ys.take (q + 1)).length ≤ 9 := by rw [List.length_take, hl]; omega
  have hnf : ∀ y ∈ ys.take (q + 1), isNm y = true := fun y hy => hn y (List.mem_of_mem_take hy)
  obtain ⟨ds, s7, k, d, e7, g7, l7'⟩ := lb_loop v ys way (r + 1) (ys.take (q + 1)) ⟨by omega, by omega⟩ h0 hle hnf ((List.range' 0 j).map fun i => .int ((i : Nat) : Int)) s6 [] none none (by rw [List.length_map, List.length_range']; simp; omega) (by simp)
  have h6 : l6 (LS v ys way (r + 1 : Nat) (ys.take (q + 1)) (.tup []) none none none none) [s5.d] = .ok (.nx (LS v ys way (r + 1 : Nat) (ys.take (q + 1)) (.tup ds) k d none none)) [s7.d] := by
    rw [l6, p_for, hit]
    exact e7
  obtain ⟨y0, ys', hys⟩ : ∃ y0 ys', ys = y0 :: ys' := by
    cases ys with
    | nil => cases hl
    | cons a b => exact ⟨a, b, rfl⟩
  obtain ⟨x, s8, e8, vx⟩ := l7_eq v ys way (r + 1) (ys.take (q + 1)) s7 y0 ys' hys (hn y0 (by rw [hys]; exact List.mem_cons_self)) ds l7' g7 k d
  obtain ⟨_, _, e9, _⟩ := end_eq v ys way (r + 1) (ys.take (q + 1)) s8 x vx k d
  refine ⟨_, runF_cut (s := b_law) (k := 10) (ds := [v]) (m := []) (m' := [s8.d]) ?_ rfl rfl rfl⟩
  rw [b_law_is]
  exact (u3 _ _ _ _ _ _ h1).trans ((u3 _ _ _ _ _ _ h2).trans ((u3 _ _ _ _ _ _ h3).trans ((u3 _ _ _ _ _ _ h4).trans ((u3 _ _ _ _ _ _ h5).trans ((u3 _ _ _ _ _ _ h6).trans ((u3 _ _ _ _ _ _ e8).trans e9))))))
end K80
namespace K80
open PySem L2 DL PySem.Spec
open PyProof.Rows hiding St
theorem facts {P : Program} {w : World} {K : PySem.W.Frag} {h : Heap} {mg : Str → Option Value} {f : Addr} (X : K.In h) (G : h.Ns mainGlobals mg) (hfa : mg ("law" : Str) = some (.ref f)) (c : obsB fa fn bs K = valB fn) :
    ∃ (K : PySem.W.Frag) (fd : FuncData) (G : List D → Mem → Rs D), K.In h ∧ (∀ (s : Shared) (u : Value), BindsTo s fd ⟨[u], []⟩ [("_law_script", u)]) ∧
      (∀ ns : List Int, ns.length ≤ 63 → (∀ z ∈ ns, Builtin.Int.intBits z ≤ 1048576) → ∃ m, G [.lst (ns.map .int)] [] = .ok (.bl true) m) ∧
      ∀ base : Heap, K.In base → base.Ns mainGlobals mg → FnG P w K mg base (L2.CX P w) 21 f fd ["_law_script"] (spD ⟨P, w, K⟩ 1 G) := by
  have Ev : EnvX K mg := ⟨c, h, X, G⟩
  obtain ⟨fd, F⟩ := Ev.def_ 24
  have e := hfa.symm.trans (Ev.glo 44)
  cases e
  have b := FunD.bindsA (ps := ["_law_script"]) F fun _ _ _ _ _ _ us hl => match us, hl with | [_], _ => rfl
  exact ⟨K, fd, F_law, X, fun s v => b s [v] rfl, fun ns _ _ => law_true ns, fun base _ _ => fn_law Ev F⟩
end K80
open PySem PySem.W PySem.Calls PyProof.Rows
theorem PySem.Challenge.cw_twigscripts_k80_what_is_no_script_object_holds : PySem.Challenge.rw_twigscripts_k80_what_is_no_script_object.Holds := by
  w_on; o_law
  refine HandSHeadRun.head_any (r := OpenLaw.row PySem.Challenge.rw_twigscripts_k80_what_is_no_script_object) (q := view (OpenLaw.row PySem.Challenge.rw_twigscripts_k80_what_is_no_script_object).prog [65]) (H := K80.hk) (ob := K80.ob) (M := 6000) (loose := K80.loose) (d := HandSHeadRun.topDef (OpenLaw.row PySem.Challenge.rw_twigscripts_k80_what_is_no_script_object).prog 65) (kwd := []) K80.ob_eq
    (by kernel_rfl) (fun s => by kernel_rfl) K80.run (by kernel_rfl) (by kernel_rfl) (by kernel_rfl) (by rfl) (by first | assumption | decide +kernel) (by decide +kernel) ⟨rfl, rfl, rfl, rfl, rfl, by decide +kernel⟩ ?hw ?hc
  case hw => w_witness2
  case hc =>
    refine DL.walk_ofG (l := PySem.Challenge.rw_twigscripts_k80_what_is_no_script_object) (n := 63) (k := 21) (x := "_law_script") rfl (by decide) (by kernel_rfl) ⟨rfl, by decide, by decide⟩ ?F
    intro w mg fa h Y G hmg0
    obtain ⟨K, KX, c⟩ := Y
    have hmg : mg ("law" : PySem.Str) = some (.ref fa) := by
      have e : (HandSHeadRun.topDef (OpenLaw.row PySem.Challenge.rw_twigscripts_k80_what_is_no_script_object).prog 65).name = ("law" : PySem.Str) := by kernel_rfl
      rw [← e]
      exact hmg0
    exact K80.facts (P := (PySem.Challenge.rw_twigscripts_k80_what_is_no_script_object).prog) (w := w) KX G hmg c
