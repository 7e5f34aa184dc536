import PyProof.Rows.All
import Wide.All
import OpenK.AllK
import Wide.FinOn
import HandS.ForMost
import HandS.ForExc
import HandS.Deep
import HandS.IsInst
import HandS.TupAny
import HandS.TupMul
import HandS.TupLe
import HandS.SortInts
import HandS.Conv
import HandS.Style
import HandS.SortOrd
import PyProof.TupleOfSeq
import HandS.ExcOwn
import HandS.WordsExc
import PyProof.CompFree
import HandS.Exc
import HandS.TryMany
import HandS.ExcIs
import HandS.ExcField
import PySem.Challenge.RW_trackworth_k31_tracks_that_add
set_option Elab.async false
set_option linter.all false
set_option maxRecDepth 100000
set_option maxHeartbeats 2000000
/-! Tw0: plain data D, what stands for it in the abstract heap (persistent: RP; owned: RO), frames. -/
namespace Tw
open PySem L2

/-- plain data; a list has a flag: true, owned (it may be changed); false, shared (never changed again). hole: no value. -/
inductive D where
  | hole
  | non
  | bl (b : Bool)
  | int (i : Int)
  | str (x : Str)
  | tup (xs : List D)
  | lst (own : Bool) (xs : List D)
  /-- the law's script -/
  | scr (xs : List Int)
  /-- a range, as a value -/
  | rng (a b : Int)

theorem sqT_same {K : PySem.W.Frag} {H H' : Hp} {a : Addr} {xs : List V} (e : Same H H') (h : SqT K H a xs) : SqT K H' a xs := by
  rcases h with (h | ⟨o, h⟩) | h
  · exact .inl (.inl (e _ _ h))
  · exact .inl (.inr ⟨o, e _ _ h⟩)
  · exact .inr h

section
variable (K : PySem.W.Frag)
mutual
/-- v is the persistent datum d, at G -/
def RP (G : Hp) : D → V → Prop
  | .hole, _ => False
  | .non, v => v = .non
  | .bl b, v => v = .bl b
  | .int i, v => v = .int i
  | .str x, v => v = .str x
  | .tup xs, v => ∃ a vs, v = .ref a ∧ SqT K G a vs ∧ RPs G xs vs
  | .lst o xs, v => o = false ∧ ∃ a vs, v = .ref a ∧ G a = some (.lst vs) ∧ RPs G xs vs
  | .scr xs, v => ∃ a, v = .ref a ∧ SqL K G a (xs.map V.int)
  | .rng lo hi, v => ∃ a, v = .ref a ∧ G a = some (.rng lo hi)
def RPs (G : Hp) : List D → List V → Prop
  | [], vs => vs = []
  | x :: xs, vs => ∃ w ws, vs = w :: ws ∧ RP G x w ∧ RPs G xs ws
end
/-- a set of addresses -/
abbrev AS := Addr → Prop
def AS.emp : AS := fun _ => False
def AS.uni (F F' : AS) : AS := fun b => F b ∨ F' b
def Dis (F F' : AS) : Prop := ∀ b, F b → F' b → False

mutual
/-- the datum d stands at the place that o tells; F: the addresses of its owned lists -/
def RO (G H : Hp) : D → Option V → AS → Prop
  | .hole, _, _ => False
  | .lst true xs, o, F => ∃ a vs F', o = some (.ref a) ∧ H a = some (.lst vs) ∧ G a = none ∧ ¬ F' a ∧ ROs G H false xs (vs.map some) F' ∧ ∀ b, F b ↔ (b = a ∨ F' b)
  | d, o, F => (∃ v, o = some v ∧ RP K G d v) ∧ ∀ b, ¬ F b
/-- .. several; al: a hole may be among them -/
def ROs (G H : Hp) (al : Bool) : List D → List (Option V) → AS → Prop
  | [], os, F => os = [] ∧ ∀ b, ¬ F b
  | x :: xs, os, F => ∃ w ws F1 F2, os = w :: ws ∧ ((al = true ∧ x = .hole ∧ ∀ b, ¬ F1 b) ∨ RO G H x w F1) ∧ ROs G H al xs ws F2 ∧ Dis F1 F2 ∧ ∀ b, F b ↔ (F1 b ∨ F2 b)
end
end

section
variable {K : PySem.W.Frag} {G G' H H' : Hp}
mutual
theorem RP.mono (e : Same G G') : ∀ {d : D} {v : V}, RP K G d v → RP K G' d v
  | .hole, _, h => h
  | .non, _, h => h
  | .bl _, _, h => h
  | .int _, _, h => h
  | .str _, _, h => h
  | .tup xs, _, h => by
    obtain ⟨a, vs, e1, h1, h2⟩ := h
    exact ⟨a, vs, e1, sqT_same e h1, RPs.mono e h2⟩
  | .lst o xs, _, h => by
    obtain ⟨eo, a, vs, e1, h1, h2⟩ := h
    exact ⟨eo, a, vs, e1, e _ _ h1, RPs.mono e h2⟩
  | .rng _ _, _, h => by
    obtain ⟨a, e1, h1⟩ := h
    exact ⟨a, e1, e _ _ h1⟩
  | .scr xs, _, h => by
    obtain ⟨a, e1, h1⟩ := h
    exact ⟨a, e1, e.seq h1⟩
theorem RPs.mono (e : Same G G') : ∀ {ds : List D} {vs : List V}, RPs K G ds vs → RPs K G' ds vs
  | [], _, h => h
  | x :: xs, _, h => by
    obtain ⟨w, ws, e1, h1, h2⟩ := h
    exact ⟨w, ws, e1, RP.mono e h1, RPs.mono e h2⟩
end
mutual
/-- the owned addresses are tracked at H, lists, not at G -/
theorem RO.own : ∀ {d : D} {o : Option V} {F : AS}, RO K G H d o F → ∀ b, F b → G b = none ∧ ∃ xs, H b = some (.lst xs)
  | .hole, _, _, h, _, _ => h.elim
  | .non, _, _, h, b, hb => absurd hb (h.2 b)
  | .bl _, _, _, h, b, hb => absurd hb (h.2 b)
  | .int _, _, _, h, b, hb => absurd hb (h.2 b)
  | .str _, _, _, h, b, hb => absurd hb (h.2 b)
  | .tup _, _, _, h, b, hb => absurd hb (h.2 b)
  | .scr _, _, _, h, b, hb => absurd hb (h.2 b)
  | .rng _ _, _, _, h, b, hb => absurd hb (h.2 b)
  | .lst false _, _, _, h, b, hb => absurd hb (h.2 b)
  | .lst true xs, _, _, h, b, hb => by
    obtain ⟨a, vs, F', e1, h1, h2, h3, h4, h5⟩ := h
    rcases (h5 b).mp hb with e | q
    · subst e; exact ⟨h2, _, h1⟩
    · exact ROs.own h4 b q
theorem ROs.own {al : Bool} : ∀ {ds : List D} {os : List (Option V)} {F : AS}, ROs K G H al ds os F → ∀ b, F b → G b = none ∧ ∃ xs, H b = some (.lst xs)
  | [], _, _, h, b, hb => absurd hb (h.2 b)
  | x :: xs, _, _, h, b, hb => by
    obtain ⟨w, ws, F1, F2, e1, h1, h2, h3, h4⟩ := h
    rcases (h4 b).mp hb with q | q
    · rcases h1 with ⟨_, _, z⟩ | h1
      · exact absurd q (z b)
      · exact RO.own h1 b q
    · exact ROs.own h2 b q
end
mutual
/-- what is owned stands as it did, the persistent heap grew beside it -/
theorem RO.frame (e : Same G G') : ∀ {d : D} {o : Option V} {F : AS}, (∀ b, F b → H' b = H b ∧ G' b = none) → RO K G H d o F → RO K G' H' d o F
  | .hole, _, _, _, h => h
  | .non, _, _, _, h => let ⟨⟨v, e1, r⟩, z⟩ := h; ⟨⟨v, e1, r.mono e⟩, z⟩
  | .bl _, _, _, _, h => let ⟨⟨v, e1, r⟩, z⟩ := h; ⟨⟨v, e1, r.mono e⟩, z⟩
  | .int _, _, _, _, h => let ⟨⟨v, e1, r⟩, z⟩ := h; ⟨⟨v, e1, r.mono e⟩, z⟩
  | .str _, _, _, _, h => let ⟨⟨v, e1, r⟩, z⟩ := h; ⟨⟨v, e1, r.mono e⟩, z⟩
  | .tup _, _, _, _, h => let ⟨⟨v, e1, r⟩, z⟩ := h; ⟨⟨v, e1, r.mono e⟩, z⟩
  | .scr _, _, _, _, h => let ⟨⟨v, e1, r⟩, z⟩ := h; ⟨⟨v, e1, r.mono e⟩, z⟩
  | .rng _ _, _, _, _, h => let ⟨⟨v, e1, r⟩, z⟩ := h; ⟨⟨v, e1, r.mono e⟩, z⟩
  | .lst false _, _, _, _, h => let ⟨⟨v, e1, r⟩, z⟩ := h; ⟨⟨v, e1, r.mono e⟩, z⟩
  | .lst true xs, _, _, k, h => by
    obtain ⟨a, vs, F', e1, h1, h2, h3, h4, h5⟩ := h
    have ka := k a ((h5 a).mpr (.inl rfl))
    exact ⟨a, vs, F', e1, ka.1.trans h1, ka.2, h3, ROs.frame e (fun b hb => k b ((h5 b).mpr (.inr hb))) h4, h5⟩
theorem ROs.frame {al : Bool} (e : Same G G') : ∀ {ds : List D} {os : List (Option V)} {F : AS}, (∀ b, F b → H' b = H b ∧ G' b = none) → ROs K G H al ds os F → ROs K G' H' al ds os F
  | [], _, _, _, h => h
  | x :: xs, _, _, k, h => by
    obtain ⟨w, ws, F1, F2, e1, h1, h2, h3, h4⟩ := h
    exact ⟨w, ws, F1, F2, e1, h1.imp id (RO.frame e (fun b hb => k b ((h4 b).mpr (.inl hb)))), ROs.frame e (fun b hb => k b ((h4 b).mpr (.inr hb))) h2, h3, h4⟩
end
/-- a persistent datum as an owned one -/
theorem RP.ro : ∀ {d : D} {v : V}, RP K G d v → RO K G H d (some v) AS.emp
  | .hole, _, h => h.elim
  | .non, v, h => ⟨⟨v, rfl, h⟩, fun _ z => z⟩
  | .bl _, v, h => ⟨⟨v, rfl, h⟩, fun _ z => z⟩
  | .int _, v, h => ⟨⟨v, rfl, h⟩, fun _ z => z⟩
  | .str _, v, h => ⟨⟨v, rfl, h⟩, fun _ z => z⟩
  | .tup _, v, h => ⟨⟨v, rfl, h⟩, fun _ z => z⟩
  | .scr _, v, h => ⟨⟨v, rfl, h⟩, fun _ z => z⟩
  | .rng _ _, v, h => ⟨⟨v, rfl, h⟩, fun _ z => z⟩
  | .lst false _, v, h => ⟨⟨v, rfl, h⟩, fun _ z => z⟩
  | .lst true _, v, h => by
    have z : true = false := h.1
    cases z
theorem RPs.ros {al : Bool} : ∀ {ds : List D} {vs : List V}, RPs K G ds vs → ROs K G H al ds (vs.map some) AS.emp
  | [], _, h => by
    cases (show _ = [] from h)
    exact ⟨rfl, fun _ z => z⟩
  | x :: xs, _, h => by
    obtain ⟨w, ws, e1, h1, h2⟩ := h
    subst e1
    exact ⟨some w, ws.map some, AS.emp, AS.emp, rfl, .inr h1.ro, h2.ros, fun _ z _ => z, fun b => ⟨fun z => .inl z, fun z => z.elim id id⟩⟩
/-- the same set, told otherwise -/
theorem RO.congr {d : D} {o : Option V} {F F' : AS} (h : RO K G H d o F) (e : ∀ b, F' b ↔ F b) : RO K G H d o F' := by
  have : F' = F := funext fun b => propext (e b)
  rw [this]; exact h
theorem ROs.congr {al : Bool} {d : List D} {o : List (Option V)} {F F' : AS} (h : ROs K G H al d o F) (e : ∀ b, F' b ↔ F b) : ROs K G H al d o F' := by
  have : F' = F := funext fun b => propext (e b)
  rw [this]; exact h
theorem ROs.len {al : Bool} : ∀ {ds : List D} {os : List (Option V)} {F : AS}, ROs K G H al ds os F → os.length = ds.length
  | [], _, _, h => by rw [h.1]; rfl
  | x :: xs, _, _, h => by
    obtain ⟨w, ws, F1, F2, e1, h1, h2, h3, h4⟩ := h
    rw [e1, List.length_cons, List.length_cons, ROs.len h2]
theorem RPs.len : ∀ {ds : List D} {vs : List V}, RPs K G ds vs → vs.length = ds.length
  | [], _, h => by rw [show _ = [] from h]; rfl
  | x :: xs, _, h => by
    obtain ⟨w, ws, e1, h1, h2⟩ := h
    rw [e1, List.length_cons, List.length_cons, RPs.len h2]

/-! ### one place among many -/
/-- what a place holds: a datum, or (where that may be) nothing -/
def RE (K : PySem.W.Frag) (G H : Hp) (al : Bool) (d : D) (o : Option V) (F : AS) : Prop := (al = true ∧ d = .hole ∧ ∀ b, ¬ F b) ∨ RO K G H d o F
theorem RE.frame {al : Bool} {d : D} {o : Option V} {F : AS} (e : Same G G') (k : ∀ b, F b → H' b = H b ∧ G' b = none) (h : RE K G H al d o F) : RE K G' H' al d o F := h.imp id (RO.frame e k)
theorem ROs.at {al : Bool} : ∀ {ds : List D} {os : List (Option V)} {F : AS} {i : Nat} {d : D}, ROs K G H al ds os F → ds[i]? = some d →
    ∃ o F1 F0, os[i]? = some o ∧ RE K G H al d o F1 ∧ Dis F0 F1 ∧ (∀ b, F b ↔ (F0 b ∨ F1 b)) ∧
      ∀ (G' H' : Hp) (d' : D) (o' : Option V) (F1' : AS), Same G G' → (∀ b, F0 b → H' b = H b ∧ G' b = none) → RE K G' H' al d' o' F1' → Dis F0 F1' →
        ROs K G' H' al (ds.set i d') (os.set i o') (AS.uni F0 F1')
  | [], _, _, i, d, h, hi => by simp at hi
  | x :: xs, _, F, 0, d, h, hi => by
    obtain ⟨w, ws, F1, F2, e1, h1, h2, h3, h4⟩ := h
    have : x = d := by simpa using hi
    subst this; subst e1
    refine ⟨w, F1, F2, rfl, h1, fun b p q => h3 b q p, fun b => (h4 b).trans or_comm, fun G' H' d' o' F1' eG k r dj => ?_⟩
    exact ⟨o', ws, F1', F2, rfl, r, h2.frame eG k, fun b p q => dj b q p, fun b => or_comm⟩
  | x :: xs, _, F, i + 1, d, h, hi => by
    obtain ⟨w, ws, F1, F2, e1, h1, h2, h3, h4⟩ := h
    subst e1
    obtain ⟨o, E1, E0, g1, g2, g3, g4, g5⟩ := ROs.at (i := i) (d := d) h2 (by simpa using hi)
    refine ⟨o, E1, fun b => F1 b ∨ E0 b, by simpa using g1, g2, fun b p q => p.elim (fun p => h3 b p ((g4 b).mpr (.inr q))) fun p => g3 b p q, fun b => ?_, fun G' H' d' o' F1' eG k r dj => ?_⟩
    · rw [h4 b, g4 b, or_assoc]
    · refine ⟨w, ws.set i o', F1, AS.uni E0 F1', rfl, RE.frame eG (fun b hb => k b (.inl hb)) h1, g5 G' H' d' o' F1' eG (fun b hb => k b (.inr hb)) r (fun b p q => dj b (.inr p) q), ?_, fun b => or_assoc⟩
      rintro b p (q | q)
      · exact h3 b p ((g4 b).mpr (.inl q))
      · exact dj b (.inl p) q
end
end Tw

set_option Elab.async false
set_option linter.all false
set_option maxRecDepth 100000
set_option maxHeartbeats 2000000
/-! Tw1: the small language (slots in the place of names) and its meaning over plain data. -/
namespace Tw
open PySem L2

/-- owned lists become shared ones -/
def frz : D → D
  | .lst true xs => .lst false (frzs xs)
  | d => d
where frzs : List D → List D
  | [] => []
  | x :: xs => frz x :: frzs xs
/-- no hole, no owned list -/
def pers : D → Bool
  | .hole => false
  | .lst true _ => false
  | _ => true

abbrev Env := List D
/-- what a piece of the language comes to: a result, an error (its class, what it tells), or nothing that is told here -/
inductive R (α : Type) where
  | ok (a : α) (e : Env)
  | ex (c : Nat) (w : D) (e : Env)
  | no
def R.bind {α β : Type} (r : R α) (f : α → Env → R β) : R β :=
  match r with
  | .ok a e => f a e
  | .ex c w e => .ex c w e
  | .no => .no
@[simp] theorem R.bind_ok {α β : Type} (a : α) (e : Env) (f : α → Env → R β) : (R.ok a e).bind f = f a e := rfl
@[simp] theorem R.bind_ex {α β : Type} (c : Nat) (w : D) (e : Env) (f : α → Env → R β) : (R.ex c w e : R α).bind f = .ex c w e := rfl
@[simp] theorem R.bind_no {α β : Type} (f : α → Env → R β) : (R.no : R α).bind f = .no := rfl
def R.of {α : Type} (o : Option α) (e : Env) : R α := match o with
  | some a => .ok a e
  | none => .no
@[simp] theorem R.of_some {α : Type} (a : α) (e : Env) : R.of (some a) e = .ok a e := rfl
@[simp] theorem R.of_none {α : Type} (e : Env) : R.of (none : Option α) e = .no := rfl

inductive Ty where | int | bool | tuple | list | str
def isTy : Ty → D → Bool
  | .int, .int _ => true
  | .int, .bl _ => true
  | .bool, .bl _ => true
  | .tuple, .tup _ => true
  | .list, .lst _ _ => true
  | .str, .str _ => true
  | _, _ => false

/-- operations of one place -/
inductive P1 where
  | len | tuple | list | int | neg | isN | notN | isTy (t : Ty) | sorted | min | max | sum
/-- operations of two places -/
inductive P2 where
  | add | sub | mul | fdiv | mod | pow
  | eq | ne | lt | le | gt | ge | inn | notin
  | ix | min | max
/-- targets -/
inductive Tg where
  | nm (i : Nat)
  | tp (ts : List Tg)

mutual
/-- expressions -/
inductive IE where
  | slot (i : Nat)
  | con (d : D)
  | glob (x : Str) (d : D)
  | p1 (p : P1) (a : IE)
  | p2 (p : P2) (a b : IE)
  | sl (a lo hi : IE)
  | rev (a : IE)
  | tup (es : IEs)
  | lst (es : IEs)
  | one (a : IE)
  | and (a b : IE)
  | or (a b : IE)
  | not (a : IE)
  | ife (c a b : IE)
  | chain (p q : P2) (a b c : IE)
  | call (f : Nat) (as : IEs)
  | comp (own : List (Str × Nat)) (tg : Tg) (it : It) (cs : IEs) (elt : IE)
  /-- .. over the owned list that a slot holds -/
  | compS (own : List (Str × Nat)) (tg : Tg) (i : Nat) (cs : IEs) (elt : IE)
  | rgl (tuple : Bool) (as : IEs)
  | rngv (as : IEs)
  | at (x : Nat) (i : IE)
  | vw (p : P2) (x : Nat) (i : IE) (b : Option D)
  | popAt (x : Nat) (path : IEs) (i : IE)
  | pop (x : Nat) (path : IEs)
inductive IEs where
  | nil
  | cons (a : IE) (as : IEs)
/-- what a loop walks -/
inductive It where
  | seq (a : IE)
  | rng (as : IEs)
  | enum (a : IE)
  | zip (a b : IE)
end

/-- what a handler asks of the error that it holds: is it under the j-th class (the thrown classes for which it is, for which it is not); under ValueError -/
inductive HC where
  | isi (j : Nat) (yes no : List Nat)
  | isv
  | not (q : HC)
  | and (a b : HC)
def HC.ev (c : Nat) : HC → Option Bool
  | .isi _ yes no => if yes.contains c then some true else if no.contains c then some false else none
  | .isv => some true
  | .not a => (HC.ev c a).map (!·)
  | .and a b => match HC.ev c a with
    | some true => HC.ev c b
    | o => o
mutual
/-- what a handler returns -/
inductive HE where
  | what
  | con (d : D)
  | tup (es : HEs)
  | ife (q : HC) (a b : HE)
inductive HEs where
  | nil
  | cons (a : HE) (as : HEs)
end
mutual
def HE.ev (c : Nat) (w : D) : HE → Option D
  | .what => some w
  | .con d => some d
  | .tup es => (HEs.ev c w es).map .tup
  | .ife q a b => match q.ev c with
    | some true => HE.ev c w a
    | some false => HE.ev c w b
    | none => none
def HEs.ev (c : Nat) (w : D) : HEs → Option (List D)
  | .nil => some []
  | .cons a as => (HE.ev c w a).bind fun d => (HEs.ev c w as).map (d :: ·)
end
/-- a handler: the slot of its name, its class, the thrown classes that it catches and those that it lets pass, what it returns -/
structure Hd where
  slot : Option Nat
  cls : Nat
  yes : List Nat
  no : List Nat
  he : HE

/-- statements -/
inductive IS where
  | set (i : Nat) (a : IE)
  | par (is : List Nat) (as : IEs)
  | unp (t : Tg) (a : IE)
  | unpSub (as : List (Nat × IE)) (a : IEs)
  | setIx (x : Nat) (path : IEs) (i a : IE)
  | append (x : Nat) (path : IEs) (a : IE)
  | extend (x : Nat) (path : IEs) (a : IE)
  | drop (a : IE)
  | ite (c : IE) (a b : List IS)
  | for_ (t : Tg) (it : It) (a : List IS)
  | whil (c : IE) (a : List IS)
  | ret (a : IE)
  | retN
  | brk
  | cont
  | pass
  | raise (c : Nat) (a : IE)
  | try_ (a : List IS) (hs : List Hd)
  | never

def IE.isSlot : IE → Option Nat
  | .slot i => some i
  | _ => none

/-! ### the values -/
def gt (e : Env) (i : Nat) : D := (e[i]?).getD .hole
/-- a slot read and, where it is an owned list, shared from then on -/
def rdF (i : Nat) (e : Env) : R D :=
  match gt e i with
  | .hole => .no
  | .lst true xs => .ok (.lst false (frz.frzs xs)) (e.set i (.lst false (frz.frzs xs)))
  | d => .ok d e
/-- a slot looked at: an owned list of shared things stays owned -/
def rdS (i : Nat) (e : Env) : R D :=
  match gt e i with
  | .hole => .no
  | .lst true xs => if xs.all pers then .ok (.lst false xs) e else .ok (.lst false (frz.frzs xs)) (e.set i (.lst false (frz.frzs xs)))
  | d => .ok d e

def toInts : List D → Option (List Int)
  | [] => some []
  | .int i :: xs => (toInts xs).map (i :: ·)
  | _ :: _ => none
def insI (i : Int) : List Int → List Int
  | [] => [i]
  | j :: xs => if i ≤ j then i :: j :: xs else j :: insI i xs
def sortI : List Int → List Int
  | [] => []
  | i :: xs => insI i (sortI xs)
def toPrs : List D → Option (List (Int × Int))
  | [] => some []
  | .tup [.int i, .int j] :: xs => (toPrs xs).map ((i, j) :: ·)
  | _ :: _ => none
def prLe (p q : Int × Int) : Bool := decide (p.1 < q.1) || (decide (p.1 = q.1) && decide (p.2 ≤ q.2))
def insP (i : Int × Int) : List (Int × Int) → List (Int × Int)
  | [] => [i]
  | j :: xs => if prLe i j then i :: j :: xs else j :: insP i xs
def sortP : List (Int × Int) → List (Int × Int)
  | [] => []
  | i :: xs => insP i (sortP xs)
def prD (p : Int × Int) : D := .tup [.int p.1, .int p.2]
def srtD (xs : List D) : Option D := match toInts xs with
  | some ns => some (.lst true ((sortI ns).map .int))
  | none => (toPrs xs).map fun ps => .lst true ((sortP ps).map prD)
def leastI : Int → List Int → Int
  | i, [] => i
  | i, j :: xs => leastI (if j < i then j else i) xs
def mostI : Int → List Int → Int
  | i, [] => i
  | i, j :: xs => mostI (if j > i then j else i) xs
def items : D → Option (List D)
  | .tup xs => some xs
  | .lst _ xs => some xs
  | _ => none
def sem1 : P1 → D → Option D
  | .len, .tup xs => some (.int xs.length)
  | .len, .lst _ xs => some (.int xs.length)
  | .len, .scr xs => some (.int xs.length)
  | .tuple, .tup xs => some (.tup xs)
  | .tuple, .lst _ xs => some (.tup xs)
  | .list, .tup xs => some (.lst true xs)
  | .list, .lst _ xs => some (.lst true xs)
  | .int, .int i => some (.int i)
  | .int, .bl b => some (.int (if b then 1 else 0))
  | .neg, .int i => some (.int (-i))
  | .isN, .non => some (.bl true)
  | .isN, _ => some (.bl false)
  | .notN, .non => some (.bl false)
  | .notN, _ => some (.bl true)
  | .isTy _, .scr _ => none
  | .isTy _, .rng _ _ => none
  | .isTy t, d => some (.bl (isTy t d))
  | .sorted, .lst _ xs => srtD xs
  | .sorted, .tup xs => srtD xs
  | .min, .lst _ xs => match toInts xs with
    | some (n :: ns) => some (.int (leastI n ns))
    | _ => none
  | .max, .lst _ xs => match toInts xs with
    | some (n :: ns) => some (.int (mostI n ns))
    | _ => none
  | .sum, .lst _ xs => (toInts xs).map fun ns => .int ns.sum
  | _, _ => none

mutual
/-- == of plain data (numbers, truth values, texts, None, tuples, lists) -/
def eqD : D → D → Bool
  | .non, .non => true
  | .bl a, .bl b => a == b
  | .int a, .int b => a == b
  | .bl a, .int b => (if a then 1 else 0) == b
  | .int a, .bl b => a == (if b then 1 else 0)
  | .str a, .str b => a == b
  | .tup xs, .tup ys => eqDs xs ys
  | .lst _ xs, .lst _ ys => eqDs xs ys
  | _, _ => false
def eqDs : List D → List D → Bool
  | [], [] => true
  | x :: xs, y :: ys => eqD x y && eqDs xs ys
  | _, _ => false
end
/-- data of so many storeys at most -/
def shD : Nat → D → Bool
  | _, .non => true
  | _, .bl _ => true
  | _, .int _ => true
  | _, .str x => PySem.PyData.strOk x
  | n + 1, .tup xs => xs.all (shD n)
  | n + 1, .lst _ xs => xs.all (shD n)
  | _, _ => false
def flatD : D → Bool
  | .non => true
  | .bl _ => true
  | .int _ => true
  | .str _ => true
  | _ => false
/-- t <= u of tuples of numbers -/
def lexLe : List Int → List Int → Bool
  | [], _ => true
  | _ :: _, [] => false
  | i :: is, j :: js => if i = j then lexLe is js else decide (i < j)
abbrev lexLt := HT.lexLt
def powN (i : Int) (j : Nat) : Int := i ^ j
def mulOk (i j : Int) : Bool := (decide (-(2 ^ 64) < i) && decide (i < 2 ^ 64)) || (decide (-(2 ^ 64) < j) && decide (j < 2 ^ 64))
def repD (xs : List D) (k : Int) : List D := (List.replicate k.toNat xs).flatten
def sem2 : P2 → D → D → Option D
  | .add, .int i, .int j => some (.int (i + j))
  | .add, .tup xs, .tup ys => if xs.length + ys.length < sizeLine then some (.tup (xs ++ ys)) else none
  | .add, .lst _ xs, .lst _ ys => if xs.length + ys.length < sizeLine then some (.lst true (xs ++ ys)) else none
  | .sub, .int i, .int j => some (.int (i - j))
  | .mul, .int i, .int j => if mulOk i j then some (.int (i * j)) else none
  | .mul, .lst _ xs, .int k => if decide (-(2 ^ 60) < k) && decide (k < 2 ^ 60) && decide (xs.length * k.toNat < sizeLine) then some (.lst true (repD xs k)) else none
  | .fdiv, .int i, .int j => if decide (0 < j) && decide (j < 1073741824) then some (.int (i / j)) else none
  | .mod, .int i, .int j => if 0 < j then some (.int (i % j)) else none
  | .pow, .int i, .int j => if decide (0 ≤ j) && decide (j ≤ 1000) && decide (i.natAbs < 2 ^ 60) then some (.int (powN i j.toNat)) else none
  | .eq, a, b => if shD 12 a && shD 12 b then some (.bl (eqD a b)) else none
  | .ne, a, b => if shD 12 a && shD 12 b then some (.bl (!eqD a b)) else none
  | .lt, .int i, .int j => some (.bl (decide (i < j)))
  | .lt, .tup xs, .tup ys => match toInts xs, toInts ys with
    | some a, some b => some (.bl (lexLt a b))
    | _, _ => none
  | .le, .int i, .int j => some (.bl (decide (i ≤ j)))
  | .le, .tup xs, .tup ys => match toInts xs, toInts ys with
    | some a, some b => some (.bl (lexLe a b))
    | _, _ => none
  | .gt, .int i, .int j => some (.bl (decide (j < i)))
  | .ge, .int i, .int j => some (.bl (decide (j ≤ i)))
  | .inn, a, b => match items b with
    | some ys => if flatD a && ys.all flatD then some (.bl (ys.any fun y => eqD y a)) else if shD 12 a && shD 12 b then some (.bl (ys.any fun y => eqD y a)) else none
    | none => none
  | .notin, a, b => match items b with
    | some ys => if flatD a && ys.all flatD then some (.bl (!ys.any fun y => eqD y a)) else if shD 12 a && shD 12 b then some (.bl (!ys.any fun y => eqD y a)) else none
    | none => none
  | .ix, .scr xs, .int i => (atI xs i).map .int
  | .ix, .tup xs, .int i => atI xs i
  | .ix, .lst _ xs, .int i => atI xs i
  | .min, .int i, .int j => some (.int (if j < i then j else i))
  | .max, .int i, .int j => some (.int (if j > i then j else i))
  | _, _, _ => none
def cutD (xs : List D) (lo hi : Option Int) : List D := (xs.drop (HT.sIx xs.length 0 lo)).take (HT.sIx xs.length xs.length hi - HT.sIx xs.length 0 lo)
def partD : D → Option (Option Int)
  | .hole => some none
  | .int i => some (some i)
  | _ => none
def semSl (a : D) (l h : Option Int) : Option D :=
  match a with
  | .tup xs => some (.tup (cutD xs l h))
  | .lst _ xs => some (.lst true (cutD xs l h))
  | .scr xs => some (.lst true (cutD (xs.map .int) l h))
  | _ => none
def partR (d : D) (e : Env) (f : Option Int → Env → R D) : R D := match partD d with
  | some l => f l e
  | none => .no
def semRev : D → Option D
  | .lst _ xs => some (.lst true xs.reverse)
  | _ => none
def rgD (a b : Int) : List D := (List.range (b - a).toNat).map fun i => .int (a + (i : Nat))
def okRg (a b : Int) : Bool := decide (-(2 ^ 62) ≤ a) && decide (a < 2 ^ 62) && decide (-(2 ^ 62) ≤ b) && decide (b < 2 ^ 62) && decide ((b - a).toNat < sizeLine)
def semRg (tuple : Bool) : List D → Option D
  | [.int b] => if okRg 0 b then some (if tuple then .tup (rgD 0 b) else .lst true (rgD 0 b)) else none
  | [.int a, .int b] => if okRg a b then some (if tuple then .tup (rgD a b) else .lst true (rgD a b)) else none
  | _ => none

def semRv : List D → Option D
  | [.int b] => if okRg 0 b then some (.rng 0 b) else none
  | [.int a, .int b] => if okRg a b then some (.rng a b) else none
  | _ => none
/-- what a loop over a value walks -/
def walkD : D → Option (List D)
  | .rng a b => if okRg a b then some (rgD a b) else none
  | d => items d

/-- an item of a slot's list, the list stays as it is -/
def atD (x : Nat) (k : D) (e : Env) : R D := match gt e x with
  | .lst true xs => match k with
    | .int k => match atI xs k with
      | some d => if pers d then .ok d e else .no
      | none => .no
    | _ => .no
  | d => R.of (sem2 .ix d k) e
/-- .. compared with a constant, or with [] -/
def vwD (p : P2) (x : Nat) (k : D) (b : Option D) (e : Env) : R D := match gt e x with
  | .lst true xs => match k with
    | .int k => match atI xs k with
      | some (.lst true ys) => if ys.all pers then R.of (sem2 p (.lst false ys) (b.getD (.lst false []))) e else .no
      | some d => if pers d then R.of (sem2 p d (b.getD (.lst false []))) e else .no
      | none => .no
    | _ => .no
  | _ => .no
def full (x : Nat) (e : Env) (r : R D) : R D := match gt e x with
  | .hole => .no
  | _ => r

/-! ### targets -/
mutual
def asg : Tg → D → Env → Option Env
  | .nm i, d, e => if i < e.length then some (e.set i d) else none
  | .tp ts, .tup ds, e => asgs ts ds e
  | .tp ts, .lst false ds, e => asgs ts ds e
  | _, _, _ => none
def asgs : List Tg → List D → Env → Option Env
  | [], [], e => some e
  | t :: ts, d :: ds, e => (asg t d e).bind fun e' => asgs ts ds e'
  | _, _, _ => none
end

/-! ### places -/
/-- the list at a path of indexes within a datum: how it is read and what it becomes -/
def onPath (f : List D → Option (D × List D)) : List Int → D → Option (D × D)
  | [], .lst true xs => (f xs).map fun p => (p.1, .lst true p.2)
  | i :: is, .lst true xs => (ixN xs.length i).bind fun j => (xs[j]?).bind fun d => (onPath f is d).map fun p => (p.1, .lst true (xs.set j p.2))
  | _, _ => none
def smallI (k : Int) : Bool := decide (-(2 ^ 62) ≤ k) && decide (k < 2 ^ 62)
/-- an owned list stands at the path -/
def ownAt (x : Nat) (is : List D) (e : Env) : Bool :=
  match toInts is with
  | some ns => (onPath (fun xs => some (.non, xs)) ns (gt e x)).isSome
  | none => false
/-- while the rest is reckoned the list is out of sight, where it is an item of another -/
def hide (is : List D) (x : Nat) (e : Env) : Env := match is with
  | [] => e
  | _ => e.set x .hole
def unhide (is : List D) (x : Nat) (d : D) (e : Env) : Env := match is with
  | [] => e
  | _ => e.set x d
/-- the indexes of a place; the slot holds something -/
def evP (x : Nat) (f : Env → R (List D)) (e : Env) : R (List D) := match gt e x with
  | .hole => .no
  | _ => f e
def onSlot (f : List D → Option (D × List D)) (x : Nat) (is : List D) (e : Env) : R D :=
  match toInts is with
  | some ns => match onPath f ns (gt e x) with
    | some p => .ok p.1 (e.set x p.2)
    | none => .no
  | none => .no

/-- an argument that is a slot is read last; an owned list is lent (its slot empty meanwhile) where the parameter is never stored to, else shared -/
def fillA (stab : List Bool) : IEs → List D → Nat → Env → Option (List D × List (Nat × Nat) × Env)
  | .nil, [], _, e => some ([], [], e)
  | .cons a as, d :: ds, k, e =>
    match a.isSlot with
    | none => (fillA stab as ds (k + 1) e).map fun q => (d :: q.1, q.2.1, q.2.2)
    | some i => match gt e i with
      | .hole => none
      | .lst true xs =>
        if stab.getD k false then (fillA stab as ds (k + 1) (e.set i .hole)).map fun q => (.lst true xs :: q.1, (i, k) :: q.2.1, q.2.2)
        else (fillA stab as ds (k + 1) (e.set i (.lst false (frz.frzs xs)))).map fun q => (.lst false (frz.frzs xs) :: q.1, q.2.1, q.2.2)
      | d' => (fillA stab as ds (k + 1) e).map fun q => (d' :: q.1, q.2.1, q.2.2)
  | _, _, _, _ => none
def backA (ps : Env) (lent : List (Nat × Nat)) (e : Env) : Env := lent.foldl (fun e p => e.set p.1 (gt ps p.2)) e
def callEnd (lent : List (Nat × Nat)) (e : Env) (r : R D) : R D :=
  match r with
  | .ok d ps => .ok d (backA ps lent e)
  | .ex c w ps => .ex c w (backA ps lent e)
  | .no => .no
/-- behind a comprehension: its own slots as they were -/
def unown (own : List (Str × Nat)) (e0 e : Env) : Env := own.foldl (fun e p => e.set p.2 (gt e0 p.2)) e
def wipeE (own : List (Str × Nat)) (e : Env) : Env := own.foldl (fun e p => e.set p.2 .hole) e
/-- errors do not leave a comprehension -/
def R.calm {α : Type} : R α → R α
  | .ok a e => .ok a e
  | _ => .no

/-- one turn of a comprehension, over all of its items -/
def compGo (own : List (Str × Nat)) (tg : Tg) (c : Env → R D) (f : Env → R D) : List D → List D → Env → R (List D)
  | [], acc, e => .ok acc e
  | x :: xs, acc, e =>
    match asg tg x (wipeE own e) with
    | none => .no
    | some e1 => (c e1).bind fun b e2 => match b with
      | .bl true => (f e2).bind fun y e3 => if acc.length < 16000000 then compGo own tg c f xs (acc ++ [y]) (wipeE own e3) else .no
      | .bl false => compGo own tg c f xs acc (wipeE own e2)
      | _ => .no

structure Fns where
  cf : Nat → List D → R D
  stab : Nat → List Bool

/-- the items that a loop walks, in the order -/
def zipD : List D → List D → List D
  | x :: xs, y :: ys => .tup [x, y] :: zipD xs ys
  | _, _ => []
def enumD : Nat → List D → List D
  | _, [] => []
  | i, x :: xs => .tup [.int i, x] :: enumD (i + 1) xs
/-- range(a, b, c): how many -/
def rgN (a b c : Int) : Nat := if 0 < c then ((b - a + c - 1) / c).toNat else ((a - b - c - 1) / (-c)).toNat
def itRng : List D → Option (List D)
  | [.int b] => if okRg 0 b then some (rgD 0 b) else none
  | [.int a, .int b] => if okRg a b then some (rgD a b) else none
  | [.int a, .int b, .int (-1)] => if okRg a b && okRg b a then some ((List.range (a - b).toNat).map fun i => .int (a - (i : Nat))) else none
  | _ => none

/-- an operand, begun: a slot is read last -/
def pre (a : IE) (f : Env → R D) (e : Env) : R D := match a with
  | .slot i => match gt e i with
    | .hole => .no
    | _ => .ok .hole e
  | _ => f e
def fin (a : IE) (d : D) (e : Env) : R D := match a with
  | .slot i => rdS i e
  | _ => .ok (frz d) e
section
variable (T : Fns)
mutual
def ev : IE → Env → R D
  | .slot i, e => rdF i e
  | .con d, e => .ok d e
  | .glob _ d, e => .ok d e
  | .p1 p a, e => (pre a (ev a) e).bind fun d e1 => (fin a d e1).bind fun d e2 => R.of (sem1 p d) e2
  | .p2 p a b, e => (pre a (ev a) e).bind fun d e1 => (pre b (ev b) e1).bind fun d' e2 => (fin a d e2).bind fun d e3 => (fin b d' e3).bind fun d' e4 => R.of (sem2 p d d') e4
  | .sl a lo hi, e => (pre a (ev a) e).bind fun d e1 => (ev lo e1).bind fun l e2 => partR l e2 fun l e2 => (ev hi e2).bind fun h e3 => partR h e3 fun h e3 => (fin a d e3).bind fun d e4 => R.of (semSl d l h) e4
  | .rev a, e => (pre a (ev a) e).bind fun d e1 => (fin a d e1).bind fun d e2 => R.of (semRev d) e2
  | .tup es, e => (evs es e).bind fun ds e1 => .ok (.tup (ds.map frz)) e1
  | .lst es, e => (evs es e).bind fun ds e1 => .ok (.lst true ds) e1
  | .one a, e => ev a e
  | .and a b, e => (ev a e).bind fun d e1 => match d with
    | .bl true => ev b e1
    | .bl false => .ok (.bl false) e1
    | _ => .no
  | .or a b, e => (ev a e).bind fun d e1 => match d with
    | .bl true => .ok (.bl true) e1
    | .bl false => ev b e1
    | _ => .no
  | .not a, e => (ev a e).bind fun d e1 => match d with
    | .bl b => .ok (.bl (!b)) e1
    | _ => .no
  | .ife c a b, e => (ev c e).bind fun d e1 => match d with
    | .bl true => ev a e1
    | .bl false => ev b e1
    | _ => .no
  | .chain p q a b c, e => (ev a e).bind fun d e1 => (ev b e1).bind fun d' e2 => match sem2 p (frz d) (frz d') with
    | some (.bl true) => (ev c e2).bind fun d'' e3 => R.of (sem2 q (frz d') (frz d'')) e3
    | some (.bl false) => .ok (.bl false) e2
    | _ => .no
  | .call f as, e => (evA as e).bind fun ds e1 => match fillA (T.stab f) as ds 0 e1 with
    | none => .no
    | some (ds, lent, e2) => callEnd lent e2 (T.cf f ds)
  | .comp own tg it cs elt, e => (evIt it e).bind fun xs e1 =>
    R.calm ((compGo own tg (evC cs) (ev elt) xs [] (wipeE own e1)).bind fun ys e2 => .ok (.lst true ys) (unown own e1 e2))
  | .compS own tg i cs elt, e => match gt e i with
    | .lst true xs => if xs.all pers then R.calm ((compGo own tg (evC cs) (ev elt) xs [] (wipeE own (e.set i .hole))).bind fun ys e2 => .ok (.lst true ys) ((unown own (e.set i .hole) e2).set i (.lst true xs))) else .no
    | _ => .no
  | .rgl t as, e => (evs as e).bind fun ds e1 => R.of (semRg t ds) e1
  | .rngv as, e => (evs as e).bind fun ds e1 => R.of (semRv ds) e1
  | .at x i, e => full x e ((ev i e).bind (atD x))
  | .vw p x i b, e => full x e ((ev i e).bind fun k e1 => vwD p x k b e1)
  | .popAt x path i, e => (evP x (evs path) e).bind fun is e1 => if ownAt x is e1 then (ev i (hide is x e1)).bind fun d e2 => (match d with
    | .int k => if smallI k then onSlot (fun xs => (ixN xs.length k).bind fun j => (xs[j]?).map fun y => (y, xs.eraseIdx j)) x is (unhide is x (gt e1 x) e2) else .no
    | _ => .no) else .no
  | .pop x path, e => (evP x (evs path) e).bind fun is e1 => if ownAt x is e1 then onSlot (fun xs => xs.getLast?.map fun y => (y, xs.dropLast)) x is e1 else .no
def evs : IEs → Env → R (List D)
  | .nil, e => .ok [] e
  | .cons a as, e => (ev a e).bind fun d e1 => (evs as e1).bind fun ds e2 => .ok (d :: ds) e2
def evA : IEs → Env → R (List D)
  | .nil, e => .ok [] e
  | .cons a as, e => (pre a (ev a) e).bind fun d e1 => (evA as e1).bind fun ds e2 => .ok (frz d :: ds) e2
def evC : IEs → Env → R D
  | .nil, e => .ok (.bl true) e
  | .cons a _, e => ev a e
def evIt : It → Env → R (List D)
  | .seq a, e => (ev a e).bind fun d e1 => R.of (walkD (frz d)) e1
  | .rng as, e => (evs as e).bind fun ds e1 => R.of (itRng ds) e1
  | .enum a, e => (ev a e).bind fun d e1 => R.of ((items (frz d)).map (enumD 0)) e1
  | .zip a b, e => (ev a e).bind fun d e1 => (ev b e1).bind fun d' e2 => match items (frz d), items (frz d') with
    | some xs, some ys => .ok (zipD xs ys) e2
    | _, _ => .no
end

/-- the writes, behind the last expression -/
def apK (x : Nat) (is : List D) (e1 : Env) (d : D) (e2 : Env) : R D := onSlot (fun xs => if xs.length < 16000000 then some (.non, xs ++ [d]) else none) x is (unhide is x (gt e1 x) e2)
def exK (x : Nat) (is : List D) (e1 : Env) (d : D) (e2 : Env) : R D := match frz d with
  | .lst _ ys => onSlot (fun xs => if xs.length + ys.length < 16000000 then some (.non, xs ++ ys) else none) x is (unhide is x (gt e1 x) e2)
  | _ => .no
def setK (x : Nat) (is : List D) (e1 : Env) (d : D) (k : D) (e2 : Env) : R D := match k with
  | .int k => onSlot (fun xs => (ixN xs.length k).map fun j => (.non, xs.set j d)) x is (unhide is x (gt e1 x) e2)
  | _ => .no
def apR (x : Nat) (path : IEs) (a : IE) (e : Env) : R D := (evP x (evs T path) e).bind fun is e1 => if ownAt x is e1 then (ev T a (hide is x e1)).bind (apK x is e1) else .no
def exR (x : Nat) (path : IEs) (a : IE) (e : Env) : R D := (evP x (evs T path) e).bind fun is e1 => if ownAt x is e1 then (ev T a (hide is x e1)).bind (exK x is e1) else .no
def setR (x : Nat) (path : IEs) (i : IE) (d : D) (e : Env) : R D := (evP x (evs T path) e).bind fun is e1 => if ownAt x is e1 then (ev T i (hide is x e1)).bind (setK x is e1 d) else .no

/-- what a statement comes to -/
inductive O where
  | nx (e : Env)
  | rt (d : D) (e : Env)
  | bk (e : Env)
  | ct (e : Env)
  | ex (c : Nat) (w : D) (e : Env)
  | no
def O.of {α : Type} (r : R α) (f : α → Env → O) : O := match r with
  | .ok a e => f a e
  | .ex c w e => .ex c w e
  | .no => .no
@[simp] theorem O.of_ok {α : Type} (a : α) (e : Env) (f : α → Env → O) : O.of (.ok a e) f = f a e := rfl
@[simp] theorem O.of_ex {α : Type} (c : Nat) (w : D) (e : Env) (f : α → Env → O) : O.of (.ex c w e : R α) f = .ex c w e := rfl
@[simp] theorem O.of_no {α : Type} (f : α → Env → O) : O.of (.no : R α) f = .no := rfl
def O.seq (o : O) (f : Env → O) : O := match o with
  | .nx e => f e
  | o => o
def asgList : List (Nat × D) → Env → Env
  | [], e => e
  | (i, d) :: r, e => asgList r (e.set i d)
/-- a for loop over its items -/
def forGo (t : Tg) (f : Env → O) : List D → Env → O
  | [], e => .nx e
  | x :: xs, e => match asg t x e with
    | none => .no
    | some e1 => match f e1 with
      | .nx e2 => forGo t f xs e2
      | .ct e2 => forGo t f xs e2
      | .bk e2 => .nx e2
      | o => o
/-- a while loop of so many turns at most -/
def whileGo (c : Env → R D) (f : Env → O) : Nat → Env → O
  | 0, _ => .no
  | n + 1, e => O.of (c e) fun d e1 => match d with
    | .bl true => match f e1 with
      | .nx e2 => whileGo c f n e2
      | .ct e2 => whileGo c f n e2
      | .bk e2 => .nx e2
      | o => o
    | .bl false => .nx e1
    | _ => .no
/-- the handlers, one by one -/
def hdGo : List Hd → Nat → D → Env → O
  | [], c, w, e => .ex c w e
  | h :: hs, c, w, e => if h.yes.contains c then (match h.he.ev c w with
      | some d => .rt d e
      | none => .no) else if h.no.contains c then hdGo hs c w e else .no
def O.hd (o : O) (hs : List Hd) : O := match o with
  | .ex c w e => hdGo hs c w e
  | o => o
mutual
def ex (wf np : Nat) : IS → Env → O
  | .set i a, e => O.of (ev T a e) fun d e1 => if i < e1.length then .nx (e1.set i d) else .no
  | .par is as, e => O.of (evs T as e) fun ds e1 => if is.length = ds.length ∧ is.all (· < e1.length) then .nx (asgList (is.zip ds) e1) else .no
  | .unp t a, e => O.of (ev T a e) fun d e1 => match asg t (frz d) e1 with
    | some e2 => .nx e2
    | none => .no
  | .unpSub ts as, e => O.of (evs T as e) fun ds e1 => unpGo ts (ds.map frz) e1
  | .setIx x path i a, e => O.of (ev T a e) fun d e1 => O.of (setR T x path i (frz d) e1) fun _ e2 => .nx e2
  | .append x path a, e => O.of (apR T x path a e) fun _ e1 => .nx e1
  | .extend x path a, e => O.of (exR T x path a e) fun _ e1 => .nx e1
  | .drop a, e => O.of (ev T a e) fun _ e1 => .nx e1
  | .ite c a b, e => O.of (ev T c e) fun d e1 => match d with
    | .bl true => exs wf np a e1
    | .bl false => exs wf np b e1
    | _ => .no
  | .for_ t it a, e => O.of (evIt T it e) fun xs e1 => forGo t (exs wf np a) xs e1
  | .whil c a, e => whileGo (ev T c) (exs wf np a) wf e
  | .ret (.slot i), e => if np ≤ i then (match gt e i with
      | .hole => .no
      | d => .rt d (e.set i .hole)) else O.of (rdF i e) fun d e1 => .rt d e1
  | .ret a, e => O.of (ev T a e) fun d e1 => .rt d e1
  | .retN, e => .rt .non e
  | .brk, e => .bk e
  | .cont, e => .ct e
  | .pass, e => .nx e
  | .raise c a, e => O.of (ev T a e) fun d e1 => .ex c (frz d) e1
  | .try_ a hs, e => (exs wf np a e).hd hs
  | .never, e => .no
def exs (wf np : Nat) : List IS → Env → O
  | [], e => .nx e
  | s :: ss, e => (ex wf np s e).seq (exs wf np ss)
def unpGo : List (Nat × IE) → List D → Env → O
  | [], [], e => .nx e
  | (x, i) :: r, d :: ds, e => O.of (setR T x .nil i d e) fun _ e2 => unpGo r ds e2
  | _, _, _ => .no
end
end

/-- a def: how many parameters, how many slots, its body; which parameters are never stored to -/
structure Fn where
  name : Str
  np : Nat
  ns : Nat
  body : List IS
  stab : List Bool
def finish (np : Nat) (stab : List Bool) (o : O) : R D :=
  match o with
  | .rt d e => .ok d (keep e)
  | .nx e => .ok .non (keep e)
  | .ex c w e => .ex c w (keep e)
  | _ => .no
where keep (e : Env) : Env := (e.take np).zipWith (fun d b => if b then d else .hole) stab
def callF (F : List Fn) (wf : Nat) : Nat → Nat → List D → R D
  | 0, _, _ => .no
  | k + 1, f, ds => match F[f]? with
    | none => .no
    | some g => if ds.length = g.np then finish g.np g.stab (exs ⟨callF F wf k, fun f => (F[f]?.map (·.stab)).getD []⟩ wf g.np g.body (ds ++ List.replicate (g.ns - g.np) .hole)) else .no
end Tw

set_option Elab.async false
set_option linter.all false
set_option maxRecDepth 100000
set_option maxHeartbeats 2000000
/-! Tw2: steps between states, what is wanted behind a piece of the language, the ghost moves. -/
namespace Tw
open PySem L2
open Classical

/-- from (G, H) with the owned F to (G', H') with the owned F': all else stands -/
structure Good (G H : Hp) (F : AS) (G' H' : Hp) (F' : AS) : Prop where
  mono : Same G G'
  keep : ∀ b o, H b = some o → ¬ F b → H' b = some o ∨ ((∃ ps, o = .tbl ps) ∧ ∃ ps, H' b = some (.tbl ps))
  own : ∀ b, F' b → F b ∨ H b = none
  out : ∀ b, H b ≠ none → ¬ F b → G b = none → G' b = none
theorem Good.refl (G H : Hp) (F : AS) : Good G H F G H F := ⟨Same.refl _, fun _ _ h _ => .inl h, fun _ h => .inl h, fun _ _ _ h => h⟩
theorem Good.there {G H : Hp} {F : AS} {G' H' : Hp} {F' : AS} (g : Good G H F G' H' F') {b : Addr} (h : H b ≠ none) (n : ¬ F b) : H' b ≠ none := by
  cases e : H b with
  | none => exact absurd e h
  | some o =>
    rcases g.keep b o e n with q | ⟨_, ps, q⟩ <;> rw [q] <;> exact fun z => nomatch z
theorem Good.trans {G H : Hp} {F : AS} {G1 H1 : Hp} {F1 F1' : AS} {G2 H2 : Hp} {F2 F2' : AS} (a : Good G H F G1 H1 F1') (i : ∀ b, F1 b → F1' b) (b : Good G1 H1 F1 G2 H2 F2)
    (o : ∀ b, F2' b → F2 b ∨ F1' b) : Good G H F G2 H2 F2' := by
  have n1 : ∀ {c}, H c ≠ none → ¬ F c → ¬ F1 c := fun h n z => (a.own _ (i _ z)).elim n h
  refine ⟨a.mono.trans b.mono, fun c u e n => ?_, fun c z => ?_, fun c h n q => ?_⟩
  · have hc : H c ≠ none := by rw [e]; exact fun z => nomatch z
    rcases a.keep c u e n with q | ⟨⟨ps, q⟩, ps', q'⟩
    · exact b.keep c u q (n1 hc n)
    · rcases b.keep c _ q' (n1 hc n) with z | ⟨_, z⟩
      · exact .inr ⟨⟨ps, q⟩, ps', z⟩
      · exact .inr ⟨⟨ps, q⟩, z⟩
  · rcases o c z with z | z
    · rcases b.own c z with z | z
      · exact a.own c (i c z)
      · by_cases hF : F c
        · exact .inl hF
        · cases e : H c with
          | none => exact .inr rfl
          | some u => exact absurd z (a.there (by rw [e]; exact fun z => nomatch z) hF)
    · exact a.own c z
  · exact b.out c (a.there h n) (n1 h n) (a.out c h n q)

/-! ### a datum that is shared from now on -/
noncomputable def jn (G H : Hp) (F : AS) : Hp := fun b => if F b then H b else G b
theorem jn_in {G H : Hp} {F : AS} {b : Addr} (h : F b) : jn G H F b = H b := if_pos h
theorem jn_out {G H : Hp} {F : AS} {b : Addr} (h : ¬ F b) : jn G H F b = G b := if_neg h
theorem jn_emp {G H : Hp} {F : AS} (h : ∀ b, ¬ F b) : jn G H F = G := funext fun b => jn_out (h b)
section
variable {K : PySem.W.Frag} {G G' H H' : Hp} {F F' : AS}
theorem jn_mono (h : ∀ b, F b → G b = none) : Same G (jn G H F) := fun b o e => by
  have n : ¬ F b := fun z => by rw [h b z] at e; cases e
  rw [jn_out n]; exact e
theorem jn_same (s : Same G H) : Same (jn G H F) H := fun b o e => by
  by_cases z : F b
  · rw [jn_in z] at e; exact e
  · rw [jn_out z] at e; exact s b o e
theorem frz_pers {d : D} (h : pers d = true) : frz d = d := by
  cases d with
  | lst o xs => cases o with
    | true => cases h
    | false => unfold frz; rfl
  | _ => unfold frz; rfl
mutual
/-- what was owned, shared: F0 holds all of its addresses -/
theorem RO.frz {G H : Hp} : ∀ {d : D} {o : Option V} {F : AS} {F0 : AS}, RO K G H d o F → (∀ b, F b → F0 b) → (∀ b, F0 b → G b = none) → ∃ v, o = some v ∧ RP K (jn G H F0) (frz d) v
  | .hole, _, _, _, h, _, _ => h.elim
  | .non, _, _, _, h, _, m => let ⟨⟨v, e, r⟩, _⟩ := h; ⟨v, e, by unfold Tw.frz; exact r.mono (jn_mono m)⟩
  | .bl _, _, _, _, h, _, m => let ⟨⟨v, e, r⟩, _⟩ := h; ⟨v, e, by unfold Tw.frz; exact r.mono (jn_mono m)⟩
  | .int _, _, _, _, h, _, m => let ⟨⟨v, e, r⟩, _⟩ := h; ⟨v, e, by unfold Tw.frz; exact r.mono (jn_mono m)⟩
  | .str _, _, _, _, h, _, m => let ⟨⟨v, e, r⟩, _⟩ := h; ⟨v, e, by unfold Tw.frz; exact r.mono (jn_mono m)⟩
  | .tup _, _, _, _, h, _, m => let ⟨⟨v, e, r⟩, _⟩ := h; ⟨v, e, by unfold Tw.frz; exact r.mono (jn_mono m)⟩
  | .scr _, _, _, _, h, _, m => let ⟨⟨v, e, r⟩, _⟩ := h; ⟨v, e, by unfold Tw.frz; exact r.mono (jn_mono m)⟩
  | .rng _ _, _, _, _, h, _, m => let ⟨⟨v, e, r⟩, _⟩ := h; ⟨v, e, by unfold Tw.frz; exact r.mono (jn_mono m)⟩
  | .lst false _, _, _, _, h, _, m => let ⟨⟨v, e, r⟩, _⟩ := h; ⟨v, e, by unfold Tw.frz; exact r.mono (jn_mono m)⟩
  | .lst true xs, _, _, F0, h, i, m => by
    obtain ⟨a, vs, F', e1, h1, h2, h3, h4, h5⟩ := h
    have ia : F0 a := i a ((h5 a).mpr (.inl rfl))
    refine ⟨.ref a, e1, ?_⟩
    unfold Tw.frz
    refine ⟨rfl, a, vs, rfl, (by rw [jn_in ia]; exact h1), ?_⟩
    exact ROs.frz h4 (fun b z => i b ((h5 b).mpr (.inr z))) m
theorem ROs.frz {G H : Hp} : ∀ {ds : List D} {vs : List V} {F : AS} {F0 : AS}, ROs K G H false ds (vs.map some) F → (∀ b, F b → F0 b) → (∀ b, F0 b → G b = none) → RPs K (jn G H F0) (frz.frzs ds) vs
  | [], vs, _, _, h, _, _ => by
    have e : vs.map some = [] := h.1
    unfold Tw.frz.frzs
    cases vs with
    | nil => rfl
    | cons _ _ => cases e
  | x :: xs, vs, _, _, h, i, m => by
    obtain ⟨w, ws, F1, F2, e1, h1, h2, h3, h4⟩ := h
    cases vs with
    | nil => cases e1
    | cons y ys =>
      rw [List.map_cons] at e1
      have e2 : some y = w := (List.cons.inj e1).1
      have e3 : ys.map some = ws := (List.cons.inj e1).2
      subst e2; subst e3
      unfold Tw.frz.frzs
      rcases h1 with ⟨z, _⟩ | h1
      · cases z
      obtain ⟨v, e, r⟩ := RO.frz h1 (fun b z => i b ((h4 b).mpr (.inl z))) m
      cases e
      exact ⟨y, ys, rfl, r, ROs.frz h2 (fun b z => i b ((h4 b).mpr (.inr z))) m⟩
end
theorem RO.nh {d : D} {o : Option V} {F : AS} (h : RO K G H d o F) : d ≠ .hole := fun z => by
  rw [z] at h; exact h
theorem RP.nh {d : D} {v : V} (h : RP K G d v) : d ≠ .hole := fun z => by
  rw [z] at h; exact h
theorem RO.val {d : D} {o : Option V} {F : AS} (h : RO K G H d o F) : ∃ v, o = some v := by
  cases d with
  | hole => exact h.elim
  | lst b xs => cases b with
    | true => obtain ⟨a, vs, F', e1, _⟩ := h; exact ⟨_, e1⟩
    | false => obtain ⟨⟨v, e, _⟩, _⟩ := h; exact ⟨v, e⟩
  | _ => obtain ⟨⟨v, e, _⟩, _⟩ := h; exact ⟨v, e⟩
/-- a shared datum -/
theorem RO.rp {d : D} {o : Option V} {F : AS} (h : RO K G H d o F) (p : pers d = true) : (∃ v, o = some v ∧ RP K G d v) ∧ ∀ b, ¬ F b := by
  cases d with
  | hole => exact h.elim
  | lst b xs => cases b with
    | true => cases p
    | false => exact h
  | _ => exact h
theorem RP.pers {d : D} {v : V} (h : RP K G d v) : pers d = true := by
  cases d with
  | hole => exact h.elim
  | lst b xs =>
    have e : b = false := h.1
    subst e; rfl
  | _ => rfl
theorem ROs.rps : ∀ {ds : List D} {vs : List V} {F : AS}, ROs K G H false ds (vs.map some) F → ds.all pers = true → RPs K G ds vs ∧ ∀ b, ¬ F b
  | [], vs, _, h, _ => by
    have e : vs.map some = [] := h.1
    refine ⟨?_, h.2⟩
    cases vs with
    | nil => rfl
    | cons _ _ => cases e
  | x :: xs, vs, _, h, p => by
    obtain ⟨w, ws, F1, F2, e1, h1, h2, h3, h4⟩ := h
    cases vs with
    | nil => cases e1
    | cons y ys =>
      rw [List.map_cons] at e1
      have e2 : some y = w := (List.cons.inj e1).1
      have e3 : ys.map some = ws := (List.cons.inj e1).2
      subst e2; subst e3
      rw [List.all_cons, Bool.and_eq_true] at p
      rcases h1 with ⟨z, _⟩ | h1
      · cases z
      obtain ⟨⟨v, e, r⟩, n1⟩ := h1.rp p.1
      cases e
      obtain ⟨r2, n2⟩ := ROs.rps h2 p.2
      exact ⟨⟨y, ys, rfl, r, r2⟩, fun b z => ((h4 b).mp z).elim (n1 b) (n2 b)⟩

/-- a datum looked at, at H: a list's items are shared ones -/
def RV (K : PySem.W.Frag) (G H : Hp) (d : D) (v : V) : Prop := match d with
  | .lst _ xs => ∃ a vs, v = .ref a ∧ H a = some (.lst vs) ∧ RPs K G xs vs
  | d => RP K G d v
theorem RP.rv {d : D} {v : V} (s : Same G H) (h : RP K G d v) : RV K G H d v := by
  cases d with
  | lst o xs => obtain ⟨_, a, vs, e, h1, h2⟩ := h; exact ⟨a, vs, e, s _ _ h1, h2⟩
  | _ => exact h
theorem RV.mono {d : D} {v : V} (s : Same G G') (h : RV K G H d v) : RV K G' H d v := by
  cases d with
  | lst o xs => obtain ⟨a, vs, e, h1, h2⟩ := h; exact ⟨a, vs, e, h1, h2.mono s⟩
  | _ => exact RP.mono s h

/-! ### what is wanted behind a piece -/
/-- an error of the class c (at cl c) that tells w -/
def Exr (K : PySem.W.Frag) (cl : Nat → Addr) (G H : Hp) (c : Nat) (w : D) (cls : Value) (dd : Option Addr) : Prop :=
  cls = .ref (cl c) ∧ ∃ (a : Addr) (v : V), dd = some a ∧ H a = some (.xd [(("what" : Str), v)]) ∧ RP K G w v
variable (cl : Nat → Addr)
/-- behind r, begun at (G, H) with F: the value, or the error -/
def Post {α β : Type} (rep : Hp → Hp → α → β → AS → Prop) (K : PySem.W.Frag) (cl : Nat → Addr) (W : WX) (σ : St) (G H : Hp) (F : AS) (r : R α) (Q : β → Hp → Prop) : Prop := match r with
  | .ok d e => ∀ G' H' F' v Fv, Same G' H' → ROs K G' H' true e σ F' → rep G' H' d v Fv → Dis F' Fv → Good G H F G' H' (AS.uni F' Fv) → Q v H'
  | .ex c w e => ∀ cls dd G' H' F', Same G' H' → ROs K G' H' true e σ F' → Exr K cl G' H' c w cls dd → Good G H F G' H' F' → W cls dd σ H'
  | .no => False
def rD (K : PySem.W.Frag) (G H : Hp) (d : D) (v : V) (F : AS) : Prop := RO K G H d (some v) F
def rDs (K : PySem.W.Frag) (G H : Hp) (ds : List D) (vs : List V) (F : AS) : Prop := ROs K G H false ds (vs.map some) F
/-- what an expression asks -/
def tE (K : PySem.W.Frag) (cl : Nat → Addr) (W : WX) (f : Env → R D) : TE := fun σ H Q => ∃ G e F, Same G H ∧ ROs K G H true e σ F ∧ Post (rD K) K cl W σ G H F (f e) Q
def tA (K : PySem.W.Frag) (cl : Nat → Addr) (W : WX) (f : Env → R (List D)) : TA := fun σ H Q => ∃ G e F, Same G H ∧ ROs K G H true e σ F ∧ Post (rDs K) K cl W σ G H F (f e) Q
end
section
variable {K : PySem.W.Frag} {cl : Nat → Addr} {W : WX} {σ : St} {G H : Hp} {F : AS} {α β γ δ : Type} {rep : Hp → Hp → α → β → AS → Prop}
/-- begun later -/
theorem Post.shift {G1 H1 : Hp} {F1 F1' : AS} {r : R α} {Q : β → Hp → Prop} (h : Post rep K cl W σ G H F r Q) (g : Good G H F G1 H1 F1') (i : ∀ b, F1 b → F1' b) : Post rep K cl W σ G1 H1 F1 r Q := by
  cases r with
  | ok d e => exact fun G' H' F' v Fv s ro r d g' => h G' H' F' v Fv s ro r d (g.trans i g' fun b z => .inl z)
  | ex c w e => exact fun cls dd G' H' F' s ro x g' => h cls dd G' H' F' s ro x (g.trans i g' fun b z => .inl z)
  | no => exact h
/-- .. with something owned beside, that may be part of what comes -/
theorem Post.shiftH {G1 H1 : Hp} {F1 Fh : AS} {r : R γ} {rep' : Hp → Hp → γ → δ → AS → Prop} {f : γ → Env → R α} {Q : β → Hp → Prop} {Q' : δ → Hp → Prop} (h : Post rep K cl W σ G H F (r.bind f) Q) (g : Good G H F G1 H1 (AS.uni F1 Fh)) (dh : Dis F1 Fh)
    (there : ∀ b, Fh b → G1 b = none ∧ ∃ xs, H1 b = some (.lst xs))
    (k : ∀ d e G2 H2 F2 v Fv, r = .ok d e → Same G2 H2 → ROs K G2 H2 true e σ F2 → rep' G2 H2 d v Fv → Dis F2 Fv → Good G1 H1 F1 G2 H2 (AS.uni F2 Fv) → (∀ b, Fh b → H2 b = H1 b ∧ G2 b = none) → Dis (AS.uni F2 Fv) Fh →
      Good G H F G2 H2 (AS.uni (AS.uni F2 Fv) Fh) → Q' v H2) : Post rep' K cl W σ G1 H1 F1 r Q' := by
  cases r with
  | ok d e =>
    intro G2 H2 F2 v Fv s ro rp dj g2
    have st : ∀ b, Fh b → H2 b = H1 b ∧ G2 b = none := fun b z => by
      obtain ⟨n, xs, q⟩ := there b z
      have nF : ¬ F1 b := fun y => dh b y z
      have hn : H1 b ≠ none := by rw [q]; exact fun z => nomatch z
      refine ⟨?_, g2.out b hn nF n⟩
      rcases g2.keep b _ q nF with y | ⟨⟨ps, y⟩, _⟩
      · rw [y, q]
      · cases y
    refine k d e G2 H2 F2 v Fv rfl s ro rp dj g2 st (fun b z y => ?_) (g.trans (fun b z => .inl z) g2 fun b z => z.elim (fun z => .inl z) fun z => .inr (.inr z))
    rcases g2.own b z with q | q
    · exact dh b q y
    · obtain ⟨_, xs, q'⟩ := there b y
      rw [q'] at q; cases q
  | ex c w e => exact fun cls dd G' H' F' s ro x g' => h cls dd G' H' F' s ro x (g.trans (fun b z => .inl z) g' fun b z => .inl z)
  | no => exact h
/-- the first of two -/
theorem Post.first {r : R γ} {rep' : Hp → Hp → γ → δ → AS → Prop} {f : γ → Env → R α} {Q : β → Hp → Prop} {Q' : δ → Hp → Prop} (h : Post rep K cl W σ G H F (r.bind f) Q)
    (k : ∀ d e G1 H1 F1 v Fv, r = .ok d e → Same G1 H1 → ROs K G1 H1 true e σ F1 → rep' G1 H1 d v Fv → Dis F1 Fv → Good G H F G1 H1 (AS.uni F1 Fv) → Post rep K cl W σ G H F (f d e) Q → Q' v H1) : Post rep' K cl W σ G H F r Q' := by
  cases r with
  | ok d e => exact fun G1 H1 F1 v Fv s ro rp dj g => k d e G1 H1 F1 v Fv rfl s ro rp dj g h
  | ex c w e => exact h
  | no => exact h
end
end Tw

set_option Elab.async false
set_option linter.all false
set_option maxRecDepth 100000
set_option maxHeartbeats 2000000
/-! Tw3: ghost moves (a value shared, a slot read), new objects. -/
namespace Tw
open PySem L2
open Classical
section
variable {K : PySem.W.Frag} {cl : Nat → Addr} {W : WX} {σ : St} {G H G0 H0 : Hp} {F F0 Fv : AS} {e : Env}
theorem Dis.sub {F1 F2 F1' F2' : AS} (h : Dis F1 F2) (a : ∀ b, F1' b → F1 b) (c : ∀ b, F2' b → F2 b) : Dis F1' F2' := fun b p q => h b (a b p) (c b q)
/-- G grows by Fv: the state stands -/
theorem jn_good (g : Good G0 H0 F0 G H (AS.uni F Fv)) (hv : ∀ b, Fv b → G b = none) : Good G0 H0 F0 (jn G H Fv) H F := by
  refine ⟨g.mono.trans (jn_mono hv), g.keep, fun b z => g.own b (.inl z), fun b h n q => ?_⟩
  have z : ¬ Fv b := fun z => (g.own b (.inr z)).elim n h
  rw [jn_out z]
  exact g.out b h n q
theorem jn_ros {al : Bool} {os : List (Option V)} (r : ROs K G H al e os F) (hv : ∀ b, Fv b → G b = none) (d : Dis F Fv) : ROs K (jn G H Fv) H al e os F :=
  r.frame (jn_mono hv) fun b z => ⟨rfl, by rw [jn_out fun y => d b z y]; exact (r.own b z).1⟩
/-- a value is shared from now on -/
theorem share {d : D} {v : V} (s : Same G H) (r : ROs K G H true e σ F) (rv : RO K G H d (some v) Fv) (dj : Dis F Fv) (g : Good G0 H0 F0 G H (AS.uni F Fv)) :
    ∃ G', Same G' H ∧ ROs K G' H true e σ F ∧ RP K G' (frz d) v ∧ Good G0 H0 F0 G' H F ∧ Same G G' := by
  have hv : ∀ b, Fv b → G b = none := fun b z => (rv.own b z).1
  obtain ⟨w, ew, q⟩ := rv.frz (F0 := Fv) (fun _ z => z) hv
  cases ew
  exact ⟨jn G H Fv, jn_same s, jn_ros r hv dj, q, jn_good g hv, jn_mono hv⟩
theorem shares {ds : List D} {vs : List V} (s : Same G H) (r : ROs K G H true e σ F) (rv : ROs K G H false ds (vs.map some) Fv) (dj : Dis F Fv) (g : Good G0 H0 F0 G H (AS.uni F Fv)) :
    ∃ G', Same G' H ∧ ROs K G' H true e σ F ∧ RPs K G' (frz.frzs ds) vs ∧ Good G0 H0 F0 G' H F ∧ Same G G' := by
  have hv : ∀ b, Fv b → G b = none := fun b z => (rv.own b z).1
  exact ⟨jn G H Fv, jn_same s, jn_ros r hv dj, rv.frz (fun _ z => z) hv, jn_good g hv, jn_mono hv⟩
theorem frzs_map : ∀ ds : List D, frz.frzs ds = ds.map frz
  | [] => by unfold frz.frzs; rfl
  | d :: ds => by unfold frz.frzs; rw [frzs_map ds]; rfl
theorem gt_some {i : Nat} {d : D} (h : e[i]? = some d) : gt e i = d := by unfold gt; rw [h]; rfl
theorem gt_ne {i : Nat} (h : gt e i ≠ .hole) : e[i]? = some (gt e i) := by
  unfold gt at h ⊢
  cases q : e[i]? with
  | none => rw [q] at h; exact absurd rfl h
  | some d => rfl
theorem Good.sub {G' H' : Hp} {F' F'' : AS} (g : Good G H F G' H' F') (h : ∀ b, F'' b → F' b) : Good G H F G' H' F'' := ⟨g.mono, g.keep, fun b z => g.own b (h b z), g.out⟩
/-- a slot shared from now on -/
theorem slotShare {i : Nat} {xs : List D} (s : Same G H) (r : ROs K G H true e σ F) (hi : gt e i = .lst true xs) :
    ∃ G' F' v, σ[i]? = some (some v) ∧ Same G' H ∧ ROs K G' H true (e.set i (.lst false (frz.frzs xs))) σ F' ∧ RP K G' (.lst false (frz.frzs xs)) v ∧ Good G H F G' H F' ∧ (∀ b, F' b → F b) ∧ (∀ b, G b = none → ¬ F b → G' b = none) := by
  have hg := gt_ne (e := e) (i := i) (by rw [hi]; exact fun z => nomatch z)
  rw [hi] at hg
  obtain ⟨o, F1, F0, ho, hr, dj, hF, up⟩ := r.at hg
  rcases hr with ⟨_, z, _⟩ | hr
  · cases z
  have hv : ∀ b, F1 b → G b = none := fun b z => (hr.own b z).1
  obtain ⟨v, ev, q⟩ := hr.frz (F0 := F1) (fun _ z => z) hv
  subst ev
  have q' : RP K (jn G H F1) (.lst false (frz.frzs xs)) v := q
  have hσ : σ.set i (some v) = σ := by
    obtain ⟨h1, h2⟩ := List.getElem?_eq_some_iff.mp ho
    rw [← h2]; exact List.set_getElem_self h1
  have r' := up (jn G H F1) H (.lst false (frz.frzs xs)) (some v) AS.emp (jn_mono hv) (fun b z => ⟨rfl, by rw [jn_out fun y => dj b z y]; exact (r.own b ((hF b).mpr (.inl z))).1⟩) (.inr q'.ro) (fun _ _ z => z)
  rw [hσ] at r'
  refine ⟨jn G H F1, AS.uni F0 AS.emp, v, ho, jn_same s, r', q', ?_, fun b z => z.elim (fun z => (hF b).mpr (.inl z)) fun z => z.elim, fun b n nf => ?_⟩
  · refine ⟨jn_mono hv, fun _ _ h _ => .inl h, fun b z => z.elim (fun z => .inl ((hF b).mpr (.inl z))) fun z => z.elim, fun b _ n h => ?_⟩
    rw [jn_out fun z => n ((hF b).mpr (.inr z))]; exact h
  · rw [jn_out fun z => nf ((hF b).mpr (.inr z))]; exact n
/-- a slot that holds a shared thing, or an owned list of such -/
theorem slotView {i : Nat} (s : Same G H) (r : ROs K G H true e σ F) (hn : gt e i ≠ .hole) (hp : pers (gt e i) = true ∨ ∃ xs, gt e i = .lst true xs ∧ xs.all pers = true) :
    ∃ v, σ[i]? = some (some v) ∧ RV K G H (frz (gt e i)) v ∧ (pers (gt e i) = true → RP K G (gt e i) v) := by
  have hg := gt_ne hn
  obtain ⟨o, F1, F0, ho, hr, dj, hF, up⟩ := r.at hg
  rcases hr with ⟨_, z, _⟩ | hr
  · exact absurd z hn
  rcases hp with hp | ⟨xs, hx, hp⟩
  · obtain ⟨⟨v, e1, q⟩, _⟩ := hr.rp hp
    subst e1
    exact ⟨v, ho, by rw [frz_pers hp]; exact q.rv s, fun _ => q⟩
  · rw [hx] at hr ⊢
    obtain ⟨a, vs, F', e1, h1, h2, h3, h4, h5⟩ := hr
    subst e1
    obtain ⟨q, _⟩ := h4.rps hp
    refine ⟨.ref a, ho, ?_, fun z => by cases z⟩
    have e2 : frz.frzs xs = xs := by
      rw [frzs_map]
      have : ∀ l : List D, l.all pers = true → l.map frz = l := by
        intro l
        induction l with
        | nil => intro _; rfl
        | cons y ys ih =>
          intro h
          rw [List.all_cons, Bool.and_eq_true] at h
          rw [List.map_cons, ih h.2, frz_pers h.1]
      exact this xs hp
    have : RV K G H (.lst false xs) (.ref a) := ⟨a, vs, rfl, h1, q⟩
    unfold frz
    rw [e2]
    exact this
theorem frz_rfl {xs : List D} (hp : xs.all pers = true) : frz (.lst true xs) = .lst false xs := by
  unfold frz
  have : ∀ l : List D, l.all pers = true → frz.frzs l = l := by
    intro l
    induction l with
    | nil => intro _; unfold frz.frzs; rfl
    | cons y ys ih =>
      intro h
      rw [List.all_cons, Bool.and_eq_true] at h
      unfold frz.frzs
      rw [ih h.2, frz_pers h.1]
  rw [this xs hp]
theorem rdF_ok {i : Nat} {d : D} {e' : Env} (s : Same G H) (r : ROs K G H true e σ F) (h : rdF i e = .ok d e') :
    ∃ G' F' v, σ[i]? = some (some v) ∧ Same G' H ∧ ROs K G' H true e' σ F' ∧ RP K G' d v ∧ Good G H F G' H F' := by
  have nh : gt e i ≠ .hole := fun z => by unfold rdF at h; rw [z] at h; cases h
  by_cases hp : pers (gt e i) = true
  · have e1 : rdF i e = .ok (gt e i) e := by
      unfold rdF
      cases q : gt e i with
      | hole => exact absurd q nh
      | lst b xs => cases b with
        | true => rw [q] at hp; cases hp
        | false => rfl
      | _ => rfl
    rw [e1] at h
    cases h
    obtain ⟨v, h1, _, h3⟩ := slotView s r nh (.inl hp)
    exact ⟨G, F, v, h1, s, r, h3 hp, Good.refl _ _ _⟩
  · have : ∃ xs, gt e i = .lst true xs := by
      cases q : gt e i with
      | hole => exact absurd q nh
      | lst b xs => cases b with
        | true => exact ⟨xs, rfl⟩
        | false => rw [q] at hp; exact absurd rfl hp
      | _ => rw [q] at hp; exact absurd rfl hp
    obtain ⟨xs, hx⟩ := this
    unfold rdF at h
    rw [hx] at h
    cases h
    obtain ⟨G', F', v, h1, h2, h3, h4, h5, _⟩ := slotShare s r hx
    exact ⟨G', F', v, h1, h2, h3, h4, h5⟩
theorem rdS_ok {i : Nat} {d : D} {e' : Env} (s : Same G H) (r : ROs K G H true e σ F) (h : rdS i e = .ok d e') :
    ∃ G' F' v, σ[i]? = some (some v) ∧ Same G' H ∧ ROs K G' H true e' σ F' ∧ RV K G' H d v ∧ Good G H F G' H F' ∧ (∀ b, G b = none → ¬ F b → G' b = none) := by
  have nh : gt e i ≠ .hole := fun z => by unfold rdS at h; rw [z] at h; cases h
  by_cases hp : pers (gt e i) = true
  · have e1 : rdS i e = .ok (gt e i) e := by
      unfold rdS
      cases q : gt e i with
      | hole => exact absurd q nh
      | lst b xs => cases b with
        | true => rw [q] at hp; cases hp
        | false => rfl
      | _ => rfl
    rw [e1] at h
    cases h
    obtain ⟨v, h1, _, h3⟩ := slotView s r nh (.inl hp)
    exact ⟨G, F, v, h1, s, r, (h3 hp).rv s, Good.refl _ _ _, fun _ h _ => h⟩
  · have : ∃ xs, gt e i = .lst true xs := by
      cases q : gt e i with
      | hole => exact absurd q nh
      | lst b xs => cases b with
        | true => exact ⟨xs, rfl⟩
        | false => rw [q] at hp; exact absurd rfl hp
      | _ => rw [q] at hp; exact absurd rfl hp
    obtain ⟨xs, hx⟩ := this
    unfold rdS at h
    rw [hx] at h
    by_cases ha : xs.all pers = true
    · have h' : (R.ok (.lst false xs) e : R D) = .ok d e' := by rw [← h]; exact (if_pos ha).symm
      cases h'
      obtain ⟨v, h1, h2, _⟩ := slotView s r nh (.inr ⟨xs, hx, ha⟩)
      rw [hx, frz_rfl ha] at h2
      exact ⟨G, F, v, h1, s, r, h2, Good.refl _ _ _, fun _ h _ => h⟩
    · have h' : (R.ok (.lst false (frz.frzs xs)) (e.set i (.lst false (frz.frzs xs))) : R D) = .ok d e' := by rw [← h]; exact (if_neg ha).symm
      cases h'
      obtain ⟨G', F', v, h1, h2, h3, h4, h5, _, h7⟩ := slotShare s r hx
      exact ⟨G', F', v, h1, h2, h3, h4.rv h2, h5, h7⟩
theorem rdS_nox {i : Nat} {c : Nat} {w : D} {e' : Env} : rdS i e ≠ .ex c w e' := fun h => by
  unfold rdS at h
  split at h
  · cases h
  · split at h <;> cases h
  · cases h
theorem rdF_nox {i : Nat} {c : Nat} {w : D} {e' : Env} : rdF i e ≠ .ex c w e' := fun h => by
  unfold rdF at h
  split at h <;> cases h

/-! ### what comes of an operation -/
theorem dis_emp {F : AS} : Dis F AS.emp := fun _ _ z => z
/-- a shared thing that stands -/
theorem Post.old {d : D} {v : V} {Q : V → Hp → Prop} (h : Post (rD K) K cl W σ G0 H0 F0 (.ok d e) Q) (s : Same G H) (r : ROs K G H true e σ F) (g : Good G0 H0 F0 G H F) (p : RP K G d v) : Q v H :=
  h G H F v AS.emp s r p.ro dis_emp (g.sub fun b z => z.elim id fun z => z.elim)
theorem same_upd {p : Addr} {o : HO} (n : H p = none) : Same H (upd H p o) := fun b u q => by rw [upd_ne (ne_of_none q n)]; exact q
/-- a new object beside: G may know it -/
theorem good_new {p : Addr} {o : HO} (s : Same G H) (g : Good G0 H0 F0 G H F) (n : H p = none) : Good G0 H0 F0 G (upd H p o) (AS.uni F fun b => b = p) := by
  have ht : F0 p ∨ H0 p = none := by
    by_cases h : F0 p
    · exact .inl h
    · cases q : H0 p with
      | none => exact .inr rfl
      | some u => exact absurd n (g.there (by rw [q]; exact fun z => nomatch z) h)
  refine ⟨g.mono, fun b u q nf => ?_, fun b z => ?_, g.out⟩
  · rcases g.keep b u q nf with z | ⟨h1, ps, z⟩
    · exact .inl (same_upd n b _ z)
    · exact .inr ⟨h1, ps, same_upd n b _ z⟩
  · rcases z with z | z
    · exact g.own b z
    · cases z
      exact ht
theorem ros_upd {al : Bool} {os : List (Option V)} {p : Addr} {o : HO} (r : ROs K G H al e os F) (n : H p = none) : ROs K G (upd H p o) al e os F :=
  r.frame (Same.refl _) fun b z => ⟨upd_ne (fun y => by
    obtain ⟨_, xs, q⟩ := r.own b z
    rw [y, n] at q; cases q), (r.own b z).1⟩
/-- a new tuple -/
theorem Post.newT {xs : List D} {vs : List V} {Q : V → Hp → Prop} (h : Post (rD K) K cl W σ G0 H0 F0 (.ok (.tup xs) e) Q) (s : Same G H) (r : ROs K G H true e σ F) (g : Good G0 H0 F0 G H F) (p : RPs K G xs vs) :
    ∀ a, H a = none → Q (.ref a) (upd H a (.tup vs)) := by
  intro a n
  have nG : G a = none := s.free n
  have sG : Same G (upd G a (.tup vs)) := same_upd nG
  have nF : ¬ F a := fun z => by
    obtain ⟨_, xs, q⟩ := r.own a z
    rw [n] at q; cases q
  refine h (upd G a (.tup vs)) (upd H a (.tup vs)) F (.ref a) AS.emp (fun b u q => ?_) ((ros_upd r n).frame sG fun b z => ⟨rfl, ?_⟩) (RP.ro ⟨a, vs, rfl, SqT.of upd_same, p.mono sG⟩) dis_emp ?_
  · by_cases z : b = a
    · subst z; rw [upd_same] at q ⊢; exact q
    · rw [upd_ne z] at q ⊢; exact s b u q
  · rw [upd_ne (show b ≠ a from fun y => nF (by rw [← y]; exact z))]; exact (r.own b z).1
  · have g' := (good_new (o := .tup vs) s g n)
    refine ⟨g'.mono.trans sG, g'.keep, fun b z => g'.own b (z.elim .inl fun z => z.elim), fun b h nf q => ?_⟩
    have nb : b ≠ a := fun y => by
      subst y
      exact absurd n (g.there h nf)
    rw [upd_ne nb]
    exact g.out b h nf q
/-- a new list -/
theorem Post.newL {xs : List D} {vs : List V} {Fx : AS} {Q : V → Hp → Prop} (h : Post (rD K) K cl W σ G0 H0 F0 (.ok (.lst true xs) e) Q) (s : Same G H) (r : ROs K G H true e σ F) (g : Good G0 H0 F0 G H (AS.uni F Fx)) (dj : Dis F Fx)
    (p : ROs K G H false xs (vs.map some) Fx) : ∀ a, H a = none → Q (.ref a) (upd H a (.lst vs)) := by
  intro a n
  have nG : G a = none := s.free n
  have nF : ∀ {F' : AS} {al : Bool} {os : List (Option V)} {ds : List D}, ROs K G H al ds os F' → ¬ F' a := fun r z => by
    obtain ⟨_, xs, q⟩ := r.own a z
    rw [n] at q; cases q
  refine h G (upd H a (.lst vs)) F (.ref a) (fun b => b = a ∨ Fx b) (s.trans (same_upd n)) (ros_upd r n) ⟨a, vs, Fx, rfl, upd_same, nG, nF p, ros_upd p n, fun b => Iff.rfl⟩ (fun b z q => ?_) ?_
  · rcases q with q | q
    · exact nF r (show F a from q ▸ z)
    · exact dj b z q
  · refine (good_new (o := .lst vs) s g n).sub fun b z => ?_
    rcases z with z | z | z
    · exact .inl (.inl z)
    · exact .inr z
    · exact .inl (.inr z)
theorem Post.newL' {xs : List D} {vs : List V} {Q : V → Hp → Prop} (h : Post (rD K) K cl W σ G0 H0 F0 (.ok (.lst true xs) e) Q) (s : Same G H) (r : ROs K G H true e σ F) (g : Good G0 H0 F0 G H F)
    (p : RPs K G xs vs) : ∀ a, H a = none → Q (.ref a) (upd H a (.lst vs)) :=
  h.newL s r (g.sub fun b z => z.elim id fun z => z.elim) dis_emp p.ros
end
end Tw

set_option Elab.async false
set_option linter.all false
set_option maxRecDepth 100000
set_option maxHeartbeats 2000000
/-! Tw4: the operations by values. -/
namespace Tw
open PySem L2
section
variable {K : PySem.W.Frag} {G H : Hp}
/-- the answer d: where it stands already, or new -/
def RetAll (K : PySem.W.Frag) (G H : Hp) (d : D) (Q : VK) : Prop :=
  (∀ v, RP K G d v → Q v H) ∧ (∀ xs vs, d = .tup xs → RPs K G xs vs → ∀ a, H a = none → Q (.ref a) (upd H a (.tup vs))) ∧
    (∀ xs vs, d = .lst true xs → RPs K G xs vs → ∀ a, H a = none → Q (.ref a) (upd H a (.lst vs)))
def U1 (K : PySem.W.Frag) (p : P1) : V → Hp → VK → Prop := fun x H Q => ∃ d d' G, Same G H ∧ RV K G H d x ∧ sem1 p d = some d' ∧ RetAll K G H d' Q
def U2 (K : PySem.W.Frag) (p : P2) : R2 := fun x y H Q => ∃ d1 d2 d' G, Same G H ∧ RV K G H d1 x ∧ RV K G H d2 y ∧ sem2 p d1 d2 = some d' ∧ RetAll K G H d' Q
theorem OpR.imp {X : Cx} {f : Value → Value → Sem Value} {r r' : R2} (h : OpR X f r) (i : ∀ x y H Q, r' x y H Q → r x y H Q) : OpR X f r' :=
  fun pins s σ H x y v u Q I rx ry q => h pins s σ H x y v u Q I rx ry (i x y H Q q)
theorem IxR.imp {X : Cx} {r r' : R2} (h : IxR X r) (i : ∀ x y H Q, r' x y H Q → r x y H Q) : IxR X r' :=
  fun a b pins s σ H x y v u Q I rx ry q => h a b pins s σ H x y v u Q I rx ry (i x y H Q q)
theorem CallR.imp {X : Cx} {f : Value} {r r' : List V → Hp → VK → Prop} (h : CallR X f r) (i : ∀ xs H Q, r' xs H Q → r xs H Q) : CallR X f r' :=
  fun pins s σ H xs us Q I rx q => h pins s σ H xs us Q I rx (i xs H Q q)

/-! ### reading what a view says -/
theorem RV.int {i : Int} {v : V} (h : RV K G H (.int i) v) : v = .int i := h
theorem RV.bl {i : Bool} {v : V} (h : RV K G H (.bl i) v) : v = .bl i := h
theorem RV.tup {xs : List D} {v : V} (s : Same G H) (h : RV K G H (.tup xs) v) : ∃ a vs, v = .ref a ∧ SqT K H a vs ∧ RPs K G xs vs := by
  obtain ⟨a, vs, e, h1, h2⟩ := h
  exact ⟨a, vs, e, sqT_same s h1, h2⟩
theorem RV.lst {o : Bool} {xs : List D} {v : V} (h : RV K G H (.lst o xs) v) : ∃ a vs, v = .ref a ∧ H a = some (.lst vs) ∧ RPs K G xs vs := h
theorem RPs.get : ∀ {xs : List D} {vs : List V} {i : Nat} {d : D}, RPs K G xs vs → xs[i]? = some d → ∃ v, vs[i]? = some v ∧ RP K G d v
  | [], _, i, d, _, h => by simp at h
  | x :: xs, _, 0, d, h, e => by
    obtain ⟨w, ws, e1, h1, h2⟩ := h
    subst e1
    have : x = d := by simpa using e
    subst this
    exact ⟨w, rfl, h1⟩
  | x :: xs, _, i + 1, d, h, e => by
    obtain ⟨w, ws, e1, h1, h2⟩ := h
    subst e1
    obtain ⟨v, h3, h4⟩ := RPs.get (i := i) (d := d) h2 (by simpa using e)
    exact ⟨v, by simpa using h3, h4⟩
theorem RPs.app : ∀ {xs ys : List D} {vs us : List V}, RPs K G xs vs → RPs K G ys us → RPs K G (xs ++ ys) (vs ++ us)
  | [], _, _, _, h, h' => by
    cases (show _ = [] from h)
    exact h'
  | x :: xs, _, _, _, h, h' => by
    obtain ⟨w, ws, e1, h1, h2⟩ := h
    subst e1
    exact ⟨w, _, rfl, h1, h2.app h'⟩
theorem RPs.drop : ∀ (n : Nat) {xs : List D} {vs : List V}, RPs K G xs vs → RPs K G (xs.drop n) (vs.drop n)
  | 0, _, _, h => h
  | n + 1, [], _, h => by
    cases (show _ = [] from h)
    exact (rfl : ([] : List V) = [])
  | n + 1, x :: xs, _, h => by
    obtain ⟨w, ws, e1, h1, h2⟩ := h
    subst e1
    exact RPs.drop n h2
theorem RPs.take : ∀ (n : Nat) {xs : List D} {vs : List V}, RPs K G xs vs → RPs K G (xs.take n) (vs.take n)
  | 0, _, _, h => (rfl : ([] : List V) = [])
  | n + 1, [], _, h => by
    cases (show _ = [] from h)
    exact (rfl : ([] : List V) = [])
  | n + 1, x :: xs, _, h => by
    obtain ⟨w, ws, e1, h1, h2⟩ := h
    subst e1
    exact ⟨w, _, rfl, h1, RPs.take n h2⟩
theorem RPs.rev : ∀ {xs : List D} {vs : List V}, RPs K G xs vs → RPs K G xs.reverse vs.reverse
  | [], _, h => by
    cases (show _ = [] from h)
    exact (rfl : ([] : List V) = [])
  | x :: xs, _, h => by
    obtain ⟨w, ws, e1, h1, h2⟩ := h
    subst e1
    rw [List.reverse_cons, List.reverse_cons]
    exact h2.rev.app ⟨w, [], rfl, h1, rfl⟩
theorem RPs.cut {xs : List D} {vs : List V} {lo hi : Option Int} (h : RPs K G xs vs) : RPs K G (cutD xs lo hi) (cutV vs lo hi) := by
  unfold cutD cutV
  rw [h.len]
  exact (h.drop _).take _
theorem RPs.rep {xs : List D} {vs : List V} (h : RPs K G xs vs) : ∀ k : Nat, RPs K G (List.replicate k xs).flatten (List.replicate k vs).flatten
  | 0 => (rfl : ([] : List V) = [])
  | k + 1 => by
    rw [List.replicate_succ, List.replicate_succ, List.flatten_cons, List.flatten_cons]
    exact h.app (h.rep k)
theorem RPs.ofInts : ∀ ns : List Int, RPs K G (ns.map D.int) (ns.map V.int)
  | [] => (rfl : ([] : List V) = [])
  | n :: ns => ⟨_, _, rfl, rfl, RPs.ofInts ns⟩
theorem RPs.toInts : ∀ {xs : List D} {vs : List V} {ns : List Int}, RPs K G xs vs → toInts xs = some ns → vs = ns.map V.int
  | [], _, _, h, e => by
    cases (show _ = [] from h)
    unfold Tw.toInts at e
    cases e
    rfl
  | x :: xs, _, _, h, e => by
    obtain ⟨w, ws, e1, h1, h2⟩ := h
    subst e1
    cases x with
    | int i =>
      unfold Tw.toInts at e
      cases q : Tw.toInts xs with
      | none => rw [q] at e; cases e
      | some ms =>
        rw [q] at e
        cases e
        rw [h2.toInts q, List.map_cons, show w = V.int i from h1]
    | _ => unfold Tw.toInts at e; cases e
theorem toInts_map : ∀ ns : List Int, toInts (ns.map D.int) = some ns
  | [] => rfl
  | n :: ns => by
    rw [List.map_cons]
    unfold toInts
    rw [toInts_map ns]; rfl

/-! ### sorted ints -/
theorem insI_perm (i : Int) : ∀ xs, (insI i xs).Perm (i :: xs)
  | [] => .refl _
  | j :: xs => by
    unfold insI
    by_cases h : i ≤ j
    · rw [if_pos h]
    · rw [if_neg h]
      exact ((insI_perm i xs).cons j).trans (.swap i j xs)
theorem sortI_perm : ∀ xs, (sortI xs).Perm xs
  | [] => .refl _
  | i :: xs => (insI_perm i _).trans ((sortI_perm xs).cons i)
theorem insI_sorted (i : Int) : ∀ xs : List Int, xs.Pairwise (· ≤ ·) → (insI i xs).Pairwise (· ≤ ·)
  | [], _ => List.pairwise_singleton _ _
  | j :: xs, h => by
    unfold insI
    obtain ⟨h1, h2⟩ := List.pairwise_cons.mp h
    by_cases q : i ≤ j
    · rw [if_pos q]
      exact List.pairwise_cons.mpr ⟨fun x hx => (List.mem_cons.mp hx).elim (fun e => e ▸ q) fun e => Int.le_trans q (h1 x e), h⟩
    · rw [if_neg q]
      refine List.pairwise_cons.mpr ⟨fun x hx => ?_, insI_sorted i xs h2⟩
      rcases List.mem_cons.mp ((insI_perm i xs).mem_iff.mp hx) with e | e
      · rw [e]; omega
      · exact h1 x e
theorem sortI_sorted : ∀ xs : List Int, (sortI xs).Pairwise (· ≤ ·)
  | [] => .nil
  | i :: xs => insI_sorted i _ (sortI_sorted xs)
theorem sorted_unique : ∀ {xs ys : List Int}, xs.Perm ys → xs.Pairwise (· ≤ ·) → ys.Pairwise (· ≤ ·) → xs = ys
  | [], ys, p, _, _ => (List.nil_perm.mp p).symm ▸ rfl
  | x :: xs, [], p, _, _ => absurd (List.perm_nil.mp p) (by simp)
  | x :: xs, y :: ys, p, h1, h2 => by
    obtain ⟨a1, a2⟩ := List.pairwise_cons.mp h1
    obtain ⟨b1, b2⟩ := List.pairwise_cons.mp h2
    have e : x = y := by
      have m1 : x ∈ y :: ys := p.mem_iff.mp List.mem_cons_self
      have m2 : y ∈ x :: xs := p.mem_iff.mpr List.mem_cons_self
      rcases List.mem_cons.mp m1 with e | m1
      · exact e
      · rcases List.mem_cons.mp m2 with e | m2
        · exact e.symm
        · have := b1 x m1
          have := a1 y m2
          omega
    subst e
    rw [sorted_unique ((List.perm_cons x).mp p) a2 b2]

/-! ### == -/
mutual
def toPy : D → PyData
  | .hole => .none
  | .non => .none
  | .bl b => .bool b
  | .int i => .int i
  | .str x => .str x
  | .tup xs => .tuple (toPys xs)
  | .lst _ xs => .list (toPys xs)
  | .scr _ => .none
  | .rng _ _ => .none
def toPys : List D → List PyData
  | [] => []
  | x :: xs => toPy x :: toPys xs
end
/-- no script within -/
def noS : D → Bool
  | .scr _ => false
  | .rng _ _ => false
  | .hole => false
  | .tup xs => noSs xs
  | .lst _ xs => noSs xs
  | _ => true
where noSs : List D → Bool
  | [] => true
  | x :: xs => noS x && noSs xs
mutual
theorem RP.dp (s : Same G H) : ∀ {d : D} {v : V}, RP K G d v → noS d = true → Dp K H v (toPy d)
  | .hole, _, h, _ => h.elim
  | .non, _, h, _ => by cases (show _ = V.non from h); exact .non
  | .bl _, _, h, _ => by cases (show _ = V.bl _ from h); exact .bl _
  | .int _, _, h, _ => by cases (show _ = V.int _ from h); exact .int _
  | .str _, _, h, _ => by cases (show _ = V.str _ from h); exact .str _
  | .tup xs, _, h, n => by
    obtain ⟨a, vs, e, h1, h2⟩ := h
    subst e
    exact .tup (sqT_same s h1) (RPs.dp s h2 n)
  | .lst o xs, _, h, n => by
    obtain ⟨_, a, vs, e, h1, h2⟩ := h
    subst e
    exact .lst (SqL.of (s _ _ h1)) (RPs.dp s h2 n)
  | .scr _, _, _, n => by cases n
  | .rng _ _, _, _, n => by cases n
theorem RPs.dp (s : Same G H) : ∀ {ds : List D} {vs : List V}, RPs K G ds vs → noS.noSs ds = true → DpAll K H vs (toPys ds)
  | [], _, h, _ => by cases (show _ = [] from h); exact .nil
  | x :: xs, _, h, n => by
    obtain ⟨w, ws, e, h1, h2⟩ := h
    subst e
    unfold noS.noSs at n
    rw [Bool.and_eq_true] at n
    exact .cons (RP.dp s h1 n.1) (RPs.dp s h2 n.2)
end
theorem RV.dp (s : Same G H) {d : D} {v : V} (h : RV K G H d v) (n : noS d = true) : Dp K H v (toPy d) := by
  cases d with
  | lst o xs =>
    obtain ⟨a, vs, e, h1, h2⟩ := h
    subst e
    exact .lst (SqL.of h1) (RPs.dp s h2 n)
  | _ => exact RP.dp s h n
mutual
theorem shD_noS : ∀ (n : Nat) (d : D), shD n d = true → noS d = true
  | n, .hole, h => by cases n <;> cases h
  | n, .scr _, h => by cases n <;> cases h
  | n, .rng _ _, h => by cases n <;> cases h
  | n, .non, _ => rfl
  | n, .bl _, _ => rfl
  | n, .int _, _ => rfl
  | n, .str _, _ => rfl
  | 0, .tup xs, h => by cases h
  | 0, .lst o xs, h => by cases h
  | n + 1, .tup xs, h => shDs_noS n xs h
  | n + 1, .lst o xs, h => shDs_noS n xs h
theorem shDs_noS : ∀ (n : Nat) (ds : List D), ds.all (shD n) = true → noS.noSs ds = true
  | n, [], _ => rfl
  | n, x :: xs, h => by
    rw [List.all_cons, Bool.and_eq_true] at h
    unfold noS.noSs
    rw [shD_noS n x h.1, shDs_noS n xs h.2]; rfl
end
mutual
theorem shD_lay : ∀ (n : Nat) (d : D), shD n d = true → (toPy d).canLay0 = true ∧ (toPy d).depth ≤ n
  | n, .hole, h => by cases n <;> cases h
  | n, .scr _, h => by cases n <;> cases h
  | n, .rng _ _, h => by cases n <;> cases h
  | n, .non, _ => ⟨rfl, Nat.zero_le _⟩
  | n, .bl _, _ => ⟨rfl, Nat.zero_le _⟩
  | n, .int _, _ => ⟨rfl, Nat.zero_le _⟩
  | n, .str x, h => ⟨by cases n <;> exact h, Nat.zero_le _⟩
  | 0, .tup xs, h => by cases h
  | 0, .lst o xs, h => by cases h
  | n + 1, .tup xs, h => let ⟨a, b⟩ := shDs_lay n xs h; ⟨a, Nat.succ_le_succ b⟩
  | n + 1, .lst o xs, h => let ⟨a, b⟩ := shDs_lay n xs h; ⟨a, Nat.succ_le_succ b⟩
theorem shDs_lay : ∀ (n : Nat) (ds : List D), ds.all (shD n) = true → PyData.canLayAll0 (toPys ds) = true ∧ PyData.depthAll (toPys ds) ≤ n
  | n, [], _ => ⟨rfl, Nat.zero_le _⟩
  | n, x :: xs, h => by
    rw [List.all_cons, Bool.and_eq_true] at h
    obtain ⟨a, b⟩ := shD_lay n x h.1
    obtain ⟨c, d⟩ := shDs_lay n xs h.2
    refine ⟨?_, ?_⟩
    · show (PyData.canLay0 (toPy x) && PyData.canLayAll0 (toPys xs)) = true
      rw [a, c]; rfl
    · show max _ _ ≤ n
      exact Nat.max_le.mpr ⟨b, d⟩
end
theorem shD_shaped {d : D} (h : shD 12 d = true) : SeqAt.shaped (toPy d) = true := by
  obtain ⟨a, b⟩ := shD_lay 12 d h
  unfold SeqAt.shaped
  rw [a, decide_eq_true (Nat.le_trans b (by decide))]; rfl
mutual
theorem eqv_eqD : ∀ (a b : D), noS a = true → noS b = true → PyData.eqv (toPy a) (toPy b) = eqD a b
  | .hole, _, h, _ => by cases h
  | .scr _, _, h, _ => by cases h
  | .rng _ _, _, h, _ => by cases h
  | .non, b, _, h => by cases b <;> first | rfl | (cases h; done)
  | .bl _, b, _, h => by cases b <;> first | rfl | (cases h; done)
  | .int _, b, _, h => by cases b <;> first | rfl | (cases h; done)
  | .str _, b, _, h => by cases b <;> first | rfl | (cases h; done)
  | .tup xs, b, h1, h => by
    cases b with
    | tup ys => exact eqvs_eqDs xs ys h1 h
    | hole => cases h
    | scr _ => cases h
    | rng _ _ => cases h
    | _ => rfl
  | .lst _ xs, b, h1, h => by
    cases b with
    | lst _ ys => exact eqvs_eqDs xs ys h1 h
    | hole => cases h
    | scr _ => cases h
    | rng _ _ => cases h
    | _ => rfl
theorem eqvs_eqDs : ∀ (as bs : List D), noS.noSs as = true → noS.noSs bs = true → PyData.eqvAll (toPys as) (toPys bs) = eqDs as bs
  | [], [], _, _ => rfl
  | [], _ :: _, _, _ => rfl
  | _ :: _, [], _, _ => rfl
  | a :: as, b :: bs, h1, h2 => by
    unfold noS.noSs at h1 h2
    rw [Bool.and_eq_true] at h1 h2
    show (PyData.eqv (toPy a) (toPy b) && PyData.eqvAll (toPys as) (toPys bs)) = (eqD a b && eqDs as bs)
    rw [eqv_eqD a b h1.1 h2.1, eqvs_eqDs as bs h1.2 h2.2]
end
end
end Tw

set_option Elab.async false
set_option linter.all false
set_option maxRecDepth 100000
set_option maxHeartbeats 2000000
/-! Tw4s: sorted of lists and tuples, of ints and of pairs of ints. -/
namespace Tw
open PySem L2
section
open PySem.W PySem.Calls PyProof.Rows Srt SrtO
variable {prog : Program} {w : World} {A : Around} {E : Value → Shared → Prop} {s : Shared}
theorem collectQ {Z : List Value → Shared → Prop} (a : Addr) {T : String} {ob : Obj} {its : Array Value} {n : Nat} (hT : T = "list" ∨ T = "tuple") (ho : s.heap.get? a = some ob) (hc : ob.cls = .type T) (hd : ob.data = .seq its n) (hz : its.size ≤ sizeLine)
    (hQ : ∀ g : Heap, (∀ b u, s.heap.get? b = some u → g.get? b = some u) → s.heap.objs.size ≤ g.objs.size → Z its.toList { s with heap := g }) : wpAny (model prog w) A (collect (.ref a)) Z E s := by
  unfold collect
  refine wpAny_bind (wpAny_runValue (codeAny_builtin F.entry_proto_collect (?_ : wpAny _ _ _ _ _ _)))
  rw [Around.under_plainId F.plain_proto_collect (_ : _)]
  show wpAny _ A.in1 (newList [] >>= fun m => again (.builtin "list.__iadd__" ⟨[m, .ref a], []⟩)) _ _ s
  refine wpAny_bind (wpAny_newObj_type (?_ : wpAny _ _ _ _ _ _))
  refine wpAny_pure ⟨plainId_quiet F.plain_list_iadd _, codeAny_builtin F.entry_list_iadd (?_ : wpAny _ _ _ _ _ _)⟩
  rw [Around.under_plainId F.plain_list_iadd (_ : _)]
  show wpAny _ A.in1 (Builtin.List.listExtendWith (.ref s.heap.objs.size) (.ref a) (.ref s.heap.objs.size)) _ _ (_ : Shared)
  have at0 : (s.heap.push { cls := .type "list", data := .seq ([] : List Value).toArray }).get? s.heap.objs.size = some { cls := .type "list", data := .seq #[] 0 } := (Heap.get?_push_size _ rfl)
  have at1 := Heap.get?_update_self (Obj.mapSeq (· ++ its)) at0 rfl
  have done0 : wpAny (model prog w) A (match Value.ref s.heap.objs.size with | Value.ref m => do (match (← load m).data with | Data.seq xs _ => pure xs.toList | _ => unsupported "internal:collect") | _ => unsupported "internal:collect") Z E { s with heap := (s.heap.push { cls := .type "list", data := .seq ([] : List Value).toArray }).update s.heap.objs.size (Obj.mapSeq (· ++ its)) } := by
    show wpAny _ A (load s.heap.objs.size >>= _) _ _ (_ : Shared)
    refine wpAny_bind (wpAny_load at1 (wpAny_pure ?_))
    have e0 : ((#[] : Array Value) ++ its).toList = its.toList := (by simp)
    show Z ((#[] : Array Value) ++ its).toList (_ : Shared)
    rw [e0]
    refine hQ _ (fun b u hb => (Heap.get?_update_other _ _ (Nat.ne_of_gt (Heap.lt_size hb))).trans (Heap.get?_push_of_some _ hb)) ?_
    rw [Heap.size_update, size_push']; exact Nat.le_succ _
  refine wpAny_mono (wpAny_extend_seq (hsz := hz) (A := A) (R := fun r t => r = .ok (.ret (.ref s.heap.objs.size)) ∧ t = { s with heap := (s.heap.push { cls := .type "list", data := .seq ([] : List Value).toArray }).update s.heap.objs.size (Obj.mapSeq (· ++ its)) })
    (s := { s with heap := s.heap.push { cls := .type "list", data := .seq ([] : List Value).toArray } }) _ a _ 0 hT at0 (Heap.get?_push_of_some _ ho) hc hd ⟨rfl, rfl⟩) (fun r t h => ?_) fun e t h => absurd h.1 (by simp)
  cases r with
  | done f => obtain ⟨e, rfl⟩ := h; cases e; exact done0
  | again c' => exact ⟨h.1, codeAny_mono h.2 fun r u hr => by obtain ⟨rfl, rfl⟩ := hr; exact done0⟩
theorem sorted_seqO {l : Addr} {o : Obj} {vs : List Value} {n : Nat} {T : String} {before : Value → Value → Bool} {Q : Value → Shared → Prop} (O : Swo before) (hT : T = "list" ∨ T = "tuple") (ho : s.heap.get? l = some o) (hc : o.cls = .type T) (hd : o.data = .seq vs.toArray n) (hz : vs.length ≤ sizeLine)
    (hS : 2 ≤ vs.length → ∀ (h₁ : Heap) (a : Addr), h₁.get? a = some (seqObj "list" vs.toArray 0) → (∀ b u, s.heap.get? b = some u → b ≠ a ∧ h₁.get? b = some u) → SortableO prog w A.in1.in1 { s with heap := h₁ } a vs before)
    (h : ∀ (h' : Heap) (d : Addr) (out : List Value), Srtd before out → Stb before out vs → (∀ b u, s.heap.get? b = some u → h'.get? b = some u) → s.heap.objs.size ≤ d → (∃ n, h'.get? d = some (seqObj "list" out.toArray n)) → Q (.ref d) { s with heap := h' }) :
    wpAny (model prog w) A (call (.builtin "sorted") [.ref l]) Q E s := by
  refine Calls.call_function_entry kind_sorted plain_sorted entry_sorted (args_sorted1 _) (?_ : wpAny (model prog w) _ (Builtin.«sorted» _) _ _ s)
  unfold Builtin.«sorted»
  refine wpAny_bind (m := checkCount "sorted" 1 1 _) (wpAny_pure (?_ : wpAny _ _ _ _ _ _))
  refine wpAny_bind (collectQ l hT ho hc hd (by rw [List.size_toArray]; exact hz) fun h1 k1 z1 => ?_)
  rw [show vs.toArray.toList = vs by simp]
  refine wpAny_bind (wpAny_newList (?_ : wpAny _ _ _ _ _ _) hz)
  have at1 : (h1.push (seqObj "list" vs.toArray 0)).get? h1.objs.size = some (seqObj "list" vs.toArray 0) := Heap.get?_push_size _ rfl
  have keep1 : ∀ b u, s.heap.get? b = some u → b ≠ h1.objs.size ∧ (h1.push (seqObj "list" vs.toArray 0)).get? b = some u := fun b u q =>
    ⟨Nat.ne_of_lt (Heap.lt_size (k1 b u q)), Heap.get?_push_of_some _ (k1 b u q)⟩
  show wpAny _ _ _ _ _ ({ s with heap := h1.push (seqObj "list" vs.toArray 0) } : Shared)
  refine wpAny_bind (wpAny_holding (wpAny_call_entry slot_list_sort ⟨_, at1, rfl⟩ entry_list_sort (list_sort_ord O at1 hz (fun two => hS two _ _ at1 keep1) fun out hs hb => (⟨_, rfl, ?_⟩ : ∃ _, _)) (args_list_sort _)))
  refine wpAny_pure (⟨_, rfl, h _ h1.objs.size out hs hb (fun b u q => ?_) ?_ ⟨_, (sortedHeap_at (vs := vs) (out := out.toArray) at1).choose_spec⟩⟩ : ∃ _, _)
  · obtain ⟨q1, q2⟩ := keep1 b u q
    exact (sortedHeap_old q1 (Heap.lt_size q2)).trans q2
  · exact z1
end

theorem perm_map_inv {α β : Type} {f : α → β} : ∀ {l : List α} {m : List β}, m.Perm (l.map f) → ∃ l' : List α, l'.Perm l ∧ m = l'.map f := by
  intro l m h
  generalize hk : l.map f = k at h
  induction h generalizing l with
  | nil => exact ⟨[], by rw [List.map_eq_nil_iff.mp hk], rfl⟩
  | @cons x m1 m2 _ ih =>
    obtain ⟨a, l1, rfl, h1, h2⟩ := List.map_eq_cons_iff.mp hk
    obtain ⟨l', p, e⟩ := ih h2
    exact ⟨a :: l', p.cons a, by rw [List.map_cons, h1, ← e]⟩
  | swap x y r =>
    obtain ⟨a, l1, rfl, h1, h2⟩ := List.map_eq_cons_iff.mp hk
    obtain ⟨b, l2, rfl, h3, h4⟩ := List.map_eq_cons_iff.mp h2
    exact ⟨b :: a :: l2, List.Perm.swap a b l2, by rw [List.map_cons, List.map_cons, h1, h3, h4]⟩
  | trans _ _ ih1 ih2 =>
    obtain ⟨l1, p1, e1⟩ := ih2 hk
    obtain ⟨l2, p2, e2⟩ := ih1 e1.symm
    exact ⟨l2, p2.trans p1, e2⟩
/-- sorted, of ints or of pairs of ints, in a list or a tuple -/
def rSortS (K : PySem.W.Frag) : List V → Hp → VK → Prop := fun vs H Q => ∃ a : Addr, vs = [V.ref a] ∧
  ((∃ ns : List Int, (SqL K H a (ns.map V.int) ∨ SqT K H a (ns.map V.int)) ∧ ∀ (ns' : List Int) (p : Addr), ns'.Perm ns → ns'.Pairwise (· ≤ ·) → H p = none → Q (.ref p) (upd H p (.lst (ns'.map V.int)))) ∨
   ∃ zl : List (V × Int × Int), (SqL K H a (zl.map (·.1)) ∨ SqT K H a (zl.map (·.1))) ∧ (∀ z ∈ zl, ∃ t, z.1 = .ref t ∧ SqT K H t [.int z.2.1, .int z.2.2]) ∧
     ∀ (zl' : List (V × Int × Int)) (p : Addr), zl'.Perm zl → zl'.Pairwise (fun x y => prLe x.2 y.2 = true) → H p = none → Q (.ref p) (upd H p (.lst (zl'.map (·.1)))))
def valO : V → Value
  | .ref t => .ref t
  | _ => .none
theorem vals_refs : ∀ {xs : List V} {us : List Value}, Vals xs us → (∀ x ∈ xs, ∃ t, x = .ref t) → us = xs.map valO
  | _, _, .nil, _ => rfl
  | x :: xs, _ :: _, .cons r t, h => by
    obtain ⟨a, e⟩ := h x List.mem_cons_self
    subst e
    cases r
    rw [vals_refs t fun y hy => h y (List.mem_cons_of_mem _ hy)]; rfl
section
open PySem.W PySem.Calls PyProof.Rows Srt SrtO
variable {X : Cx}
theorem pair_fun {h : Heap} {v : Value} {x y x' y' : Int} (p : IsPair h v x y) (q : IsPair h v x' y') : x = x' ∧ y = y' := by
  obtain ⟨a, o, t, u, n, e, ho, hc, hd⟩ := p
  obtain ⟨a', o', t', u', n', e', ho', hc', hd'⟩ := q
  rw [e] at e'
  cases e'
  rw [ho] at ho'
  cases ho'
  rw [hd] at hd'
  injection hd' with h1 h2
  have h3 := congrArg Array.toList h1
  simp at h3
  exact ⟨h3.1.1, h3.2.1⟩
open Classical in
noncomputable def pairK (h : Heap) (v : Value) : Int × Int := if q : ∃ p : Int × Int, IsPair h v p.1 p.2 then q.choose else (0, 0)
theorem pairK_eq {h : Heap} {v : Value} {p : Int × Int} (q : IsPair h v p.1 p.2) : pairK h v = p := by
  unfold pairK
  rw [dif_pos ⟨p, q⟩]
  have := (Exists.choose_spec (⟨p, q⟩ : ∃ p : Int × Int, IsPair h v p.1 p.2))
  obtain ⟨e1, e2⟩ := pair_fun this q
  exact Prod.ext e1 e2
theorem cr_sortS : CallR X (.builtin "sorted") (rSortS X.K) := by
  intro pins s σ H vs us Q I r h
  obtain ⟨a, rfl, h⟩ := h
  have seqAt : ∀ xs, (SqL X.K H a xs ∨ SqT X.K H a xs) → ∃ (its : List Value) (o : Obj) (n : Nat) (T : String), Vals xs its ∧ (T = "list" ∨ T = "tuple") ∧ s.heap.get? a = some o ∧ o.cls = .type T ∧ o.data = .seq its.toArray n ∧ xs.length ≤ sizeLine := by
    rintro xs (h | h)
    · obtain ⟨its, rv, ⟨o, n, e, hc, _, hd⟩, hz⟩ := I.list h
      exact ⟨its, o, n, "list", rv, .inl rfl, e, hc, hd, hz⟩
    · obtain ⟨its, rv, ⟨o, e, hc, n, hd⟩, hz⟩ := I.tuple h
      exact ⟨its, o, n, "tuple", rv, .inr rfl, e, hc, hd, hz⟩
  rw [Vals.ref1 r]
  rcases h with ⟨ns, hs, q⟩ | ⟨zl, hs, hz2, q⟩
  · obtain ⟨its, o, n, T, rv, hT, ho, hc, hd, hz⟩ := seqAt _ hs
    have hi := rv.ints
    refine sorted_seqO SrtO.swo_int hT ho hc hd (by rw [← rv.length]; exact hz) (fun h2 _ _ _ _ => SrtO.ints_sortable hi h2) fun h' d out h1 h2 kk hsz hn => ?_
    obtain ⟨k1, k2, k3⟩ := SrtO.ints_out hi h1 h2
    obtain ⟨n', hn⟩ := hn
    refine ⟨.ref d, upd H d (.lst ((out.map SrtO.iv).map V.int)), I.laid (t' := s.toks) kk hsz ⟨?_, out, n', vals_of_ints k1, hn⟩, rfl, q _ d k2 k3 (I.hok.fresh hsz)⟩
    rw [List.length_map, k2.length_eq]
    rw [List.length_map] at hz
    exact hz
  · obtain ⟨its, o, n, T, rv, hT, ho, hc, hd, hz⟩ := seqAt _ hs
    have hrefs : ∀ x ∈ zl.map (·.1), ∃ t, x = V.ref t := fun x hx => by
      obtain ⟨z, hz, rfl⟩ := List.mem_map.mp hx
      obtain ⟨t, e, _⟩ := hz2 z hz
      exact ⟨t, e⟩
    have hits : its = zl.map fun z => valO z.1 := by rw [vals_refs rv hrefs, List.map_map]; rfl
    have hp : ∀ z ∈ zl, IsPair s.heap (valO z.1) z.2.1 z.2.2 := fun z hz => by
      obtain ⟨t, e, ht⟩ := hz2 z hz
      obtain ⟨its2, r2, ⟨o2, e2, hc2, n2, hd2⟩, _⟩ := I.tuple ht
      obtain ⟨u1, u2, rfl, ri, rj⟩ := vals2 r2
      obtain ⟨t1, rfl⟩ := ri
      obtain ⟨t2, rfl⟩ := rj
      rw [e]
      exact ⟨t, o2, t1, t2, n2, rfl, e2, hc2, hd2⟩
    have hpv : ∀ v ∈ its, IsPair s.heap v (pairK s.heap v).1 (pairK s.heap v).2 := fun v hv => by
      rw [hits] at hv
      obtain ⟨z, hz, rfl⟩ := List.mem_map.mp hv
      rw [pairK_eq (p := z.2) (hp z hz)]
      exact hp z hz
    refine sorted_seqO (SrtO.swo_lex (pairK s.heap)) hT ho hc hd (by rw [← rv.length]; exact hz) (fun h2 h₁ a' ha' kk => ?_) fun h' d out h1 h2 kk hsz hn => ?_
    · refine SrtO.pairs_sortableO (s := { s with heap := h₁ }) (by omega) (fun v hm => (hpv v hm).keeps fun b u e _ => (kk b u e).2) fun u e => ?_
      have e' : some u = some (seqObj "list" its.toArray 0) := e.symm.trans ha'
      cases e'
      exact fun c => absurd (Value.type.inj c) (by decide)
    · obtain ⟨n', hn⟩ := hn
      have hpm : out.Perm (zl.map fun z => valO z.1) := hits ▸ h2.perm
      obtain ⟨zl', p1, e1⟩ := perm_map_inv hpm
      have hmem : ∀ z ∈ zl', z ∈ zl := fun z hz => p1.mem_iff.mp hz
      have hout : Vals (zl'.map (·.1)) out := by
        rw [e1]
        have : ∀ l : List (V × Int × Int), (∀ z ∈ l, z ∈ zl) → Vals (l.map (·.1)) (l.map fun z => valO z.1) := by
          intro l
          induction l with
          | nil => intro _; exact .nil
          | cons z l ih =>
            intro hl
            obtain ⟨t, e, _⟩ := hz2 z (hl z List.mem_cons_self)
            refine .cons ?_ (ih fun y hy => hl y (List.mem_cons_of_mem _ hy))
            show RelV z.1 (valO z.1)
            rw [e]
            exact (show RelV (.ref t) (.ref t) from rfl)
        exact this zl' hmem
      refine ⟨.ref d, upd H d (.lst (zl'.map (·.1))), I.laid (t' := s.toks) kk hsz ⟨?_, out, n', hout, hn⟩, rfl, q zl' d p1 ?_ (I.hok.fresh hsz)⟩
      · rw [List.length_map, p1.length_eq]
        rw [List.length_map] at hz
        exact hz
      · have hs1 : List.Pairwise (fun x y => SrtO.lexB (pairK s.heap y) (pairK s.heap x) = false) out := h1
        rw [e1, List.pairwise_map] at hs1
        refine List.Pairwise.imp_of_mem (fun {x y} hx hy hxy => ?_) hs1
        rw [pairK_eq (p := x.2) (hp x (hmem x hx)), pairK_eq (p := y.2) (hp y (hmem y hy))] at hxy
        have := SrtO.lexB_no.mp hxy
        unfold prLe
        simp
        omega
end

theorem prLe_tr {p q r : Int × Int} (h1 : prLe p q = true) (h2 : prLe q r = true) : prLe p r = true := by
  unfold prLe at *
  simp at *
  omega
theorem prLe_no {p q : Int × Int} (h : ¬ prLe p q = true) : prLe q p = true := by
  unfold prLe at *
  simp at *
  omega
theorem prLe_anti {p q : Int × Int} (h1 : prLe p q = true) (h2 : prLe q p = true) : p = q := by
  unfold prLe at *
  simp at *
  exact Prod.ext (by omega) (by omega)
theorem insP_perm (i : Int × Int) : ∀ xs, (insP i xs).Perm (i :: xs)
  | [] => .refl _
  | j :: xs => by
    unfold insP
    split
    · exact .refl _
    · exact ((insP_perm i xs).cons j).trans (.swap i j xs)
theorem sortP_perm : ∀ xs, (sortP xs).Perm xs
  | [] => .refl _
  | i :: xs => (insP_perm i _).trans ((sortP_perm xs).cons i)
theorem insP_sorted (i : Int × Int) : ∀ xs : List (Int × Int), xs.Pairwise (fun x y => prLe x y = true) → (insP i xs).Pairwise (fun x y => prLe x y = true)
  | [], _ => List.pairwise_singleton _ _
  | j :: xs, h => by
    unfold insP
    obtain ⟨h1, h2⟩ := List.pairwise_cons.mp h
    split
    · rename_i q
      exact List.pairwise_cons.mpr ⟨fun x hx => (List.mem_cons.mp hx).elim (fun e => e ▸ q) fun e => prLe_tr q (h1 x e), h⟩
    · rename_i q
      refine List.pairwise_cons.mpr ⟨fun x hx => ?_, insP_sorted i xs h2⟩
      rcases List.mem_cons.mp ((insP_perm i xs).mem_iff.mp hx) with e | e
      · rw [e]; exact prLe_no q
      · exact h1 x e
theorem sortP_sorted : ∀ xs : List (Int × Int), (sortP xs).Pairwise (fun x y => prLe x y = true)
  | [] => .nil
  | i :: xs => insP_sorted i _ (sortP_sorted xs)
theorem uniqueP : ∀ {xs ys : List (Int × Int)}, xs.Perm ys → xs.Pairwise (fun x y => prLe x y = true) → ys.Pairwise (fun x y => prLe x y = true) → xs = ys
  | [], ys, p, _, _ => (List.nil_perm.mp p).symm ▸ rfl
  | x :: xs, [], p, _, _ => absurd (List.perm_nil.mp p) (by simp)
  | x :: xs, y :: ys, p, h1, h2 => by
    obtain ⟨a1, a2⟩ := List.pairwise_cons.mp h1
    obtain ⟨b1, b2⟩ := List.pairwise_cons.mp h2
    have e : x = y := by
      have m1 : x ∈ y :: ys := p.mem_iff.mp List.mem_cons_self
      have m2 : y ∈ x :: xs := p.mem_iff.mpr List.mem_cons_self
      rcases List.mem_cons.mp m1 with e | m1
      · exact e
      · rcases List.mem_cons.mp m2 with e | m2
        · exact e.symm
        · exact prLe_anti (a1 y m2) (b1 x m1)
    subst e
    rw [uniqueP ((List.perm_cons x).mp p) a2 b2]
section
variable {K : PySem.W.Frag} {G : Hp}
theorem RPs.toPrs : ∀ {xs : List D} {vs : List V} {ps : List (Int × Int)}, RPs K G xs vs → Tw.toPrs xs = some ps → ∃ zl : List (V × Int × Int), vs = zl.map (·.1) ∧ ps = zl.map (·.2) ∧ ∀ z ∈ zl, ∃ t, z.1 = .ref t ∧ SqT K G t [.int z.2.1, .int z.2.2]
  | [], _, _, h, e => by
    cases (show _ = [] from h)
    cases e
    exact ⟨[], rfl, rfl, fun z hz => by cases hz⟩
  | x :: xs, _, ps, h, e => by
    obtain ⟨w, ws, e1, h1, h2⟩ := h
    subst e1
    unfold Tw.toPrs at e
    split at e
    · rename_i hh; cases hh
    · rename_i i j ys hh
      injection hh with hx hys
      subst hx
      subst hys
      cases q : Tw.toPrs xs with
      | none => rw [q] at e; cases e
      | some qs =>
        rw [q] at e
        cases e
        obtain ⟨zl, rfl, rfl, hz⟩ := RPs.toPrs h2 q
        obtain ⟨t, us, e2, h3, h4⟩ := h1
        obtain ⟨u1, us1, rfl, h5, h6⟩ := h4
        obtain ⟨u2, us2, rfl, h7, h8⟩ := h6
        cases (show us2 = [] from h8)
        cases (show u1 = V.int i from h5)
        cases (show u2 = V.int j from h7)
        refine ⟨(w, i, j) :: zl, rfl, rfl, fun z hz' => ?_⟩
        rcases List.mem_cons.mp hz' with rfl | hz'
        · exact ⟨t, e2, h3⟩
        · exact hz z hz'
    · cases e
theorem RPs.ofZl : ∀ {zl : List (V × Int × Int)}, (∀ z ∈ zl, ∃ t, z.1 = .ref t ∧ SqT K G t [.int z.2.1, .int z.2.2]) → RPs K G ((zl.map (·.2)).map prD) (zl.map (·.1))
  | [], _ => rfl
  | z :: zl, h => by
    obtain ⟨t, e, ht⟩ := h z List.mem_cons_self
    exact ⟨z.1, zl.map (·.1), rfl, ⟨t, [.int z.2.1, .int z.2.2], e, ht, ⟨_, _, rfl, rfl, ⟨_, _, rfl, rfl, rfl⟩⟩⟩, RPs.ofZl fun y hy => h y (List.mem_cons_of_mem _ hy)⟩
end
end Tw

set_option Elab.async false
set_option linter.all false
set_option maxRecDepth 100000
set_option maxHeartbeats 2000000
/-! Tw5: the rules of the operations. -/
namespace Tw
open PySem L2
section
variable {X : Cx}
theorem u_add : OpR X (binaryOp .Add) (U2 X.K .add) := by
  refine OpR.imp (OpR.or op_add (OpR.or op_catA op_cat)) fun x y H Q h => ?_
  obtain ⟨d1, d2, d', G, s, r1, r2, e, q⟩ := h
  cases d1 with
  | int i => cases d2 with
    | int j =>
      cases (show some (D.int (i + j)) = some d' from e)
      exact .inl ⟨i, j, r1, r2, q.1 _ rfl⟩
    | _ => cases e
  | tup xs => cases d2 with
    | tup ys =>
      have e : (if xs.length + ys.length < sizeLine then some (D.tup (xs ++ ys)) else none) = some d' := e
      by_cases hz : xs.length + ys.length < sizeLine
      · rw [if_pos hz] at e
        cases e
        obtain ⟨a, vs, e1, h1, h2⟩ := RV.tup s r1
        obtain ⟨b, us, e2, h3, h4⟩ := RV.tup s r2
        have l1 := h2.len
        have l2 := h4.len
        refine .inr (.inl ⟨a, b, vs, us, e1, e2, h1, h3, by omega, fun z => ?_, fun _ z => ?_, fun _ _ p hp => q.2.1 _ _ rfl (h2.app h4) p hp⟩)
        · have : xs = [] := List.eq_nil_of_length_eq_zero (by rw [← l1, z]; rfl)
          subst this
          obtain ⟨b', us', e2', h3', h4'⟩ := r2
          rw [e2] at e2'
          cases e2'
          exact q.1 _ ⟨b, us', rfl, h3', h4'⟩
        · have : ys = [] := List.eq_nil_of_length_eq_zero (by rw [← l2, z]; rfl)
          subst this
          obtain ⟨b', us', e2', h3', h4'⟩ := r1
          rw [e1] at e2'
          cases e2'
          exact q.1 _ ⟨a, us', rfl, h3', by rw [List.append_nil]; exact h4'⟩
      · rw [if_neg hz] at e; cases e
    | _ => cases e
  | lst o xs => cases d2 with
    | lst o' ys =>
      have e : (if xs.length + ys.length < sizeLine then some (D.lst true (xs ++ ys)) else none) = some d' := e
      by_cases hz : xs.length + ys.length < sizeLine
      · rw [if_pos hz] at e
        cases e
        obtain ⟨a, vs, e1, h1, h2⟩ := RV.lst r1
        obtain ⟨b, us, e2, h3, h4⟩ := RV.lst r2
        have l1 := h2.len
        have l2 := h4.len
        exact .inr (.inr ⟨a, b, vs, us, e1, e2, h1, h3, by omega, fun p hp => q.2.2 _ _ rfl (h2.app h4) p hp⟩)
      · rw [if_neg hz] at e; cases e
    | _ => cases e
  | _ => cases d2 <;> cases e
theorem u_sub : OpR X (binaryOp .Sub) (U2 X.K .sub) := by
  refine OpR.imp op_sub fun x y H Q h => ?_
  obtain ⟨d1, d2, d', G, s, r1, r2, e, q⟩ := h
  cases d1 with
  | int i => cases d2 with
    | int j =>
      cases (show some (D.int (i - j)) = some d' from e)
      exact ⟨i, j, r1, r2, q.1 _ rfl⟩
    | _ => cases e
  | _ => cases d2 <;> cases e
theorem u_mul : OpR X (binaryOp .Mult) (U2 X.K .mul) := by
  refine OpR.imp (OpR.or op_mul op_rep) fun x y H Q h => ?_
  obtain ⟨d1, d2, d', G, s, r1, r2, e, q⟩ := h
  cases d1 with
  | int i => cases d2 with
    | int j =>
      have e : (if mulOk i j = true then some (D.int (i * j)) else none) = some d' := e
      by_cases hz : mulOk i j = true
      · rw [if_pos hz] at e
        cases e
        refine .inl ⟨i, j, r1, r2, ?_, q.1 _ rfl⟩
        unfold mulOk at hz
        simp only [Bool.or_eq_true, Bool.and_eq_true, decide_eq_true_eq] at hz
        exact hz
      · rw [if_neg hz] at e; cases e
    | _ => cases e
  | lst o xs => cases d2 with
    | int k =>
      have e : (if (decide (-(2 ^ 60) < k) && decide (k < 2 ^ 60) && decide (xs.length * k.toNat < sizeLine)) = true then some (D.lst true (repD xs k)) else none) = some d' := e
      by_cases hz : (decide (-(2 ^ 60) < k) && decide (k < 2 ^ 60) && decide (xs.length * k.toNat < sizeLine)) = true
      · rw [if_pos hz] at e
        cases e
        simp only [Bool.and_eq_true, decide_eq_true_eq] at hz
        obtain ⟨⟨z1, z2⟩, z3⟩ := hz
        obtain ⟨a, vs, e1, h1, h2⟩ := RV.lst r1
        have l1 := h2.len
        refine .inr ⟨a, k, vs, e1, r2, h1, by omega, by omega, by rw [l1]; omega, fun p hp => q.2.2 _ _ rfl (h2.rep _) p hp⟩
      · rw [if_neg hz] at e; cases e
    | _ => cases e
  | _ => cases d2 <;> cases e
theorem u_fdiv : OpR X (binaryOp .FloorDiv) (U2 X.K .fdiv) := by
  refine OpR.imp op_fdiv fun x y H Q h => ?_
  obtain ⟨d1, d2, d', G, s, r1, r2, e, q⟩ := h
  cases d1 with
  | int i => cases d2 with
    | int j =>
      have e : (if (decide (0 < j) && decide (j < 1073741824)) = true then some (D.int (i / j)) else none) = some d' := e
      by_cases hz : (decide (0 < j) && decide (j < 1073741824)) = true
      · rw [if_pos hz] at e
        cases e
        simp only [Bool.and_eq_true, decide_eq_true_eq] at hz
        exact ⟨i, j, r1, r2, hz, q.1 _ rfl⟩
      · rw [if_neg hz] at e; cases e
    | _ => cases e
  | _ => cases d2 <;> cases e
theorem u_mod : OpR X (binaryOp .Mod) (U2 X.K .mod) := by
  refine OpR.imp op_mod fun x y H Q h => ?_
  obtain ⟨d1, d2, d', G, s, r1, r2, e, q⟩ := h
  cases d1 with
  | int i => cases d2 with
    | int j =>
      have e : (if 0 < j then some (D.int (i % j)) else none) = some d' := e
      by_cases hz : 0 < j
      · rw [if_pos hz] at e
        cases e
        exact ⟨i, j, r1, r2, hz, q.1 _ rfl⟩
      · rw [if_neg hz] at e; cases e
    | _ => cases e
  | _ => cases d2 <;> cases e
theorem u_pow : OpR X (binaryOp .Pow) (U2 X.K .pow) := by
  refine OpR.imp op_pow fun x y H Q h => ?_
  obtain ⟨d1, d2, d', G, s, r1, r2, e, q⟩ := h
  cases d1 with
  | int i => cases d2 with
    | int j =>
      have e : (if (decide (0 ≤ j) && decide (j ≤ 1000) && decide (i.natAbs < 2 ^ 60)) = true then some (D.int (powN i j.toNat)) else none) = some d' := e
      by_cases hz : (decide (0 ≤ j) && decide (j ≤ 1000) && decide (i.natAbs < 2 ^ 60)) = true
      · rw [if_pos hz] at e
        cases e
        simp only [Bool.and_eq_true, decide_eq_true_eq] at hz
        exact ⟨i, j, r1, r2, ⟨hz.1.1, by omega, Nat.lt_trans hz.2 (by decide)⟩, q.1 _ rfl⟩
      · rw [if_neg hz] at e; cases e
    | _ => cases e
  | _ => cases d2 <;> cases e
theorem u_eq (hu : X.A.units + 64 < cLine) : OpR X (compareOp .Eq) (U2 X.K .eq) := by
  refine OpR.imp (op_eqD hu) fun x y H Q h => ?_
  obtain ⟨d1, d2, d', G, s, r1, r2, e, q⟩ := h
  have e : (if (shD 12 d1 && shD 12 d2) = true then some (D.bl (eqD d1 d2)) else none) = some d' := by cases d1 <;> exact e
  by_cases hz : (shD 12 d1 && shD 12 d2) = true
  · rw [if_pos hz] at e
    cases e
    rw [Bool.and_eq_true] at hz
    have n1 := shD_noS _ _ hz.1
    have n2 := shD_noS _ _ hz.2
    refine ⟨_, _, r1.dp s n1, r2.dp s n2, shD_shaped hz.1, shD_shaped hz.2, ?_⟩
    rw [eqv_eqD d1 d2 n1 n2]
    exact q.1 _ rfl
  · rw [if_neg hz] at e; cases e
theorem u_ne (hu : X.A.units + 64 < cLine) : OpR X (compareOp .NotEq) (U2 X.K .ne) := by
  refine OpR.imp (op_neD hu) fun x y H Q h => ?_
  obtain ⟨d1, d2, d', G, s, r1, r2, e, q⟩ := h
  have e : (if (shD 12 d1 && shD 12 d2) = true then some (D.bl (!eqD d1 d2)) else none) = some d' := by cases d1 <;> exact e
  by_cases hz : (shD 12 d1 && shD 12 d2) = true
  · rw [if_pos hz] at e
    cases e
    rw [Bool.and_eq_true] at hz
    have n1 := shD_noS _ _ hz.1
    have n2 := shD_noS _ _ hz.2
    refine ⟨_, _, r1.dp s n1, r2.dp s n2, shD_shaped hz.1, shD_shaped hz.2, ?_⟩
    rw [eqv_eqD d1 d2 n1 n2]
    exact q.1 _ rfl
  · rw [if_neg hz] at e; cases e
theorem cmpU {op : CmpOp} {p : P2} {g : Int → Int → Bool} (h : OpR X (compareOp op) (rI0 fun i j => .bl (g i j))) (hp : ∀ d1 d2 d', sem2 p d1 d2 = some d' → ∃ i j, d1 = .int i ∧ d2 = .int j ∧ d' = .bl (g i j)) : OpR X (compareOp op) (U2 X.K p) := by
  refine OpR.imp h fun x y H Q h => ?_
  obtain ⟨d1, d2, d', G, s, r1, r2, e, q⟩ := h
  obtain ⟨i, j, rfl, rfl, rfl⟩ := hp d1 d2 d' e
  exact ⟨i, j, r1, r2, q.1 _ rfl⟩
theorem u_lt (hu : X.A.units + 64 < cLine) : OpR X (compareOp .Lt) (U2 X.K .lt) := by
  refine OpR.imp (OpR.or op_lt (op_ltT (by omega))) fun x y H Q h => ?_
  obtain ⟨d1, d2, d', G, s, r1, r2, e, q⟩ := h
  cases d1 with
  | int i => cases d2 with
    | int j => cases e; exact .inl ⟨i, j, r1, r2, q.1 _ rfl⟩
    | _ => cases e
  | tup xs => cases d2 with
    | tup ys =>
      have e : (match toInts xs, toInts ys with | some a, some b => some (D.bl (lexLt a b)) | _, _ => none) = some d' := e
      cases hx : toInts xs with
      | none => rw [hx] at e; cases e
      | some ns => cases hy : toInts ys with
        | none => rw [hx, hy] at e; cases e
        | some ms =>
          rw [hx, hy] at e
          cases e
          obtain ⟨a, vs, e1, h1, h2⟩ := RV.tup s r1
          obtain ⟨b, us, e2, h3, h4⟩ := RV.tup s r2
          rw [h2.toInts hx] at h1
          rw [h4.toInts hy] at h3
          exact .inr ⟨a, b, ns, ms, e1, e2, h1, h3, q.1 _ rfl⟩
    | _ => cases e
  | _ => cases d2 <;> cases e
theorem u_gt : OpR X (compareOp .Gt) (U2 X.K .gt) := cmpU op_gt fun d1 d2 d' e => by
  cases d1 with
  | int i => cases d2 with
    | int j => cases e; exact ⟨i, j, rfl, rfl, rfl⟩
    | _ => cases e
  | _ => cases d2 <;> cases e
theorem u_ge : OpR X (compareOp .GtE) (U2 X.K .ge) := cmpU op_ge fun d1 d2 d' e => by
  cases d1 with
  | int i => cases d2 with
    | int j => cases e; exact ⟨i, j, rfl, rfl, rfl⟩
    | _ => cases e
  | _ => cases d2 <;> cases e
theorem lexAt_le : ∀ (k : Nat) (ns ms : List Int) (i : Nat), min ns.length ms.length = i + k →
    Ob.lexAt (fun j => decide (ns.getD j 0 = ms.getD j 0)) (fun j => decide (ns.getD j 0 ≤ ms.getD j 0)) (decide (ns.length ≤ ms.length)) i k = lexLe (ns.drop i) (ms.drop i)
  | 0, ns, ms, i, h => by
    rw [Ob.lexAt_zero]
    by_cases q : ns.length ≤ ms.length
    · rw [List.drop_eq_nil_of_le (show ns.length ≤ i by omega), decide_eq_true q]; rfl
    · rw [List.drop_eq_nil_of_le (show ms.length ≤ i by omega), decide_eq_false q]
      have : ns.drop i ≠ [] := fun z => by
        have := congrArg List.length z
        rw [List.length_drop] at this
        simp at this
        omega
      cases z : ns.drop i with
      | nil => exact absurd z this
      | cons _ _ => rfl
  | k + 1, ns, ms, i, h => by
    rw [Ob.lexAt_succ]
    have h1 : i < ns.length := by omega
    have h2 : i < ms.length := by omega
    rw [List.drop_eq_getElem_cons h1, List.drop_eq_getElem_cons h2]
    have g1 : ns.getD i 0 = ns[i] := by rw [List.getD_eq_getElem?_getD, List.getElem?_eq_getElem h1]; rfl
    have g2 : ms.getD i 0 = ms[i] := by rw [List.getD_eq_getElem?_getD, List.getElem?_eq_getElem h2]; rfl
    unfold lexLe
    by_cases q : ns[i] = ms[i]
    · rw [if_pos (decide_eq_true (by rw [g1, g2]; exact q)), if_pos q, lexAt_le k ns ms (i + 1) (by omega)]
    · rw [if_neg (by rw [g1, g2]; simp [q]), if_neg q, g1, g2]
      by_cases z : ns[i] < ms[i]
      · rw [decide_eq_true z, decide_eq_true (Int.le_of_lt z)]
      · rw [decide_eq_false z, decide_eq_false (by omega)]
theorem u_le (hu : X.A.units + 64 < cLine) : OpR X (compareOp .LtE) (U2 X.K .le) := by
  refine OpR.imp (OpR.or op_le (op_leT (by omega))) fun x y H Q h => ?_
  obtain ⟨d1, d2, d', G, s, r1, r2, e, q⟩ := h
  cases d1 with
  | int i => cases d2 with
    | int j => cases e; exact .inl ⟨i, j, r1, r2, q.1 _ rfl⟩
    | _ => cases e
  | tup xs => cases d2 with
    | tup ys =>
      have e : (match toInts xs, toInts ys with | some a, some b => some (D.bl (lexLe a b)) | _, _ => none) = some d' := e
      cases hx : toInts xs with
      | none => rw [hx] at e; cases e
      | some ns => cases hy : toInts ys with
        | none => rw [hx, hy] at e; cases e
        | some ms =>
          rw [hx, hy] at e
          cases e
          obtain ⟨a, vs, e1, h1, h2⟩ := RV.tup s r1
          obtain ⟨b, us, e2, h3, h4⟩ := RV.tup s r2
          rw [h2.toInts hx] at h1
          rw [h4.toInts hy] at h3
          refine .inr ⟨a, b, ns, ms, e1, e2, h1, h3, ?_⟩
          rw [lexAt_le _ ns ms 0 (by omega)]
          exact q.1 _ rfl
    | _ => cases e
  | _ => cases d2 <;> cases e
theorem flat_rp {K : PySem.W.Frag} {G : Hp} {d : D} {v : V} (h : RP K G d v) (f : flatD d = true) : flatV v = true := by
  cases d with
  | non => cases (show v = .non from h); rfl
  | bl b => cases (show v = .bl b from h); rfl
  | int b => cases (show v = .int b from h); rfl
  | str b => cases (show v = .str b from h); rfl
  | _ => cases f
theorem flats_rp {K : PySem.W.Frag} {G : Hp} : ∀ {ds : List D} {vs : List V}, RPs K G ds vs → ds.all flatD = true → vs.all flatV = true
  | [], _, h, _ => by cases (show _ = [] from h); rfl
  | x :: xs, _, h, n => by
    obtain ⟨w, ws, e, h1, h2⟩ := h
    subst e
    rw [List.all_cons, Bool.and_eq_true] at n ⊢
    exact ⟨flat_rp h1 n.1, flats_rp h2 n.2⟩
theorem eq_rp {K : PySem.W.Frag} {G G' : Hp} {c d : D} {v w : V} (h : RP K G c v) (h' : RP K G' d w) (f : flatD c = true) (f' : flatD d = true) : eqV v w = eqD c d := by
  cases c with
  | non => cases (show v = .non from h); cases d with
    | non => cases (show w = .non from h'); rfl
    | bl b => cases (show w = .bl b from h'); rfl
    | int b => cases (show w = .int b from h'); rfl
    | str b => cases (show w = .str b from h'); rfl
    | _ => cases f'
  | bl a => cases (show v = .bl a from h); cases d with
    | non => cases (show w = .non from h'); rfl
    | bl b => cases (show w = .bl b from h'); rfl
    | int b => cases (show w = .int b from h'); rfl
    | str b => cases (show w = .str b from h'); rfl
    | _ => cases f'
  | int a => cases (show v = .int a from h); cases d with
    | non => cases (show w = .non from h'); rfl
    | bl b => cases (show w = .bl b from h'); rfl
    | int b => cases (show w = .int b from h'); rfl
    | str b => cases (show w = .str b from h'); rfl
    | _ => cases f'
  | str a => cases (show v = .str a from h); cases d with
    | non => cases (show w = .non from h'); rfl
    | bl b => cases (show w = .bl b from h'); rfl
    | int b => cases (show w = .int b from h'); rfl
    | str b => cases (show w = .str b from h'); rfl
    | _ => cases f'
  | _ => cases f
theorem any_rp {K : PySem.W.Frag} {G G' : Hp} {d : D} {w : V} (h' : RP K G' d w) (f' : flatD d = true) : ∀ {ds : List D} {vs : List V}, RPs K G ds vs → ds.all flatD = true → (vs.any fun y => eqV y w) = ds.any fun y => eqD y d
  | [], _, h, _ => by cases (show _ = [] from h); rfl
  | x :: xs, _, h, n => by
    obtain ⟨u, ws, e, h1, h2⟩ := h
    subst e
    rw [List.all_cons, Bool.and_eq_true] at n
    rw [List.any_cons, List.any_cons, eq_rp h1 h' n.1 f', any_rp h' f' h2 n.2]
theorem RV.rp {K : PySem.W.Frag} {G H : Hp} {d : D} {v : V} (h : RV K G H d v) (f : flatD d = true) : RP K G d v := by
  cases d with
  | lst _ _ => cases f
  | _ => exact h
theorem itemsR {K : PySem.W.Frag} {G H : Hp} {d : D} {v : V} {xs : List D} (s : Same G H) (h : RV K G H d v) (e : items d = some xs) : ∃ a vs, v = .ref a ∧ (SqL K H a vs ∨ SqT K H a vs) ∧ RPs K G xs vs := by
  cases d with
  | tup ys => cases e; obtain ⟨a, vs, e1, h1, h2⟩ := RV.tup s h; exact ⟨a, vs, e1, .inr h1, h2⟩
  | lst o ys => cases e; obtain ⟨a, vs, e1, h1, h2⟩ := RV.lst h; exact ⟨a, vs, e1, .inl (SqL.of h1), h2⟩
  | _ => cases e
/-- data of any depth in a tuple -/
def rInT (K : PySem.W.Frag) : R2 := fun x y H Q => ∃ d ds, Dp K H x d ∧ Dp K H y (.tuple ds) ∧ SeqAt.shaped d = true ∧ SeqAt.shaped (.tuple ds) = true ∧ Q (.bl (ds.any fun z => PyData.eqv z d)) H
def rNotInT (K : PySem.W.Frag) : R2 := fun x y H Q => ∃ d ds, Dp K H x d ∧ Dp K H y (.tuple ds) ∧ SeqAt.shaped d = true ∧ SeqAt.shaped (.tuple ds) = true ∧ Q (.bl (!ds.any fun z => PyData.eqv z d)) H
theorem op_inT (hu : X.A.units + 65 < cLine) : OpR X (compareOp .In) (rInT X.K) := by
  intro pins s σ H x y v u Q I rx ry h
  obtain ⟨d, ds, hd, he, sd, se, q⟩ := h
  obtain ⟨as, r1⟩ := Dp.reads I d x v hd rx
  obtain ⟨bs, r2⟩ := Dp.reads I (.tuple ds) y u he ry
  exact SeqAt.in_tuple_reads r2 r1 (SeqAt.canLay_of_shaped se) (SeqAt.canLay_of_shaped sd) (PyProof.Rows.room_in_shaped sd hu) ⟨.bl _, H, I, rfl, q⟩
theorem op_notInT (hu : X.A.units + 65 < cLine) : OpR X (compareOp .NotIn) (rNotInT X.K) := by
  intro pins s σ H x y v u Q I rx ry h
  obtain ⟨d, ds, hd, he, sd, se, q⟩ := h
  obtain ⟨as, r1⟩ := Dp.reads I d x v hd rx
  obtain ⟨bs, r2⟩ := Dp.reads I (.tuple ds) y u he ry
  exact SeqAt.notIn_tuple_reads r2 r1 (SeqAt.canLay_of_shaped se) (SeqAt.canLay_of_shaped sd) (PyProof.Rows.room_in_shaped sd hu) ⟨.bl _, H, I, rfl, q⟩
theorem any_toPy {d : D} (n : noS d = true) : ∀ {ys : List D}, noS.noSs ys = true → ((toPys ys).any fun z => PyData.eqv z (toPy d)) = ys.any fun y => eqD y d
  | [], _ => rfl
  | y :: ys, h => by
    have h : (noS y && noS.noSs ys) = true := h
    rw [Bool.and_eq_true] at h
    show (PyData.eqv (toPy y) (toPy d) || _) = _
    rw [eqv_eqD y d h.1 n, any_toPy n h.2, List.any_cons]
theorem u_in (hu : X.A.units + 65 < cLine) : OpR X (compareOp .In) (U2 X.K .inn) := by
  intro pins sh σ H x y v u Q I rx ry h
  obtain ⟨d1, d2, d', G, s, r1, r2, e, q⟩ := h
  have e : (match items d2 with | some ys => if (flatD d1 && ys.all flatD) = true then some (D.bl (ys.any fun y => eqD y d1)) else if (shD 12 d1 && shD 12 d2) = true then some (D.bl (ys.any fun y => eqD y d1)) else none | none => none) = some d' := by cases d1 <;> exact e
  cases hi : items d2 with
  | none => rw [hi] at e; cases e
  | some ys =>
    rw [hi] at e
    have e : (if (flatD d1 && ys.all flatD) = true then some (D.bl (ys.any fun y => eqD y d1)) else if (shD 12 d1 && shD 12 d2) = true then some (D.bl (ys.any fun y => eqD y d1)) else none) = some d' := e
    by_cases hz : (flatD d1 && ys.all flatD) = true
    · rw [if_pos hz] at e
      cases e
      rw [Bool.and_eq_true] at hz
      obtain ⟨a, vs, e1, h1, h2⟩ := itemsR s r2 hi
      refine op_in_seq pins sh σ H x y v u Q I rx ry ⟨a, vs, e1, h1, flat_rp (r1.rp hz.1) hz.1, flats_rp h2 hz.2, ?_⟩
      show Q (.bl (inV x vs)) H
      unfold inV
      rw [any_rp (r1.rp hz.1) hz.1 h2 hz.2]
      exact q.1 _ rfl
    · rw [if_neg hz] at e
      by_cases hz : (shD 12 d1 && shD 12 d2) = true
      · rw [if_pos hz] at e
        cases e
        rw [Bool.and_eq_true] at hz
        have n1 := shD_noS _ _ hz.1
        have n2 := shD_noS _ _ hz.2
        have hq := q.1 _ rfl
        cases d2 with
        | tup zs =>
          cases hi
          refine op_inT hu pins sh σ H x y v u Q I rx ry ⟨_, _, r1.dp s n1, r2.dp s n2, shD_shaped hz.1, shD_shaped hz.2, ?_⟩
          rw [any_toPy n1 n2]
          exact hq
        | lst o zs =>
          cases hi
          refine op_inD hu pins sh σ H x y v u Q I rx ry ⟨_, _, r1.dp s n1, r2.dp s n2, shD_shaped hz.1, shD_shaped hz.2, ?_⟩
          rw [any_toPy n1 n2]
          exact hq
        | _ => cases hi
      · rw [if_neg hz] at e; cases e
theorem u_notin (hu : X.A.units + 65 < cLine) : OpR X (compareOp .NotIn) (U2 X.K .notin) := by
  intro pins sh σ H x y v u Q I rx ry h
  obtain ⟨d1, d2, d', G, s, r1, r2, e, q⟩ := h
  have e : (match items d2 with | some ys => if (flatD d1 && ys.all flatD) = true then some (D.bl (!ys.any fun y => eqD y d1)) else if (shD 12 d1 && shD 12 d2) = true then some (D.bl (!ys.any fun y => eqD y d1)) else none | none => none) = some d' := by cases d1 <;> exact e
  cases hi : items d2 with
  | none => rw [hi] at e; cases e
  | some ys =>
    rw [hi] at e
    have e : (if (flatD d1 && ys.all flatD) = true then some (D.bl (!ys.any fun y => eqD y d1)) else if (shD 12 d1 && shD 12 d2) = true then some (D.bl (!ys.any fun y => eqD y d1)) else none) = some d' := e
    by_cases hz : (flatD d1 && ys.all flatD) = true
    · rw [if_pos hz] at e
      cases e
      rw [Bool.and_eq_true] at hz
      obtain ⟨a, vs, e1, h1, h2⟩ := itemsR s r2 hi
      refine op_notIn_seq pins sh σ H x y v u Q I rx ry ⟨a, vs, e1, h1, flat_rp (r1.rp hz.1) hz.1, flats_rp h2 hz.2, ?_⟩
      show Q (.bl (!inV x vs)) H
      unfold inV
      rw [any_rp (r1.rp hz.1) hz.1 h2 hz.2]
      exact q.1 _ rfl
    · rw [if_neg hz] at e
      by_cases hz : (shD 12 d1 && shD 12 d2) = true
      · rw [if_pos hz] at e
        cases e
        rw [Bool.and_eq_true] at hz
        have n1 := shD_noS _ _ hz.1
        have n2 := shD_noS _ _ hz.2
        have hq := q.1 _ rfl
        cases d2 with
        | tup zs =>
          cases hi
          refine op_notInT hu pins sh σ H x y v u Q I rx ry ⟨_, _, r1.dp s n1, r2.dp s n2, shD_shaped hz.1, shD_shaped hz.2, ?_⟩
          rw [any_toPy n1 n2]
          exact hq
        | lst o zs =>
          cases hi
          refine op_notInD hu pins sh σ H x y v u Q I rx ry ⟨_, _, r1.dp s n1, r2.dp s n2, shD_shaped hz.1, shD_shaped hz.2, ?_⟩
          rw [any_toPy n1 n2]
          exact hq
        | _ => cases hi
      · rw [if_neg hz] at e; cases e
theorem atI_rps {K : PySem.W.Frag} {G : Hp} {xs : List D} {vs : List V} {i : Int} {d : D} (h : RPs K G xs vs) (e : atI xs i = some d) : ∃ v, atI vs i = some v ∧ RP K G d v := by
  unfold atI at e ⊢
  rw [h.len]
  cases q : ixN xs.length i with
  | none => rw [q] at e; cases e
  | some j =>
    rw [q] at e
    exact h.get e
theorem u_ix : IxR X (U2 X.K .ix) := by
  refine IxR.imp ix_seq fun x y H Q h => ?_
  obtain ⟨d1, d2, d', G, s, r1, r2, e, q⟩ := h
  cases d1 with
  | tup xs => cases d2 with
    | int i =>
      obtain ⟨a, vs, e1, h1, h2⟩ := RV.tup s r1
      obtain ⟨v, h3, h4⟩ := atI_rps h2 e
      exact .inr (.inl ⟨a, vs, i, v, e1, r2, h1, h3, q.1 _ h4⟩)
    | _ => cases e
  | lst o xs => cases d2 with
    | int i =>
      obtain ⟨a, vs, e1, h1, h2⟩ := RV.lst r1
      obtain ⟨v, h3, h4⟩ := atI_rps h2 e
      exact .inl ⟨a, vs, i, v, e1, r2, SqL.of h1, h3, q.1 _ h4⟩
    | _ => cases e
  | scr xs => cases d2 with
    | int i =>
      obtain ⟨a, e1, h1⟩ := r1
      have e : (atI xs i).map D.int = some d' := e
      cases q' : atI xs i with
      | none => rw [q'] at e; cases e
      | some n =>
        rw [q'] at e
        cases e
        refine .inl ⟨a, _, i, .int n, e1, r2, s.seq h1, ?_, q.1 _ rfl⟩
        unfold atI at q' ⊢
        rw [List.length_map]
        cases q2 : ixN xs.length i with
        | none => rw [q2] at q'; cases q'
        | some j =>
          rw [q2] at q'
          show (xs.map V.int)[j]? = _
          rw [List.getElem?_map, show xs[j]? = some n from q']; rfl
    | _ => cases e
  | _ => cases d2 <;> cases e

/-! ### of one place -/
def tyN : Ty → String
  | .int => "int"
  | .bool => "bool"
  | .tuple => "tuple"
  | .list => "list"
  | .str => "str"
section
variable {K : PySem.W.Frag}
theorem kt_non (t : Ty) : PySem.W.kitOne K (.type "NoneType") (.type (tyN t)) = some (isTy t .non) := by cases t <;> exact kit_ty (by decide +kernel)
theorem kt_bl (t : Ty) : PySem.W.kitOne K (.type "bool") (.type (tyN t)) = some (isTy t (.bl true)) := by cases t <;> exact kit_ty (by decide +kernel)
theorem kt_int (t : Ty) : PySem.W.kitOne K (.type "int") (.type (tyN t)) = some (isTy t (.int 0)) := by cases t <;> exact kit_ty (by decide +kernel)
theorem kt_str (t : Ty) : PySem.W.kitOne K (.type "str") (.type (tyN t)) = some (isTy t (.str ⟨#[]⟩)) := by cases t <;> exact kit_ty (by decide +kernel)
theorem kt_tup (t : Ty) : PySem.W.kitOne K (.type "tuple") (.type (tyN t)) = some (isTy t (.tup [])) := by cases t <;> exact kit_ty (by decide +kernel)
theorem kt_lst (t : Ty) : PySem.W.kitOne K (.type "list") (.type (tyN t)) = some (isTy t (.lst true [])) := by cases t <;> exact kit_ty (by decide +kernel)
end
theorem tyx {K : PySem.W.Frag} {G H : Hp} {d : D} {v : V} (s : Same G H) (h : RV K G H d v) (nh : ∀ xs, d ≠ .scr xs) (nr : ∀ a b, d ≠ .rng a b) : ∃ ty, TyX K H v (.type ty) ∧ ∀ t, PySem.W.kitOne K (.type ty) (.type (tyN t)) = some (isTy t d) := by
  have sqt : ∀ {a : Addr} {vs : List V}, SqT K H a vs → TyX K H (.ref a) (.type "tuple") := fun {a vs} h => by
    rcases h with (h | ⟨o, h⟩) | ⟨o, its, n, h1, h2, _⟩
    · exact .base (.tup h)
    · exact .fTuple h
    · exact .kTuple h1 h2
  cases d with
  | hole => exact (show False from h).elim
  | non => cases (show v = .non from h); exact ⟨_, .base .non, kt_non⟩
  | bl b => cases (show v = .bl b from h); exact ⟨_, .base (.bl b), fun t => (kt_bl t).trans (by cases t <;> rfl)⟩
  | int b => cases (show v = .int b from h); exact ⟨_, .base (.int b), fun t => (kt_int t).trans (by cases t <;> rfl)⟩
  | str b => cases (show v = .str b from h); exact ⟨_, .base (.str b), fun t => (kt_str t).trans (by cases t <;> rfl)⟩
  | tup xs =>
    obtain ⟨a, vs, e1, h1, h2⟩ := RV.tup s h
    subst e1
    exact ⟨_, sqt h1, fun t => (kt_tup t).trans (by cases t <;> rfl)⟩
  | lst o xs =>
    obtain ⟨a, vs, e1, h1, h2⟩ := RV.lst h
    subst e1
    exact ⟨_, .base (.lst h1), fun t => (kt_lst t).trans (by cases t <;> rfl)⟩
  | scr xs => exact absurd rfl (nh xs)
  | rng a b => exact absurd rfl (nr a b)

/-! ### calls of built-ins with one value -/
def UC (K : PySem.W.Frag) (p : P1) : List V → Hp → VK → Prop := fun xs H Q => ∃ x, xs = [x] ∧ U1 K p x H Q
theorem u_len : CallR X (.builtin "len") (UC X.K .len) := by
  refine CallR.imp call_len_seq fun xs H Q h => ?_
  obtain ⟨x, rfl, d, d', G, s, r, e, q⟩ := h
  cases d with
  | tup ys =>
    obtain ⟨a, vs, e1, h1, h2⟩ := RV.tup s r
    subst e1
    cases e
    refine ⟨a, vs, rfl, .inr h1, ?_⟩
    rw [h2.len]; exact q.1 _ rfl
  | lst o ys =>
    obtain ⟨a, vs, e1, h1, h2⟩ := RV.lst r
    subst e1
    cases e
    refine ⟨a, vs, rfl, .inl (SqL.of h1), ?_⟩
    rw [h2.len]; exact q.1 _ rfl
  | scr ys =>
    obtain ⟨a, e1, h1⟩ := r
    subst e1
    cases e
    refine ⟨a, _, rfl, .inl (s.seq h1), ?_⟩
    rw [List.length_map]; exact q.1 _ rfl
  | _ => cases e
theorem u_tuple : CallR X (.type "tuple") (UC X.K .tuple) := by
  refine CallR.imp call_tuple_of fun xs H Q h => ?_
  obtain ⟨x, rfl, d, d', G, s, r, e, q⟩ := h
  cases d with
  | tup ys =>
    obtain ⟨a, vs, e1, h1, h2⟩ := RV.tup s r
    cases e
    exact ⟨a, vs, by rw [e1], .inr ⟨h1, q.1 _ (by rw [e1] at r; exact r)⟩⟩
  | lst o ys =>
    obtain ⟨a, vs, e1, h1, h2⟩ := RV.lst r
    cases e
    exact ⟨a, vs, by rw [e1], .inl ⟨SqL.of h1, fun p hp => q.2.1 _ _ rfl h2 p hp⟩⟩
  | _ => cases e
theorem u_list : CallR X (.type "list") (UC X.K .list) := by
  refine CallR.imp call_list_of fun xs H Q h => ?_
  obtain ⟨x, rfl, d, d', G, s, r, e, q⟩ := h
  cases d with
  | tup ys =>
    obtain ⟨a, vs, e1, h1, h2⟩ := RV.tup s r
    cases e
    exact ⟨a, vs, by rw [e1], .inr h1, fun p hp => q.2.2 _ _ rfl h2 p hp⟩
  | lst o ys =>
    obtain ⟨a, vs, e1, h1, h2⟩ := RV.lst r
    cases e
    exact ⟨a, vs, by rw [e1], .inl (SqL.of h1), fun p hp => q.2.2 _ _ rfl h2 p hp⟩
  | _ => cases e
theorem u_int : CallR X (.type "int") (UC X.K .int) := by
  refine CallR.imp call_int1 fun xs H Q h => ?_
  obtain ⟨x, rfl, d, d', G, s, r, e, q⟩ := h
  cases d with
  | int i => cases e; exact .inl ⟨i, by rw [show x = .int i from r], q.1 _ rfl⟩
  | bl b => cases e; exact .inr ⟨b, by rw [show x = .bl b from r], q.1 _ rfl⟩
  | _ => cases e
theorem u_neg : UnR X (unaryOp .USub) (U1 X.K .neg) := by
  intro pins s σ H x v Q I rx h
  obtain ⟨d, d', G, ss, r, e, q⟩ := h
  cases d with
  | int i => cases e; exact un_neg pins s σ H x v Q I rx ⟨i, r, q.1 _ rfl⟩
  | _ => cases e
theorem u_sorted : CallR X (.builtin "sorted") (UC X.K .sorted) := by
  refine CallR.imp cr_sortS fun xs H Q h => ?_
  obtain ⟨x, rfl, d, d', G, s, r, e, q⟩ := h
  have main : ∀ (a : Addr) (ys : List D) (vs : List V), (SqL X.K H a vs ∨ SqT X.K H a vs) → RPs X.K G ys vs → srtD ys = some d' → rSortS X.K [.ref a] H Q := by
    intro a ys vs hs h2 e
    unfold srtD at e
    cases hy : toInts ys with
    | some ns =>
      rw [hy] at e
      cases e
      rw [h2.toInts hy] at hs
      refine ⟨a, rfl, .inl ⟨ns, hs, fun ns' p pm pw hp => ?_⟩⟩
      rw [sorted_unique (pm.trans (sortI_perm ns).symm) pw (sortI_sorted ns)]
      exact q.2.2 _ _ rfl (RPs.ofInts _) p hp
    | none =>
      rw [hy] at e
      cases hp : toPrs ys with
      | none => rw [hp] at e; cases e
      | some ps =>
        rw [hp] at e
        cases e
        obtain ⟨zl, rfl, rfl, hz⟩ := h2.toPrs hp
        refine ⟨a, rfl, .inr ⟨zl, hs, fun z hz' => ?_, fun zl' p pm pw hp => ?_⟩⟩
        · obtain ⟨t, e, ht⟩ := hz z hz'
          exact ⟨t, e, sqT_same s ht⟩
        · have e1 : zl'.map (·.2) = sortP (zl.map (·.2)) := uniqueP ((pm.map _).trans (sortP_perm _).symm) (List.pairwise_map.mpr pw) (sortP_sorted _)
          have h3 : RPs X.K G ((sortP (zl.map (·.2))).map prD) (zl'.map (·.1)) := by
            rw [← e1]
            exact RPs.ofZl fun z hz' => hz z (pm.mem_iff.mp hz')
          exact q.2.2 _ _ rfl h3 p hp
  cases d with
  | lst o ys =>
    obtain ⟨a, vs, e1, h1, h2⟩ := RV.lst r
    subst e1
    exact main a ys vs (.inl (SqL.of h1)) h2 e
  | tup ys =>
    obtain ⟨a, vs, e1, h1, h2⟩ := RV.tup s r
    subst e1
    exact main a ys vs (.inr h1) h2 e
  | _ => cases e
theorem leastI_le : ∀ (ns : List Int) (i m : Int), (m = i ∨ m ∈ ns) → (m ≤ i ∧ ∀ x ∈ ns, m ≤ x) → leastI i ns = m
  | [], i, m, h, _ => by rcases h with h | h <;> first | exact h.symm | cases h
  | j :: ns, i, m, h, k => by
    unfold leastI
    have kj := k.2 j List.mem_cons_self
    refine leastI_le ns _ m ?_ ⟨?_, fun x hx => k.2 x (List.mem_cons_of_mem _ hx)⟩
    · rcases h with h | h
      · left
        by_cases z : j < i
        · omega
        · rw [if_neg z]; exact h
      · rcases List.mem_cons.mp h with h | h
        · left
          by_cases z : j < i
          · rw [if_pos z]; exact h
          · rw [if_neg z]; omega
        · exact .inr h
    · by_cases z : j < i
      · rw [if_pos z]; exact kj
      · rw [if_neg z]; exact k.1
theorem mostI_ge : ∀ (ns : List Int) (i m : Int), (m = i ∨ m ∈ ns) → (i ≤ m ∧ ∀ x ∈ ns, x ≤ m) → mostI i ns = m
  | [], i, m, h, _ => by rcases h with h | h <;> first | exact h.symm | cases h
  | j :: ns, i, m, h, k => by
    unfold mostI
    have kj := k.2 j List.mem_cons_self
    refine mostI_ge ns _ m ?_ ⟨?_, fun x hx => k.2 x (List.mem_cons_of_mem _ hx)⟩
    · rcases h with h | h
      · left
        by_cases z : j > i
        · omega
        · rw [if_neg z]; exact h
      · rcases List.mem_cons.mp h with h | h
        · left
          by_cases z : j > i
          · rw [if_pos z]; exact h
          · rw [if_neg z]; omega
        · exact .inr h
    · by_cases z : j > i
      · rw [if_pos z]; exact kj
      · rw [if_neg z]; exact k.1
theorem u_min (hc : X.calm = true) : CallR X (.builtin "min") (UC X.K .min) := by
  refine CallR.imp (cr_min hc) fun xs H Q h => ?_
  obtain ⟨x, rfl, d, d', G, s, r, e, q⟩ := h
  cases d with
  | lst o ys =>
    obtain ⟨a, vs, e1, h1, h2⟩ := RV.lst r
    subst e1
    have e : (match toInts ys with | some (n :: ns) => some (D.int (leastI n ns)) | _ => none) = some d' := e
    cases hy : toInts ys with
    | none => rw [hy] at e; cases e
    | some ns => cases ns with
      | nil => rw [hy] at e; cases e
      | cons n ns =>
        rw [hy] at e
        cases e
        rw [h2.toInts hy] at h1
        refine ⟨a, n :: ns, rfl, SqL.of h1, by simp, fun m hm hle => ?_⟩
        rw [← leastI_le ns n m (List.mem_cons.mp hm) ⟨hle n List.mem_cons_self, fun x hx => hle x (List.mem_cons_of_mem _ hx)⟩]
        exact q.1 _ rfl
  | _ => cases e
theorem u_max (hc : X.calm = true) : CallR X (.builtin "max") (UC X.K .max) := by
  refine CallR.imp (cr_max hc) fun xs H Q h => ?_
  obtain ⟨x, rfl, d, d', G, s, r, e, q⟩ := h
  cases d with
  | lst o ys =>
    obtain ⟨a, vs, e1, h1, h2⟩ := RV.lst r
    subst e1
    have e : (match toInts ys with | some (n :: ns) => some (D.int (mostI n ns)) | _ => none) = some d' := e
    cases hy : toInts ys with
    | none => rw [hy] at e; cases e
    | some ns => cases ns with
      | nil => rw [hy] at e; cases e
      | cons n ns =>
        rw [hy] at e
        cases e
        rw [h2.toInts hy] at h1
        refine ⟨a, n :: ns, rfl, SqL.of h1, by simp, fun m hm hle => ?_⟩
        rw [← mostI_ge ns n m (List.mem_cons.mp hm) ⟨hle n List.mem_cons_self, fun x hx => hle x (List.mem_cons_of_mem _ hx)⟩]
        exact q.1 _ rfl
  | _ => cases e
theorem u_sum (hc : X.calm = true) : CallR X (.builtin "sum") (UC X.K .sum) := by
  refine CallR.imp (cr_sum hc) fun xs H Q h => ?_
  obtain ⟨x, rfl, d, d', G, s, r, e, q⟩ := h
  cases d with
  | lst o ys =>
    obtain ⟨a, vs, e1, h1, h2⟩ := RV.lst r
    subst e1
    have e : (toInts ys).map (fun ns => D.int ns.sum) = some d' := e
    cases hy : toInts ys with
    | none => rw [hy] at e; cases e
    | some ns =>
      rw [hy] at e
      cases e
      rw [h2.toInts hy] at h1
      exact ⟨a, ns, rfl, SqL.of h1, q.1 _ rfl⟩
  | _ => cases e
/-- isinstance of a value and a type -/
theorem u_isTy (t : Ty) : CallR X (.builtin "isinstance") (fun xs H Q => ∃ x, xs = [x, .ty (tyN t)] ∧ U1 X.K (.isTy t) x H Q) := by
  refine CallR.imp call_isi fun xs H Q h => ?_
  obtain ⟨x, rfl, d, d', G, s, r, e, q⟩ := h
  have ns : ∀ ys, d ≠ .scr ys := fun ys z => by subst z; cases t <;> cases e
  have nr : ∀ a b, d ≠ .rng a b := fun a b z => by subst z; cases t <;> cases e
  have e : some (D.bl (isTy t d)) = some d' := by
    cases d with
    | scr ys => exact absurd rfl (ns ys)
    | rng a b => exact absurd rfl (nr a b)
    | _ => cases t <;> exact e
  cases e
  obtain ⟨ty, h1, h2⟩ := tyx s r ns nr
  exact ⟨x, .ty (tyN t), .type ty, .type (tyN t), _, rfl, .ty _, h1, h2 t, q.1 _ rfl⟩
def UC2 (K : PySem.W.Frag) (p : P2) : List V → Hp → VK → Prop := fun xs H Q => ∃ x y, xs = [x, y] ∧ U2 K p x y H Q
theorem u_min2 (hc : X.calm = true) : CallR X (.builtin "min") (UC2 X.K .min) := by
  refine CallR.imp (call_min2 hc) fun xs H Q h => ?_
  obtain ⟨x, y, rfl, d1, d2, d', G, s, r1, r2, e, q⟩ := h
  cases d1 with
  | int i => cases d2 with
    | int j => cases e; exact ⟨i, j, by rw [show x = .int i from r1, show y = .int j from r2], q.1 _ rfl⟩
    | _ => cases e
  | _ => cases d2 <;> cases e
theorem u_max2 (hc : X.calm = true) : CallR X (.builtin "max") (UC2 X.K .max) := by
  refine CallR.imp (call_max2 hc) fun xs H Q h => ?_
  obtain ⟨x, y, rfl, d1, d2, d', G, s, r1, r2, e, q⟩ := h
  cases d1 with
  | int i => cases d2 with
    | int j => cases e; exact ⟨i, j, by rw [show x = .int i from r1, show y = .int j from r2], q.1 _ rfl⟩
    | _ => cases e
  | _ => cases d2 <;> cases e
end
end Tw

set_option Elab.async false
set_option linter.all false
set_option maxRecDepth 100000
set_option maxHeartbeats 2000000
/-! Tw6: which expression of the text a piece stands for. -/
namespace Tw
open PySem L2
open Classical (propDecidable)

/-- what is known of a def's text: its slots, its scope, the built-in names that stand, the module's constants, the defs by number; cc: which cells are its own -/
structure Sg where
  N : List Str
  sc : Scope
  bl : List Str
  gl : List (Str × D)
  fn : List Str
  er : List Str
  cc : Str → Bool
  hot : Bool := false
  sb : List (Nat × Nat × Bool) := []

def notStar : Expr → Bool
  | .Starred .. => false
  | _ => true
theorem starEach_cons {a : Expr} {es : List Expr} {env : PySem.Env} (h : notStar a = true) : starEach (a :: es) env = (false, eval a env) :: starEach es env := by
  cases a <;> first | rfl | cases h
theorem backTo_any {pos : Pos} {env : PySem.Env} : ∀ {es : List Expr}, es.all notStar = true → (backTo pos (starEach es env)).any (·.1) = false
  | [], _ => rfl
  | a :: es, h => by
    rw [List.all_cons, Bool.and_eq_true] at h
    rw [starEach_cons h.1]
    show (false || (backTo pos (starEach es env)).any (·.1)) = false
    rw [backTo_any h.2]; rfl
/-- an index that is no slice -/
def plainIx : Expr → Bool
  | .Slice .. => false
  | _ => true
theorem plainIx_ok {b : Expr} (h : plainIx b = true) : PlainIx b := fun o i => by
  cases b <;> first | rfl | cases h
def okName (x : Str) : Bool := decide (x ≠ "__debug__") && decide (x ≠ "__classdict__") && decide (x ≠ "__name__")
def visB (sc : Scope) (x : Str) : Bool := decide (sc.names.lookup x = some .local) || decide (sc.names.lookup x = some .cell) || decide (sc.names.lookup x = some .free)
theorem visB_ok {sc : Scope} {x : Str} (h : visB sc x = true) : Vis sc x := by
  unfold visB at h
  simp only [Bool.or_eq_true, decide_eq_true_eq] at h
  rcases h with (h | h) | h
  · exact .inl h
  · exact .inr (.inl h)
  · exact .inr (.inr h)
def gloB (S : Sg) (x : Str) : Bool := decide (S.sc.names.lookup x = some .globalImplicit) && okName x
def bltB (S : Sg) (x : Str) : Bool := gloB S x && S.bl.contains x
def slotB (S : Sg) (i : Nat) (x : Str) : Bool := decide (S.N[i]? = some x) && visB S.sc x && okName x
/-- a slot that may be stored to -/
def tgB (S : Sg) (i : Nat) (x : Str) : Bool := decide (S.N[i]? = some x) && (decide (S.sc.names.lookup x = some .local) || (decide (S.sc.names.lookup x = some .cell) && S.cc x))

def conB : D → Const → Bool
  | .non, .none => true
  | .bl b, .bool c => b == c
  | .int i, .int j => decide (i = j)
  | .str x, .str y => decide (x = y)
  | _, _ => false
/-- f(a), f a built-in -/
def call1 (S : Sg) (x : Str) : Expr → Option Expr
  | .Call (.Name y _) [a] [] _ => if (decide (y = x) && bltB S x && notStar a) = true then some a else none
  | _ => none
def call2 (S : Sg) (x : Str) : Expr → Option (Expr × Expr)
  | .Call (.Name y _) [a, b] [] _ => if (decide (y = x) && bltB S x && notStar a && notStar b) = true then some (a, b) else none
  | _ => none
def fNeg : Expr → Option Expr
  | .UnaryOp .USub a _ => some a
  | _ => none
def fIs (o : CmpOp) : Expr → Option Expr
  | .Compare a [op] [.Constant .none _ _] _ => if op = o then some a else none
  | _ => none
def fTy (S : Sg) (t : Ty) (e : Expr) : Option Expr := match call2 S "isinstance" e with
  | some (a, .Name y _) => if (decide (y = Str.ofString (tyN t)) && bltB S y) = true then some a else none
  | _ => none
def form1 (S : Sg) : P1 → Expr → Option Expr
  | .len, e => call1 S "len" e
  | .tuple, e => call1 S "tuple" e
  | .list, e => call1 S "list" e
  | .int, e => call1 S "int" e
  | .sorted, e => call1 S "sorted" e
  | .min, e => if S.hot then none else call1 S "min" e
  | .max, e => if S.hot then none else call1 S "max" e
  | .sum, e => if S.hot then none else call1 S "sum" e
  | .neg, e => fNeg e
  | .isN, e => fIs .Is e
  | .notN, e => fIs .IsNot e
  | .isTy t, e => fTy S t e
def binB : P2 → Operator → Bool
  | .add, .Add => true
  | .sub, .Sub => true
  | .mul, .Mult => true
  | .fdiv, .FloorDiv => true
  | .mod, .Mod => true
  | .pow, .Pow => true
  | _, _ => false
def cmpB : P2 → CmpOp → Bool
  | .eq, .Eq => true
  | .ne, .NotEq => true
  | .lt, .Lt => true
  | .le, .LtE => true
  | .gt, .Gt => true
  | .ge, .GtE => true
  | .inn, .In => true
  | .notin, .NotIn => true
  | _, _ => false
def noSet : Expr → Bool
  | .Set .. => false
  | _ => true
def form2 (S : Sg) : P2 → Expr → Option (Expr × Expr)
  | p, .BinOp a op b _ => if binB p op then some (a, b) else none
  | p, .Compare a [op] [b] _ => if cmpB p op && noSet b then some (a, b) else none
  | .ix, .Subscript a b _ => if plainIx b then some (a, b) else none
  | .min, e => if S.hot then none else call2 S "min" e
  | .max, e => if S.hot then none else call2 S "max" e
  | _, _ => none
theorem mark_ok {op : CmpOp} {b : Expr} (h : noSet b = true) : behindInMarks op b = false := by
  cases b <;> first | rfl | cases h

mutual
def okTg (S : Sg) : Tg → Expr → Bool
  | .nm i, .Name x _ => tgB S i x
  | .tp ts, .Tuple es _ _ => !S.hot && okTgs S ts es
  | _, _ => false
def okTgs (S : Sg) : List Tg → List Expr → Bool
  | [], [] => true
  | t :: ts, e :: es => notStar e && okTg S t e && okTgs S ts es
  | _, _ => false
end
def noSetIt : Expr → Bool := noSet
/-- no a if c else b -/
def noIf : Expr → Bool
  | .IfExp .. => false
  | _ => true
/-- within a comprehension -/
def Sg.inner (S : Sg) (scope : Scope) : Sg := { S with sc := relS scope S.sc, cc := fun x => scope.names.lookup x == some .cell }

mutual
/-- the target's slots are among these -/
def tgIn (vs : List Nat) : Tg → Bool
  | .nm i => vs.contains i
  | .tp ts => tgsIn vs ts
def tgsIn (vs : List Nat) : List Tg → Bool
  | [] => true
  | t :: ts => tgIn vs t && tgsIn vs ts
end
def conEq : D → D → Bool
  | .int i, .int j => decide (i = j)
  | .str i, .str j => decide (i = j)
  | _, _ => false
def okO (a : IE) (f : Expr → Bool) (o : Option Expr) : Bool := match o with
  | some e => f e
  | none => match a with
    | .con .hole => true
    | _ => false
def okVB : Option D → Expr → Bool
  | some d, .Constant c _ _ => conB d c
  | none, .List [] _ => true
  | _, _ => false
mutual
/-- e is the piece's text -/
def okE : IE → Sg → Expr → Bool
  | .slot i, S, .Name x _ => slotB S i x
  | .con d, S, .Constant c _ _ => conB d c
  | .glob x d, S, .Name y _ => decide (x = y) && gloB S x && S.gl.any fun p => decide (p.1 = x) && conEq p.2 d
  | .p1 p a, S, e => match form1 S p e with
    | some ea => okE a S ea
    | none => false
  | .p2 p a b, S, e => match form2 S p e with
    | some (ea, eb) => okE a S ea && okE b S eb
    | none => false
  | .sl a lo hi, S, .Subscript ea (.Slice l h none _) _ => okE a S ea && okO lo (okE lo S) l && okO hi (okE hi S) h
  | .rev a, S, .Subscript ea (.Slice none none (some (.UnaryOp .USub (.Constant c _ _) _)) _) _ => conB (.int 1) c && okE a S ea
  | .tup es, S, .Tuple xs _ _ => decide (xs.length ≤ 1000) && okEs es S xs
  | .lst es, S, .List xs _ => decide (xs.length ≤ 1000) && okEs es S xs
  | .one a, S, .BoolOp _ [e] _ => noIf e && okE a S e
  | .and a b, S, .BoolOp .And (e :: e' :: r) pos => noIf e && okE a S e && okE b S (.BoolOp .And (e' :: r) pos)
  | .or a b, S, .BoolOp .Or (e :: e' :: r) pos => noIf e && okE a S e && okE b S (.BoolOp .Or (e' :: r) pos)
  | .not a, S, .UnaryOp .Not e _ => noIf e && okE a S e
  | .ife c a b, S, .IfExp ec ea eb _ => noIf ec && okE c S ec && okE a S ea && okE b S eb
  | .chain p q a b c, S, .Compare ea [op, op'] [eb, ec] _ => cmpB p op && cmpB q op' && noSet ec && okE a S ea && okE b S eb && okE c S ec
  | .call f as, S, .Call (.Name x _) (e :: es) [] _ => !S.hot && decide (S.fn[f]? = some x) && gloB S x && okEs as S (e :: es)
  | .comp own tg it cs elt, S, .ListComp e' [⟨tg', it', ifs, a⟩] scope _ => !S.hot && decide (a = 0) && blkC S.N S.sc scope own && decide ((own.map (·.2)).Nodup) && tgIn (own.map (·.2)) tg && noSet it' && okIt it S tg' it' && okTg (S.inner scope) tg tg' && okC cs (S.inner scope) ifs && okE elt (S.inner scope) e'
  | .compS own tg i cs elt, S, .ListComp e' [⟨tg', .Name y _, ifs, a⟩] scope _ => !S.hot && decide (a = 0) && blkC S.N S.sc scope own && decide ((own.map (·.2)).Nodup) && tgIn (own.map (·.2)) tg && slotB S i y && okTg (S.inner scope) tg tg' && okC cs (S.inner scope) ifs && okE elt (S.inner scope) e'
  | .rgl t as, S, .Call (.Name y _) [.Call (.Name r _) es [] _] [] _ => !S.hot && decide (y = if t then "tuple" else "list") && bltB S y && decide (r = "range") && bltB S "range" && decide (1 ≤ es.length) && decide (es.length ≤ 2) && okEs as S es
  | .rngv as, S, .Call (.Name r _) es [] _ => decide (r = "range") && bltB S "range" && decide (1 ≤ es.length) && decide (es.length ≤ 2) && okEs as S es
  | .at x i, S, .Subscript (.Name y _) ei _ => slotB S x y && plainIx ei && okE i S ei
  | .vw p x i b, S, .Compare (.Subscript (.Name y _) ei _) [op] [eb] _ => cmpB p op && slotB S x y && plainIx ei && okE i S ei && okVB b eb
  | .popAt x path i, S, .Call (.Attribute o m ap) [e] [] cp => decide (m = "pop") && decide (ap.endLine = cp.line) && notStar e && okPath path S x o && okE i S e
  | .pop x path, S, .Call (.Attribute o m ap) [] [] cp => decide (m = "pop") && decide (ap.endLine = cp.line) && okPath path S x o
  | _, _, _ => false
def okEs : IEs → Sg → List Expr → Bool
  | .nil, S, [] => true
  | .cons a as, S, e :: es => notStar e && okE a S e && okEs as S es
  | _, _, _ => false
/-- the ifs of a comprehension: none or one -/
def okC : IEs → Sg → List Expr → Bool
  | .nil, S, [] => true
  | .cons a .nil, S, [e] => noIf e && okE a S e
  | _, _, _ => false
/-- a slot, or an item of one .. -/
def okPath : IEs → Sg → Nat → Expr → Bool
  | .nil, S, x, .Name y _ => slotB S x y
  | .cons i .nil, S, x, .Subscript (.Name y _) e _ => slotB S x y && plainIx e && okE i S e
  | _, _, _, _ => false
def okIt : It → Sg → Expr → Expr → Bool
  | .seq a, S, tg, e => okE a S e
  | .rng as, S, tg, .Call (.Name r _) es [] _ => decide (r = "range") && bltB S "range" && okEs as S es && decide (1 ≤ es.length) && decide (es.length ≤ 3)
  | _, _, _, _ => false
end
end Tw

set_option Elab.async false
set_option linter.all false
set_option maxRecDepth 100000
set_option maxHeartbeats 2000000
/-! Tw7: operands, places, arguments. -/
namespace Tw
open PySem L2
open Classical (propDecidable)

/-- a def's promise: its meaning over plain data -/
def spF (K : PySem.W.Frag) (cl : Nat → Addr) (g : List D → R D) : Sp := fun vs H Q E => ∃ ds G F, Same G H ∧ ROs K G H false ds (vs.map some) F ∧
  Post (rD K) K cl (fun c d _ H => E c d H) (vs.map some) G H F (g ds) Q

/-- what holds where the piece is run -/
structure Kx (S : Sg) (T : Fns) (cl : Nat → Addr) (X : Cx) (W : WX) : Prop where
  nd : X.N.Nodup
  N : X.N = S.N
  sc : X.env.scope = S.sc
  calm : S.hot = false → X.calm = true
  un : X.A.units + 65 < cLine
  bl : ∀ x ∈ S.bl, X.mg x = none
  gl : ∀ p ∈ S.gl, ∀ d, conEq p.2 d = true → ∃ u v, X.mg p.1 = some u ∧ RelV v u ∧ ∀ G, RP X.K G d v
  cc : ∀ x, S.cc x = true → X.fn x = true
  fn : S.hot = false → ∀ (f : Nat) (x : Str), S.fn[f]? = some x → ∃ (k : Nat) (a : Addr) (fd : FuncData) (ps : List Str), Room k X.A ∧ X.mg x = some (.ref a) ∧ PySem.W.keepIn X.K (.ref a) = true ∧ Binds X.K fd ps [] ∧
    FnOk X.prog X.w X.K X.mg X.base (L2.CX X.prog X.w) k a fd ps (spF X.K cl (T.cf f))
  tk : Takes X W

section
variable {S : Sg} {T : Fns} {cl : Nat → Addr} {X : Cx} {W : WX} {σ : St} {G H G0 H0 : Hp} {F F0 Fv : AS} {e : Env} {α β : Type} {rep : Hp → Hp → α → β → AS → Prop}
theorem PE.imp {e : Expr} {t t' : TE} (h : PE X e t) (i : ∀ σ H Q, t' σ H Q → t σ H Q) : PE X e t' := ⟨fun pins s σ H Q I q => h.run pins s σ H Q I (i σ H Q q)⟩
theorem PT.imp {e : Expr} {t t' : TT} (h : PT X e t) (i : ∀ σ H Q, t' σ H Q → t σ H Q) : PT X e t' := ⟨fun pins s σ H Q I q => h.run pins s σ H Q I (i σ H Q q)⟩
theorem PA.imp {es : List Expr} {t t' : TA} (h : PA X es t) (i : ∀ σ H Q, t' σ H Q → t σ H Q) : PA X es t' := ⟨fun pos pins s σ H Q I q => h.run pos pins s σ H Q I (i σ H Q q)⟩

theorem Kx.gl_ (k : Kx S T cl X W) {x : Str} (h : gloB S x = true) : Gl X x ∧ (x == ("__debug__" : Str)) = false ∧ x ≠ "__name__" := by
  unfold gloB okName at h
  simp only [Bool.and_eq_true, decide_eq_true_eq] at h
  refine ⟨?_, beq_eq_false_iff_ne.mpr h.2.1.1, h.2.2⟩
  show X.env.scope.names.lookup x = some .globalImplicit
  rw [k.sc]; exact h.1
theorem Kx.bl_ (k : Kx S T cl X W) {x : Str} (h : bltB S x = true) : Gl X x ∧ (x == ("__debug__" : Str)) = false ∧ x ≠ "__name__" ∧ X.mg x = none := by
  unfold bltB at h
  rw [Bool.and_eq_true] at h
  obtain ⟨a, b, c⟩ := k.gl_ h.1
  exact ⟨a, b, c, k.bl x (by simpa using h.2)⟩
theorem Kx.slot (k : Kx S T cl X W) {i : Nat} {x : Str} {pos : Pos} (h : slotB S i x = true) : PE X (.Name x pos) (tVar i) := by
  unfold slotB okName at h
  simp only [Bool.and_eq_true, decide_eq_true_eq] at h
  exact pe_var (by rw [k.N]; exact h.1.1) (by rw [k.sc]; exact visB_ok h.1.2) (beq_eq_false_iff_ne.mpr h.2.1.1) (beq_eq_false_iff_ne.mpr h.2.1.2)
theorem Kx.tg (k : Kx S T cl X W) {i : Nat} {x : Str} (h : tgB S i x = true) : X.N[i]? = some x ∧ Loc X.env.scope x ∧ (X.fn x = true ∨ X.env.scope.names.lookup x = some .local) := by
  unfold tgB at h
  simp only [Bool.and_eq_true, Bool.or_eq_true, decide_eq_true_eq] at h
  rw [k.N, k.sc]
  refine ⟨h.1, ?_, ?_⟩
  · rcases h.2 with q | q
    · exact .inl q
    · exact .inr q.1
  · rcases h.2 with q | q
    · exact .inr q
    · exact .inl (k.cc x q.2)

/-! ### operands -/
/-- an operand's reading: a slot is read last -/
def tO (K : PySem.W.Frag) (cl : Nat → Addr) (W : WX) (T : Fns) (a : IE) : TE := match a.isSlot with
  | some i => tVar i
  | none => tE K cl W (ev T a)
def OpRep (K : PySem.W.Frag) (σ : St) (G : Hp) (a : IE) (d : D) (v : V) : Prop := match a.isSlot with
  | some i => σ[i]? = some (some v)
  | none => RP K G (frz d) v
theorem OpRep.mono {a : IE} {d : D} {v : V} {G' : Hp} {K : PySem.W.Frag} (s : Same G G') (h : OpRep K σ G a d v) : OpRep K σ G' a d v := by
  unfold OpRep at h ⊢
  cases q : a.isSlot with
  | some i => rw [q] at h; exact h
  | none => rw [q] at h; exact RP.mono s h
theorem isSlot_some {a : IE} {i : Nat} (h : a.isSlot = some i) : a = .slot i := by
  cases a <;> first | (cases h; rfl) | cases h
theorem pre_of {a : IE} {f : Env → R D} (h : a.isSlot = none) : pre a f e = f e := by
  cases a <;> first | (cases h; done) | rfl
theorem fin_of {a : IE} {d : D} (h : a.isSlot = none) : fin a d e = .ok (frz d) e := by
  cases a <;> first | (cases h; done) | rfl
theorem opnd {K : PySem.W.Frag} {a : IE} {f : D → Env → R α} {Q : β → Hp → Prop} {N : V → Hp → Prop} (s : Same G H) (r : ROs K G H true e σ F) (h : Post rep K cl W σ G H F ((pre a (ev T a) e).bind f) Q)
    (k : ∀ d e1 G1 H1 F1 v, Same G1 H1 → ROs K G1 H1 true e1 σ F1 → OpRep K σ G1 a d v → Good G H F G1 H1 F1 → Post rep K cl W σ G1 H1 F1 (f d e1) Q → N v H1) : tO K cl W T a σ H N := by
  unfold tO
  cases q : a.isSlot with
  | some i =>
    have := isSlot_some q
    subst this
    have h : Post rep K cl W σ G H F ((match gt e i with | .hole => R.no | _ => R.ok .hole e : R D).bind f) Q := h
    have nh : gt e i ≠ .hole := fun z => by rw [z] at h; exact h
    have e1 : ((match gt e i with | .hole => R.no | _ => R.ok .hole e : R D)) = R.ok .hole e := by
      cases z : gt e i <;> first | exact absurd z nh | rfl
    rw [e1] at h
    obtain ⟨o, F1, F0, ho, hr, _, _, _⟩ := r.at (gt_ne nh)
    rcases hr with ⟨_, z, _⟩ | hr
    · exact absurd z nh
    obtain ⟨v, ev⟩ := hr.val
    subst ev
    exact ⟨v, ho, k .hole e G H F v s r ho (Good.refl _ _ _) h⟩
  | none =>
    rw [pre_of q] at h
    refine ⟨G, e, F, s, r, h.first fun d e1 G1 H1 F1 v Fv _ s1 r1 rv dj g h1 => ?_⟩
    obtain ⟨G2, s2, r2, p2, g2, _⟩ := share s1 r1 rv dj g
    exact k d e1 G2 H1 F1 v s2 r2 (by unfold OpRep; rw [q]; exact p2) g2 (h1.shift g2 fun _ z => z)
theorem finStep {K : PySem.W.Frag} {a : IE} {d : D} {v : V} {f : D → Env → R α} {Q : β → Hp → Prop} (s : Same G H) (r : ROs K G H true e σ F) (o : OpRep K σ G a d v) (h : Post rep K cl W σ G H F ((fin a d e).bind f) Q) :
    ∃ d' e' G' F', Same G' H ∧ ROs K G' H true e' σ F' ∧ RV K G' H d' v ∧ Good G H F G' H F' ∧ Same G G' ∧ Post rep K cl W σ G' H F' (f d' e') Q := by
  unfold OpRep at o
  cases q : a.isSlot with
  | some i =>
    rw [q] at o
    have := isSlot_some q
    subst this
    have h : Post rep K cl W σ G H F ((rdS i e).bind f) Q := h
    cases z : rdS i e with
    | ok d' e' =>
      obtain ⟨G', F', w, h1, h2, h3, h4, h5, _⟩ := rdS_ok s r z
      rw [z] at h
      have o : σ[i]? = some (some v) := o
      rw [h1] at o
      cases o
      exact ⟨d', e', G', F', h2, h3, h4, h5, h5.mono, h.shift h5 fun _ z => z⟩
    | ex c w e' => exact absurd z rdS_nox
    | no => rw [z] at h; exact h.elim
  | none =>
    rw [q] at o
    rw [fin_of q] at h
    exact ⟨frz d, e, G, F, s, r, RP.rv s o, Good.refl _ _ _, Same.refl _, h⟩

/-- the answer of an operation, for its rule -/
theorem Post.ret {K : PySem.W.Frag} {d : D} {Q : VK} (h : Post (rD K) K cl W σ G0 H0 F0 (.ok d e) Q) (s : Same G H) (r : ROs K G H true e σ F) (g : Good G0 H0 F0 G H F) : RetAll K G H d Q :=
  ⟨fun v p => h.old s r g p, fun xs vs e p => by subst e; exact h.newT s r g p, fun xs vs e p => by subst e; exact h.newL' s r g p⟩
theorem Post.of_ {K : PySem.W.Frag} {o : Option α} {Q : β → Hp → Prop} (h : Post rep K cl W σ G H F (R.of o e) Q) : ∃ d, o = some d ∧ Post rep K cl W σ G H F (.ok d e) Q := by
  cases o with
  | some d => exact ⟨d, rfl, h⟩
  | none => exact h.elim
/-- one operand, an operation -/
theorem ask1 {K : PySem.W.Frag} {p : P1} {a : IE} {Q : VK} (h : tE K cl W (ev T (.p1 p a)) σ H Q) : tO K cl W T a σ H fun x H1 => U1 K p x H1 Q := by
  obtain ⟨G, e, F, s, r, h⟩ := h
  have h : Post (rD K) K cl W σ G H F ((pre a (ev T a) e).bind fun d e1 => (fin a d e1).bind fun d e2 => R.of (sem1 p d) e2) Q := h
  refine opnd s r h fun d e1 G1 H1 F1 v s1 r1 o1 g1 h1 => ?_
  obtain ⟨d', e', G', F', s2, r2, rv, g2, _, h2⟩ := finStep s1 r1 o1 h1
  obtain ⟨d'', eq, h3⟩ := h2.of_
  exact ⟨d', d'', G', s2, rv, eq, h3.ret s2 r2 (Good.refl _ _ _)⟩
theorem ask2 {K : PySem.W.Frag} {p : P2} {a b : IE} {Q : VK} (h : tE K cl W (ev T (.p2 p a b)) σ H Q) : tOp (U2 K p) (tO K cl W T a) (tO K cl W T b) σ H Q := by
  obtain ⟨G, e, F, s, r, h⟩ := h
  have h : Post (rD K) K cl W σ G H F ((pre a (ev T a) e).bind fun d e1 => (pre b (ev T b) e1).bind fun d' e2 => (fin a d e2).bind fun d e3 => (fin b d' e3).bind fun d' e4 => R.of (sem2 p d d') e4) Q := h
  refine opnd s r h fun d e1 G1 H1 F1 v s1 r1 o1 g1 h1 => ?_
  refine opnd s1 r1 h1 fun d2 e2 G2 H2 F2 w s2 r2 o2 g2 h2 => ?_
  obtain ⟨d3, e3, G3, F3, s3, r3, rv3, g3, m3, h3⟩ := finStep s2 r2 (o1.mono g2.mono) h2
  obtain ⟨d4, e4, G4, F4, s4, r4, rv4, g4, m4, h4⟩ := finStep s3 r3 (o2.mono m3) h3
  obtain ⟨d5, eq, h5⟩ := h4.of_
  exact ⟨d3, d4, d5, G4, s4, rv3.mono m4, rv4, eq, h5.ret s4 r4 (Good.refl _ _ _)⟩

/-! ### slices -/
def US (K : PySem.W.Frag) : V → Option Int → Option Int → Hp → VK → Prop := fun x lo hi H Q => ∃ d d' G, Same G H ∧ RV K G H d x ∧ semSl d lo hi = some d' ∧ RetAll K G H d' Q
theorem SlR.imp {r r' : V → Option Int → Option Int → Hp → VK → Prop} (h : SlR X r) (i : ∀ x lo hi H Q, r' x lo hi H Q → r x lo hi H Q) : SlR X r' :=
  fun pins s σ H x v vl vu lo hi sl Q I rx hs pl pu q => h pins s σ H x v vl vu lo hi sl Q I rx hs pl pu (i x lo hi H Q q)
theorem sIx_zero {n : Nat} {lo hi : Option Int} {α : Type} {xs : List α} (hn : xs.length = n) (h : HT.sIx n 0 lo = 0 ∧ HT.sIx n n hi = n) : (xs.drop (HT.sIx n 0 lo)).take (HT.sIx n n hi - HT.sIx n 0 lo) = xs := by
  rw [h.1, h.2, List.drop_zero, Nat.sub_zero, List.take_of_length_le (by omega)]
theorem u_sl : SlR X (US X.K) := by
  refine SlR.imp (SlR.or sl_list sl_tupA) fun x lo hi H Q h => ?_
  obtain ⟨d, d', G, s, r, e, q⟩ := h
  cases d with
  | tup xs =>
    cases e
    obtain ⟨a, vs, ea, h1, h2⟩ := RV.tup s r
    refine .inr ⟨a, vs, ea, h1, fun z => ?_, fun _ p hp => q.2.1 _ _ rfl h2.cut p hp⟩
    have ec : cutD xs lo hi = xs := by
      unfold cutD
      rw [h2.len] at z
      exact sIx_zero rfl z
    refine q.1 _ ?_
    rw [ec, ← ea]
    exact r
  | lst o xs =>
    cases e
    obtain ⟨a, vs, ea, h1, h2⟩ := RV.lst r
    exact .inl ⟨a, vs, ea, SqL.of h1, fun p hp => q.2.2 _ _ rfl h2.cut p hp⟩
  | scr xs =>
    cases e
    obtain ⟨a, ea, h1⟩ := r
    exact .inl ⟨a, _, ea, s.seq h1, fun p hp => q.2.2 _ _ rfl (RPs.ofInts xs).cut p hp⟩
  | _ => cases e
def URev (K : PySem.W.Frag) : V → Hp → VK → Prop := fun x H Q => ∃ d d' G, Same G H ∧ RV K G H d x ∧ semRev d = some d' ∧ RetAll K G H d' Q
theorem u_rev {K : PySem.W.Frag} {x : V} {Q : VK} (h : URev K x H Q) : ∃ a xs, x = .ref a ∧ SqL K H a xs ∧ ∀ p, H p = none → Q (.ref p) (upd H p (.lst xs.reverse)) := by
  obtain ⟨d, d', G, s, r, e, q⟩ := h
  cases d with
  | lst o xs =>
    cases e
    obtain ⟨a, vs, ea, h1, h2⟩ := RV.lst r
    exact ⟨a, vs, ea, SqL.of h1, fun p hp => q.2.2 _ _ rfl h2.rev p hp⟩
  | _ => cases e
end
end Tw

set_option Elab.async false
set_option linter.all false
set_option maxRecDepth 100000
set_option maxHeartbeats 2000000
/-! Tw8: arguments, lent and given back; places. -/
namespace Tw
open PySem L2
open Classical (propDecidable)
section
variable {S : Sg} {T : Fns} {cl : Nat → Addr} {X : Cx} {W : WX} {σ : St} {G H G0 H0 : Hp} {F F0 Fv : AS} {e : Env} {α β : Type} {rep : Hp → Hp → α → β → AS → Prop} {K : PySem.W.Frag}

def OpReps (K : PySem.W.Frag) (σ : St) (G : Hp) : IEs → List D → List V → Prop
  | .nil, ds, vs => ds = [] ∧ vs = []
  | .cons a as, ds, vs => ∃ d ds' w ws, ds = d :: ds' ∧ vs = w :: ws ∧ (match a.isSlot with | some i => σ[i]? = some (some w) | none => RP K G d w) ∧ OpReps K σ G as ds' ws
theorem OpReps.mono {G' : Hp} (s : Same G G') : ∀ {as : IEs} {ds : List D} {vs : List V}, OpReps K σ G as ds vs → OpReps K σ G' as ds vs
  | .nil, _, _, h => h
  | .cons a as, _, _, h => by
    obtain ⟨d, ds', w, ws, e1, e2, h1, h2⟩ := h
    refine ⟨d, ds', w, ws, e1, e2, ?_, h2.mono s⟩
    cases q : a.isSlot with
    | some i => rw [q] at h1; exact h1
    | none => rw [q] at h1; exact RP.mono s h1
theorem frz_frz (d : D) : frz (frz d) = frz d := by
  cases d with
  | lst o xs => cases o <;> (unfold frz; rfl)
  | _ => unfold frz; rfl
theorem set_same {i : Nat} {v : Option V} (h : σ[i]? = some v) : σ.set i v = σ := by
  obtain ⟨h1, h2⟩ := List.getElem?_eq_some_iff.mp h
  rw [← h2]; exact List.set_getElem_self h1
/-- the slot's own thing taken out -/
theorem takeOut {i : Nat} (r : ROs K G H true e σ F) (nh : gt e i ≠ .hole) :
    ∃ v F1 F0, σ[i]? = some (some v) ∧ RO K G H (gt e i) (some v) F1 ∧ Dis F0 F1 ∧ (∀ b, F b ↔ (F0 b ∨ F1 b)) ∧ ROs K G H true (e.set i .hole) σ F0 := by
  obtain ⟨o, F1, F0, ho, hr, dj, hF, up⟩ := r.at (gt_ne nh)
  rcases hr with ⟨_, z, _⟩ | hr
  · exact absurd z nh
  obtain ⟨v, ev⟩ := hr.val
  subst ev
  have u := up G H .hole (some v) AS.emp (Same.refl _) (fun b z => ⟨rfl, (r.own b ((hF b).mpr (.inl z))).1⟩) (.inl ⟨rfl, rfl, fun _ z => z⟩) (fun _ _ z => z)
  rw [set_same ho] at u
  exact ⟨v, F1, F0, ho, hr, dj, hF, u.congr fun b => ⟨.inl, fun z => z.elim id fun z => z.elim⟩⟩
/-- .. and put in (whatever the slot holds) -/
theorem putIn {i : Nat} {d : D} {v : V} {F1 : AS} (r : ROs K G H true e σ F) (hi : σ[i]? = some (some v)) (rv : RE K G H true d (some v) F1) (dj : Dis F F1) :
    ∃ F', ROs K G H true (e.set i d) σ F' ∧ ∀ b, F' b → F b ∨ F1 b := by
  have hl : i < e.length := by
    rw [← r.len]
    exact (List.getElem?_eq_some_iff.mp hi).1
  obtain ⟨o, E1, E0, ho, hr, dj2, hF, up⟩ := r.at (List.getElem?_eq_getElem hl)
  rw [hi] at ho
  cases ho
  have u := up G H d (some v) F1 (Same.refl _) (fun b z => ⟨rfl, (r.own b ((hF b).mpr (.inl z))).1⟩) rv (dj.sub (fun b z => (hF b).mpr (.inl z)) fun _ z => z)
  rw [set_same hi] at u
  exact ⟨_, u, fun b z => z.elim (fun z => .inl ((hF b).mpr (.inl z))) .inr⟩
/-- a new value in a slot: the state's place changes too -/
theorem putNew {i : Nat} {d : D} {v : V} {F1 : AS} (r : ROs K G H true e σ F) (hl : i < e.length) (rv : RE K G H true d (some v) F1) (dj : Dis F F1) :
    ∃ F', ROs K G H true (e.set i d) (σ.set i (some v)) F' ∧ ∀ b, F' b → F b ∨ F1 b := by
  obtain ⟨o, E1, E0, ho, hr, dj2, hF, up⟩ := r.at (List.getElem?_eq_getElem hl)
  have u := up G H d (some v) F1 (Same.refl _) (fun b z => ⟨rfl, (r.own b ((hF b).mpr (.inl z))).1⟩) rv (dj.sub (fun b z => (hF b).mpr (.inl z)) fun _ z => z)
  exact ⟨_, u, fun b z => z.elim (fun z => .inl ((hF b).mpr (.inl z))) .inr⟩
theorem held {G' H' : Hp} {F' : AS} (g : Good G H F G' H' F') (own : ∀ b, Fv b → G b = none ∧ ∃ xs, H b = some (.lst xs)) (dj : Dis F Fv) : (∀ b, Fv b → H' b = H b ∧ G' b = none) ∧ Dis F' Fv := by
  refine ⟨fun b z => ?_, fun b y z => ?_⟩
  · obtain ⟨n, xs, q⟩ := own b z
    have nF : ¬ F b := fun y => dj b y z
    refine ⟨?_, g.out b (by rw [q]; exact fun z => nomatch z) nF n⟩
    rcases g.keep b _ q nF with y | ⟨⟨ps, y⟩, _⟩
    · rw [y, q]
    · cases y
  · obtain ⟨n, xs, q⟩ := own b z
    rcases g.own b y with y | y
    · exact dj b y z
    · rw [q] at y; cases y
theorem fill_ok {stab : List Bool} : ∀ {as : IEs} {ds : List D} {vs : List V} {k : Nat} {e : Env} {G : Hp} {F : AS} {ds' : List D} {lent : List (Nat × Nat)} {e' : Env}, Same G H → ROs K G H true e σ F → OpReps K σ G as ds vs →
    fillA stab as ds k e = some (ds', lent, e') → ∃ G' F' Fa, Same G' H ∧ ROs K G' H true e' σ F' ∧ ROs K G' H false ds' (vs.map some) Fa ∧ Dis F' Fa ∧ Good G H F G' H (AS.uni F' Fa) ∧
      (∀ p ∈ lent, k ≤ p.2 ∧ ∃ v, σ[p.1]? = some (some v) ∧ vs[p.2 - k]? = some v) ∧ (lent.map (·.2)).Nodup
  | .nil, ds, vs, k, e, G, F, ds', lent, e', s, r, o, h => by
    obtain ⟨e1, e2⟩ := o
    subst e1; subst e2
    cases h
    exact ⟨G, F, AS.emp, s, r, ⟨rfl, fun _ z => z⟩, fun _ _ z => z, (Good.refl _ _ _).sub fun b z => z.elim id fun z => z.elim, fun p hp => by simp at hp, List.nodup_nil⟩
  | .cons a as, ds, vs, k, e, G, F, ds', lent, e', s, r, o, h => by
    obtain ⟨d, ds1, w, ws, e1, e2, h1, h2⟩ := o
    subst e1; subst e2
    unfold fillA at h
    have shift : ∀ {lent : List (Nat × Nat)} {ws : List V} {w : V}, (∀ p ∈ lent, k + 1 ≤ p.2 ∧ ∃ v, σ[p.1]? = some (some v) ∧ ws[p.2 - (k + 1)]? = some v) → ∀ p ∈ lent, k ≤ p.2 ∧ ∃ v, σ[p.1]? = some (some v) ∧ (w :: ws)[p.2 - k]? = some v := fun {lent ws w} hh p hp => by
      obtain ⟨a1, v, a2, a3⟩ := hh p hp
      refine ⟨by omega, v, a2, ?_⟩
      rw [show p.2 - k = (p.2 - (k + 1)) + 1 by omega]
      exact a3
    cases q : a.isSlot with
    | none =>
      rw [q] at h h1
      obtain ⟨⟨t1, t2, t3⟩, ht, hh⟩ := Option.map_eq_some_iff.mp h
      cases hh
      obtain ⟨G', F', Fa, s', r', ra, dj, g, pl, nd⟩ := fill_ok s r h2 ht
      exact ⟨G', F', Fa, s', r', ⟨some w, ws.map some, AS.emp, Fa, rfl, .inr (RP.ro (RP.mono g.mono h1)), ra, fun _ z _ => z, fun b => ⟨.inr, fun z => z.elim (fun z => z.elim) id⟩⟩, dj, g, shift pl, nd⟩
    | some i =>
      rw [q] at h h1
      have h1 : σ[i]? = some (some w) := h1
      dsimp only at h
      have nh : gt e i ≠ .hole := fun z => by simp only [z] at h; cases h
      by_cases hp : pers (gt e i) = true
      · have h : (fillA stab as ds1 (k + 1) e).map (fun q => (gt e i :: q.1, q.2.1, q.2.2)) = some (ds', lent, e') := by
          rw [← h]
          cases z : gt e i with
          | hole => exact absurd z nh
          | lst b xs => cases b with
            | true => rw [z] at hp; cases hp
            | false => rfl
          | _ => rfl
        obtain ⟨⟨t1, t2, t3⟩, ht, hh⟩ := Option.map_eq_some_iff.mp h
        cases hh
        obtain ⟨v, hv, _, rp⟩ := slotView s r nh (.inl hp)
        rw [h1] at hv
        cases hv
        obtain ⟨G', F', Fa, s', r', ra, dj, g, pl, nd⟩ := fill_ok s r h2 ht
        exact ⟨G', F', Fa, s', r', ⟨some w, ws.map some, AS.emp, Fa, rfl, .inr (RP.ro (RP.mono g.mono (rp hp))), ra, fun _ z _ => z, fun b => ⟨.inr, fun z => z.elim (fun z => z.elim) id⟩⟩, dj, g, shift pl, nd⟩
      · have : ∃ xs, gt e i = .lst true xs := by
          cases z : gt e i with
          | hole => exact absurd z nh
          | lst b xs => cases b with
            | true => exact ⟨xs, rfl⟩
            | false => rw [z] at hp; exact absurd rfl hp
          | _ => rw [z] at hp; exact absurd rfl hp
        obtain ⟨xs, hx⟩ := this
        simp only [hx] at h
        by_cases hs : stab.getD k false = true
        · rw [if_pos hs] at h
          obtain ⟨⟨t1, t2, t3⟩, ht, hh⟩ := Option.map_eq_some_iff.mp h
          cases hh
          obtain ⟨v, F1, F0, hv, rv, dj1, hF, r1⟩ := takeOut r nh
          rw [h1] at hv
          cases hv
          rw [hx] at rv
          obtain ⟨G', F', Fa, s', r', ra, dj, g, pl, nd⟩ := fill_ok s r1 h2 ht
          obtain ⟨st, d2⟩ := held g rv.own dj1
          have rv' := rv.frame g.mono st
          refine ⟨G', F', AS.uni F1 Fa, s', r', ⟨some w, ws.map some, F1, Fa, rfl, .inr rv', ra, fun b y z => d2 b (.inr z) y, fun b => Iff.rfl⟩, fun b y z => z.elim (fun z => d2 b (.inl y) z) (dj b y), ?_, fun p hp => ?_, ?_⟩
          · refine ⟨g.mono, fun b u hu n => g.keep b u hu fun z => n ((hF b).mpr (.inl z)), fun b z => ?_, fun b hb n => g.out b hb fun z => n ((hF b).mpr (.inl z))⟩
            rcases z with z | z | z
            · exact (g.own b (.inl z)).imp (fun z => (hF b).mpr (.inl z)) id
            · exact .inl ((hF b).mpr (.inr z))
            · exact (g.own b (.inr z)).imp (fun z => (hF b).mpr (.inl z)) id
          · rcases List.mem_cons.mp hp with hp | hp
            · subst hp
              exact ⟨Nat.le_refl _, w, h1, by rw [Nat.sub_self]; rfl⟩
            · exact shift pl p hp
          · rw [List.map_cons, List.nodup_cons]
            refine ⟨fun z => ?_, nd⟩
            obtain ⟨p, hp, ep⟩ := List.mem_map.mp z
            have := (pl p hp).1
            omega
        · rw [if_neg hs] at h
          obtain ⟨⟨t1, t2, t3⟩, ht, hh⟩ := Option.map_eq_some_iff.mp h
          cases hh
          obtain ⟨G1, F1, v, hv, s1, r1, p1, g1, _⟩ := slotShare s r hx
          rw [h1] at hv
          cases hv
          obtain ⟨G', F', Fa, s', r', ra, dj, g, pl, nd⟩ := fill_ok s1 r1 (h2.mono g1.mono) ht
          exact ⟨G', F', Fa, s', r', ⟨some w, ws.map some, AS.emp, Fa, rfl, .inr (RP.ro (RP.mono g.mono p1)), ra, fun _ z _ => z, fun b => ⟨.inr, fun z => z.elim (fun z => z.elim) id⟩⟩, dj, g1.trans (fun _ z => z) g fun b z => .inl z, shift pl, nd⟩
theorem gt_set_ne {e : Env} {i j : Nat} {d : D} (h : i ≠ j) : gt (e.set i d) j = gt e j := by
  unfold gt; rw [List.getElem?_set_ne h]
theorem back_ok : ∀ {lent : List (Nat × Nat)} {ps : Env} {vs : List V} {e : Env} {F Fp : AS}, ROs K G H true e σ F → ROs K G H true ps (vs.map some) Fp → Dis F Fp →
    (∀ p ∈ lent, ∃ v, σ[p.1]? = some (some v) ∧ vs[p.2]? = some v) → (lent.map (·.2)).Nodup → ∃ F', ROs K G H true (backA ps lent e) σ F' ∧ ∀ b, F' b → F b ∨ Fp b
  | [], ps, vs, e, F, Fp, r, rp, dj, _, _ => ⟨F, r, fun b z => .inl z⟩
  | p :: lent, ps, vs, e, F, Fp, r, rp, dj, pl, nd => by
    obtain ⟨v, h1, h2⟩ := pl p List.mem_cons_self
    rw [List.map_cons, List.nodup_cons] at nd
    have hl : p.2 < ps.length := by
      have := rp.len
      rw [List.length_map] at this
      rw [← this]
      exact (List.getElem?_eq_some_iff.mp h2).1
    have eg : gt ps p.2 = ps[p.2] := by unfold gt; rw [List.getElem?_eq_getElem hl]; rfl
    obtain ⟨o, E1, E0, ho, hr, dj2, hF, up⟩ := rp.at (List.getElem?_eq_getElem hl)
    rw [List.getElem?_map, h2] at ho
    cases ho
    have u := up G H .hole (some v) AS.emp (Same.refl _) (fun b z => ⟨rfl, (rp.own b ((hF b).mpr (.inl z))).1⟩) (.inl ⟨rfl, rfl, fun _ z => z⟩) (fun _ _ z => z)
    have hσ : (vs.map some).set p.2 (some v) = vs.map some := set_same (by rw [List.getElem?_map, h2]; rfl)
    rw [hσ] at u
    obtain ⟨F1, r1, hF1⟩ := putIn (i := p.1) r h1 hr (dj.sub (fun _ z => z) fun b z => (hF b).mpr (.inr z))
    have same : ∀ (l : List (Nat × Nat)) (e : Env), p.2 ∉ l.map (·.2) → backA (ps.set p.2 .hole) l e = backA ps l e := by
      intro l
      induction l with
      | nil => intro e _; rfl
      | cons q l ih =>
        intro e hn
        rw [List.map_cons, List.mem_cons, not_or] at hn
        show backA (ps.set p.2 .hole) l (e.set q.1 (gt (ps.set p.2 .hole) q.2)) = backA ps l (e.set q.1 (gt ps q.2))
        rw [gt_set_ne hn.1]
        exact ih _ hn.2
    have dj3 : Dis F1 (AS.uni E0 AS.emp) := fun b y z => by
      have z : E0 b := z.elim id fun z => z.elim
      rcases hF1 b y with y | y
      · exact dj b y ((hF b).mpr (.inl z))
      · exact dj2 b z y
    obtain ⟨F', r', hF'⟩ := back_ok (lent := lent) (ps := ps.set p.2 .hole) r1 u dj3 (fun q hq => pl q (List.mem_cons_of_mem _ hq)) nd.2
    refine ⟨F', ?_, fun b z => ?_⟩
    · show ROs K G H true (backA ps lent (e.set p.1 (gt ps p.2))) σ F'
      rw [eg, ← same lent _ nd.1]
      exact r'
    · rcases hF' b z with z | z
      · exact (hF1 b z).imp id fun z => (hF b).mpr (.inr z)
      · exact .inr ((hF b).mpr (.inl (z.elim id fun z => z.elim)))
end
end Tw

set_option Elab.async false
set_option linter.all false
set_option maxRecDepth 100000
set_option maxHeartbeats 2000000
/-! Tw9: owned lists at a path, changed in place. -/
namespace Tw
open PySem L2
open Classical (propDecidable)
section
variable {S : Sg} {T : Fns} {cl : Nat → Addr} {X : Cx} {W : WX} {σ : St} {G H G0 H0 : Hp} {F F0 Fv : AS} {e : Env} {K : PySem.W.Frag}

def PathAt (H : Hp) : Option V → List Int → Addr → Prop
  | o, [], a => o = some (.ref a)
  | o, i :: is, a => ∃ a0 vs j v, o = some (.ref a0) ∧ H a0 = some (.lst vs) ∧ ixN vs.length i = some j ∧ vs[j]? = some v ∧ PathAt H (some v) is a
theorem PathAt.uniq : ∀ {is : List Int} {o : Option V} {a a' : Addr}, PathAt H o is a → PathAt H o is a' → a = a'
  | [], _, _, _, h, h' => by
    have := (show _ = some (V.ref _) from h).symm.trans (show _ = some (V.ref _) from h')
    injection this with this
    injection this
  | i :: is, _, _, _, h, h' => by
    obtain ⟨a0, vs, j, v, e1, e2, e3, e4, p⟩ := h
    obtain ⟨b0, ws, j', v', f1, f2, f3, f4, p'⟩ := h'
    rw [e1] at f1; cases f1
    rw [e2] at f2; cases f2
    rw [e3] at f3; cases f3
    rw [e4] at f4; cases f4
    exact p.uniq p'
def sing (a : Addr) : AS := fun b => b = a
theorem path_ok {f : List D → Option (D × List D)} : ∀ {is : List Int} {d : D} {o : Option V} {F : AS} {p : D × D}, RO K G H d o F → onPath f is d = some p →
    ∃ a xs ys vs F' F0, f xs = some (p.1, ys) ∧ PathAt H o is a ∧ H a = some (.lst vs) ∧ G a = none ∧ ROs K G H false xs (vs.map some) F' ∧ ¬ F' a ∧ ¬ F0 a ∧ Dis F0 F' ∧ (∀ b, F b ↔ (F0 b ∨ b = a ∨ F' b)) ∧
      ∀ (G' H' : Hp) (vs' : List V) (F2 : AS), Same G G' → (∀ b, F0 b → H' b = H b ∧ G' b = none) → H' a = some (.lst vs') → G' a = none → ROs K G' H' false ys (vs'.map some) F2 → ¬ F2 a → Dis F0 F2 →
        RO K G' H' p.2 o (AS.uni F0 (AS.uni (sing a) F2))
  | [], d, o, F, p, r, h => by
    cases d with
    | lst b xs => cases b with
      | true =>
        obtain ⟨⟨d1, ys⟩, hf, e⟩ := Option.map_eq_some_iff.mp (show (f xs).map (fun p => (p.1, D.lst true p.2)) = some p from h)
        subst e
        obtain ⟨a, vs, F', e1, h1, h2, h3, h4, h5⟩ := r
        refine ⟨a, xs, ys, vs, F', AS.emp, hf, e1, h1, h2, h4, h3, fun z => z, fun _ z _ => z, fun b => ?_, fun G' H' vs' F2 s k ha hg rs nf dj => ?_⟩
        · rw [h5 b]
          exact ⟨.inr, fun z => z.elim (fun z => z.elim) id⟩
        · exact ⟨a, vs', F2, e1, ha, hg, nf, rs, fun b => ⟨fun z => z.elim (fun z => z.elim) id, .inr⟩⟩
      | false => cases h
    | _ => cases h
  | i :: is, d, o, F, p, r, h => by
    cases d with
    | lst b xs => cases b with
      | true =>
        have h : ((ixN xs.length i).bind fun j => (xs[j]?).bind fun d => (onPath f is d).map fun p => (p.1, D.lst true (xs.set j p.2))) = some p := h
        obtain ⟨j, hj, h⟩ := Option.bind_eq_some_iff.mp h
        obtain ⟨dj, hd, h⟩ := Option.bind_eq_some_iff.mp h
        obtain ⟨⟨d1, d2⟩, hp, e⟩ := Option.map_eq_some_iff.mp h
        subst e
        obtain ⟨a0, vs0, Fi, e1, h1, h2, h3, h4, h5⟩ := r
        obtain ⟨oj, E1, E0, ho, hr, dj0, hF, up⟩ := h4.at hd
        rcases hr with ⟨z, _⟩ | hr
        · cases z
        obtain ⟨vj, ev⟩ := hr.val
        subst ev
        rw [List.getElem?_map] at ho
        obtain ⟨vj', hv, ev⟩ := Option.map_eq_some_iff.mp ho
        cases ev
        obtain ⟨a, ys0, ys, vs, F', F0, hf, pa, ha, hg, rs, n1, n2, dj, hF2, upd2⟩ := path_ok hr hp
        have hlen : vs0.length = xs.length := by
          have := h4.len
          rw [List.length_map] at this
          exact this
        have a0in : Fi a → a ≠ a0 := fun z y => h3 (y ▸ z)
        have aFi : Fi a := (hF a).mpr (.inr ((hF2 a).mpr (.inr (.inl rfl))))
        have na : a ≠ a0 := a0in aFi
        refine ⟨a, ys0, ys, vs, F', fun b => b = a0 ∨ E0 b ∨ F0 b, hf, ⟨a0, vs0, j, vj, e1, h1, by rw [hlen]; exact hj, hv, pa⟩, ha, hg, rs, n1, ?_, ?_, fun b => ?_, fun G' H' vs' F2 s k ha' hg' rs' nf dj' => ?_⟩
        · rintro (z | z | z)
          · exact na z
          · exact dj0 a z ((hF2 a).mpr (.inr (.inl rfl)))
          · exact n2 z
        · rintro b (z | z | z) y
          · subst z
            exact h3 ((hF b).mpr (.inr ((hF2 b).mpr (.inr (.inr y)))))
          · exact dj0 b z ((hF2 b).mpr (.inr (.inr y)))
          · exact dj b z y
        · rw [h5 b, hF b, hF2 b]
          constructor
          · rintro (z | z | z | z | z)
            · exact .inl (.inl z)
            · exact .inl (.inr (.inl z))
            · exact .inl (.inr (.inr z))
            · exact .inr (.inl z)
            · exact .inr (.inr z)
          · rintro ((z | z | z) | z | z)
            · exact .inl z
            · exact .inr (.inl z)
            · exact .inr (.inr (.inl z))
            · exact .inr (.inr (.inr (.inl z)))
            · exact .inr (.inr (.inr (.inr z)))
        · have r2 := upd2 G' H' vs' F2 s (fun b z => k b (.inr (.inr z))) ha' hg' rs' nf (fun b z y => dj' b (.inr (.inr z)) y)
          have hset : (vs0.map some).set j (some vj) = vs0.map some := set_same (by rw [List.getElem?_map, hv]; rfl)
          have u := up G' H' d2 (some vj) (AS.uni F0 (AS.uni (sing a) F2)) s (fun b z => k b (.inr (.inl z))) (.inr r2) (fun b z y => ?_)
          · rw [hset] at u
            refine ⟨a0, vs0, AS.uni E0 (AS.uni F0 (AS.uni (sing a) F2)), e1, (k a0 (.inl rfl)).1.trans h1, (k a0 (.inl rfl)).2, ?_, u, fun b => ?_⟩
            · rintro (z | z | z | z)
              · exact h3 ((hF a0).mpr (.inl z))
              · exact h3 ((hF a0).mpr (.inr ((hF2 a0).mpr (.inl z))))
              · exact na z.symm
              · exact dj' a0 (.inl rfl) z
            · constructor
              · rintro ((z | z | z) | z | z)
                · exact .inl z
                · exact .inr (.inl z)
                · exact .inr (.inr (.inl z))
                · exact .inr (.inr (.inr (.inl z)))
                · exact .inr (.inr (.inr (.inr z)))
              · rintro (z | z | z | z | z)
                · exact .inl (.inl z)
                · exact .inl (.inr (.inl z))
                · exact .inl (.inr (.inr z))
                · exact .inr (.inl z)
                · exact .inr (.inr z)
          · rcases y with y | y | y
            · exact dj0 b z ((hF2 b).mpr (.inl y))
            · exact dj0 b z ((hF2 b).mpr (.inr (.inl y)))
            · exact dj' b (.inr (.inl z)) y
      | false => cases h
    | _ => cases h
/-- where the list at a place is -/
theorem placeRead {x : Nat} {is : List D} (r : ROs K G H true e σ F) (h : ownAt x is e = true) : ∃ v ns a vs, σ[x]? = some (some v) ∧ toInts is = some ns ∧ PathAt H (some v) ns a ∧ H a = some (.lst vs) ∧ gt e x ≠ .hole := by
  unfold ownAt at h
  cases hn : toInts is with
  | none => rw [hn] at h; cases h
  | some ns =>
    rw [hn] at h
    obtain ⟨p, hp⟩ := Option.isSome_iff_exists.mp h
    have nh : gt e x ≠ .hole := fun z => by
      rw [z] at hp
      cases ns <;> cases hp
    obtain ⟨v, F1, F0, hv, rv, _, _, _⟩ := takeOut r nh
    obtain ⟨a, xs, ys, vs, F', F0', _, pa, ha, _⟩ := path_ok rv hp
    exact ⟨v, ns, a, vs, hv, rfl, pa, ha, nh⟩
/-- a list at a place changed -/
theorem placeWrite {f : List D → Option (D × List D)} {x : Nat} {is : List D} {d : D} {e' : Env} (r : ROs K G H true e σ F) (h : onSlot f x is e = .ok d e') :
    ∃ v ns a xs ys vs F' F0, σ[x]? = some (some v) ∧ toInts is = some ns ∧ PathAt H (some v) ns a ∧ f xs = some (d, ys) ∧ H a = some (.lst vs) ∧ G a = none ∧ ROs K G H false xs (vs.map some) F' ∧ ¬ F' a ∧ ¬ F0 a ∧ Dis F0 F' ∧ (∀ b, F b ↔ (F0 b ∨ b = a ∨ F' b)) ∧
      ∀ (G' H' : Hp) (vs' : List V) (F2 : AS), Same G G' → (∀ b, F0 b → H' b = H b ∧ G' b = none) → H' a = some (.lst vs') → G' a = none → ROs K G' H' false ys (vs'.map some) F2 → ¬ F2 a → Dis F0 F2 →
        ∃ F3, ROs K G' H' true e' σ F3 ∧ ∀ b, F3 b → F0 b ∨ b = a ∨ F2 b := by
  unfold onSlot at h
  cases hn : toInts is with
  | none => rw [hn] at h; cases h
  | some ns =>
    rw [hn] at h
    cases hp : onPath f ns (gt e x) with
    | none => simp only [hp] at h; cases h
    | some p =>
      simp only [hp] at h
      cases h
      have nh : gt e x ≠ .hole := fun z => by
        rw [z] at hp
        cases ns <;> cases hp
      obtain ⟨v, F1, E0, hv, rv, djE, hE, r1⟩ := takeOut r nh
      obtain ⟨a, xs, ys, vs, F', F0, hf, pa, ha, hg, rs, n1, n2, dj, hF, upd⟩ := path_ok rv hp
      have aF1 : F1 a := (hF a).mpr (.inr (.inl rfl))
      refine ⟨v, ns, a, xs, ys, vs, F', AS.uni E0 F0, hv, rfl, pa, hf, ha, hg, rs, n1, fun z => z.elim (fun z => djE a z aF1) n2, fun b z y => z.elim (fun z => djE b z ((hF b).mpr (.inr (.inr y)))) fun z => dj b z y, fun b => ?_, fun G' H' vs' F2 s k ha' hg' rs' nf dj' => ?_⟩
      · rw [hE b, hF b, ← or_assoc]; rfl
      · have r2 := upd G' H' vs' F2 s (fun b z => k b (.inr z)) ha' hg' rs' nf (fun b z y => dj' b (.inr z) y)
        have r1' := r1.frame s (fun b z => k b (.inl z))
        have dj3 : Dis E0 (AS.uni F0 (AS.uni (sing a) F2)) := fun b z y => by
          rcases y with y | y | y
          · exact djE b z ((hF b).mpr (.inl y))
          · exact djE b z ((hF b).mpr (.inr (.inl y)))
          · exact dj' b (.inl z) y
        obtain ⟨F3, r3, h3⟩ := putIn r1' hv (.inr r2) dj3
        refine ⟨F3, ?_, fun b z => ?_⟩
        · rw [show e.set x p.2 = (e.set x .hole).set x p.2 by rw [List.set_set]]
          exact r3
        · rcases h3 b z with z | z | z | z
          · exact .inl (.inl z)
          · exact .inl (.inr z)
          · exact .inr (.inl z)
          · exact .inr (.inr z)
/-- hidden, and back -/
theorem unhide_ok {x : Nat} {is : List D} {e2 : Env} {G' H' : Hp} {F2 F1 : AS} {d : D} {v : V} (hv : σ[x]? = some (some v)) (r2 : ROs K G' H' true e2 σ F2) (rd : is ≠ [] → RO K G' H' d (some v) F1 ∧ Dis F2 F1) :
    ∃ F3, ROs K G' H' true (unhide is x d e2) σ F3 ∧ ∀ b, F3 b → F2 b ∨ (is ≠ [] ∧ F1 b) := by
  cases is with
  | nil => exact ⟨F2, r2, fun b z => .inl z⟩
  | cons i is =>
    obtain ⟨rd, dj⟩ := rd (by simp)
    obtain ⟨F3, r3, h3⟩ := putIn r2 hv (.inr rd) dj
    exact ⟨F3, r3, fun b z => (h3 b z).imp id fun z => ⟨by simp, z⟩⟩
end
end Tw

set_option Elab.async false
set_option linter.all false
set_option maxRecDepth 100000
set_option maxHeartbeats 2000000
/-! Tw10: what a loop walks. -/
namespace Tw
open PySem L2
open Classical (propDecidable)
section
variable {S : Sg} {T : Fns} {cl : Nat → Addr} {X : Cx} {W : WX} {σ : St} {G H G0 H0 : Hp} {F F0 Fv : AS} {e : Env} {K : PySem.W.Frag}

structure Walks (K : PySem.W.Frag) (J : L2.It) (xs : List D) (G : Hp) : Prop where
  go : ∀ i H, Same G H → i < xs.length → J.go i H
  stop : ∀ i H, Same G H → xs.length ≤ i → J.stop i H
  yld : ∀ i H x H', Same G H → J.yld i H x H' → ∀ d, xs[i]? = some d → ∀ G1, Same G G1 → Same G1 H → ∃ G2, Same G1 G2 ∧ Same G2 H' ∧ Same H H' ∧ RP K G2 d x ∧ ∀ b, G2 b ≠ none → G1 b ≠ none ∨ H b = none
def rIt (K : PySem.W.Frag) (G H : Hp) (xs : List D) (J : L2.It) (F : AS) : Prop := Walks K J xs G ∧ ∀ b, ¬ F b
def tI (K : PySem.W.Frag) (cl : Nat → Addr) (W : WX) (f : Env → R (List D)) : TI := fun σ H R => ∃ G e F, Same G H ∧ ROs K G H true e σ F ∧ Post (rIt K) K cl W σ G H F (f e) R
theorem walksL {a : Addr} {vs : List V} {xs : List D} (h : G a = some (.lst vs)) (r : RPs K G xs vs) : Walks K (Itl K a) xs G where
  go := fun i H s hi => by
    obtain ⟨v, hv, _⟩ := r.get (List.getElem?_eq_getElem hi)
    exact ⟨vs, v, SqL.of (s _ _ h), hv⟩
  stop := fun i H s hi => ⟨vs, SqL.of (s _ _ h), by rw [r.len]; exact hi⟩
  yld := fun i H x H' s y d hd G1 s1 s2 => by
    obtain ⟨e1, hx⟩ := y
    obtain ⟨v, hv, rp⟩ := r.get hd
    have := hx vs (SqL.of (s _ _ h))
    rw [hv] at this
    cases this
    subst e1
    exact ⟨G1, Same.refl _, s2, Same.refl _, rp.mono s1, fun b z => .inl z⟩
theorem walksT {a : Addr} {vs : List V} {xs : List D} (h : SqT K G a vs) (r : RPs K G xs vs) : Walks K (Itt K a) xs G where
  go := fun i H s hi => by
    obtain ⟨v, hv, _⟩ := r.get (List.getElem?_eq_getElem hi)
    exact ⟨vs, v, sqT_same s h, hv⟩
  stop := fun i H s hi => ⟨vs, sqT_same s h, by rw [r.len]; exact hi⟩
  yld := fun i H x H' s y d hd G1 s1 s2 => by
    obtain ⟨e1, hx⟩ := y
    obtain ⟨v, hv, rp⟩ := r.get hd
    have := hx vs (sqT_same s h)
    rw [hv] at this
    cases this
    subst e1
    exact ⟨G1, Same.refl _, s2, Same.refl _, rp.mono s1, fun b z => .inl z⟩
theorem walksR {a : Int} {n : Nat} : Walks K (Itr a n) ((List.range n).map fun i => D.int (a + (i : Nat))) G where
  go := fun i H s hi => by
    rw [List.length_map, List.length_range] at hi
    exact hi
  stop := fun i H s hi => by
    rw [List.length_map, List.length_range] at hi
    exact hi
  yld := fun i H x H' s y d hd G1 s1 s2 => by
    obtain ⟨e1, hx⟩ := y
    subst e1; subst hx
    rw [List.getElem?_map] at hd
    obtain ⟨j, hj, ej⟩ := Option.map_eq_some_iff.mp hd
    have := List.getElem?_range (show i < n from by
      have := (List.getElem?_eq_some_iff.mp hj).1
      rw [List.length_range] at this
      exact this)
    rw [this] at hj
    cases hj
    subst ej
    exact ⟨G1, Same.refl _, s2, Same.refl _, rfl, fun b z => .inl z⟩
theorem walksD {a : Int} {n : Nat} : Walks K (Itc a (-1) n) ((List.range n).map fun i => D.int (a - (i : Nat))) G where
  go := fun i H s hi => by
    rw [List.length_map, List.length_range] at hi
    exact hi
  stop := fun i H s hi => by
    rw [List.length_map, List.length_range] at hi
    exact hi
  yld := fun i H x H' s y d hd G1 s1 s2 => by
    obtain ⟨e1, hx⟩ := y
    subst e1; subst hx
    rw [List.getElem?_map] at hd
    obtain ⟨j, hj, ej⟩ := Option.map_eq_some_iff.mp hd
    have := List.getElem?_range (show i < n from by
      have := (List.getElem?_eq_some_iff.mp hj).1
      rw [List.length_range] at this
      exact this)
    rw [this] at hj
    cases hj
    subst ej
    refine ⟨G1, Same.refl _, s2, Same.refl _, ?_, fun b z => .inl z⟩
    show V.int _ = V.int _
    congr 1
    omega

/-- a list or a tuple, walked -/
theorem pi_seq {tg l : Expr} {tl : TE} (hl : PE X l tl) : PI X tg l (fun σ H R => tl σ H fun x H1 => ∃ a, x = .ref a ∧ ((∃ xs, SqL X.K H1 a xs ∧ R (Itl X.K a) H1) ∨ (∃ xs, SqT X.K H1 a xs ∧ R (Itt X.K a) H1) ∨ ∃ lo hi, H1 a = some (.rng lo hi) ∧ (-(2 ^ 62) ≤ lo ∧ lo < 2 ^ 62 ∧ -(2 ^ 62) ≤ hi ∧ hi < 2 ^ 62) ∧ R (Itr lo (hi - lo).toNat) H1)) := by
  refine ⟨fun pins s σ H R I h => ?_⟩
  refine thn (hl.run pins s σ H _ I h) fun v s1 ⟨x, H1, I1, r1, q1⟩ => ?_
  obtain ⟨a, e, q⟩ := q1
  subst e
  cases r1
  rcases q with ⟨xs, hq, q⟩ | ⟨xs, hq, q⟩ | ⟨lo, hi, hq, ⟨b1, b2, b3, b4⟩, q⟩
  · obtain ⟨its, rv, p, hz⟩ := I1.list hq
    refine wpAny_pyIter_list p.isList ?_
    refine ⟨s1.heap.objs.size, [s1.heap.objs.size], _, _, H1, rfl, I1.kept (t' := s1.toks) fun b o e => Heap.get?_push_of_some _ e, turn_list a _, ⟨_, Heap.get?_push_size _ rfl, rfl, rfl⟩, fun b hb => ?_, q⟩
    have e : b = s1.heap.objs.size := by simpa using hb
    subst e
    exact I1.fpOk (Nat.le_refl _) (I1.hok.fresh (Nat.le_refl _))
  · obtain ⟨its, rv, p, hz⟩ := I1.tuple hq
    refine wpAny_pyIter_tuple (show s1.heap.IsTuple a its.toArray from p) ?_
    refine ⟨s1.heap.objs.size, [s1.heap.objs.size], _, _, H1, rfl, I1.kept (t' := s1.toks) fun b o e => Heap.get?_push_of_some _ e, turn_tuple a _, ⟨_, Heap.get?_push_size _ rfl, rfl, rfl⟩, fun b hb => ?_, q⟩
    have e : b = s1.heap.objs.size := by simpa using hb
    subst e
    exact I1.fpOk (Nat.le_refl _) (I1.hok.fresh (Nat.le_refl _))
  · obtain ⟨t, u, v, hr⟩ := I1.hok a _ hq
    refine wpAny_pyIter_range (show IsRange s1.heap a lo hi 1 t u v from hr) (small_one b1 b2 b3 b4) ?_
    refine ⟨s1.heap.objs.size, [s1.heap.objs.size], _, _, H1, rfl, I1.kept (t' := s1.toks) fun b o e => Heap.get?_push_of_some _ e, turn_range _ lo (hi - lo).toNat, ?_, fun b hb => ?_, q⟩
    · have e1 : lo + ((0 : Nat) : Int) * 1 = lo := by simp
      have e2 : (((hi - lo).toNat : Nat) : Int) - ((0 : Nat) : Int) = Builtin.Range.rangeSize lo hi 1 := by rw [rangeSize_one]; split <;> omega
      show IsRangeIter _ _ (lo + ((0 : Nat) : Int) * 1) ((((hi - lo).toNat : Nat) : Int) - ((0 : Nat) : Int)) 1
      rw [e1, e2]
      exact Heap.get?_push_size _ rfl
    · have e : b = s1.heap.objs.size := by simpa using hb
      subst e
      exact I1.fpOk (Nat.le_refl _) (I1.hok.fresh (Nat.le_refl _))
theorem PI.imp {tg l : Expr} {w w' : TI} (h : PI X tg l w) (i : ∀ σ H R, w' σ H R → w σ H R) : PI X tg l w' := ⟨fun pins s σ H R I q => h.run pins s σ H R I (i σ H R q)⟩
theorem okRg_ {a b : Int} (h : okRg a b = true) : -(2 ^ 62) ≤ a ∧ a < 2 ^ 62 ∧ -(2 ^ 62) ≤ b ∧ b < 2 ^ 62 ∧ (b - a).toNat < sizeLine := by
  unfold okRg at h
  simp only [Bool.and_eq_true, decide_eq_true_eq] at h
  exact ⟨h.1.1.1.1, h.1.1.1.2, h.1.1.2, h.1.2, h.2⟩
theorem Post.keep {α β : Type} {rep : Hp → Hp → α → β → AS → Prop} {d : α} {v : β} {Q : β → Hp → Prop} {e : Env} (h : Post rep K cl W σ G0 H0 F0 (.ok d e) Q) (s : Same G H) (r : ROs K G H true e σ F) (g : Good G0 H0 F0 G H F) (p : rep G H d v AS.emp) : Q v H :=
  h G H F v AS.emp s r p dis_emp (g.sub fun b z => z.elim id fun z => z.elim)
theorem rps_one {d : D} {vs : List V} (h : RPs K G [d] vs) : ∃ v, vs = [v] ∧ RP K G d v := by
  obtain ⟨w, ws, e, h1, h2⟩ := h
  rw [show ws = [] from h2] at e
  exact ⟨w, e, h1⟩
theorem rps_two {d d' : D} {vs : List V} (h : RPs K G [d, d'] vs) : ∃ v v', vs = [v, v'] ∧ RP K G d v ∧ RP K G d' v' := by
  obtain ⟨w, ws, e, h1, h2⟩ := h
  obtain ⟨v, e2, h3⟩ := rps_one h2
  exact ⟨w, v, by rw [e, e2], h1, h3⟩
theorem rps_three {d d' d'' : D} {vs : List V} (h : RPs K G [d, d', d''] vs) : ∃ v v' v'', vs = [v, v', v''] ∧ RP K G d v ∧ RP K G d' v' ∧ RP K G d'' v'' := by
  obtain ⟨w, ws, e, h1, h2⟩ := h
  obtain ⟨v, v', e2, h3, h4⟩ := rps_two h2
  exact ⟨w, v, v', by rw [e, e2], h1, h3, h4⟩
/-- values that are ints as they come -/
theorem rds_ints {ds : List D} {vs : List V} {ns : List Int} (h : rDs K G H ds vs Fv) (e : ds = ns.map D.int) : vs = ns.map V.int := by
  subst e
  have p : (ns.map D.int).all pers = true := by
    rw [List.all_map]
    exact List.all_eq_true.mpr fun _ _ => rfl
  exact (ROs.rps h p).1.toInts (toInts_map ns)
theorem ta_mono {σ : St} {H : Hp} {f : Env → R (List D)} {Q Q' : List V → Hp → Prop} (h : tA X.K cl W f σ H Q) (i : ∀ vs H, Q vs H → Q' vs H) : tA X.K cl W f σ H Q' := by
  obtain ⟨G, e, F, s, r, h⟩ := h
  refine ⟨G, e, F, s, r, ?_⟩
  cases q : f e with
  | ok d e' => rw [q] at h; exact fun G' H' F' v Fv a b c d g => i _ _ (h G' H' F' v Fv a b c d g)
  | ex c w e' => rw [q] at h; exact h
  | no => rw [q] at h; exact h
theorem pi_rng {tg : Expr} {as : IEs} {es : List Expr} {p pos : Pos} (hg : Gl X "range") (hm : X.mg "range" = none) (hn : es.all notStar = true) (h1 : 1 ≤ es.length) (h3 : es.length ≤ 3) (ha : PA X es (tA X.K cl W (evs T as)))
    (hlen : ∀ e ds e', evs T as e = .ok ds e' → ds.length = es.length) : PI X tg (.Call (.Name "range" p) es [] pos) (tI X.K cl W (evIt T (.rng as))) := by
  have bare : ∀ {σ H R}, tI X.K cl W (evIt T (.rng as)) σ H R → tA X.K cl W (evs T as) σ H fun vs H1 => ∃ (ns : List Int) (xs : List D), vs = ns.map V.int ∧ vs.length = es.length ∧ itRng (ns.map D.int) = some xs ∧ ∀ J, (∀ G, Walks X.K J xs G) → R J H1 := by
    rintro σ H R ⟨G, e, F, s, r, h⟩
    have h : Post (rIt X.K) X.K cl W σ G H F ((evs T as e).bind fun ds e1 => Tw.R.of (itRng ds) e1) R := h
    refine ⟨G, e, F, s, r, h.first fun ds e1 G1 H1 F1 vs Fv he s1 r1 rv dj g h1 => ?_⟩
    obtain ⟨xs, hx, h2⟩ := h1.of_
    have hl := hlen _ _ _ he
    have : ∃ ns : List Int, ds = ns.map D.int := by
      unfold itRng at hx
      split at hx
      · exact ⟨[_], rfl⟩
      · exact ⟨[_, _], rfl⟩
      · exact ⟨[_, _, _], rfl⟩
      · cases hx
    obtain ⟨ns, en⟩ := this
    have ev := rds_ints rv en
    refine ⟨ns, xs, ev, ?_, by rw [← en]; exact hx, fun J w => h2.keep s1 r1 (g.sub fun b z => .inl z) ⟨w G1, fun _ z => z⟩⟩
    rw [← hl, ev, en, List.length_map, List.length_map]
  have eight : ∀ {ns : List Int} {xs : List D}, itRng (ns.map D.int) = some xs → (∃ b, ns = [b] ∧ okRg 0 b = true ∧ xs = rgD 0 b) ∨ (∃ a b, ns = [a, b] ∧ okRg a b = true ∧ xs = rgD a b) ∨
      ∃ a b, ns = [a, b, -1] ∧ okRg a b = true ∧ okRg b a = true ∧ xs = (List.range (a - b).toNat).map fun i => D.int (a - (i : Nat)) := by
    intro ns xs h
    match ns, h with
    | [b], h =>
      have h : (if okRg 0 b = true then some (rgD 0 b) else none) = some xs := h
      by_cases q : okRg 0 b = true
      · rw [if_pos q] at h; cases h; exact .inl ⟨b, rfl, q, rfl⟩
      · rw [if_neg q] at h; cases h
    | [a, b], h =>
      have h : (if okRg a b = true then some (rgD a b) else none) = some xs := h
      by_cases q : okRg a b = true
      · rw [if_pos q] at h; cases h; exact .inr (.inl ⟨a, b, rfl, q, rfl⟩)
      · rw [if_neg q] at h; cases h
    | a :: b :: c :: d :: l, h =>
      rw [List.map_cons, List.map_cons, List.map_cons, List.map_cons] at h
      unfold itRng at h
      split at h <;> first | (cases h; done) | (simp_all; done)
    | [a, b, c], h =>
      have hc : c = -1 := by
        rw [List.map_cons, List.map_cons, List.map_cons, List.map_nil] at h
        unfold itRng at h
        split at h <;> first | (cases h; done) | (simp_all; done) | skip
      subst hc
      have h : (if (okRg a b && okRg b a) = true then some ((List.range (a - b).toNat).map fun i => D.int (a - (i : Nat))) else none) = some xs := h
      by_cases q : (okRg a b && okRg b a) = true
      · rw [if_pos q] at h; cases h
        rw [Bool.and_eq_true] at q
        exact .inr (.inr ⟨a, b, rfl, q.1, q.2, rfl⟩)
      · rw [if_neg q] at h; cases h
  match es, hn, h1, h3 with
  | [x], hn, _, _ =>
    simp only [List.all_cons, List.all_nil, Bool.and_true] at hn
    refine PI.imp (pi_range1 hg hm ha (by rw [starEach_cons hn]; rfl)) fun σ H R h => ?_
    refine ta_mono (bare h) fun vs H1 ⟨ns, xs, e1, e2, e3, k⟩ => ?_
    rcases eight e3 with ⟨b, en, q, ex⟩ | ⟨a, b, en, _⟩ | ⟨a, b, en, _⟩
    · subst en; subst ex
      obtain ⟨_, _, q3, q4, _⟩ := okRg_ q
      refine ⟨b, e1, q3, q4, k _ fun G => ?_⟩
      have w := walksR (K := X.K) (a := 0) (n := b.toNat) (G := G)
      have e : rgD 0 b = (List.range b.toNat).map fun i => D.int (0 + (i : Nat)) := by unfold rgD; rw [Int.sub_zero]
      rw [e]; exact w
    · subst en; rw [e1] at e2; cases e2
    · subst en; rw [e1] at e2; cases e2
  | [x, y], hn, _, _ =>
    simp only [List.all_cons, List.all_nil, Bool.and_true, Bool.and_eq_true] at hn
    refine PI.imp (pi_range2 hg hm ha (by rw [starEach_cons hn.1, starEach_cons hn.2]; rfl) (by rw [starEach_cons hn.2]; rfl)) fun σ H R h => ?_
    refine ta_mono (bare h) fun vs H1 ⟨ns, xs, e1, e2, e3, k⟩ => ?_
    rcases eight e3 with ⟨b, en, _⟩ | ⟨a, b, en, q, ex⟩ | ⟨a, b, en, _⟩
    · subst en; rw [e1] at e2; cases e2
    · subst en; subst ex
      obtain ⟨q1, q2, q3, q4, _⟩ := okRg_ q
      exact ⟨a, b, e1, ⟨q1, q2, q3, q4⟩, k _ fun G => walksR⟩
    · subst en; rw [e1] at e2; cases e2
  | [x, y, z], hn, _, _ =>
    simp only [List.all_cons, List.all_nil, Bool.and_true, Bool.and_eq_true] at hn
    refine PI.imp (pi_range3 hg hm ha (starEach_cons hn.1) (backTo_any (by simp [hn.2.1, hn.2.2]))) fun σ H R h => ?_
    refine ta_mono (bare h) fun vs H1 ⟨ns, xs, e1, e2, e3, k⟩ => ?_
    rcases eight e3 with ⟨b, en, _⟩ | ⟨a, b, en, _⟩ | ⟨a, b, en, q, q', ex⟩
    · subst en; rw [e1] at e2; cases e2
    · subst en; rw [e1] at e2; cases e2
    · subst en; subst ex
      obtain ⟨q1, q2, q3, q4, _⟩ := okRg_ q
      exact ⟨a, b, -1, _, e1, RgC.neg q1 q2 q3 q4, k _ fun G => walksD⟩
end
end Tw

set_option Elab.async false
set_option linter.all false
set_option maxRecDepth 100000
set_option maxHeartbeats 4000000
/-! Tw11: the meaning of the language is the text's. -/
namespace Tw
open PySem L2
open Classical (propDecidable)
def rB (G H : Hp) (d : Bool) (v : Bool) (F : AS) : Prop := d = v ∧ ∀ b, ¬ F b
def asB (d : D) (e : Env) : R Bool := match d with
  | .bl b => .ok b e
  | _ => .no
/-- what a test asks -/
def tT (K : PySem.W.Frag) (cl : Nat → Addr) (W : WX) (f : Env → R D) : TT := fun σ H Q => ∃ G e F, Same G H ∧ ROs K G H true e σ F ∧ Post (rB) K cl W σ G H F ((f e).bind asB) Q
section
variable {S : Sg} {T : Fns} {cl : Nat → Addr} {X : Cx} {W : WX} {σ : St} {G H G0 H0 : Hp} {F F0 Fv : AS} {e : Env} {K : PySem.W.Frag} {α β : Type} {rep : Hp → Hp → α → β → AS → Prop}
theorem asB_of {d : D} {e : Env} {f : Bool → Env → R α} {Q : β → Hp → Prop} (h : Post rep K cl W σ G H F ((asB d e).bind f) Q) : ∃ b, d = .bl b ∧ Post rep K cl W σ G H F (f b e) Q := by
  cases d with
  | bl b => exact ⟨b, rfl, h⟩
  | _ => exact h.elim
theorem Post.first' {γ δ : Type} {r : R γ} {rep' : Hp → Hp → γ → δ → AS → Prop} {Q : δ → Hp → Prop} {Q' : δ → Hp → Prop} (h : Post rep' K cl W σ G H F r Q) (i : ∀ v H, Q v H → Q' v H) : Post rep' K cl W σ G H F r Q' := by
  cases r with
  | ok d e => exact fun G' H' F' v Fv a b c d g => i _ _ (h G' H' F' v Fv a b c d g)
  | ex c w e => exact h
  | no => exact h
theorem te_mono {f : Env → R D} {Q Q' : VK} (h : tE K cl W f σ H Q) (i : ∀ v H, Q v H → Q' v H) : tE K cl W f σ H Q' := by
  obtain ⟨G, e, F, s, r, h⟩ := h
  exact ⟨G, e, F, s, r, h.first' i⟩
/-- a truth value as it comes -/
theorem RO.bl_ {b : Bool} {v : V} (h : RO K G H (.bl b) (some v) F) : v = .bl b ∧ ∀ c, ¬ F c := by
  obtain ⟨⟨w, e, r⟩, n⟩ := h
  cases e
  exact ⟨r, n⟩
theorem RO.int_ {b : Int} {v : V} (h : RO K G H (.int b) (some v) F) : v = .int b ∧ ∀ c, ¬ F c := by
  obtain ⟨⟨w, e, r⟩, n⟩ := h
  cases e
  exact ⟨r, n⟩
theorem good_emp {F' Fv : AS} {G' H' : Hp} (g : Good G H F G' H' (AS.uni F' Fv)) : Good G H F G' H' F' := g.sub fun b z => .inl z
/-- a test from a value -/
theorem askT {f : Env → R D} {Q : Bool → Hp → Prop} (h : tT K cl W f σ H Q) : tE K cl W f σ H fun x H1 => ∃ k, x = .bl k ∧ Q k H1 := by
  obtain ⟨G, e, F, s, r, h⟩ := h
  refine ⟨G, e, F, s, r, h.first fun d e1 G1 H1 F1 v Fv _ s1 r1 rv dj g h1 => ?_⟩
  cases d with
  | bl b =>
    obtain ⟨ev, n⟩ := rv.bl_
    exact ⟨b, ev, h1 G1 H1 F1 b AS.emp s1 r1 ⟨rfl, fun _ z => z⟩ dis_emp (g.sub fun b z => z.elim .inl fun z => z.elim)⟩
  | _ => exact h1.elim
/-- a value from a test -/
theorem teT {f : Env → R D} {g : Bool → Env → R D} {Q : VK} {N : Bool → Hp → Prop} (s : Same G H) (r : ROs K G H true e σ F) (h : Post (rD K) K cl W σ G H F (((f e).bind asB).bind g) Q)
    (k : ∀ b e1 G1 H1 F1, Same G1 H1 → ROs K G1 H1 true e1 σ F1 → Good G H F G1 H1 F1 → Post (rD K) K cl W σ G1 H1 F1 (g b e1) Q → N b H1) : tT K cl W f σ H N :=
  ⟨G, e, F, s, r, h.first fun d e1 G1 H1 F1 v Fv _ s1 r1 rv dj g h1 => by
    obtain ⟨ev, n⟩ := rv
    subst ev
    exact k d e1 G1 H1 F1 s1 r1 (good_emp g) (h1.shift (good_emp g) fun _ z => z)⟩
def plainT : Expr → Bool
  | .UnaryOp .Not _ _ => false
  | .BoolOp .. => false
  | .IfExp .. => false
  | .Compare .. => false
  | _ => true
theorem plainT_ok {e : Expr} {env : PySem.Env} (h : plainT e = true) (whole : Sem Value) : isTrue e env whole = (do let v ← whole; standAt e.pos; holding [v] (truthy v)) := by
  cases e with
  | UnaryOp op a pos => cases op <;> first | rfl | cases h
  | _ => first | rfl | cases h
/-- the test of a value -/
theorem ptE {e : Expr} {a : IE} (h : PE X e (tE X.K cl W (ev T a))) (p : plainT e = true) : PT X e (tT X.K cl W (ev T a)) :=
  PT.imp (pt_val h fun whole => plainT_ok p whole) fun σ H Q q => askT q
theorem tOp_mono {r : R2} {a b : IE} {Q Q' : VK} (h : tOp r (tO K cl W T a) (tO K cl W T b) σ H Q) (i : ∀ x y H, r x y H Q → r x y H Q') : tOp r (tO K cl W T a) (tO K cl W T b) σ H Q' := by
  have mono : ∀ {a : IE} {σ H} {Q Q' : VK}, tO K cl W T a σ H Q → (∀ v H, Q v H → Q' v H) → tO K cl W T a σ H Q' := by
    intro a σ H Q Q' h i
    unfold tO at h ⊢
    cases q : a.isSlot with
    | some j => rw [q] at h; obtain ⟨v, h1, h2⟩ := h; exact ⟨v, h1, i _ _ h2⟩
    | none => rw [q] at h; exact te_mono h i
  exact mono h fun x H1 h1 => mono h1 fun y H2 h2 => i x y H2 h2
theorem U2.mono {p : P2} {x y : V} {H : Hp} {Q Q' : VK} (h : U2 K p x y H Q) (i : ∀ v H, Q v H → Q' v H) : U2 K p x y H Q' := by
  obtain ⟨d1, d2, d', G, s, r1, r2, e, q⟩ := h
  exact ⟨d1, d2, d', G, s, r1, r2, e, fun v p => i _ _ (q.1 v p), fun xs vs e p a n => i _ _ (q.2.1 xs vs e p a n), fun xs vs e p a n => i _ _ (q.2.2 xs vs e p a n)⟩
/-- a test by two operands -/
theorem ask2T {p : P2} {a b : IE} {Q : Bool → Hp → Prop} (h : tT K cl W (ev T (.p2 p a b)) σ H Q) : tTest (tOp (U2 K p) (tO K cl W T a) (tO K cl W T b)) σ H Q := ask2 (askT h)
theorem tO_of {a : IE} {e : Expr} (k : Kx S T cl X W) (ok : okE a S e = true) (h : PE X e (tE X.K cl W (ev T a))) : PE X e (tO X.K cl W T a) := by
  unfold tO
  cases q : a.isSlot with
  | some i =>
    have := isSlot_some q
    subst this
    cases e with
    | Name x pos => exact k.slot ok
    | _ => cases ok
  | none => exact h
theorem u2_op {p : P2} {op : Operator} (h : binB p op = true) : OpR X (binaryOp op) (U2 X.K p) := by
  cases p <;> cases op <;> first | (cases h; done) | exact u_add | exact u_sub | exact u_mul | exact u_fdiv | exact u_mod | exact u_pow
theorem u2_cmp {p : P2} {op : CmpOp} (hu : X.A.units + 65 < cLine) (h : cmpB p op = true) : OpR X (compareOp op) (U2 X.K p) := by
  have hv : X.A.units + 64 < cLine := by omega
  cases p <;> cases op <;> first | (cases h; done) | exact u_eq hv | exact u_ne hv | exact u_lt hv | exact u_le hv | exact u_gt | exact u_ge | exact u_in hu | exact u_notin hu
/-- one argument as a list of one -/
theorem pa_one {ea : Expr} {ta : TE} (h : PE X ea ta) (n : notStar ea = true) : PA X [ea] (tCons ta tNil) := pa_cons h pa_nil (starEach_cons n)
theorem pa_two {ea eb : Expr} {ta tb : TE} (h : PE X ea ta) (h' : PE X eb tb) (n : notStar ea = true) (n' : notStar eb = true) : PA X [ea, eb] (tCons ta (tCons tb tNil)) := pa_cons h (pa_cons h' pa_nil (starEach_cons n')) (starEach_cons n)
theorem call1_ok {S : Sg} {x : Str} {e ea : Expr} (h : call1 S x e = some ea) : ∃ p pos, e = .Call (.Name x p) [ea] [] pos ∧ bltB S x = true ∧ notStar ea = true := by
  unfold call1 at h
  split at h
  · rename_i y p a pos
    by_cases q : (decide (y = x) && bltB S x && notStar a) = true
    · rw [if_pos q] at h
      cases h
      simp only [Bool.and_eq_true, decide_eq_true_eq] at q
      obtain ⟨⟨q1, q2⟩, q3⟩ := q
      subst q1
      exact ⟨p, pos, rfl, q2, q3⟩
    · rw [if_neg q] at h; cases h
  · cases h
theorem call2_ok {S : Sg} {x : Str} {e ea eb : Expr} (h : call2 S x e = some (ea, eb)) : ∃ p pos, e = .Call (.Name x p) [ea, eb] [] pos ∧ bltB S x = true ∧ notStar ea = true ∧ notStar eb = true := by
  unfold call2 at h
  split at h
  · rename_i y p a b pos
    by_cases q : (decide (y = x) && bltB S x && notStar a && notStar b) = true
    · rw [if_pos q] at h
      cases h
      simp only [Bool.and_eq_true, decide_eq_true_eq] at q
      obtain ⟨⟨⟨q1, q2⟩, q3⟩, q4⟩ := q
      subst q1
      exact ⟨p, pos, rfl, q2, q3, q4⟩
    · rw [if_neg q] at h; cases h
  · cases h
theorem cB (k : Kx S T cl X W) {x : Str} {id : String} {e ea : Expr} {p : P1} {ta : TE} (h : call1 S x e = some ea) (hc : CallR X (.builtin id) (UC X.K p)) (hv : bootBuiltins x = some (.builtin id)) (ha : PE X ea ta) :
    PE X e (fun σ H Q => ta σ H fun x H1 => U1 X.K p x H1 Q) := by
  obtain ⟨pp, pos, rfl, hb, hn⟩ := call1_ok h
  obtain ⟨g1, g2, g3, g4⟩ := k.bl_ hb
  exact PE.imp (pe_callB hc g1 g4 hv (pa_one ha hn) g3 g2 (starEach_cons hn) rfl) fun σ H Q q => te_imp ha q
where te_imp {ea : Expr} {ta : TE} {σ : St} {H : Hp} {Q : VK} {p : P1} (ha : PE X ea ta) (q : ta σ H fun x H1 => U1 X.K p x H1 Q) : tCB (UC X.K p) (tCons ta tNil) σ H Q := by
        show ta σ H fun x H1 => UC X.K p [x] H1 Q
        have : (fun x H1 => UC X.K p [x] H1 Q) = fun x H1 => U1 X.K p x H1 Q := funext fun x => funext fun H1 => propext ⟨fun ⟨y, e, z⟩ => by cases e; exact z, fun z => ⟨x, rfl, z⟩⟩
        rw [this]; exact q
theorem cTy (k : Kx S T cl X W) {x : Str} {id : String} {e ea : Expr} {p : P1} {ta : TE} (h : call1 S x e = some ea) (hc : CallR X (.type id) (UC X.K p)) (hv : bootBuiltins x = some (.type id)) (ha : PE X ea ta) :
    PE X e (fun σ H Q => ta σ H fun x H1 => U1 X.K p x H1 Q) := by
  obtain ⟨pp, pos, rfl, hb, hn⟩ := call1_ok h
  obtain ⟨g1, g2, g3, g4⟩ := k.bl_ hb
  exact PE.imp (pe_callTy hc g1 g4 hv (pa_one ha hn) g3 g2 (starEach_cons hn) rfl) fun σ H Q q => cB.te_imp ha q
theorem boot_ty (t : Ty) : bootBuiltins (Str.ofString (tyN t)) = some (.type (tyN t)) := by cases t <;> decide +kernel
theorem to_mono {a : IE} {σ : St} {H : Hp} {Q Q' : VK} (h : tO K cl W T a σ H Q) (i : ∀ v H, Q v H → Q' v H) : tO K cl W T a σ H Q' := by
  unfold tO at h ⊢
  cases q : a.isSlot with
  | some j => rw [q] at h; obtain ⟨v, h1, h2⟩ := h; exact ⟨v, h1, i _ _ h2⟩
  | none => rw [q] at h; exact te_mono h i
theorem fNeg_ok {e ea : Expr} (h : fNeg e = some ea) : ∃ pos, e = .UnaryOp .USub ea pos := by
  unfold fNeg at h
  split at h
  · cases h; exact ⟨_, rfl⟩
  · cases h
theorem fIs_ok {o : CmpOp} {e ea : Expr} (h : fIs o e = some ea) : ∃ i p1 pos, e = .Compare ea [o] [.Constant .none i p1] pos := by
  unfold fIs at h
  split at h
  · rename_i a op i p1 pos
    by_cases q : op = o
    · rw [if_pos q] at h
      cases h
      subst q
      exact ⟨_, _, _, rfl⟩
    · rw [if_neg q] at h; cases h
  · cases h
theorem fTy_ok {S : Sg} {t : Ty} {e ea : Expr} (h : fTy S t e = some ea) : ∃ y p, call2 S "isinstance" e = some (ea, .Name y p) ∧ y = Str.ofString (tyN t) ∧ bltB S y = true := by
  unfold fTy at h
  split at h
  · rename_i a y p hq
    by_cases q : (decide (y = Str.ofString (tyN t)) && bltB S y) = true
    · rw [if_pos q] at h
      cases h
      simp only [Bool.and_eq_true, decide_eq_true_eq] at q
      exact ⟨y, p, hq, q.1, q.2⟩
    · rw [if_neg q] at h; cases h
  · cases h
theorem rv_non {d : D} {v : V} (h : RV K G H d v) : sem1 .isN d = some (.bl (decide (v = .non))) ∧ sem1 .notN d = some (.bl (!decide (v = .non))) := by
  cases d with
  | hole => exact (show False from h).elim
  | non => cases (show v = .non from h); exact ⟨rfl, rfl⟩
  | bl b => cases (show v = .bl b from h); exact ⟨rfl, rfl⟩
  | int b => cases (show v = .int b from h); exact ⟨rfl, rfl⟩
  | str b => cases (show v = .str b from h); exact ⟨rfl, rfl⟩
  | tup xs => obtain ⟨a, vs, e, _⟩ := (show ∃ a vs, v = .ref a ∧ SqT K G a vs ∧ RPs K G xs vs from h); subst e; exact ⟨rfl, rfl⟩
  | lst o xs => obtain ⟨a, vs, e, _⟩ := h; subst e; exact ⟨rfl, rfl⟩
  | rng lo hi => obtain ⟨a, e, _⟩ := (show ∃ a, v = .ref a ∧ G a = some (.rng lo hi) from h); subst e; exact ⟨rfl, rfl⟩
  | scr xs => obtain ⟨a, e, _⟩ := (show ∃ a, v = .ref a ∧ SqL K G a (xs.map V.int) from h); subst e; exact ⟨rfl, rfl⟩
/-- an operation of one place, by the operand -/
theorem s1 (k : Kx S T cl X W) {p : P1} {e ea : Expr} {a : IE} (h : form1 S p e = some ea) (ha : PE X ea (tO X.K cl W T a)) : PE X e (fun σ H Q => tO X.K cl W T a σ H fun x H1 => U1 X.K p x H1 Q) := by
  cases p with
  | len => exact cB k (show call1 S "len" e = some ea from h) u_len (by decide +kernel) ha
  | tuple => exact cTy k (show call1 S "tuple" e = some ea from h) u_tuple (by decide +kernel) ha
  | list => exact cTy k (show call1 S "list" e = some ea from h) u_list (by decide +kernel) ha
  | int => exact cTy k (show call1 S "int" e = some ea from h) u_int (by decide +kernel) ha
  | sorted => exact cB k (show call1 S "sorted" e = some ea from h) u_sorted (by decide +kernel) ha
  | min =>
    have h : (if S.hot = true then none else call1 S "min" e) = some ea := h
    cases q : S.hot with
    | true => rw [if_pos q] at h; cases h
    | false => rw [if_neg (by rw [q]; exact Bool.false_ne_true)] at h; exact cB k h (u_min (k.calm q)) (by decide +kernel) ha
  | max =>
    have h : (if S.hot = true then none else call1 S "max" e) = some ea := h
    cases q : S.hot with
    | true => rw [if_pos q] at h; cases h
    | false => rw [if_neg (by rw [q]; exact Bool.false_ne_true)] at h; exact cB k h (u_max (k.calm q)) (by decide +kernel) ha
  | sum =>
    have h : (if S.hot = true then none else call1 S "sum" e) = some ea := h
    cases q : S.hot with
    | true => rw [if_pos q] at h; cases h
    | false => rw [if_neg (by rw [q]; exact Bool.false_ne_true)] at h; exact cB k h (u_sum (k.calm q)) (by decide +kernel) ha
  | neg =>
    obtain ⟨pos, rfl⟩ := fNeg_ok (show fNeg e = some ea from h)
    exact pe_un u_neg ha
  | isN =>
    obtain ⟨i, p1, pos, rfl⟩ := fIs_ok (show fIs .Is e = some ea from h)
    refine PE.imp (pe_cmpR op_isN ha pe_non (nomark _)) fun σ H Q q => ?_
    refine to_mono q fun x H1 ⟨d, d', G, s, r, eq, q⟩ => ⟨rfl, ?_⟩
    rw [(rv_non r).1] at eq
    cases eq
    exact q.1 _ rfl
  | notN =>
    obtain ⟨i, p1, pos, rfl⟩ := fIs_ok (show fIs .IsNot e = some ea from h)
    refine PE.imp (pe_cmpR op_notN ha pe_non (nomark _)) fun σ H Q q => ?_
    refine to_mono q fun x H1 ⟨d, d', G, s, r, eq, q⟩ => ⟨rfl, ?_⟩
    rw [(rv_non r).2] at eq
    cases eq
    exact q.1 _ rfl
  | isTy t =>
    obtain ⟨y, py, h1, h2, h3⟩ := fTy_ok (show fTy S t e = some ea from h)
    obtain ⟨pp, pos, rfl, hb, hn, hn2⟩ := call2_ok h1
    obtain ⟨g1, g2, g3, g4⟩ := k.bl_ hb
    obtain ⟨t1, t2, t3, t4⟩ := k.bl_ h3
    have ht : PE X (.Name y py) (tC (.ty (tyN t))) := pe_bltn t1 t4 (by rw [h2]; exact boot_ty t) rfl t3 t2
    refine PE.imp (pe_callB (u_isTy t) g1 g4 (by decide +kernel) (pa_two ha ht hn hn2) g3 g2 (starEach_cons hn) (backTo_any (by simp [notStar]))) fun σ H Q q => ?_
    exact to_mono q fun x H1 u => ⟨x, rfl, u⟩
theorem binB_sub {p : P2} {op : Operator} (h : binB p op = true) : True := trivial
/-- an operation of two places, by the operands -/
theorem s2 (k : Kx S T cl X W) {p : P2} {e ea eb : Expr} {a b : IE} (h : form2 S p e = some (ea, eb)) (ha : PE X ea (tO X.K cl W T a)) (hb : PE X eb (tO X.K cl W T b)) : PE X e (tOp (U2 X.K p) (tO X.K cl W T a) (tO X.K cl W T b)) := by
  unfold form2 at h
  split at h
  · rename_i p' a' op b' pos
    by_cases q : binB p op = true
    · rw [if_pos q] at h; cases h; exact pe_op (u2_op q) ha hb
    · rw [if_neg q] at h; cases h
  · rename_i p' a' op b' pos
    by_cases q : (cmpB p op && noSet b') = true
    · rw [if_pos q] at h; cases h
      rw [Bool.and_eq_true] at q
      exact pe_cmpR (u2_cmp k.un q.1) ha hb (mark_ok q.2)
    · rw [if_neg q] at h; cases h
  · rename_i a' b' pos
    by_cases q : plainIx b' = true
    · rw [if_pos q] at h; cases h; exact pe_ix u_ix ha hb (plainIx_ok q)
    · rw [if_neg q] at h; cases h
  · cases q : S.hot with
    | true => rw [if_pos q] at h; cases h
    | false =>
      rw [if_neg (by rw [q]; exact Bool.false_ne_true)] at h
      obtain ⟨pp, pos, rfl, hbl, hn, hn2⟩ := call2_ok h
      obtain ⟨g1, g2, g3, g4⟩ := k.bl_ hbl
      refine PE.imp (pe_callB (u_min2 (k.calm q)) g1 g4 (by decide +kernel) (pa_two ha hb hn hn2) g3 g2 (starEach_cons hn) (backTo_any (by simp [hn2]))) fun σ H Q q => ?_
      exact to_mono q fun x H1 q1 => to_mono q1 fun y H2 u => ⟨x, y, rfl, u⟩
  · cases q : S.hot with
    | true => rw [if_pos q] at h; cases h
    | false =>
      rw [if_neg (by rw [q]; exact Bool.false_ne_true)] at h
      obtain ⟨pp, pos, rfl, hbl, hn, hn2⟩ := call2_ok h
      obtain ⟨g1, g2, g3, g4⟩ := k.bl_ hbl
      refine PE.imp (pe_callB (u_max2 (k.calm q)) g1 g4 (by decide +kernel) (pa_two ha hb hn hn2) g3 g2 (starEach_cons hn) (backTo_any (by simp [hn2]))) fun σ H Q q => ?_
      exact to_mono q fun x H1 q1 => to_mono q1 fun y H2 u => ⟨x, y, rfl, u⟩
  · cases h
end
end Tw

set_option Elab.async false
set_option linter.all false
set_option maxRecDepth 100000
set_option maxHeartbeats 4000000
/-! Tw12: targets; the slots of a comprehension put aside; its loop. -/
namespace Tw
open PySem L2
open Classical (propDecidable)
section
variable {S : Sg} {T : Fns} {cl : Nat → Addr} {X : Cx} {W : WX} {σ : St} {G H G0 H0 : Hp} {F F0 Fv : AS} {e : Env} {K : PySem.W.Frag} {α β : Type} {rep : Hp → Hp → α → β → AS → Prop}

/-! ### targets -/
/-- outside of vs the slots are the same -/
def Agr (vs : List Nat) (σ σ' : St) : Prop := σ'.length = σ.length ∧ ∀ i, i ∉ vs → σ'[i]? = σ[i]?
theorem Agr.refl (vs : List Nat) (σ : St) : Agr vs σ σ := ⟨rfl, fun _ _ => rfl⟩
theorem Agr.trans {vs : List Nat} {σ σ' σ'' : St} (a : Agr vs σ σ') (b : Agr vs σ' σ'') : Agr vs σ σ'' := ⟨b.1.trans a.1, fun i h => (b.2 i h).trans (a.2 i h)⟩
theorem Agr.set {vs : List Nat} {σ : St} {i : Nat} {v : Option V} (h : i ∈ vs) : Agr vs σ (σ.set i v) := ⟨by rw [List.length_set], fun j hj => List.getElem?_set_ne (show i ≠ j from fun z => hj (z ▸ h))⟩
theorem Agr.mono {vs vs' : List Nat} {σ σ' : St} (a : Agr vs σ σ') (h : ∀ i, i ∈ vs → i ∈ vs') : Agr vs' σ σ' := ⟨a.1, fun i hi => a.2 i fun z => hi (h i z)⟩
/-- what a target asks: a shared datum is stored -/
def tG (K : PySem.W.Frag) (vs : List Nat) (t : Tg) : TG := fun v σ H Q => ∃ G e F d e', Same G H ∧ ROs K G H true e σ F ∧ RP K G d v ∧ asg t d e = some e' ∧
  ∀ σ' F', ROs K G H true e' σ' F' → (∀ b, F' b → F b) → Agr vs σ σ' → Q σ' H
def tGs (K : PySem.W.Frag) (vs : List Nat) (ts : List Tg) : TGs := fun ws σ H Q => ∃ G e F ds e', Same G H ∧ ROs K G H true e σ F ∧ RPs K G ds ws ∧ asgs ts ds e = some e' ∧
  ∀ σ' F', ROs K G H true e' σ' F' → (∀ b, F' b → F b) → Agr vs σ σ' → Q σ' H
theorem PG.imp {e : Expr} {g g' : TG} (h : PG X e g) (i : ∀ v σ H Q, g' v σ H Q → g v σ H Q) : PG X e g' := ⟨fun pins s σ H v u Q I r q => h.run pins s σ H v u Q I r (i _ _ _ _ q)⟩
theorem PGs.imp {e : List Expr} {g g' : TGs} (h : PGs X e g) (i : ∀ v σ H Q, g' v σ H Q → g v σ H Q) : PGs X e g' := ⟨fun pins s σ H v u Q I r q => h.run pins s σ H v u Q I r (i _ _ _ _ q)⟩
theorem PG.or {e : Expr} {g g' : TG} (h : PG X e g) (h' : PG X e g') : PG X e (fun v σ H Q => g v σ H Q ∨ g' v σ H Q) :=
  ⟨fun pins s σ H v u Q I r q => q.elim (fun q => h.run pins s σ H v u Q I r q) fun q => h'.run pins s σ H v u Q I r q⟩
theorem asgEach_cons {e : Expr} {es : List Expr} {env : PySem.Env} (h : notStar e = true) : assignEach (e :: es) env = (false, assign e env) :: assignEach es env := by
  cases e <;> first | rfl | cases h
theorem asgEach_len {env : PySem.Env} : ∀ {es : List Expr}, es.all notStar = true → (assignEach es env).length = es.length ∧ (assignEach es env).findIdx? (·.1) = none
  | [], _ => ⟨rfl, rfl⟩
  | e :: es, h => by
    rw [List.all_cons, Bool.and_eq_true] at h
    obtain ⟨h1, h2⟩ := asgEach_len (env := env) h.2
    rw [asgEach_cons h.1]
    refine ⟨by rw [List.length_cons, List.length_cons, h1], ?_⟩
    rw [List.findIdx?_cons, h2]; rfl
theorem asgs_len : ∀ {ts : List Tg} {ds : List D} {e e' : Env}, asgs ts ds e = some e' → ts.length = ds.length
  | [], [], _, _, _ => rfl
  | [], _ :: _, _, _, h => by cases h
  | _ :: _, [], _, _, h => by cases h
  | t :: ts, d :: ds, e, e', h => by
    obtain ⟨e1, _, h2⟩ := Option.bind_eq_some_iff.mp (show (asg t d e).bind (fun e' => asgs ts ds e') = some e' from h)
    rw [List.length_cons, List.length_cons, asgs_len h2]
theorem okTgs_len : ∀ {ts : List Tg} {es : List Expr}, okTgs S ts es = true → ts.length = es.length ∧ es.all notStar = true
  | [], [], _ => ⟨rfl, rfl⟩
  | [], _ :: _, h => by cases h
  | _ :: _, [], h => by cases h
  | t :: ts, e :: es, h => by
    have h : (notStar e && okTg S t e && okTgs S ts es) = true := h
    simp only [Bool.and_eq_true] at h
    obtain ⟨a, b⟩ := okTgs_len h.2
    exact ⟨by rw [List.length_cons, List.length_cons, a], by rw [List.all_cons, h.1.1, b]; rfl⟩
mutual
theorem sTg {vs : List Nat} (k : Kx S T cl X W) : ∀ {t : Tg} {e : Expr}, okTg S t e = true → tgIn vs t = true → PG X e (tG X.K vs t)
  | .nm i, e, h, hv => by
    cases e with
    | Name x pos =>
      obtain ⟨a, b, c⟩ := k.tg h
      refine PG.imp (pg_name k.nd a b c) fun v σ H Q q => ?_
      obtain ⟨G, e, F, d, e', s, r, rp, ha, kk⟩ := q
      have ha : (if i < e.length then some (e.set i d) else none) = some e' := ha
      by_cases hl : i < e.length
      · rw [if_pos hl] at ha
        cases ha
        obtain ⟨F', r', hF⟩ := putNew (F1 := AS.emp) r hl (.inr rp.ro) (fun _ _ z => z)
        exact kk _ F' r' (fun b z => (hF b z).elim id fun z => z.elim) (Agr.set (by simpa [tgIn] using hv))
      · rw [if_neg hl] at ha; cases ha
    | _ => cases h
  | .tp ts, e, h, hv => by
    cases e with
    | Tuple es kk pos =>
      have h : (!S.hot && okTgs S ts es) = true := h
      rw [Bool.and_eq_true] at h
      have hc : X.calm = true := k.calm (by simpa using h.1)
      have hs := sTgs k h.2 (show tgsIn vs ts = true from hv)
      obtain ⟨hl, hn⟩ := okTgs_len h.2
      obtain ⟨l1, l2⟩ := asgEach_len (env := X.env) hn
      refine PG.imp (PG.or (pg_tup (n := es.length) hc hs l1 l2) (pg_lst (n := es.length) hc hs l1 l2)) fun v σ H Q q => ?_
      obtain ⟨G, e, F, d, e', s, r, rp, ha, kk⟩ := q
      cases d with
      | tup ds =>
        obtain ⟨a, ws, ev, h1, h2⟩ := (show ∃ a vs, v = .ref a ∧ SqT X.K G a vs ∧ RPs X.K G ds vs from rp)
        exact .inl ⟨a, ws, ev, sqT_same s h1, by rw [h2.len, ← asgs_len (show asgs ts ds e = some e' from ha), hl], G, e, F, ds, e', s, r, h2, ha, kk⟩
      | lst o ds => cases o with
        | true => cases ha
        | false =>
          obtain ⟨_, a, ws, ev, h1, h2⟩ := rp
          exact .inr ⟨a, ws, ev, SqL.of (s _ _ h1), by rw [h2.len, ← asgs_len (show asgs ts ds e = some e' from ha), hl], G, e, F, ds, e', s, r, h2, ha, kk⟩
      | _ => cases ha
    | _ => cases h
theorem sTgs {vs : List Nat} (k : Kx S T cl X W) : ∀ {ts : List Tg} {es : List Expr}, okTgs S ts es = true → tgsIn vs ts = true → PGs X es (tGs X.K vs ts)
  | [], [], _, _ => PGs.imp pgs_nil fun ws σ H Q q => by
    obtain ⟨G, e, F, ds, e', s, r, rp, ha, kk⟩ := q
    cases ds with
    | nil => cases ha; exact ⟨rp, kk σ F r (fun _ z => z) (Agr.refl _ _)⟩
    | cons _ _ => cases ha
  | [], _ :: _, h, _ => by cases h
  | _ :: _, [], h, _ => by cases h
  | t :: ts, e :: es, h, hv => by
    have h : (notStar e && okTg S t e && okTgs S ts es) = true := h
    simp only [Bool.and_eq_true] at h
    have hv : (tgIn vs t && tgsIn vs ts) = true := hv
    rw [Bool.and_eq_true] at hv
    refine PGs.imp (pgs_cons (sTg k h.1.2 hv.1) (sTgs k h.2 hv.2) (by rw [asgEach_cons h.1.1]; rfl)) fun ws σ H Q q => ?_
    obtain ⟨G, e, F, ds, e', s, r, rp, ha, kk⟩ := q
    cases ds with
    | nil => cases ha
    | cons d ds =>
      obtain ⟨e1, h1, h2⟩ := Option.bind_eq_some_iff.mp (show (asg t d e).bind (fun e' => asgs ts ds e') = some e' from ha)
      obtain ⟨w, ws', ew, r1, r2⟩ := rp
      exact ⟨w, ws', ew, G, e, F, d, e1, s, r, r1, h1, fun σ1 F1 ro hF ag => ⟨G, e1, F1, ds, e', s, ro, r2, h2, fun σ2 F2 ro2 hF2 ag2 => kk σ2 F2 ro2 (fun b z => hF b (hF2 b z)) (ag.trans ag2)⟩⟩
end

/-! ### the slots of a comprehension -/
theorem ROs.holeAt {i : Nat} {o : Option V} (r : ROs K G H true e σ F) (h : gt e i = .hole) : ROs K G H true e (σ.set i o) F := by
  by_cases hl : i < e.length
  · have hg : e[i]? = some .hole := by
      unfold gt at h
      rw [List.getElem?_eq_getElem hl] at h ⊢
      exact congrArg some h
    obtain ⟨o', F1, F0, ho, hr, dj, hF, up⟩ := r.at hg
    have hr : ∀ b, ¬ F1 b := by
      rcases hr with ⟨_, _, n⟩ | hr
      · exact n
      · exact hr.elim
    have u := up G H .hole o AS.emp (Same.refl _) (fun b z => ⟨rfl, (r.own b ((hF b).mpr (.inl z))).1⟩) (.inl ⟨rfl, rfl, fun _ z => z⟩) (fun _ _ z => z)
    have es : e.set i .hole = e := by
      obtain ⟨h1, h2⟩ := List.getElem?_eq_some_iff.mp hg
      rw [← h2]; exact List.set_getElem_self h1
    rw [es] at u
    exact u.congr fun b => (hF b).trans ⟨fun z => z.elim .inl fun z => (hr b z).elim, fun z => z.elim .inl fun z => z.elim⟩
  · have : σ.set i o = σ := List.set_eq_of_length_le (by rw [r.len]; omega)
    rw [this]; exact r
theorem clear {i : Nat} (r : ROs K G H true e σ F) : ∃ F0 F1, ROs K G H true (e.set i .hole) σ F0 ∧ Dis F0 F1 ∧ (∀ b, F b ↔ (F0 b ∨ F1 b)) ∧
    ∀ (G' H' : Hp) (e2 : Env) (F2 : AS), e2.length = e.length → Same G G' → (∀ b, F1 b → H' b = H b ∧ G' b = none) → ROs K G' H' true e2 σ F2 → Dis F2 F1 →
      ∃ F3, ROs K G' H' true (e2.set i (gt e i)) σ F3 ∧ ∀ b, F3 b → F2 b ∨ F1 b := by
  by_cases nh : gt e i = .hole
  · have e0 : ∀ e2 : Env, e2.length = e.length → ∀ {G H : Hp} {F : AS}, ROs K G H true e2 σ F → ∃ F3, ROs K G H true (e2.set i .hole) σ F3 ∧ ∀ b, F3 b → F b := by
      intro e2 hl G H F r
      by_cases hi : i < e2.length
      · obtain ⟨o', F1, F0, ho, hr, dj, hF, up⟩ := r.at (List.getElem?_eq_getElem hi)
        have u := up G H .hole o' AS.emp (Same.refl _) (fun b z => ⟨rfl, (r.own b ((hF b).mpr (.inl z))).1⟩) (.inl ⟨rfl, rfl, fun _ z => z⟩) (fun _ _ z => z)
        rw [set_same ho] at u
        exact ⟨_, u, fun b z => (hF b).mpr (z.elim .inl fun z => z.elim)⟩
      · rw [List.set_eq_of_length_le (by omega)]
        exact ⟨F, r, fun _ z => z⟩
    have es : e.set i .hole = e := by
      by_cases hl : i < e.length
      · have hg : e[i]? = some .hole := by
          unfold gt at nh
          rw [List.getElem?_eq_getElem hl] at nh ⊢
          exact congrArg some nh
        obtain ⟨h1, h2⟩ := List.getElem?_eq_some_iff.mp hg
        rw [← h2]; exact List.set_getElem_self h1
      · exact List.set_eq_of_length_le (by omega)
    refine ⟨F, AS.emp, by rw [es]; exact r, fun _ _ z => z, fun b => ⟨.inl, fun z => z.elim id fun z => z.elim⟩, fun G' H' e2 F2 hl s k r2 dj => ?_⟩
    rw [nh]
    obtain ⟨F3, r3, h3⟩ := e0 e2 hl r2
    exact ⟨F3, r3, fun b z => .inl (h3 b z)⟩
  · obtain ⟨v, F1, F0, hv, rv, dj, hF, r0⟩ := takeOut r nh
    refine ⟨F0, F1, r0, dj, hF, fun G' H' e2 F2 hl s k r2 dj2 => ?_⟩
    exact putIn r2 hv (.inr (rv.frame s k)) dj2
theorem gt_set_same {i : Nat} {d : D} (h : i < e.length) : gt (e.set i d) i = d := by
  unfold gt
  rw [List.getElem?_set_self h]; rfl
theorem wipe_all : ∀ {own : List (Str × Nat)} {e : Env} {F : AS}, (own.map (·.2)).Nodup → ROs K G H true e σ F → ∃ F0 F1, ROs K G H true (wipeE own e) σ F0 ∧ Dis F0 F1 ∧ (∀ b, F b ↔ (F0 b ∨ F1 b)) ∧ (∀ i ∈ own.map (·.2), gt (wipeE own e) i = .hole) ∧ (wipeE own e).length = e.length ∧
    ∀ (G' H' : Hp) (e2 : Env) (F2 : AS), e2.length = e.length → Same G G' → (∀ b, F1 b → H' b = H b ∧ G' b = none) → ROs K G' H' true e2 σ F2 → Dis F2 F1 →
      ∃ F3, ROs K G' H' true (unown own e e2) σ F3 ∧ ∀ b, F3 b → F2 b ∨ F1 b
  | [], e, F, _, r => ⟨F, AS.emp, r, fun _ _ z => z, fun b => ⟨.inl, fun z => z.elim id fun z => z.elim⟩, fun i hi => by simp at hi, rfl, fun G' H' e2 F2 hl s k r2 dj => ⟨F2, r2, fun b z => .inl z⟩⟩
  | p :: own, e, F, nd, r => by
    rw [List.map_cons, List.nodup_cons] at nd
    obtain ⟨F0, F1, r0, dj, hF, back⟩ := clear (i := p.2) r
    obtain ⟨E0, E1, q0, djE, hE, hole, hlen, backE⟩ := wipe_all (own := own) nd.2 r0
    have hl0 : (e.set p.2 .hole).length = e.length := List.length_set
    refine ⟨E0, AS.uni E1 F1, q0, fun b z y => y.elim (djE b z) fun y => dj b ((hE b).mpr (.inl z)) y, fun b => ?_, ?_, hlen.trans hl0, fun G' H' e2 F2 hl s k r2 dj2 => ?_⟩
    · rw [hF b, hE b, or_assoc]; rfl
    · intro i hi
      rw [List.map_cons, List.mem_cons] at hi
      by_cases hin : i ∈ own.map (·.2)
      · exact hole i hin
      · have ei : i = p.2 := hi.resolve_right hin
        have keep : ∀ (l : List (Str × Nat)) (e : Env), i ∉ l.map (·.2) → gt (wipeE l e) i = gt e i := by
          intro l
          induction l with
          | nil => intro e _; rfl
          | cons q l ih =>
            intro e hn
            rw [List.map_cons, List.mem_cons, not_or] at hn
            show gt (wipeE l (e.set q.2 .hole)) i = gt e i
            rw [ih _ hn.2, gt_set_ne (fun z => hn.1 z.symm)]
        show gt (wipeE own (e.set p.2 .hole)) i = .hole
        rw [keep own _ hin, ei]
        by_cases hl : p.2 < e.length
        · exact gt_set_same hl
        · unfold gt
          rw [List.getElem?_eq_none (by rw [List.length_set]; omega)]; rfl
    · obtain ⟨F3, r3, h3⟩ := back G' H' e2 F2 hl s (fun b z => k b (.inr z)) r2 (dj2.sub (fun _ z => z) fun b z => .inr z)
      obtain ⟨F4, r4, h4⟩ := backE G' H' (e2.set p.2 (gt e p.2)) F3 (by rw [List.length_set, hl0]; exact hl) s (fun b z => k b (.inl z)) r3 (fun b z y => by
        rcases h3 b z with z | z
        · exact dj2 b z (.inl y)
        · exact dj b ((hE b).mpr (.inr y)) z)
      refine ⟨F4, ?_, fun b z => ?_⟩
      · have same : ∀ (l : List (Str × Nat)) (f : Env), p.2 ∉ l.map (·.2) → unown l (e.set p.2 .hole) f = unown l e f := by
          intro l
          induction l with
          | nil => intro f _; rfl
          | cons q l ih =>
            intro f hn
            rw [List.map_cons, List.mem_cons, not_or] at hn
            show unown l (e.set p.2 .hole) (f.set q.2 (gt (e.set p.2 .hole) q.2)) = unown l e (f.set q.2 (gt e q.2))
            rw [gt_set_ne hn.1]
            exact ih _ hn.2
        rw [same own _ nd.1] at r4
        exact r4
      · rcases h4 b z with z | z
        · exact (h3 b z).imp id .inr
        · exact .inr (.inl z)
/-- the values of wiped slots do not matter -/
theorem ros_wipe : ∀ {vs : List Nat} {σ : St}, (∀ i ∈ vs, gt e i = .hole) → ROs K G H true e σ F → ROs K G H true e (wipe σ vs) F
  | [], _, _, r => r
  | v :: vs, σ, h, r => (ros_wipe (fun i hi => h i (List.mem_cons_of_mem _ hi)) r).holeAt (h v List.mem_cons_self)
theorem ros_agr {vs : List Nat} : ∀ {σ σ' : St}, Agr vs σ σ' → (∀ i ∈ vs, gt e i = .hole) → ROs K G H true e σ F → ROs K G H true e σ' F := by
  intro σ σ' ag h r
  -- slot by slot
  have : ∀ (n : Nat) (τ : St), τ.length = σ'.length → (∀ i : Nat, i < n → τ[i]? = σ'[i]?) → (∀ i : Nat, i ∉ vs → τ[i]? = σ'[i]?) → ROs K G H true e τ F → n ≤ σ'.length → ∃ τ' : St, τ'.length = σ'.length ∧ (∀ i : Nat, τ'[i]? = σ'[i]?) ∧ ROs K G H true e τ' F := by
    intro n
    -- up from n
    generalize hm : σ'.length - n = m
    induction m generalizing n with
    | zero =>
      intro τ hl h1 h2 r hn
      refine ⟨τ, hl, fun i => ?_, r⟩
      by_cases hi : i < n
      · exact h1 i hi
      · rw [List.getElem?_eq_none (by omega), List.getElem?_eq_none (by omega)]
    | succ m ih =>
      intro τ hl h1 h2 r hn
      by_cases hv : n ∈ vs
      · refine ih (n + 1) (by omega) (τ.set n (σ'[n]?.getD none)) (by rw [List.length_set]; exact hl) (fun i hi => ?_) (fun i hi => ?_) (r.holeAt (h n hv)) (by omega)
        · by_cases hin : i = n
          · subst hin
            rw [List.getElem?_set_self (by omega), List.getElem?_eq_getElem (by omega)]; rfl
          · rw [List.getElem?_set_ne (fun z => hin z.symm)]; exact h1 i (by omega)
        · rw [List.getElem?_set_ne (show n ≠ i from fun z => hi (z ▸ hv))]; exact h2 i hi
      · exact ih (n + 1) (by omega) τ hl (fun i hi => by
          by_cases hin : i = n
          · subst hin; exact h2 i hv
          · exact h1 i (by omega)) h2 r (by omega)
  obtain ⟨τ, hl, ht, rt⟩ := this 0 σ ag.1.symm (fun i hi => absurd hi (Nat.not_lt_zero _)) (fun i hi => (ag.2 i hi).symm) r (Nat.zero_le _)
  have : τ = σ' := List.ext_getElem? ht
  rw [← this]; exact rt
theorem agr_wipe {vs : List Nat} : ∀ {us : List Nat} {σ : St}, (∀ i ∈ us, i ∈ vs) → Agr vs σ (wipe σ us)
  | [], σ, _ => Agr.refl _ _
  | u :: us, σ, h => (agr_wipe fun i hi => h i (List.mem_cons_of_mem _ hi)).trans (Agr.set (h u List.mem_cons_self))
theorem wipe_get : ∀ {us : List Nat} {σ : St} {i : Nat}, i ∈ us → i < σ.length → (wipe σ us)[i]? = some none
  | [], _, _, h, _ => by simp at h
  | u :: us, σ, i, h, hl => by
    show ((wipe σ us).set u none)[i]? = some none
    by_cases hu : u = i
    · subst hu
      rw [List.getElem?_set_self (by rw [wipe_length]; exact hl)]
    · rw [List.getElem?_set_ne hu]
      exact wipe_get ((List.mem_cons.mp h).resolve_left fun z => hu z.symm) hl
theorem wipe_agr {vs : List Nat} {σ σ' : St} (a : Agr vs σ σ') : wipe σ' vs = wipe σ vs := by
  refine List.ext_getElem? fun i => ?_
  by_cases hi : i ∈ vs
  · by_cases hl : i < σ.length
    · rw [wipe_get hi hl, wipe_get hi (by rw [a.1]; exact hl)]
    · rw [List.getElem?_eq_none (by rw [wipe_length, a.1]; omega), List.getElem?_eq_none (by rw [wipe_length]; omega)]
  · rw [wipe_out hi, wipe_out hi, a.2 i hi]
theorem wipe_wipe {vs : List Nat} {σ : St} : wipe (wipe σ vs) vs = wipe σ vs := wipe_agr (agr_wipe fun _ h => h)
end
end Tw

set_option Elab.async false
set_option linter.all false
set_option maxRecDepth 100000
set_option maxHeartbeats 4000000
/-! Tw13: a comprehension. -/
namespace Tw
open PySem L2
open Classical (propDecidable)
section
variable {S : Sg} {T : Fns} {cl : Nat → Addr} {X : Cx} {W : WX} {σ : St} {G H G0 H0 : Hp} {F F0 Fv : AS} {e : Env} {K : PySem.W.Frag} {α β : Type} {rep : Hp → Hp → α → β → AS → Prop}
abbrev W0 : WX := fun _ _ _ _ => False
theorem ROs.snoc {al : Bool} : ∀ {xs : List D} {os : List (Option V)} {F F' : AS} {y : D} {o : Option V}, ROs K G H al xs os F → RO K G H y o F' → Dis F F' → ROs K G H al (xs ++ [y]) (os ++ [o]) (AS.uni F F')
  | [], os, F, F', y, o, r, ry, dj => by
    rw [r.1]
    exact ⟨o, [], F', AS.emp, rfl, .inr ry, ⟨rfl, fun _ z => z⟩, fun _ _ z => z, fun b => ⟨fun z => z.elim (fun z => (r.2 b z).elim) .inl, fun z => z.elim .inr fun z => z.elim⟩⟩
  | x :: xs, os, F, F', y, o, r, ry, dj => by
    obtain ⟨w, ws, F1, F2, e1, h1, h2, h3, h4⟩ := r
    subst e1
    refine ⟨w, ws ++ [o], F1, AS.uni F2 F', rfl, h1, h2.snoc ry (dj.sub (fun b z => (h4 b).mpr (.inr z)) fun _ z => z), fun b z y => y.elim (h3 b z) (dj b ((h4 b).mpr (.inl z))), fun b => ?_⟩
    show (F b ∨ F' b) ↔ (F1 b ∨ F2 b ∨ F' b)
    rw [h4 b, or_assoc]
/-- behind a turn of the iterator -/
theorem yldGood {G2 H2 : Hp} (s12 : Same G G2) (sH : Same H H2) (new : ∀ b, G2 b ≠ none → G b ≠ none ∨ H b = none) (F : AS) : Good G H F G2 H2 F :=
  ⟨s12, fun b u h _ => .inl (sH b u h), fun b z => .inl z, fun b h n q => by
    cases z : G2 b with
    | none => rfl
    | some u =>
      rcases new b (by rw [z]; exact fun z => nomatch z) with y | y
      · exact absurd q y
      · exact absurd y h⟩
theorem yldHeld {G2 H2 : Hp} (sH : Same H H2) (new : ∀ b, G2 b ≠ none → G b ≠ none ∨ H b = none) (own : ∀ b, F b → G b = none ∧ ∃ xs, H b = some (.lst xs)) : ∀ b, F b → H2 b = H b ∧ G2 b = none := fun b z => by
  obtain ⟨n, xs, q⟩ := own b z
  refine ⟨by rw [q]; exact sH b _ q, ?_⟩
  cases y : G2 b with
  | none => rfl
  | some u =>
    rcases new b (by rw [y]; exact fun z => nomatch z) with y | y
    · exact absurd n y
    · rw [q] at y; cases y
theorem wipeE_id : ∀ {own : List (Str × Nat)} {e : Env}, (∀ i ∈ own.map (·.2), gt e i = .hole) → wipeE own e = e
  | [], e, _ => rfl
  | p :: own, e, h => by
    have es : e.set p.2 .hole = e := by
      by_cases hl : p.2 < e.length
      · have nh := h p.2 List.mem_cons_self
        have hg : e[p.2]? = some .hole := by
          unfold gt at nh
          rw [List.getElem?_eq_getElem hl] at nh ⊢
          exact congrArg some nh
        obtain ⟨h1, h2⟩ := List.getElem?_eq_some_iff.mp hg
        rw [← h2]; exact List.set_getElem_self h1
      · exact List.set_eq_of_length_le (by omega)
    show wipeE own (e.set p.2 .hole) = e
    rw [es]
    exact wipeE_id fun i hi => h i (List.mem_cons_of_mem _ hi)
theorem bind_ok {r : R α} {f : α → Env → R β} {b : β} {e : Env} (h : r.bind f = .ok b e) : ∃ a e1, r = .ok a e1 ∧ f a e1 = .ok b e := by
  cases r with
  | ok a e1 => exact ⟨a, e1, rfl, h⟩
  | ex c w e1 => cases h
  | no => cases h
theorem calm_ok {r : R α} {a : α} {e : Env} (h : r.calm = .ok a e) : r = .ok a e := by
  cases r with
  | ok a e1 => exact h
  | ex c w e1 => cases h
  | no => cases h
theorem asg_len : ∀ (n : Nat) , True := fun _ => trivial
mutual
theorem asg_length : ∀ {t : Tg} {d : D} {e e' : Env}, asg t d e = some e' → e'.length = e.length
  | .nm i, d, e, e', h => by
    have h : (if i < e.length then some (e.set i d) else none) = some e' := h
    by_cases q : i < e.length
    · rw [if_pos q] at h; cases h; rw [List.length_set]
    · rw [if_neg q] at h; cases h
  | .tp ts, d, e, e', h => by
    cases d with
    | tup ds => exact asgs_length (show asgs ts ds e = some e' from h)
    | lst o ds => cases o with
      | true => cases h
      | false => exact asgs_length (show asgs ts ds e = some e' from h)
    | _ => cases h
theorem asgs_length : ∀ {ts : List Tg} {ds : List D} {e e' : Env}, asgs ts ds e = some e' → e'.length = e.length
  | [], [], e, e', h => by cases h; rfl
  | [], _ :: _, _, _, h => by cases h
  | _ :: _, [], _, _, h => by cases h
  | t :: ts, d :: ds, e, e', h => by
    obtain ⟨e1, h1, h2⟩ := Option.bind_eq_some_iff.mp (show (asg t d e).bind (fun e' => asgs ts ds e') = some e' from h)
    rw [asgs_length h2, asg_length h1]
end
/-- walks while P holds -/
structure WalksP (K : PySem.W.Frag) (J : L2.It) (xs : List D) (G : Hp) (P : Hp → Prop) : Prop where
  go : ∀ i H, Same G H → P H → i < xs.length → J.go i H
  stop : ∀ i H, Same G H → P H → xs.length ≤ i → J.stop i H
  yld : ∀ i H x H', Same G H → P H → J.yld i H x H' → ∀ d, xs[i]? = some d → ∀ G1, Same G G1 → Same G1 H → ∃ G2, Same G1 G2 ∧ Same G2 H' ∧ Same H H' ∧ RP K G2 d x ∧ ∀ b, G2 b ≠ none → G1 b ≠ none ∨ H b = none
theorem Walks.p {J : L2.It} {xs : List D} (w : Walks K J xs G) : WalksP K J xs G fun _ => True := ⟨fun i H s _ h => w.go i H s h, fun i H s _ h => w.stop i H s h, fun i H x H' s _ h => w.yld i H x H' s h⟩
theorem comp_core {own : List (Str × Nat)} {tg : Tg} {c f : Env → R D} {Q : VK} {P : Hp → Prop} {J : L2.It} {xs ys : List D} {e1 eE : Env} {G1 H1 : Hp} {F1 : AS} (hn : (own.map (·.2)).Nodup) (s1 : Same G1 H1) (r1 : ROs K G1 H1 true e1 σ F1) (wk : WalksP K J xs G1 P)
    (hP : ∀ G' H' Fw F', (∀ b, Fw b → F1 b) → Good G1 H1 Fw G' H' F' → P H') (hr : compGo own tg c f xs [] (wipeE own e1) = .ok ys eE)
    (h1 : ∀ G' H' F' v Fv, Same G' H' → ROs K G' H' true (unown own e1 eE) σ F' → rD K G' H' (.lst true ys) v Fv → Dis F' Fv → Good G1 H1 F1 G' H' (AS.uni F' Fv) → Q v H') :
    tLc (fun _ _ R => R J H1) (tG K (own.map (·.2)) tg) (tT K cl W0 c) (tE K cl W0 f) (own.map (·.2)) σ H1 Q := by
    intro Dd hD
    obtain ⟨Fw, Fo, rw0, djw, hFw, hole0, len0, back⟩ := wipe_all hn r1
    have nD : ∀ {F : AS} {al : Bool} {ds : List D} {os : List (Option V)}, ROs K G1 H1 al ds os F → ¬ F Dd := fun r z => by
      obtain ⟨_, xs, q⟩ := r.own Dd z
      rw [hD] at q; cases q
    have gD : G1 Dd = none := s1.free hD
    let vs := own.map (·.2)
    have agw : Agr vs σ (wipe σ vs) := agr_wipe fun _ h => h
    have agw' : Agr vs (wipe σ vs) σ := ⟨agw.1.symm, fun i hi => (agw.2 i hi).symm⟩
    refine ⟨fun i m H' => m = xs.length - i ∧ i ≤ xs.length ∧ ∃ G' e' F' acc vacc Fa, Same G' H' ∧ ROs K G' H' true e' (wipe σ vs) F' ∧ (∀ i ∈ vs, gt e' i = .hole) ∧ e'.length = e1.length ∧ H' Dd = some (.lst vacc) ∧ G' Dd = none ∧
      ROs K G' H' false acc (vacc.map some) Fa ∧ ¬ Fa Dd ∧ ¬ F' Dd ∧ Dis F' Fa ∧ Good G1 H1 Fw G' H' (AS.uni F' (AS.uni Fa (sing Dd))) ∧ compGo own tg c f (xs.drop i) acc e' = .ok ys eE,
      ⟨xs.length, by simp, Nat.zero_le _, G1, wipeE own e1, Fw, [], [], AS.emp, s1.trans (same_upd hD), ?_, hole0, len0, upd_same, gD, ⟨rfl, fun _ z => z⟩, fun z => z, nD rw0, fun _ _ z => z, ?_, by rw [List.drop_zero]; exact hr⟩, ?_⟩
    · exact ros_wipe hole0 (ros_upd rw0 hD)
    · exact (good_new (o := .lst []) s1 (Good.refl G1 H1 Fw) hD).sub fun b z => z.imp id fun z => z.elim (fun z => z.elim) id
    · rintro i m H' ⟨em, hi, G', e', F', acc, vacc, Fa, s', r', hole', len', hd', gd', ra, na, nf', dja, g', hgo⟩
      have sG : Same G1 G' := g'.mono
      have ownX : ∀ b, AS.uni Fa (sing Dd) b → G' b = none ∧ ∃ xs, H' b = some (.lst xs) := fun b z => z.elim (ra.own b) fun z => by
        cases z
        exact ⟨gd', vacc, hd'⟩
      have djX : Dis F' (AS.uni Fa (sing Dd)) := fun b y z => z.elim (dja b y) fun z => nf' (by rw [← show b = Dd from z]; exact y)
      rcases Nat.lt_or_ge i xs.length with hlt | hge
      · right
        refine ⟨wk.go i H' (sG.trans s') (hP _ _ _ _ (fun b z => (hFw b).mpr (.inl z)) g') hlt, fun H'' => ∃ m', m' < m ∧ (m' = xs.length - (i + 1) ∧ i + 1 ≤ xs.length ∧ ∃ G' e' F' acc vacc Fa, Same G' H'' ∧ ROs K G' H'' true e' (wipe σ vs) F' ∧ (∀ i ∈ vs, gt e' i = .hole) ∧ e'.length = e1.length ∧ H'' Dd = some (.lst vacc) ∧ G' Dd = none ∧
          ROs K G' H'' false acc (vacc.map some) Fa ∧ ¬ Fa Dd ∧ ¬ F' Dd ∧ Dis F' Fa ∧ Good G1 H1 Fw G' H'' (AS.uni F' (AS.uni Fa (sing Dd))) ∧ compGo own tg c f (xs.drop (i + 1)) acc e' = .ok ys eE), fun H'' z => z, fun x H2 hy => ?_⟩
        have hx : xs[i]? = some xs[i] := List.getElem?_eq_getElem hlt
        obtain ⟨G2, m2, s2, sH, rx, new⟩ := wk.yld i H' x H2 (sG.trans s') (hP _ _ _ _ (fun b z => (hFw b).mpr (.inl z)) g') hy _ hx G' sG s'
        rw [List.drop_eq_getElem_cons hlt] at hgo
        unfold compGo at hgo
        rw [wipeE_id hole'] at hgo
        cases ha : asg tg xs[i] e' with
        | none => simp only [ha] at hgo; cases hgo
        | some e2 =>
          simp only [ha] at hgo
          have r2 := r'.frame m2 (yldHeld sH new r'.own)
          have gy := yldGood m2 sH new F'
          have st2 := yldHeld sH new ownX
          have own2 : ∀ b, AS.uni Fa (sing Dd) b → G2 b = none ∧ ∃ xs, H2 b = some (.lst xs) := fun b z => by
            obtain ⟨_, xs, q⟩ := ownX b z
            exact ⟨(st2 b z).2, xs, (st2 b z).1.trans q⟩
          refine ⟨G2, e', F', xs[i], e2, s2, r2, rx, ha, fun σ2 F2 ro2 hF2 ag2 => ⟨(wipe_agr ag2).trans wipe_wipe, ?_⟩⟩
          obtain ⟨bv, e3, hc, hgo⟩ := bind_ok hgo
          have len2 : e2.length = e1.length := (asg_length ha).trans len'
          refine ⟨G2, e2, F2, s2, ro2, ?_⟩
          rw [hc]
          have done : ∀ b, bv = .bl b → Post rB K cl W0 σ2 G2 H2 F2 ((R.ok bv e3).bind asB) fun b H3 => if b = true then tE K cl W0 f σ2 H3 fun y H4 => ∃ acc, H4 Dd = some (.lst acc) ∧ acc.length < sizeLine ∧ (∃ m', m' < m ∧ (m' = xs.length - (i + 1) ∧ i + 1 ≤ xs.length ∧ ∃ G' e' F' ac vacc Fa, Same G' (upd H4 Dd (.lst (acc ++ [y]))) ∧ ROs K G' (upd H4 Dd (.lst (acc ++ [y]))) true e' (wipe σ vs) F' ∧ (∀ i ∈ vs, gt e' i = .hole) ∧ e'.length = e1.length ∧ (upd H4 Dd (.lst (acc ++ [y]))) Dd = some (.lst vacc) ∧ G' Dd = none ∧
          ROs K G' (upd H4 Dd (.lst (acc ++ [y]))) false ac (vacc.map some) Fa ∧ ¬ Fa Dd ∧ ¬ F' Dd ∧ Dis F' Fa ∧ Good G1 H1 Fw G' (upd H4 Dd (.lst (acc ++ [y]))) (AS.uni F' (AS.uni Fa (sing Dd))) ∧ compGo own tg c f (xs.drop (i + 1)) ac e' = .ok ys eE)) else (∃ m', m' < m ∧ (m' = xs.length - (i + 1) ∧ i + 1 ≤ xs.length ∧ ∃ G' e' F' acc vacc Fa, Same G' H3 ∧ ROs K G' H3 true e' (wipe σ vs) F' ∧ (∀ i ∈ vs, gt e' i = .hole) ∧ e'.length = e1.length ∧ H3 Dd = some (.lst vacc) ∧ G' Dd = none ∧
          ROs K G' H3 false acc (vacc.map some) Fa ∧ ¬ Fa Dd ∧ ¬ F' Dd ∧ Dis F' Fa ∧ Good G1 H1 Fw G' H3 (AS.uni F' (AS.uni Fa (sing Dd))) ∧ compGo own tg c f (xs.drop (i + 1)) acc e' = .ok ys eE)) := by
            intro b eb
            subst eb
            intro G3 H3 F3 b' Fb s3 r3 rb djb g3
            obtain ⟨eb', nb⟩ := rb
            subst eb'
            have g3 := good_emp g3
            have djX2 : Dis F2 (AS.uni Fa (sing Dd)) := djX.sub hF2 fun _ z => z
            obtain ⟨st3, dj3⟩ := held g3 own2 djX2
            have own3 : ∀ b, AS.uni Fa (sing Dd) b → G3 b = none ∧ ∃ xs, H3 b = some (.lst xs) := fun b z => by
              obtain ⟨_, xs, q⟩ := own2 b z
              exact ⟨(st3 b z).2, xs, (st3 b z).1.trans q⟩
            have gA : Good G1 H1 Fw G2 H2 (AS.uni F' (AS.uni Fa (sing Dd))) := g'.trans (fun b z => .inl z) gy fun b z => z.imp id fun z => .inr z
            have gB : Good G1 H1 Fw G3 H3 (AS.uni F3 (AS.uni Fa (sing Dd))) := gA.trans (fun b z => .inl (hF2 b z)) g3 fun b z => z.imp id fun z => .inr z
            have ra3 : ROs K G3 H3 false acc (vacc.map some) Fa := (ra.frame m2 fun b z => st2 b (.inl z)).frame g3.mono fun b z => st3 b (.inl z)
            have hd3 : H3 Dd = some (.lst vacc) := ((st3 Dd (.inr rfl)).1.trans (st2 Dd (.inr rfl)).1).trans hd'
            have gd3 : G3 Dd = none := (st3 Dd (.inr rfl)).2
            -- the own slots wiped again
            have again : ∀ {G4 H4 : Hp} {e4 : Env} {F4 : AS}, e4.length = e1.length → ROs K G4 H4 true e4 σ2 F4 → ∃ F5, ROs K G4 H4 true (wipeE own e4) (wipe σ vs) F5 ∧ (∀ b, F5 b → F4 b) ∧ (∀ i ∈ vs, gt (wipeE own e4) i = .hole) ∧ (wipeE own e4).length = e1.length := by
              intro G4 H4 e4 F4 hl r4
              obtain ⟨F5, _, r5, _, h5, hole5, len5, _⟩ := wipe_all hn r4
              have ag : Agr vs σ2 (wipe σ vs) := ⟨ag2.1.symm, fun i hi => (ag2.2 i hi).symm⟩
              exact ⟨F5, ros_agr ag hole5 r5, fun b z => (h5 b).mpr (.inl z), hole5, len5.trans hl⟩
            have len3 : e3.length = e1.length := by rw [← len2, ← ro2.len, ← r3.len]
            cases b with
            | false =>
              rw [if_neg Bool.false_ne_true]
              have hgo : compGo own tg c f (xs.drop (i + 1)) acc (wipeE own e3) = .ok ys eE := hgo
              obtain ⟨F5, r5, h5, hole5, len5⟩ := again len3 r3
              exact ⟨xs.length - (i + 1), by omega, rfl, hlt, G3, wipeE own e3, F5, acc, vacc, Fa, s3, r5, hole5, len5, hd3, gd3, ra3, na, fun z => dj3 Dd (h5 _ z) (.inr rfl), fun b z y => dj3 b (h5 b z) (.inl y), gB.sub fun b z => z.imp (h5 b) id, hgo⟩
            | true =>
              rw [if_pos rfl]
              obtain ⟨yd, e4, hf, hgo⟩ := bind_ok (show ((f e3).bind fun y e3 => if acc.length < 16000000 then compGo own tg c f (xs.drop (i + 1)) (acc ++ [y]) (wipeE own e3) else .no) = .ok ys eE from hgo)
              by_cases hz : acc.length < 16000000
              · rw [if_pos hz] at hgo
                refine ⟨G3, e3, F3, s3, r3, ?_⟩
                rw [hf]
                intro G4 H4 F4 yv Fy s4 r4 ry djy g4
                obtain ⟨st4, dj4⟩ := held g4 own3 dj3
                have ra4 : ROs K G4 H4 false acc (vacc.map some) Fa := ra3.frame g4.mono fun b z => st4 b (.inl z)
                have hd4 : H4 Dd = some (.lst vacc) := (st4 Dd (.inr rfl)).1.trans hd3
                have gd4 : G4 Dd = none := (st4 Dd (.inr rfl)).2
                have len4 : e4.length = e1.length := by rw [← len3, ← r3.len, ← r4.len]
                obtain ⟨F5, r5, h5, hole5, len5⟩ := again len4 r4
                have nF5 : ¬ F5 Dd := fun z => dj4 Dd (.inl (h5 _ z)) (.inr rfl)
                have nFy : ¬ Fy Dd := fun z => dj4 Dd (.inr z) (.inr rfl)
                have up : ∀ {F : AS} {al : Bool} {ds : List D} {os : List (Option V)} {o : HO}, ¬ F Dd → ROs K G4 H4 al ds os F → ROs K G4 (upd H4 Dd o) al ds os F := fun {F al ds os o} n r => r.frame (Same.refl _) fun b z => ⟨upd_ne (show b ≠ Dd from fun y => n (by rw [← y]; exact z)), (r.own b z).1⟩
                have lenv : vacc.length = acc.length := by
                  have := ra4.len
                  rw [List.length_map] at this
                  exact this
                have ry' : RO K G4 (upd H4 Dd (.lst (vacc ++ [yv]))) yd (some yv) Fy := ry.frame (Same.refl _) fun b z => ⟨upd_ne (show b ≠ Dd from fun y => nFy (by rw [← y]; exact z)), (ry.own b z).1⟩
                refine ⟨vacc, hd4, by rw [lenv, sizeLine_eq]; omega, xs.length - (i + 1), by omega, rfl, hlt, G4, wipeE own e4, F5, acc ++ [yd], vacc ++ [yv], AS.uni Fa Fy, fun b u q => ?_, up nF5 r5, hole5, len5, upd_same, gd4, ?_, fun z => z.elim na nFy, nF5, fun b z y => ?_, ?_, hgo⟩
                · rw [upd_ne (show b ≠ Dd from fun y => by rw [y, gd4] at q; cases q)]
                  exact s4 b u q
                · rw [List.map_append]
                  exact (up na ra4).snoc ry' fun b z y => dj4 b (.inr y) (.inl z)
                · rcases y with y | y
                  · exact dj4 b (.inl (h5 b z)) (.inl y)
                  · exact djy b (h5 b z) y
                · have gC : Good G1 H1 Fw G4 H4 (AS.uni (AS.uni F4 Fy) (AS.uni Fa (sing Dd))) := gB.trans (fun b z => .inl z) g4 fun b z => z.imp id fun z => .inr z
                  refine ⟨gC.mono, fun b u q n => ?_, fun b z => ?_, gC.out⟩
                  · have nb : b ≠ Dd := fun y => by
                      rw [y, hD] at q; cases q
                    rw [upd_ne nb]
                    exact gC.keep b u q n
                  · rcases z with z | (z | z) | z
                    · exact gC.own b (.inl (.inl (h5 b z)))
                    · exact gC.own b (.inr (.inl z))
                    · exact gC.own b (.inl (.inr z))
                    · exact gC.own b (.inr (.inr z))
              · rw [if_neg hz] at hgo; cases hgo
          cases bv with
          | bl b => exact done b rfl
          | _ => cases hgo
      · left
        have hi' : i = xs.length := by omega
        refine ⟨wk.stop i H' (sG.trans s') (hP _ _ _ _ (fun b z => (hFw b).mpr (.inl z)) g') hge, ?_⟩
        rw [List.drop_eq_nil_of_le hge] at hgo
        cases hgo
        -- the end
        obtain ⟨stO, djO⟩ := held g' (fun b z => r1.own b ((hFw b).mpr (.inr z))) djw
        have rσ : ROs K G' H' true eE σ F' := ros_agr agw' hole' r'
        obtain ⟨F3, r3, h3⟩ := back G' H' eE F' len' sG stO rσ fun b z y => djO b (.inl z) y
        refine h1 G' H' F3 (.ref Dd) (fun b => b = Dd ∨ Fa b) s' r3 ⟨Dd, vacc, Fa, rfl, hd', gd', na, ra, fun b => Iff.rfl⟩ (fun b z y => ?_) ?_
        · rcases h3 b z with z | z
          · exact djX b z (y.elim .inr .inl)
          · exact djO b (.inr (y.elim .inr .inl)) z
        · refine (Good.refl G1 H1 F1).trans (fun b z => (hFw b).mpr (.inl z)) g' fun b z => ?_
          rcases z with z | z | z
          · rcases h3 b z with z | z
            · exact .inl (.inl z)
            · exact .inr ((hFw b).mpr (.inr z))
          · exact .inl (.inr (.inr z))
          · exact .inl (.inr (.inl z))
theorem comp_ok {own : List (Str × Nat)} {tg : Tg} {it : It} {c f : Env → R D} {Q : VK} (hn : (own.map (·.2)).Nodup)
    (h : tE K cl W (fun e => (evIt T it e).bind fun xs e1 => R.calm ((compGo own tg c f xs [] (wipeE own e1)).bind fun ys e2 => .ok (.lst true ys) (unown own e1 e2))) σ H Q) :
    tLc (tI K cl W (evIt T it)) (tG K (own.map (·.2)) tg) (tT K cl W0 c) (tE K cl W0 f) (own.map (·.2)) σ H Q := by
  obtain ⟨G, e, F, s, r, h⟩ := h
  refine ⟨G, e, F, s, r, h.first fun xs e1 G1 H1 F1 J Fv _ s1 r1 rv dj g h1 => ?_⟩
  obtain ⟨wk, nf⟩ := rv
  have g := good_emp g
  cases hr : compGo own tg c f xs [] (wipeE own e1) with
  | ex cc w e2 => rw [hr] at h1; exact h1.elim
  | no => rw [hr] at h1; exact h1.elim
  | ok ys eE =>
    rw [hr] at h1
    have h1 : Post (rD K) K cl W σ G H F (.ok (.lst true ys) (unown own e1 eE)) Q := h1
    exact comp_core (cl := cl) hn s1 r1 wk.p (fun _ _ _ _ _ _ => trivial) hr fun G' H' F' v Fv s' r' p' d' g' => h1 G' H' F' v Fv s' r' p' d' (g.trans (fun b z => z) g' fun b z => .inl z)
/-- the owned list of a slot, walked -/
def wiS (K : PySem.W.Frag) (i : Nat) : TI := fun σ H R => tVar i σ H fun x H1 => ∃ a, x = .ref a ∧ ∃ xs, SqL K H1 a xs ∧ R (Itl K a) H1
theorem comp_okS {own : List (Str × Nat)} {tg : Tg} {i : Nat} {c f : Env → R D} {Q : VK} (hn : (own.map (·.2)).Nodup)
    (h : tE K cl W (fun e => match gt e i with
      | .lst true xs => if xs.all pers then R.calm ((compGo own tg c f xs [] (wipeE own (e.set i .hole))).bind fun ys e2 => .ok (.lst true ys) ((unown own (e.set i .hole) e2).set i (.lst true xs))) else .no
      | _ => .no) σ H Q) : tLc (wiS K i) (tG K (own.map (·.2)) tg) (tT K cl W0 c) (tE K cl W0 f) (own.map (·.2)) σ H Q := by
  obtain ⟨G, e, F, s, r, h⟩ := h
  dsimp only at h
  cases hg : gt e i with
  | lst o xs => cases o with
    | false => rw [hg] at h; exact h.elim
    | true =>
      rw [hg] at h
      by_cases hp : xs.all pers = true
      · simp only [if_pos hp] at h
        obtain ⟨v, F1, F0, hv, rv, dj, hF, r0⟩ := takeOut r (by rw [hg]; exact fun z => nomatch z)
        rw [hg] at rv
        obtain ⟨a, vs, F', ea, q1, q2, q3, q4, q5⟩ := id rv
        cases ea
        obtain ⟨rp, ne⟩ := ROs.rps q4 hp
        refine ⟨.ref a, hv, a, rfl, vs, SqL.of q1, ?_⟩
        have hP : ∀ G' H' Fw F', (∀ b, Fw b → F0 b) → Good G H Fw G' H' F' → H' a = some (.lst vs) := fun G' H' Fw F' sub g => by
          rcases g.keep a _ q1 (fun z => dj a (sub a z) ((q5 a).mpr (.inl rfl))) with z | ⟨⟨_, z⟩, _⟩
          · exact z
          · cases z
        cases hr : compGo own tg c f xs [] (wipeE own (e.set i .hole)) with
        | ex cc w e2 => rw [hr] at h; exact h.elim
        | no => rw [hr] at h; exact h.elim
        | ok ys eE =>
          rw [hr] at h
          have h : Post (rD K) K cl W σ G H F (.ok (.lst true ys) ((unown own (e.set i .hole) eE).set i (.lst true xs))) Q := h
          refine comp_core (cl := cl) (P := fun H' => H' a = some (.lst vs)) hn s r0 ⟨fun j H' s' p hj => ?_, fun j H' s' p hj => ?_, fun j H' x H2 s' p y d hd G1 s1 s2 => ?_⟩ hP hr fun G' H' F2 v2 Fv s' r' p' d' g' => ?_
          · obtain ⟨u, hu, _⟩ := rp.get (List.getElem?_eq_getElem hj)
            exact ⟨vs, u, SqL.of p, hu⟩
          · exact ⟨vs, SqL.of p, by rw [rp.len]; exact hj⟩
          · obtain ⟨e1, hx⟩ := y
            obtain ⟨u, hu, rpu⟩ := rp.get hd
            have := hx vs (SqL.of p)
            rw [hu] at this
            cases this
            subst e1
            exact ⟨G1, Same.refl _, s2, Same.refl _, rpu.mono s1, fun b z => .inl z⟩
          · obtain ⟨st, dj2⟩ := held g' rv.own dj
            obtain ⟨F3, r3, k3⟩ := putIn r' hv (.inr (rv.frame g'.mono st)) (dj2.sub (fun b z => .inl z) fun _ z => z)
            refine h G' H' F3 v2 Fv s' r3 p' (fun b z y => ?_) ⟨g'.mono, fun b o q n => g'.keep b o q fun z => n ((hF b).mpr (.inl z)), fun b z => ?_, fun b q n w => g'.out b q (fun z => n ((hF b).mpr (.inl z))) w⟩
            · rcases k3 b z with z | z
              · exact d' b z y
              · exact dj2 b (.inr y) z
            · rcases z with z | z
              · rcases k3 b z with z | z
                · exact (g'.own b (.inl z)).imp (fun z => (hF b).mpr (.inl z)) id
                · exact .inl ((hF b).mpr (.inr z))
              · exact (g'.own b (.inr z)).imp (fun z => (hF b).mpr (.inl z)) id
      · simp only [if_neg hp] at h; exact h.elim
  | _ => rw [hg] at h; exact h.elim
end
end Tw

set_option Elab.async false
set_option linter.all false
set_option maxRecDepth 100000
set_option maxHeartbeats 4000000
/-! Tw14: places read, lists changed in place. -/
namespace Tw
open PySem L2
open Classical (propDecidable)
section
variable {S : Sg} {T : Fns} {cl : Nat → Addr} {X : Cx} {W : WX} {σ : St} {G H G0 H0 : Hp} {F F0 Fv : AS} {e : Env} {K : PySem.W.Frag} {α β : Type} {rep : Hp → Hp → α → β → AS → Prop}
/-- the reading of a place -/
def tPl (K : PySem.W.Frag) (cl : Nat → Addr) (W : WX) (T : Fns) (x : Nat) : IEs → TE
  | .nil => tVar x
  | .cons i _ => tOp (rIxL K) (tVar x) (tE K cl W (ev T i))
theorem evP_ok {x : Nat} {f : Env → R (List D)} {γ : Type} {g : List D → Env → R α} {Q : β → Hp → Prop} (h : Post rep K cl W σ G H F ((evP x f e).bind g) Q) : gt e x ≠ .hole ∧ Post rep K cl W σ G H F ((f e).bind g) Q := by
  have nh : gt e x ≠ .hole := fun z => by unfold evP at h; rw [z] at h; exact h
  refine ⟨nh, ?_⟩
  have e1 : evP x f e = f e := by
    unfold evP
    cases z : gt e x <;> first | exact absurd z nh | rfl
  rw [e1] at h
  exact h
theorem placeStep {x : Nat} {path : IEs} {f : List D → Env → R α} {Q : β → Hp → Prop} {N : V → Hp → Prop} (hp : ∀ i as, path = .cons i as → as = .nil) (s : Same G H) (r : ROs K G H true e σ F) (h : Post rep K cl W σ G H F ((evP x (evs T path) e).bind fun is e1 => if ownAt x is e1 = true then f is e1 else .no) Q)
    (kk : ∀ is e1 G1 H1 F1 v ns a vs, Same G1 H1 → ROs K G1 H1 true e1 σ F1 → σ[x]? = some (some v) → toInts is = some ns → ownAt x is e1 = true → PathAt H1 (some v) ns a → H1 a = some (.lst vs) → Good G H F G1 H1 F1 → Post rep K cl W σ G1 H1 F1 (f is e1) Q → N (.ref a) H1) : tPl K cl W T x path σ H N := by
  obtain ⟨nh, h⟩ := evP_ok (γ := Unit) h
  cases path with
  | nil =>
    have h : Post rep K cl W σ G H F (if ownAt x [] e = true then f [] e else .no) Q := h
    by_cases ho : ownAt x [] e = true
    · rw [if_pos ho] at h
      obtain ⟨v, ns, a, vs, h1, h2, h3, h4, _⟩ := placeRead r ho
      have e1 : ns = [] := by cases h2; rfl
      subst e1
      have e2 : some v = some (V.ref a) := h3
      cases e2
      exact ⟨_, h1, kk [] e G H F _ [] a vs s r h1 h2 ho h3 h4 (Good.refl _ _ _) h⟩
    · rw [if_neg ho] at h; exact h.elim
  | cons i as =>
    have := hp i as rfl
    subst this
    obtain ⟨v, F1, F0, hv, rv, _, _, _⟩ := takeOut r nh
    refine ⟨v, hv, G, e, F, s, r, ?_⟩
    have h : Post rep K cl W σ G H F (((ev T i e).bind fun d e1 => R.ok [d] e1).bind fun is e1 => if ownAt x is e1 = true then f is e1 else .no) Q := h
    have h : Post rep K cl W σ G H F ((ev T i e).bind fun d e1 => if ownAt x [d] e1 = true then f [d] e1 else .no) Q := by
      cases q : ev T i e <;> rw [q] at h <;> exact h
    refine h.first fun d e1 G1 H1 E1 y Fy _ s1 r1 ry dj g h1 => ?_
    have g1 := good_emp g
    by_cases ho : ownAt x [d] e1 = true
    · rw [if_pos ho] at h1
      obtain ⟨v', ns, a, vs, q1, q2, q3, q4, _⟩ := placeRead r1 ho
      rw [hv] at q1
      cases q1
      cases d with
      | int n =>
        have e1 : ns = [n] := by cases q2; rfl
        subst e1
        obtain ⟨a0, vs0, j, w, p1, p2, p3, p4, p5⟩ := q3
        cases p1
        have e2 : some w = some (V.ref a) := p5
        cases e2
        refine ⟨a0, vs0, n, .ref a, rfl, ry.int_.1, SqL.of p2, ?_, kk _ _ G1 H1 E1 _ _ a vs s1 r1 hv q2 ho ⟨a0, vs0, j, _, rfl, p2, p3, p4, p5⟩ q4 g1 (h1.shift g1 fun _ z => z)⟩
        unfold atI
        rw [p3]; exact p4
      | _ => cases q2
    · rw [if_neg ho] at h1; exact h1.elim
/-- the way to a list stands while the lists on it stand -/
theorem path_keep {f : List D → Option (D × List D)} {H2 : Hp} : ∀ {is : List Int} {d : D} {o : Option V} {F : AS} {a : Addr} {p : D × D}, RO K G H d o F → onPath f is d = some p → (∀ b, F b → H2 b = H b) → PathAt H o is a → PathAt H2 o is a
  | [], _, _, _, _, _, _, _, _, h => h
  | i :: is, d, o, F, a, p, r, h, k, hp => by
    cases d with
    | lst b xs => cases b with
      | true =>
        have h : ((ixN xs.length i).bind fun j => (xs[j]?).bind fun d => (onPath f is d).map fun p => (p.1, D.lst true (xs.set j p.2))) = some p := h
        obtain ⟨j, hj, h⟩ := Option.bind_eq_some_iff.mp h
        obtain ⟨dj, hd, h⟩ := Option.bind_eq_some_iff.mp h
        obtain ⟨⟨d1, d2⟩, hq, e⟩ := Option.map_eq_some_iff.mp h
        obtain ⟨a0, vs0, Fi, e1, h1, h2, h3, h4, h5⟩ := r
        obtain ⟨b0, ws, j', v', f1, f2, f3, f4, p'⟩ := hp
        rw [e1] at f1; cases f1
        rw [h1] at f2; cases f2
        have hlen : vs0.length = xs.length := by
          have := h4.len
          rw [List.length_map] at this
          exact this
        rw [hlen, hj] at f3; cases f3
        obtain ⟨oj, E1, E0, ho, hr, dj0, hF, up⟩ := h4.at hd
        rcases hr with ⟨z, _⟩ | hr
        · cases z
        rw [List.getElem?_map, f4] at ho
        cases ho
        refine ⟨a0, vs0, j, v', e1, (k a0 ((h5 a0).mpr (.inl rfl))).trans h1, by rw [hlen]; exact hj, f4, path_keep hr hq (fun b z => k b ((h5 b).mpr (.inr ((hF b).mpr (.inr z))))) p'⟩
      | false => cases h
    | _ => cases h
/-- the slot out of sight, and back -/
theorem hideStep {x : Nat} {is : List D} {v : V} {ns : List Int} {a : Addr} (r : ROs K G H true e σ F) (hv : σ[x]? = some (some v)) (hn : toInts is = some ns) (ho : ownAt x is e = true) (hp : PathAt H (some v) ns a) :
    ∃ Fh Fk, ROs K G H true (hide is x e) σ Fh ∧ Dis Fh Fk ∧ (∀ b, F b ↔ (Fh b ∨ Fk b)) ∧ (∀ b, Fk b → G b = none ∧ ∃ xs, H b = some (.lst xs)) ∧
      ∀ (G2 H2 : Hp) (e2 : Env) (F2 : AS), Same G G2 → (∀ b, Fk b → H2 b = H b ∧ G2 b = none) → ROs K G2 H2 true e2 σ F2 → Dis F2 Fk →
        PathAt H2 (some v) ns a ∧ ∃ F3, ROs K G2 H2 true (unhide is x (gt e x) e2) σ F3 ∧ ∀ b, F3 b → F2 b ∨ Fk b := by
  cases is with
  | nil =>
    have e1 : ns = [] := by cases hn; rfl
    subst e1
    exact ⟨F, AS.emp, r, fun _ _ z => z, fun b => ⟨.inl, fun z => z.elim id fun z => z.elim⟩, fun b z => z.elim, fun G2 H2 e2 F2 s k r2 dj => ⟨hp, F2, r2, fun b z => .inl z⟩⟩
  | cons i is =>
    unfold ownAt at ho
    rw [hn] at ho
    obtain ⟨p, hq⟩ := Option.isSome_iff_exists.mp ho
    have nh : gt e x ≠ .hole := fun z => by
      rw [z] at hq
      cases ns <;> cases hq
    obtain ⟨v', F1, F0, hv', rv, dj, hF, r0⟩ := takeOut r nh
    rw [hv] at hv'
    cases hv'
    refine ⟨F0, F1, r0, dj, hF, rv.own, fun G2 H2 e2 F2 s k r2 dj2 => ⟨path_keep rv hq (fun b z => (k b z).1) hp, ?_⟩⟩
    exact putIn r2 hv (.inr (rv.frame s k)) dj2
/-- one item taken out of a row of items -/
theorem ROs.erase : ∀ {xs : List D} {vs : List V} {F : AS} {j : Nat} {y : D}, ROs K G H false xs (vs.map some) F → xs[j]? = some y → ∃ w Fy Fr, vs[j]? = some w ∧ RO K G H y (some w) Fy ∧ ROs K G H false (xs.eraseIdx j) ((vs.eraseIdx j).map some) Fr ∧ Dis Fr Fy ∧ ∀ b, F b ↔ (Fr b ∨ Fy b)
  | [], _, _, j, y, _, h => by simp at h
  | x :: xs, vs, F, 0, y, r, h => by
    obtain ⟨w, ws, F1, F2, e1, h1, h2, h3, h4⟩ := r
    cases vs with
    | nil => cases e1
    | cons u us =>
      rw [List.map_cons] at e1
      have e2 : some u = w := (List.cons.inj e1).1
      have e3 : us.map some = ws := (List.cons.inj e1).2
      subst e2; subst e3
      have : x = y := by simpa using h
      subst this
      rcases h1 with ⟨z, _⟩ | h1
      · cases z
      exact ⟨u, F1, F2, rfl, h1, h2, fun b p q => h3 b q p, fun b => (h4 b).trans or_comm⟩
  | x :: xs, vs, F, j + 1, y, r, h => by
    obtain ⟨w, ws, F1, F2, e1, h1, h2, h3, h4⟩ := r
    cases vs with
    | nil => cases e1
    | cons u us =>
      rw [List.map_cons] at e1
      have e2 : some u = w := (List.cons.inj e1).1
      have e3 : us.map some = ws := (List.cons.inj e1).2
      subst e2; subst e3
      obtain ⟨w', Fy, Fr, q1, q2, q3, q4, q5⟩ := ROs.erase (j := j) (y := y) h2 (by simpa using h)
      refine ⟨w', Fy, AS.uni F1 Fr, by simpa using q1, q2, ?_, fun b p q => p.elim (fun p => h3 b p ((q5 b).mpr (.inr q))) fun p => q4 b p q, fun b => ?_⟩
      · exact ⟨some u, _, F1, Fr, rfl, h1, q3, fun b p q => h3 b p ((q5 b).mpr (.inl q)), fun b => Iff.rfl⟩
      · rw [h4 b, q5 b, ← or_assoc]; rfl
theorem upd_ros {al : Bool} {ds : List D} {os : List (Option V)} {a : Addr} {o : HO} (r : ROs K G H al ds os F) (n : ¬ F a) : ROs K G (upd H a o) al ds os F :=
  r.frame (Same.refl _) fun b z => ⟨upd_ne (show b ≠ a from fun y => n (by rw [← y]; exact z)), (r.own b z).1⟩
theorem upd_ro {d : D} {v : Option V} {a : Addr} {o : HO} (r : RO K G H d v F) (n : ¬ F a) : RO K G (upd H a o) d v F :=
  r.frame (Same.refl _) fun b z => ⟨upd_ne (show b ≠ a from fun y => n (by rw [← y]; exact z)), (r.own b z).1⟩
/-- an owned list at a written: what stands of the rest -/
theorem good_write {a : Addr} {o : HO} {F' : AS} (s : Same G H) (ha : F a) (ga : G a = none) (sub : ∀ b, F' b → F b) : Good G H F G (upd H a o) F' ∧ Same G (upd H a o) := by
  refine ⟨⟨Same.refl _, fun b u h n => .inl ?_, fun b z => .inl (sub b z), fun _ _ _ h => h⟩, fun b u h => ?_⟩
  · rw [upd_ne (show b ≠ a from fun y => n (by rw [y]; exact ha))]; exact h
  · rw [upd_ne (show b ≠ a from fun y => by rw [y, ga] at h; cases h)]; exact s b u h
/-- an item taken out of a list at a place -/
theorem popEnd {x j : Nat} {is : List D} {y : D} {f : List D → Option (D × List D)} {e' : Env} {Q : V → Hp → Prop} {v : V} {ns : List Int} {a : Addr} (s : Same G H) (r : ROs K G H true e σ F) (hv : σ[x]? = some (some v)) (hn : toInts is = some ns) (hp : PathAt H (some v) ns a)
    (h : onSlot f x is e = .ok y e') (hf : ∀ xs p, f xs = some p → ∃ j, xs[j]? = some p.1 ∧ p.2 = xs.eraseIdx j) (q : Post (rD K) K cl W σ G H F (.ok y e') Q) :
    ∃ xs vs, f xs = some (y, (f xs).elim [] (·.2)) ∧ H a = some (.lst vs) ∧ vs.length = xs.length ∧ ∀ j, xs[j]? = some y → (f xs).elim [] (·.2) = xs.eraseIdx j → ∃ w, vs[j]? = some w ∧ Q w (upd H a (.lst (vs.eraseIdx j))) := by
  obtain ⟨v', ns', a', xs, ys, vs, F', F0, h1, h2, h3, h4, h5, h6, h7, h8, h9, h10, h11, h12⟩ := placeWrite r h
  rw [hv] at h1; cases h1
  rw [hn] at h2; cases h2
  have := h3.uniq hp
  subst this
  refine ⟨xs, vs, by rw [h4]; rfl, h5, by have := h7.len; rw [List.length_map] at this; exact this, fun j hj he => ?_⟩
  rw [h4] at he
  have he : ys = xs.eraseIdx j := he
  obtain ⟨w, Fy, Fr, q1, q2, q3, q4, q5⟩ := h7.erase hj
  refine ⟨w, q1, ?_⟩
  have na : ¬ Fr a' := fun z => h8 ((q5 a').mpr (.inl z))
  have ny : ¬ Fy a' := fun z => h8 ((q5 a').mpr (.inr z))
  obtain ⟨F3, r3, k3⟩ := h12 G (upd H a' (.lst (vs.eraseIdx j))) (vs.eraseIdx j) Fr (Same.refl _) (fun b z => ⟨upd_ne (show b ≠ a' from fun y => h9 (by rw [← y]; exact z)), (r.own b ((h11 b).mpr (.inl z))).1⟩) upd_same h6 (by rw [he]; exact upd_ros q3 na) na (h10.sub (fun _ z => z) fun b z => (q5 b).mpr (.inl z))
  have sub : ∀ b, AS.uni F3 Fy b → F b := fun b z => by
    rcases z with z | z
    · rcases k3 b z with z | z | z
      · exact (h11 b).mpr (.inl z)
      · exact (h11 b).mpr (.inr (.inl z))
      · exact (h11 b).mpr (.inr (.inr ((q5 b).mpr (.inl z))))
    · exact (h11 b).mpr (.inr (.inr ((q5 b).mpr (.inr z))))
  obtain ⟨gw, sw⟩ := good_write (o := .lst (vs.eraseIdx j)) s ((h11 a').mpr (.inr (.inl rfl))) h6 sub
  refine q G _ F3 w Fy sw r3 (upd_ro q2 ny) (fun b z y => ?_) gw
  rcases k3 b z with z | z | z
  · exact h10 b z ((q5 b).mpr (.inr y))
  · exact ny (by rw [← z]; exact y)
  · exact q4 b z y
theorem ixN_int {n : Nat} {i : Int} {j : Nat} (h : ixN n i = some j) (hn : n ≤ sizeLine) : seqIndex? i n = some j ∧ -(2 ^ 63) ≤ i ∧ i < 2 ^ 63 := by
  obtain ⟨h1, h2, h3, h4⟩ := ixN_seq h
  rw [sizeLine_eq] at hn
  exact ⟨h1, by omega, by omega⟩
end
end Tw

set_option Elab.async false
set_option linter.all false
set_option maxRecDepth 100000
set_option maxHeartbeats 8000000
/-! Tw15: THE THEOREM of the expressions: what the text does is what the language means. -/
namespace Tw
open PySem L2
open Classical (propDecidable)
section
variable {S : Sg} {T : Fns} {cl : Nat → Addr} {X : Cx} {W : WX} {σ : St} {G H G0 H0 : Hp} {F F0 Fv : AS} {e : Env} {K : PySem.W.Frag} {α β : Type} {rep : Hp → Hp → α → β → AS → Prop}

theorem Kx.inner (k : Kx S T cl X W) (hc : S.hot = false) (s : Shared) (H : Hp) (scope : Scope) (C : Addr) (cl' : List (Str × Addr)) (fp : List Addr) : Kx (S.inner scope) T cl (X.blk s H scope (compEnvC scope cl' C X.env) fp) W0 where
  nd := k.nd
  N := k.N
  sc := by
    show relabel scope X.env = relS scope S.sc
    rw [← k.sc]; rfl
  calm := fun _ => k.calm hc
  un := k.un
  bl := k.bl
  gl := k.gl
  cc := fun x h => h
  fn := fun _ f x h => k.fn hc f x h
  tk := L2.takes0
def IEs.len : IEs → Nat
  | .nil => 0
  | .cons _ as => IEs.len as + 1
theorem evs_len : ∀ {as : IEs} {e : Env} {ds : List D} {e' : Env}, evs T as e = .ok ds e' → ds.length = IEs.len as
  | .nil, e, ds, e', h => by cases h; rfl
  | .cons a as, e, ds, e', h => by
    obtain ⟨d, e1, h1, h2⟩ := bind_ok (show ((ev T a e).bind fun d e1 => (evs T as e1).bind fun ds e2 => .ok (d :: ds) e2) = .ok ds e' from h)
    obtain ⟨ds', e2, h3, h4⟩ := bind_ok h2
    cases h4
    show ds'.length + 1 = _
    rw [evs_len h3]; rfl
theorem okEs_len : ∀ {as : IEs} {es : List Expr}, okEs as S es = true → es.length = IEs.len as ∧ es.all notStar = true
  | .nil, [], _ => ⟨rfl, rfl⟩
  | .nil, _ :: _, h => by cases h
  | .cons a as, [], h => by cases h
  | .cons a as, e :: es, h => by
    have h : (notStar e && okE a S e && okEs as S es) = true := h
    simp only [Bool.and_eq_true] at h
    obtain ⟨h1, h2⟩ := okEs_len h.2
    exact ⟨by rw [List.length_cons, h1]; rfl, by rw [List.all_cons, h.1.1, h2]; rfl⟩
/-- the two parts of a chain's or a call's reading -/
theorem Post.int_ {d : D} {f : Int → R α} {Q : β → Hp → Prop} (h : Post rep K cl W σ G H F (match d with | .int k => f k | _ => .no) Q) : ∃ k, d = .int k ∧ Post rep K cl W σ G H F (f k) Q := by
  cases d with
  | int k => exact ⟨k, rfl, h⟩
  | _ => exact h.elim
def tAr (K : PySem.W.Frag) (cl : Nat → Addr) (W : WX) (T : Fns) (as : IEs) : TA := fun σ H Q => ∃ G e F, Same G H ∧ ROs K G H true e σ F ∧ Post (fun G _ ds vs F => OpReps K σ G as ds vs ∧ ∀ b, ¬ F b) K cl W σ G H F (evA T as e) Q
def hbase : Expr → Bool
  | .Call .. => false
  | _ => true
theorem hbase_ok {o : Expr} {m : Str} {env : PySem.Env} (h : hbase o = true) : attributeBase o m env (eval o env) = eval o env := by
  cases o <;> first | rfl | cases h
theorem okPath_base {path : IEs} {x : Nat} {o : Expr} (h : okPath path S x o = true) : hbase o = true ∧ ∀ i as, path = .cons i as → as = .nil := by
  cases path with
  | nil =>
    refine ⟨?_, fun _ _ z => by cases z⟩
    cases o <;> first | rfl | cases h
  | cons i as => cases as with
    | nil =>
      refine ⟨?_, fun _ _ z => by cases z; rfl⟩
      cases o <;> first | rfl | cases h
    | cons j js => cases o <;> cases h
theorem inv_chain {p q : P2} {a b c : IE} {e : Expr} (ok : okE (.chain p q a b c) S e = true) : ∃ ea op op' eb ec pos, e = .Compare ea [op, op'] [eb, ec] pos ∧ (cmpB p op && cmpB q op' && noSet ec && okE a S ea && okE b S eb && okE c S ec) = true := by
  cases e with
  | Compare ea ops bs pos => rcases ops with _ | ⟨op, _ | ⟨op', _ | ⟨_, _⟩⟩⟩ <;> rcases bs with _ | ⟨eb, _ | ⟨ec, _ | ⟨_, _⟩⟩⟩ <;> first | exact ⟨_, _, _, _, _, _, rfl, ok⟩ | cases ok
  | _ => cases ok
theorem inv_rev {a : IE} {e : Expr} (ok : okE (.rev a) S e = true) : ∃ ea k p1 p2 p3 pos, e = .Subscript ea (.Slice none none (some (.UnaryOp .USub (.Constant (.int 1) k p1) p2)) p3) pos ∧ okE a S ea = true := by
  cases e with
  | Subscript ea sl pos => cases sl with
    | Slice l h st p3 => cases l with
      | some _ => cases ok
      | none => cases h with
        | some _ => cases ok
        | none => cases st with
          | none => cases ok
          | some st => cases st with
            | UnaryOp op x p2 => cases op with
              | USub => cases x with
                | Constant c k p1 => cases c with
                  | int i =>
                    have ok : (decide ((1 : Int) = i) && okE a S ea) = true := ok
                    rw [Bool.and_eq_true, decide_eq_true_eq] at ok
                    obtain ⟨rfl, ok⟩ := ok
                    exact ⟨_, _, _, _, _, _, rfl, ok⟩
                  | _ => cases ok
                | _ => cases ok
              | _ => cases ok
            | _ => cases ok
    | _ => cases ok
  | _ => cases ok
theorem inv_call {f : Nat} {as : IEs} {e : Expr} (ok : okE (.call f as) S e = true) : ∃ x pp e' es pos, e = .Call (.Name x pp) (e' :: es) [] pos ∧ (!S.hot && decide (S.fn[f]? = some x) && gloB S x && okEs as S (e' :: es)) = true := by
  cases e with
  | Call fn args kws pos => cases fn with
    | Name x pp => rcases args with _ | ⟨e', es⟩ <;> rcases kws with _ | ⟨_, _⟩ <;> first | exact ⟨_, _, _, _, _, rfl, ok⟩ | cases ok
    | _ => cases ok
  | _ => cases ok
theorem inv_comp {own : List (Str × Nat)} {tg : Tg} {it : It} {cs : IEs} {elt : IE} {e : Expr} (ok : okE (.comp own tg it cs elt) S e = true) : ∃ e' tg' it' ifs a scope pos, e = .ListComp e' [⟨tg', it', ifs, a⟩] scope pos ∧
    (!S.hot && decide (a = 0) && blkC S.N S.sc scope own && decide ((own.map (·.2)).Nodup) && tgIn (own.map (·.2)) tg && noSet it' && okIt it S tg' it' && okTg (S.inner scope) tg tg' && okC cs (S.inner scope) ifs && okE elt (S.inner scope) e') = true := by
  cases e with
  | ListComp e' gs scope pos => rcases gs with _ | ⟨⟨tg', it', ifs, a⟩, _ | ⟨_, _⟩⟩ <;> first | exact ⟨_, _, _, _, _, _, _, rfl, ok⟩ | cases ok
  | _ => cases ok
theorem inv_compS {own : List (Str × Nat)} {tg : Tg} {i : Nat} {cs : IEs} {elt : IE} {e : Expr} (ok : okE (.compS own tg i cs elt) S e = true) : ∃ e' tg' y py ifs a scope pos, e = .ListComp e' [⟨tg', .Name y py, ifs, a⟩] scope pos ∧
    (!S.hot && decide (a = 0) && blkC S.N S.sc scope own && decide ((own.map (·.2)).Nodup) && tgIn (own.map (·.2)) tg && slotB S i y && okTg (S.inner scope) tg tg' && okC cs (S.inner scope) ifs && okE elt (S.inner scope) e') = true := by
  cases e with
  | ListComp e' gs scope pos =>
    rcases gs with _ | ⟨⟨tg', it', ifs, a⟩, _ | ⟨_, _⟩⟩
    · cases ok
    · cases it' <;> first | exact ⟨_, _, _, _, _, _, _, _, rfl, ok⟩ | cases ok
    · cases it' <;> cases ok
  | _ => cases ok
theorem pi_slot {X : Cx} {tg e : Expr} {i : Nat} (h : PE X e (tVar i)) : PI X tg e (wiS X.K i) := PI.imp (pi_seq h) fun σ H R q => by
  obtain ⟨v, hv, a, ea, xs, hs, r⟩ := q
  exact ⟨v, hv, a, ea, .inl ⟨xs, hs, r⟩⟩
theorem inv_rgl {t : Bool} {as : IEs} {e : Expr} (ok : okE (.rgl t as) S e = true) : ∃ y p1 rr p2 es p3 p4, e = .Call (.Name y p1) [.Call (.Name rr p2) es [] p3] [] p4 ∧
    (!S.hot && decide (y = Str.ofString (if t then "tuple" else "list")) && bltB S y && decide (rr = "range") && bltB S "range" && decide (1 ≤ es.length) && decide (es.length ≤ 2) && okEs as S es) = true := by
  rw [okE.eq_def] at ok
  split at ok
  all_goals first | (rename_i hh _ _; cases hh; done) | skip
  all_goals first | (rename_i hh _ ; cases hh; done) | skip
  all_goals first | (rename_i hh ; cases hh; done) | skip
  all_goals first | (cases ok; done) | skip
  rename_i hh _
  cases ‹IE.rgl t as = _›
  exact ⟨_, _, _, _, _, _, _, rfl, ok⟩
theorem inv_rngv {as : IEs} {e : Expr} (ok : okE (.rngv as) S e = true) : ∃ rr p2 es p4, e = .Call (.Name rr p2) es [] p4 ∧
    (decide (rr = "range") && bltB S "range" && decide (1 ≤ es.length) && decide (es.length ≤ 2) && okEs as S es) = true := by
  rw [okE.eq_def] at ok
  split at ok
  all_goals first | (rename_i hh _ _; cases hh; done) | skip
  all_goals first | (rename_i hh _ ; cases hh; done) | skip
  all_goals first | (rename_i hh ; cases hh; done) | skip
  all_goals first | (cases ok; done) | skip
  rename_i hh _
  cases ‹IE.rngv as = _›
  exact ⟨_, _, _, _, rfl, ok⟩
theorem inv_at {x : Nat} {i : IE} {e : Expr} (ok : okE (.at x i) S e = true) : ∃ y p1 ei p2, e = .Subscript (.Name y p1) ei p2 ∧ (slotB S x y && plainIx ei && okE i S ei) = true := by
  cases e with
  | Subscript o ei p2 => cases o with
    | Name y p1 => exact ⟨_, _, _, _, rfl, ok⟩
    | _ => cases ok
  | _ => cases ok
theorem inv_vw {p : P2} {x : Nat} {i : IE} {b : Option D} {e : Expr} (ok : okE (.vw p x i b) S e = true) : ∃ y p1 ei p2 op eb p3, e = .Compare (.Subscript (.Name y p1) ei p2) [op] [eb] p3 ∧ (cmpB p op && slotB S x y && plainIx ei && okE i S ei && okVB b eb) = true := by
  rw [okE.eq_def] at ok
  split at ok
  all_goals first | (rename_i hh _ _; cases hh; done) | skip
  all_goals first | (rename_i hh _ ; cases hh; done) | skip
  all_goals first | (rename_i hh ; cases hh; done) | skip
  all_goals first | (cases ok; done) | skip
  rename_i hh _
  cases ‹IE.vw p x i b = _›
  exact ⟨_, _, _, _, _, _, _, rfl, ok⟩
theorem inv_popAt {x : Nat} {path : IEs} {i : IE} {e : Expr} (ok : okE (.popAt x path i) S e = true) : ∃ o m ap e' cp, e = .Call (.Attribute o m ap) [e'] [] cp ∧ (decide (m = "pop") && decide (ap.endLine = cp.line) && notStar e' && okPath path S x o && okE i S e') = true := by
  cases e with
  | Call fn args kws pos => cases fn with
    | Attribute o m ap => rcases args with _ | ⟨e', _ | ⟨_, _⟩⟩ <;> rcases kws with _ | ⟨_, _⟩ <;> first | exact ⟨_, _, _, _, _, rfl, ok⟩ | cases ok
    | _ => cases ok
  | _ => cases ok
theorem inv_pop {x : Nat} {path : IEs} {e : Expr} (ok : okE (.pop x path) S e = true) : ∃ o m ap cp, e = .Call (.Attribute o m ap) [] [] cp ∧ (decide (m = "pop") && decide (ap.endLine = cp.line) && okPath path S x o) = true := by
  cases e with
  | Call fn args kws pos => cases fn with
    | Attribute o m ap => rcases args with _ | ⟨e', es⟩ <;> rcases kws with _ | ⟨_, _⟩ <;> first | exact ⟨_, _, _, _, rfl, ok⟩ | cases ok
    | _ => cases ok
  | _ => cases ok
theorem conB_ok {d : D} {c : Const} {i : Nat} {pos : Pos} (h : conB d c = true) : ∃ v, PE X (.Constant c i pos) (tC v) ∧ ∀ G, RP X.K G d v := by
  cases d with
  | non => cases c <;> first | (cases h; done) | exact ⟨_, pe_non, fun _ => rfl⟩
  | bl b => cases c with
    | bool b' =>
      have e : b = b' := by simpa [conB] using h
      subst e
      exact ⟨_, pe_bl, fun _ => rfl⟩
    | _ => cases h
  | int b => cases c with
    | int b' =>
      have e : b = b' := by simpa [conB] using h
      subst e
      exact ⟨_, pe_int, fun _ => rfl⟩
    | _ => cases h
  | str b => cases c with
    | str b' =>
      have e : b = b' := by simpa [conB] using h
      subst e
      exact ⟨_, pe_str, fun _ => rfl⟩
    | _ => cases h
  | _ => cases c <;> cases h
theorem drop_erase {γ : Type} : ∀ {l : List γ}, l.dropLast = l.eraseIdx (l.length - 1)
  | [] => rfl
  | [x] => rfl
  | x :: y :: l => by
    have h := drop_erase (l := y :: l)
    rw [List.dropLast_cons₂, h]
    simp
def popK (x : Nat) (is : List D) (e1 : Env) (d : D) (e2 : Env) : R D := match d with
  | .int k => if smallI k then onSlot (fun xs => (ixN xs.length k).bind fun j => (xs[j]?).map fun y => (y, xs.eraseIdx j)) x is (unhide is x (gt e1 x) e2) else .no
  | _ => .no
theorem semRg_inv {t : Bool} {ds : List D} {y : D} (h : semRg t ds = some y) : ∃ a b, ((ds = [.int b] ∧ a = 0) ∨ ds = [.int a, .int b]) ∧ okRg a b = true ∧ y = if t then .tup (rgD a b) else .lst true (rgD a b) := by
  unfold semRg at h
  split at h
  · rename_i b
    by_cases q : okRg 0 b = true
    · rw [if_pos q] at h; cases h; exact ⟨0, b, .inl ⟨rfl, rfl⟩, q, rfl⟩
    · rw [if_neg q] at h; cases h
  · rename_i a b
    by_cases q : okRg a b = true
    · rw [if_pos q] at h; cases h; exact ⟨a, b, .inr rfl, q, rfl⟩
    · rw [if_neg q] at h; cases h
  · cases h
theorem rps_rg {a b : Int} : RPs K G (rgD a b) (rgV a b) := by
  have h := RPs.ofInts (K := K) (G := G) ((List.range (b - a).toNat).map fun i => a + (i : Nat))
  rw [List.map_map, List.map_map] at h
  exact h
theorem rgOk_ {a b : Int} (h : okRg a b = true) : RgOk a b := by
  obtain ⟨h1, h2, h3, h4, h5⟩ := okRg_ h
  rw [sizeLine_eq] at h5
  exact ⟨h1, h2, h3, h4, by omega⟩
theorem Post.newR {lo hi : Int} {Q : V → Hp → Prop} (h : Post (rD K) K cl W σ G0 H0 F0 (.ok (.rng lo hi) e) Q) (s : Same G H) (r : ROs K G H true e σ F) (g : Good G0 H0 F0 G H F) :
    ∀ a, H a = none → Q (.ref a) (upd H a (.rng lo hi)) := by
  intro a n
  have nG : G a = none := s.free n
  have sG : Same G (upd G a (.rng lo hi)) := same_upd nG
  have nF : ¬ F a := fun z => by
    obtain ⟨_, xs, q⟩ := r.own a z
    rw [n] at q; cases q
  refine h (upd G a (.rng lo hi)) (upd H a (.rng lo hi)) F (.ref a) AS.emp (fun b u q => ?_) ((ros_upd r n).frame sG fun b z => ⟨rfl, ?_⟩) (RP.ro ⟨a, rfl, upd_same⟩) dis_emp ?_
  · by_cases z : b = a
    · subst z; rw [upd_same] at q ⊢; exact q
    · rw [upd_ne z] at q ⊢; exact s b u q
  · rw [upd_ne (show b ≠ a from fun y => nF (by rw [← y]; exact z))]; exact (r.own b z).1
  · have g' := (good_new (o := .rng lo hi) s g n)
    refine ⟨g'.mono.trans sG, g'.keep, fun b z => g'.own b (z.elim .inl fun z => z.elim), fun b h nf q => ?_⟩
    have nb : b ≠ a := fun y => by
      subst y
      exact absurd n (g.there h nf)
    rw [upd_ne nb]
    exact g.out b h nf q
theorem cr_range : CallR X (.type "range") (fun vs H Q => (∃ j, vs = [V.int j] ∧ ∀ p, H p = none → Q (.ref p) (upd H p (.rng 0 j))) ∨ ∃ i j, vs = [V.int i, V.int j] ∧ ∀ p, H p = none → Q (.ref p) (upd H p (.rng i j))) := by
  intro pins s σ H vs us Q I r h
  rcases h with ⟨j, rfl, q⟩ | h
  · obtain ⟨u1, rfl, ri⟩ := vals1 r
    obtain ⟨t, rfl⟩ := ri
    refine call_range_1 ⟨.ref s.heap.objs.size, upd H s.heap.objs.size (.rng 0 j), I.laid (t' := s.toks + 1 + 1) (fun b o e => Heap.get?_push_of_some _ e) (Nat.le_refl _) ?_, rfl, q _ (I.hok.fresh (Nat.le_refl _))⟩
    exact ⟨s.toks, t, s.toks + 1, Heap.get?_push_size _ rfl⟩
  · exact cr_range2 pins s σ H vs us Q I r h
theorem full_ok {x : Nat} {r : R D} {Q : VK} (h : Post (rD K) K cl W σ G H F (full x e r) Q) : gt e x ≠ .hole ∧ Post (rD K) K cl W σ G H F r Q := by
  have nh : gt e x ≠ .hole := fun z => by unfold full at h; rw [z] at h; exact h
  refine ⟨nh, ?_⟩
  have e1 : full x e r = r := by
    unfold full
    cases z : gt e x <;> first | exact absurd z nh | rfl
  rw [e1] at h
  exact h
/-- an item of an owned list, looked at -/
theorem ownItem {xs : List D} {v : V} {F' : AS} {k : Int} {d : D} (r : RO K G H (.lst true xs) (some v) F') (h : atI xs k = some d) : ∃ a vs w, v = .ref a ∧ SqL K H a vs ∧ atI vs k = some w ∧ ∃ Fw, RO K G H d (some w) Fw := by
  obtain ⟨a, vs, F1, e1, h1, h2, h3, h4, h5⟩ := r
  cases e1
  have hlen : vs.length = xs.length := by
    have := h4.len
    rw [List.length_map] at this
    exact this
  unfold atI at h
  cases hj : ixN xs.length k with
  | none => rw [hj] at h; cases h
  | some j =>
    rw [hj] at h
    have h : xs[j]? = some d := h
    obtain ⟨o, E1, E0, ho, hr, _, _, _⟩ := h4.at h
    rcases hr with ⟨z, _⟩ | hr
    · cases z
    obtain ⟨w, ew⟩ := hr.val
    subst ew
    rw [List.getElem?_map] at ho
    obtain ⟨w', hw, ew⟩ := Option.map_eq_some_iff.mp ho
    cases ew
    refine ⟨a, vs, w, rfl, SqL.of h1, ?_, E1, hr⟩
    unfold atI
    rw [hlen, hj]
    exact hw
theorem viewItem {d : D} {w : V} {F' : AS} (s : Same G H) (r : RO K G H d (some w) F') : (pers d = true → RP K G d w ∧ RV K G H d w) ∧ ∀ ys, d = .lst true ys → ys.all pers = true → RV K G H (.lst false ys) w := by
  refine ⟨fun p => ?_, fun ys e p => ?_⟩
  · obtain ⟨⟨v, e, q⟩, _⟩ := r.rp p
    cases e
    exact ⟨q, q.rv s⟩
  · subst e
    obtain ⟨a, vs, F1, e1, h1, h2, h3, h4, h5⟩ := r
    cases e1
    exact ⟨a, vs, rfl, h1, (ROs.rps h4 p).1⟩
theorem atD_pers {x : Nat} {k : D} (h : pers (gt e x) = true) : atD x k e = R.of (sem2 .ix (gt e x) k) e := by
  unfold atD
  cases z : gt e x with
  | lst o xs => cases o with
    | true => rw [z] at h; cases h
    | false => rfl
  | _ => rfl
theorem ix_int {d k d' : D} (h : sem2 .ix d k = some d') : ∃ n, k = .int n := by
  cases d <;> cases k <;> first | exact ⟨_, rfl⟩ | cases h
theorem atOk {x : Nat} {kd : D} {v y : V} {Fy : AS} {Q : VK} (s1 : Same G H) (r1 : ROs K G H true e σ F) (hv : σ[x]? = some (some v)) (ry : RO K G H kd (some y) Fy) (g1 : Good G0 H0 F0 G H F) (h1 : Post (rD K) K cl W σ G0 H0 F0 (atD x kd e) Q) :
    U2 K .ix v y H Q ∨ rIxL K v y H Q := by
  have nh1 : gt e x ≠ .hole := fun q => by
    unfold atD at h1; rw [q] at h1
    cases kd <;> exact h1
  obtain ⟨v', F1', F0', hv', rv, _, _, _⟩ := takeOut r1 nh1
  rw [hv] at hv'
  cases hv'
  by_cases hp : pers (gt e x) = true
  · rw [atD_pers hp] at h1
    obtain ⟨d', eq, h2⟩ := h1.of_
    obtain ⟨⟨v2, ev2, rp⟩, _⟩ := rv.rp hp
    cases ev2
    obtain ⟨n, en⟩ := ix_int eq
    subst en
    exact .inl ⟨gt e x, .int n, d', G, s1, rp.rv s1, ry.int_.1, eq, h2.ret s1 r1 g1⟩
  · unfold atD at h1
    cases z : gt e x with
    | hole => exact absurd z nh1
    | lst o xs => cases o with
      | false => rw [z] at hp; exact absurd rfl hp
      | true =>
        rw [z] at h1 rv
        cases kd with
        | int n =>
          cases q : atI xs n with
          | none => simp only [q] at h1; exact h1.elim
          | some d =>
            simp only [q] at h1
            by_cases hp : pers d = true
            · rw [if_pos hp] at h1
              obtain ⟨a, vs, w, ea, q1, q2, Fw, q3⟩ := ownItem rv q
              exact .inr ⟨a, vs, n, w, ea, ry.int_.1, q1, q2, h1.old s1 r1 g1 ((viewItem s1 q3).1 hp).1⟩
            · rw [if_neg hp] at h1; exact h1.elim
        | _ => exact h1.elim
    | _ => rw [z] at hp; exact absurd rfl hp
theorem vb_mark {b : Option D} {eb : Expr} {op : CmpOp} (h : okVB b eb = true) : behindInMarks op eb = false := by
  cases b with
  | none => cases eb with
    | List xs p => rfl
    | _ => cases h
  | some d => cases eb with
    | Constant c i p => rfl
    | _ => cases h
/-- the right side: its value, the state beside -/
theorem vb_ok {p : P2} {b : Option D} {eb : Expr} (h : okVB b eb = true) : ∃ t, PE X eb t ∧ ∀ {σ : L2.St} {G H G0 H0 : Hp} {F F0 : AS} {e : Env} {d d' : D} {z : V} {Q : VK}, Same G H → ROs X.K G H true e σ F → RV X.K G H d z → sem2 p d (b.getD (.lst false [])) = some d' → Good G0 H0 F0 G H F → Post (rD X.K) X.K cl W σ G0 H0 F0 (.ok d' e) Q → t σ H fun w H2 => U2 X.K p z w H2 Q := by
  cases b with
  | some c => cases eb with
    | Constant cc i pos =>
      obtain ⟨v, h1, h2⟩ := conB_ok (X := X) (i := i) (pos := pos) h
      exact ⟨_, h1, fun {σ G H G0 H0 F F0 e d d' z Q} s r rv eq g hq => ⟨d, c, d', G, s, rv, (h2 G).rv s, eq, hq.ret s r g⟩⟩
    | _ => cases h
  | none => cases eb with
    | List xs pos => cases xs with
      | nil =>
        refine ⟨_, pe_lst pa_nil, fun {σ G H G0 H0 F F0 e d d' z Q} s r rv eq g hq => ⟨Nat.zero_le _, fun p hp => ?_⟩⟩
        have s' := s.trans (same_upd (o := .lst []) hp)
        refine ⟨d, .lst false [], d', G, s', ?_, ⟨p, [], rfl, upd_same, rfl⟩, eq, hq.ret s' (ros_upd r hp) ((good_new s g hp).sub fun b z => .inl z)⟩
        cases d with
        | lst o xs =>
          obtain ⟨a, vs, e1, h1, h2⟩ := rv
          exact ⟨a, vs, e1, same_upd hp _ _ h1, h2⟩
        | _ => exact rv
      | cons _ _ => cases h
    | _ => cases h
theorem vwOk {p : P2} {x : Nat} {i : IE} {b : Option D} {t : TE} {Q : VK} (kb : ∀ {σ : L2.St} {G H G0 H0 : Hp} {F F0 : AS} {e : Env} {d d' : D} {z : V} {Q : VK}, Same G H → ROs K G H true e σ F → RV K G H d z → sem2 p d (b.getD (.lst false [])) = some d' → Good G0 H0 F0 G H F → Post (rD K) K cl W σ G0 H0 F0 (.ok d' e) Q → t σ H fun w H2 => U2 K p z w H2 Q)
    (h : tE K cl W (ev T (.vw p x i b)) σ H Q) : tOp (U2 K p) (tOp (rIxL K) (tVar x) (tE K cl W (ev T i))) t σ H Q := by
  obtain ⟨G, e, F, s, r, h⟩ := h
  have h : Post (rD K) K cl W σ G H F (full x e ((ev T i e).bind fun k e1 => vwD p x k b e1)) Q := h
  obtain ⟨nh, h⟩ := full_ok h
  obtain ⟨v, _, _, hv, _⟩ := takeOut r nh
  refine ⟨v, hv, G, e, F, s, r, h.first fun kd e1 G1 H1 F1 y Fy _ s1 r1 ry dj g h1 => ?_⟩
  have g1 := good_emp g
  cases z : gt e1 x with
  | lst o xs => cases o with
    | false => unfold vwD at h1; rw [z] at h1; exact h1.elim
    | true =>
      have nh1 : gt e1 x ≠ .hole := fun q => by rw [z] at q; cases q
      obtain ⟨v', F1', F0', hv', rv, _, _, _⟩ := takeOut r1 nh1
      rw [hv] at hv'
      cases hv'
      unfold vwD at h1
      rw [z] at h1 rv
      cases kd with
      | int n =>
        cases q : atI xs n with
        | none => simp only [q] at h1; exact h1.elim
        | some d =>
          obtain ⟨a, vs, w, ea, q1, q2, Fw, q3⟩ := ownItem rv q
          refine ⟨a, vs, n, w, ea, ry.int_.1, q1, q2, ?_⟩
          by_cases hp : pers d = true
          · have h1 : Post (rD K) K cl W σ G H F (R.of (sem2 p d (b.getD (.lst false []))) e1) Q := by
              simp only [q] at h1
              cases d with
              | lst o ys => cases o with
                | true => cases hp
                | false => exact h1
              | hole => cases hp
              | _ => exact h1
            obtain ⟨d', eq, h2⟩ := h1.of_
            exact kb s1 r1 ((viewItem s1 q3).1 hp).2 eq g1 h2
          · cases d with
            | lst o ys => cases o with
              | false => exact absurd rfl hp
              | true =>
                simp only [q] at h1
                by_cases hq : ys.all pers = true
                · rw [if_pos hq] at h1
                  obtain ⟨d', eq, h2⟩ := Post.of_ (show Post (rD K) K cl W σ G H F (R.of (sem2 p (.lst false ys) (b.getD (.lst false []))) e1) Q from h1)
                  exact kb s1 r1 ((viewItem s1 q3).2 ys rfl hq) eq g1 h2
                · rw [if_neg hq] at h1; exact h1.elim
            | hole => exact (show False from q3).elim
            | _ => exact absurd rfl hp
      | _ => exact h1.elim
  | _ => unfold vwD at h1; rw [z] at h1; exact h1.elim
theorem semRv_inv {ds : List D} {y : D} (h : semRv ds = some y) : ∃ a b, ((ds = [.int b] ∧ a = 0) ∨ ds = [.int a, .int b]) ∧ okRg a b = true ∧ y = .rng a b := by
  unfold semRv at h
  split at h
  · rename_i b
    by_cases q : okRg 0 b = true
    · rw [if_pos q] at h; cases h; exact ⟨0, b, .inl ⟨rfl, rfl⟩, q, rfl⟩
    · rw [if_neg q] at h; cases h
  · rename_i a b
    by_cases q : okRg a b = true
    · rw [if_pos q] at h; cases h; exact ⟨a, b, .inr rfl, q, rfl⟩
    · rw [if_neg q] at h; cases h
  · cases h
theorem rg_end {t : Bool} {as : IEs} {Q : VK} {N : Int → Int → Hp → Prop} (h : tE K cl W (ev T (.rgl t as)) σ H Q)
    (kk : ∀ a b H1, RgOk a b → (∀ q, H1 q = none → Q (.ref q) (upd H1 q (if t then .tup (rgV a b) else .lst (rgV a b)))) → N a b H1) :
    ∃ G e F, Same G H ∧ ROs K G H true e σ F ∧ Post (fun G H (p : Int × Int) (q : Int × Int) F => p = q ∧ ∀ b, ¬ F b) K cl W σ G H F ((evs T as e).bind fun ds e1 => match ds with | [.int b] => .ok (0, b) e1 | [.int a, .int b] => .ok (a, b) e1 | _ => .no) fun p H => N p.1 p.2 H := by
  obtain ⟨G, e, F, s, r, h⟩ := h
  have h : Post (rD K) K cl W σ G H F ((evs T as e).bind fun ds e1 => R.of (semRg t ds) e1) Q := h
  refine ⟨G, e, F, s, r, ?_⟩
  cases q : evs T as e with
  | ok ds e1 =>
    rw [q] at h
    obtain ⟨y, hy, h2⟩ := Post.of_ (show Post (rD K) K cl W σ G H F (R.of (semRg t ds) e1) Q from h)
    obtain ⟨a, b, hd, ho, ey⟩ := semRg_inv hy
    subst ey
    have : Post (fun G H (p : Int × Int) (q : Int × Int) F => p = q ∧ ∀ b, ¬ F b) K cl W σ G H F (.ok (a, b) e1) fun p H => N p.1 p.2 H := by
      intro G' H' F' v Fv s' r' rv dj g
      obtain ⟨e1, n⟩ := rv
      subst e1
      refine kk a b H' (rgOk_ ho) fun p hp => ?_
      cases t with
      | true => exact Post.newT h2 s' r' (good_emp g) rps_rg p hp
      | false => exact Post.newL' h2 s' r' (good_emp g) rps_rg p hp
    rcases hd with ⟨e2, e3⟩ | e2
    · subst e2; subst e3; exact this
    · subst e2; exact this
  | ex c w e1 => rw [q] at h; exact h
  | no => rw [q] at h; exact h.elim
theorem chainE {p q : P2} {a b c : IE} {Q : VK} (h : tE K cl W (ev T (.chain p q a b c)) σ H Q) : tChain (U2 K p) (U2 K q) (tE K cl W (ev T a)) (tE K cl W (ev T b)) (tE K cl W (ev T c)) σ H Q := by
  obtain ⟨G, e, F, s, r, h⟩ := h
  have h : Post (rD K) K cl W σ G H F ((ev T a e).bind fun d e1 => (ev T b e1).bind fun d' e2 => match sem2 p (frz d) (frz d') with
    | some (.bl true) => (ev T c e2).bind fun d'' e3 => R.of (sem2 q (frz d') (frz d'')) e3
    | some (.bl false) => .ok (.bl false) e2
    | _ => .no) Q := h
  refine ⟨G, e, F, s, r, h.first fun d e1 G1 H1 F1 v Fv _ s1 r1 rv dj g h1 => ?_⟩
  obtain ⟨G1', s1', r1', p1, g1, _⟩ := share s1 r1 rv dj g
  refine ⟨G1', e1, F1, s1', r1', (h1.shift g1 fun _ z => z).first fun d' e2 G2 H2 F2 v2 Fv2 _ s2 r2 rv2 dj2 g2 h2 => ?_⟩
  obtain ⟨G2', s2', r2', p2, g2', _⟩ := share s2 r2 rv2 dj2 g2
  have p1' := p1.mono g2'.mono
  have h2 := h2.shift g2' fun _ z => z
  cases hq : sem2 p (frz d) (frz d') with
  | none => rw [hq] at h2; exact h2.elim
  | some dd =>
    rw [hq] at h2
    cases dd with
    | bl bb =>
      refine ⟨frz d, frz d', .bl bb, G2', s2', p1'.rv s2', p2.rv s2', hq, fun v' rp => ⟨bb, rp, ?_⟩, fun xs vs z => by (cases z), fun xs vs z => by (cases z)⟩
      cases bb with
      | true =>
        rw [if_pos rfl]
        refine ⟨G2', e2, F2, s2', r2', h2.first fun d'' e3 G3 H3 F3 v3 Fv3 _ s3 r3 rv3 dj3 g3 h3 => ?_⟩
        obtain ⟨G3', s3', r3', p3, g3', _⟩ := share s3 r3 rv3 dj3 g3
        obtain ⟨dr, eq, h4⟩ := (h3.shift g3' fun _ z => z).of_
        exact ⟨frz d', frz d'', dr, G3', s3', (p2.mono g3'.mono).rv s3', p3.rv s3', eq, h4.ret s3' r3' (Good.refl _ _ _)⟩
      | false => rw [if_neg Bool.false_ne_true]; exact Post.old (d := .bl false) h2 s2' r2' (Good.refl _ _ _) rfl
    | _ => exact h2.elim
theorem andT {a b : IE} {Q : Bool → Hp → Prop} (h : tT K cl W (ev T (.and a b)) σ H Q) : tAnd (tT K cl W (ev T a)) (tT K cl W (ev T b)) σ H Q := by
  obtain ⟨G, e, F, s, r, h⟩ := h
  have h : Post rB K cl W σ G H F (((ev T a e).bind fun d e1 => match d with | .bl true => ev T b e1 | .bl false => .ok (.bl false) e1 | _ => .no).bind asB) Q := h
  have h : Post rB K cl W σ G H F (((ev T a e).bind asB).bind fun c e1 => if c = true then (ev T b e1).bind asB else .ok false e1) Q := by
    cases q : ev T a e with
    | ok d e1 => rw [q] at h; cases d <;> first | exact h | (rename_i c; cases c <;> exact h)
    | _ => rw [q] at h; exact h
  refine ⟨G, e, F, s, r, h.first fun c e1 G1 H1 F1 v Fv _ s1 r1 rv dj g h1 => ?_⟩
  obtain ⟨ev, n⟩ := rv
  subst ev
  have g := good_emp g
  cases c with
  | true => rw [if_pos rfl] at h1 ⊢; exact ⟨G1, e1, F1, s1, r1, h1.shift g fun _ z => z⟩
  | false => rw [if_neg Bool.false_ne_true] at h1 ⊢; exact h1.keep s1 r1 g ⟨rfl, fun _ z => z⟩
theorem orT {a b : IE} {Q : Bool → Hp → Prop} (h : tT K cl W (ev T (.or a b)) σ H Q) : tOr (tT K cl W (ev T a)) (tT K cl W (ev T b)) σ H Q := by
  obtain ⟨G, e, F, s, r, h⟩ := h
  have h : Post rB K cl W σ G H F (((ev T a e).bind fun d e1 => match d with | .bl true => .ok (.bl true) e1 | .bl false => ev T b e1 | _ => .no).bind asB) Q := h
  have h : Post rB K cl W σ G H F (((ev T a e).bind asB).bind fun c e1 => if c = true then .ok true e1 else (ev T b e1).bind asB) Q := by
    cases q : ev T a e with
    | ok d e1 => rw [q] at h; cases d <;> first | exact h | (rename_i c; cases c <;> exact h)
    | _ => rw [q] at h; exact h
  refine ⟨G, e, F, s, r, h.first fun c e1 G1 H1 F1 v Fv _ s1 r1 rv dj g h1 => ?_⟩
  obtain ⟨ev, n⟩ := rv
  subst ev
  have g := good_emp g
  cases c with
  | false => rw [if_neg Bool.false_ne_true] at h1 ⊢; exact ⟨G1, e1, F1, s1, r1, h1.shift g fun _ z => z⟩
  | true => rw [if_pos rfl] at h1 ⊢; exact h1.keep s1 r1 g ⟨rfl, fun _ z => z⟩
theorem notT {a : IE} {Q : Bool → Hp → Prop} (h : tT K cl W (ev T (.not a)) σ H Q) : tNot (tT K cl W (ev T a)) σ H Q := by
  obtain ⟨G, e, F, s, r, h⟩ := h
  have h : Post rB K cl W σ G H F (((ev T a e).bind fun d e1 => match d with | .bl b => .ok (.bl (!b)) e1 | _ => .no).bind asB) Q := h
  have h : Post rB K cl W σ G H F (((ev T a e).bind asB).bind fun c e1 => .ok (!c) e1) Q := by
    cases q : ev T a e with
    | ok d e1 => rw [q] at h; cases d <;> exact h
    | _ => rw [q] at h; exact h
  refine ⟨G, e, F, s, r, h.first fun c e1 G1 H1 F1 v Fv _ s1 r1 rv dj g h1 => ?_⟩
  obtain ⟨ev, n⟩ := rv
  subst ev
  exact h1.keep s1 r1 (good_emp g) ⟨rfl, fun _ z => z⟩
theorem inv_cmp2 {p : P2} {e ea eb : Expr} (h : form2 S p e = some (ea, eb)) : plainT e = true ∨ ∃ op pos, e = .Compare ea [op] [eb] pos ∧ (cmpB p op && noSet eb) = true := by
  unfold form2 at h
  split at h
  · exact .inl rfl
  · rename_i p' a' op b' pos
    by_cases q : (cmpB p op && noSet b') = true
    · rw [if_pos q] at h; cases h
      exact .inr ⟨_, _, rfl, q⟩
    · rw [if_neg q] at h; cases h
  · exact .inl rfl
  · cases q : S.hot with
    | true => rw [if_pos q] at h; cases h
    | false =>
      rw [if_neg (by rw [q]; exact Bool.false_ne_true)] at h
      obtain ⟨pp, pos, rfl, _⟩ := call2_ok h
      exact .inl rfl
  · cases q : S.hot with
    | true => rw [if_pos q] at h; cases h
    | false =>
      rw [if_neg (by rw [q]; exact Bool.false_ne_true)] at h
      obtain ⟨pp, pos, rfl, _⟩ := call2_ok h
      exact .inl rfl
  · cases h
theorem inv_cmp1 {p : P1} {e ea : Expr} (h : form1 S p e = some ea) : plainT e = true ∨ (p = .isN ∧ ∃ i p1 pos, e = .Compare ea [.Is] [.Constant .none i p1] pos) ∨ (p = .notN ∧ ∃ i p1 pos, e = .Compare ea [.IsNot] [.Constant .none i p1] pos) := by
  have c1 : ∀ {x : Str}, call1 S x e = some ea → plainT e = true := fun h => by
    obtain ⟨pp, pos, rfl, _⟩ := call1_ok h
    rfl
  have c2 : ∀ {x : Str}, (if S.hot = true then none else call1 S x e) = some ea → plainT e = true := fun h => by
    cases q : S.hot with
    | true => rw [if_pos q] at h; cases h
    | false => rw [if_neg (by rw [q]; exact Bool.false_ne_true)] at h; exact c1 h
  cases p with
  | len => exact .inl (c1 h)
  | tuple => exact .inl (c1 h)
  | list => exact .inl (c1 h)
  | int => exact .inl (c1 h)
  | sorted => exact .inl (c1 h)
  | min => exact .inl (c2 h)
  | max => exact .inl (c2 h)
  | sum => exact .inl (c2 h)
  | neg =>
    obtain ⟨pos, rfl⟩ := fNeg_ok (show fNeg e = some ea from h)
    exact .inl rfl
  | isN => exact .inr (.inl ⟨rfl, fIs_ok (show fIs .Is e = some ea from h)⟩)
  | notN => exact .inr (.inr ⟨rfl, fIs_ok (show fIs .IsNot e = some ea from h)⟩)
  | isTy t =>
    obtain ⟨y, py, h1, h2, h3⟩ := fTy_ok (show fTy S t e = some ea from h)
    obtain ⟨pp, pos, rfl, _⟩ := call2_ok h1
    exact .inl rfl
theorem sT1 (k : Kx S T cl X W) {p : P1} {e ea : Expr} {a : IE} (h : form1 S p e = some ea) (ha : PE X ea (tO X.K cl W T a)) : PT X e (tT X.K cl W (ev T (.p1 p a))) := by
  rcases inv_cmp1 h with q | ⟨rfl, i, p1, pos, rfl⟩ | ⟨rfl, i, p1, pos, rfl⟩
  · exact ptE (PE.imp (s1 k h ha) fun σ H Q h => ask1 h) q
  · refine PT.imp (pt_cmpR op_isN ha pe_non (nomark _)) fun σ H Q q => ?_
    refine to_mono (ask1 (askT q)) fun x H1 ⟨d, d', G, s, r, eq, q⟩ => ⟨rfl, ?_⟩
    rw [(rv_non r).1] at eq
    cases eq
    exact q.1 _ rfl
  · refine PT.imp (pt_cmpR op_notN ha pe_non (nomark _)) fun σ H Q q => ?_
    refine to_mono (ask1 (askT q)) fun x H1 ⟨d, d', G, s, r, eq, q⟩ => ⟨rfl, ?_⟩
    rw [(rv_non r).2] at eq
    cases eq
    exact q.1 _ rfl
theorem sT2 (k : Kx S T cl X W) {p : P2} {e ea eb : Expr} {a b : IE} (h : form2 S p e = some (ea, eb)) (ha : PE X ea (tO X.K cl W T a)) (hb : PE X eb (tO X.K cl W T b)) : PT X e (tT X.K cl W (ev T (.p2 p a b))) := by
  rcases inv_cmp2 h with q | ⟨op, pos, rfl, q⟩
  · exact ptE (PE.imp (s2 k h ha hb) fun σ H Q h => ask2 h) q
  · rw [Bool.and_eq_true] at q
    exact PT.imp (pt_cmpR (u2_cmp k.un q.1) ha hb (mark_ok q.2)) fun σ H Q q => ask2T q
theorem map_frz (ds : List D) : ds.map frz = frz.frzs ds := (frzs_map ds).symm
theorem call_reading {f : Nat} {as : IEs} {stab : List Bool} {vs : List V} {ds : List D} {Q : V → Hp → Prop} (s : Same G H) (r : ROs K G H true e σ F) (o : OpReps K σ G as ds vs)
    (h : Post (rD K) K cl W σ G0 H0 F0 (match fillA stab as ds 0 e with | none => .no | some (ds, lent, e2) => callEnd lent e2 (T.cf f ds)) Q) (g : Good G0 H0 F0 G H F) : spF K cl (T.cf f) vs H Q (WE W σ) := by
  cases hf : fillA stab as ds 0 e with
  | none => rw [hf] at h; exact h.elim
  | some p =>
    obtain ⟨ds', lent, e2⟩ := p
    rw [hf] at h
    have h : Post (rD K) K cl W σ G0 H0 F0 (callEnd lent e2 (T.cf f ds')) Q := h
    obtain ⟨G', F', Fa, s', r', ra, dj, g', pl, nd⟩ := fill_ok s r o hf
    refine ⟨ds', G', Fa, s', ra, ?_⟩
    have gg : Good G0 H0 F0 G' H (AS.uni F' Fa) := g.trans (fun _ z => z) g' fun b z => .inl z
    have back : ∀ {G2 H2 : Hp} {Fp Fv : AS} {ps : Env}, Good G' H Fa G2 H2 (AS.uni Fp Fv) → Same G2 H2 → ROs K G2 H2 true ps (vs.map some) Fp → Dis Fp Fv → ∃ F3, ROs K G2 H2 true (backA ps lent e2) σ F3 ∧ (∀ b, F3 b → F' b ∨ Fp b) ∧ Dis F3 Fv ∧ Good G0 H0 F0 G2 H2 (AS.uni F3 Fv) := by
      intro G2 H2 Fp Fv ps gc s2 rp djp
      obtain ⟨st, dj2⟩ := held gc (r'.own) (fun b z y => dj b y z)
      have r2 := r'.frame gc.mono st
      obtain ⟨F3, r3, h3⟩ := back_ok (lent := lent) r2 rp (fun b z y => dj2 b (.inl y) z) (fun p hp => by
        obtain ⟨_, v, a1, a2⟩ := pl p hp
        exact ⟨v, a1, a2⟩) nd
      refine ⟨F3, r3, h3, fun b z y => ?_, gg.trans (fun b z => .inr z) gc fun b z => ?_⟩
      · rcases h3 b z with z | z
        · exact dj2 b (.inr y) z
        · exact djp b z y
      · rcases z with z | z
        · rcases h3 b z with z | z
          · exact .inr (.inl z)
          · exact .inl (.inl z)
        · exact .inl (.inr z)
    cases hc : T.cf f ds' with
    | no => rw [hc] at h; exact h.elim
    | ok d ps =>
      rw [hc] at h
      intro G2 H2 Fp v Fv s2 rp rv djp gc
      obtain ⟨F3, r3, _, dj3, g3⟩ := back gc s2 rp djp
      exact h G2 H2 F3 v Fv s2 r3 rv dj3 g3
    | ex c w ps =>
      rw [hc] at h
      intro cls dd G2 H2 Fp s2 rp x gc
      obtain ⟨F3, r3, _, _, g3⟩ := back (Fv := AS.emp) (gc.sub fun b z => z.elim id fun z => z.elim) s2 rp dis_emp
      exact h cls dd G2 H2 F3 s2 r3 x (g3.sub fun b z => .inl z)
theorem lst_sz {n : Nat} (h : n ≤ 1000) : n ≤ sizeLine := by rw [sizeLine_eq]; omega
def notAO : IE → Bool
  | .one _ => false
  | .and _ _ => false
  | .or _ _ => false
  | _ => true
theorem inv_bool {a : IE} {op : BoolOp} {es : List Expr} {pos : Pos} (h : okE a S (.BoolOp op es pos) = true) (n : notAO a = true) : False := by
  cases a with
  | p1 p a =>
    have h : (match form1 S p (.BoolOp op es pos) with | some ea => okE a S ea | none => false) = true := h
    cases q : form1 S p (.BoolOp op es pos) with
    | none => rw [q] at h; cases h
    | some ea =>
      rcases inv_cmp1 q with q | ⟨_, _, _, _, q⟩ | ⟨_, _, _, _, q⟩ <;> cases q
  | p2 p a b =>
    have h : (match form2 S p (.BoolOp op es pos) with | some (ea, eb) => okE a S ea && okE b S eb | none => false) = true := h
    cases q : form2 S p (.BoolOp op es pos) with
    | none => rw [q] at h; cases h
    | some ee =>
      obtain ⟨ea, eb⟩ := ee
      rcases inv_cmp2 q with q | ⟨_, _, q, _⟩ <;> cases q
  | one a => cases n
  | and a b => cases n
  | or a b => cases n
  | _ => cases h
theorem tPO {lo : IE} {l : Option Expr} (ok : okO lo (okE lo S) l = true) (h : ∀ e, l = some e → okE lo S e = true → PE X e (tE X.K cl W (ev T lo))) :
    ∃ t, PO X l t ∧ ∀ {σ G H F e} {f : Option Int → Env → R D} {Q : V → Hp → Prop} {N : Option Int → Hp → Prop}, Same G H → ROs X.K G H true e σ F → Post (rD X.K) X.K cl W σ G H F ((ev T lo e).bind fun l e2 => partR l e2 f) Q →
      (∀ p e1 G1 H1 F1, Same G1 H1 → ROs X.K G1 H1 true e1 σ F1 → Good G H F G1 H1 F1 → Post (rD X.K) X.K cl W σ G1 H1 F1 (f p e1) Q → N p H1) → t σ H N := by
  cases l with
  | none =>
    have : lo = .con .hole := by
      unfold okO at ok
      cases lo with
      | con d => cases d <;> first | rfl | cases ok
      | _ => cases ok
    subst this
    exact ⟨_, po_none, fun s r h k => k none _ _ _ _ s r (Good.refl _ _ _) h⟩
  | some x =>
    refine ⟨_, po_some (h x rfl ok), fun {σ G H F e f Q N} s r h k => ?_⟩
    refine ⟨G, e, F, s, r, h.first fun d e1 G1 H1 F1 v Fv _ s1 r1 rv dj g h1 => ?_⟩
    cases d with
    | int i => exact ⟨i, rv.int_.1, k (some i) e1 G1 H1 F1 s1 r1 (good_emp g) (h1.shift (good_emp g) fun _ z => z)⟩
    | hole => exact (show False from rv).elim
    | _ => exact h1.elim
theorem PI_any {tg : Expr} : True := trivial
mutual
theorem sE : ∀ (a : IE) {S : Sg} {X : Cx} {W : WX} {e : Expr}, Kx S T cl X W → okE a S e = true → PE X e (tE X.K cl W (ev T a))
  | .slot i, S, X, W, e, k, ok => by
    cases e with
    | Name x pos =>
      refine PE.imp (k.slot ok) fun σ H Q h => ?_
      obtain ⟨G, e, F, s, r, h⟩ := h
      have h : Post (rD X.K) X.K cl W σ G H F (rdF i e) Q := h
      cases q : rdF i e with
      | ok d e' =>
        obtain ⟨G', F', v, h1, h2, h3, h4, h5⟩ := rdF_ok s r q
        rw [q] at h
        exact ⟨v, h1, h.old h2 h3 h5 h4⟩
      | ex c w e' => exact absurd q rdF_nox
      | no => rw [q] at h; exact h.elim
    | _ => cases ok
  | .con d, S, X, W, e, k, ok => by
    cases e with
    | Constant c i pos =>
      obtain ⟨v, h1, h2⟩ := conB_ok (X := X) (i := i) (pos := pos) (show conB d c = true from ok)
      refine PE.imp h1 fun σ H Q h => ?_
      obtain ⟨G, e, F, s, r, h⟩ := h
      exact Post.old (d := d) h s r (Good.refl _ _ _) (h2 G)
    | _ => cases ok
  | .glob x d, S, X, W, e, k, ok => by
    cases e with
    | Name y pos =>
      have ok : (decide (x = y) && gloB S x && S.gl.any fun p => decide (p.1 = x) && conEq p.2 d) = true := ok
      simp only [Bool.and_eq_true, decide_eq_true_eq, List.any_eq_true] at ok
      obtain ⟨⟨e1, h1⟩, p, hp, e2, h2⟩ := ok
      subst e1
      obtain ⟨u, v, m1, m2, m3⟩ := k.gl p hp d h2
      rw [e2] at m1
      obtain ⟨g1, g2, _⟩ := k.gl_ h1
      refine PE.imp (pe_glob g1 m1 m2 g2) fun σ H Q h => ?_
      obtain ⟨G, e, F, s, r, h⟩ := h
      exact Post.old (d := d) h s r (Good.refl _ _ _) (m3 G)
    | _ => cases ok
  | .p1 p a, S, X, W, e, k, ok => by
    have ok : (match form1 S p e with | some ea => okE a S ea | none => false) = true := ok
    cases q : form1 S p e with
    | none => rw [q] at ok; cases ok
    | some ea =>
      rw [q] at ok
      exact PE.imp (s1 k q (tO_of k ok (sE a k ok))) fun σ H Q h => ask1 h
  | .p2 p a b, S, X, W, e, k, ok => by
    have ok : (match form2 S p e with | some (ea, eb) => okE a S ea && okE b S eb | none => false) = true := ok
    cases q : form2 S p e with
    | none => rw [q] at ok; cases ok
    | some ee =>
      obtain ⟨ea, eb⟩ := ee
      rw [q] at ok
      have ok : (okE a S ea && okE b S eb) = true := ok
      rw [Bool.and_eq_true] at ok
      exact PE.imp (s2 k q (tO_of k ok.1 (sE a k ok.1)) (tO_of k ok.2 (sE b k ok.2))) fun σ H Q h => ask2 h
  | .sl a lo hi, S, X, W, e, k, ok => by
    cases e with
    | Subscript ea sl pos => cases sl with
      | Slice l h st p2 => cases st with
        | none =>
          have ok : (okE a S ea && okO lo (okE lo S) l && okO hi (okE hi S) h) = true := ok
          simp only [Bool.and_eq_true] at ok
          obtain ⟨tl, pl, kl⟩ := tPO (T := T) (cl := cl) (W := W) (X := X) ok.1.2 fun e _ o => sE lo k o
          obtain ⟨th, ph, kh⟩ := tPO (T := T) (cl := cl) (W := W) (X := X) ok.2 fun e _ o => sE hi k o
          refine PE.imp (pe_slice u_sl (tO_of k ok.1.1 (sE a k ok.1.1)) pl ph) fun σ H Q h => ?_
          obtain ⟨G, e, F, s, r, h⟩ := h
          have h : Post (rD X.K) X.K cl W σ G H F ((pre a (ev T a) e).bind fun d e1 => (ev T lo e1).bind fun l e2 => partR l e2 fun l e2 => (ev T hi e2).bind fun h e3 => partR h e3 fun h e3 => (fin a d e3).bind fun d e4 => R.of (semSl d l h) e4) Q := h
          refine opnd s r h fun d e1 G1 H1 F1 v s1 r1 o1 g1 h1 => ?_
          refine kl s1 r1 h1 fun p e2 G2 H2 F2 s2 r2 g2 h2 => ?_
          refine kh s2 r2 h2 fun q e3 G3 H3 F3 s3 r3 g3 h3 => ?_
          obtain ⟨d', e', G', F', s4, r4, rv, g4, _, h4⟩ := finStep s3 r3 ((o1.mono g2.mono).mono g3.mono) h3
          obtain ⟨d'', eq, h5⟩ := h4.of_
          exact ⟨d', d'', G', s4, rv, eq, h5.ret s4 r4 (Good.refl _ _ _)⟩
        | some _ => cases ok
      | _ => cases ok
    | _ => cases ok
  | .rev a, S, X, W, e, k, ok => by
    obtain ⟨ea, kk, p1, p2, p3, pos, rfl, ok2⟩ := inv_rev ok
    replace ok := ok2
    refine PE.imp (pe_revL (tO_of k ok (sE a k ok))) fun σ H Q h => ?_
    obtain ⟨G, e, F, s, r, h⟩ := h
    have h : Post (rD X.K) X.K cl W σ G H F ((pre a (ev T a) e).bind fun d e1 => (fin a d e1).bind fun d e2 => R.of (semRev d) e2) Q := h
    refine opnd s r h fun d e1 G1 H1 F1 v s1 r1 o1 g1 h1 => u_rev ?_
    obtain ⟨d', e', G', F', s4, r4, rv, g4, _, h4⟩ := finStep s1 r1 o1 h1
    obtain ⟨d'', eq, h5⟩ := h4.of_
    exact ⟨d', d'', G', s4, rv, eq, h5.ret s4 r4 (Good.refl _ _ _)⟩
  | .tup es, S, X, W, e, k, ok => by
    cases e with
    | Tuple xs kk pos =>
      have ok : (decide (xs.length ≤ 1000) && okEs es S xs) = true := ok
      rw [Bool.and_eq_true, decide_eq_true_eq] at ok
      refine PE.imp (pe_tup (sEs es k ok.2)) fun σ H Q h => ?_
      obtain ⟨G, e, F, s, r, h⟩ := h
      have h : Post (rD X.K) X.K cl W σ G H F ((evs T es e).bind fun ds e1 => .ok (.tup (ds.map frz)) e1) Q := h
      refine ⟨G, e, F, s, r, h.first fun ds e1 G1 H1 F1 vs Fv hq s1 r1 rv dj g h1 => ?_⟩
      obtain ⟨G2, s2, r2, p2, g2, _⟩ := shares s1 r1 rv dj g
      rw [map_frz] at h1
      refine ⟨lst_sz ?_, fun p hp => (h1.shift g2 fun _ z => z).newT s2 r2 (Good.refl _ _ _) p2 p hp⟩
      have := rv.len
      rw [List.length_map] at this
      rw [this, evs_len hq, ← (okEs_len ok.2).1]
      exact ok.1
    | _ => cases ok
  | .lst es, S, X, W, e, k, ok => by
    cases e with
    | List xs pos =>
      have ok : (decide (xs.length ≤ 1000) && okEs es S xs) = true := ok
      rw [Bool.and_eq_true, decide_eq_true_eq] at ok
      refine PE.imp (pe_lst (sEs es k ok.2)) fun σ H Q h => ?_
      obtain ⟨G, e, F, s, r, h⟩ := h
      have h : Post (rD X.K) X.K cl W σ G H F ((evs T es e).bind fun ds e1 => .ok (.lst true ds) e1) Q := h
      refine ⟨G, e, F, s, r, h.first fun ds e1 G1 H1 F1 vs Fv hq s1 r1 rv dj g h1 => ?_⟩
      refine ⟨lst_sz ?_, fun p hp => h1.newL s1 r1 g dj rv p hp⟩
      have := rv.len
      rw [List.length_map] at this
      rw [this, evs_len hq, ← (okEs_len ok.2).1]
      exact ok.1
    | _ => cases ok
  | .one a, S, X, W, e, k, ok => by
    have : ∃ op x pos, e = .BoolOp op [x] pos ∧ okE a S x = true := by
      cases e with
      | BoolOp op xs pos => cases xs with
        | nil => cases ok
        | cons x xs => cases xs with
          | nil =>
            have ok : (noIf x && okE a S x) = true := ok
            rw [Bool.and_eq_true] at ok
            exact ⟨op, x, pos, rfl, ok.2⟩
          | cons _ _ => cases ok
      | _ => cases ok
    obtain ⟨op, x, pos, rfl, okx⟩ := this
    exact pe_one (sE a k okx)
  | .and a b, S, X, W, e, k, ok => by
    have : ∃ x y r pos, e = .BoolOp .And (x :: y :: r) pos ∧ okE a S x = true ∧ okE b S (.BoolOp .And (y :: r) pos) = true := by
      cases e with
      | BoolOp op xs pos => cases op with
        | Or => cases ok
        | And => cases xs with
          | nil => cases ok
          | cons x xs => cases xs with
            | nil => cases ok
            | cons y r =>
              have ok : (noIf x && okE a S x && okE b S (.BoolOp .And (y :: r) pos)) = true := ok
              simp only [Bool.and_eq_true] at ok
              exact ⟨x, y, r, pos, rfl, ok.1.2, ok.2⟩
      | _ => cases ok
    obtain ⟨x, y, rr, pos, rfl, oka, okb⟩ := this
    refine PE.imp (pe_and (sE a k oka) (sE b k okb)) fun σ H Q h => ?_
    obtain ⟨G, e, F, s, r, h⟩ := h
    have h : Post (rD X.K) X.K cl W σ G H F ((ev T a e).bind fun d e1 => match d with | .bl true => ev T b e1 | .bl false => .ok (.bl false) e1 | _ => .no) Q := h
    refine ⟨G, e, F, s, r, h.first fun d e1 G1 H1 F1 v Fv _ s1 r1 rv dj g h1 => ?_⟩
    have g := good_emp g
    cases d with
    | bl c =>
      refine ⟨c, rv.bl_.1, ?_⟩
      cases c with
      | true => rw [if_pos rfl]; exact ⟨G1, e1, F1, s1, r1, h1.shift g fun _ z => z⟩
      | false => rw [if_neg Bool.false_ne_true]; exact Post.old (d := .bl false) h1 s1 r1 g rfl
    | _ => exact h1.elim
  | .or a b, S, X, W, e, k, ok => by
    have : ∃ x y r pos, e = .BoolOp .Or (x :: y :: r) pos ∧ okE a S x = true ∧ okE b S (.BoolOp .Or (y :: r) pos) = true := by
      cases e with
      | BoolOp op xs pos => cases op with
        | And => cases ok
        | Or => cases xs with
          | nil => cases ok
          | cons x xs => cases xs with
            | nil => cases ok
            | cons y r =>
              have ok : (noIf x && okE a S x && okE b S (.BoolOp .Or (y :: r) pos)) = true := ok
              simp only [Bool.and_eq_true] at ok
              exact ⟨x, y, r, pos, rfl, ok.1.2, ok.2⟩
      | _ => cases ok
    obtain ⟨x, y, rr, pos, rfl, oka, okb⟩ := this
    refine PE.imp (pe_or (sE a k oka) (sE b k okb)) fun σ H Q h => ?_
    obtain ⟨G, e, F, s, r, h⟩ := h
    have h : Post (rD X.K) X.K cl W σ G H F ((ev T a e).bind fun d e1 => match d with | .bl true => .ok (.bl true) e1 | .bl false => ev T b e1 | _ => .no) Q := h
    refine ⟨G, e, F, s, r, h.first fun d e1 G1 H1 F1 v Fv _ s1 r1 rv dj g h1 => ?_⟩
    have g := good_emp g
    cases d with
    | bl c =>
      refine ⟨c, rv.bl_.1, ?_⟩
      cases c with
      | false => rw [if_neg Bool.false_ne_true]; exact ⟨G1, e1, F1, s1, r1, h1.shift g fun _ z => z⟩
      | true => rw [if_pos rfl]; exact Post.old (d := .bl true) h1 s1 r1 g rfl
    | _ => exact h1.elim
  | .not a, S, X, W, e, k, ok => by
    have : ∃ x pos, e = .UnaryOp .Not x pos ∧ okE a S x = true := by
      cases e with
      | UnaryOp op x pos => cases op with
        | Not =>
          have ok : (noIf x && okE a S x) = true := ok
          rw [Bool.and_eq_true] at ok
          exact ⟨x, pos, rfl, ok.2⟩
        | _ => cases ok
      | _ => cases ok
    obtain ⟨x, pos, rfl, okx⟩ := this
    refine PE.imp (pe_not (sE a k okx)) fun σ H Q h => ?_
    obtain ⟨G, e, F, s, r, h⟩ := h
    have h : Post (rD X.K) X.K cl W σ G H F ((ev T a e).bind fun d e1 => match d with | .bl b => .ok (.bl (!b)) e1 | _ => .no) Q := h
    refine ⟨G, e, F, s, r, h.first fun d e1 G1 H1 F1 v Fv _ s1 r1 rv dj g h1 => ?_⟩
    cases d with
    | bl c => exact ⟨c, rv.bl_.1, Post.old (d := .bl (!c)) h1 s1 r1 (good_emp g) rfl⟩
    | _ => exact h1.elim
  | .ife c a b, S, X, W, e, k, ok => by
    cases e with
    | IfExp ec ea eb pos =>
      have ok : (noIf ec && okE c S ec && okE a S ea && okE b S eb) = true := ok
      simp only [Bool.and_eq_true] at ok
      refine PE.imp (pe_ifExp (sT c k ok.1.1.1 ok.1.1.2) (sE a k ok.1.2) (sE b k ok.2)) fun σ H Q h => ?_
      obtain ⟨G, e, F, s, r, h⟩ := h
      have h : Post (rD X.K) X.K cl W σ G H F ((ev T c e).bind fun d e1 => match d with | .bl true => ev T a e1 | .bl false => ev T b e1 | _ => .no) Q := h
      have h : Post (rD X.K) X.K cl W σ G H F (((ev T c e).bind asB).bind fun d e1 => if d = true then ev T a e1 else ev T b e1) Q := by
        cases q : ev T c e with
        | ok d e1 => rw [q] at h; cases d <;> first | exact h | (rename_i b; cases b <;> exact h)
        | _ => rw [q] at h; exact h
      refine teT s r h fun d e1 G1 H1 F1 s1 r1 g h1 => ?_
      cases d with
      | true => rw [if_pos rfl] at h1 ⊢; exact ⟨G1, e1, F1, s1, r1, h1⟩
      | false => rw [if_neg Bool.false_ne_true] at h1 ⊢; exact ⟨G1, e1, F1, s1, r1, h1⟩
    | _ => cases ok
  | .chain p q a b c, S, X, W, e, k, ok => by
    obtain ⟨ea, op, op', eb, ec, pos, rfl, ok2⟩ := inv_chain ok
    replace ok := ok2
    simp only [Bool.and_eq_true] at ok
    obtain ⟨⟨⟨⟨⟨o1, o2⟩, o3⟩, oka⟩, okb⟩, okc⟩ := ok
    refine PE.imp (pe_chain (u2_cmp k.un o1) (u2_cmp k.un o2) (sE a k oka) (sE b k okb) (sE c k okc) (mark_ok o3)) fun σ H Q h => chainE h
  | .call f as, S, X, W, e, k, ok => by
    obtain ⟨x, pp, e', es, pos, rfl, ok2⟩ := inv_call ok
    replace ok := ok2
    simp only [Bool.and_eq_true, decide_eq_true_eq] at ok
    obtain ⟨⟨⟨o1, o2⟩, o3⟩, o4⟩ := ok
    have hh : S.hot = false := by simpa using o1
    obtain ⟨kk, a, fd, ps, f1, f2, f3, f4, f5⟩ := k.fn hh f x o2
    obtain ⟨g1, g2, _⟩ := k.gl_ o3
    have hn := (okEs_len o4).2
    rw [List.all_cons, Bool.and_eq_true] at hn
    refine PE.imp (pe_callS f5 f1 g1 f2 f3 f4 (fun σ => passAt k.tk σ) (sAr as k o4) g2 (starEach_cons hn.1) (backTo_any hn.2)) fun σ H Q h => ?_
    obtain ⟨G, e, F, s, r, h⟩ := h
    have h : Post (rD X.K) X.K cl W σ G H F ((evA T as e).bind fun ds e1 => match fillA (T.stab f) as ds 0 e1 with | none => .no | some (ds, lent, e2) => callEnd lent e2 (T.cf f ds)) Q := h
    refine ⟨G, e, F, s, r, h.first fun ds e1 G1 H1 F1 vs Fv _ s1 r1 rv dj g h1 => ?_⟩
    exact call_reading s1 r1 rv.1 h1 (good_emp g)
  | .comp own tg it cs elt, S, X, W, e, k, ok => by
    obtain ⟨e', tg', it', ifs, a, scope, pos, rfl, ok2⟩ := inv_comp ok
    replace ok := ok2
    simp only [Bool.and_eq_true, decide_eq_true_eq] at ok
    obtain ⟨⟨⟨⟨⟨⟨⟨⟨⟨o1, o2⟩, o3⟩, o4⟩, o5⟩, o6⟩, o7⟩, o8⟩, o9⟩, o10⟩ := ok
    subst o2
    have hh : S.hot = false := by simpa using o1
    have hb : BlkOk X.N X.env.scope scope own := by
      rw [k.N, k.sc]; exact blkOk_by o3
    refine PE.imp (pe_lc (k.calm hh) k.nd (sI it k o7) hb (fun s H C cl' fp => sTg (k.inner hh s H scope C cl' fp) o8 o5) (fun s H C cl' fp => sC cs (k.inner hh s H scope C cl' fp) o9)
      (fun s H C cl' fp => sE elt (k.inner hh s H scope C cl' fp) o10) (fun x => ?_)) fun σ H Q h => comp_ok o4 h
    cases it' <;> first | rfl | cases o6
  | .compS own tg i cs elt, S, X, W, e, k, ok => by
    obtain ⟨e', tg', y, py, ifs, a, scope, pos, rfl, ok2⟩ := inv_compS ok
    replace ok := ok2
    simp only [Bool.and_eq_true, decide_eq_true_eq] at ok
    obtain ⟨⟨⟨⟨⟨⟨⟨⟨o1, o2⟩, o3⟩, o4⟩, o5⟩, o6⟩, o8⟩, o9⟩, o10⟩ := ok
    subst o2
    have hh : S.hot = false := by simpa using o1
    have hb : BlkOk X.N X.env.scope scope own := by
      rw [k.N, k.sc]; exact blkOk_by o3
    exact PE.imp (pe_lc (k.calm hh) k.nd (pi_slot (k.slot o6)) hb (fun s H C cl' fp => sTg (k.inner hh s H scope C cl' fp) o8 o5) (fun s H C cl' fp => sC cs (k.inner hh s H scope C cl' fp) o9)
      (fun s H C cl' fp => sE elt (k.inner hh s H scope C cl' fp) o10) (fun x => rfl)) fun σ H Q h => comp_okS o4 h
  | .rgl t as, S, X, W, e, k, ok => by
    obtain ⟨y, p1, rr, p2, es, p3, p4, rfl, ok2⟩ := inv_rgl ok
    replace ok := ok2
    simp only [Bool.and_eq_true, decide_eq_true_eq] at ok
    obtain ⟨⟨⟨⟨⟨⟨⟨o1, o2⟩, o3⟩, o4⟩, o5⟩, o51⟩, o52⟩, o6⟩ := ok
    subst o4
    have hh : S.hot = false := by simpa using o1
    obtain ⟨y1, y2, y3, y4⟩ := k.bl_ o3
    obtain ⟨r1, r2, r3, r4⟩ := k.bl_ o5
    -- the range
    have hr : PRg X (.Call (.Name "range" p2) es [] p3) (fun σ H Q => ∃ G e F, Same G H ∧ ROs X.K G H true e σ F ∧ Post (fun G H (p : Int × Int) (q : Int × Int) F => p = q ∧ ∀ b, ¬ F b) X.K cl W σ G H F ((evs T as e).bind fun ds e1 => match ds with | [.int b] => .ok (0, b) e1 | [.int a, .int b] => .ok (a, b) e1 | _ => .no) fun p H => Q p.1 p.2 H) := by
      cases as with
      | nil => cases es with
        | nil => exact absurd o51 (by decide)
        | cons _ _ => cases o6
      | cons a as => cases es with
        | nil => cases o6
        | cons x xs =>
          have o6 : (notStar x && okE a S x && okEs as S xs) = true := o6
          simp only [Bool.and_eq_true] at o6
          cases as with
          | nil => cases xs with
            | nil =>
              intro pins s σ H Q I h
              refine prg_1 r1 r4 (sE a k o6.1.2) (starEach_cons o6.1.1) pins s σ H Q I ?_
              obtain ⟨G, e, F, s, r, h⟩ := h
              have h : Post (fun G H (p : Int × Int) (q : Int × Int) F => p = q ∧ ∀ b, ¬ F b) X.K cl W σ G H F ((ev T a e).bind fun d e1 => match [d] with | [.int b] => .ok (0, b) e1 | [.int a, .int b] => .ok (a, b) e1 | _ => .no) fun p H => Q p.1 p.2 H := by
                cases q : ev T a e with
                | ok d e1 =>
                  have h : Post _ X.K cl W σ G H F (((ev T a e).bind fun d e1 => (R.ok ([] : List D) e1).bind fun ds e2 => .ok (d :: ds) e2).bind _) _ := h
                  rw [q] at h; exact h
                | ex c w e1 =>
                  have h : Post _ X.K cl W σ G H F (((ev T a e).bind fun d e1 => (R.ok ([] : List D) e1).bind fun ds e2 => .ok (d :: ds) e2).bind _) _ := h
                  rw [q] at h; exact h
                | no =>
                  have h : Post _ X.K cl W σ G H F (((ev T a e).bind fun d e1 => (R.ok ([] : List D) e1).bind fun ds e2 => .ok (d :: ds) e2).bind _) _ := h
                  rw [q] at h; exact h
              refine ⟨G, e, F, s, r, h.first fun d e1 G1 H1 F1 v Fv _ s1 r1 rv dj g h1 => ?_⟩
              cases d with
              | int n => exact ⟨n, rv.int_.1, h1.keep s1 r1 (good_emp g) ⟨rfl, fun _ z => z⟩⟩
              | _ => exact h1.elim
            | cons _ _ => exact absurd o6.2 (by intro z; cases z)
          | cons b bs => cases xs with
            | nil => exact absurd o6.2 (by intro z; cases z)
            | cons z zs =>
              have o7 : (notStar z && okE b S z && okEs bs S zs) = true := o6.2
              simp only [Bool.and_eq_true] at o7
              cases bs with
              | nil => cases zs with
                | nil =>
                  intro pins s σ H Q I h
                  refine prg_2 r1 r4 (sE a k o6.1.2) (sE b k o7.1.2) (starEach_cons o6.1.1) (starEach_cons o7.1.1) (backTo_any (by simp [o7.1.1])) pins s σ H Q I ?_
                  obtain ⟨G, e, F, s, r, h⟩ := h
                  have h : Post (fun G H (p : Int × Int) (q : Int × Int) F => p = q ∧ ∀ b, ¬ F b) X.K cl W σ G H F ((ev T a e).bind fun d e1 => (ev T b e1).bind fun d' e2 => match [d, d'] with | [.int b] => .ok (0, b) e2 | [.int a, .int b] => .ok (a, b) e2 | _ => .no) fun p H => Q p.1 p.2 H := by
                    have h : Post _ X.K cl W σ G H F (((ev T a e).bind fun d e1 => ((ev T b e1).bind fun d' e2 => (R.ok ([] : List D) e2).bind fun ds e3 => .ok (d' :: ds) e3).bind fun ds e2 => .ok (d :: ds) e2).bind _) _ := h
                    cases q : ev T a e with
                    | ok d e1 =>
                      rw [q] at h
                      cases q2 : ev T b e1 with
                      | ok d' e2 => simp only [R.bind_ok, q2] at h ⊢; exact h
                      | ex c w e2 => simp only [R.bind_ok, q2] at h ⊢; exact h
                      | no => simp only [R.bind_ok, q2] at h ⊢; exact h
                    | ex c w e1 => rw [q] at h; exact h
                    | no => rw [q] at h; exact h
                  refine ⟨G, e, F, s, r, h.first fun d e1 G1 H1 F1 v Fv _ s1 r1 rv dj g h1 => ?_⟩
                  refine ⟨G1, e1, F1, s1, r1, (h1.shift (good_emp g) fun _ z => z).first fun d' e2 G2 H2 F2 v2 Fv2 _ s2 r2 rv2 dj2 g2 h2 => ?_⟩
                  cases d with
                  | int n => cases d' with
                    | int m => exact ⟨n, m, rv.int_.1, rv2.int_.1, h2.keep s2 r2 (good_emp g2) ⟨rfl, fun _ z => z⟩⟩
                    | _ => exact h2.elim
                  | _ => exact h2.elim
                | cons _ _ => exact absurd o7.2 (by intro z; cases z)
              | cons c cs =>
                exfalso
                have hl := (okEs_len (as := .cons a (.cons b (.cons c cs))) (S := S) (es := x :: z :: zs) (by
                  show (notStar x && okE a S x && (notStar z && okE b S z && okEs (.cons c cs) S zs)) = true
                  rw [o6.1.1, o6.1.2, o7.1.1, o7.1.2, o7.2]; rfl)).1
                rw [hl] at o52
                simp [IEs.len] at o52
    cases t with
    | false =>
      have e0 : y = "list" := o2
      subst e0
      exact PE.imp (pe_listRg (k.calm hh) y1 y4 hr (starEach_cons rfl)) fun σ H Q h => rg_end (N := fun a b H1 => RgOk a b ∧ ∀ q, H1 q = none → Q (.ref q) (upd H1 q (.lst (rgV a b)))) h fun a b H1 ok q => ⟨ok, q⟩
    | true =>
      have e0 : y = "tuple" := o2
      subst e0
      exact PE.imp (pe_tupRg (k.calm hh) y1 y4 hr (starEach_cons rfl)) fun σ H Q h => rg_end (N := fun a b H1 => RgOk a b ∧ ∀ q, H1 q = none → Q (.ref q) (upd H1 q (.tup (rgV a b)))) h fun a b H1 ok q => ⟨ok, q⟩
  | .rngv as, S, X, W, e, k, ok => by
    obtain ⟨rr, p2, es, p4, rfl, ok2⟩ := inv_rngv ok
    replace ok := ok2
    simp only [Bool.and_eq_true, decide_eq_true_eq] at ok
    obtain ⟨⟨⟨⟨o1, o2⟩, o3⟩, o4⟩, o5⟩ := ok
    subst o1
    obtain ⟨r1, r2, r3, r4⟩ := k.bl_ o2
    have hn := (okEs_len o5).2
    have hA := sEs as k o5
    cases es with
    | nil => exact absurd o3 (by decide)
    | cons x xs =>
      rw [List.all_cons, Bool.and_eq_true] at hn
      refine PE.imp (pe_callTy cr_range r1 r4 (by decide +kernel) hA r3 r2 (starEach_cons hn.1) (backTo_any hn.2)) fun σ H Q h => ?_
      obtain ⟨G, e, F, s, r, h⟩ := h
      have h : Post (rD X.K) X.K cl W σ G H F ((evs T as e).bind fun ds e1 => R.of (semRv ds) e1) Q := h
      refine ⟨G, e, F, s, r, h.first fun ds e1 G1 H1 F1 vs Fv _ s1 r1 rv dj g h1 => ?_⟩
      obtain ⟨y, hy, h2⟩ := h1.of_
      obtain ⟨a, b, hd, ho, ey⟩ := semRv_inv hy
      subst ey
      rcases hd with ⟨e2, e3⟩ | e2
      · subst e3
        exact .inl ⟨b, rds_ints (ns := [b]) rv e2, fun p hp => h2.newR s1 r1 (good_emp g) p hp⟩
      · exact .inr ⟨a, b, rds_ints (ns := [a, b]) rv e2, fun p hp => h2.newR s1 r1 (good_emp g) p hp⟩
  | .at x i, S, X, W, e, k, ok => by
    obtain ⟨y, p1, ei, p2, rfl, ok2⟩ := inv_at ok
    replace ok := ok2
    simp only [Bool.and_eq_true] at ok
    refine PE.imp (pe_ix (IxR.or u_ix ix_list) (k.slot ok.1.1) (sE i k ok.2) (plainIx_ok ok.1.2)) fun σ H Q h => ?_
    obtain ⟨G, e, F, s, r, h⟩ := h
    have h : Post (rD X.K) X.K cl W σ G H F (full x e ((ev T i e).bind (atD x))) Q := h
    obtain ⟨nh, h⟩ := full_ok h
    obtain ⟨v, _, _, hv, _⟩ := takeOut r nh
    exact ⟨v, hv, G, e, F, s, r, h.first fun kd e1 G1 H1 F1 y Fy _ s1 r1 ry dj g h1 => atOk s1 r1 hv ry (good_emp g) h1⟩
  | .vw p x i b, S, X, W, e, k, ok => by
    obtain ⟨y, p1, ei, p2, op, eb, p3, rfl, ok2⟩ := inv_vw ok
    replace ok := ok2
    simp only [Bool.and_eq_true] at ok
    obtain ⟨t, hb, kb⟩ := vb_ok (cl := cl) (W := W) (p := p) (X := X) ok.2
    refine PE.imp (pe_cmpR (u2_cmp k.un ok.1.1.1.1) (pe_ix ix_list (k.slot ok.1.1.1.2) (sE i k ok.1.2) (plainIx_ok ok.1.1.2)) hb (vb_mark ok.2)) fun σ H Q h => ?_
    exact vwOk kb h
  | .popAt x path i, S, X, W, e, k, ok => by
    obtain ⟨o, m, ap, e', cp, rfl, ok2⟩ := inv_popAt ok
    replace ok := ok2
    simp only [Bool.and_eq_true, decide_eq_true_eq] at ok
    obtain ⟨⟨⟨⟨o1, o2⟩, o3⟩, o4⟩, o5⟩ := ok
    subst o1
    obtain ⟨b1, b2⟩ := okPath_base o4
    refine PE.imp (pe_bm PySem.F.plainAttrs_list PySem.F.slot_list_pop PySem.F.type_list_pop mt_popAt (sP path k o4) (pa_one (sE i k o5) o3) (hbase_ok b1) (by rw [starEach_cons o3]; rfl) (by rw [o2]; exact beq_self_eq_true _) (starEach_cons o3) rfl) fun σ H Q h => ?_
    obtain ⟨G, e, F, s, r, h⟩ := h
    have h : Post (rD X.K) X.K cl W σ G H F ((evP x (evs T path) e).bind fun is e1 => if ownAt x is e1 = true then (ev T i (hide is x e1)).bind (popK x is e1) else .no) Q := h
    refine placeStep b2 s r h fun is e1 G1 H1 F1 v ns a vs s1 r1 hv hn ho hp ha g1 h1 => ?_
    refine ⟨.inl ⟨rfl, _, SqL.of ha⟩, ?_⟩
    obtain ⟨Fh, Fk, rh, djh, hF, ownk, back⟩ := hideStep r1 hv hn ho hp
    refine ⟨G1, hide is x e1, Fh, s1, rh, ?_⟩
    have g0 : Good G1 H1 F1 G1 H1 (AS.uni Fh Fk) := (Good.refl _ _ _).sub fun b z => (hF b).mpr z
    refine h1.shiftH g0 djh ownk fun d e2 G2 H2 F2 w Fw eqd s2 r2 rv dj g2 st dj2 g3 => ?_
    rw [eqd] at h1
    have h2 : Post (rD X.K) X.K cl W σ G1 H1 F1 (popK x is e1 d e2) Q := h1
    have : ∃ n, d = .int n := by
      cases d with
      | int n => exact ⟨n, rfl⟩
      | _ => exact h2.elim
    obtain ⟨n, en⟩ := this
    subst en
    have h2 : Post (rD X.K) X.K cl W σ G1 H1 F1 (if smallI n = true then onSlot (fun xs => (ixN xs.length n).bind fun j => (xs[j]?).map fun y => (y, xs.eraseIdx j)) x is (unhide is x (gt e1 x) e2) else .no) Q := h2
    by_cases hs : smallI n = true
    · rw [if_pos hs] at h2
      obtain ⟨hp2, F3, r3, h3⟩ := back G2 H2 e2 F2 g2.mono st r2 (dj2.sub (fun b z => .inl z) fun _ z => z)
      have g4 : Good G1 H1 F1 G2 H2 F3 := g3.sub fun b z => (h3 b z).imp .inl id
      cases q : onSlot (fun xs => (ixN xs.length n).bind fun j => (xs[j]?).map fun y => (y, xs.eraseIdx j)) x is (unhide is x (gt e1 x) e2) with
      | ok y e' =>
        rw [q] at h2
        have hf : ∀ (xs : List D) p, (ixN xs.length n).bind (fun j => (xs[j]?).map fun y => (y, xs.eraseIdx j)) = some p → ∃ j, xs[j]? = some p.1 ∧ p.2 = xs.eraseIdx j := fun xs p hq => by
          obtain ⟨j, h1, h2⟩ := Option.bind_eq_some_iff.mp hq
          obtain ⟨y, h3, h4⟩ := Option.map_eq_some_iff.mp h2
          subst h4
          exact ⟨j, h3, rfl⟩
        obtain ⟨xs, ws, q1, q2, q3, q4⟩ := popEnd (j := 0) s2 r3 hv hn hp2 q hf (h2.shift g4 fun _ z => z)
        obtain ⟨j, j1, j2⟩ := Option.bind_eq_some_iff.mp q1
        obtain ⟨y', j3, j4⟩ := Option.map_eq_some_iff.mp j2
        have j5 : y' = y := (Prod.mk.inj j4).1
        subst j5
        obtain ⟨w', w1, w2⟩ := q4 j j3 (Prod.mk.inj j4).2.symm
        unfold smallI at hs
        rw [Bool.and_eq_true, decide_eq_true_eq, decide_eq_true_eq] at hs
        exact ⟨a, ws, n, j, w', rfl, by rw [rv.int_.1], q2, by omega, by omega, by rw [q3]; exact (ixN_seq j1).1, w1, w2⟩
      | ex c w e' =>
        exfalso
        unfold onSlot at q
        split at q
        · split at q <;> cases q
        · cases q
      | no => rw [q] at h2; exact h2.elim
    · rw [if_neg hs] at h2; exact h2.elim
  | .pop x path, S, X, W, e, k, ok => by
    obtain ⟨o, m, ap, cp, rfl, ok2⟩ := inv_pop ok
    replace ok := ok2
    simp only [Bool.and_eq_true, decide_eq_true_eq] at ok
    obtain ⟨⟨o1, o2⟩, o4⟩ := ok
    subst o1
    obtain ⟨b1, b2⟩ := okPath_base o4
    refine PE.imp (pe_bm0 PySem.F.plainAttrs_list PySem.F.slot_list_pop PySem.F.type_list_pop mt_pop (sP path k o4) (hbase_ok b1) (by rw [o2]; exact beq_self_eq_true _)) fun σ H Q h => ?_
    obtain ⟨G, e, F, s, r, h⟩ := h
    have h : Post (rD X.K) X.K cl W σ G H F ((evP x (evs T path) e).bind fun is e1 => if ownAt x is e1 = true then onSlot (fun xs => xs.getLast?.map fun y => (y, xs.dropLast)) x is e1 else .no) Q := h
    refine placeStep b2 s r h fun is e1 G1 H1 F1 v ns a vs s1 r1 hv hn ho hp ha g1 h1 => ?_
    refine ⟨.inl ⟨rfl, _, SqL.of ha⟩, ?_⟩
    cases q : onSlot (fun xs => xs.getLast?.map fun y => (y, xs.dropLast)) x is e1 with
    | ok y e' =>
      rw [q] at h1
      have hf : ∀ (xs : List D) p, xs.getLast?.map (fun y => (y, xs.dropLast)) = some p → ∃ j, xs[j]? = some p.1 ∧ p.2 = xs.eraseIdx j := fun xs p hq => by
        obtain ⟨y, h3, h4⟩ := Option.map_eq_some_iff.mp hq
        subst h4
        refine ⟨xs.length - 1, by rw [← List.getLast?_eq_getElem?]; exact h3, ?_⟩
        show xs.dropLast = _
        rw [drop_erase]
      obtain ⟨xs, ws, q1, q2, q3, q4⟩ := popEnd (j := 0) s1 r1 hv hn hp q hf h1
      obtain ⟨y', h3, h4⟩ := Option.map_eq_some_iff.mp q1
      have j5 : y' = y := (Prod.mk.inj h4).1
      subst j5
      have hne : xs ≠ [] := fun z => by rw [z] at h3; cases h3
      have hl : 0 < xs.length := List.length_pos_iff.mpr hne
      have ed : ∀ {γ : Type} (l : List γ), l.length = xs.length → l.dropLast = l.eraseIdx (xs.length - 1) := fun l hl' => by
        rw [drop_erase, hl']
      obtain ⟨w', w1, w2⟩ := q4 (xs.length - 1) (by rw [← List.getLast?_eq_getElem?]; exact h3) (by rw [← (Prod.mk.inj h4).2]; exact ed xs rfl)
      refine ⟨a, ws, w', rfl, rfl, q2, by rw [q3]; exact w1, ?_⟩
      rw [ed ws q3]; exact w2
    | ex c w e' =>
      exfalso
      unfold onSlot at q
      split at q
      · split at q <;> cases q
      · cases q
    | no => rw [q] at h1; exact h1.elim
termination_by a => (sizeOf a, 2)
theorem sP : ∀ (path : IEs) {S : Sg} {X : Cx} {W : WX} {x : Nat} {o : Expr}, Kx S T cl X W → okPath path S x o = true → PE X o (tPl X.K cl W T x path)
  | .nil, S, X, W, x, o, k, ok => by
    cases o with
    | Name y pos => exact k.slot ok
    | _ => cases ok
  | .cons i .nil, S, X, W, x, o, k, ok => by
    cases o with
    | Subscript a b pos => cases a with
      | Name y p =>
        have ok : (slotB S x y && plainIx b && okE i S b) = true := ok
        simp only [Bool.and_eq_true] at ok
        exact pe_ix ix_list (k.slot ok.1.1) (sE i k ok.2) (plainIx_ok ok.1.2)
      | _ => cases ok
    | _ => cases ok
  | .cons i (.cons j js), S, X, W, x, o, k, ok => by
    cases o <;> cases ok
termination_by path => (sizeOf path, 2)
theorem sT : ∀ (a : IE) {S : Sg} {X : Cx} {W : WX} {e : Expr}, Kx S T cl X W → noIf e = true → okE a S e = true → PT X e (tT X.K cl W (ev T a))
  | .slot i, S, X, W, e, k, n, ok => by
    have := sE (.slot i) k ok
    cases e <;> first | exact ptE this rfl | cases ok
  | .con d, S, X, W, e, k, n, ok => by
    have := sE (.con d) k ok
    cases e <;> first | exact ptE this rfl | cases ok
  | .glob x d, S, X, W, e, k, n, ok => by
    have := sE (.glob x d) k ok
    cases e <;> first | exact ptE this rfl | cases ok
  | .p1 p a, S, X, W, e, k, n, ok => by
    have ok : (match form1 S p e with | some ea => okE a S ea | none => false) = true := ok
    cases q : form1 S p e with
    | none => rw [q] at ok; cases ok
    | some ea =>
      rw [q] at ok
      exact sT1 k q (tO_of k ok (sE a k ok))
  | .p2 p a b, S, X, W, e, k, n, ok => by
    have ok : (match form2 S p e with | some (ea, eb) => okE a S ea && okE b S eb | none => false) = true := ok
    cases q : form2 S p e with
    | none => rw [q] at ok; cases ok
    | some ee =>
      obtain ⟨ea, eb⟩ := ee
      rw [q] at ok
      have ok : (okE a S ea && okE b S eb) = true := ok
      rw [Bool.and_eq_true] at ok
      exact sT2 k q (tO_of k ok.1 (sE a k ok.1)) (tO_of k ok.2 (sE b k ok.2))
  | .sl a lo hi, S, X, W, e, k, n, ok => by
    have := sE (.sl a lo hi) k ok
    cases e <;> first | exact ptE this rfl | cases ok
  | .rev a, S, X, W, e, k, n, ok => by
    have := sE (.rev a) k ok
    obtain ⟨ea, kk, p1, p2, p3, pos, rfl, ok2⟩ := inv_rev ok
    exact ptE this rfl
  | .tup es, S, X, W, e, k, n, ok => by
    have := sE (.tup es) k ok
    cases e <;> first | exact ptE this rfl | cases ok
  | .lst es, S, X, W, e, k, n, ok => by
    have := sE (.lst es) k ok
    cases e <;> first | exact ptE this rfl | cases ok
  | .one a, S, X, W, e, k, n, ok => by
    cases e with
    | BoolOp op xs pos => exact (sW (.one a) k ok).pt
    | _ => cases ok
  | .and a b, S, X, W, e, k, n, ok => by
    cases e with
    | BoolOp op xs pos => exact (sW (.and a b) k ok).pt
    | _ => cases ok
  | .or a b, S, X, W, e, k, n, ok => by
    cases e with
    | BoolOp op xs pos => exact (sW (.or a b) k ok).pt
    | _ => cases ok
  | .not a, S, X, W, e, k, n, ok => by
    have : ∃ x pos, e = .UnaryOp .Not x pos ∧ (noIf x && okE a S x) = true := by
      cases e with
      | UnaryOp op x pos => cases op with
        | Not => exact ⟨x, pos, rfl, ok⟩
        | _ => cases ok
      | _ => cases ok
    obtain ⟨x, pos, rfl, okx⟩ := this
    rw [Bool.and_eq_true] at okx
    exact PT.imp (pt_not (sT a k okx.1 okx.2)) fun σ H Q h => notT h
  | .ife c a b, S, X, W, e, k, n, ok => by
    cases e with
    | IfExp _ _ _ _ => cases n
    | _ => cases ok
  | .chain p q a b c, S, X, W, e, k, n, ok => by
    obtain ⟨ea, op, op', eb, ec, pos, rfl, ok2⟩ := inv_chain ok
    replace ok := ok2
    simp only [Bool.and_eq_true] at ok
    obtain ⟨⟨⟨⟨⟨o1, o2⟩, o3⟩, oka⟩, okb⟩, okc⟩ := ok
    exact PT.imp (pt_chain (u2_cmp k.un o1) (u2_cmp k.un o2) (sE a k oka) (sE b k okb) (sE c k okc) (mark_ok o3)) fun σ H Q h => chainE (askT h)
  | .call f as, S, X, W, e, k, n, ok => by
    have := sE (.call f as) k ok
    obtain ⟨x, pp, e', es, pos, rfl, ok2⟩ := inv_call ok
    exact ptE this rfl
  | .comp own tg it cs elt, S, X, W, e, k, n, ok => by
    have := sE (.comp own tg it cs elt) k ok
    obtain ⟨e', tg', it', ifs, a, scope, pos, rfl, ok2⟩ := inv_comp ok
    exact ptE this rfl
  | .compS own tg i cs elt, S, X, W, e, k, n, ok => by
    have := sE (.compS own tg i cs elt) k ok
    obtain ⟨e', tg', y, py, ifs, a, scope, pos, rfl, ok2⟩ := inv_compS ok
    exact ptE this rfl
  | .rgl t as, S, X, W, e, k, n, ok => by
    have := sE (.rgl t as) k ok
    obtain ⟨y, p1, rr, p2, es, p3, p4, rfl, ok2⟩ := inv_rgl ok
    exact ptE this rfl
  | .at x i, S, X, W, e, k, n, ok => by
    have := sE (.at x i) k ok
    obtain ⟨y, p1, ei, p2, rfl, ok2⟩ := inv_at ok
    exact ptE this rfl
  | .vw p x i b, S, X, W, e, k, n, ok => by
    obtain ⟨y, p1, ei, p2, op, eb, p3, rfl, ok2⟩ := inv_vw ok
    replace ok := ok2
    simp only [Bool.and_eq_true] at ok
    obtain ⟨t, hb, kb⟩ := vb_ok (cl := cl) (W := W) (p := p) (X := X) ok.2
    refine PT.imp (pt_cmpR (u2_cmp k.un ok.1.1.1.1) (pe_ix ix_list (k.slot ok.1.1.1.2) (sE i k ok.1.2) (plainIx_ok ok.1.1.2)) hb (vb_mark ok.2)) fun σ H Q h => ?_
    exact vwOk kb (askT h)
  | .rngv as, S, X, W, e, k, n, ok => by
    have := sE (.rngv as) k ok
    obtain ⟨rr, p2, es, p4, rfl, ok2⟩ := inv_rngv ok
    exact ptE this rfl
  | .popAt x path i, S, X, W, e, k, n, ok => by
    have := sE (.popAt x path i) k ok
    obtain ⟨o, m, ap, e', cp, rfl, ok2⟩ := inv_popAt ok
    exact ptE this rfl
  | .pop x path, S, X, W, e, k, n, ok => by
    have := sE (.pop x path) k ok
    obtain ⟨o, m, ap, cp, rfl, ok2⟩ := inv_pop ok
    exact ptE this rfl
termination_by a => (sizeOf a, 4)
theorem sW : ∀ (a : IE) {S : Sg} {X : Cx} {W : WX} {op : BoolOp} {es : List Expr} {pos : Pos}, Kx S T cl X W → okE a S (.BoolOp op es pos) = true → PW X (.BoolOp op es pos) (tT X.K cl W (ev T a))
  | .one a, S, X, W, op, es, pos, k, ok => by
    cases es with
    | nil => cases ok
    | cons x xs => cases xs with
      | cons _ _ => cases ok
      | nil =>
        have ok : (noIf x && okE a S x) = true := ok
        rw [Bool.and_eq_true] at ok
        have h : PT X x (tT X.K cl W (ev T (.one a))) := sT a k ok.1 ok.2
        cases op with
        | And => exact pw_and1 h
        | Or => exact pw_or1 h
  | .and a b, S, X, W, op, es, pos, k, ok => by
    cases op with
    | Or => cases ok
    | And => cases es with
      | nil => cases ok
      | cons x xs => cases xs with
        | nil => cases ok
        | cons y r =>
          have ok : (noIf x && okE a S x && okE b S (.BoolOp .And (y :: r) pos)) = true := ok
          simp only [Bool.and_eq_true] at ok
          have h := pw_and (sT a k ok.1.1 ok.1.2) (sW b k ok.2)
          exact ⟨fun wh pins s σ H Q I q => h.run wh pins s σ H Q I (andT q)⟩
  | .or a b, S, X, W, op, es, pos, k, ok => by
    cases op with
    | And => cases ok
    | Or => cases es with
      | nil => cases ok
      | cons x xs => cases xs with
        | nil => cases ok
        | cons y r =>
          have ok : (noIf x && okE a S x && okE b S (.BoolOp .Or (y :: r) pos)) = true := ok
          simp only [Bool.and_eq_true] at ok
          have h := pw_or (sT a k ok.1.1 ok.1.2) (sW b k ok.2)
          exact ⟨fun wh pins s σ H Q I q => h.run wh pins s σ H Q I (orT q)⟩
  | .slot _, _, _, _, _, _, _, _, ok => (inv_bool ok rfl).elim
  | .con _, _, _, _, _, _, _, _, ok => (inv_bool ok rfl).elim
  | .glob _ _, _, _, _, _, _, _, _, ok => (inv_bool ok rfl).elim
  | .p1 _ _, _, _, _, _, _, _, _, ok => (inv_bool ok rfl).elim
  | .p2 _ _ _, _, _, _, _, _, _, _, ok => (inv_bool ok rfl).elim
  | .sl _ _ _, _, _, _, _, _, _, _, ok => (inv_bool ok rfl).elim
  | .rev _, _, _, _, _, _, _, _, ok => (inv_bool ok rfl).elim
  | .tup _, _, _, _, _, _, _, _, ok => (inv_bool ok rfl).elim
  | .lst _, _, _, _, _, _, _, _, ok => (inv_bool ok rfl).elim
  | .not _, _, _, _, _, _, _, _, ok => (inv_bool ok rfl).elim
  | .ife _ _ _, _, _, _, _, _, _, _, ok => (inv_bool ok rfl).elim
  | .chain _ _ _ _ _, _, _, _, _, _, _, _, ok => (inv_bool ok rfl).elim
  | .call _ _, _, _, _, _, _, _, _, ok => (inv_bool ok rfl).elim
  | .comp _ _ _ _ _, _, _, _, _, _, _, _, ok => (inv_bool ok rfl).elim
  | .compS _ _ _ _ _, _, _, _, _, _, _, _, ok => (inv_bool ok rfl).elim
  | .rgl _ _, _, _, _, _, _, _, _, ok => (inv_bool ok rfl).elim
  | .popAt _ _ _, _, _, _, _, _, _, _, ok => (inv_bool ok rfl).elim
  | .rngv _, _, _, _, _, _, _, _, ok => (inv_bool ok rfl).elim
  | .at _ _, _, _, _, _, _, _, _, ok => (inv_bool ok rfl).elim
  | .vw _ _ _ _, _, _, _, _, _, _, _, ok => (inv_bool ok rfl).elim
  | .pop _ _, _, _, _, _, _, _, _, ok => (inv_bool ok rfl).elim
termination_by a => (sizeOf a, 3)
theorem sEs : ∀ (as : IEs) {S : Sg} {X : Cx} {W : WX} {es : List Expr}, Kx S T cl X W → okEs as S es = true → PA X es (tA X.K cl W (evs T as))
  | .nil, S, X, W, es, k, ok => by
    cases es with
    | cons _ _ => cases ok
    | nil =>
      refine PA.imp pa_nil fun σ H Q h => ?_
      obtain ⟨G, e, F, s, r, h⟩ := h
      exact Post.keep (d := ([] : List D)) (v := ([] : List V)) h s r (Good.refl _ _ _) ⟨rfl, fun _ z => z⟩
  | .cons a as, S, X, W, es, k, ok => by
    cases es with
    | nil => cases ok
    | cons x xs =>
      have ok : (notStar x && okE a S x && okEs as S xs) = true := ok
      simp only [Bool.and_eq_true] at ok
      refine PA.imp (pa_cons (sE a k ok.1.2) (sEs as k ok.2) (starEach_cons ok.1.1)) fun σ H Q h => ?_
      obtain ⟨G, e, F, s, r, h⟩ := h
      have h : Post (rDs X.K) X.K cl W σ G H F ((ev T a e).bind fun d e1 => (evs T as e1).bind fun ds e2 => .ok (d :: ds) e2) Q := h
      refine ⟨G, e, F, s, r, h.first fun d e1 G1 H1 F1 v Fv _ s1 r1 rv dj g h1 => ?_⟩
      refine ⟨G1, e1, F1, s1, r1, h1.shiftH g dj rv.own fun ds e2 G2 H2 F2 vs Fvs eq s2 r2 rvs dj2 g2 st dj3 g3 => ?_⟩
      rw [eq] at h1
      refine h1 G2 H2 F2 (v :: vs) (AS.uni Fv Fvs) s2 r2 ⟨some v, vs.map some, Fv, Fvs, rfl, .inr (RO.frame g2.mono st rv), rvs, fun b p q => dj3 b (.inr q) p, fun b => Iff.rfl⟩ (fun b p q => q.elim (fun q => dj3 b (.inl p) q) fun q => dj2 b p q) (g3.sub fun b z => ?_)
      rcases z with z | z | z
      · exact .inl (.inl z)
      · exact .inr z
      · exact .inl (.inr z)
termination_by as => (sizeOf as, 2)
theorem sAr : ∀ (as : IEs) {S : Sg} {X : Cx} {W : WX} {es : List Expr}, Kx S T cl X W → okEs as S es = true → PA X es (tAr X.K cl W T as)
  | .nil, S, X, W, es, k, ok => by
    cases es with
    | cons _ _ => cases ok
    | nil =>
      refine PA.imp pa_nil fun σ H Q h => ?_
      obtain ⟨G, e, F, s, r, h⟩ := h
      exact Post.keep (d := ([] : List D)) (v := ([] : List V)) h s r (Good.refl _ _ _) ⟨⟨rfl, rfl⟩, fun _ z => z⟩
  | .cons a as, S, X, W, es, k, ok => by
    cases es with
    | nil => cases ok
    | cons x xs =>
      have ok : (notStar x && okE a S x && okEs as S xs) = true := ok
      simp only [Bool.and_eq_true] at ok
      refine PA.imp (pa_cons (tO_of k ok.1.2 (sE a k ok.1.2)) (sAr as k ok.2) (starEach_cons ok.1.1)) fun σ H Q h => ?_
      obtain ⟨G, e, F, s, r, h⟩ := h
      have h : Post (fun G _ ds vs F => OpReps X.K σ G (.cons a as) ds vs ∧ ∀ b, ¬ F b) X.K cl W σ G H F ((pre a (ev T a) e).bind fun d e1 => (evA T as e1).bind fun ds e2 => .ok (frz d :: ds) e2) Q := h
      refine opnd s r h fun d e1 G1 H1 F1 v s1 r1 o1 g1 h1 => ?_
      refine ⟨G1, e1, F1, s1, r1, h1.first fun ds e2 G2 H2 F2 vs Fv _ s2 r2 rv dj g2 h2 => ?_⟩
      refine h2.keep s2 r2 (good_emp g2) ⟨⟨frz d, ds, v, vs, rfl, rfl, ?_, rv.1⟩, fun _ z => z⟩
      have o2 := o1.mono g2.mono
      unfold OpRep at o2
      exact o2
termination_by as => (sizeOf as, 2)
theorem sC : ∀ (as : IEs) {S : Sg} {X : Cx} {W : WX} {es : List Expr}, Kx S T cl X W → okC as S es = true → PTs X es (tT X.K cl W (evC T as))
  | .nil, S, X, W, es, k, ok => by
    cases es with
    | cons _ _ => cases ok
    | nil =>
      refine ⟨fun pins s σ H Q I q => pts_nil.run pins s σ H Q I ?_⟩
      obtain ⟨G, e, F, s, r, h⟩ := q
      exact Post.keep (d := true) (v := true) (rep := rB) h s r (Good.refl _ _ _) ⟨rfl, fun _ z => z⟩
  | .cons a .nil, S, X, W, es, k, ok => by
    cases es with
    | nil => cases ok
    | cons x xs => cases xs with
      | cons _ _ => cases ok
      | nil =>
        have ok : (noIf x && okE a S x) = true := ok
        rw [Bool.and_eq_true] at ok
        exact pts_one (sT a k ok.1 ok.2)
  | .cons a (.cons _ _), S, X, W, es, k, ok => by
    rcases es with _ | ⟨_, _ | ⟨_, _⟩⟩ <;> cases ok
termination_by as => (sizeOf as, 2)
theorem sI : ∀ (it : It) {S : Sg} {X : Cx} {W : WX} {tg e : Expr}, Kx S T cl X W → okIt it S tg e = true → PI X tg e (tI X.K cl W (evIt T it))
  | .seq a, S, X, W, tg, e, k, ok => by
    refine PI.imp (pi_seq (sE a k ok)) fun σ H R h => ?_
    obtain ⟨G, e, F, s, r, h⟩ := h
    have h : Post (rIt X.K) X.K cl W σ G H F ((ev T a e).bind fun d e1 => Tw.R.of (walkD (frz d)) e1) R := h
    refine ⟨G, e, F, s, r, h.first fun d e1 G1 H1 F1 v Fv _ s1 r1 rv dj g h1 => ?_⟩
    obtain ⟨G2, s2, r2, p2, g2, _⟩ := share s1 r1 rv dj g
    obtain ⟨xs, hx, h2⟩ := h1.of_
    generalize frz d = d' at p2 hx
    cases d' with
    | tup ys =>
      cases hx
      obtain ⟨a, vs, ea, q1, q2⟩ := p2
      exact ⟨a, ea, .inr (.inl ⟨vs, sqT_same s2 q1, h2.keep s2 r2 g2 ⟨walksT q1 q2, fun _ z => z⟩⟩)⟩
    | rng lo hi =>
      obtain ⟨a, ea, q1⟩ := p2
      have hx : (if okRg lo hi = true then some (rgD lo hi) else none) = some xs := hx
      by_cases ho : okRg lo hi = true
      · rw [if_pos ho] at hx
        cases hx
        obtain ⟨b1, b2, b3, b4, _⟩ := okRg_ ho
        exact ⟨a, ea, .inr (.inr ⟨lo, hi, s2 _ _ q1, ⟨b1, b2, b3, b4⟩, h2.keep s2 r2 g2 ⟨walksR, fun _ z => z⟩⟩)⟩
      · rw [if_neg ho] at hx; cases hx
    | lst o ys =>
      cases hx
      obtain ⟨_, a, vs, ea, q1, q2⟩ := p2
      exact ⟨a, ea, .inl ⟨vs, SqL.of (s2 _ _ q1), h2.keep s2 r2 g2 ⟨walksL q1 q2, fun _ z => z⟩⟩⟩
    | _ => cases hx
  | .rng as, S, X, W, tg, e, k, ok => by
    have : ∃ rr p es pos, e = .Call (.Name rr p) es [] pos ∧ (decide (rr = "range") && bltB S "range" && okEs as S es && decide (1 ≤ es.length) && decide (es.length ≤ 3)) = true := by
      cases e with
      | Call f es kws pos => cases f with
        | Name rr p => cases kws with
          | nil => exact ⟨_, _, _, _, rfl, ok⟩
          | cons _ _ => cases ok
        | _ => cases ok
      | _ => cases ok
    obtain ⟨rr, p, es, pos, rfl, ok2⟩ := this
    replace ok := ok2
    simp only [Bool.and_eq_true, decide_eq_true_eq] at ok
    obtain ⟨⟨⟨⟨o1, o2⟩, o3⟩, o4⟩, o5⟩ := ok
    subst o1
    obtain ⟨g1, g2, g3, g4⟩ := k.bl_ o2
    exact pi_rng g1 g4 (okEs_len o3).2 o4 o5 (sEs as k o3) fun e ds e' h => by rw [evs_len h, (okEs_len o3).1]
  | .enum a, S, X, W, tg, e, k, ok => by cases ok
  | .zip a b, S, X, W, tg, e, k, ok => by cases ok
termination_by it => (sizeOf it, 2)
end
end
end Tw

set_option Elab.async false
set_option linter.all false
set_option maxRecDepth 100000
set_option maxHeartbeats 4000000
/-! Tw16: statements: what is wanted, the loops, the writes. -/
namespace Tw
open PySem L2
open Classical (propDecidable)
/-- behind a statement begun at (G, H) with F; N: what stays true of the slots -/
def PostS (K : PySem.W.Frag) (cl : Nat → Addr) (W : WX) (N : St → Prop) (G H : Hp) (F : AS) (o : O) (D : Ends) : Prop := match o with
  | .nx e => ∀ G' H' F' σ', Same G' H' → ROs K G' H' true e σ' F' → N σ' → Good G H F G' H' F' → D.nx σ' H'
  | .bk e => ∀ G' H' F' σ', Same G' H' → ROs K G' H' true e σ' F' → N σ' → Good G H F G' H' F' → D.bk σ' H'
  | .ct e => ∀ G' H' F' σ', Same G' H' → ROs K G' H' true e σ' F' → N σ' → Good G H F G' H' F' → D.ct σ' H'
  | .rt d e => ∀ G' H' F' σ' v Fv, Same G' H' → ROs K G' H' true e σ' F' → N σ' → RO K G' H' d (some v) Fv → Dis F' Fv → Good G H F G' H' (AS.uni F' Fv) → D.rt v H'
  | .ex c w e => ∀ cls dd σ' G' H' F', Same G' H' → ROs K G' H' true e σ' F' → N σ' → Exr K cl G' H' c w cls dd → Good G H F G' H' F' → W cls dd σ' H'
  | .no => False
def tS (K : PySem.W.Frag) (cl : Nat → Addr) (W : WX) (N : St → Prop) (f : Env → O) : TS := fun D σ H => ∃ G e F, Same G H ∧ ROs K G H true e σ F ∧ N σ ∧ PostS K cl W N G H F (f e) D
theorem PS.imp {X : Cx} {st : Stmt} {t t' : TS} (h : PS X st t) (i : ∀ D σ H, t' D σ H → t D σ H) : PS X st t' := ⟨fun pins s σ H D I q => h.run pins s σ H D I (i D σ H q)⟩
theorem PSs.imp {X : Cx} {st : List Stmt} {t t' : TS} (h : PSs X st t) (i : ∀ D σ H, t' D σ H → t D σ H) : PSs X st t' := ⟨fun pins s σ H D I q => h.run pins s σ H D I (i D σ H q)⟩
section
variable {S : Sg} {T : Fns} {cl : Nat → Addr} {X : Cx} {W : WX} {N : St → Prop} {σ : St} {G H G0 H0 G1 H1 : Hp} {F F0 Fv F1 F1' : AS} {e : Env} {K : PySem.W.Frag} {α β γ δ : Type} {D : Ends}
theorem PostS.shift {o : O} (h : PostS K cl W N G H F o D) (g : Good G H F G1 H1 F1') (i : ∀ b, F1 b → F1' b) : PostS K cl W N G1 H1 F1 o D := by
  cases o with
  | nx e => exact fun G' H' F' σ' s r n g' => h G' H' F' σ' s r n (g.trans i g' fun b z => .inl z)
  | bk e => exact fun G' H' F' σ' s r n g' => h G' H' F' σ' s r n (g.trans i g' fun b z => .inl z)
  | ct e => exact fun G' H' F' σ' s r n g' => h G' H' F' σ' s r n (g.trans i g' fun b z => .inl z)
  | rt d e => exact fun G' H' F' σ' v Fv s r n rv dj g' => h G' H' F' σ' v Fv s r n rv dj (g.trans i g' fun b z => .inl z)
  | ex c w e => exact fun cls dd σ' G' H' F' s r n x g' => h cls dd σ' G' H' F' s r n x (g.trans i g' fun b z => .inl z)
  | no => exact h
/-- the first of two: an expression, then the rest -/
theorem PostS.first {r : R γ} {rep' : Hp → Hp → γ → δ → AS → Prop} {f : γ → Env → O} {Q' : δ → Hp → Prop} (n : N σ) (h : PostS K cl W N G H F (O.of r f) D)
    (k : ∀ d e G1 H1 F1 v Fv, r = .ok d e → Same G1 H1 → ROs K G1 H1 true e σ F1 → rep' G1 H1 d v Fv → Dis F1 Fv → Good G H F G1 H1 (AS.uni F1 Fv) → PostS K cl W N G H F (f d e) D → Q' v H1) : Post rep' K cl W σ G H F r Q' := by
  cases r with
  | ok d e => exact fun G1 H1 F1 v Fv s ro rp dj g => k d e G1 H1 F1 v Fv rfl s ro rp dj g h
  | ex c w e => exact fun cls dd G' H' F' s ro x g => h cls dd σ G' H' F' s ro n x g
  | no => exact h
/-- .. with something owned beside -/
theorem PostS.firstH {Fh : AS} {r : R γ} {rep' : Hp → Hp → γ → δ → AS → Prop} {f : γ → Env → O} {Q' : δ → Hp → Prop} (n : N σ) (h : PostS K cl W N G H F (O.of r f) D) (g : Good G H F G1 H1 (AS.uni F1 Fh)) (dh : Dis F1 Fh)
    (there : ∀ b, Fh b → G1 b = none ∧ ∃ xs, H1 b = some (.lst xs))
    (k : ∀ d e G2 H2 F2 v Fv, r = .ok d e → Same G2 H2 → ROs K G2 H2 true e σ F2 → rep' G2 H2 d v Fv → Dis F2 Fv → (∀ b, Fh b → H2 b = H1 b ∧ G2 b = none) → Dis (AS.uni F2 Fv) Fh → Same G1 G2 →
      Good G H F G2 H2 (AS.uni (AS.uni F2 Fv) Fh) → PostS K cl W N G H F (f d e) D → Q' v H2) : Post rep' K cl W σ G1 H1 F1 r Q' := by
  cases r with
  | ok d e =>
    intro G2 H2 F2 v Fv s ro rp dj g2
    have st : ∀ b, Fh b → H2 b = H1 b ∧ G2 b = none := fun b z => by
      obtain ⟨n, xs, q⟩ := there b z
      have nF : ¬ F1 b := fun y => dh b y z
      have hn : H1 b ≠ none := by rw [q]; exact fun z => nomatch z
      refine ⟨?_, g2.out b hn nF n⟩
      rcases g2.keep b _ q nF with y | ⟨⟨ps, y⟩, _⟩
      · rw [y, q]
      · cases y
    refine k d e G2 H2 F2 v Fv rfl s ro rp dj st (fun b z y => ?_) g2.mono (g.trans (fun b z => .inl z) g2 fun b z => z.elim (fun z => .inl z) fun z => .inr (.inr z)) h
    rcases g2.own b z with q | q
    · exact dh b q y
    · obtain ⟨_, xs, q'⟩ := there b y
      rw [q'] at q; cases q
  | ex c w e => exact fun cls dd G' H' F' s ro x g' => h cls dd σ G' H' F' s ro n x (g.trans (fun b z => .inl z) g' fun b z => .inl z)
  | no => exact h
theorem PostS.seq {o : O} {f : Env → O} (h : PostS K cl W N G H F (o.seq f) D) : PostS K cl W N G H F o { D with nx := tS K cl W N f D } := by
  cases o with
  | nx e => exact fun G' H' F' σ' s r n g => ⟨G', e, F', s, r, n, PostS.shift (show PostS K cl W N G H F (f e) D from h) g fun _ z => z⟩
  | bk e => exact h
  | ct e => exact h
  | rt d e => exact h
  | ex c w e => exact h
  | no => exact h
/-! ### the loops -/
theorem for_ok {vs : List Nat} {σ0 : St} {t : Tg} {it : It} {f : Env → O} (h : tS K cl W (Agr vs σ0) (fun e => O.of (evIt T it e) fun xs e1 => forGo t f xs e1) D σ H) :
    tFor (tI K cl W (evIt T it)) (tG K vs t) (tS K cl W (Agr vs σ0) f) D σ H := by
  obtain ⟨G, e, F, s, r, n, h⟩ := h
  refine ⟨G, e, F, s, r, PostS.first n h fun xs e1 G1 H1 F1 J Fv _ s1 r1 rv dj g h1 => ?_⟩
  obtain ⟨wk, nf⟩ := rv
  have h1 := PostS.shift h1 (good_emp g) fun _ z => z
  refine ⟨fun i m σ' H' => m = xs.length - i ∧ i ≤ xs.length ∧ ∃ G' e' F', Same G1 G' ∧ Same G' H' ∧ ROs K G' H' true e' σ' F' ∧ Agr vs σ0 σ' ∧ PostS K cl W (Agr vs σ0) G' H' F' (forGo t f (xs.drop i) e') D,
    ⟨xs.length, by simp, Nat.zero_le _, G1, e1, F1, Same.refl _, s1, r1, n, by rw [List.drop_zero]; exact h1⟩, ?_⟩
  rintro i m σ' H' ⟨em, hi, G', e', F', sG, s', r', n', h'⟩
  rcases Nat.lt_or_ge i xs.length with hlt | hge
  · right
    refine ⟨wk.go i H' (sG.trans s') hlt, fun σ'' H'' => ∃ m', m' < m ∧ (m' = xs.length - (i + 1) ∧ i + 1 ≤ xs.length ∧ ∃ G' e' F', Same G1 G' ∧ Same G' H'' ∧ ROs K G' H'' true e' σ'' F' ∧ Agr vs σ0 σ'' ∧ PostS K cl W (Agr vs σ0) G' H'' F' (forGo t f (xs.drop (i + 1)) e') D), fun σ'' H'' z => z, fun x H2 hy => ?_⟩
    have hx : xs[i]? = some xs[i] := List.getElem?_eq_getElem hlt
    obtain ⟨G2, m2, s2, sH, rx, new⟩ := wk.yld i H' x H2 (sG.trans s') hy _ hx G' sG s'
    rw [List.drop_eq_getElem_cons hlt] at h'
    unfold forGo at h'
    cases ha : asg t xs[i] e' with
    | none => simp only [ha] at h'; exact h'.elim
    | some e2 =>
      simp only [ha] at h'
      have r2 := r'.frame m2 (yldHeld sH new r'.own)
      have gy := yldGood m2 sH new F'
      refine ⟨G2, e', F', xs[i], e2, s2, r2, rx, ha, fun σ2 F2 ro2 hF2 ag2 => ⟨G2, e2, F2, s2, ro2, n'.trans ag2, ?_⟩⟩
      have h2 := PostS.shift h' gy hF2
      have next : ∀ {e3 : Env} {G3 H3 : Hp} {F3 : AS} {σ3 : St}, PostS K cl W (Agr vs σ0) G2 H2 F2 (forGo t f (xs.drop (i + 1)) e3) D → Same G3 H3 → ROs K G3 H3 true e3 σ3 F3 → Agr vs σ0 σ3 → Good G2 H2 F2 G3 H3 F3 →
          ∃ m', m' < m ∧ (m' = xs.length - (i + 1) ∧ i + 1 ≤ xs.length ∧ ∃ G' e' F', Same G1 G' ∧ Same G' H3 ∧ ROs K G' H3 true e' σ3 F' ∧ Agr vs σ0 σ3 ∧ PostS K cl W (Agr vs σ0) G' H3 F' (forGo t f (xs.drop (i + 1)) e') D) := fun {e3 G3 H3 F3 σ3} h3 s3 r3 n3 g3 =>
        ⟨xs.length - (i + 1), by omega, rfl, hlt, G3, e3, F3, (sG.trans m2).trans g3.mono, s3, r3, n3, PostS.shift h3 g3 fun _ z => z⟩
      cases q : f e2 with
      | nx e3 => simp only [q] at h2; exact fun G3 H3 F3 σ3 s3 r3 n3 g3 => next h2 s3 r3 n3 g3
      | ct e3 => simp only [q] at h2; exact fun G3 H3 F3 σ3 s3 r3 n3 g3 => next h2 s3 r3 n3 g3
      | bk e3 => simp only [q] at h2; exact h2
      | rt d e3 => simp only [q] at h2; exact h2
      | ex c w e3 => simp only [q] at h2; exact h2
      | no => simp only [q] at h2; exact h2
  · left
    refine ⟨wk.stop i H' (sG.trans s') hge, ?_⟩
    rw [List.drop_eq_nil_of_le hge] at h'
    exact h' G' H' F' σ' s' r' n' (Good.refl _ _ _)
theorem while_ok {c : Env → R Tw.D} {f : Env → O} {wf : Nat} (h : tS K cl W N (fun e => whileGo c f wf e) D σ H) : tWhile (tT K cl W c) (tS K cl W N f) D σ H := by
  obtain ⟨G, e, F, s, r, n, h⟩ := h
  refine ⟨fun m σ' H' => ∃ G' e' F', Same G' H' ∧ ROs K G' H' true e' σ' F' ∧ N σ' ∧ PostS K cl W N G' H' F' (whileGo c f m e') D, ⟨wf, G, e, F, s, r, n, h⟩, ?_⟩
  rintro m σ' H' ⟨G', e', F', s', r', n', h'⟩
  cases m with
  | zero => exact h'.elim
  | succ m =>
    have h' : PostS K cl W N G' H' F' (O.of (c e') fun d e1 => match d with
      | .bl true => match f e1 with
        | .nx e2 => whileGo c f m e2
        | .ct e2 => whileGo c f m e2
        | .bk e2 => .nx e2
        | o => o
      | .bl false => .nx e1
      | _ => .no) D := h'
    have h' : PostS K cl W N G' H' F' (O.of ((c e').bind asB) fun b e1 => if b = true then (match f e1 with
        | .nx e2 => whileGo c f m e2
        | .ct e2 => whileGo c f m e2
        | .bk e2 => .nx e2
        | o => o) else .nx e1) D := by
      cases q : c e' with
      | ok d e1 => rw [q] at h'; cases d <;> first | exact h' | (rename_i b; cases b <;> exact h')
      | _ => rw [q] at h'; exact h'
    refine ⟨G', e', F', s', r', PostS.first n' h' fun b e1 G1 H1 F1 v Fv _ s1 r1 rv dj g h1 => ?_⟩
    obtain ⟨ev, nv⟩ := rv
    subst ev
    have g := good_emp g
    cases b with
    | false =>
      rw [if_neg Bool.false_ne_true] at h1 ⊢
      exact h1 G1 H1 F1 σ' s1 r1 n' g
    | true =>
      rw [if_pos rfl] at h1 ⊢
      refine ⟨fun σ'' H'' => ∃ m', m' < m + 1 ∧ ∃ G' e' F', Same G' H'' ∧ ROs K G' H'' true e' σ'' F' ∧ N σ'' ∧ PostS K cl W N G' H'' F' (whileGo c f m' e') D, fun _ _ z => z, G1, e1, F1, s1, r1, n', ?_⟩
      have h2 := PostS.shift h1 g fun _ z => z
      cases q : f e1 with
      | nx e3 => simp only [q] at h2; exact fun G3 H3 F3 σ3 s3 r3 n3 g3 => ⟨m, Nat.lt_succ_self m, G3, e3, F3, s3, r3, n3, PostS.shift h2 g3 fun _ z => z⟩
      | ct e3 => simp only [q] at h2; exact fun G3 H3 F3 σ3 s3 r3 n3 g3 => ⟨m, Nat.lt_succ_self m, G3, e3, F3, s3, r3, n3, PostS.shift h2 g3 fun _ z => z⟩
      | bk e3 => simp only [q] at h2; exact h2
      | rt d e3 => simp only [q] at h2; exact h2
      | ex c w e3 => simp only [q] at h2; exact h2
      | no => simp only [q] at h2; exact h2
/-! ### writes -/
theorem Good.upd {a : Addr} {o : HO} {F2 F' : AS} (g : Good G0 H0 F0 G H F2) (s : Same G H) (ha : F2 a) (ga : G a = none) (sub : ∀ b, F' b → F2 b) : Good G0 H0 F0 G (upd H a o) F' ∧ Same G (upd H a o) := by
  obtain ⟨gw, sw⟩ := good_write (o := o) s ha ga sub
  exact ⟨g.trans (fun _ z => z) gw fun b z => .inl z, sw⟩
/-- a list at a place, changed -/
theorem putEnd {x : Nat} {is : List Tw.D} {y : Tw.D} {f : List Tw.D → Option (Tw.D × List Tw.D)} {e' : Env} {v : V} {ns : List Int} {a : Addr} (r : ROs K G H true e σ F) (hv : σ[x]? = some (some v)) (hn : toInts is = some ns) (hp : PathAt H (some v) ns a)
    (h : onSlot f x is e = .ok y e') : ∃ xs ys vs F', f xs = some (y, ys) ∧ H a = some (.lst vs) ∧ ROs K G H false xs (vs.map some) F' ∧ ¬ F' a ∧ F a ∧ (∀ b, F' b → F b) ∧ G a = none ∧
      ∀ vs' F2, ROs K G H false ys (vs'.map some) F2 → ¬ F2 a → (∀ b, F2 b → F' b ∨ ¬ F b) → ∃ F3, ROs K G (upd H a (.lst vs')) true e' σ F3 ∧ ∀ b, F3 b → F b ∨ F2 b := by
  obtain ⟨v', ns', a', xs, ys, vs, F', F0, h1, h2, h3, h4, h5, h6, h7, h8, h9, h10, h11, h12⟩ := placeWrite r h
  rw [hv] at h1; cases h1
  rw [hn] at h2; cases h2
  have := h3.uniq hp
  subst this
  refine ⟨xs, ys, vs, F', h4, h5, h7, h8, (h11 _).mpr (.inr (.inl rfl)), fun b z => (h11 b).mpr (.inr (.inr z)), h6, fun vs' F2 r2 n2 sub => ?_⟩
  obtain ⟨F3, r3, k3⟩ := h12 G (L2.upd H a' (.lst vs')) vs' F2 (Same.refl _) (fun b z => ⟨upd_ne (show b ≠ a' from fun y => h9 (by rw [← y]; exact z)), (r.own b ((h11 b).mpr (.inl z))).1⟩) upd_same h6 (upd_ros r2 n2) n2
    (fun b z y => (sub b y).elim (h10 b z) fun q => q ((h11 b).mpr (.inl z)))
  refine ⟨F3, r3, fun b z => ?_⟩
  rcases k3 b z with z | z | z
  · exact .inl ((h11 b).mpr (.inl z))
  · exact .inl ((h11 b).mpr (.inr (.inl z)))
  · exact .inr z
/-- one item of a row of items exchanged -/
theorem ROs.put : ∀ {xs : List Tw.D} {vs : List V} {F : AS} {j : Nat} {d : Tw.D} {w : V} {Fw : AS}, ROs K G H false xs (vs.map some) F → j < xs.length → RO K G H d (some w) Fw → Dis F Fw →
    ∃ F', ROs K G H false (xs.set j d) ((vs.set j w).map some) F' ∧ ∀ b, F' b → F b ∨ Fw b := by
  intro xs vs F j d w Fw r hj rw' dj
  obtain ⟨o, E1, E0, ho, hr, dj2, hF, up⟩ := r.at (List.getElem?_eq_getElem hj)
  have u := up G H d (some w) Fw (Same.refl _) (fun b z => ⟨rfl, (r.own b ((hF b).mpr (.inl z))).1⟩) (.inr rw') (dj.sub (fun b z => (hF b).mpr (.inl z)) fun _ z => z)
  refine ⟨AS.uni E0 Fw, by rw [List.map_set]; exact u, fun b z => ?_⟩
  rcases z with z | z
  · exact .inl ((hF b).mpr (.inl z))
  · exact .inr z
end
end Tw

set_option Elab.async false
set_option linter.all false
set_option maxRecDepth 100000
set_option maxHeartbeats 4000000
/-! Tw17: lists changed in place, as expressions; the forms of an assignment. -/
namespace Tw
open PySem L2
open Classical (propDecidable)
section
variable {S : Sg} {T : Fns} {cl : Nat → Addr} {X : Cx} {W : WX} {N : St → Prop} {σ : St} {G H G0 H0 G1 H1 : Hp} {F F0 Fv F1 F1' : AS} {e : Env} {K : PySem.W.Frag} {α β γ δ : Type} {D : Ends}
theorem onSlot_nox {f : List Tw.D → Option (Tw.D × List Tw.D)} {x : Nat} {is : List Tw.D} {c : Nat} {w : Tw.D} {e' : Env} : onSlot f x is e ≠ .ex c w e' := fun q => by
  unfold onSlot at q
  split at q
  · split at q <;> cases q
  · cases q
theorem ROs.app {al : Bool} : ∀ {xs : List Tw.D} {os : List (Option V)} {F : AS} {ys : List Tw.D} {zs : List V}, ROs K G H al xs os F → RPs K G ys zs → ROs K G H al (xs ++ ys) (os ++ zs.map some) F
  | [], os, F, ys, zs, r, p => by
    rw [r.1]
    exact p.ros.congr fun b => ⟨fun z => absurd z (r.2 b), fun z => z.elim⟩
  | x :: xs, os, F, ys, zs, r, p => by
    obtain ⟨w, ws, F1, F2, e1, h1, h2, h3, h4⟩ := r
    subst e1
    exact ⟨w, ws ++ zs.map some, F1, F2, rfl, h1, h2.app p, h3, h4⟩
/-- x.append(a) -/
theorem apE {a : IE} {x : Nat} {path : IEs} {o ea : Expr} {ap cp : Pos} (k : Kx S T cl X W) (o4 : okPath path S x o = true) (o5 : okE a S ea = true) (o3 : notStar ea = true) (o2 : ap.endLine = cp.line) :
    PE X (.Call (.Attribute o "append" ap) [ea] [] cp) (tE X.K cl W (apR T x path a)) := by
  obtain ⟨b1, b2⟩ := okPath_base o4
  refine PE.imp (pe_bm PySem.F.plainAttrs_list PySem.F.slot_list_append PySem.F.type_list_append mt_append (sP path k o4) (pa_one (sE a k o5) o3) (hbase_ok b1) (by rw [starEach_cons o3]; rfl) (by rw [o2]; exact beq_self_eq_true _) (starEach_cons o3) rfl) fun σ H Q h => ?_
  obtain ⟨G, e, F, s, r, h⟩ := h
  refine placeStep b2 s r h fun is e1 G1 H1 F1 v ns a vs s1 r1 hv hn ho hp ha g1 h1 => ?_
  refine ⟨.inl ⟨rfl, _, SqL.of ha⟩, ?_⟩
  obtain ⟨Fh, Fk, rh, djh, hF, ownk, back⟩ := hideStep r1 hv hn ho hp
  refine ⟨G1, hide is x e1, Fh, s1, rh, ?_⟩
  have g0 : Good G1 H1 F1 G1 H1 (AS.uni Fh Fk) := (Good.refl _ _ _).sub fun b z => (hF b).mpr z
  refine h1.shiftH g0 djh ownk fun d e2 G2 H2 F2 w Fw eqd s2 r2 rv dj g2 st dj2 g3 => ?_
  rw [eqd] at h1
  obtain ⟨hp2, F3, r3, h3⟩ := back G2 H2 e2 F2 g2.mono st r2 (dj2.sub (fun b z => .inl z) fun _ z => z)
  have djw : Dis F3 Fw := fun b z y => (h3 b z).elim (fun z => dj b z y) fun z => dj2 b (.inr y) z
  have g4 : Good G1 H1 F1 G2 H2 (AS.uni F3 Fw) := g3.sub fun b z => z.elim (fun z => (h3 b z).imp .inl id) fun z => .inl (.inr z)
  have h2 : Post (rD X.K) X.K cl W σ G1 H1 F1 (onSlot (fun xs => if xs.length < 16000000 then some (.non, xs ++ [d]) else none) x is (unhide is x (gt e1 x) e2)) Q := h1
  cases q : onSlot (fun xs => if xs.length < 16000000 then some (Tw.D.non, xs ++ [d]) else none) x is (unhide is x (gt e1 x) e2) with
  | ok y e' =>
    rw [q] at h2
    obtain ⟨xs, ys, vs2, F', hf, hva, rx, nF', Fa, sub, ga, put⟩ := putEnd r3 hv hn hp2 q
    by_cases hz : xs.length < 16000000
    · rw [if_pos hz] at hf
      cases hf
      obtain ⟨F5, r5, h5⟩ := put (vs2 ++ [w]) (AS.uni F' Fw) (by rw [List.map_append]; exact rx.snoc rv fun b z y => djw b (sub b z) y) (fun z => z.elim nF' fun z => djw _ Fa z) (fun b z => z.imp id fun z y => djw b y z)
      obtain ⟨g5, s5⟩ := g4.upd (o := .lst (vs2 ++ [w])) (F' := F5) s2 (.inl Fa) ga (fun b z => (h5 b z).elim .inl fun z => z.elim (fun z => .inl (sub b z)) .inr)
      have hl := rx.len
      rw [List.length_map] at hl
      exact ⟨a, vs2, w, rfl, rfl, hva, by rw [sizeLine_eq]; omega, Post.old (d := .non) h2 s5 r5 g5 rfl⟩
    · rw [if_neg hz] at hf; cases hf
  | ex c w e' => exact absurd q onSlot_nox
  | no => rw [q] at h2; exact h2.elim
/-- x.extend(a) -/
theorem exE {a : IE} {x : Nat} {path : IEs} {o ea : Expr} {ap cp : Pos} (k : Kx S T cl X W) (o4 : okPath path S x o = true) (o5 : okE a S ea = true) (o3 : notStar ea = true) (o2 : ap.endLine = cp.line) :
    PE X (.Call (.Attribute o "extend" ap) [ea] [] cp) (tE X.K cl W (exR T x path a)) := by
  obtain ⟨b1, b2⟩ := okPath_base o4
  refine PE.imp (pe_bm PySem.F.plainAttrs_list PySem.F.slot_list_extend PySem.F.type_list_extend mt_extend (sP path k o4) (pa_one (sE a k o5) o3) (hbase_ok b1) (by rw [starEach_cons o3]; rfl) (by rw [o2]; exact beq_self_eq_true _) (starEach_cons o3) rfl) fun σ H Q h => ?_
  obtain ⟨G, e, F, s, r, h⟩ := h
  refine placeStep b2 s r h fun is e1 G1 H1 F1 v ns a vs s1 r1 hv hn ho hp ha g1 h1 => ?_
  refine ⟨.inl ⟨rfl, _, SqL.of ha⟩, ?_⟩
  obtain ⟨Fh, Fk, rh, djh, hF, ownk, back⟩ := hideStep r1 hv hn ho hp
  refine ⟨G1, hide is x e1, Fh, s1, rh, ?_⟩
  have g0 : Good G1 H1 F1 G1 H1 (AS.uni Fh Fk) := (Good.refl _ _ _).sub fun b z => (hF b).mpr z
  refine h1.shiftH g0 djh ownk fun d e2 G2 H2 F2 w Fw eqd s2 r2 rv dj g2 st dj2 g3 => ?_
  rw [eqd] at h1
  obtain ⟨hp2, F3, r3, h3⟩ := back G2 H2 e2 F2 g2.mono st r2 (dj2.sub (fun b z => .inl z) fun _ z => z)
  have djw : Dis F3 Fw := fun b z y => (h3 b z).elim (fun z => dj b z y) fun z => dj2 b (.inr y) z
  have g4 : Good G1 H1 F1 G2 H2 (AS.uni F3 Fw) := g3.sub fun b z => z.elim (fun z => (h3 b z).imp .inl id) fun z => .inl (.inr z)
  obtain ⟨G3, s3, r3', pw, g5, m3⟩ := share s2 r3 rv djw g4
  have h2 : Post (rD X.K) X.K cl W σ G1 H1 F1 (exK x is e1 d e2) Q := h1
  unfold exK at h2
  generalize frz d = d' at h2 pw
  cases d' with
  | lst ow ys0 =>
    obtain ⟨_, b, zs, ew, hb, rz⟩ := pw
    have h2 : Post (rD X.K) X.K cl W σ G1 H1 F1 (onSlot (fun xs => if xs.length + ys0.length < 16000000 then some (.non, xs ++ ys0) else none) x is (unhide is x (gt e1 x) e2)) Q := h2
    cases q : onSlot (fun xs => if xs.length + ys0.length < 16000000 then some (Tw.D.non, xs ++ ys0) else none) x is (unhide is x (gt e1 x) e2) with
    | ok y e' =>
      rw [q] at h2
      obtain ⟨xs, ys, vs2, F', hf, hva, rx, nF', Fa, sub, ga, put⟩ := putEnd r3' hv hn hp2 q
      by_cases hz : xs.length + ys0.length < 16000000
      · rw [if_pos hz] at hf
        cases hf
        obtain ⟨F5, r5, h5⟩ := put (vs2 ++ zs) F' (by rw [List.map_append]; exact rx.app rz) nF' (fun b z => .inl z)
        obtain ⟨g6, s6⟩ := g5.upd (o := .lst (vs2 ++ zs)) (F' := F5) s3 Fa ga (fun b z => (h5 b z).elim id (sub b))
        have hl := rx.len
        rw [List.length_map] at hl
        have hl2 := rz.len
        exact ⟨a, b, vs2, zs, rfl, by rw [ew], hva, s3 _ _ hb, by rw [sizeLine_eq]; omega, Post.old (d := .non) h2 s6 r5 g6 rfl⟩
      · rw [if_neg hz] at hf; cases hf
    | ex c w e' => exact absurd q onSlot_nox
    | no => rw [q] at h2; exact h2.elim
  | _ => exact h2.elim
/-- x[i] = a shared value -/
theorem setE {i : IE} {x : Nat} {path : IEs} {d : Tw.D} {w : V} {Q : VK} (hpn : ∀ i as, path = .cons i as → as = .nil) (s : Same G H) (r : ROs K G H true e σ F) (rw' : RP K G d w) (h : Post (rD K) K cl W σ G H F (setR T x path i d e) Q) :
    tPl K cl W T x path σ H fun o H1 => tE K cl W (ev T i) σ H1 fun iv H2 => rSetL o iv w H2 fun H3 => Q .non H3 := by
  refine placeStep hpn s r h fun is e1 G1 H1 F1 v ns a vs s1 r1 hv hn ho hp ha g1 h1 => ?_
  obtain ⟨Fh, Fk, rh, djh, hF, ownk, back⟩ := hideStep r1 hv hn ho hp
  refine ⟨G1, hide is x e1, Fh, s1, rh, ?_⟩
  have g0 : Good G1 H1 F1 G1 H1 (AS.uni Fh Fk) := (Good.refl _ _ _).sub fun b z => (hF b).mpr z
  refine h1.shiftH g0 djh ownk fun k e2 G2 H2 F2 iv Fi eqd s2 r2 rv dj g2 st dj2 g3 => ?_
  rw [eqd] at h1
  have h2 : Post (rD K) K cl W σ G1 H1 F1 (setK x is e1 d k e2) Q := h1
  cases k with
  | int n =>
    have h2 : Post (rD K) K cl W σ G1 H1 F1 (onSlot (fun xs => (ixN xs.length n).map fun j => (.non, xs.set j d)) x is (unhide is x (gt e1 x) e2)) Q := h2
    obtain ⟨hp2, F3, r3, h3⟩ := back G2 H2 e2 F2 g2.mono st r2 (dj2.sub (fun b z => .inl z) fun _ z => z)
    have g4 : Good G1 H1 F1 G2 H2 F3 := g3.sub fun b z => (h3 b z).imp .inl id
    cases q : onSlot (fun xs => (ixN xs.length n).map fun j => (Tw.D.non, xs.set j d)) x is (unhide is x (gt e1 x) e2) with
    | ok y e' =>
      rw [q] at h2
      obtain ⟨xs, ys, vs2, F', hf, hva, rx, nF', Fa, sub, ga, put⟩ := putEnd r3 hv hn hp2 q
      obtain ⟨j, hj, hf⟩ := Option.map_eq_some_iff.mp hf
      cases hf
      have hl := rx.len
      rw [List.length_map] at hl
      have hjl : j < xs.length := (ixN_seq hj).2.1
      obtain ⟨F6, r6, h6⟩ := rx.put hjl (rw'.mono (g1.mono.trans g2.mono)).ro dis_emp
      obtain ⟨F5, r5, h5⟩ := put (vs2.set j w) F6 r6 (fun z => (h6 _ z).elim nF' id) (fun b z => .inl ((h6 b z).elim id fun z => z.elim))
      obtain ⟨g6, s6⟩ := g4.upd (o := .lst (vs2.set j w)) (F' := F5) s2 Fa ga (fun b z => (h5 b z).elim id fun z => sub b ((h6 b z).elim id fun z => z.elim))
      exact ⟨a, vs2, n, j, rfl, rv.int_.1, hva, by rw [hl]; exact hj, Post.old (d := .non) h2 s6 r5 g6 rfl⟩
    | ex c w e' => exact absurd q onSlot_nox
    | no => rw [q] at h2; exact h2.elim
  | _ => exact h2.elim
theorem ofNx {r : R Tw.D} (n : N σ) (h : PostS K cl W N G H F (O.of r fun _ e => .nx e) D) : Post (rD K) K cl W σ G H F r (fun _ H' => D.nx σ H') :=
  PostS.first n h fun d e1 G1 H1 F1 v Fv _ s1 r1 _ _ g h1 => h1 G1 H1 F1 σ s1 r1 n (good_emp g)
/-! ### the forms of an assignment -/
def swB (S : Sg) (x : Str) (py : Pos) : Expr → Option Bool
  | .ListComp elt gs scope p => if S.sc.kind = .function then some (decide (S.sc.names.lookup x = some .local) && (py.line == p.line) && !(scope.names.any fun (n, k) => n == x && (k == .local || k == .cell))) else none
  | .SetComp .. => none
  | .DictComp .. => none
  | _ => some false
theorem blk_fun {env : PySem.Env} (hk : env.scope.kind = .function) : env.blockKind = .function := by unfold Env.blockKind; rw [hk]; rfl
theorem kind_beq {o : Option NameKind} : (o == some .local) = decide (o = some .local) := by
  cases o with
  | none => rfl
  | some k => cases k <;> rfl
theorem swB_ok {x : Str} {py : Pos} {e : Expr} {b : Bool} {l : Nat} {env : PySem.Env} (hs : env.scope = S.sc) (h : swB S x py e = some b) : swapsWith e (some (.Name x py)) l env = pure b := by
  cases e with
  | ListComp elt gs scope p =>
    have h : (if S.sc.kind = .function then some (decide (S.sc.names.lookup x = some .local) && (py.line == p.line) && !(scope.names.any fun (n, k) => n == x && (k == .local || k == .cell))) else none) = some b := h
    by_cases hk : S.sc.kind = .function
    · rw [if_pos hk] at h
      cases h
      have hb := blk_fun (env := env) (by rw [hs]; exact hk)
      unfold swapsWith
      simp only [hb]
      have hx : env.kindOf x = S.sc.names.lookup x := by rw [← hs]; rfl
      rw [hx, kind_beq]
      rfl
    · rw [if_neg hk] at h; cases h
  | SetComp _ _ _ _ => cases h
  | DictComp _ _ _ _ _ => cases h
  | _ => cases h; rfl
theorem sw_par2 {x y : Str} {px py pt pt2 : Pos} {kt k2 : Nat} {a b : Expr} {env : PySem.Env} (hk : env.scope.kind = .function) (hx : env.scope.names.lookup x = some .local) (hy : env.scope.names.lookup y = some .local) (hl : py.line = px.line) (hxy : x ≠ y)
    (na : notStar a = true) (nb : notStar b = true) (hf : (foldedForSure 8 a && foldedForSure 8 b) = false) (hc : (constantsAlone 8 a && constantsAlone 8 b) = false) :
    swappedStores [.Tuple [.Name x px, .Name y py] kt pt] (.Tuple [a, b] k2 pt2) env = pure (some [x, y]) := by
  have kx : env.kindOf x = some .local := hx
  have ky : env.kindOf y = some .local := hy
  have hb := blk_fun hk
  have ed : ([x, y] : List Str).eraseDups = [x, y] := by
    rw [List.eraseDups_cons]
    have : (List.filter (fun b => !b == x) [y]) = [y] := by simp [Ne.symm hxy]
    rw [this, List.eraseDups_cons]
    simp
  unfold swappedStores
  simp [hb, hf, hc]
  simp [List.filterMap, Expr.pos, kx, ky, hl, ed]
  rintro (h | h)
  · cases a <;> first | (cases na; done) | (cases h; done)
  · cases b <;> first | (cases nb; done) | (cases h; done)
theorem sw_par3 {x y z : Str} {px py pz pt pt2 : Pos} {kt k2 : Nat} {a b c : Expr} {env : PySem.Env} (hk : env.scope.kind = .function) (hx : env.scope.names.lookup x = some .local) (hy : env.scope.names.lookup y = some .local) (hz : env.scope.names.lookup z = some .local)
    (hl : py.line = px.line) (hl2 : pz.line = px.line) (hxy : x ≠ y) (hxz : x ≠ z) (hyz : y ≠ z)
    (na : notStar a = true) (nb : notStar b = true) (nc : notStar c = true) (hf : (foldedForSure 8 a && (foldedForSure 8 b && foldedForSure 8 c)) = false) (hc : (constantsAlone 8 a && (constantsAlone 8 b && constantsAlone 8 c)) = false) :
    swappedStores [.Tuple [.Name x px, .Name y py, .Name z pz] kt pt] (.Tuple [a, b, c] k2 pt2) env = pure (some [x, y, z]) := by
  have kx : env.kindOf x = some .local := hx
  have ky : env.kindOf y = some .local := hy
  have kz : env.kindOf z = some .local := hz
  have hb := blk_fun hk
  have ed : ([x, y, z] : List Str).eraseDups = [x, y, z] := by
    rw [List.eraseDups_cons]
    have : (List.filter (fun b => !b == x) [y, z]) = [y, z] := by simp [Ne.symm hxy, Ne.symm hxz]
    rw [this, List.eraseDups_cons]
    have : (List.filter (fun b => !b == y) [z]) = [z] := by simp [Ne.symm hyz]
    rw [this, List.eraseDups_cons]
    simp
  unfold swappedStores
  simp [hb, hf, hc]
  simp [List.filterMap, Expr.pos, kx, ky, kz, hl, hl2, ed]
  rintro (h | h | h)
  · cases a <;> first | (cases na; done) | (cases h; done)
  · cases b <;> first | (cases nb; done) | (cases h; done)
  · cases c <;> first | (cases nc; done) | (cases h; done)
/-- targets that are no names -/
def isSub : Expr → Bool
  | .Subscript .. => true
  | _ => false
theorem sw_sub {ts us : List Expr} {kt k2 : Nat} {pt pt2 : Pos} {env : PySem.Env} (h : ts.all isSub = true) (hn : ts ≠ []) : swappedStores [.Tuple ts kt pt] (.Tuple us k2 pt2) env = pure none := by
  have fm : ∀ (f : Expr → Option Str), (∀ e, isSub e = true → f e = none) → ts.filterMap f = [] := fun f hf => by
    rw [List.filterMap_eq_nil_iff]
    exact fun e he => hf e (List.all_eq_true.mp h e he)
  have h0 : ts.length ≠ 0 := fun z => hn (List.length_eq_zero_iff.mp z)
  unfold swappedStores
  dsimp only
  split
  · rfl
  split
  · rfl
  rw [fm _ fun e he => by cases e <;> first | rfl | (cases he; done)]
  have : (([] : List Str).length != ts.length || ([] : List Str).eraseDups.length != ([] : List Str).length) = true := by
    have : (0 != ts.length) = true := by simpa using Ne.symm h0
    show ((0 != ts.length) || _) = true
    rw [this]; rfl
  rw [if_pos this]
def swapNone (ts : List Expr) : Expr → Bool
  | .Tuple _ _ _ => decide (ts.length ≠ 2) && decide (ts.length ≠ 3)
  | _ => true
theorem sw_none {ts : List Expr} {kt : Nat} {pt : Pos} {e : Expr} {env : PySem.Env} (h : swapNone ts e = true) : swappedStores [.Tuple ts kt pt] e env = pure none := by
  cases e with
  | Tuple us k2 p2 =>
    have h : (decide (ts.length ≠ 2) && decide (ts.length ≠ 3)) = true := h
    simp only [Bool.and_eq_true, decide_eq_true_eq] at h
    unfold swappedStores
    simp [h.1, h.2]
  | _ => rfl
theorem sole_tup {ts : List Expr} {kt : Nat} {pt : Pos} {e : Expr} {l : Nat} {env : PySem.Env} : swapsWithSole [.Tuple ts kt pt] e l env = pure false := by
  cases e <;> rfl
theorem sole_sub {o i : Expr} {pt : Pos} {e : Expr} {l : Nat} {env : PySem.Env} : swapsWithSole [.Subscript o i pt] e l env = pure false := by
  cases e <;> rfl
theorem stores_sub {o i : Expr} {pt : Pos} {e : Expr} {env : PySem.Env} : swappedStores [.Subscript o i pt] e env = pure none := by
  cases e <;> rfl
def notComp : Expr → Bool
  | .ListComp .. => false
  | .SetComp .. => false
  | .DictComp .. => false
  | _ => true
theorem sw_drop {e : Expr} {l : Nat} {env : PySem.Env} (h : notComp e = true) : swapsWith e none l env = pure false := by
  cases e <;> first | rfl | cases h
end
end Tw

set_option Elab.async false
set_option linter.all false
set_option maxRecDepth 100000
set_option maxHeartbeats 4000000
/-! Tw21: the own errors (class Refused(ValueError) and its heirs; lines of the worked proof 42_own_error_by_import, turned to this program). -/
namespace PySem
namespace OwnX
open PySem.W PySem.Calls PyProof.Rows PySem.HandSPX
/-! ### the text of __init__ -/
def iA (p1 p2 : Pos) : Arguments := { posonlyargs := [], args := [{ arg := "self", annotation := none, pos := p1 }, { arg := "what", annotation := none, pos := p2 }], vararg := none, kwonlyargs := [], kw_defaults := [], kwarg := none, defaults := [] }
def iB (q1 q2 q3 q4 : Pos) : List Stmt := [.Assign [.Attribute (.Name "self" q1) "what" q2] (.Name "what" q3) q4]
def iS : Scope := { kind := .function, names := [(PySem.Str.ofString "self", .local), (PySem.Str.ofString "what", .local)], isGenerator := false, isCoroutine := false, more := [] }
abbrev rVE : List Value → Bool := refsVE
/-- what the written part says of Low, at C, and of its __init__, at fI -/
structure OwnTxt (K : Frag) (mg : Str → Option Value) (nC qn : Str) (C fI : Addr) : Prop where
  gC : mg nC = some (.ref C)
  cls : ∃ nm q N bs bm sn sub ab col dd k0 k1 k2 k3 k5, K.lookup C = some (excClassObj nm q C N bs bm true sn sub ab col dd k0 k1 k2 k3 k5 "ValueError.__new__") ∧ refsVE bm = true
  sa : findIn K (.ref C) "__setattr__" = some (some (.builtin "object.__setattr__"))
  ga : findIn K (.ref C) "__getattribute__" = some (some (.builtin "BaseException.__getattribute__"))
  gg : findIn K (.ref C) "__getattr__" = some none
  noN : findIn K (.ref C) "what" = some none
  iC : findIn K (.ref C) "__init__" = some (some (.ref fI))
  tC : typeIn K (.ref fI) = some (.type "function")
  kC : keepIn K (.ref C) = true
  exC : subIn K (.ref C) (.type "BaseException") = some true
  tyC : typeIn K (.ref C) = some (.type "type")
  hdC : hasDictIn K C = true
  te : exmOne K (.ref C) (.ref C) = some true
  fn : ∃ (oc : Value) (od : Option Addr) (doc pm : Value) (an : Option Addr) (cdv ct : Value) (osl : Array (Option Value)) (p1 p2 q1 q2 q3 q4 : Pos),
    K.lookup fI = some ⟨oc, od, .func (fnOf "__init__" qn (iA p1 p2) (iB q1 q2 q3 q4) iS .none .none doc pm an cdv ct), osl⟩ ∧ codeIn K cdv qn = true
theorem one_size (v : Value) : [v].length ≤ sizeLine := by
  rw [sizeLine_eq]
  exact (by decide : 1 ≤ 16777216)
theorem kept_but {K : Frag} {h h' : Heap} {x : Addr} (X : K.In h) (hx : K.lookup x = none) (k : ∀ b o, b ≠ x → h.get? b = some o → h'.get? b = some o) : K.In h' := fun a o e =>
  k a o (fun z => by rw [z, hx] at e; cases e) (X a o e)
theorem ldC {M : Model} {s : Shared} {name : Str} {scope : Scope} {L a : Addr} {cd : Value} {m : Str → Option Value} {x : Str} {pos : Pos} {v : Value} {Q : Value → Shared → Prop} {A : Around} {E : Value → Shared → Prop} (hn : s.heap.Ns L m) (hv : m x = some v) (h : Q v s)
    (hk : scope.kind = .function := by rfl) (hl : (envOfC name scope L a cd).kindOf x = some .local := by rfl) (hd : (x == ("__debug__" : Str)) = false := by decide) :
    wpAny M A (eval (.Name x pos) (envOfC name scope L a cd)) Q E s := wpAny_Name (wpAny_loadName_local hk hl hn hv h) hd
/-- what __init__ leaves of a fresh exception at x -/
structure InitEnd (h h' : Heap) (x C dx t1 : Addr) (v : Value) : Prop where
  keep : ∀ b o, b ≠ x → h.get? b = some o → h'.get? b = some o
  obj : h'.get? x = some { cls := .ref C, dict := some dx, data := .fields #[.ref t1, .none, .none, .none, .bool false, .none] }
  dbig : h.objs.size ≤ dx
  dne : dx ≠ x
  ns : h'.Ns1 dx (fun y => if y = "what" then some v else none)
/-- a made Low -/
structure OwnMade (h h' : Heap) (e C d : Addr) (v : Value) : Prop where
  keep : ∀ b o, h.get? b = some o → h'.get? b = some o
  new : h.objs.size ≤ e
  obj : ∃ oe vs, h'.get? e = some oe ∧ oe.cls = .ref C ∧ oe.dict = some d ∧ oe.data = .fields vs ∧ vs[1]? = some .none
  dbig : h.objs.size ≤ d
  dne : d ≠ e
  ns : h'.Ns1 d (fun y => if y = "what" then some v else none)
section
variable {prog : Program} {w : World} {A : Around} {E : Value → Shared → Prop} {R : Result → Shared → Prop} {s : Shared} {K : Frag} {mg : Str → Option Value} {nC qn : Str} {C fI : Addr}
theorem own_init (T : OwnTxt K mg nC qn C fI) {x t0 : Addr} {v : Value} (X : K.In s.heap) (hlim : s.heap.NoLimit) (hx : s.heap.get? x = some (excO C t0)) (hnx : K.lookup x = none) (hroom : A.depth < recursionLimit)
    (hq : ∀ h' tk dx, InitEnd s.heap h' x C dx t0 v → R (.ok (.ret .none)) { s with heap := h', toks := tk }) :
    codeAny (model prog w) A (.call (.ref fI) ⟨[.ref x, v], []⟩) R s := by
  obtain ⟨oc, od, doc, pm, an, cdv, ct, osl, p1, p2, q1, q2, q3, q4, ho, hcd⟩ := T.fn
  obtain ⟨nm, q, N, bs, bm, sn, sub, ab, col, dd, k0, k1, k2, k3, k5, hC, hbm⟩ := T.cls
  have hcl : clsIn K C = some { name := nm, bases := bs, mro := .ref C :: bm, ns := N, qualname := q, hasDict := true, slotNames := sn, subclasses := sub, abstract := ab, collection := col, hasDel := false } := by unfold clsIn; rw [hC] <;> rfl
  refine Att.call_fn (binds := [("self", .ref x), ("what", v)]) X hlim ho hcd hroom (BindsTo.of_eq (by first | rfl | with_unfolding_all rfl)) (by first | rfl | decide | with_unfolding_all rfl) (fun s₁ IC => ?_) rfl rfl rfl
  obtain ⟨h₁, tk₁, rfl⟩ := IC.toInCall.same
  have k : ∀ b o, s.heap.get? b = some o → h₁.get? b = some o := IC.toInCall.keep
  have hn := IC.toInCall.ns
  have hxL : s.heap.objs.size ≠ x := Nat.ne_of_gt (Heap.lt_size hx)
  have X₁ : K.In h₁ := X.keeps k
  have hx₁ := k _ _ hx
  -- self.by = by
  show wpAny _ _ (execs _ _) _ _ _
  refine wpAny_execs_cons (plainObj_wpAny_Assign_Attribute ?_)
  refine ldC (v := v) hn (by first | rfl | with_unfolding_all rfl | kernel_rfl) (ldC (v := .ref x) hn (by first | rfl | with_unfolding_all rfl | kernel_rfl) ?_)
  refine set_plain X₁ (ox := excO C t0) (od := none) ⟨hx₁, rfl, rfl, trivial⟩ T.sa ?_
  refine exc_osa X₁ hx₁ hcl (show refsVE (.ref C :: bm) = true from hbm) rfl T.noN (fun h₃ tk₃ dx k₃ dn dne hx₃ hn₃ => ?_)
  show wpAny _ _ (execs _ _) _ _ _
  have z : s.heap.objs.size < h₁.objs.size := hn.lt
  exact wpAny_execs_nil (hq h₃ tk₃ dx ⟨fun b o hb e => k₃ b o hb (k b o e), hx₃, Nat.le_of_lt (Nat.lt_of_lt_of_le z dn), dne, hn₃⟩)
theorem own_made (T : OwnTxt K mg nC qn C fI) {v : Value} (X : K.In s.heap) (hlim : s.heap.NoLimit) (hroom : A.depth + 1 < recursionLimit)
    (hq : ∀ h' tk e d, OwnMade s.heap h' e C d v → R (.ok (.ret (.ref e))) { s with heap := h', toks := tk }) :
    codeAny (model prog w) A (.call (.ref C) ⟨[v], []⟩) R s := by
  obtain ⟨nm, q, N, bs, bm, sn, sub, ab, col, dd, k0, k1, k2, k3, k5, hC, hbm⟩ := T.cls
  obtain ⟨hp, g, dr, tk, os⟩ := s
  have k : ∀ b o, hp.get? b = some o → ((hp.push (kdv_tup [v])).push (excO C hp.objs.size)).get? b = some o := fun b o e => Heap.get?_push_of_some _ (Heap.get?_push_of_some _ e)
  have hget : ((hp.push (kdv_tup [v])).push (excO C hp.objs.size)).get? (hp.objs.size + 1) = some (excO C hp.objs.size) := by heap_get
  have hnx : K.lookup (hp.objs.size + 1) = none := by
    cases e : K.lookup (hp.objs.size + 1) with
    | none => rfl
    | some o =>
      have z : hp.get? (hp.objs.size + 1) = some o := X _ _ e
      exact absurd (Nat.lt_of_succ_lt (Heap.lt_size z)) (Nat.lt_irrefl _)
  refine call_own F.excBase_ValueError (fun X => refsVE_contains X bm hbm) (X _ _ hC) (looks_findIn X T.iC) (fun self => bind_fn X self T.tC) (one_size v) ?_
  refine own_init (s := ⟨(hp.push (kdv_tup [v])).push (excO C hp.objs.size), g, dr, tk, os⟩) T (X.keeps k) (hlim.keeps k) hget hnx ?_ fun h' tk' dx ⟨k', hx, dn, dne, hns⟩ => ?_
  · show A.depth + 1 < recursionLimit
    exact hroom
  · have old : ∀ b o, hp.get? b = some o → h'.get? b = some o := fun b o e => k' b o (Nat.ne_of_lt (Nat.lt_succ_of_lt (Heap.lt_size e))) (k b o e)
    have z : hp.objs.size + 1 + 1 ≤ dx := by
      first
        | (simpa only [Heap.size_push] using dn)
        | exact dn
        | (have q := dn; rw [Heap.size_push, Heap.size_push] at q; exact q)
    exact ⟨rfl, hq h' tk' (hp.objs.size + 1) dx ⟨old, Nat.le_succ _, ⟨_, _, hx, rfl, rfl, rfl, rfl⟩, Nat.le_trans (Nat.le_trans (Nat.le_succ _) (Nat.le_succ _)) z, dne, hns⟩⟩
end
end OwnX
end PySem
namespace L2
open PySem PySem.Spec PyProof.Rows
theorem relO_what {v : V} {v' : Value} (r : RelV v v') (f : Str) : RelO (List.lookup f [(("what" : Str), v)]) (if f = "what" then some v' else none) := by
  by_cases hw : f = "what"
  · subst hw
    rw [if_pos rfl]
    have q : List.lookup ("what" : Str) [(("what" : Str), v)] = some v := by simp [List.lookup]
    rw [q]
    exact r
  · rw [if_neg hw]
    have qw : (f == ("what" : Str)) = false := by simpa using hw
    have q2 : List.lookup f [(("what" : Str), v)] = none := by simp [List.lookup, qw]
    rw [q2]
    trivial
section
variable {X : Cx} {nC qn : Str} {C fI : Addr}
/-- C(e) -/
def tMkWhat (C : Addr) (ta : TA) : St → Hp → XK → Prop := fun σ H Q => ta σ H fun vs H1 => ∃ v, vs = [v] ∧ ∀ d, H1 d = none → Q (.ref C) (some d) (upd H1 d (.xd [(("what" : Str), v)]))
theorem pmk_what {a : Expr} {ta : TA} {p pos : Pos} {k : Nat} (T : PySem.OwnX.OwnTxt X.K X.mg nC qn C fI) (hr : Room k X.A) (ha : PA X [a] ta) (hg : Gl X nC) (hdb : (nC == ("__debug__" : Str)) = false)
    (he : starEach (a :: []) X.env = (false, eval a X.env) :: starEach [] X.env := by rfl) (hpl : (backTo pos (starEach [] X.env)).any (·.1) = false := by rfl) :
    PMk X (.Call (.Name nC p) [a] [] pos) (tMkWhat C ta) := by
  intro pins s σ H Q I h
  refine wpAny_Call_Name_kw (ld_glob I hg T.gC ?_ hdb)
  refine PySem.W.callWith_K (h₀ := X.base) I.ok.mod.kin T.kC (thn (ha.run pos pins s σ H _ I h) fun us s1 hh => ?_) he hpl
  obtain ⟨vs, H1, I1, r1, v, ev, q1⟩ := hh
  subst ev
  refine ⟨I1.kIn, ?_⟩
  cases r1 with
  | cons rv rn =>
    rename_i v' us'
    cases rn
    show wpAny _ _ (call (.ref C) [v']) _ _ _
    have hlim := I1.nolimit
    obtain ⟨hp, g, dr, tk, os⟩ := s1
    refine wpAny_call (PySem.OwnX.own_made T I1.kIn hlim (by have := hr.dp; omega) fun h' tk' e d M => ?_)
    show MkP X pins σ Q (.ref e) ⟨h', g, dr, tk', os⟩
    obtain ⟨oe, fv, hoe, hc, hd, hdat, h1⟩ := M.obj
    have hns := M.ns
    obtain ⟨G', g1, g2⟩ := restrict h' fun b => decide (b ≠ e)
    have gk : ∀ b, b ≠ e → G'.get? b = h'.get? b := fun b hb => g1 b (decide_eq_true hb)
    have ge : G'.get? e = none := g2 e (by simp)
    have old : ∀ b o, hp.get? b = some o → G'.get? b = some o := fun b o q => (gk b (Nat.ne_of_lt (Nat.lt_of_lt_of_le (Heap.lt_size q) M.new))).trans (M.keep b o q)
    have ob : ObjOk X.prog X.w (upd H1 d (.xd [(("what" : Str), v)])) G' d (.xd [(("what" : Str), v)]) :=
      ⟨_, hns.at (fun o q => (gk d M.dne).trans q), fun f => relO_what rv f⟩
    have J : Inv X pins σ (upd H1 d (.xd [(("what" : Str), v)])) ⟨G', g, dr, tk', os⟩ := I1.laid (t' := tk') old M.dbig ob
    refine ⟨e, oe, fv, ⟨G', g, dr, tk', os⟩, _, .ref C, some d, rfl, J, fun b o q => ?_, ge, hoe, ⟨hc, hd⟩, hdat, h1, ?_, rfl, I1.bare, raises_own T.exC T.tyC, q1 d (I1.hok.fresh M.dbig)⟩
    · by_cases hb : b = e
      · have q' : G'.get? b = some o := q
        rw [hb, ge] at q'; cases q'
      · exact (gk b hb).symm.trans q
    · rw [upd_ne (Ne.symm M.dne)]
      exact I1.hok.fresh M.new
end
end L2

set_option Elab.async false
set_option linter.all false
set_option maxRecDepth 100000
set_option maxHeartbeats 4000000
/-! TwU: isinstance of a caught error that has a dict (lines of HandS.ExcIs, turned to a dict). -/
namespace Tw
open PySem PySem.Spec L2 PySem.W PySem.Calls PyProof.Rows
section
variable {prog : Program} {w : World} {A : Around} {E : Value → Shared → Prop} {s : Shared} {K : Frag} {x D : Addr} {ox : Obj} {od : Option Obj}
theorem findObj_dataD {C : Addr} {name : Str} {a g : Value} (hc : (clsIn K C).isSome = true) (ha : findIn K (.ref C) name = some (some a)) (hg : specialIn K a "__get__" = some (some g)) (ht : takesIn K a = some true) : findObj K C od name = some (.bind g a) := by
  obtain ⟨cd, hc⟩ := Option.isSome_iff_exists.mp hc
  unfold findObj
  rw [hc, Option.bind_some, ha, Option.bind_some]
  simp [hg, ht]
theorem kin_classD {Q : Option Value → Shared → Prop} (C : L2.ExcC K D)
    (X : K.In s.heap) (I : InstAt s.heap x ox D od) (h : Q (some (.ref D)) { s with toks := s.toks + 1 }) : wpAny (model prog w) A (getAttr? (.ref x) "__class__") Q E s := by
  have hf : findObj K D od "__class__" = some (.bind (.builtin "getset_descriptor.__get__") (.builtin "object.__class__")) := findObj_dataD (by obtain ⟨cd, hc, _⟩ := any_some C.hd; rw [hc]; rfl) C.ha C.hn C.ht
  obtain ⟨hp, g, d, t, os⟩ := s
  have L0 := I.type (M := model prog w)
  have L1 := looks_findIn (M := model prog w) X C.hg
  have L2 := looks_findIn (M := model prog w) X C.hk
  have L3 := looks_find (M := model prog w) X I hf
  have sub : Looks (model prog w) hp (isInstance (.ref x) (.type "BaseException")) true := L0.andThen (looks_subIn X C.hs)
  have hx0 : (false && onTheHeap (Value.builtin "BaseException.__getattribute__")) = false := rfl
  have hx2 : (Value.builtin "BaseException.__getattribute__" == Value.builtin "object.__getattribute__") = false := by decide +kernel
  have hx1 : (onTheHeap (Value.ref D) && Value.builtin "BaseException.__getattribute__" == Value.builtin "object.__getattribute__") = false := by rw [hx2]; rfl
  unfold getAttr? getAttrBy? getAttrBy
  refine wpAny_bind (wpAny_mkText (wpAny_bind (wpAny_attempt (wpAny_holding (wpAny_bind (L0.at (wpAny_bind (L1.at ?_))))))))
  show wpAny _ _ (if (onTheHeap (Value.ref D) && Value.builtin "BaseException.__getattribute__" == Value.builtin "object.__getattribute__") = true then _ else _) _ _ _
  rw [hx1, if_neg Bool.false_ne_true]
  unfold getAttrByItsOwn hookBefore
  refine wpAny_bind ?_
  rw [if_pos (show onTheHeap (Value.ref D) = true from rfl)]
  refine L2.at ?_
  refine wpAny_bind (wpAny_attempt (wpAny_holding ?_))
  unfold callGetattribute
  rw [hx0, if_neg Bool.false_ne_true]
  unfold boundAndCalled
  rw [PySem.F.excAttr_ValueError.ga.bind (.ref x)]
  refine wpAny_bind (wpAny_pure ?_)
  show wpAny _ _ (call (.builtin "BaseException.__getattribute__") [.ref x, .str "__class__" t]) _ _ _
  refine wpAny_call (codeAny_call_builtin PySem.F.excAttr_ValueError.ga.plain PySem.F.entry_bexc_ga ?_)
  refine @check_slot (model prog w) _ _ ⟨hp, g, d, t + 1, os⟩ "BaseException.__getattribute__" "BaseException" "__getattribute__" (.ref x) [.str "__class__" t] [] _ (by decide +kernel) (by decide +kernel) sub (PySem.F.args_bexc_ga (.ref x) (.str "__class__" t)) ?_
  unfold Builtin.«object.__getattribute__»
  refine wpAny_bind (wpAny_of_eq (a := ((Value.ref x : Value), [Value.str "__class__" t])) (by first | rfl | (simp only [slotArgs]; rfl)) ?_)
  refine wpAny_bind (wpAny_pure (wpAny_bind (L0.at (wpAny_bind (L3.at ?_)))))
  show wpAny _ _ (holding [Value.builtin "object.__class__"] (call (.builtin "getset_descriptor.__get__") [.builtin "object.__class__", .ref x, .ref D]) >>= ret) _ _ _
  refine wpAny_bind (wpAny_holding (wpAny_call (class_get (s := ⟨hp, g, d, t + 1, os⟩) (ox := ox) (od := od) X I C.hm ?_)))
  refine wpAny_pure ?_
  show wpAny _ _ (handedOut (.ref D)) _ _ _
  rw [handedOut_of (v := .ref D) rfl]
  first
    | exact wpAny_pure (wpAny_pure h)
    | exact wpAny_pure h
    | exact wpAny_pure (wpAny_bind (wpAny_pure (wpAny_pure h)))
theorem kitx_excD (C : L2.ExcC K D) : KitX K (.ref x) (.ref D) (fun h => InstAt h x ox D od) where
  ty := fun _ _ _ I => I.type
  it := fun _ _ X _ => by
    obtain ⟨cdD, hcD, _⟩ := any_some C.hd
    unfold clsIn at hcD
    split at hcD
    · rename_i c' d' cd' sl' ho
      intro A' Q' E' s' k q
      unfold isType loadHead
      exact wpAny_bind (wpAny_loadPart (k _ _ (X _ _ ho)) (wpAny_pure q))
    · cases hcD
  ne := fun h tp dd its n sl X htp => by
    obtain ⟨cdD, hcD, _⟩ := any_some C.hd
    refine Bool.eq_false_iff.mpr fun q => ?_
    have e : D = tp := Value.ref.inj (beq_iff_eq.mp q)
    subst e
    unfold clsIn at hcD
    split at hcD
    · rename_i c' d' cd' sl' ho
      have z := (X _ _ ho).symm.trans htp
      cases z
    · cases hcD
  ca := fun X I k => kin_classD C X I k
end
end Tw
namespace Tw
open PySem PySem.Spec L2 PyProof.Rows
/-- isinstance(e, c), e the error that the suite holds, dd its dict -/
def rIsD (K : PySem.W.Frag) (D a dd : Addr) : List V → Hp → VK → Prop := fun xs H Q => ∃ (c : V) (cv : Value) (fs : List (Str × V)) (b : Bool), xs = [.ref a, c] ∧ (∀ u, RelV c u → u = cv) ∧ PySem.W.kitOne K (.ref D) cv = some b ∧ H dd = some (.xd fs) ∧ Q (.bl b) H
theorem call_isD {X : Cx} {a D dd : Addr} {oe : Obj} {pn : List (Addr × Obj)} (C : ExcC X.K D) (hz : Zc (.ref D) (some dd) oe) (hf : ∃ vs, oe.data = .fields vs) : CallR (X.suite a ((a, oe) :: pn)) (.builtin "isinstance") (rIsD X.K D a dd) := by
  intro pins s σ H xs us Q I r h
  obtain ⟨c, cv, fs, b, rfl, hcv, e, ea, q⟩ := h
  cases r with
  | cons rx rr =>
    cases rr with
    | cons rt rr =>
      cases rr
      cases rx
      have ec := hcv _ rt
      subst ec
      obtain ⟨hget, _⟩ := I.pin (a, oe) (List.mem_append.mpr (.inl List.mem_cons_self))
      obtain ⟨vs, hv⟩ := hf
      have hx : ObjOk X.prog X.w H s.heap dd (.xd fs) := I.hok dd _ ea
      obtain ⟨mA, hns, hr⟩ := hx
      obtain ⟨od, ho, hl⟩ := lookIn_ns hns
      have J : PySem.W.InstAt s.heap a oe D (some od) := ⟨hget, hz.1, by unfold PySem.W.notCls; rw [hv] <;> rfl, by rw [hz.2]; exact ho⟩
      exact PySem.W.kia_one (kitx_excD C) I.kIn J e (fun z => nomatch z) fun tk => ⟨.bl b, H, I.kept (t' := tk) fun _ _ z => z, rfl, q⟩
end Tw

set_option Elab.async false
set_option linter.all false
set_option maxRecDepth 100000
set_option maxHeartbeats 4000000
/-! TwT: try with several clauses, with or without a name. -/
namespace Tw
open PySem PySem.Spec L2
open PyProof.Rows
/-- behind a clause with a name: the name is gone -/
def goneD (i : Nat) (D : Ends) : Ends := ⟨fun τ J => D.nx (τ.set i none) J, D.rt, fun τ J => D.bk (τ.set i none) J, fun τ J => D.ct (τ.set i none) J⟩
abbrev Cl := Value × Option Nat × (Addr → Value → Option Addr → TS)
/-- what the clauses ask of an error of the body -/
def wA (K : PySem.W.Frag) (out : WX) (D : Ends) : List Cl → WX
  | [] => out
  | q :: r => fun cls dd τ J => ∃ z, PySem.W.exmOne K cls q.1 = some z ∧
      (z = true → ∀ x, J x = none → (∀ i, q.2.1 = some i → i < τ.length) → (match q.2.1 with
        | none => q.2.2 x cls dd D τ J
        | some i => q.2.2 x cls dd (goneD i D) (τ.set i (some (.ref x))) J)) ∧ (z = false → wA K out D r cls dd τ J)
inductive HsA (X : Cx) : List ExceptHandler → List Cl → Prop
  | nil : HsA X [] []
  | bare {x : Str} {c : Value} {ts : Addr → Value → Option Addr → TS} {s0 : Stmt} {sts : List Stmt} {p1 p2 : Pos} {hl : List ExceptHandler} {l : List Cl} (nm : Names X x c)
      (su : ∀ (a : Addr) (ob : Obj) (cls : Value) (dd : Option Addr) (pn : List (Addr × Obj)), Zc cls dd ob → (∃ vs, ob.data = .fields vs) → PSs (X.suite a ((a, ob) :: pn)) (s0 :: sts) (ts a cls dd)) (r : HsA X hl l) :
      HsA X (.ExceptHandler (some (.Name x p1)) none (s0 :: sts) p2 :: hl) ((c, none, ts) :: l)
  | named {x n : Str} {i : Nat} {c : Value} {ts : Addr → Value → Option Addr → TS} {s0 : Stmt} {sts : List Stmt} {p1 p2 : Pos} {hl : List ExceptHandler} {l : List Cl} (nm : Names X x c) (hi : X.N[i]? = some n) (hk : X.env.kindOf n = some .local)
      (su : ∀ (a : Addr) (ob : Obj) (cls : Value) (dd : Option Addr) (pn : List (Addr × Obj)), Zc cls dd ob → (∃ vs, ob.data = .fields vs) → PSs (X.suite a ((a, ob) :: pn)) (s0 :: sts) (ts a cls dd)) (r : HsA X hl l) :
      HsA X (.ExceptHandler (some (.Name x p1)) (some n) (s0 :: sts) p2 :: hl) ((c, some i, ts) :: l)
section
variable {X : Cx} {body : List Stmt} {g0 : ExceptHandler} {gs : List ExceptHandler} {l : List Cl} {pos : Pos} {tb : WX → TS} {out : WX}
theorem ps_tryA (hst : X.stack = X.env :: X.outer) (hfr : X.env.frame = some X.env.locals) (hN : X.N.Nodup) (tk : Takes X out)
    (hb : ∀ (W : WX) (pn : List (Addr × Obj)) (xe : Value → Shared → Prop), Takes (X.tr pn xe) W → PassesOwn (model X.prog X.w) X.A X.env xe → PSs (X.tr pn xe) body (tb W)) (hh : HsA X (g0 :: gs) l) :
    PS X (.Try body (g0 :: gs) [] [] pos) (fun D σ H => tb (wA X.K out D l) D σ H) := by
  refine ⟨fun pins s σ H D I h => ?_⟩
  have Iok := I.ok
  have frs0 : X.A.frames = some (X.env :: X.outer) := by rw [Iok.frames, hst]
  refine wpAny_Try_except ?_
  have run0 := (hb (wA X.K out D l) (X.pn ++ pins) (fun e t1 => wpAny (model X.prog X.w) X.A (noteFrame e X.env) (fun _ t2 => wpAny (model X.prog X.w) X.A (setFlight e none) (fun _ t3 => wpAny (model X.prog X.w) X.A (handleBy e X.env (g0 :: gs)) (SP X pins D) X.xe t3) X.xe t2) X.xe t1) (fun u t xx => by
    obtain ⟨a, B, sI, _, τ, J0, cls, dd, rfl, J', nb, up, sky, na, os, ag, w⟩ := xx
    have J : Inv X pins τ J0 sI := J'.ofTry Iok
    have sky1 : Sky B (X.env :: X.outer) a (Zc cls dd) X.env.locals t.heap := by rw [← hst]; exact sky
    show wpAny (model X.prog X.w) X.A (noteFrame (.ref a) X.env) _ _ (_ : Shared)
    refine Sky.land Zc.steady frs0 hfr sky1 (fun h3 fl3 up3 => ?_)
    have J3 : Inv X pins τ J0 { t with heap := h3 } := J.landed nb fl3.1 (up.trans up3) os ag
    obtain ⟨ob3, vs3, at3, z3, d3⟩ := fl3.there
    have apart : ∀ {hp : Heap} {ob : Obj} {vs : Array Value}, hp.FunFrames B (X.env :: X.outer) → hp.get? a = some ob → ob.data = .fields vs → a ∉ frs (X.env :: X.outer) := fun {hp ob vs} ff e dq hm => by
      obtain ⟨_, ob', e', nf⟩ := ff.mem hm
      rw [e] at e'
      cases e'
      exact nf _ dq
    have far := apart fl3.2.2.1 at3 d3
    have farL : a ≠ X.env.locals := fun z => far (List.mem_filterMap.mpr ⟨X.env, List.mem_cons_self, by rw [hfr, z]⟩)
    have farF : a ∉ X.fs := fun hm => by
      obtain ⟨en, hen, q⟩ := List.mem_filterMap.mp hm
      exact far (List.mem_filterMap.mpr ⟨en, List.mem_cons_of_mem _ hen, q⟩)
    have su3 := J3.suite at3 d3 na farL farF
    have pick : ∀ {x : Str} {c : Value} {p1 : Pos}, Names X x c → ∀ {Z : Value → Shared → Prop} {E : Value → Shared → Prop}, Z c { t with heap := h3 } → wpAny (model X.prog X.w) (X.A.mark (some (.ref a))) (eval (.Name x p1) X.env) Z E { t with heap := h3 } := fun {x c p1} nm {Z E} q => by
      obtain ⟨q1, q2, hm | ⟨hm, hv, hne⟩⟩ := nm
      · exact ld_glob (X := X.suite a ((a, ob3) :: (X.pn ++ pins))) su3 q1 hm q q2
      · exact ld_blt (X := X.suite a ((a, ob3) :: (X.pn ++ pins))) su3 q1 hm hv q hne q2
    have typ : PySem.W.Looks (model X.prog X.w) h3 (typeOf (.ref a)) cls := fun A Q E s k q => wpAny_typeOf_ref (k _ _ at3) (by rw [z3.1]; exact q)
    have loop : ∀ {hl : List ExceptHandler} {m : List Cl}, HsA X hl m → wA X.K out D m cls dd τ J0 → wpAny (model X.prog X.w) X.A (handleBy (.ref a) X.env hl) (SP X pins D) X.xe { t with heap := h3 } := by
      intro hl m hk
      induction hk with
      | nil =>
        intro w
        refine wpAny_handleBy_nil ?_
        obtain ⟨k1, k2, k3, oe, vs, TT, oT, ts', he, hz, hd, h1, hr⟩ := id fl3
        unfold PySem.passOn
        refine wpAny_bind (wpAny_field he hd h1 (?_ : wpAny _ _ _ _ _ _))
        rw [if_neg (show ¬ ((Value.ref TT == Value.none) = true) from by simp)]
        have on : wpAny (model X.prog X.w) X.A (setFlight (.ref a) X.env.frame) (fun _ t4 => wpAny (model X.prog X.w) X.A (throw (.ref a) : Sem Flow) (SP X pins D) X.xe t4) X.xe { t with heap := h3 } := by
          rw [hfr]
          refine HandSPX.setFlight_upZ fl3 (fun h4 hh4 up4 => wpAny_throw (tk _ _ ?_))
          exact ⟨a, B, sI, pins, τ, J0, cls, dd, rfl, J, nb, (up.trans up3).trans up4, .inr (.inr (by rw [hst]; exact hh4)), na, os, ag, w⟩
        first
        | exact wpAny_bind (wpAny_pure (wpAny_bind on))
        | exact wpAny_bind on
      | @bare x c ts s0 sts p1 p2 hl2 l2 nm su r ih =>
        rintro ⟨z, ez, yes, no⟩
        refine wpAny_handleBy_cons (codeAny_handlers_test (pick nm ((PySem.W.exm_one (M := model X.prog X.w) (J3.kIn) typ ez).here ?_))) (by intro q; cases q)
        cases z with
        | false => exact (show wpAny _ X.A (handleBy (.ref a) X.env hl2) _ _ _ from ih (no rfl))
        | true =>
          refine codeAny_handlers_suite (HandSPX.lands_againZ fl3 (fun h4 fl4 up4 => ?_))
          have J4 : Inv X pins τ J0 { t with heap := h4 } := J.landed nb fl4.1 ((up.trans up3).trans up4) os ag
          obtain ⟨ob4, vs4, at4, z4, d4⟩ := fl4.there
          have su4 := J4.suite at4 d4 na farL farF
          refine wpAny_mono ((su a ob4 cls dd (X.pn ++ pins) z4 ⟨_, d4⟩).run [] _ _ J0 _ su4 (yes rfl a na fun _ z => nomatch z)) (fun f t6 sp => ?_) (fun _ _ z => False.elim z)
          cases f with
          | next => exact (let ⟨τ6, J6, S6, q6⟩ := sp; ⟨_, _, S6.unsuite Iok, q6⟩)
          | brk => exact (let ⟨τ6, J6, S6, q6⟩ := sp; ⟨_, _, S6.unsuite Iok, q6⟩)
          | cont => exact (let ⟨τ6, J6, S6, q6⟩ := sp; ⟨_, _, S6.unsuite Iok, q6⟩)
          | ret u => exact (let ⟨v6, τ6, J6, S6, r6, q6⟩ := sp; ⟨_, _, _, S6.unsuite Iok, r6, q6⟩)
      | @named x n i c ts s0 sts p1 p2 hl2 l2 nm hi hk su r ih =>
        rintro ⟨z, ez, yes, no⟩
        refine wpAny_handleBy_cons (codeAny_handlers_test (pick nm ((PySem.W.exm_one (M := model X.prog X.w) (J3.kIn) typ ez).here ?_))) (by intro q; cases q)
        cases z with
        | false => exact (show wpAny _ X.A (handleBy (.ref a) X.env hl2) _ _ _ from ih (no rfl))
        | true =>
          refine codeAny_handlers_suite_as (HandSPX.lands_againZ fl3 (fun h4 fl4 up4 => ?_))
          have J4 : Inv X pins τ J0 { t with heap := h4 } := J.landed nb fl4.1 ((up.trans up3).trans up4) os ag
          obtain ⟨ob4, vs4, at4, z4, d4⟩ := fl4.there
          have su4 := J4.suite at4 d4 na farL farF
          refine store_ok (X := X.suite a ((a, ob4) :: (X.pn ++ pins))) (v := .ref a) su4 hN hi (.inl hk) rfl (fun t5 S5 => ?_) (.inr hk)
          refine wpAny_mono ((su a ob4 cls dd (X.pn ++ pins) z4 ⟨_, d4⟩).run [] t5 _ J0 _ S5 (yes rfl a na fun j z => by cases z; rw [J4.len]; exact (List.getElem?_eq_some_iff.mp hi).1)) (fun f t6 sp => ?_) (fun _ _ z => False.elim z)
          have fin6 : ∀ {τ6 : L2.St} {J6 : Hp} {Z : Shared → Prop}, Inv (X.suite a ((a, ob4) :: (X.pn ++ pins))) [] τ6 J6 t6 → (∀ t7, Inv X pins (τ6.set i none) J6 t7 → Z t7) → wpAny (model X.prog X.w) X.A (do bindName X.env n .none; unbindBehindTheSuite X.env n p2) (fun _ t7 => Z t7) X.xe t6 := fun {τ6 J6 Z} S6 hq => gone_ok (S6.unsuite Iok) hN hi hk hq
          cases f with
          | next => exact (let ⟨τ6, J6, S6, q6⟩ := sp; fin6 S6 fun t7 J7 => ⟨_, _, J7, q6⟩)
          | brk => exact (let ⟨τ6, J6, S6, q6⟩ := sp; fin6 S6 fun t7 J7 => ⟨_, _, J7, q6⟩)
          | cont => exact (let ⟨τ6, J6, S6, q6⟩ := sp; fin6 S6 fun t7 J7 => ⟨_, _, J7, q6⟩)
          | ret u => exact (let ⟨v6, τ6, J6, S6, r6, q6⟩ := sp; fin6 S6 fun t7 J7 => ⟨_, _, _, J7, r6, q6⟩)
    exact loop hh w) PassesOwn.looking).run [] s σ H D (I.toTry _) h
  refine wpAny_mono run0 (fun f s1 sp => ?_) (fun e s1 he => he)
  cases f with
  | next => exact (let ⟨τ, J1, J', q⟩ := sp; wpAny_execs_nil ⟨τ, J1, J'.ofTry Iok, q⟩)
  | brk => exact (let ⟨τ, J1, J', q⟩ := sp; ⟨τ, J1, J'.ofTry Iok, q⟩)
  | cont => exact (let ⟨τ, J1, J', q⟩ := sp; ⟨τ, J1, J'.ofTry Iok, q⟩)
  | ret u => exact (let ⟨v, τ, J1, J', r, q⟩ := sp; ⟨v, τ, J1, J'.ofTry Iok, r, q⟩)
end
end Tw

set_option Elab.async false
set_option linter.all false
set_option maxRecDepth 100000
set_option maxHeartbeats 4000000
/-! TwV: the handlers of a try: what they return of the error that they hold. -/
namespace Tw
open PySem L2
open Classical (propDecidable)
def sbB (S : Sg) (c j : Nat) (b : Bool) : Bool := S.sb.any fun p => decide (p.1 = c) && decide (p.2.1 = j) && (p.2.2 == b)
def okSl (S : Sg) (s : Option Nat) (x : Str) : Bool := match s with
  | some i => slotB S i x
  | none => false
def isNm : Expr → Option Str
  | .Name x _ => some x
  | _ => none
def okHC (S : Sg) (s : Option Nat) : HC → Expr → Bool
  | .isi j yes no, e => match call2 S "isinstance" e with
    | some (.Name y _, .Name z _) => okSl S s y && decide (S.er[j]? = some z) && gloB S z && yes.all (fun c => sbB S c j true) && no.all (fun c => sbB S c j false)
    | _ => false
  | .isv, e => match call2 S "isinstance" e with
    | some (.Name y _, .Name z _) => okSl S s y && decide (z = Str.ofString "ValueError") && bltB S z
    | _ => false
  | .not q, .UnaryOp .Not e _ => okHC S s q e
  | .and p q, .BoolOp .And [a, b] _ => okHC S s p a && okHC S s q b
  | _, _ => false
mutual
def okHE (S : Sg) (s : Option Nat) : HE → Expr → Bool
  | .what, .Attribute (.Name y _) n _ => okSl S s y && decide (n = Str.ofString "what")
  | .con d, .Constant c _ _ => conB d c
  | .tup es, .Tuple xs _ _ => decide (xs.length ≤ 1000) && okHEs S s es xs
  | .ife q a b, .IfExp ec ea eb _ => okHC S s q ec && okHE S s a ea && okHE S s b eb
  | _, _ => false
def okHEs (S : Sg) (s : Option Nat) : HEs → List Expr → Bool
  | .nil, [] => true
  | .cons a as, e :: es => notStar e && okHE S s a e && okHEs S s as es
  | _, _ => false
end
/-- a handler's text -/
def okHd (S : Sg) (h : Hd) : ExceptHandler → Bool
  | .ExceptHandler (some (.Name x _)) none [.Return (some e) _] _ => !S.sb.isEmpty && decide (h.slot = none) && decide (S.er[h.cls]? = some x) && gloB S x && h.yes.all (fun c => sbB S c h.cls true) && h.no.all (fun c => sbB S c h.cls false) && okHE S none h.he e
  | .ExceptHandler (some (.Name x _)) (some n) [.Return (some e) _] _ => match h.slot with
    | some i => !S.sb.isEmpty && decide (S.N[i]? = some n) && decide (S.sc.names.lookup n = some .local) && decide (S.er[h.cls]? = some x) && gloB S x && h.yes.all (fun c => sbB S c h.cls true) && h.no.all (fun c => sbB S c h.cls false) && okHE S (some i) h.he e
    | none => false
  | _ => false
def okHds (S : Sg) : List Hd → List ExceptHandler → Bool
  | [], [] => true
  | h :: hs, e :: es => okHd S h e && okHds S hs es
  | _, _ => false
/-- what is known of the classes -/
structure Hk (S : Sg) (cl : Nat → Addr) (K : PySem.W.Frag) (mg : Str → Option Value) : Prop where
  hc : S.sb ≠ [] → ∀ (c : Nat) (x : Str), S.er[c]? = some x → XfC K (cl c) ∧ PySem.W.findIn K (.ref (cl c)) "what" = some none ∧ ExcC K (cl c) ∧ mg x = some (.ref (cl c)) ∧ PySem.W.kitOne K (.ref (cl c)) (.type "ValueError") = some true
  hs : ∀ (c j : Nat) (b : Bool), (c, j, b) ∈ S.sb → (∃ x, S.er[c]? = some x) ∧ PySem.W.exmOne K (.ref (cl c)) (.ref (cl j)) = some b ∧ PySem.W.kitOne K (.ref (cl c)) (.ref (cl j)) = some b
theorem sbB_ok {S : Sg} {c j : Nat} {b : Bool} (h : sbB S c j b = true) : (c, j, b) ∈ S.sb := by
  unfold sbB at h
  obtain ⟨p, hp, h⟩ := List.any_eq_true.mp h
  simp only [Bool.and_eq_true, decide_eq_true_eq, beq_iff_eq] at h
  obtain ⟨⟨h1, h2⟩, h3⟩ := h
  subst h1; subst h2; subst h3
  exact hp
/-- both heaps grew, nothing else -/
structure Gr (G H G' H' : Hp) : Prop where
  g : Same G G'
  h : Same H H'
  n : ∀ b, H b ≠ none → G b = none → G' b = none
theorem Gr.refl (G H : Hp) : Gr G H G H := ⟨Same.refl _, Same.refl _, fun _ _ h => h⟩
theorem Gr.trans {G H G1 H1 G2 H2 : Hp} (a : Gr G H G1 H1) (b : Gr G1 H1 G2 H2) : Gr G H G2 H2 := ⟨a.g.trans b.g, a.h.trans b.h, fun c h n => b.n c (fun z => by
  cases e : H c with
  | none => exact h e
  | some o => rw [a.h c o e] at z; cases z) (a.n c h n)⟩
theorem Gr.good {K : PySem.W.Frag} {G H G' H' : Hp} {F : AS} {e : Env} {σ : L2.St} (a : Gr G H G' H') (r : ROs K G H true e σ F) : ROs K G' H' true e σ F ∧ Good G H F G' H' F := by
  refine ⟨r.frame a.g fun b hb => ?_, ⟨a.g, fun b o e n => .inl (a.h b o e), fun b z => .inl z, fun b h n q => a.n b h q⟩⟩
  obtain ⟨n, xs, q⟩ := r.own b hb
  exact ⟨by rw [a.h b _ q, q], a.n b (by rw [q]; exact fun z => nomatch z) n⟩
structure Held (K : PySem.W.Frag) (cl : Nat → Addr) (S : Sg) (slot : Option Nat) (a : Addr) (cls : Value) (dd : Option Addr) (c : Nat) (w : Tw.D) (G H : Hp) (σ : L2.St) : Prop where
  same : Same G H
  on : ∀ i, slot = some i → σ[i]? = some (some (.ref a))
  x : Exr K cl G H c w cls dd
  lt : ∃ x, S.er[c]? = some x
theorem Held.grow {K : PySem.W.Frag} {cl : Nat → Addr} {S : Sg} {slot : Option Nat} {a : Addr} {cls : Value} {dd : Option Addr} {c : Nat} {w : Tw.D} {G H G' H' : Hp} {σ : L2.St} (h : Held K cl S slot a cls dd c w G H σ) (g : Gr G H G' H') (s : Same G' H') : Held K cl S slot a cls dd c w G' H' σ := by
  obtain ⟨e1, p, v, e2, e3, r⟩ := h.x
  exact ⟨s, h.on, ⟨e1, p, v, e2, g.h _ _ e3, r.mono g.g⟩, h.lt⟩
def tHc (K : PySem.W.Frag) (cl : Nat → Addr) (S : Sg) (slot : Option Nat) (a : Addr) (cls : Value) (dd : Option Addr) (f : Nat → Option Bool) : TT := fun σ H Q => ∃ G c w, Held K cl S slot a cls dd c w G H σ ∧ ∃ b, f c = some b ∧ Q b H
def tHe (K : PySem.W.Frag) (cl : Nat → Addr) (S : Sg) (slot : Option Nat) (a : Addr) (cls : Value) (dd : Option Addr) (f : Nat → Tw.D → Option Tw.D) : TE := fun σ H Q => ∃ G c w, Held K cl S slot a cls dd c w G H σ ∧ ∃ d, f c w = some d ∧ ∀ v G' H', Same G' H' → RP K G' d v → Gr G H G' H' → Q v H'
def tHes (K : PySem.W.Frag) (cl : Nat → Addr) (S : Sg) (slot : Option Nat) (a : Addr) (cls : Value) (dd : Option Addr) (f : Nat → Tw.D → Option (List Tw.D)) : TA := fun σ H Q => ∃ G c w, Held K cl S slot a cls dd c w G H σ ∧ ∃ d, f c w = some d ∧ ∀ v G' H', Same G' H' → RPs K G' d v → Gr G H G' H' → Q v H'
section
variable {S : Sg} {T : Fns} {cl : Nat → Addr} {X : Cx} {W : WX} {slot : Option Nat} {a : Addr} {ob : Obj} {cls : Value} {dd : Option Addr} {pn : List (Addr × Obj)}
theorem sSl (k : Kx S T cl X W) {x : Str} {pos : Pos} (h : okSl S slot x = true) : ∃ i, slot = some i ∧ PE (X.suite a ((a, ob) :: pn)) (.Name x pos) (tVar i) := by
  cases slot with
  | none => cases h
  | some i =>
    have h : slotB S i x = true := h
    unfold slotB okName at h
    simp only [Bool.and_eq_true, decide_eq_true_eq] at h
    exact ⟨i, rfl, pe_var (X := X.suite a ((a, ob) :: pn)) (by show X.N[i]? = some x; rw [k.N]; exact h.1.1) (by show Vis X.env.scope x; rw [k.sc]; exact visB_ok h.1.2) (beq_eq_false_iff_ne.mpr h.2.1.1) (beq_eq_false_iff_ne.mpr h.2.1.2)⟩
theorem isd (k : Kx S T cl X W) (hk : Hk S cl X.K X.mg) (ne : S.sb ≠ []) (hz : Zc cls dd ob) (hf : ∃ vs, ob.data = .fields vs) {e ez : Expr} {y : Str} {py : Pos} (h2 : call2 S "isinstance" e = some (.Name y py, ez)) (h3 : okSl S slot y = true) {v : V} {u : Value} (hv : ∀ w, RelV v w → w = u)
    (he : PE (X.suite a ((a, ob) :: pn)) ez (tC v)) {f : Nat → Option Bool} (h4 : ∀ c b, (∃ x, S.er[c]? = some x) → f c = some b → PySem.W.kitOne X.K (.ref (cl c)) u = some b) :
    PT (X.suite a ((a, ob) :: pn)) e (tHc X.K cl S slot a cls dd f) := by
  obtain ⟨pp, pos, rfl, hb, hn, hn2⟩ := call2_ok h2
  obtain ⟨i, es, hy⟩ := sSl (a := a) (ob := ob) (pn := pn) (pos := py) k h3
  obtain ⟨g1, g2, g3, g4⟩ := k.bl_ hb
  refine ⟨fun pins s σ H Q I h => ?_⟩
  obtain ⟨G, c, w, hl, b, eb, q⟩ := h
  obtain ⟨x, hx⟩ := hl.lt
  obtain ⟨_, _, hE, _, _⟩ := hk.hc ne c x hx
  obtain ⟨ec, p, v', ed, ea, rw'⟩ := hl.x
  subst ec; subst ed
  have hp : PE (X.suite a ((a, ob) :: pn)) (.Call (.Name "isinstance" pp) [.Name y py, ez] [] pos) _ := pe_callB (X := X.suite a ((a, ob) :: pn)) (call_isD (X := X) hE hz hf) g1 g4 (by decide +kernel) (pa_two hy he hn hn2) g3 g2 (starEach_cons hn) (backTo_any (by simp [hn2]))
  refine (pt_val hp).run pins s σ H Q I ?_
  exact ⟨.ref a, hl.on i es, ⟨v, u, _, b, rfl, hv, h4 c b ⟨x, hx⟩ eb, ea, b, rfl, q⟩⟩
theorem sHC (k : Kx S T cl X W) (hk : Hk S cl X.K X.mg) (ne : S.sb ≠ []) (hz : Zc cls dd ob) (hf : ∃ vs, ob.data = .fields vs) : ∀ (q : HC) {e : Expr}, okHC S slot q e = true → PT (X.suite a ((a, ob) :: pn)) e (tHc X.K cl S slot a cls dd fun c => q.ev c)
  | .isi j yes no, e, h => by
    unfold okHC at h
    split at h
    · rename_i y py z pz h2
      simp only [Bool.and_eq_true, decide_eq_true_eq, List.all_eq_true] at h
      obtain ⟨⟨⟨⟨h3, h4⟩, h5⟩, h6⟩, h7⟩ := h
      obtain ⟨g1, g2, _⟩ := k.gl_ h5
      obtain ⟨_, _, _, hm, _⟩ := hk.hc ne j z h4
      refine isd (u := .ref (cl j)) (v := .ref (cl j)) k hk ne hz hf h2 h3 (fun w hw => hw) (pe_glob (X := X.suite a ((a, ob) :: pn)) g1 hm rfl g2) fun c b _ e => ?_
      have e : (if yes.contains c = true then some true else if no.contains c = true then some false else none) = some b := e
      by_cases q1 : yes.contains c = true
      · rw [if_pos q1] at e; cases e
        exact (hk.hs c j true (sbB_ok (h6 c (by simpa using q1)))).2.2
      · rw [if_neg q1] at e
        by_cases q2 : no.contains c = true
        · rw [if_pos q2] at e; cases e
          exact (hk.hs c j false (sbB_ok (h7 c (by simpa using q2)))).2.2
        · rw [if_neg q2] at e; cases e
    · cases h
  | .isv, e, h => by
    unfold okHC at h
    split at h
    · rename_i y py z pz h2
      simp only [Bool.and_eq_true, decide_eq_true_eq] at h
      obtain ⟨⟨h3, h4⟩, h5⟩ := h
      obtain ⟨g1, g2, g3, g4⟩ := k.bl_ h5
      refine isd (u := .type "ValueError") (v := .ty "ValueError") k hk ne hz hf h2 h3 (fun w hw => hw) (pe_bltn (X := X.suite a ((a, ob) :: pn)) g1 g4 (by rw [h4]; decide +kernel) rfl g3 g2) fun c b hx e => ?_
      obtain ⟨x, hx⟩ := hx
      have e : some true = some b := e
      cases e
      exact (hk.hc ne c x hx).2.2.2.2
    · cases h
  | .not q, e, h => by
    cases e with
    | UnaryOp op x pos => cases op with
      | Not =>
        refine PT.imp (pt_not (sHC k hk ne hz hf q (show okHC S slot q x = true from h))) fun σ H Q h => ?_
        obtain ⟨G, c, w, hl, b, e, q'⟩ := h
        have e : (HC.ev c q).map (!·) = some b := e
        cases e1 : HC.ev c q with
        | none => rw [e1] at e; cases e
        | some b1 => rw [e1] at e; cases e; exact ⟨G, c, w, hl, b1, e1, q'⟩
      | _ => cases h
    | _ => cases h
  | .and p q, e, h => by
    cases e with
    | BoolOp op xs pos => cases op with
      | And => match xs, h with
        | [x, y], h =>
          have h : (okHC S slot p x && okHC S slot q y) = true := h
          rw [Bool.and_eq_true] at h
          refine PT.imp (pw_and (sHC k hk ne hz hf p h.1) (pw_and1 (sHC k hk ne hz hf q h.2))).pt fun σ H Q h => ?_
          obtain ⟨G, c, w, hl, b, e, q'⟩ := h
          have e : (match HC.ev c p with | some true => HC.ev c q | o => o) = some b := e
          cases e1 : HC.ev c p with
          | none => rw [e1] at e; cases e
          | some b1 =>
            rw [e1] at e
            refine ⟨G, c, w, hl, b1, e1, ?_⟩
            cases b1 with
            | true => rw [if_pos rfl]; exact ⟨G, c, w, hl, b, e, q'⟩
            | false => rw [if_neg Bool.false_ne_true]; cases e; exact q'
      | _ => cases h
    | _ => cases h
mutual
theorem sHE (k : Kx S T cl X W) (hk : Hk S cl X.K X.mg) (ne : S.sb ≠ []) (hz : Zc cls dd ob) (hf : ∃ vs, ob.data = .fields vs) : ∀ (q : HE) {e : Expr}, okHE S slot q e = true → PE (X.suite a ((a, ob) :: pn)) e (tHe X.K cl S slot a cls dd fun c w => q.ev c w)
  | .what, e, h => by
    cases e with
    | Attribute o n pos => cases o with
      | Name y py =>
        have h : (okSl S slot y && decide (n = Str.ofString "what")) = true := h
        rw [Bool.and_eq_true, decide_eq_true_eq] at h
        obtain ⟨h1, h2⟩ := h
        subst h2
        obtain ⟨i, es, hy⟩ := sSl (a := a) (ob := ob) (pn := pn) (pos := py) k h1
        refine ⟨fun pins s σ H Q I h => ?_⟩
        obtain ⟨G, c, w, hl, d, e, q⟩ := h
        obtain ⟨x, hx⟩ := hl.lt
        obtain ⟨hX, hn, _, _, _⟩ := hk.hc ne c x hx
        obtain ⟨ec, p, v', ed, ea, rw'⟩ := hl.x
        have e : some w = some d := e
        cases e
        refine (pe_xf (X := X) (cls := cls) (d := dd) hX hn hz hf hy).run pins s σ H Q I ?_
        exact ⟨.ref a, hl.on i es, rfl, ec, p, _, v', ed, ea, rfl, q v' G H hl.same rw' (Gr.refl _ _)⟩
      | _ => cases h
    | _ => cases h
  | .con d, e, h => by
    cases e with
    | Constant c i pos =>
      obtain ⟨v, h1, h2⟩ := conB_ok (X := X.suite a ((a, ob) :: pn)) (i := i) (pos := pos) (show conB d c = true from h)
      refine PE.imp h1 fun σ H Q h => ?_
      obtain ⟨G, c, w, hl, d', e, q⟩ := h
      have e : some d = some d' := e
      cases e
      exact q v G H hl.same (h2 G) (Gr.refl _ _)
    | _ => cases h
  | .tup es, e, h => by
    cases e with
    | Tuple xs kk pos =>
      have h : (decide (xs.length ≤ 1000) && okHEs S slot es xs) = true := h
      rw [Bool.and_eq_true, decide_eq_true_eq] at h
      obtain ⟨hs, hl⟩ := sHEs k hk ne hz hf es h.2
      refine PE.imp (pe_tup hs) fun σ H Q q => ?_
      obtain ⟨G, c, w, hh, d, e, q⟩ := q
      have e : (HEs.ev c w es).map .tup = some d := e
      cases e1 : HEs.ev c w es with
      | none => rw [e1] at e; cases e
      | some ds =>
        rw [e1] at e; cases e
        refine ⟨G, c, w, hh, ds, e1, fun vs G1 H1 s1 r1 g1 => ⟨lst_sz ?_, fun p hp => ?_⟩⟩
        · rw [r1.len, hl c w ds e1]; exact h.1
        · have hg : G1 p = none := by
            cases z : G1 p with
            | none => rfl
            | some o => rw [s1 p o z] at hp; cases hp
          have sg : Same G1 (upd G1 p (.tup vs)) := same_upd hg
          have sh : Same H1 (upd H1 p (.tup vs)) := same_upd hp
          refine q (.ref p) (upd G1 p (.tup vs)) (upd H1 p (.tup vs)) (fun b o z => ?_) ⟨p, vs, rfl, .inl (.inl upd_same), r1.mono sg⟩ (g1.trans ⟨sg, sh, fun b hb hn => ?_⟩)
          · by_cases hbp : b = p
            · subst hbp; rw [upd_same] at z ⊢; exact z
            · rw [upd_ne hbp] at z ⊢; exact s1 b o z
          · by_cases hbp : b = p
            · subst hbp; exact absurd hp hb
            · rw [upd_ne hbp]; exact hn
    | _ => cases h
  | .ife q x y, e, h => by
    cases e with
    | IfExp ec ea eb pos =>
      have h : (okHC S slot q ec && okHE S slot x ea && okHE S slot y eb) = true := h
      simp only [Bool.and_eq_true] at h
      refine PE.imp (pe_ifExp (sHC k hk ne hz hf q h.1.1) (sHE k hk ne hz hf x h.1.2) (sHE k hk ne hz hf y h.2)) fun σ H Q r => ?_
      obtain ⟨G, c, w, hh, d, e, r⟩ := r
      have e : (match q.ev c with | some true => HE.ev c w x | some false => HE.ev c w y | none => none) = some d := e
      cases e1 : q.ev c with
      | none => rw [e1] at e; cases e
      | some b =>
        rw [e1] at e
        refine ⟨G, c, w, hh, b, e1, ?_⟩
        cases b with
        | true => rw [if_pos rfl]; exact ⟨G, c, w, hh, d, e, r⟩
        | false => rw [if_neg Bool.false_ne_true]; exact ⟨G, c, w, hh, d, e, r⟩
    | _ => cases h
theorem sHEs (k : Kx S T cl X W) (hk : Hk S cl X.K X.mg) (ne : S.sb ≠ []) (hz : Zc cls dd ob) (hf : ∃ vs, ob.data = .fields vs) : ∀ (q : HEs) {es : List Expr}, okHEs S slot q es = true → PA (X.suite a ((a, ob) :: pn)) es (tHes X.K cl S slot a cls dd fun c w => HEs.ev c w q) ∧ ∀ c w ds, HEs.ev c w q = some ds → ds.length = es.length
  | .nil, es, h => by
    cases es with
    | cons _ _ => cases h
    | nil =>
      refine ⟨PA.imp pa_nil fun σ H Q q => ?_, fun c w ds e => by cases (show some [] = some ds from e); rfl⟩
      obtain ⟨G, c, w, hh, d, e, q⟩ := q
      cases (show some [] = some d from e)
      exact q [] G H hh.same rfl (Gr.refl _ _)
  | .cons x xs, es, h => by
    cases es with
    | nil => cases h
    | cons e es =>
      have h : (notStar e && okHE S slot x e && okHEs S slot xs es) = true := h
      simp only [Bool.and_eq_true] at h
      obtain ⟨h1, h2⟩ := sHEs k hk ne hz hf xs h.2
      have split : ∀ {c w ds}, HEs.ev c w (.cons x xs) = some ds → ∃ d1 d2, HE.ev c w x = some d1 ∧ HEs.ev c w xs = some d2 ∧ ds = d1 :: d2 := fun {c w ds} e => by
        have e : ((HE.ev c w x).bind fun d => (HEs.ev c w xs).map (d :: ·)) = some ds := e
        cases e1 : HE.ev c w x with
        | none => rw [e1] at e; cases e
        | some d1 =>
          rw [e1] at e
          cases e2 : HEs.ev c w xs with
          | none => rw [e2] at e; cases e
          | some d2 => rw [e2] at e; cases e; exact ⟨d1, d2, rfl, rfl, rfl⟩
      refine ⟨PA.imp (pa_cons (sHE k hk ne hz hf x h.1.2) h1 (starEach_cons h.1.1)) fun σ H Q q => ?_, fun c w ds e => ?_⟩
      · obtain ⟨G, c, w, hh, ds, e, q⟩ := q
        obtain ⟨d1, d2, e1, e2, rfl⟩ := split e
        refine ⟨G, c, w, hh, d1, e1, fun v G1 H1 s1 r1 g1 => ⟨G1, c, w, hh.grow g1 s1, d2, e2, fun vs G2 H2 s2 r2 g2 => ?_⟩⟩
        exact q (v :: vs) G2 H2 s2 ⟨v, vs, rfl, r1.mono g2.g, r2⟩ (g1.trans g2)
      · obtain ⟨d1, d2, e1, e2, rfl⟩ := split e
        rw [List.length_cons, List.length_cons, h2 c w d2 e2]
end
/-- the clause of a handler -/
def clH (K : PySem.W.Frag) (cl : Nat → Addr) (S : Sg) (h : Hd) : Cl := (.ref (cl h.cls), h.slot, fun a cls dd D σ H => tHe K cl S h.slot a cls dd (fun c w => h.he.ev c w) σ H D.rt)
theorem hsA (k : Kx S T cl X W) (hk : Hk S cl X.K X.mg) : ∀ {hs : List Hd} {es : List ExceptHandler}, okHds S hs es = true → HsA X es (hs.map (clH X.K cl S))
  | [], [], _ => .nil
  | [], _ :: _, h => by cases h
  | _ :: _, [], h => by cases h
  | h :: hs, E :: es, ok => by
    have ok : (okHd S h E && okHds S hs es) = true := ok
    rw [Bool.and_eq_true] at ok
    obtain ⟨o, ok⟩ := ok
    have r := hsA k hk ok
    have nm : ∀ {x : Str}, S.sb ≠ [] → S.er[h.cls]? = some x → gloB S x = true → Names X x (.ref (cl h.cls)) := fun {x} ne q1 q2 => by
      obtain ⟨g1, g2, _⟩ := k.gl_ q2
      exact ⟨g1, g2, .inl (hk.hc ne _ _ q1).2.2.2.1⟩
    unfold okHd at o
    split at o
    · rename_i x px e pe pos
      simp only [Bool.and_eq_true, decide_eq_true_eq] at o
      obtain ⟨⟨⟨⟨⟨⟨o0, o1⟩, o2⟩, o3⟩, o4⟩, o5⟩, o6⟩ := o
      have ne : S.sb ≠ [] := fun z => by rw [z] at o0; cases o0
      have e0 : clH X.K cl S h = (.ref (cl h.cls), none, (clH X.K cl S h).2.2) := by unfold clH; rw [o1]
      rw [List.map_cons, e0]
      exact HsA.bare (ts := (clH X.K cl S h).2.2) (nm ne o2 o3) (fun a ob cls dd pn hz hf => by
        refine PSs.imp (pss_cons (ps_ret (sHE (slot := none) k hk ne hz hf h.he o6)) pss_nil) fun D σ H q => ?_
        have q : tHe X.K cl S h.slot a cls dd (fun c w => h.he.ev c w) σ H D.rt := q
        rw [o1] at q
        exact q) r
    · rename_i x px n e pe pos
      cases hsl : h.slot with
      | none => rw [hsl] at o; cases o
      | some i =>
        rw [hsl] at o
        simp only [Bool.and_eq_true, decide_eq_true_eq] at o
        obtain ⟨⟨⟨⟨⟨⟨⟨o0, o1⟩, o2⟩, o3⟩, o4⟩, o5⟩, o6⟩, o7⟩ := o
        have ne : S.sb ≠ [] := fun z => by rw [z] at o0; cases o0
        have e0 : clH X.K cl S h = (.ref (cl h.cls), some i, (clH X.K cl S h).2.2) := by unfold clH; rw [hsl]
        rw [List.map_cons, e0]
        exact HsA.named (X := X) (ts := (clH X.K cl S h).2.2) (nm ne o3 o4) (by rw [k.N]; exact o1) (by show X.env.scope.names.lookup n = some .local; rw [k.sc]; exact o2) (fun a ob cls dd pn hz hf => by
          refine PSs.imp (pss_cons (ps_ret (sHE (slot := some i) k hk ne hz hf h.he o7)) pss_nil) fun D σ H q => ?_
          have q : tHe X.K cl S h.slot a cls dd (fun c w => h.he.ev c w) σ H D.rt := q
          rw [hsl] at q
          exact q) r
    · cases o
end
end Tw

set_option Elab.async false
set_option linter.all false
set_option maxRecDepth 100000
set_option maxHeartbeats 4000000
/-! Tw18: THE THEOREM of the statements. -/
namespace Tw
open PySem L2
open Classical (propDecidable)
def parB (S : Sg) (vs : List Nat) : List Nat → List Expr → List Expr → Bool
  | [i, j], [.Name x px, .Name y py], [a, b] => !S.hot && decide (S.N[i]? = some x) && decide (S.N[j]? = some y) && decide (i ≠ j) && decide (x ≠ y) && decide (S.sc.kind = .function) && decide (S.sc.names.lookup x = some .local) && decide (S.sc.names.lookup y = some .local) &&
      decide (py.line = px.line) && notStar a && notStar b && !(foldedForSure 8 a && foldedForSure 8 b) && !(constantsAlone 8 a && constantsAlone 8 b) && vs.contains i && vs.contains j
  | [i, j, l], [.Name x px, .Name y py, .Name z pz], [a, b, c] => !S.hot && decide (S.N[i]? = some x) && decide (S.N[j]? = some y) && decide (S.N[l]? = some z) && decide (i ≠ j) && decide (i ≠ l) && decide (j ≠ l) && decide (x ≠ y) && decide (x ≠ z) && decide (y ≠ z) &&
      decide (S.sc.kind = .function) && decide (S.sc.names.lookup x = some .local) && decide (S.sc.names.lookup y = some .local) && decide (S.sc.names.lookup z = some .local) &&
      decide (py.line = px.line) && decide (pz.line = px.line) && notStar a && notStar b && notStar c && !(foldedForSure 8 a && (foldedForSure 8 b && foldedForSure 8 c)) && !(constantsAlone 8 a && (constantsAlone 8 b && constantsAlone 8 c)) && vs.contains i && vs.contains j && vs.contains l
  | _, _, _ => false
/-- the same where one of the names is captured: built as a tuple, taken apart from the left -/
def namesB (S : Sg) (vs : List Nat) : List Nat → List Expr → Bool
  | [], [] => true
  | i :: is, .Name x _ :: es => tgB S i x && vs.contains i && namesB S vs is es
  | _, _ => false
def isLocal (S : Sg) : Expr → Bool
  | .Name x _ => decide (S.sc.names.lookup x = some .local)
  | _ => false
def parC (S : Sg) (vs : List Nat) (is : List Nat) (ts es : List Expr) : Bool :=
  !S.hot && namesB S vs is ts && (!(ts.all (isLocal S)) || (decide (ts.length ≠ 2) && decide (ts.length ≠ 3))) && decide (es.length = ts.length) && decide (es.length ≤ 1000)
def subsB (S : Sg) : List (Nat × IE) → List Expr → Bool
  | [], [] => true
  | (x, i) :: r, .Subscript (.Name y _) ei _ :: es => slotB S x y && plainIx ei && okE i S ei && subsB S r es
  | _, _ => false
/-- a list comprehension that is stored to a local name is one -/
def swOk (a : IE) : Option Bool → Bool
  | some true => match a with
    | .comp .. => true
    | .compS .. => true
    | _ => false
  | some false => true
  | none => false
mutual
/-- st is the statement's text; vs: the slots that may be stored to -/
def okS (S : Sg) (vs : List Nat) : IS → Stmt → Bool
  | .set i a, .Assign [.Name x py] e _ => tgB S i x && vs.contains i && okE a S e && swOk a (swB S x py e) && !S.hot
  | .par is as, .Assign [.Tuple ts _ _] (.Tuple es _ _) _ => (parB S vs is ts es || parC S vs is ts es) && okEs as S es
  | .unp t a, .Assign [.Tuple ts k p] e _ => !S.hot && okTg S t (.Tuple ts k p) && tgIn vs t && okE a S e && swapNone ts e
  | .unpSub ts as, .Assign [.Tuple es _ _] (.Tuple us _ _) _ => !S.hot && subsB S ts es && decide (es ≠ []) && okEs as S us && decide (us.length ≤ 1000) && decide (us.length = es.length)
  | .setIx x path i a, .Assign [.Subscript o ei _] e _ => okPath path S x o && plainIx ei && okE i S ei && okE a S e
  | .append x path a, .Expr (.Call (.Attribute o m ap) [ea] [] cp) _ => decide (m = "append") && decide (ap.endLine = cp.line) && notStar ea && okPath path S x o && okE a S ea
  | .extend x path a, .Expr (.Call (.Attribute o m ap) [ea] [] cp) _ => decide (m = "extend") && decide (ap.endLine = cp.line) && notStar ea && okPath path S x o && okE a S ea
  | .drop a, .Expr e _ => okE a S e && notComp e
  | .ite c a b, .If ec sa sb _ => noIf ec && okE c S ec && okSs S vs a sa && okSs S vs b sb
  | .for_ t it a, .For tg e sa [] _ => !S.hot && okTg S t tg && tgIn vs t && okIt it S tg e && noSet e && okSs S vs a sa
  | .whil c a, .While ec sa [] _ => noIf ec && okE c S ec && okSs S vs a sa
  | .ret a, .Return (some e) _ => okE a S e
  | .retN, .Return none _ => true
  | .brk, .Break _ => true
  | .cont, .Continue _ => true
  | .pass, .Pass _ => true
  | .pass, .Expr (.Constant (.str _) _ _) _ => true
  | .raise c a, .Raise (some (.Call (.Name x _) [e] [] _)) none _ => !S.hot && decide (S.er[c]? = some x) && gloB S x && notStar e && okE a S e
  | .try_ a hs, .Try body (h0 :: hds) [] [] _ => okSs S vs a body && okHds S hs (h0 :: hds)
  | .never, _ => true
  | _, _ => false
def okSs (S : Sg) (vs : List Nat) : List IS → List Stmt → Bool
  | [], [] => true
  | s :: ss, t :: ts => okS S vs s t && okSs S vs ss ts
  | _, _ => false
end
/-- what holds where statements are run -/
structure Ks (S : Sg) (T : Fns) (cl : Nat → Addr) (X : Cx) (W : WX) : Prop extends Kx S T cl X W where
  po : PassesOwn (model X.prog X.w) X.A X.env X.xe
  er : ∀ (c : Nat) (x : Str), S.er[c]? = some x → ∃ (qn : Str) (fI : Addr) (n : Nat), PySem.OwnX.OwnTxt X.K X.mg x qn (cl c) fI ∧ Room n X.A
  hk : Hk S cl X.K X.mg
  sk : X.stack = X.env :: X.outer
  fr : X.env.frame = some X.env.locals
theorem Ks.tr {S : Sg} {T : Fns} {cl : Nat → Addr} {X : Cx} {W W' : WX} {pn : List (Addr × Obj)} {xe : Value → Shared → Prop} (k : Ks S T cl X W) (t : Takes (X.tr pn xe) W') (p : PassesOwn (model X.prog X.w) X.A X.env xe) : Ks S T cl (X.tr pn xe) W' :=
  { nd := k.nd, N := k.N, sc := k.sc, calm := k.calm, un := k.un, bl := k.bl, gl := k.gl, cc := k.cc, fn := k.fn, tk := t, po := p, er := k.er, hk := k.hk, sk := k.sk, fr := k.fr }
section
variable {S : Sg} {T : Fns} {cl : Nat → Addr} {X : Cx} {W : WX} {N : L2.St → Prop} {σ : L2.St} {G H G0 H0 G1 H1 : Hp} {F F0 Fv F1 F1' : AS} {e : Env} {K : PySem.W.Frag} {D : Ends}
def stList : List (Nat × V) → L2.St → L2.St
  | [], σ => σ
  | (i, v) :: r, σ => stList r (σ.set i (some v))
theorem putAll : ∀ {is : List Nat} {ds : List Tw.D} {vs : List V} {e : Env} {σ : L2.St} {F Fv : AS}, ROs K G H true e σ F → ROs K G H false ds (vs.map some) Fv → Dis F Fv → is.all (fun i => decide (i < e.length)) = true → is.length = ds.length →
    ∃ F', ROs K G H true (asgList (is.zip ds) e) (stList (is.zip vs) σ) F' ∧ ∀ b, F' b → F b ∨ Fv b
  | [], ds, vs, e, σ, F, Fv, r, rv, dj, hi, hl => ⟨F, r, fun b z => .inl z⟩
  | i :: is, [], vs, e, σ, F, Fv, r, rv, dj, hi, hl => by cases hl
  | i :: is, d :: ds, [], e, σ, F, Fv, r, rv, dj, hi, hl => by
    obtain ⟨w, ws, F1, F2, e1, _⟩ := rv
    cases e1
  | i :: is, d :: ds, v :: vs, e, σ, F, Fv, r, rv, dj, hi, hl => by
    obtain ⟨w, ws, F1, F2, e1, h1, h2, h3, h4⟩ := rv
    rw [List.map_cons] at e1
    have e2 : some v = w := (List.cons.inj e1).1
    have e3 : vs.map some = ws := (List.cons.inj e1).2
    subst e2; subst e3
    rcases h1 with ⟨z, _⟩ | h1
    · cases z
    rw [List.all_cons, Bool.and_eq_true, decide_eq_true_eq] at hi
    obtain ⟨F3, r3, k3⟩ := putNew r hi.1 (.inr h1) (dj.sub (fun _ z => z) fun b z => (h4 b).mpr (.inl z))
    obtain ⟨F5, r5, k5⟩ := putAll (is := is) (ds := ds) (vs := vs) r3 h2 (fun b z y => (k3 b z).elim (fun z => dj b z ((h4 b).mpr (.inr y))) fun z => h3 b z y) (by simpa using hi.2) (by simpa using hl)
    refine ⟨F5, r5, fun b z => ?_⟩
    rcases k5 b z with z | z
    · exact (k3 b z).imp id fun z => (h4 b).mpr (.inl z)
    · exact .inr ((h4 b).mpr (.inr z))
def tSubs (K : PySem.W.Frag) (cl : Nat → Addr) (W : WX) (N : L2.St → Prop) (T : Fns) (ts : List (Nat × IE)) : TGs := fun ws σ H Q => ∃ G e F ds, Same G H ∧ ROs K G H true e σ F ∧ RPs K G ds ws ∧ N σ ∧ PostS K cl W N G H F (unpGo T ts ds e) { nx := Q, rt := fun _ _ => False }
theorem sSubs (k : Kx S T cl X W) : ∀ {ts : List (Nat × IE)} {es : List Expr}, subsB S ts es = true → PGs X es (tSubs X.K cl W N T ts)
  | [], [], h => PGs.imp pgs_nil fun ws σ H Q q => by
    obtain ⟨G, e, F, ds, s, r, rp, n, h⟩ := q
    cases ds with
    | nil => exact ⟨rp, h G H F σ s r n (Good.refl _ _ _)⟩
    | cons _ _ => exact h.elim
  | [], _ :: _, h => by cases h
  | (x, i) :: ts, [], h => by cases h
  | (x, i) :: ts, E :: es, h => by
    cases E with
    | Subscript o ei pos => cases o with
      | Name y p =>
        have h : (slotB S x y && plainIx ei && okE i S ei && subsB S ts es) = true := h
        simp only [Bool.and_eq_true] at h
        refine PGs.imp (pgs_cons (pg_sub (k.slot h.1.1.1) (sE i k h.1.2) set_list ?_) (sSubs k h.2) ?_) fun ws σ H Q q => ?_
        · intro v
          have := h.1.1.2
          cases ei <;> first | rfl | (cases this; done)
        · rw [asgEach_cons rfl]; rfl
        · obtain ⟨G, e, F, ds, s, r, rp, n, h⟩ := q
          cases ds with
          | nil => exact h.elim
          | cons d ds =>
            obtain ⟨w, ws', ew, rw', rp'⟩ := rp
            subst ew
            have h : PostS X.K cl W N G H F (O.of (setR T x .nil i d e) fun _ e2 => unpGo T ts ds e2) { nx := Q, rt := fun _ _ => False } := h
            have h2 : Post (rD X.K) X.K cl W σ G H F (setR T x .nil i d e) (fun _ H3 => tSubs X.K cl W N T ts ws' σ H3 Q) :=
              PostS.first n h fun _ e1 G1 H1 F1 v Fv _ s1 r1 _ _ g h1 => ⟨G1, e1, F1, ds, s1, r1, rp'.mono g.mono, n, PostS.shift h1 (good_emp g) fun _ z => z⟩
            exact ⟨w, ws', rfl, setE (path := .nil) (fun _ _ z => by cases z) s r rw' h2⟩
      | _ => cases h
    | _ => cases h
theorem Agr.stList {vs : List Nat} : ∀ {is : List Nat} {ws : List V} {σ : L2.St}, (∀ i ∈ is, i ∈ vs) → Agr vs σ (stList (is.zip ws) σ)
  | [], ws, σ, _ => Agr.refl _ _
  | i :: is, [], σ, _ => Agr.refl _ _
  | i :: is, w :: ws, σ, h => (Agr.set (h i List.mem_cons_self)).trans (Agr.stList fun j hj => h j (List.mem_cons_of_mem _ hj))
/-- a display's shared tuple -/
theorem tup_at {ds : List Tw.D} {vs : List V} {p : Addr} (s : Same G H) (r : ROs K G H true e σ F) (rv : ROs K G H false ds (vs.map some) Fv) (dj : Dis F Fv) (g : Good G0 H0 F0 G H (AS.uni F Fv)) (hp : H p = none) :
    ∃ G', Same G' (upd H p (.tup vs)) ∧ ROs K G' (upd H p (.tup vs)) true e σ F ∧ RPs K G' (ds.map frz) vs ∧ Good G0 H0 F0 G' (upd H p (.tup vs)) F := by
  obtain ⟨G', s', r', p', g', _⟩ := shares s r rv dj g
  rw [frzs_map] at p'
  exact ⟨G', s'.trans (same_upd hp), ros_upd r' hp, p', (good_new s' g' hp).sub fun b z => .inl z⟩
end
end Tw

set_option Elab.async false
set_option linter.all false
set_option maxRecDepth 100000
set_option maxHeartbeats 8000000
/-! Tw19: THE THEOREM of the statements. -/
namespace Tw
open PySem L2
open Classical (propDecidable)
section
variable {S : Sg} {T : Fns} {cl : Nat → Addr} {X : Cx} {W : WX} {σ : L2.St} {G H G0 H0 G1 H1 : Hp} {F F0 Fv F1 F1' : AS} {e : Env} {K : PySem.W.Frag} {D : Ends} {vs : List Nat} {σ0 : L2.St} {wf np : Nat}
/-- name = expression -/
theorem setS {i : Nat} {x : Str} {a : IE} {ea : Expr} {py pos : Pos} (k : Ks S T cl X W) (o1 : tgB S i x = true) (o2 : vs.contains i = true) (o3 : okE a S ea = true) (o4 : swOk a (swB S x py ea) = true) (o5 : S.hot = false) :
    PS X (.Assign [.Name x py] ea pos) (tS X.K cl W (Agr vs σ0) (ex T wf np (.set i a))) := by
  obtain ⟨t1, t2, t3⟩ := k.tg o1
  have fin : ∀ {D σ H}, tS X.K cl W (Agr vs σ0) (ex T wf np (.set i a)) D σ H → tAsg (tE X.K cl W (ev T a)) (gName i) D σ H := by
    intro D σ H h
    obtain ⟨G, e, F, s, r, n, h⟩ := h
    have h : PostS X.K cl W (Agr vs σ0) G H F (O.of (ev T a e) fun d e1 => if i < e1.length then .nx (e1.set i d) else .no) D := h
    refine ⟨G, e, F, s, r, PostS.first n h fun d e1 G1 H1 F1 v Fv _ s1 r1 rv dj g h1 => ?_⟩
    by_cases hi : i < e1.length
    · rw [if_pos hi] at h1
      obtain ⟨F', r', k'⟩ := putNew r1 hi (.inr rv) dj
      exact h1 G1 H1 F' _ s1 r' (n.trans (Agr.set (by simpa using o2))) (g.sub k')
    · rw [if_neg hi] at h1; exact h1.elim
  cases hb : swB S x py ea with
  | none => rw [hb] at o4; cases o4
  | some b =>
  rw [hb] at o4
  cases b with
  | false => exact PS.imp (ps_set (k.nd) t1 t2 (sE a k.toKx o3) (swB_ok k.sc hb) t3) fun D σ H h => fin h
  | true =>
    have hsw := swB_ok (l := pos.line) (env := X.env) k.sc hb
    cases ea with
    | ListComp elt gs scope p =>
      have hb : (if S.sc.kind = .function then some (decide (S.sc.names.lookup x = some .local) && (py.line == p.line) && !(scope.names.any fun (n, k) => n == x && (k == .local || k == .cell))) else none) = some true := hb
      by_cases hk : S.sc.kind = .function
      · rw [if_pos hk] at hb
        have hb := Option.some.inj hb
        simp only [Bool.and_eq_true, decide_eq_true_eq] at hb
        have hxl : X.env.scope.names.lookup x = some .local := by rw [k.sc]; exact hb.1.1
        cases a with
        | comp own tg it cs el =>
          obtain ⟨e', tg', it', ifs, a0, scope', pos', eq, ok2⟩ := inv_comp o3
          cases eq
          simp only [Bool.and_eq_true, decide_eq_true_eq] at ok2
          obtain ⟨⟨⟨⟨⟨⟨⟨⟨⟨q1, q2⟩, q3⟩, q4⟩, q5⟩, q6⟩, q7⟩, q8⟩, q9⟩, q10⟩ := ok2
          subst q2
          have hbk : BlkOk X.N X.env.scope scope own := by
            rw [k.N, k.sc]; exact blkOk_by q3
          refine PS.imp (ps_setLc (k.calm o5) k.nd t1 hxl hsw (sI it k.toKx q7) hbk (fun s H C cl' fp => sTg (k.toKx.inner o5 s H scope C cl' fp) q8 q5) (fun s H C cl' fp => sC cs (k.toKx.inner o5 s H scope C cl' fp) q9)
            (fun s H C cl' fp => sE el (k.toKx.inner o5 s H scope C cl' fp) q10) (fun x => ?_)) fun D σ H h => comp_ok q4 (fin h)
          cases it' <;> first | rfl | cases q6
        | compS own tg i cs el =>
          obtain ⟨e', tg', y, pyy, ifs, a0, scope', pos', eq, ok2⟩ := inv_compS o3
          cases eq
          simp only [Bool.and_eq_true, decide_eq_true_eq] at ok2
          obtain ⟨⟨⟨⟨⟨⟨⟨⟨q1, q2⟩, q3⟩, q4⟩, q5⟩, q6⟩, q8⟩, q9⟩, q10⟩ := ok2
          subst q2
          have hbk : BlkOk X.N X.env.scope scope own := by
            rw [k.N, k.sc]; exact blkOk_by q3
          exact PS.imp (ps_setLc (k.calm o5) k.nd t1 hxl hsw (pi_slot (k.slot q6)) hbk (fun s H C cl' fp => sTg (k.toKx.inner o5 s H scope C cl' fp) q8 q5) (fun s H C cl' fp => sC cs (k.toKx.inner o5 s H scope C cl' fp) q9)
            (fun s H C cl' fp => sE el (k.toKx.inner o5 s H scope C cl' fp) q10) (fun x => rfl)) fun D σ H h => comp_okS q4 (fin h)
        | _ => cases o4
      · rw [if_neg hk] at hb; cases hb
    | SetComp _ _ _ _ => cases hb
    | DictComp _ _ _ _ _ => cases hb
    | _ => cases hb
/-- the list's writes -/
theorem writeS {r : Env → R Tw.D} {ea : Expr} {pos : Pos} (h : PE X ea (tE X.K cl W r)) (hc : notComp ea = true) : PS X (.Expr ea pos) (tS X.K cl W (Agr vs σ0) fun e => O.of (r e) fun _ e1 => .nx e1) := by
  refine PS.imp (ps_expr h (sw_drop hc)) fun D σ H h => ?_
  obtain ⟨G, e, F, s, r, n, h⟩ := h
  exact ⟨G, e, F, s, r, ofNx n h⟩
theorem setIxS {x : Nat} {path : IEs} {i a : IE} {o ei ea : Expr} {pt pos : Pos} (k : Ks S T cl X W) (o1 : okPath path S x o = true) (o2 : plainIx ei = true) (o3 : okE i S ei = true) (o4 : okE a S ea = true) :
    PS X (.Assign [.Subscript o ei pt] ea pos) (tS X.K cl W (Agr vs σ0) (ex T wf np (.setIx x path i a))) := by
  have hA : ∀ v, assign (.Subscript o ei pt) X.env v = (do
      let ov ← holding [v] (eval o X.env)
      let iv ← holding [v, ov] (eval ei X.env)
      standAt pt
      holding [v, ov, iv] (setItem ov iv v)
      release [v, ov, iv] []) := by
    intro v
    cases ei <;> first | rfl | (cases o2; done)
  refine PS.imp (ps_asg (sE a k.toKx o4) (pg_sub (sP path k.toKx o1) (sE i k.toKx o3) set_list hA) sole_sub stores_sub (by rw [asgEach_cons rfl]; rfl)) fun D σ H h => ?_
  obtain ⟨G, e, F, s, r, n, h⟩ := h
  have h : PostS X.K cl W (Agr vs σ0) G H F (O.of (ev T a e) fun d e1 => O.of (setR T x path i (frz d) e1) fun _ e2 => .nx e2) D := h
  refine ⟨G, e, F, s, r, PostS.first n h fun d e1 G1 H1 F1 v Fv _ s1 r1 rv dj g h1 => ?_⟩
  obtain ⟨G2, s2, r2, p2, g2, _⟩ := share s1 r1 rv dj g
  exact setE (okPath_base o1).2 s2 r2 p2 (ofNx n (PostS.shift h1 g2 fun _ z => z))
theorem raiseS {c : Nat} {x : Str} {a : IE} {ea : Expr} {p pos pos2 : Pos} (k : Ks S T cl X W) (o1 : S.hot = false) (o2 : S.er[c]? = some x) (o3 : gloB S x = true) (o4 : notStar ea = true) (o5 : okE a S ea = true) :
    PS X (.Raise (some (.Call (.Name x p) [ea] [] pos)) none pos2) (tS X.K cl W (Agr vs σ0) (ex T wf np (.raise c a))) := by
  obtain ⟨qn, fI, n, hT, hr⟩ := k.er c x o2
  refine PS.imp (ps_raise (k.calm o1) k.tk (pmk_what hT hr (pa_one (sE a k.toKx o5) o4) (k.gl_ o3).1 (k.gl_ o3).2.1 (starEach_cons o4) rfl)) fun D σ H h => ?_
  obtain ⟨G, e, F, s, r, n, h⟩ := h
  have h : PostS X.K cl W (Agr vs σ0) G H F (O.of (ev T a e) fun d e1 => .ex c (frz d) e1) D := h
  refine ⟨G, e, F, s, r, PostS.first n h fun d e1 G1 H1 F1 v Fv _ s1 r1 rv dj g h1 => ⟨v, rfl, fun p hp => ?_⟩⟩
  obtain ⟨G2, s2, r2, p2, g2, _⟩ := share s1 r1 rv dj g
  exact h1 (.ref (cl c)) (some p) σ G2 (upd H1 p (.xd [(("what" : Str), v)])) F1 (s2.trans (same_upd hp)) (ros_upd r2 hp) n ⟨rfl, p, v, rfl, upd_same, p2⟩ ((good_new s2 g2 hp).sub fun b z => .inl z)
theorem iteS {c : IE} {a b : List IS} {ec : Expr} {sa sb : List Stmt} {pos : Pos} (k : Ks S T cl X W) (o1 : noIf ec = true) (o2 : okE c S ec = true) (ha : PSs X sa (tS X.K cl W (Agr vs σ0) (exs T wf np a))) (hb : PSs X sb (tS X.K cl W (Agr vs σ0) (exs T wf np b))) :
    PS X (.If ec sa sb pos) (tS X.K cl W (Agr vs σ0) (ex T wf np (.ite c a b))) := by
  refine PS.imp (ps_if (sT c k.toKx o1 o2) ha hb) fun D σ H h => ?_
  obtain ⟨G, e, F, s, r, n, h⟩ := h
  have h : PostS X.K cl W (Agr vs σ0) G H F (O.of (ev T c e) fun d e1 => match d with | .bl true => exs T wf np a e1 | .bl false => exs T wf np b e1 | _ => .no) D := h
  have h : PostS X.K cl W (Agr vs σ0) G H F (O.of ((ev T c e).bind asB) fun d e1 => if d = true then exs T wf np a e1 else exs T wf np b e1) D := by
    cases q : ev T c e with
    | ok d e1 => rw [q] at h; cases d <;> first | exact h | (rename_i b; cases b <;> exact h)
    | _ => rw [q] at h; exact h
  refine ⟨G, e, F, s, r, PostS.first n h fun d e1 G1 H1 F1 v Fv _ s1 r1 rv dj g h1 => ?_⟩
  obtain ⟨ev, nv⟩ := rv
  subst ev
  have g := good_emp g
  cases d with
  | true => rw [if_pos rfl] at h1 ⊢; exact ⟨G1, e1, F1, s1, r1, n, PostS.shift h1 g fun _ z => z⟩
  | false => rw [if_neg Bool.false_ne_true] at h1 ⊢; exact ⟨G1, e1, F1, s1, r1, n, PostS.shift h1 g fun _ z => z⟩
theorem retS {a : IE} {ea : Expr} {pos : Pos} (k : Ks S T cl X W) (o1 : okE a S ea = true) : PS X (.Return (some ea) pos) (tS X.K cl W (Agr vs σ0) (ex T wf np (.ret a))) := by
  have gen : ∀ {D σ H}, (∃ G e F, Same G H ∧ ROs X.K G H true e σ F ∧ Agr vs σ0 σ ∧ PostS X.K cl W (Agr vs σ0) G H F (O.of (ev T a e) fun d e1 => .rt d e1) D) → tE X.K cl W (ev T a) σ H D.rt := by
    rintro D σ H ⟨G, e, F, s, r, n, h⟩
    exact ⟨G, e, F, s, r, PostS.first n h fun d e1 G1 H1 F1 v Fv _ s1 r1 rv dj g h1 => h1 G1 H1 F1 σ v Fv s1 r1 n rv dj g⟩
  cases a with
  | slot i =>
    cases ea with
    | Name x p =>
      by_cases hi : np ≤ i
      · refine PS.imp (ps_ret (k.slot (show slotB S i x = true from o1))) fun D σ H h => ?_
        obtain ⟨G, e, F, s, r, n, h⟩ := h
        have h : PostS X.K cl W (Agr vs σ0) G H F (if np ≤ i then (match gt e i with | .hole => .no | d => .rt d (e.set i .hole)) else O.of (rdF i e) fun d e1 => .rt d e1) D := h
        rw [if_pos hi] at h
        have nh : gt e i ≠ .hole := fun z => by rw [z] at h; exact h
        have h : PostS X.K cl W (Agr vs σ0) G H F (.rt (gt e i) (e.set i .hole)) D := by
          cases z : gt e i <;> rw [z] at h <;> first | exact absurd z nh | exact h
        obtain ⟨v, F1, F0, hv, rv, dj, hF, r1⟩ := takeOut r nh
        exact ⟨v, hv, h G H F0 σ v F1 s r1 n rv dj ((Good.refl _ _ _).sub fun b z => (hF b).mpr z)⟩
      · refine PS.imp (ps_ret (sE (.slot i) k.toKx o1)) fun D σ H h => gen ?_
        obtain ⟨G, e, F, s, r, n, h⟩ := h
        have h : PostS X.K cl W (Agr vs σ0) G H F (if np ≤ i then (match gt e i with | .hole => .no | d => .rt d (e.set i .hole)) else O.of (rdF i e) fun d e1 => .rt d e1) D := h
        rw [if_neg hi] at h
        exact ⟨G, e, F, s, r, n, h⟩
    | _ => cases o1
  | _ => exact PS.imp (ps_ret (sE _ k.toKx o1)) fun D σ H h => gen h
end
end Tw

set_option Elab.async false
set_option linter.all false
set_option maxRecDepth 100000
set_option maxHeartbeats 8000000
/-! Tw20: statements, all. -/
namespace Tw
open PySem L2
open Classical (propDecidable)
section
variable {S : Sg} {T : Fns} {cl : Nat → Addr} {X : Cx} {W : WX} {σ : L2.St} {G H G0 H0 G1 H1 : Hp} {F F0 Fv F1 F1' : AS} {e : Env} {K : PySem.W.Frag} {D : Ends} {vs : List Nat} {σ0 : L2.St} {wf np : Nat}
theorem unpS {t : Tg} {a : IE} {ts : List Expr} {ea : Expr} {kk : Nat} {p pos : Pos} (k : Ks S T cl X W) (o1 : S.hot = false) (o2 : okTg S t (.Tuple ts kk p) = true) (o3 : tgIn vs t = true) (o4 : okE a S ea = true) (o5 : swapNone ts ea = true) :
    PS X (.Assign [.Tuple ts kk p] ea pos) (tS X.K cl W (Agr vs σ0) (ex T wf np (.unp t a))) := by
  refine PS.imp (ps_asg (sE a k.toKx o4) (sTg k.toKx o2 o3) sole_tup (sw_none o5) (by rw [asgEach_cons rfl]; rfl)) fun D σ H h => ?_
  obtain ⟨G, e, F, s, r, n, h⟩ := h
  have h : PostS X.K cl W (Agr vs σ0) G H F (O.of (ev T a e) fun d e1 => match asg t (frz d) e1 with | some e2 => .nx e2 | none => .no) D := h
  refine ⟨G, e, F, s, r, PostS.first n h fun d e1 G1 H1 F1 v Fv _ s1 r1 rv dj g h1 => ?_⟩
  obtain ⟨G2, s2, r2, p2, g2, _⟩ := share s1 r1 rv dj g
  cases q : asg t (frz d) e1 with
  | none => rw [q] at h1; exact h1.elim
  | some e2 =>
    rw [q] at h1
    exact ⟨G2, e1, F1, frz d, e2, s2, r2, p2, q, fun σ' F' r' hF' ag => h1 G2 H1 F' σ' s2 r' (n.trans ag) (g2.sub hF')⟩
theorem unpSubS {ts : List (Nat × IE)} {as : IEs} {es us : List Expr} {kk k2 : Nat} {p p2 pos : Pos} (k : Ks S T cl X W) (o1 : S.hot = false) (o2 : subsB S ts es = true) (o3 : es ≠ []) (o4 : okEs as S us = true) (o5 : us.length ≤ 1000) (o6 : us.length = es.length) :
    PS X (.Assign [.Tuple es kk p] (.Tuple us k2 p2) pos) (tS X.K cl W (Agr vs σ0) (ex T wf np (.unpSub ts as))) := by
  have hl : ∀ {ts : List (Nat × IE)} {es : List Expr}, subsB S ts es = true → ts.length = es.length ∧ es.all isSub = true ∧ es.all notStar = true := by
    intro ts
    induction ts with
    | nil => intro es h; cases es <;> first | exact ⟨rfl, rfl, rfl⟩ | cases h
    | cons t ts ih =>
      intro es h
      obtain ⟨x, i⟩ := t
      cases es with
      | nil => cases h
      | cons E es => cases E with
        | Subscript o ei pos => cases o with
          | Name y p =>
            have h : (slotB S x y && plainIx ei && okE i S ei && subsB S ts es) = true := h
            simp only [Bool.and_eq_true] at h
            obtain ⟨h1, h2, h3⟩ := ih h.2
            exact ⟨by rw [List.length_cons, List.length_cons, h1], by rw [List.all_cons, h2]; rfl, by rw [List.all_cons, h3]; rfl⟩
          | _ => cases h
        | _ => cases h
  obtain ⟨l1, l2, l3⟩ := hl o2
  obtain ⟨n1, n2⟩ := asgEach_len (env := X.env) l3
  refine PS.imp (ps_asg (pe_tup (sEs as k.toKx o4)) (pg_tup (n := es.length) (k.calm o1) (sSubs (N := Agr vs σ0) (W := W) k.toKx o2) n1 n2) sole_tup (sw_sub l2 o3) (by rw [asgEach_cons rfl]; rfl)) fun D σ H h => ?_
  obtain ⟨G, e, F, s, r, n, h⟩ := h
  have h : PostS X.K cl W (Agr vs σ0) G H F (O.of (evs T as e) fun ds e1 => unpGo T ts (ds.map frz) e1) D := h
  have un : ∀ {ts : List (Nat × IE)} {ds : List Tw.D} {e : Env} {G H : Hp} {F : AS}, PostS X.K cl W (Agr vs σ0) G H F (unpGo T ts ds e) D → PostS X.K cl W (Agr vs σ0) G H F (unpGo T ts ds e) { nx := D.nx, rt := fun _ _ => False } ∧ ts.length = ds.length ∨ PostS X.K cl W (Agr vs σ0) G H F (unpGo T ts ds e) { nx := D.nx, rt := fun _ _ => False } := by
    intro ts ds e G H F h
    right
    have : ∀ {ts : List (Nat × IE)} {ds : List Tw.D} {e : Env}, (∃ e', unpGo T ts ds e = .nx e') ∨ (∃ c w e', unpGo T ts ds e = .ex c w e') ∨ unpGo T ts ds e = .no := by
      intro ts
      induction ts with
      | nil => intro ds e; cases ds <;> first | exact .inl ⟨_, rfl⟩ | exact .inr (.inr rfl)
      | cons t ts ih =>
        intro ds e
        obtain ⟨x, i⟩ := t
        cases ds with
        | nil => exact .inr (.inr rfl)
        | cons d ds =>
          show (∃ e', O.of (setR T x .nil i d e) (fun _ e2 => unpGo T ts ds e2) = .nx e') ∨ (∃ c w e', O.of (setR T x .nil i d e) (fun _ e2 => unpGo T ts ds e2) = .ex c w e') ∨ O.of (setR T x .nil i d e) (fun _ e2 => unpGo T ts ds e2) = .no
          cases setR T x .nil i d e with
          | ok a e1 => exact ih
          | ex c w e1 => exact .inr (.inl ⟨_, _, _, rfl⟩)
          | no => exact .inr (.inr rfl)
    rcases this (ts := ts) (ds := ds) (e := e) with ⟨e', q⟩ | ⟨c, w, e', q⟩ | q <;> rw [q] at h ⊢ <;> exact h
  refine ⟨G, e, F, s, r, PostS.first n h fun ds e1 G1 H1 F1 ws Fv hq s1 r1 rv dj g h1 => ?_⟩
  have hwl : ws.length = ds.length := by
    have := rv.len
    rw [List.length_map] at this
    exact this
  refine ⟨lst_sz (by rw [hwl, evs_len hq, ← (okEs_len o4).1]; exact o5), fun p hp => ?_⟩
  obtain ⟨G2, s2, r2, p2, g2⟩ := tup_at s1 r1 rv dj g hp
  have h2 := PostS.shift h1 g2 fun _ z => z
  refine ⟨p, ws, rfl, .inl (.inl upd_same), by rw [hwl, evs_len hq, ← (okEs_len o4).1]; exact o6, G2, e1, F1, ds.map frz, s2, r2, p2, n, ?_⟩
  rcases un h2 with ⟨q, _⟩ | q <;> exact q
theorem forS {t : Tg} {it : It} {a : List IS} {tg ea : Expr} {sa : List Stmt} {pos : Pos} (k : Ks S T cl X W) (o1 : S.hot = false) (o2 : okTg S t tg = true) (o3 : tgIn vs t = true) (o4 : okIt it S tg ea = true) (o5 : noSet ea = true)
    (ha : PSs X sa (tS X.K cl W (Agr vs σ0) (exs T wf np a))) : PS X (.For tg ea sa [] pos) (tS X.K cl W (Agr vs σ0) (ex T wf np (.for_ t it a))) := by
  refine PS.imp (ps_for k.po (k.calm o1) (sI it k.toKx o4) (sTg k.toKx o2 o3) ha fun x => ?_) fun D σ H h => for_ok h
  cases ea <;> first | rfl | (cases o5; done)
theorem whileS {c : IE} {a : List IS} {ec : Expr} {sa : List Stmt} {pos : Pos} (k : Ks S T cl X W) (o1 : noIf ec = true) (o2 : okE c S ec = true) (ha : PSs X sa (tS X.K cl W (Agr vs σ0) (exs T wf np a))) :
    PS X (.While ec sa [] pos) (tS X.K cl W (Agr vs σ0) (ex T wf np (.whil c a))) :=
  PS.imp (ps_while k.po (sT c k.toKx o1 o2) ha) fun D σ H h => while_ok h
theorem parEnd {is : List Nat} {as : IEs} {D : Ends} {σ : L2.St} {H : Hp} {Q : List V → Hp → Prop} (hi : ∀ i ∈ is, i ∈ vs) (h : tS K cl W (Agr vs σ0) (ex T wf np (.par is as)) D σ H)
    (kk : ∀ ws H1, ws.length = is.length → D.nx (stList (is.zip ws) σ) H1 → (∀ p, H1 p = none → D.nx (stList (is.zip ws) σ) (upd H1 p (.tup ws))) → Q ws H1) : tA K cl W (evs T as) σ H Q := by
  obtain ⟨G, e, F, s, r, n, h⟩ := h
  have h : PostS K cl W (Agr vs σ0) G H F (O.of (evs T as e) fun ds e1 => if is.length = ds.length ∧ is.all (· < e1.length) then .nx (asgList (is.zip ds) e1) else .no) D := h
  refine ⟨G, e, F, s, r, PostS.first n h fun ds e1 G1 H1 F1 ws Fv hq s1 r1 rv dj g h1 => ?_⟩
  by_cases hl : is.length = ds.length ∧ is.all (fun i => decide (i < e1.length)) = true
  · rw [if_pos hl] at h1
    obtain ⟨F', r', k'⟩ := putAll r1 rv dj hl.2 hl.1
    have hwl : ws.length = ds.length := by
      have := rv.len
      rw [List.length_map] at this
      exact this
    have g' := g.sub k'
    refine kk ws H1 (hwl.trans hl.1.symm) (h1 G1 H1 F' _ s1 r' (n.trans (Agr.stList hi)) g') fun p hp => ?_
    exact h1 G1 _ F' _ (s1.trans (same_upd hp)) (ros_upd r' hp) (n.trans (Agr.stList hi)) ((good_new s1 g' hp).sub fun b z => .inl z)
  · rw [if_neg hl] at h1; exact h1.elim
def gNames (is : List Nat) : TGs := fun ws σ H Q => ws.length = is.length ∧ Q (stList (is.zip ws) σ) H
theorem sNames (k : Kx S T cl X W) : ∀ {is : List Nat} {es : List Expr}, namesB S vs is es = true → PGs X es (gNames is) ∧ es.length = is.length ∧ es.all notStar = true ∧ ∀ i ∈ is, i ∈ vs
  | [], [], h => ⟨PGs.imp pgs_nil fun ws σ H Q q => by
      obtain ⟨h1, h2⟩ := q
      have : ws = [] := List.length_eq_zero_iff.mp h1
      subst this
      exact ⟨rfl, h2⟩, rfl, rfl, fun i hi => by cases hi⟩
  | [], _ :: _, h => by cases h
  | i :: is, [], h => by cases h
  | i :: is, E :: es, h => by
    cases E with
    | Name x p =>
      have h : (tgB S i x && vs.contains i && namesB S vs is es) = true := h
      simp only [Bool.and_eq_true] at h
      obtain ⟨t1, t2, t3⟩ := k.tg h.1.1
      obtain ⟨q1, q2, q3, q4⟩ := sNames k h.2
      refine ⟨PGs.imp (pgs_cons (pg_name k.nd t1 t2 t3) q1 (by rw [asgEach_cons rfl]; rfl)) fun ws σ H Q q => ?_, by rw [List.length_cons, List.length_cons, q2], by rw [List.all_cons, q3]; rfl, fun j hj => ?_⟩
      · obtain ⟨h1, h2⟩ := q
        cases ws with
        | nil => cases h1
        | cons w ws => exact ⟨w, ws, rfl, by simpa using h1, h2⟩
      · rcases List.mem_cons.mp hj with z | z
        · rw [z]; simpa using h.1.2
        · exact q4 j z
    | _ => cases h
theorem filterMap_len {α β : Type} {f : α → Option β} : ∀ {l : List α}, (∃ x ∈ l, f x = none) → (l.filterMap f).length < l.length
  | [], h => by obtain ⟨x, hx, _⟩ := h; cases hx
  | x :: l, h => by
    by_cases q : ∃ y ∈ l, f y = none
    · have := filterMap_len q
      cases e : f x with
      | none => rw [List.filterMap_cons_none e]; exact Nat.lt_succ_of_lt this
      | some y => rw [List.filterMap_cons_some e, List.length_cons, List.length_cons]; omega
    · obtain ⟨y, hy, e⟩ := h
      rcases List.mem_cons.mp hy with z | z
      · subst z
        rw [List.filterMap_cons_none e, List.length_cons]
        exact Nat.lt_succ_of_le (List.length_filterMap_le _ _)
      · exact absurd ⟨y, z, e⟩ q
theorem sw_cell {ts us : List Expr} {kt k2 : Nat} {pt pt2 : Pos} {env : PySem.Env} (hs : env.scope = S.sc) (h : (!(ts.all (isLocal S)) || (decide (ts.length ≠ 2) && decide (ts.length ≠ 3))) = true) : swappedStores [.Tuple ts kt pt] (.Tuple us k2 pt2) env = pure none := by
  rw [Bool.or_eq_true] at h
  rcases h with h | h
  · have ex : ∃ x ∈ ts, isLocal S x = false := by
      simp only [Bool.not_eq_true', List.all_eq_false, Bool.not_eq_true] at h
      exact h
    unfold swappedStores
    dsimp only
    split
    · rfl
    split
    · rfl
    split
    · rfl
    · rename_i q1 q2 q3
      exfalso
      apply q3
      rw [Bool.or_eq_true]
      left
      obtain ⟨x, hx, he⟩ := ex
      have := filterMap_len (f := fun x => match x with
        | .Name id pos => if (env.kindOf id == some NameKind.local && pos.line == (Option.map (fun x => x.pos.line) ts.head?).getD 0) = true then some id else none
        | x => none) (l := ts) ⟨x, hx, by
          cases x with
          | Name id pos =>
            have he : decide (S.sc.names.lookup id = some .local) = false := he
            have : (env.kindOf id == some NameKind.local) = false := by
              rw [kind_beq]
              show decide (env.scope.names.lookup id = some .local) = false
              rw [hs]; exact he
            simp [this]
          | _ => rfl⟩
      simp only [bne_iff_ne]
      exact Nat.ne_of_lt this
  · simp only [Bool.and_eq_true, decide_eq_true_eq] at h
    unfold swappedStores
    simp [h.1, h.2]
theorem parCS {is : List Nat} {as : IEs} {ts es : List Expr} {kk k2 : Nat} {p p2 pos : Pos} (k : Ks S T cl X W) (o1 : parC S vs is ts es = true) (o2 : okEs as S es = true) :
    PS X (.Assign [.Tuple ts kk p] (.Tuple es k2 p2) pos) (tS X.K cl W (Agr vs σ0) (ex T wf np (.par is as))) := by
  unfold parC at o1
  simp only [Bool.and_eq_true, decide_eq_true_eq, Bool.not_eq_true'] at o1
  obtain ⟨⟨⟨⟨q0, q1⟩, q2⟩, q3⟩, q4⟩ := o1
  obtain ⟨g1, g2, g3, g4⟩ := sNames (vs := vs) k.toKx q1
  obtain ⟨n1, n2⟩ := asgEach_len (env := X.env) g3
  refine PS.imp (ps_asg (pe_tup (sEs as k.toKx o2)) (pg_tup (n := ts.length) (k.calm q0) g1 n1 n2) sole_tup (sw_cell k.sc q2) (by rw [asgEach_cons rfl]; rfl)) fun D σ H h => ?_
  refine parEnd g4 h fun ws H1 hw q q' => ⟨lst_sz (by rw [hw, ← g2, ← q3]; exact q4), fun p hp => ?_⟩
  exact ⟨p, ws, rfl, .inl (.inl upd_same), by rw [hw, g2], hw, q' p hp⟩
theorem parS {is : List Nat} {as : IEs} {ts es : List Expr} {kk k2 : Nat} {p p2 pos : Pos} (k : Ks S T cl X W) (o1 : parB S vs is ts es = true) (o2 : okEs as S es = true) :
    PS X (.Assign [.Tuple ts kk p] (.Tuple es k2 p2) pos) (tS X.K cl W (Agr vs σ0) (ex T wf np (.par is as))) := by
  unfold parB at o1
  split at o1
  · rename_i i j x px y py a b
    simp only [Bool.and_eq_true, decide_eq_true_eq, Bool.not_eq_true'] at o1
    obtain ⟨⟨⟨⟨⟨⟨⟨⟨⟨⟨⟨⟨⟨⟨q0, q1⟩, q2⟩, q3⟩, q4⟩, q5⟩, q6⟩, q7⟩, q8⟩, q9⟩, q10⟩, q11⟩, q12⟩, q13⟩, q14⟩ := o1
    refine PS.imp (ps_par (k.calm q0) k.nd (by rw [k.N]; exact q1) (by rw [k.N]; exact q2) q3 (by rw [k.sc]; exact q6) (by rw [k.sc]; exact q7) (sEs as k.toKx o2) (sw_par2 (by rw [k.sc]; exact q5) (by rw [k.sc]; exact q6) (by rw [k.sc]; exact q7) q8 q4 q9 q10 q11 q12) sole_tup) fun D σ H h => ?_
    refine parEnd (fun l hl => ?_) h fun ws H1 hw q _ => ?_
    · rcases List.mem_cons.mp hl with z | z
      · rw [z]; simpa using q13
      · rw [List.mem_singleton.mp z]; simpa using q14
    · match ws, hw with
      | [v, w], _ => exact ⟨v, w, rfl, q⟩
  · rename_i i j l x px y py z pz a b c
    simp only [Bool.and_eq_true, decide_eq_true_eq, Bool.not_eq_true'] at o1
    obtain ⟨⟨⟨⟨⟨⟨⟨⟨⟨⟨⟨⟨⟨⟨⟨⟨⟨⟨⟨⟨⟨⟨⟨q0, q1⟩, q2⟩, q3⟩, q4⟩, q5⟩, q6⟩, q7⟩, q8⟩, q9⟩, q10⟩, q11⟩, q12⟩, q13⟩, q14⟩, q15⟩, q16⟩, q17⟩, q18⟩, q19⟩, q20⟩, q21⟩, q22⟩, q23⟩ := o1
    refine PS.imp (ps_par3 (k.calm q0) k.nd (by rw [k.N]; exact q1) (by rw [k.N]; exact q2) (by rw [k.N]; exact q3) q4 q5 q6 (by rw [k.sc]; exact q11) (by rw [k.sc]; exact q12) (by rw [k.sc]; exact q13) (sEs as k.toKx o2)
      (sw_par3 (by rw [k.sc]; exact q10) (by rw [k.sc]; exact q11) (by rw [k.sc]; exact q12) (by rw [k.sc]; exact q13) q14 q15 q7 q8 q9 q16 q17 q18 q19 q20) sole_tup) fun D σ H h => ?_
    refine parEnd (fun l hl => ?_) h fun ws H1 hw q _ => ?_
    · rcases List.mem_cons.mp hl with z | z
      · rw [z]; simpa using q21
      · rcases List.mem_cons.mp z with z | z
        · rw [z]; simpa using q22
        · rw [List.mem_singleton.mp z]; simpa using q23
    · match ws, hw with
      | [u, v, w], _ => exact ⟨u, v, w, rfl, q⟩
  · cases o1
theorem basic {f : Env → O} {t : TS} {st : Stmt} (h : PS X st t) (i : ∀ D σ G H F e, Same G H → ROs X.K G H true e σ F → Agr vs σ0 σ → PostS X.K cl W (Agr vs σ0) G H F (f e) D → t D σ H) : PS X st (tS X.K cl W (Agr vs σ0) f) :=
  PS.imp h fun D σ H ⟨G, e, F, s, r, n, h⟩ => i D σ G H F e s r n h
/-- the handlers -/
theorem hd_ok (hk : Hk S cl K X.mg) : ∀ {hs : List Hd} {es : List ExceptHandler} {c : Nat} {w : Tw.D} {e1 : Env} {G H : Hp} {F : AS} {σ : L2.St} {cls : Value} {dd : Option Addr}, okHds S hs es = true → PostS K cl W (Agr vs σ0) G H F (hdGo hs c w e1) D → Same G H → ROs K G H true e1 σ F → Agr vs σ0 σ →
    Exr K cl G H c w cls dd → wA K W D (hs.map (clH K cl S)) cls dd σ H
  | [], es, c, w, e1, G, H, F, σ, cls, dd, ok, h, s, r, n, x => h cls dd σ G H F s r n x (Good.refl _ _ _)
  | _ :: _, [], c, w, e1, G, H, F, σ, cls, dd, ok, h, s, r, n, x => by cases ok
  | q :: hs, E :: es, c, w, e1, G, H, F, σ, cls, dd, ok, h, s, r, n, x => by
    have ok : (okHd S q E && okHds S hs es) = true := ok
    rw [Bool.and_eq_true] at ok
    have hyn : (∀ c, q.yes.contains c = true → (c, q.cls, true) ∈ S.sb) ∧ ∀ c, q.no.contains c = true → (c, q.cls, false) ∈ S.sb := by
      have o := ok.1
      unfold okHd at o
      split at o
      · simp only [Bool.and_eq_true, decide_eq_true_eq, List.all_eq_true] at o
        exact ⟨fun c hc => sbB_ok (o.1.1.2 c (by simpa using hc)), fun c hc => sbB_ok (o.1.2 c (by simpa using hc))⟩
      · cases hsl : q.slot with
        | none => rw [hsl] at o; cases o
        | some i =>
          rw [hsl] at o
          simp only [Bool.and_eq_true, decide_eq_true_eq, List.all_eq_true] at o
          exact ⟨fun c hc => sbB_ok (o.1.1.2 c (by simpa using hc)), fun c hc => sbB_ok (o.1.2 c (by simpa using hc))⟩
      · cases o
    have h : PostS K cl W (Agr vs σ0) G H F (if q.yes.contains c then (match q.he.ev c w with
      | some d => .rt d e1
      | none => .no) else if q.no.contains c then hdGo hs c w e1 else .no) D := h
    obtain ⟨ec, p, v, ed, ea, rw'⟩ := id x
    by_cases hy : q.yes.contains c = true
    · rw [if_pos hy] at h
      obtain ⟨hlt, hex, _⟩ := hk.hs c q.cls true (hyn.1 c hy)
      refine ⟨true, by rw [ec]; exact hex, fun _ a na hln => ?_, fun z => nomatch z⟩
      cases he : q.he.ev c w with
      | none => rw [he] at h; exact h.elim
      | some d =>
        rw [he] at h
        have fin : ∀ {v : V} {G' H' : Hp}, Same G' H' → RP K G' d v → Gr G H G' H' → D.rt v H' := fun {v G' H'} s' r' g' => by
          obtain ⟨r2, g2⟩ := g'.good r
          exact h G' H' F σ v AS.emp s' r2 n r'.ro dis_emp (g2.sub fun b z => z.elim id fun z => z.elim)
        show (match q.slot with
          | none => tHe K cl S q.slot a cls dd (fun c w => q.he.ev c w) σ H D.rt
          | some i => tHe K cl S q.slot a cls dd (fun c w => q.he.ev c w) (σ.set i (some (.ref a))) H (goneD i D).rt)
        cases hsl : q.slot with
        | none => exact ⟨G, c, w, ⟨s, (fun i z => nomatch z), x, hlt⟩, d, he, fun v G' H' s' r' g' => fin s' r' g'⟩
        | some i =>
          refine ⟨G, c, w, ⟨s, fun j z => ?_, x, hlt⟩, d, he, fun v G' H' s' r' g' => fin s' r' g'⟩
          cases z
          rw [List.getElem?_set_self (hln i hsl)]
    · rw [if_neg hy] at h
      by_cases hno : q.no.contains c = true
      · rw [if_pos hno] at h
        obtain ⟨_, hex, _⟩ := hk.hs c q.cls false (hyn.2 c hno)
        exact ⟨false, by rw [ec]; exact hex, (fun z => nomatch z), fun _ => hd_ok hk ok.2 h s r n x⟩
      · rw [if_neg hno] at h; exact h.elim
theorem tryS {f : Env → O} {hs : List Hd} {body : List Stmt} {h0 : ExceptHandler} {hds : List ExceptHandler} {pos : Pos} (k : Ks S T cl X W)
    (hb : ∀ (W' : WX) (pn : List (Addr × Obj)) (xe : Value → Shared → Prop), Takes (X.tr pn xe) W' → PassesOwn (model X.prog X.w) X.A X.env xe → PSs (X.tr pn xe) body (tS X.K cl W' (Agr vs σ0) f)) (ok : okHds S hs (h0 :: hds) = true) :
    PS X (.Try body (h0 :: hds) [] [] pos) (tS X.K cl W (Agr vs σ0) fun e => (f e).hd hs) := by
  refine PS.imp (ps_tryA (tb := fun W' => tS X.K cl W' (Agr vs σ0) f) (out := W) (l := hs.map (clH X.K cl S)) k.sk k.fr k.nd k.tk hb (hsA k.toKx k.hk ok)) fun D σ H h => ?_
  obtain ⟨G, e, F, s, r, n, h⟩ := h
  refine ⟨G, e, F, s, r, n, ?_⟩
  have h : PostS X.K cl W (Agr vs σ0) G H F ((f e).hd hs) D := h
  cases q : f e with
  | ex c w e1 =>
    rw [q] at h
    intro cls dd σ' G' H' F' s' r' n' x g'
    exact hd_ok (X := X) k.hk ok (PostS.shift h g' fun _ z => z) s' r' n' x
  | _ => rw [q] at h; exact h
mutual
theorem sS : ∀ (s : IS) {S : Sg} {X : Cx} {W : WX} {st : Stmt}, Ks S T cl X W → okS S vs s st = true → PS X st (tS X.K cl W (Agr vs σ0) (ex T wf np s))
  | .set i a, S, X, W, st, k, ok => by
    cases st with
    | Assign tgs e pos =>
      match tgs, ok with
      | [.Name x py], ok =>
        have ok : (tgB S i x && vs.contains i && okE a S e && swOk a (swB S x py e) && !S.hot) = true := ok
        simp only [Bool.and_eq_true, Bool.not_eq_true'] at ok
        exact setS k ok.1.1.1.1 ok.1.1.1.2 ok.1.1.2 ok.1.2 ok.2
    | _ => cases ok
  | .par is as, S, X, W, st, k, ok => by
    cases st with
    | Assign tgs e pos =>
      match tgs, e, ok with
      | [.Tuple ts kk p], .Tuple es k2 p2, ok =>
        have ok : ((parB S vs is ts es || parC S vs is ts es) && okEs as S es) = true := ok
        rw [Bool.and_eq_true, Bool.or_eq_true] at ok
        rcases ok.1 with o | o
        · exact parS k o ok.2
        · exact parCS k o ok.2
    | _ => cases ok
  | .unp t a, S, X, W, st, k, ok => by
    cases st with
    | Assign tgs e pos =>
      match tgs, ok with
      | [.Tuple ts kk p], ok =>
        have ok : (!S.hot && okTg S t (.Tuple ts kk p) && tgIn vs t && okE a S e && swapNone ts e) = true := ok
        simp only [Bool.and_eq_true, Bool.not_eq_true'] at ok
        exact unpS k ok.1.1.1.1 ok.1.1.1.2 ok.1.1.2 ok.1.2 ok.2
    | _ => cases ok
  | .unpSub ts as, S, X, W, st, k, ok => by
    cases st with
    | Assign tgs e pos =>
      match tgs, e, ok with
      | [.Tuple es kk p], .Tuple us k2 p2, ok =>
        have ok : (!S.hot && subsB S ts es && decide (es ≠ []) && okEs as S us && decide (us.length ≤ 1000) && decide (us.length = es.length)) = true := ok
        simp only [Bool.and_eq_true, Bool.not_eq_true', decide_eq_true_eq] at ok
        exact unpSubS k ok.1.1.1.1.1 ok.1.1.1.1.2 ok.1.1.1.2 ok.1.1.2 ok.1.2 ok.2
    | _ => cases ok
  | .setIx x path i a, S, X, W, st, k, ok => by
    cases st with
    | Assign tgs e pos =>
      match tgs, ok with
      | [.Subscript o ei p], ok =>
        have ok : (okPath path S x o && plainIx ei && okE i S ei && okE a S e) = true := ok
        simp only [Bool.and_eq_true] at ok
        exact setIxS k ok.1.1.1 ok.1.1.2 ok.1.2 ok.2
    | _ => cases ok
  | .append x path a, S, X, W, st, k, ok => by
    cases st with
    | Expr e pos =>
      match e, ok with
      | .Call (.Attribute o m ap) [ea] [] cp, ok =>
        have ok : (decide (m = "append") && decide (ap.endLine = cp.line) && notStar ea && okPath path S x o && okE a S ea) = true := ok
        simp only [Bool.and_eq_true, decide_eq_true_eq] at ok
        obtain ⟨⟨⟨⟨q1, q2⟩, q3⟩, q4⟩, q5⟩ := ok
        subst q1
        exact writeS (apE k.toKx q4 q5 q3 q2) rfl
    | _ => cases ok
  | .extend x path a, S, X, W, st, k, ok => by
    cases st with
    | Expr e pos =>
      match e, ok with
      | .Call (.Attribute o m ap) [ea] [] cp, ok =>
        have ok : (decide (m = "extend") && decide (ap.endLine = cp.line) && notStar ea && okPath path S x o && okE a S ea) = true := ok
        simp only [Bool.and_eq_true, decide_eq_true_eq] at ok
        obtain ⟨⟨⟨⟨q1, q2⟩, q3⟩, q4⟩, q5⟩ := ok
        subst q1
        exact writeS (exE k.toKx q4 q5 q3 q2) rfl
    | _ => cases ok
  | .drop a, S, X, W, st, k, ok => by
    cases st with
    | Expr e pos =>
      have ok : (okE a S e && notComp e) = true := ok
      rw [Bool.and_eq_true] at ok
      exact writeS (sE a k.toKx ok.1) ok.2
    | _ => cases ok
  | .ite c a b, S, X, W, st, k, ok => by
    cases st with
    | If ec sa sb pos =>
      have ok : (noIf ec && okE c S ec && okSs S vs a sa && okSs S vs b sb) = true := ok
      simp only [Bool.and_eq_true] at ok
      exact iteS k ok.1.1.1 ok.1.1.2 (sSs a k ok.1.2) (sSs b k ok.2)
    | _ => cases ok
  | .for_ t it a, S, X, W, st, k, ok => by
    cases st with
    | For tg e sa se pos =>
      match se, ok with
      | [], ok =>
        have ok : (!S.hot && okTg S t tg && tgIn vs t && okIt it S tg e && noSet e && okSs S vs a sa) = true := ok
        simp only [Bool.and_eq_true, Bool.not_eq_true'] at ok
        exact forS k ok.1.1.1.1.1 ok.1.1.1.1.2 ok.1.1.1.2 ok.1.1.2 ok.1.2 (sSs a k ok.2)
    | _ => cases ok
  | .whil c a, S, X, W, st, k, ok => by
    cases st with
    | While ec sa se pos =>
      match se, ok with
      | [], ok =>
        have ok : (noIf ec && okE c S ec && okSs S vs a sa) = true := ok
        simp only [Bool.and_eq_true] at ok
        exact whileS k ok.1.1 ok.1.2 (sSs a k ok.2)
    | _ => cases ok
  | .ret a, S, X, W, st, k, ok => by
    cases st with
    | Return o pos =>
      match o, ok with
      | some e, ok => exact retS k ok
    | _ => cases ok
  | .retN, S, X, W, st, k, ok => by
    cases st with
    | Return o pos =>
      match o, ok with
      | none, ok => exact basic ps_retN fun D σ G H F e s r n h => h G H F σ .non AS.emp s r n ⟨⟨_, rfl, rfl⟩, fun _ z => z⟩ dis_emp ((Good.refl _ _ _).sub fun b z => z.elim id fun z => z.elim)
    | _ => cases ok
  | .brk, S, X, W, st, k, ok => by
    cases st with
    | Break pos => exact basic ps_break fun D σ G H F e s r n h => h G H F σ s r n (Good.refl _ _ _)
    | _ => cases ok
  | .cont, S, X, W, st, k, ok => by
    cases st with
    | Continue pos => exact basic ps_continue fun D σ G H F e s r n h => h G H F σ s r n (Good.refl _ _ _)
    | _ => cases ok
  | .pass, S, X, W, st, k, ok => by
    cases st with
    | Pass pos => exact basic ps_pass fun D σ G H F e s r n h => h G H F σ s r n (Good.refl _ _ _)
    | Expr e pos =>
      match e, ok with
      | .Constant (.str x) j p, ok => exact basic ps_doc fun D σ G H F e s r n h => h G H F σ s r n (Good.refl _ _ _)
    | _ => cases ok
  | .raise c a, S, X, W, st, k, ok => by
    cases st with
    | Raise o o2 pos =>
      match o, o2, ok with
      | some (.Call (.Name x p) [e] [] cp), none, ok =>
        have ok : (!S.hot && decide (S.er[c]? = some x) && gloB S x && notStar e && okE a S e) = true := ok
        simp only [Bool.and_eq_true, Bool.not_eq_true', decide_eq_true_eq] at ok
        exact raiseS k ok.1.1.1.1 ok.1.1.1.2 ok.1.1.2 ok.1.2 ok.2
    | _ => cases ok
  | .try_ a hs, S, X, W, st, k, ok => by
    cases st with
    | Try body hds oe fb pos =>
      match hds, oe, fb, ok with
      | h0 :: hds, [], [], ok =>
        have ok : (okSs S vs a body && okHds S hs (h0 :: hds)) = true := ok
        rw [Bool.and_eq_true] at ok
        exact tryS k (fun W' pn xe t p => sSs a (k.tr t p) ok.1) ok.2
    | _ => cases ok
  | .never, S, X, W, st, k, ok => basic ps_never fun D σ G H F e s r n h => h
termination_by s => sizeOf s
theorem sSs : ∀ (ss : List IS) {S : Sg} {X : Cx} {W : WX} {sts : List Stmt}, Ks S T cl X W → okSs S vs ss sts = true → PSs X sts (tS X.K cl W (Agr vs σ0) (exs T wf np ss))
  | [], S, X, W, sts, k, ok => by
    cases sts with
    | cons _ _ => cases ok
    | nil => exact PSs.imp pss_nil fun D σ H ⟨G, e, F, s, r, n, h⟩ => h G H F σ s r n (Good.refl _ _ _)
  | s :: ss, S, X, W, sts, k, ok => by
    cases sts with
    | nil => cases ok
    | cons st sts =>
      have ok : (okS S vs s st && okSs S vs ss sts) = true := ok
      rw [Bool.and_eq_true] at ok
      exact PSs.imp (pss_cons (sS s k ok.1) (sSs ss k ok.2)) fun D σ H ⟨G, e, F, s, r, n, h⟩ => ⟨G, e, F, s, r, n, PostS.seq h⟩
termination_by ss => sizeOf ss
end
end
end Tw

set_option Elab.async false
set_option linter.all false
set_option maxRecDepth 100000
set_option maxHeartbeats 4000000
/-! Tw22: THE THEOREM of the defs: what a program of defs does is what callF tells. -/
namespace Tw
open PySem L2
open Classical (propDecidable)
section
variable {S : Sg} {T : Fns} {cl : Nat → Addr} {X : Cx} {W : WX} {σ : L2.St} {G H G0 H0 G1 H1 : Hp} {F F0 Fv F1 F1' : AS} {e : Env} {K : PySem.W.Frag} {D : Ends} {vs : List Nat} {σ0 : L2.St} {wf np : Nat}
theorem ROs.loose : ∀ {ds : List Tw.D} {os : List (Option V)} {F : AS}, ROs K G H false ds os F → ROs K G H true ds os F
  | [], _, _, h => h
  | x :: xs, _, _, h => by
    obtain ⟨w, ws, F1, F2, e1, h1, h2, h3, h4⟩ := h
    exact ⟨w, ws, F1, F2, e1, h1.imp (fun z => absurd z.1 (by decide)) id, h2.loose, h3, h4⟩
theorem ROs.holes : ∀ {n : Nat} {os : List (Option V)}, os.length = n → ROs K G H true (List.replicate n Tw.D.hole) os AS.emp
  | 0, os, h => ⟨List.length_eq_zero_iff.mp h, fun _ z => z⟩
  | n + 1, [], h => by cases h
  | n + 1, o :: os, h => ⟨o, os, AS.emp, AS.emp, rfl, .inl ⟨rfl, rfl, fun _ z => z⟩, ROs.holes (by simpa using h), fun _ z _ => z, fun b => ⟨fun z => .inl z, fun z => z.elim id id⟩⟩
theorem ROs.more : ∀ {ds : List Tw.D} {os : List (Option V)} {F : AS} {es : List Tw.D} {ps : List (Option V)}, ROs K G H true ds os F → ROs K G H true es ps AS.emp → ROs K G H true (ds ++ es) (os ++ ps) F
  | [], os, F, es, ps, h, h' => by
    rw [h.1]
    exact h'.congr fun b => ⟨fun z => absurd z (h.2 b), fun z => z.elim⟩
  | x :: xs, _, _, es, ps, h, h' => by
    obtain ⟨w, ws, F1, F2, e1, h1, h2, h3, h4⟩ := h
    subst e1
    exact ⟨w, ws ++ ps, F1, F2, rfl, h1, h2.more h', h3, h4⟩
/-- the parameters that are never stored to -/
theorem keep_ros : ∀ {stab : List Bool} {us : List V} {e : Env} {σ : L2.St} {F : AS}, ROs K G H true e σ F → us.length = stab.length → stab.length ≤ e.length → (∀ i : Nat, stab[i]? = some true → σ[i]? = (us.map some)[i]?) →
    ∃ F', ROs K G H true ((e.take stab.length).zipWith (fun d b => if b then d else .hole) stab) (us.map some) F' ∧ ∀ b, F' b → F b
  | [], us, e, σ, F, r, hu, he, hs => by
    have : us = [] := List.length_eq_zero_iff.mp hu
    subst this
    exact ⟨AS.emp, ⟨by simp, fun _ z => z⟩, fun _ z => z.elim⟩
  | b :: stab, [], e, σ, F, r, hu, he, hs => by cases hu
  | b :: stab, u :: us, [], σ, F, r, hu, he, hs => by simp at he
  | b :: stab, u :: us, d :: e, σ, F, r, hu, he, hs => by
    obtain ⟨w, ws, F1, F2, e1, h1, h2, h3, h4⟩ := r
    subst e1
    obtain ⟨F3, r3, k3⟩ := keep_ros (stab := stab) (us := us) h2 (by simpa using hu) (by simpa using he) (fun i hi => by simpa using hs (i + 1) (by simpa using hi))
    cases b with
    | false =>
      refine ⟨F3, ?_, fun b z => (h4 b).mpr (.inr (k3 b z))⟩
      exact ⟨some u, us.map some, AS.emp, F3, rfl, .inl ⟨rfl, rfl, fun _ z => z⟩, r3, fun _ z _ => z, fun b => ⟨.inr, fun z => z.elim (fun z => z.elim) id⟩⟩
    | true =>
      have hw : w = some u := by simpa using hs 0 rfl
      subst hw
      refine ⟨AS.uni F1 F3, ?_, fun b z => z.elim (fun z => (h4 b).mpr (.inl z)) fun z => (h4 b).mpr (.inr (k3 b z))⟩
      exact ⟨some u, us.map some, F1, F3, rfl, h1, r3, fun b z y => h3 b z (k3 b y), fun b => Iff.rfl⟩
/-- the slots that may be stored to -/
def free (stab : List Bool) (ns : Nat) : List Nat := (List.range ns).filter fun i => !(stab.getD i false)
theorem fn_end {o : O} {stab : List Bool} {ns : Nat} {us : List V} {Q : VK} {E : XK} (hl : us.length = np) (hs : stab.length = np) (hn : np ≤ ns) (he : ∀ {G' H' e σ' F'}, ROs K G' H' true e σ' F' → σ'.length = σ0.length → e.length = ns) (h0 : ∀ i : Nat, i < np → σ0[i]? = (us.map some)[i]?)
    (h : Post (rD K) K cl (fun c d _ H => E c d H) (us.map some) G H F (finish np stab o) Q) : PostS K cl (fun c d _ H => E c d H) (Agr (free stab ns) σ0) G H F o { nx := fun _ H' => Q .non H', rt := Q } := by
  have par : ∀ {G' H' : Hp} {e : Env} {σ' : L2.St} {F' : AS}, ROs K G' H' true e σ' F' → Agr (free stab ns) σ0 σ' → ∃ F2, ROs K G' H' true (finish.keep np stab e) (us.map some) F2 ∧ ∀ b, F2 b → F' b := by
    intro G' H' e σ' F' r ag
    unfold finish.keep
    rw [← hs]
    refine keep_ros r (hl.trans hs.symm) (by rw [he r ag.1, hs]; exact hn) fun i hi => ?_
    have hi2 : i < stab.length := (List.getElem?_eq_some_iff.mp hi).1
    rw [← h0 i (by omega)]
    refine ag.2 i fun z => ?_
    unfold free at z
    have := (List.mem_filter.mp z).2
    rw [List.getD_eq_getElem?_getD, hi] at this
    cases this
  cases o with
  | nx e =>
    intro G' H' F' σ' s r n g
    obtain ⟨F2, r2, k2⟩ := par r n
    exact h G' H' F2 .non AS.emp s r2 ⟨⟨_, rfl, rfl⟩, fun _ z => z⟩ dis_emp (g.sub fun b z => z.elim (k2 b) fun z => z.elim)
  | rt d e =>
    intro G' H' F' σ' v Fv s r n rv dj g
    obtain ⟨F2, r2, k2⟩ := par r n
    exact h G' H' F2 v Fv s r2 rv (dj.sub k2 fun _ z => z) (g.sub fun b z => z.imp (k2 b) id)
  | ex c w e =>
    intro cls dd σ' G' H' F' s r n x g
    obtain ⟨F2, r2, k2⟩ := par r n
    exact h cls dd G' H' F2 s r2 x (g.sub k2)
  | bk e => exact h.elim
  | ct e => exact h.elim
  | no => exact h.elim
/-- a def's text beside its form -/
def okFn (S : Sg) (g : Fn) (st : Stmt) : Bool :=
  decide ((defScope st).kind = .function) && decide ((defScope st).isCoroutine = false) && decide ((defScope st).isGenerator = false) && decide S.N.Nodup && decide (S.N.length = g.ns) && decide (g.np ≤ g.ns) && decide (g.stab.length = g.np) &&
    ((S.N.take g.np).all fun x => decide ((defScope st).names.lookup x = some .local) || decide ((defScope st).names.lookup x = some .cell)) && ((defScope st).names.all fun y => decide (y.2 ≠ .free)) && okSs S (free g.stab g.ns) g.body (defBody st)
/-- the signature of the i-th def -/
structure Pr where
  F : List Fn
  N : List (List Str)
  st : List Stmt
  bl : List Str
  gl : List (Str × Tw.D)
  er : List Str
  sb : List (Nat × Nat × Bool) := []
def Pr.sg (p : Pr) (i : Nat) : Sg := { N := p.N.getD i [], sc := defScope (p.st.getD i (.Pass ⟨0, 0, 0, 0⟩)), bl := p.bl, gl := p.gl, fn := p.F.map (·.name), er := p.er, cc := fun _ => true, sb := p.sb }
/-- what is known of a class that is caught -/
structure Hc (K : PySem.W.Frag) (C : Addr) : Prop where
  ve : PySem.W.kitOne K (.ref C) (.type "ValueError") = some true
  ex : ExcC K C
/-- what the top has written -/
structure Tp (p : Pr) (K : PySem.W.Frag) (mg : Str → Option Value) (cl : Nat → Addr) : Prop where
  bl : ∀ x ∈ p.bl, mg x = none
  gl : ∀ q ∈ p.gl, ∀ d, conEq q.2 d = true → ∃ u v, mg q.1 = some u ∧ RelV v u ∧ ∀ G, RP K G d v
  er : ∀ c x, p.er[c]? = some x → (∃ qn fI, PySem.OwnX.OwnTxt K mg x qn (cl c) fI)
  hc : p.sb = [] ∨ ∀ c x, p.er[c]? = some x → Hc K (cl c)
  sb : ∀ q ∈ p.sb, (∃ x, p.er[q.1]? = some x) ∧ PySem.W.exmOne K (.ref (cl q.1)) (.ref (cl q.2.1)) = some q.2.2 ∧ PySem.W.kitOne K (.ref (cl q.1)) (.ref (cl q.2.1)) = some q.2.2
  fn : ∀ i g, p.F[i]? = some g → ∃ f fd, Fun K g.name g.name (p.st.getD i (.Pass ⟨0, 0, 0, 0⟩)) f fd ∧ mg g.name = some (.ref f) ∧ PySem.W.keepIn K (.ref f) = true ∧ Binds K fd ((p.N.getD i []).take g.np) []
theorem fns_ok {p : Pr} {P : Program} {w : World} {K : PySem.W.Frag} {mg : Str → Option Value} {base : Heap} {cl : Nat → Addr} (t : Tp p K mg cl) (ok : ∀ i g, p.F[i]? = some g → okFn (p.sg i) g (p.st.getD i (.Pass ⟨0, 0, 0, 0⟩)) = true) :
    ∀ (lvl i : Nat) (g : Fn) (f : Addr) (fd : FuncData), p.F[i]? = some g → Fun K g.name g.name (p.st.getD i (.Pass ⟨0, 0, 0, 0⟩)) f fd → FnOk P w K mg base (L2.CX P w) lvl f fd ((p.N.getD i []).take g.np) (spF K cl (callF p.F wf lvl i)) := by
  intro lvl
  induction lvl with
  | zero =>
    intro i g f fd hi hf
    refine ⟨fun vs H Q E h => ?_, fun A outer s H args us vs Q E _ _ _ _ h => ?_⟩
    · obtain ⟨ds, G, F, _, _, h⟩ := h; exact h.elim
    · obtain ⟨ds, G, F, _, _, h⟩ := h; exact h.elim
  | succ lvl ih =>
    intro i g f fd hi hf
    have o := ok i g hi
    unfold okFn at o
    simp only [Bool.and_eq_true, decide_eq_true_eq, List.all_eq_true, Bool.or_eq_true] at o
    obtain ⟨⟨⟨⟨⟨⟨⟨⟨⟨o1, o2⟩, o3⟩, o4⟩, o5⟩, o6⟩, o7⟩, o8⟩, o9⟩, o10⟩ := o
    have hN : (p.sg i).N = p.N.getD i [] := rfl
    rw [hN] at o4 o5 o8
    have hlen : ((p.N.getD i []).take g.np).length = g.np := by rw [List.length_take, o5]; omega
    have sc : FnScope (p.N.getD i []) ((p.N.getD i []).take g.np) (defScope (p.st.getD i (.Pass ⟨0, 0, 0, 0⟩))) := ⟨o1, o2, o3, o4, by rw [hlen], o8, o9⟩
    have e1 : ∀ ds : List Tw.D, callF p.F wf (lvl + 1) i ds = if ds.length = g.np then finish g.np g.stab (exs ⟨callF p.F wf lvl, fun f => (p.F[f]?.map (·.stab)).getD []⟩ wf g.np g.body (ds ++ List.replicate (g.ns - g.np) .hole)) else .no := fun ds => by
      show (match p.F[i]? with | none => _ | some g => _) = _
      rw [hi]
    have core : ∀ {vs H Q E}, spF K cl (callF p.F wf (lvl + 1) i) vs H Q E → vs.length = g.np ∧ ∃ ds G F, Same G H ∧ ROs K G H false ds (vs.map some) F ∧ ds.length = g.np ∧ Post (rD K) K cl (fun c d _ H => E c d H) (vs.map some) G H F (finish g.np g.stab (exs ⟨callF p.F wf lvl, fun f => (p.F[f]?.map (·.stab)).getD []⟩ wf g.np g.body (ds ++ List.replicate (g.ns - g.np) .hole))) Q := by
      rintro vs H Q E ⟨ds, G, F, s, r, h⟩
      rw [e1] at h
      by_cases hd : ds.length = g.np
      · rw [if_pos hd] at h
        refine ⟨?_, ds, G, F, s, r, hd, h⟩
        have := r.len
        rw [List.length_map] at this
        omega
      · rw [if_neg hd] at h; exact h.elim
    refine Fun.okX hf sc (fun vs H Q E h => by rw [hlen]; exact (core h).1) fun cdv A outer s H vs Q E hr h => ?_
    obtain ⟨hv, ds, G, F, sm, r, hd, h⟩ := core h
    let T : Fns := ⟨callF p.F wf lvl, fun f => (p.F[f]?.map (·.stab)).getD []⟩
    let X : Cx := cxOf (L2.CX P w) P w K mg base (p.N.getD i []) g.name (defScope (p.st.getD i (.Pass ⟨0, 0, 0, 0⟩))) f cdv A outer s H E
    have kx : Ks (p.sg i) T cl X (fun c d _ H => E c d H) :=
      { nd := o4, N := rfl, sc := rfl, calm := fun _ => rfl, un := by have := hr.un; show (A.deeper _).units + 65 < cLine; omega, bl := t.bl, gl := t.gl, cc := fun _ _ => rfl,
        fn := fun _ j x hj => by
          have hj2 : (p.F.map (·.name))[j]? = some x := hj
          rw [List.getElem?_map] at hj2
          obtain ⟨gj, hgj, ex⟩ := Option.map_eq_some_iff.mp hj2
          subst ex
          obtain ⟨fj, fdj, q1, q2, q3, q4⟩ := t.fn j gj hgj
          exact ⟨lvl, fj, fdj, _, hr, q2, q3, q4, ih j gj fj fdj hgj q1⟩
        tk := takes_of rfl rfl rfl rfl, po := passes_of rfl,
        er := fun c x hx => by
          obtain ⟨qn, fI, q⟩ := t.er c x hx
          exact ⟨qn, fI, _, q, hr⟩,
        hk := { hc := fun ne c x hx => by
                  rcases t.hc with z | z
                  · exact absurd z ne
                  · obtain ⟨qn, fI, q⟩ := t.er c x hx
                    exact ⟨⟨q.ga, q.gg, q.exC, q.hdC⟩, q.noN, (z c x hx).ex, q.gC, (z c x hx).ve⟩,
                hs := fun c j b h => t.sb (c, j, b) h },
        sk := rfl, fr := rfl }
    have hst : L2.start (p.N.getD i []) vs = vs.map some ++ List.replicate (g.ns - g.np) none := by
      unfold L2.start
      rw [o5, hv]
    refine ⟨_, sSs (vs := free g.stab g.ns) (σ0 := L2.start (p.N.getD i []) vs) (wf := wf) (np := g.np) g.body kx o10, G, ds ++ List.replicate (g.ns - g.np) .hole, F, sm, ?_, Agr.refl _ _, ?_⟩
    · rw [hst]
      exact r.loose.more (ROs.holes (by rw [List.length_replicate]))
    · refine fn_end hv o7 o6 (fun r' hl => ?_) (fun j hj => ?_) h
      · rw [← r'.len, hl, hst, List.length_append, List.length_map, List.length_replicate, hv]; omega
      · rw [hst, List.getElem?_append_left (by rw [List.length_map, hv]; exact hj)]
end
end Tw

set_option Elab.async false
set_option linter.all false
set_option maxRecDepth 100000
set_option maxHeartbeats 4000000
/-! Tw23: the law's end. -/
namespace Tw
open PySem L2
open Classical (propDecidable)
def spL (K : PySem.W.Frag) : Sp := fun vs H Q _ => ∃ (a : Addr) (ns : List Int), vs = [.ref a] ∧ SqL K H a (ns.map V.int) ∧ ns.length ≤ 63 ∧ ∀ H', Q (.bl true) H'
theorem law_ok {p : Pr} {P : Program} {w : World} {K : PySem.W.Frag} {mg : Str → Option Value} {base : Heap} {cl : Nat → Addr} {x : Str} {wf lvl i : Nat} {g : Fn} {f : Addr} {fd : FuncData} (t : Tp p K mg cl)
    (ok : ∀ i g, p.F[i]? = some g → okFn (p.sg i) g (p.st.getD i (.Pass ⟨0, 0, 0, 0⟩)) = true) (hi : p.F[i]? = some g) (hf : Fun K g.name g.name (p.st.getD i (.Pass ⟨0, 0, 0, 0⟩)) f fd) (hp : (p.N.getD i []).take g.np = [x])
    (pure : ∀ ns : List Int, ns.length ≤ 63 → ∃ e, callF p.F wf lvl i [.scr ns] = .ok (.bl true) e) : FnOk P w K mg base (L2.CX P w) lvl f fd [x] (spL K) := by
  have h := fns_ok (P := P) (w := w) (base := base) (wf := wf) t ok lvl i g f fd hi hf
  rw [hp] at h
  refine h.imp fun vs H Q E q => ?_
  obtain ⟨a, ns, rfl, hS, hl, hq⟩ := q
  obtain ⟨e, he⟩ := pure ns hl
  refine ⟨[.scr ns], H, AS.emp, Same.refl _, ?_, ?_⟩
  · exact RPs.ros ⟨.ref a, [], rfl, ⟨a, rfl, hS⟩, rfl⟩
  · rw [he]
    intro G' H' F' v Fv _ _ rv _ _
    obtain ⟨ev, _⟩ := RO.bl_ rv
    subst ev
    exact hq _
theorem law_walk {l : PySem.W.OpenLaw} {q : Program} {loose : List Str} {XP : (Str → Option Value) → Heap → Prop} {YP : World → Heap → Prop} {d : DefRec} {K : Params → PySem.W.Frag} {x : Str} {lvl : Nat} (hn : l.most = some 63) (hdf : d.params.defaults = []) (hr : Room lvl callerA)
    (hY : ∀ (w : World) (h : Heap), YP w h → (K w.params).In h)
    (F : ∀ (w : World) (mg : Str → Option Value) (fa : Addr) (h : Heap), (K w.params).In h → h.Ns mainGlobals mg → mg d.name = some (.ref fa) →
      ∃ fd : FuncData, (∀ (s : Shared) (u : Value), BindsTo s fd ⟨[u], []⟩ [(x, u)]) ∧ ∀ base : Heap, (K w.params).In base → base.Ns mainGlobals mg → FnOk l.prog w (K w.params) mg base (L2.CX l.prog w) lvl fa fd [x] (spL (K w.params))) :
    PySem.W.WalkO q loose XP YP l.row.toRowW d [] (fun f vs => PySem.call f vs) :=
  L2.walk_of (n := 63) (k := lvl) (x := x) (CX := fun w => L2.CX l.prog w) (sp := fun w => spL (K w.params)) hn (by decide) hdf hr hY F (fun _ _ a ns hl _ hS => ⟨a, ns, rfl, hS, hl, fun _ => rfl⟩) fun _ _ _ _ _ z => by
    obtain ⟨_, _, _, _, _, _, _, _, _, _, _, _, z⟩ := z
    exact z.elim
/-- lists told item by item -/
theorem all_n {α : Type} {P : α → Prop} : ∀ x ∈ ([] : List α), P x := fun x h => by cases h
theorem all_c {α : Type} {P : α → Prop} {a : α} {l : List α} (h : P a) (t : ∀ x ∈ l, P x) : ∀ x ∈ a :: l, P x := fun x hx => by
  rcases List.mem_cons.mp hx with z | z
  · rw [z]; exact h
  · exact t x z
theorem ix_n {α : Type} {P : Nat → α → Prop} : ∀ i x, ([] : List α)[i]? = some x → P i x := fun i x h => by cases h
theorem ix_c {α : Type} {P : Nat → α → Prop} {a : α} {l : List α} (h : P 0 a) (t : ∀ i x, l[i]? = some x → P (i + 1) x) : ∀ i x, (a :: l)[i]? = some x → P i x := fun i x hx => by
  cases i with
  | zero =>
    have : a = x := by simpa using hx
    rw [← this]; exact h
  | succ i => exact t i x (by simpa using hx)
theorem gl_int {mg : Str → Option Value} {K : PySem.W.Frag} {x : Str} {i : Int} {t : Tok} (h : mg x = some (.int i t)) : ∀ d, conEq (.int i) d = true → ∃ u v, mg x = some u ∧ RelV v u ∧ ∀ G, RP K G d v := by
  intro d hd
  cases d with
  | int j =>
    have : i = j := by simpa [conEq] using hd
    subst this
    exact ⟨_, .int i, h, ⟨_, rfl⟩, fun _ => rfl⟩
  | _ => cases hd
theorem gl_str {mg : Str → Option Value} {K : PySem.W.Frag} {x y : Str} {t : Tok} (h : mg x = some (.str y t)) : ∀ d, conEq (.str y) d = true → ∃ u v, mg x = some u ∧ RelV v u ∧ ∀ G, RP K G d v := by
  intro d hd
  cases d with
  | str j =>
    have : y = j := by simpa [conEq] using hd
    subst this
    exact ⟨_, .str y, h, ⟨_, rfl⟩, fun _ => rfl⟩
  | _ => cases hd
/-- the classes' addresses -/
def clOf (l : List Addr) (i : Nat) : Addr := l.getD i 0
end Tw
namespace Tw
open PySem L2
/-- an error of the class at S is what «except S» names (as in the worked proof 42) -/
theorem exm_self {K : PySem.W.Frag} {S : Addr} (h1 : PySem.W.subIn K (.ref S) (.type "BaseException") = some true) (h2 : PySem.W.isClsIn K S = true) (h3 : PySem.W.typeIn K (.ref S) = some (.type "type")) (h4 : PySem.W.subIn K (.ref S) (.ref S) = some true) :
    PySem.W.exmOne K (.ref S) (.ref S) = some true := by
  have e1 : (PySem.W.subIn K (.ref S) (.type "BaseException") == some true) = true := by rw [h1] <;> rfl
  have e2 : ((PySem.W.clsIn K S).isSome && PySem.W.typeIn K (.ref S) == some (.type "type")) = true := by
    have h2' : (PySem.W.clsIn K S).isSome = true := h2
    rw [h2', h3] <;> rfl
  show (if (PySem.W.subIn K (.ref S) (.type "BaseException") == some true) = true then (if ((PySem.W.clsIn K S).isSome && PySem.W.typeIn K (.ref S) == some (.type "type")) = true then PySem.W.subIn K (.ref S) (.ref S) else none) else none) = some true
  rw [if_pos e1, if_pos e2]
  exact h4
end Tw

set_option Elab.async false
set_option linter.all false
set_option maxRecDepth 100000
set_option maxHeartbeats 4000000
/-! Tw24: the language reckoned by rewriting: equations that go on only where a datum's form is known. -/
namespace Tw
/-! ### readings by the form -/
def rdF' (i : Nat) (d : D) (e : Env) : R D := match d with
  | .hole => .no
  | .lst true xs => .ok (.lst false (frz.frzs xs)) (e.set i (.lst false (frz.frzs xs)))
  | d => .ok d e
def rdS' (i : Nat) (d : D) (e : Env) : R D := match d with
  | .hole => .no
  | .lst true xs => if xs.all pers then .ok (.lst false xs) e else .ok (.lst false (frz.frzs xs)) (e.set i (.lst false (frz.frzs xs)))
  | d => .ok d e
def pre' (d : D) (e : Env) : R D := match d with
  | .hole => .no
  | _ => .ok .hole e
def full' (d : D) (r : R D) : R D := match d with
  | .hole => .no
  | _ => r
def evP' (d : D) (r : R (List D)) : R (List D) := match d with
  | .hole => .no
  | _ => r
def asI (d : D) (f : Int → R D) : R D := match d with
  | .int k => f k
  | _ => .no
def asL (o : Option D) (f : D → R D) : R D := match o with
  | some d => f d
  | none => .no
def atD' (d k : D) (e : Env) : R D := match d with
  | .lst true xs => asI k fun k => asL (L2.atI xs k) fun d => if pers d then .ok d e else .no
  | d => R.of (sem2 .ix d k) e
def vwL (p : P2) (b : Option D) (d : D) (e : Env) : R D := match d with
  | .lst true ys => if ys.all pers then R.of (sem2 p (.lst false ys) (b.getD (.lst false []))) e else .no
  | d => if pers d then R.of (sem2 p d (b.getD (.lst false []))) e else .no
def vwD' (p : P2) (d k : D) (b : Option D) (e : Env) : R D := match d with
  | .lst true xs => asI k fun k => asL (L2.atI xs k) fun d => vwL p b d e
  | _ => .no
def andD (d : D) (x : R D) (e : Env) : R D := match d with
  | .bl true => x
  | .bl false => .ok (.bl false) e
  | _ => .no
def orD (d : D) (x : R D) (e : Env) : R D := match d with
  | .bl true => .ok (.bl true) e
  | .bl false => x
  | _ => .no
def notD (d : D) (e : Env) : R D := match d with
  | .bl b => .ok (.bl (!b)) e
  | _ => .no
def ifD {α : Type} (d : D) (x y : R α) : R α := match d with
  | .bl true => x
  | .bl false => y
  | _ => .no
def ifO (d : D) (x y : O) : O := match d with
  | .bl true => x
  | .bl false => y
  | _ => .no
def chD (o : Option D) (x : R D) (e : Env) : R D := match o with
  | some (.bl true) => x
  | some (.bl false) => .ok (.bl false) e
  | _ => .no
section
variable {T : Fns} {e e1 : Env} {d d' : D} {a b c : IE} {f : Env → R D} {i : Nat} {xs ys : List D} {p : P1} {q : P2} {m k : Int}
@[simp] theorem rdF_eq : rdF i e = rdF' i (gt e i) e := (rfl)
@[simp] theorem rdS_eq : rdS i e = rdS' i (gt e i) e := (rfl)
@[simp] theorem gt_eq : gt e i = (e[i]?).getD .hole := (rfl)
section
@[simp] theorem rdF_int : rdF' i (.int k) e = .ok (.int k) e := (rfl)
@[simp] theorem rdF_bl {z : Bool} : rdF' i (.bl z) e = .ok (.bl z) e := (rfl)
@[simp] theorem rdF_non : rdF' i .non e = .ok .non e := (rfl)
@[simp] theorem rdF_str {x : PySem.Str} : rdF' i (.str x) e = .ok (.str x) e := (rfl)
@[simp] theorem rdF_tup : rdF' i (.tup xs) e = .ok (.tup xs) e := (rfl)
@[simp] theorem rdF_lf : rdF' i (.lst false xs) e = .ok (.lst false xs) e := (rfl)
@[simp] theorem rdF_lt : rdF' i (.lst true xs) e = .ok (.lst false (frz.frzs xs)) (e.set i (.lst false (frz.frzs xs))) := (rfl)
@[simp] theorem rdF_rng : rdF' i (.rng m k) e = .ok (.rng m k) e := (rfl)
@[simp] theorem rdS_int : rdS' i (.int k) e = .ok (.int k) e := (rfl)
@[simp] theorem rdS_bl {z : Bool} : rdS' i (.bl z) e = .ok (.bl z) e := (rfl)
@[simp] theorem rdS_non : rdS' i .non e = .ok .non e := (rfl)
@[simp] theorem rdS_str {x : PySem.Str} : rdS' i (.str x) e = .ok (.str x) e := (rfl)
@[simp] theorem rdS_tup : rdS' i (.tup xs) e = .ok (.tup xs) e := (rfl)
@[simp] theorem rdS_scr {ns : List Int} : rdS' i (.scr ns) e = .ok (.scr ns) e := (rfl)
@[simp] theorem rdS_lf : rdS' i (.lst false xs) e = .ok (.lst false xs) e := (rfl)
@[simp] theorem rdS_lt : rdS' i (.lst true xs) e = if xs.all pers then .ok (.lst false xs) e else .ok (.lst false (frz.frzs xs)) (e.set i (.lst false (frz.frzs xs))) := (rfl)
@[simp] theorem rdS_rng : rdS' i (.rng m k) e = .ok (.rng m k) e := (rfl)
@[simp] theorem pre_int : pre' (.int k) e = .ok .hole e := (rfl)
@[simp] theorem pre_bl {z : Bool} : pre' (.bl z) e = .ok .hole e := (rfl)
@[simp] theorem pre_non : pre' .non e = .ok .hole e := (rfl)
@[simp] theorem pre_str {x : PySem.Str} : pre' (.str x) e = .ok .hole e := (rfl)
@[simp] theorem pre_tup : pre' (.tup xs) e = .ok .hole e := (rfl)
@[simp] theorem pre_lst {z : Bool} : pre' (.lst z xs) e = .ok .hole e := (rfl)
@[simp] theorem pre_scr {ns : List Int} : pre' (.scr ns) e = .ok .hole e := (rfl)
@[simp] theorem pre_rng : pre' (.rng m k) e = .ok .hole e := (rfl)
@[simp] theorem full_lst {z : Bool} {r : R D} : full' (.lst z xs) r = r := (rfl)
@[simp] theorem full_tup {r : R D} : full' (.tup xs) r = r := (rfl)
@[simp] theorem evP_lst {z : Bool} {r : R (List D)} : evP' (.lst z xs) r = r := (rfl)
end
@[simp] theorem pre_slot : pre (.slot i) f e = pre' (gt e i) e := (rfl)
theorem pre_ns (h : a.isSlot = none) : pre a f e = f e := pre_of h
@[simp] theorem pre_con : pre (.con d) f e = f e := (rfl)
@[simp] theorem pre_glob {x : PySem.Str} : pre (.glob x d) f e = f e := (rfl)
@[simp] theorem pre_p1 : pre (.p1 p a) f e = f e := (rfl)
@[simp] theorem pre_p2 : pre (.p2 q a b) f e = f e := (rfl)
@[simp] theorem pre_sl : pre (.sl a b c) f e = f e := (rfl)
@[simp] theorem pre_rev : pre (.rev a) f e = f e := (rfl)
@[simp] theorem pre_tupl {es : IEs} : pre (.tup es) f e = f e := (rfl)
@[simp] theorem pre_lstl {es : IEs} : pre (.lst es) f e = f e := (rfl)
@[simp] theorem pre_ife : pre (.ife a b c) f e = f e := (rfl)
@[simp] theorem pre_and : pre (.and a b) f e = f e := (rfl)
@[simp] theorem pre_or : pre (.or a b) f e = f e := (rfl)
@[simp] theorem pre_not : pre (.not a) f e = f e := (rfl)
@[simp] theorem pre_one : pre (.one a) f e = f e := (rfl)
@[simp] theorem pre_call {es : IEs} : pre (.call i es) f e = f e := (rfl)
@[simp] theorem pre_comp {own : List (PySem.Str × Nat)} {tg : Tg} {it : It} {cs : IEs} : pre (.comp own tg it cs a) f e = f e := (rfl)
@[simp] theorem pre_rgl {z : Bool} {es : IEs} : pre (.rgl z es) f e = f e := (rfl)
@[simp] theorem pre_rngv {es : IEs} : pre (.rngv es) f e = f e := (rfl)
@[simp] theorem pre_at : pre (.at i a) f e = f e := (rfl)
@[simp] theorem pre_pop {es : IEs} : pre (.pop i es) f e = f e := (rfl)
@[simp] theorem pre_popAt {es : IEs} : pre (.popAt i es a) f e = f e := (rfl)
@[simp] theorem fin_slot : fin (.slot i) d e = rdS i e := (rfl)
@[simp] theorem fin_con : fin (.con d') d e = .ok (frz d) e := (rfl)
@[simp] theorem fin_glob {x : PySem.Str} : fin (.glob x d') d e = .ok (frz d) e := (rfl)
@[simp] theorem fin_p1 : fin (.p1 p a) d e = .ok (frz d) e := (rfl)
@[simp] theorem fin_p2 : fin (.p2 q a b) d e = .ok (frz d) e := (rfl)
@[simp] theorem fin_sl : fin (.sl a b c) d e = .ok (frz d) e := (rfl)
@[simp] theorem fin_rev : fin (.rev a) d e = .ok (frz d) e := (rfl)
@[simp] theorem fin_tupl {es : IEs} : fin (.tup es) d e = .ok (frz d) e := (rfl)
@[simp] theorem fin_lstl {es : IEs} : fin (.lst es) d e = .ok (frz d) e := (rfl)
@[simp] theorem fin_ife : fin (.ife a b c) d e = .ok (frz d) e := (rfl)
@[simp] theorem fin_and : fin (.and a b) d e = .ok (frz d) e := (rfl)
@[simp] theorem fin_or : fin (.or a b) d e = .ok (frz d) e := (rfl)
@[simp] theorem fin_not : fin (.not a) d e = .ok (frz d) e := (rfl)
@[simp] theorem fin_one : fin (.one a) d e = .ok (frz d) e := (rfl)
@[simp] theorem fin_call {es : IEs} : fin (.call i es) d e = .ok (frz d) e := (rfl)
@[simp] theorem fin_comp {own : List (PySem.Str × Nat)} {tg : Tg} {it : It} {cs : IEs} : fin (.comp own tg it cs a) d e = .ok (frz d) e := (rfl)
@[simp] theorem fin_rgl {z : Bool} {es : IEs} : fin (.rgl z es) d e = .ok (frz d) e := (rfl)
@[simp] theorem fin_rngv {es : IEs} : fin (.rngv es) d e = .ok (frz d) e := (rfl)
@[simp] theorem fin_at : fin (.at i a) d e = .ok (frz d) e := (rfl)
@[simp] theorem fin_pop {es : IEs} : fin (.pop i es) d e = .ok (frz d) e := (rfl)
@[simp] theorem fin_popAt {es : IEs} : fin (.popAt i es a) d e = .ok (frz d) e := (rfl)
@[simp] theorem frz_int : frz (.int k) = .int k := by unfold frz; rfl
@[simp] theorem frz_bl {z : Bool} : frz (.bl z) = .bl z := by unfold frz; rfl
@[simp] theorem frz_non : frz .non = .non := by unfold frz; rfl
@[simp] theorem frz_str {x : PySem.Str} : frz (.str x) = .str x := by unfold frz; rfl
@[simp] theorem frz_tup : frz (.tup xs) = .tup xs := by unfold frz; rfl
@[simp] theorem frz_lf : frz (.lst false xs) = .lst false xs := by unfold frz; rfl
@[simp] theorem frz_lt : frz (.lst true xs) = .lst false (frz.frzs xs) := by unfold frz; rfl
@[simp] theorem frz_rng : frz (.rng m k) = .rng m k := by unfold frz; rfl
theorem frzs_pers : ∀ {xs : List D}, xs.all pers = true → frz.frzs xs = xs
  | [], _ => by unfold frz.frzs; rfl
  | x :: xs, h => by
    rw [List.all_cons, Bool.and_eq_true] at h
    unfold frz.frzs
    rw [frz_pers h.1, frzs_pers h.2]
@[simp] theorem pers_int : pers (.int k) = true := (rfl)
@[simp] theorem pers_bl {z : Bool} : pers (.bl z) = true := (rfl)
@[simp] theorem pers_non : pers .non = true := (rfl)
@[simp] theorem pers_str {x : PySem.Str} : pers (.str x) = true := (rfl)
@[simp] theorem pers_tup : pers (.tup xs) = true := (rfl)
@[simp] theorem pers_lf : pers (.lst false xs) = true := (rfl)
@[simp] theorem pers_lt : pers (.lst true xs) = false := (rfl)
theorem ints_pers {ns : List Int} : (ns.map D.int).all pers = true := by rw [List.all_map]; exact List.all_eq_true.mpr fun _ _ => rfl
/-! ### the equations of the expressions -/
@[simp] theorem ev_slot : ev T (.slot i) e = rdF i e := (rfl)
@[simp] theorem ev_con : ev T (.con d) e = .ok d e := (rfl)
@[simp] theorem ev_glob {x : PySem.Str} : ev T (.glob x d) e = .ok d e := (rfl)
@[simp] theorem ev_p1 : ev T (.p1 p a) e = (pre a (ev T a) e).bind fun d e1 => (fin a d e1).bind fun d e2 => R.of (sem1 p d) e2 := (rfl)
@[simp] theorem ev_p2 : ev T (.p2 q a b) e = (pre a (ev T a) e).bind fun d e1 => (pre b (ev T b) e1).bind fun d' e2 => (fin a d e2).bind fun d e3 => (fin b d' e3).bind fun d' e4 => R.of (sem2 q d d') e4 := (rfl)
@[simp] theorem ev_sl : ev T (.sl a b c) e = (pre a (ev T a) e).bind fun d e1 => (ev T b e1).bind fun l e2 => partR l e2 fun l e2 => (ev T c e2).bind fun h e3 => partR h e3 fun h e3 => (fin a d e3).bind fun d e4 => R.of (semSl d l h) e4 := (rfl)
@[simp] theorem ev_rev : ev T (.rev a) e = (pre a (ev T a) e).bind fun d e1 => (fin a d e1).bind fun d e2 => R.of (semRev d) e2 := (rfl)
@[simp] theorem ev_tup {es : IEs} : ev T (.tup es) e = (evs T es e).bind fun ds e1 => .ok (.tup (ds.map frz)) e1 := (rfl)
@[simp] theorem ev_lst {es : IEs} : ev T (.lst es) e = (evs T es e).bind fun ds e1 => .ok (.lst true ds) e1 := (rfl)
@[simp] theorem ev_one : ev T (.one a) e = ev T a e := (rfl)
@[simp] theorem ev_and : ev T (.and a b) e = (ev T a e).bind fun d e1 => andD d (ev T b e1) e1 := (rfl)
@[simp] theorem ev_or : ev T (.or a b) e = (ev T a e).bind fun d e1 => orD d (ev T b e1) e1 := (rfl)
@[simp] theorem ev_not : ev T (.not a) e = (ev T a e).bind fun d e1 => notD d e1 := (rfl)
@[simp] theorem ev_ife : ev T (.ife c a b) e = (ev T c e).bind fun d e1 => ifD d (ev T a e1) (ev T b e1) := (rfl)
@[simp] theorem ev_chain {q' : P2} : ev T (.chain q q' a b c) e = (ev T a e).bind fun d e1 => (ev T b e1).bind fun d' e2 => chD (sem2 q (frz d) (frz d')) ((ev T c e2).bind fun d'' e3 => R.of (sem2 q' (frz d') (frz d'')) e3) e2 := (rfl)
@[simp] theorem ev_rgl {z : Bool} {es : IEs} : ev T (.rgl z es) e = (evs T es e).bind fun ds e1 => R.of (semRg z ds) e1 := (rfl)
@[simp] theorem ev_rngv {es : IEs} : ev T (.rngv es) e = (evs T es e).bind fun ds e1 => R.of (semRv ds) e1 := (rfl)
@[simp] theorem ev_at : ev T (.at i a) e = full' (gt e i) ((ev T a e).bind fun k e1 => atD' (gt e1 i) k e1) := (rfl)
theorem vwD_eq {o : Option D} {k : D} : vwD q i k o e = vwD' q (gt e i) k o e := by
  unfold vwD
  cases gt e i with
  | lst z xs => cases z with
    | true => cases k with
      | int k =>
        show _ = asL (L2.atI xs k) fun d => vwL q o d e
        simp only []
        cases L2.atI xs k with
        | none => rfl
        | some d => cases d with
          | lst z ys => cases z <;> rfl
          | _ => rfl
      | _ => rfl
    | false => rfl
  | _ => rfl
@[simp] theorem ev_vw {o : Option D} : ev T (.vw q i a o) e = full' (gt e i) ((ev T a e).bind fun k e1 => vwD' q (gt e1 i) k o e1) := by
  show full i e ((ev T a e).bind fun k e1 => vwD q i k o e1) = _
  have : (fun k e1 => vwD q i k o e1) = fun k e1 => vwD' q (gt e1 i) k o e1 := funext fun k => funext fun e1 => vwD_eq
  rw [this]; rfl
@[simp] theorem evs_nil : evs T .nil e = .ok [] e := (rfl)
@[simp] theorem evs_cons {es : IEs} : evs T (.cons a es) e = (ev T a e).bind fun d e1 => (evs T es e1).bind fun ds e2 => .ok (d :: ds) e2 := (rfl)
@[simp] theorem evA_nil : evA T .nil e = .ok [] e := (rfl)
@[simp] theorem evA_cons {es : IEs} : evA T (.cons a es) e = (pre a (ev T a) e).bind fun d e1 => (evA T es e1).bind fun ds e2 => .ok (frz d :: ds) e2 := (rfl)
@[simp] theorem evC_nil : evC T .nil e = .ok (.bl true) e := (rfl)
@[simp] theorem evC_cons {es : IEs} : evC T (.cons a es) e = ev T a e := (rfl)
@[simp] theorem evIt_seq : evIt T (.seq a) e = (ev T a e).bind fun d e1 => R.of (walkD (frz d)) e1 := (rfl)
@[simp] theorem evIt_rng {es : IEs} : evIt T (.rng es) e = (evs T es e).bind fun ds e1 => R.of (itRng ds) e1 := (rfl)
@[simp] theorem evP_eq {i : Nat} {f : Env → R (List D)} : evP i f e = evP' (gt e i) (f e) := (rfl)
/-! ### truth -/
@[simp] theorem andD_bl {z : Bool} {x : R D} : andD (.bl z) x e = if z = true then x else .ok (.bl false) e := by cases z <;> rfl
@[simp] theorem orD_bl {z : Bool} {x : R D} : orD (.bl z) x e = if z = true then .ok (.bl true) e else x := by cases z <;> rfl
@[simp] theorem notD_bl {z : Bool} : notD (.bl z) e = .ok (.bl (!z)) e := (rfl)
@[simp] theorem ifD_bl {α : Type} {z : Bool} {x y : R α} : ifD (.bl z) x y = if z = true then x else y := by cases z <;> rfl
@[simp] theorem ifO_bl {z : Bool} {x y : O} : ifO (.bl z) x y = if z = true then x else y := by cases z <;> rfl
@[simp] theorem chD_bl {z : Bool} {x : R D} : chD (some (.bl z)) x e = if z = true then x else .ok (.bl false) e := by cases z <;> rfl
@[simp] theorem asI_int {f : Int → R D} : asI (.int k) f = f k := (rfl)
@[simp] theorem asL_some {f : D → R D} : asL (some d) f = f d := (rfl)
@[simp] theorem atD_lt : atD' (.lst true xs) d e = asI d fun k => asL (L2.atI xs k) fun d => if pers d then .ok d e else .no := (rfl)
@[simp] theorem atD_lf : atD' (.lst false xs) d e = R.of (sem2 .ix (.lst false xs) d) e := (rfl)
@[simp] theorem vwD_lt {o : Option D} : vwD' q (.lst true xs) d o e = asI d fun k => asL (L2.atI xs k) fun d => vwL q o d e := (rfl)
@[simp] theorem vwL_lt {o : Option D} : vwL q o (.lst true ys) e = if ys.all pers then R.of (sem2 q (.lst false ys) (o.getD (.lst false []))) e else .no := (rfl)
/-! ### operations -/
@[simp] theorem s_len_tup : sem1 .len (.tup xs) = some (.int xs.length) := (rfl)
@[simp] theorem s_len_lst {z : Bool} : sem1 .len (.lst z xs) = some (.int xs.length) := (rfl)
@[simp] theorem s_len_scr {ns : List Int} : sem1 .len (.scr ns) = some (.int ns.length) := (rfl)
@[simp] theorem s_tup_tup : sem1 .tuple (.tup xs) = some (.tup xs) := (rfl)
@[simp] theorem s_tup_lst {z : Bool} : sem1 .tuple (.lst z xs) = some (.tup xs) := (rfl)
@[simp] theorem s_list_tup : sem1 .list (.tup xs) = some (.lst true xs) := (rfl)
@[simp] theorem s_list_lst {z : Bool} : sem1 .list (.lst z xs) = some (.lst true xs) := (rfl)
@[simp] theorem s_int : sem1 .int (.int k) = some (.int k) := (rfl)
@[simp] theorem s_intb {z : Bool} : sem1 .int (.bl z) = some (.int (if z then 1 else 0)) := (rfl)
@[simp] theorem s_neg : sem1 .neg (.int k) = some (.int (-k)) := (rfl)
@[simp] theorem s_isn_int : sem1 .isN (.int k) = some (.bl false) := (rfl)
@[simp] theorem s_isn_non : sem1 .isN .non = some (.bl true) := (rfl)
@[simp] theorem s_isn_tup : sem1 .isN (.tup xs) = some (.bl false) := (rfl)
@[simp] theorem s_non_int : sem1 .notN (.int k) = some (.bl true) := (rfl)
@[simp] theorem s_non_non : sem1 .notN .non = some (.bl false) := (rfl)
@[simp] theorem s_non_tup : sem1 .notN (.tup xs) = some (.bl true) := (rfl)
@[simp] theorem s_ty_int {t : Ty} : sem1 (.isTy t) (.int k) = some (.bl (isTy t (.int k))) := (rfl)
@[simp] theorem s_ty_bl {t : Ty} {z : Bool} : sem1 (.isTy t) (.bl z) = some (.bl (isTy t (.bl z))) := (rfl)
@[simp] theorem s_ty_non {t : Ty} : sem1 (.isTy t) .non = some (.bl (isTy t .non)) := (rfl)
@[simp] theorem s_ty_str {t : Ty} {x : PySem.Str} : sem1 (.isTy t) (.str x) = some (.bl (isTy t (.str x))) := (rfl)
@[simp] theorem s_ty_tup {t : Ty} : sem1 (.isTy t) (.tup xs) = some (.bl (isTy t (.tup xs))) := (rfl)
@[simp] theorem s_ty_lst {t : Ty} {z : Bool} : sem1 (.isTy t) (.lst z xs) = some (.bl (isTy t (.lst z xs))) := (rfl)
@[simp] theorem ty_ii : isTy .int (.int k) = true := (rfl)
@[simp] theorem ty_ib {z : Bool} : isTy .int (.bl z) = true := (rfl)
@[simp] theorem ty_it : isTy .int (.tup xs) = false := (rfl)
@[simp] theorem ty_bi : isTy .bool (.int k) = false := (rfl)
@[simp] theorem ty_bb {z : Bool} : isTy .bool (.bl z) = true := (rfl)
@[simp] theorem ty_tt : isTy .tuple (.tup xs) = true := (rfl)
@[simp] theorem ty_ti : isTy .tuple (.int k) = false := (rfl)
@[simp] theorem ty_tl {z : Bool} : isTy .tuple (.lst z xs) = false := (rfl)
@[simp] theorem o_add : sem2 .add (.int m) (.int k) = some (.int (m + k)) := (rfl)
@[simp] theorem o_addT : sem2 .add (.tup xs) (.tup ys) = if xs.length + ys.length < PySem.sizeLine then some (.tup (xs ++ ys)) else none := (rfl)
@[simp] theorem o_addL {z w : Bool} : sem2 .add (.lst z xs) (.lst w ys) = if xs.length + ys.length < PySem.sizeLine then some (.lst true (xs ++ ys)) else none := (rfl)
@[simp] theorem o_sub : sem2 .sub (.int m) (.int k) = some (.int (m - k)) := (rfl)
@[simp] theorem o_mul : sem2 .mul (.int m) (.int k) = if mulOk m k then some (.int (m * k)) else none := (rfl)
@[simp] theorem o_mulL {z : Bool} : sem2 .mul (.lst z xs) (.int k) = if decide (-(2 ^ 60) < k) && decide (k < 2 ^ 60) && decide (xs.length * k.toNat < PySem.sizeLine) then some (.lst true (repD xs k)) else none := (rfl)
@[simp] theorem o_fdiv : sem2 .fdiv (.int m) (.int k) = if decide (0 < k) && decide (k < 1073741824) then some (.int (m / k)) else none := (rfl)
@[simp] theorem o_mod : sem2 .mod (.int m) (.int k) = if 0 < k then some (.int (m % k)) else none := (rfl)
@[simp] theorem o_pow : sem2 .pow (.int m) (.int k) = if decide (0 ≤ k) && decide (k ≤ 1000) && decide (m.natAbs < 2 ^ 60) then some (.int (powN m k.toNat)) else none := (rfl)
@[simp] theorem o_eqi : sem2 .eq (.int m) (.int k) = some (.bl (m == k)) := (rfl)
@[simp] theorem o_nei : sem2 .ne (.int m) (.int k) = some (.bl (!(m == k))) := (rfl)
@[simp] theorem o_lt : sem2 .lt (.int m) (.int k) = some (.bl (decide (m < k))) := (rfl)
@[simp] theorem o_le : sem2 .le (.int m) (.int k) = some (.bl (decide (m ≤ k))) := (rfl)
@[simp] theorem o_gt : sem2 .gt (.int m) (.int k) = some (.bl (decide (k < m))) := (rfl)
@[simp] theorem o_ge : sem2 .ge (.int m) (.int k) = some (.bl (decide (k ≤ m))) := (rfl)
@[simp] theorem o_ixT : sem2 .ix (.tup xs) (.int k) = L2.atI xs k := (rfl)
@[simp] theorem o_ixL {z : Bool} : sem2 .ix (.lst z xs) (.int k) = L2.atI xs k := (rfl)
@[simp] theorem o_ixS {ns : List Int} : sem2 .ix (.scr ns) (.int k) = (L2.atI ns k).map .int := (rfl)
@[simp] theorem o_min : sem2 .min (.int m) (.int k) = some (.int (if k < m then k else m)) := (rfl)
@[simp] theorem o_max : sem2 .max (.int m) (.int k) = some (.int (if k > m then k else m)) := (rfl)
@[simp] theorem part_hole {g : Option Int → Env → R D} : partR .hole e g = g none e := (rfl)
@[simp] theorem part_int {g : Option Int → Env → R D} : partR (.int k) e g = g (some k) e := (rfl)
@[simp] theorem sl_tup {l h : Option Int} : semSl (.tup xs) l h = some (.tup (cutD xs l h)) := (rfl)
@[simp] theorem sl_lst {z : Bool} {l h : Option Int} : semSl (.lst z xs) l h = some (.lst true (cutD xs l h)) := (rfl)
@[simp] theorem sl_scr {ns : List Int} {l h : Option Int} : semSl (.scr ns) l h = some (.lst true (cutD (ns.map .int) l h)) := (rfl)
@[simp] theorem rev_lst {z : Bool} : semRev (.lst z xs) = some (.lst true xs.reverse) := (rfl)
@[simp] theorem walk_tup : walkD (.tup xs) = some xs := (rfl)
@[simp] theorem walk_lst {z : Bool} : walkD (.lst z xs) = some xs := (rfl)
theorem walk_rng : walkD (.rng m k) = if okRg m k then some (rgD m k) else none := (rfl)
theorem rng_1 : itRng [.int k] = if okRg 0 k then some (rgD 0 k) else none := (rfl)
theorem rng_2 : itRng [.int m, .int k] = if okRg m k then some (rgD m k) else none := (rfl)
theorem rv_1 : semRv [.int k] = if okRg 0 k then some (.rng 0 k) else none := (rfl)
theorem rgl_1 {z : Bool} : semRg z [.int k] = if okRg 0 k then some (if z then .tup (rgD 0 k) else .lst true (rgD 0 k)) else none := (rfl)
/-! ### statements -/
variable {wf np : Nat} {s : IS} {ss ss' : List IS}
@[simp] theorem exs_nil : exs T wf np [] e = .nx e := (rfl)
@[simp] theorem exs_cons : exs T wf np (s :: ss) e = (ex T wf np s e).seq (exs T wf np ss) := (rfl)
@[simp] theorem seq_nx {g : Env → O} : (O.nx e).seq g = g e := (rfl)
@[simp] theorem seq_rt {g : Env → O} : (O.rt d e).seq g = .rt d e := (rfl)
@[simp] theorem seq_bk {g : Env → O} : (O.bk e).seq g = .bk e := (rfl)
@[simp] theorem seq_ct {g : Env → O} : (O.ct e).seq g = .ct e := (rfl)
@[simp] theorem seq_ex {g : Env → O} {w : Nat} : (O.ex w d e).seq g = .ex w d e := (rfl)
@[simp] theorem ex_set : ex T wf np (.set i a) e = O.of (ev T a e) fun d e1 => if i < e1.length then .nx (e1.set i d) else .no := (rfl)
@[simp] theorem ex_par {is : List Nat} {es : IEs} : ex T wf np (.par is es) e = O.of (evs T es e) fun ds e1 => if is.length = ds.length ∧ is.all (· < e1.length) then .nx (asgList (is.zip ds) e1) else .no := (rfl)
def ofO (o : Option Env) : O := match o with
  | some e => .nx e
  | none => .no
@[simp] theorem ofO_some : ofO (some e) = .nx e := (rfl)
@[simp] theorem ex_unp {t : Tg} : ex T wf np (.unp t a) e = O.of (ev T a e) fun d e1 => ofO (asg t (frz d) e1) := (rfl)
@[simp] theorem ex_unpSub {ts : List (Nat × IE)} {es : IEs} : ex T wf np (.unpSub ts es) e = O.of (evs T es e) fun ds e1 => unpGo T ts (ds.map frz) e1 := (rfl)
@[simp] theorem unp_nil : unpGo T [] [] e = .nx e := (rfl)
@[simp] theorem unp_cons {ts : List (Nat × IE)} {ds : List D} : unpGo T ((i, a) :: ts) (d :: ds) e = O.of (setR T i .nil a d e) fun _ e2 => unpGo T ts ds e2 := (rfl)
@[simp] theorem ex_setIx {es : IEs} : ex T wf np (.setIx i es b a) e = O.of (ev T a e) fun d e1 => O.of (setR T i es b (frz d) e1) fun _ e2 => .nx e2 := (rfl)
@[simp] theorem ex_append {es : IEs} : ex T wf np (.append i es a) e = O.of (apR T i es a e) fun _ e1 => .nx e1 := (rfl)
@[simp] theorem ex_extend {es : IEs} : ex T wf np (.extend i es a) e = O.of (exR T i es a e) fun _ e1 => .nx e1 := (rfl)
@[simp] theorem ex_drop : ex T wf np (.drop a) e = O.of (ev T a e) fun _ e1 => .nx e1 := (rfl)
@[simp] theorem ex_ite : ex T wf np (.ite c ss ss') e = O.of (ev T c e) fun d e1 => ifO d (exs T wf np ss e1) (exs T wf np ss' e1) := (rfl)
@[simp] theorem ex_for {t : Tg} {it : It} : ex T wf np (.for_ t it ss) e = O.of (evIt T it e) fun xs e1 => forGo t (exs T wf np ss) xs e1 := (rfl)
@[simp] theorem ex_brk : ex T wf np .brk e = .bk e := (rfl)
@[simp] theorem ex_cont : ex T wf np .cont e = .ct e := (rfl)
@[simp] theorem ex_pass : ex T wf np .pass e = .nx e := (rfl)
@[simp] theorem ex_retN : ex T wf np .retN e = .rt .non e := (rfl)
@[simp] theorem ex_raise {w : Nat} : ex T wf np (.raise w a) e = O.of (ev T a e) fun d e1 => .ex w (frz d) e1 := (rfl)
def retD (i : Nat) (d : D) (e : Env) : O := match d with
  | .hole => .no
  | d => .rt d (e.set i .hole)
@[simp] theorem ex_retS : ex T wf np (.ret (.slot i)) e = if np ≤ i then retD i (gt e i) e else O.of (rdF i e) fun d e1 => .rt d e1 := (rfl)
@[simp] theorem retD_int : retD i (.int k) e = .rt (.int k) (e.set i .hole) := (rfl)
@[simp] theorem retD_bl {z : Bool} : retD i (.bl z) e = .rt (.bl z) (e.set i .hole) := (rfl)
@[simp] theorem retD_non : retD i .non e = .rt .non (e.set i .hole) := (rfl)
@[simp] theorem retD_tup : retD i (.tup xs) e = .rt (.tup xs) (e.set i .hole) := (rfl)
@[simp] theorem retD_lst {z : Bool} : retD i (.lst z xs) e = .rt (.lst z xs) (e.set i .hole) := (rfl)
theorem ex_ret (h : a.isSlot = none) : ex T wf np (.ret a) e = O.of (ev T a e) fun d e1 => .rt d e1 := by cases a <;> first | (cases h; done) | rfl
@[simp] theorem ret_con  : ex T wf np (.ret (.con d)) e = O.of (ev T (.con d) e) fun d e1 => .rt d e1 := (rfl)
@[simp] theorem ret_p1  : ex T wf np (.ret (.p1 p a)) e = O.of (ev T (.p1 p a) e) fun d e1 => .rt d e1 := (rfl)
@[simp] theorem ret_p2  : ex T wf np (.ret (.p2 q a b)) e = O.of (ev T (.p2 q a b) e) fun d e1 => .rt d e1 := (rfl)
@[simp] theorem ret_sl  : ex T wf np (.ret (.sl a b c)) e = O.of (ev T (.sl a b c) e) fun d e1 => .rt d e1 := (rfl)
@[simp] theorem ret_rev  : ex T wf np (.ret (.rev a)) e = O.of (ev T (.rev a) e) fun d e1 => .rt d e1 := (rfl)
@[simp] theorem ret_tupl {es : IEs} : ex T wf np (.ret (.tup es)) e = O.of (ev T (.tup es) e) fun d e1 => .rt d e1 := (rfl)
@[simp] theorem ret_lstl {es : IEs} : ex T wf np (.ret (.lst es)) e = O.of (ev T (.lst es) e) fun d e1 => .rt d e1 := (rfl)
@[simp] theorem ret_ife  : ex T wf np (.ret (.ife a b c)) e = O.of (ev T (.ife a b c) e) fun d e1 => .rt d e1 := (rfl)
@[simp] theorem ret_and  : ex T wf np (.ret (.and a b)) e = O.of (ev T (.and a b) e) fun d e1 => .rt d e1 := (rfl)
@[simp] theorem ret_or  : ex T wf np (.ret (.or a b)) e = O.of (ev T (.or a b) e) fun d e1 => .rt d e1 := (rfl)
@[simp] theorem ret_not  : ex T wf np (.ret (.not a)) e = O.of (ev T (.not a) e) fun d e1 => .rt d e1 := (rfl)
@[simp] theorem ret_chain {q' : P2} : ex T wf np (.ret (.chain q q' a b c)) e = O.of (ev T (.chain q q' a b c) e) fun d e1 => .rt d e1 := (rfl)
@[simp] theorem ret_call {es : IEs} : ex T wf np (.ret (.call i es)) e = O.of (ev T (.call i es) e) fun d e1 => .rt d e1 := (rfl)
@[simp] theorem ret_comp {own : List (PySem.Str × Nat)} {tg : Tg} {it : It} {cs : IEs} : ex T wf np (.ret (.comp own tg it cs a)) e = O.of (ev T (.comp own tg it cs a) e) fun d e1 => .rt d e1 := (rfl)
@[simp] theorem ret_rgl {z : Bool} {es : IEs} : ex T wf np (.ret (.rgl z es)) e = O.of (ev T (.rgl z es) e) fun d e1 => .rt d e1 := (rfl)
@[simp] theorem ret_at  : ex T wf np (.ret (.at i a)) e = O.of (ev T (.at i a) e) fun d e1 => .rt d e1 := (rfl)
@[simp] theorem ret_vw {o : Option D} : ex T wf np (.ret (.vw q i a o)) e = O.of (ev T (.vw q i a o) e) fun d e1 => .rt d e1 := (rfl)
@[simp] theorem ret_pop {es : IEs} : ex T wf np (.ret (.pop i es)) e = O.of (ev T (.pop i es) e) fun d e1 => .rt d e1 := (rfl)
@[simp] theorem ret_popAt {es : IEs} : ex T wf np (.ret (.popAt i es a)) e = O.of (ev T (.popAt i es a) e) fun d e1 => .rt d e1 := (rfl)
@[simp] theorem fin_rt {stab : List Bool} : Tw.finish np stab (.rt d e) = .ok d (Tw.finish.keep np stab e) := (rfl)
@[simp] theorem fin_nx {stab : List Bool} : Tw.finish np stab (.nx e) = .ok .non (Tw.finish.keep np stab e) := (rfl)
@[simp] theorem fin_ex {stab : List Bool} {w : Nat} : Tw.finish np stab (.ex w d e) = .ex w d (Tw.finish.keep np stab e) := (rfl)
@[simp] theorem keep_eq {stab : List Bool} : Tw.finish.keep np stab e = (e.take np).zipWith (fun d b => if b then d else .hole) stab := (rfl)
@[simp] theorem atI_0 {α : Type} {x : α} {l : List α} : L2.atI (x :: l) 0 = some x := by
  unfold L2.atI L2.ixN
  rw [if_pos (by decide), if_pos (by rw [List.length_cons]; omega)]; rfl
@[simp] theorem atI_1 {α : Type} {x y : α} {l : List α} : L2.atI (x :: y :: l) 1 = some y := by
  unfold L2.atI L2.ixN
  rw [if_pos (by decide), if_pos (by simp only [List.length_cons]; omega)]; rfl
@[simp] theorem atI_2 {α : Type} {x y z : α} {l : List α} : L2.atI (x :: y :: z :: l) 2 = some z := by
  unfold L2.atI L2.ixN
  rw [if_pos (by decide), if_pos (by simp only [List.length_cons]; omega)]; rfl
@[simp] theorem ixN_0 {n : Nat} : L2.ixN (n + 1) 0 = some 0 := by
  unfold L2.ixN
  rw [if_pos (by decide), if_pos (by omega)]; rfl
@[simp] theorem ixN_1 {n : Nat} : L2.ixN (n + 2) 1 = some 1 := by
  unfold L2.ixN
  rw [if_pos (by decide), if_pos (by omega)]; rfl
/-- an item by its place -/
theorem atI_nat {α : Type} {l : List α} {j : Nat} : L2.atI l (j : Int) = l[j]? := by
  unfold L2.atI L2.ixN
  rw [if_pos (by omega)]
  by_cases h : (j : Int) < l.length
  · rw [if_pos h]; rfl
  · rw [if_neg h, List.getElem?_eq_none (by omega)]; rfl
theorem ixN_nat {n j : Nat} (h : j < n) : L2.ixN n (j : Int) = some j := by
  unfold L2.ixN
  rw [if_pos (by omega), if_pos (by omega)]; rfl
@[simp] theorem own_lt {i : Nat} {e : Env} {xs : List D} (h : gt e i = .lst true xs) : ownAt i [] e = true := by
  unfold ownAt
  show (onPath _ [] (gt e i)).isSome = true
  rw [h]; rfl
theorem on_0 {i : Nat} {e : Env} {xs : List D} {f : List D → Option (D × List D)} (h : gt e i = .lst true xs) : onSlot f i [] e = match f xs with | some p => .ok p.1 (e.set i (.lst true p.2)) | none => .no := by
  unfold onSlot
  show (match onPath f [] (gt e i) with | some p => _ | none => _) = _
  rw [h]
  show (match (f xs).map (fun p => (p.1, D.lst true p.2)) with | some p => _ | none => _) = _
  cases f xs <;> rfl
/-- x[k] = d, by the values -/
theorem set_at {i : Nat} {e e1 : Env} {xs ys : List D} {a : IE} {d0 : D} {k : Int} {j : Nat} (h : gt e i = .lst true xs) (ha : ev T a e = .ok (.int k) e1) (h1 : gt e1 i = .lst true ys) (hj : L2.ixN ys.length k = some j) : setR T i .nil a d0 e = .ok .non (e1.set i (.lst true (ys.set j d0))) := by
  show (evP i (evs T .nil) e).bind (fun is e1 => if ownAt i is e1 then (ev T a (hide is i e1)).bind (setK i is e1 d0) else .no) = _
  rw [evP_eq, h]
  show (if ownAt i [] e then (ev T a e).bind (setK i [] e d0) else .no) = _
  rw [if_pos (own_lt h), ha]
  show onSlot (fun xs => (L2.ixN xs.length k).map fun j => (.non, xs.set j d0)) i [] e1 = _
  rw [on_0 h1, hj]; rfl
/-- x.append(a) -/
theorem app_at {i : Nat} {e e1 : Env} {xs ys : List D} {a : IE} {d : D} (h : gt e i = .lst true xs) (ha : ev T a e = .ok d e1) (h1 : gt e1 i = .lst true ys) (hl : ys.length < 16000000) : apR T i .nil a e = .ok .non (e1.set i (.lst true (ys ++ [d]))) := by
  show (evP i (evs T .nil) e).bind (fun is e1 => if ownAt i is e1 then (ev T a (hide is i e1)).bind (apK i is e1) else .no) = _
  rw [evP_eq, h]
  show (if ownAt i [] e then (ev T a e).bind (apK i [] e) else .no) = _
  rw [if_pos (own_lt h), ha]
  show onSlot (fun xs => if xs.length < 16000000 then some (.non, xs ++ [d]) else none) i [] e1 = _
  rw [on_0 h1, if_pos hl]
/-- x.pop(k) -/
theorem pop_at {i : Nat} {e e1 : Env} {xs ys : List D} {a : IE} {y : D} {k : Int} {j : Nat} (h : gt e i = .lst true xs) (ha : ev T a e = .ok (.int k) e1) (h1 : gt e1 i = .lst true ys) (hk : smallI k = true) (hj : L2.ixN ys.length k = some j) (hy : ys[j]? = some y) :
    ev T (.popAt i .nil a) e = .ok y (e1.set i (.lst true (ys.eraseIdx j))) := by
  show (evP i (evs T .nil) e).bind (fun is e1 => if ownAt i is e1 then (ev T a (hide is i e1)).bind (popK i is e1) else .no) = _
  rw [evP_eq, h]
  show (if ownAt i [] e then (ev T a e).bind (popK i [] e) else .no) = _
  rw [if_pos (own_lt h), ha]
  show (if smallI k then onSlot (fun xs => (L2.ixN xs.length k).bind fun j => (xs[j]?).map fun y => (y, xs.eraseIdx j)) i [] e1 else .no) = _
  rw [if_pos hk, on_0 h1, hj]
  show (match (ys[j]?).map (fun y => (y, ys.eraseIdx j)) with | some p => _ | none => _) = _
  rw [hy]; rfl
@[simp] theorem asg_nm : asg (.nm i) d e = if i < e.length then some (e.set i d) else none := by
  unfold asg; rfl
@[simp] theorem asgs_nil : asgs [] [] e = some e := by unfold asgs; rfl
@[simp] theorem asgs_cons {t : Tg} {ts : List Tg} {ds : List D} : asgs (t :: ts) (d :: ds) e = (asg t d e).bind fun e' => asgs ts ds e' := by
  rw [asgs]
@[simp] theorem asg_tp {ts : List Tg} : asg (.tp ts) (.tup xs) e = asgs ts xs e := by
  rw [asg]
end
/-! ### calls -/
def goC (T : Fns) (f : Nat) (o : Option (List D × List (Nat × Nat) × Env)) : R D := match o with
  | none => .no
  | some (ds, lent, e2) => callEnd lent e2 (T.cf f ds)
def flS (st : Bool) (i k : Nat) (d : D) (e : Env) (go : Env → Option (List D × List (Nat × Nat) × Env)) : Option (List D × List (Nat × Nat) × Env) := match d with
  | .hole => none
  | .lst true xs => if st then (go (e.set i .hole)).map fun r => (.lst true xs :: r.1, (i, k) :: r.2.1, r.2.2) else (go (e.set i (.lst false (frz.frzs xs)))).map fun r => (.lst false (frz.frzs xs) :: r.1, r.2.1, r.2.2)
  | d' => (go e).map fun r => (d' :: r.1, r.2.1, r.2.2)
section
variable {T : Fns} {e : Env} {d d0 : D} {a b c : IE} {i n : Nat} {p : P1} {q : P2} {m k : Int} {stab : List Bool} {as : IEs} {ds xs : List D} {z : Bool} {go : Env → Option (List D × List (Nat × Nat) × Env)} {lent : List (Nat × Nat)}
@[simp] theorem ev_call : ev T (.call n as) e = (evA T as e).bind fun ds e1 => goC T n (fillA (T.stab n) as ds 0 e1) := (rfl)
@[simp] theorem goC_some : goC T n (some (ds, lent, e)) = callEnd lent e (T.cf n ds) := (rfl)
@[simp] theorem end_ok {ps : Env} : callEnd lent e (.ok d ps) = .ok d (backA ps lent e) := (rfl)
@[simp] theorem end_ex {ps : Env} {w : Nat} : callEnd lent e (.ex w d ps) = .ex w d (backA ps lent e) := (rfl)
@[simp] theorem back_nil {ps : Env} : backA ps [] e = e := (rfl)
@[simp] theorem back_cons {ps : Env} {x y : Nat} : backA ps ((x, y) :: lent) e = backA ps lent (e.set x (gt ps y)) := (rfl)
@[simp] theorem fill_nil : fillA stab .nil [] n e = some ([], [], e) := (rfl)
@[simp] theorem fill_slot : fillA stab (.cons (.slot i) as) (d0 :: ds) n e = flS (stab.getD n false) i n (gt e i) e (fillA stab as ds (n + 1)) := by
  show (match gt e i with | .hole => none | .lst true xs => _ | d' => _) = _
  cases gt e i with
  | lst z xs => cases z <;> rfl
  | _ => rfl
@[simp] theorem fill_con  : fillA stab (.cons (.con d) as) (d0 :: ds) n e = (fillA stab as ds (n + 1) e).map fun r => (d0 :: r.1, r.2.1, r.2.2) := (rfl)
@[simp] theorem fill_glob {x : PySem.Str} : fillA stab (.cons (.glob x d) as) (d0 :: ds) n e = (fillA stab as ds (n + 1) e).map fun r => (d0 :: r.1, r.2.1, r.2.2) := (rfl)
@[simp] theorem fill_p1  : fillA stab (.cons (.p1 p a) as) (d0 :: ds) n e = (fillA stab as ds (n + 1) e).map fun r => (d0 :: r.1, r.2.1, r.2.2) := (rfl)
@[simp] theorem fill_p2  : fillA stab (.cons (.p2 q a b) as) (d0 :: ds) n e = (fillA stab as ds (n + 1) e).map fun r => (d0 :: r.1, r.2.1, r.2.2) := (rfl)
@[simp] theorem fill_sl  : fillA stab (.cons (.sl a b c) as) (d0 :: ds) n e = (fillA stab as ds (n + 1) e).map fun r => (d0 :: r.1, r.2.1, r.2.2) := (rfl)
@[simp] theorem fill_rev  : fillA stab (.cons (.rev a) as) (d0 :: ds) n e = (fillA stab as ds (n + 1) e).map fun r => (d0 :: r.1, r.2.1, r.2.2) := (rfl)
@[simp] theorem fill_tupl {es : IEs} : fillA stab (.cons (.tup es) as) (d0 :: ds) n e = (fillA stab as ds (n + 1) e).map fun r => (d0 :: r.1, r.2.1, r.2.2) := (rfl)
@[simp] theorem fill_lstl {es : IEs} : fillA stab (.cons (.lst es) as) (d0 :: ds) n e = (fillA stab as ds (n + 1) e).map fun r => (d0 :: r.1, r.2.1, r.2.2) := (rfl)
@[simp] theorem fill_ife  : fillA stab (.cons (.ife a b c) as) (d0 :: ds) n e = (fillA stab as ds (n + 1) e).map fun r => (d0 :: r.1, r.2.1, r.2.2) := (rfl)
@[simp] theorem fill_and  : fillA stab (.cons (.and a b) as) (d0 :: ds) n e = (fillA stab as ds (n + 1) e).map fun r => (d0 :: r.1, r.2.1, r.2.2) := (rfl)
@[simp] theorem fill_or  : fillA stab (.cons (.or a b) as) (d0 :: ds) n e = (fillA stab as ds (n + 1) e).map fun r => (d0 :: r.1, r.2.1, r.2.2) := (rfl)
@[simp] theorem fill_not  : fillA stab (.cons (.not a) as) (d0 :: ds) n e = (fillA stab as ds (n + 1) e).map fun r => (d0 :: r.1, r.2.1, r.2.2) := (rfl)
@[simp] theorem fill_chain {q' : P2} : fillA stab (.cons (.chain q q' a b c) as) (d0 :: ds) n e = (fillA stab as ds (n + 1) e).map fun r => (d0 :: r.1, r.2.1, r.2.2) := (rfl)
@[simp] theorem fill_call {es : IEs} : fillA stab (.cons (.call i es) as) (d0 :: ds) n e = (fillA stab as ds (n + 1) e).map fun r => (d0 :: r.1, r.2.1, r.2.2) := (rfl)
@[simp] theorem fill_comp {own : List (PySem.Str × Nat)} {tg : Tg} {it : It} {cs : IEs} : fillA stab (.cons (.comp own tg it cs a) as) (d0 :: ds) n e = (fillA stab as ds (n + 1) e).map fun r => (d0 :: r.1, r.2.1, r.2.2) := (rfl)
@[simp] theorem fill_rgl {z : Bool} {es : IEs} : fillA stab (.cons (.rgl z es) as) (d0 :: ds) n e = (fillA stab as ds (n + 1) e).map fun r => (d0 :: r.1, r.2.1, r.2.2) := (rfl)
@[simp] theorem fill_at  : fillA stab (.cons (.at i a) as) (d0 :: ds) n e = (fillA stab as ds (n + 1) e).map fun r => (d0 :: r.1, r.2.1, r.2.2) := (rfl)
@[simp] theorem fill_pop {es : IEs} : fillA stab (.cons (.pop i es) as) (d0 :: ds) n e = (fillA stab as ds (n + 1) e).map fun r => (d0 :: r.1, r.2.1, r.2.2) := (rfl)
@[simp] theorem fill_popAt {es : IEs} : fillA stab (.cons (.popAt i es a) as) (d0 :: ds) n e = (fillA stab as ds (n + 1) e).map fun r => (d0 :: r.1, r.2.1, r.2.2) := (rfl)
@[simp] theorem flS_lt : flS z i n (.lst true xs) e go = if z then (go (e.set i .hole)).map fun r => (.lst true xs :: r.1, (i, n) :: r.2.1, r.2.2) else (go (e.set i (.lst false (frz.frzs xs)))).map fun r => (.lst false (frz.frzs xs) :: r.1, r.2.1, r.2.2) := (rfl)
@[simp] theorem flS_lf : flS z i n (.lst false xs) e go = (go e).map fun r => (.lst false xs :: r.1, r.2.1, r.2.2) := (rfl)
@[simp] theorem flS_tup : flS z i n (.tup xs) e go = (go e).map fun r => (.tup xs :: r.1, r.2.1, r.2.2) := (rfl)
@[simp] theorem flS_int : flS z i n (.int k) e go = (go e).map fun r => (.int k :: r.1, r.2.1, r.2.2) := (rfl)
@[simp] theorem flS_bl {w : Bool} : flS z i n (.bl w) e go = (go e).map fun r => (.bl w :: r.1, r.2.1, r.2.2) := (rfl)
@[simp] theorem flS_non : flS z i n .non e go = (go e).map fun r => (.non :: r.1, r.2.1, r.2.2) := (rfl)
@[simp] theorem flS_str {x : PySem.Str} : flS z i n (.str x) e go = (go e).map fun r => (.str x :: r.1, r.2.1, r.2.2) := (rfl)
@[simp] theorem flS_scr {ns : List Int} : flS z i n (.scr ns) e go = (go e).map fun r => (.scr ns :: r.1, r.2.1, r.2.2) := (rfl)
end
end Tw

set_option Elab.async false
set_option linter.all false
set_option maxRecDepth 100000
set_option maxHeartbeats 4000000
/-! Tw25: loops by what stays true. -/
namespace Tw
theorem exs_app {T : Fns} {wf np : Nat} : ∀ {a b : List IS} {e : Env}, exs T wf np (a ++ b) e = (exs T wf np a e).seq (exs T wf np b)
  | [], b, e => rfl
  | s :: a, b, e => by
    show (ex T wf np s e).seq (exs T wf np (a ++ b)) = ((ex T wf np s e).seq (exs T wf np a)).seq (exs T wf np b)
    cases ex T wf np s e with
    | nx e1 => exact exs_app
    | _ => rfl
theorem forGo_nil {t : Tg} {f : Env → O} {e : Env} : forGo t f [] e = .nx e := rfl
theorem forGo_step {t : Tg} {f : Env → O} {x : D} {xs : List D} {e e1 e2 : Env} (h : asg t x e = some e1) (h2 : f e1 = .nx e2 ∨ f e1 = .ct e2) : forGo t f (x :: xs) e = forGo t f xs e2 := by
  rw [forGo, h]
  rcases h2 with h2 | h2 <;> simp [h2]
/-- every turn goes on -/
theorem forGo_all {t : Tg} {f : Env → O} (I : List D → Env → Prop) : ∀ {xs : List D} {e : Env}, I xs e → (∀ x xs e, I (x :: xs) e → ∃ e1 e2, asg t x e = some e1 ∧ (f e1 = .nx e2 ∨ f e1 = .ct e2) ∧ I xs e2) → ∃ e', forGo t f xs e = .nx e' ∧ I [] e'
  | [], e, h, _ => ⟨e, rfl, h⟩
  | x :: xs, e, h, k => by
    obtain ⟨e1, e2, h1, h2, h3⟩ := k x xs e h
    obtain ⟨e', h4, h5⟩ := forGo_all I h3 k
    exact ⟨e', by rw [forGo_step h1 h2, h4], h5⟩
/-- the same by the place -/
theorem forGo_ix {t : Tg} {f : Env → O} {xs : List D} {e : Env} (I : Nat → Env → Prop) (h0 : I 0 e) (k : ∀ i x e, xs[i]? = some x → I i e → ∃ e1 e2, asg t x e = some e1 ∧ (f e1 = .nx e2 ∨ f e1 = .ct e2) ∧ I (i + 1) e2) : ∃ e', forGo t f xs e = .nx e' ∧ I xs.length e' := by
  have go : ∀ (n : Nat) (i : Nat) (e : Env), n + i = xs.length → I i e → ∃ e', forGo t f (xs.drop i) e = .nx e' ∧ I xs.length e' := by
    intro n
    induction n with
    | zero =>
      intro i e hi h
      have : i = xs.length := by omega
      subst this
      rw [List.drop_length]
      exact ⟨e, rfl, h⟩
    | succ n ih =>
      intro i e hi h
      have hlt : i < xs.length := by omega
      obtain ⟨e1, e2, h1, h2, h3⟩ := k i xs[i] e (List.getElem?_eq_getElem hlt) h
      obtain ⟨e', h4, h5⟩ := ih (i + 1) e2 (by omega) h3
      refine ⟨e', ?_, h5⟩
      rw [List.drop_eq_getElem_cons hlt, forGo_step h1 h2, h4]
  have := go xs.length 0 e (by omega) h0
  rw [List.drop_zero] at this
  exact this
/-- a comprehension by what stays true of the state; the list so far -/
theorem compGo_ix {own : List (PySem.Str × Nat)} {tg : Tg} {c f : Env → R D} {xs : List D} {e : Env} (I : Nat → List D → Env → Prop) (hl : xs.length < 16000000) (h0 : I 0 [] e) (hlen : ∀ i acc e, I i acc e → acc.length ≤ i)
    (k : ∀ i x acc e, xs[i]? = some x → I i acc e → ∃ e1, asg tg x (wipeE own e) = some e1 ∧ ((∃ e2, c e1 = .ok (.bl false) e2 ∧ I (i + 1) acc (wipeE own e2)) ∨ ∃ e2 y e3, c e1 = .ok (.bl true) e2 ∧ f e2 = .ok y e3 ∧ I (i + 1) (acc ++ [y]) (wipeE own e3))) :
    ∃ ys e', compGo own tg c f xs [] e = .ok ys e' ∧ I xs.length ys e' := by
  have go : ∀ (n : Nat) (i : Nat) (acc : List D) (e : Env), n + i = xs.length → I i acc e → ∃ ys e', compGo own tg c f (xs.drop i) acc e = .ok ys e' ∧ I xs.length ys e' := by
    intro n
    induction n with
    | zero =>
      intro i acc e hi h
      have : i = xs.length := by omega
      subst this
      rw [List.drop_length]
      exact ⟨acc, e, rfl, h⟩
    | succ n ih =>
      intro i acc e hi h
      have hlt : i < xs.length := by omega
      obtain ⟨e1, h1, h2⟩ := k i xs[i] acc e (List.getElem?_eq_getElem hlt) h
      rw [List.drop_eq_getElem_cons hlt, compGo, h1]
      rcases h2 with ⟨e2, h2, h3⟩ | ⟨e2, y, e3, h2, h3, h4⟩
      · obtain ⟨ys, e', h5, h6⟩ := ih (i + 1) acc (wipeE own e2) (by omega) h3
        exact ⟨ys, e', by simp [h2, h5], h6⟩
      · obtain ⟨ys, e', h5, h6⟩ := ih (i + 1) (acc ++ [y]) (wipeE own e3) (by omega) h4
        have := hlen i acc e h
        exact ⟨ys, e', by simp [h2, h3, h5, show acc.length < 16000000 by omega], h6⟩
  have := go xs.length 0 [] e (by omega) h0
  rw [List.drop_zero] at this
  exact this
/-- a comprehension that changes nothing but its own slots: e0 the state, those slots empty -/
theorem compGo_pure {own : List (PySem.Str × Nat)} {tg : Tg} {c f : Env → R D} {xs : List D} {e0 : Env} (p : D → Bool) (g : D → D) (hw : wipeE own e0 = e0) (hl : xs.length < 16000000)
    (k : ∀ x ∈ xs, ∃ e1, asg tg x e0 = some e1 ∧ ∃ e2, c e1 = .ok (.bl (p x)) e2 ∧ wipeE own e2 = e0 ∧ (p x = true → ∃ e3, f e2 = .ok (g x) e3 ∧ wipeE own e3 = e0)) : compGo own tg c f xs [] e0 = .ok ((xs.filter p).map g) e0 := by
  have go : ∀ (xs : List D) (acc : List D), acc.length + xs.length < 16000000 → (∀ x ∈ xs, ∃ e1, asg tg x e0 = some e1 ∧ ∃ e2, c e1 = .ok (.bl (p x)) e2 ∧ wipeE own e2 = e0 ∧ (p x = true → ∃ e3, f e2 = .ok (g x) e3 ∧ wipeE own e3 = e0)) →
      compGo own tg c f xs acc e0 = .ok (acc ++ (xs.filter p).map g) e0 := by
    intro xs
    induction xs with
    | nil => intro acc _ _; simp [compGo]
    | cons x xs ih =>
      intro acc hl k
      obtain ⟨e1, h1, e2, h2, h3, h4⟩ := k x List.mem_cons_self
      rw [compGo, hw, h1]
      have hl' : acc.length + 1 + xs.length < 16000000 := by rw [List.length_cons] at hl; omega
      cases hp : p x with
      | false =>
        rw [hp] at h2
        simp only [h2, R.bind_ok, h3]
        rw [ih acc (by omega) fun y hy => k y (List.mem_cons_of_mem _ hy), List.filter_cons_of_neg (by rw [hp]; exact Bool.false_ne_true)]
      | true =>
        rw [hp] at h2
        obtain ⟨e3, h5, h6⟩ := h4 hp
        simp only [h2, R.bind_ok, h5]
        rw [if_pos (by omega), h6, ih (acc ++ [g x]) (by rw [List.length_append, List.length_singleton]; omega) fun y hy => k y (List.mem_cons_of_mem _ hy), List.filter_cons_of_pos hp]
        simp
  have := go xs [] (by rw [List.length_nil]; omega) k
  rw [List.nil_append] at this
  exact this
/-- the whole comprehension, its own slots empty before -/
theorem ev_comp {T : Fns} {own : List (PySem.Str × Nat)} {tg : Tg} {it : It} {cs : IEs} {elt : IE} {e e1 e2 : Env} {xs ys : List D} (h : evIt T it e = .ok xs e1) (h2 : compGo own tg (evC T cs) (ev T elt) xs [] (wipeE own e1) = .ok ys e2) : ev T (.comp own tg it cs elt) e = .ok (.lst true ys) (unown own e1 e2) := by
  show (evIt T it e).bind (fun xs e1 => R.calm ((compGo own tg (evC T cs) (ev T elt) xs [] (wipeE own e1)).bind fun ys e2 => R.ok (D.lst true ys) (unown own e1 e2))) = _
  rw [h]
  show R.calm ((compGo own tg (evC T cs) (ev T elt) xs [] (wipeE own e1)).bind _) = _
  rw [h2]; rfl
end Tw

set_option Elab.async false
set_option linter.all false
set_option maxRecDepth 100000
set_option maxHeartbeats 4000000
/-! Tx0: the typed layer. S: what a text reckons over typed data, with a state; Sl, Has: what a slot holds; ER: an expression reckons what m says. -/
namespace Tx
open Tw
/-- how a typed reckoning ends -/
inductive Res (α : Type) where
  | ok (a : α)
  | ex (c : Nat) (w : D)
  | no
def S (σ α : Type) : Type := σ → Res (α × σ)
section
variable {σ α β γ : Type}
def S.pure (a : α) : S σ α := fun s => .ok (a, s)
def S.bind (m : S σ α) (k : α → S σ β) : S σ β := fun s => match m s with
  | .ok p => k p.1 p.2
  | .ex c w => .ex c w
  | .no => .no
def S.no : S σ α := fun _ => .no
def S.raise (c : Nat) (w : D) : S σ α := fun _ => .ex c w
def S.of (o : Option α) : S σ α := match o with
  | some a => S.pure a
  | none => S.no
def S.up (m : S Unit α) : S σ α := fun s => match m () with
  | .ok p => .ok (p.1, s)
  | .ex c w => .ex c w
  | .no => .no
/-- m from the state t on -/
def S.run {τ : Type} (m : S τ α) (t : τ) : S σ α := fun s => match m t with
  | .ok p => .ok (p.1, s)
  | .ex c w => .ex c w
  | .no => .no
/-- a bound that the language asks for -/
def S.lim (n : Nat) : S σ Unit := if n < 16000000 then S.pure () else S.no
@[simp] theorem S.pure_bind (a : α) (k : α → S σ β) : S.bind (S.pure a) k = k a := (rfl)
@[simp] theorem S.no_bind (k : α → S σ β) : S.bind (S.no : S σ α) k = S.no := (rfl)
@[simp] theorem S.raise_bind (c : Nat) (w : D) (k : α → S σ β) : S.bind (S.raise c w : S σ α) k = S.raise c w := (rfl)
@[simp] theorem S.of_some (a : α) : (S.of (some a) : S σ α) = S.pure a := (rfl)
@[simp] theorem S.of_none : (S.of (none : Option α) : S σ α) = S.no := (rfl)
@[simp] theorem S.up_pure (a : α) : (S.up (S.pure a) : S σ α) = S.pure a := (rfl)
@[simp] theorem S.up_no : (S.up (S.no : S Unit α) : S σ α) = S.no := (rfl)
@[simp] theorem S.up_raise (c : Nat) (w : D) : (S.up (S.raise c w : S Unit α) : S σ α) = S.raise c w := (rfl)
theorem S.bind_assoc (m : S σ α) (k : α → S σ β) (g : β → S σ γ) : S.bind (S.bind m k) g = S.bind m fun a => S.bind (k a) g := by
  funext s
  unfold S.bind
  cases m s <;> rfl
theorem S.bind_pure (m : S σ α) : S.bind m S.pure = m := by
  funext s
  unfold S.bind
  cases m s <;> rfl
theorem S.ite_bind (b : Bool) (m m' : S σ α) (k : α → S σ β) : S.bind (if b then m else m') k = if b then S.bind m k else S.bind m' k := by cases b <;> rfl
end

/-! ### what the slots hold -/
inductive Sl where
  | any
  /-- a value; a list may be owned or not -/
  | up (d : D)
  /-- an owned list -/
  | own (xs : List D)
  /-- the state -/
  | st
section
variable {σ α β γ : Type} (enc : σ → D)
def SlOk (s : σ) : Sl → D → Prop
  | .any, _ => True
  | .up d, d' => d' ≠ .hole ∧ frz d' = d
  | .own xs, d' => d' = .lst true xs
  | .st, d' => d' = enc s
def Has (s : σ) (l : List Sl) (e : Env) : Prop := l.length = e.length ∧ ∀ (i : Nat) (sl : Sl), l[i]? = some sl → ∃ d, e[i]? = some d ∧ SlOk enc s sl d
end
section
variable {σ α β γ : Type} {enc : σ → D} {s s' : σ} {l l' : List Sl} {e e' : Env} {i : Nat} {sl : Sl} {d : D}
theorem Has.set (h : Has enc s l e) (hd : SlOk enc s sl d) : Has enc s (l.set i sl) (e.set i d) := by
  refine ⟨by rw [List.length_set, List.length_set]; exact h.1, fun j sj hj => ?_⟩
  rw [List.getElem?_set] at hj ⊢
  by_cases hij : i = j
  · subst hij
    rw [if_pos rfl] at hj ⊢
    by_cases hl : i < l.length
    · rw [if_pos hl] at hj
      cases hj
      rw [if_pos (by rw [← h.1]; exact hl)]
      exact ⟨d, rfl, hd⟩
    · rw [if_neg hl] at hj; cases hj
  · rw [if_neg hij] at hj ⊢
    exact h.2 j sj hj
theorem gt_of {d : D} (h : e[i]? = some d) : gt e i = d := by unfold gt; rw [h]; rfl
/-- a slot whose place is known may hold another value that fits -/
theorem Has.reset (h : Has enc s l e) (hs : l[i]? = some sl) (hd : SlOk enc s sl d) : Has enc s l (e.set i d) := by
  have := h.set (i := i) (sl := sl) hd
  have e1 : l.set i sl = l := by
    apply List.ext_getElem?
    intro j
    rw [List.getElem?_set]
    by_cases hij : i = j
    · subst hij
      rw [if_pos rfl, hs]
      rw [if_pos (List.getElem?_eq_some_iff.mp hs).1]
    · rw [if_neg hij]
  rw [e1] at this
  exact this
theorem frz_hole {d : D} (h : d ≠ .hole) : frz d ≠ .hole := by
  cases d with
  | lst z xs => cases z <;> (first | rw [frz_lt] | rw [frz_lf]) <;> exact fun q => by cases q
  | hole => exact absurd rfl h
  | _ => first | (rw [frz_int]; exact h) | (rw [frz_bl]; exact h) | (rw [frz_non]; exact h) | (rw [frz_str]; exact h) | (rw [frz_tup]; exact h) | (rw [frz_rng]; exact h) | exact h
end

/-! ### results beside one another -/
/-- the value d stands for v -/
abbrev isUp {α : Type} (f : α → D) : α → D → Prop := fun v d => d ≠ .hole ∧ frz d = f v
abbrev isOwn {α : Type} (g : α → List D) : α → D → Prop := fun v d => d = .lst true (g v)
section
variable {σ α β γ δ : Type}
def RR (enc : σ → D) (l : List Sl) (Q : α → γ → Prop) (x : Res (α × σ)) (r : Tw.R γ) : Prop := match x with
  | .ok p => ∃ d e', r = .ok d e' ∧ Q p.1 d ∧ Has enc p.2 l e'
  | .ex c w => ∃ s' e', r = .ex c w e' ∧ Has enc s' l e'
  | .no => True
theorem RR.bind {enc : σ → D} {l : List Sl} {Q : α → γ → Prop} {Q' : β → δ → Prop} {m : S σ α} {k : α → S σ β} {s : σ} {r : Tw.R γ} {f : γ → Env → Tw.R δ} (h : RR enc l Q (m s) r)
    (hk : ∀ v s' d e', Q v d → Has enc s' l e' → RR enc l Q' (k v s') (f d e')) : RR enc l Q' (S.bind m k s) (r.bind f) := by
  unfold S.bind
  revert h
  cases m s with
  | ok p =>
    rintro ⟨d, e', rfl, hq, hh⟩
    exact hk _ _ _ _ hq hh
  | ex c w =>
    rintro ⟨s', e', rfl, hh⟩
    exact ⟨s', e', rfl, hh⟩
  | no => intro _; trivial
theorem RR.mono {enc : σ → D} {l : List Sl} {Q Q' : α → γ → Prop} {x : Res (α × σ)} {r : Tw.R γ} (h : RR enc l Q x r) (hq : ∀ v d, Q v d → Q' v d) : RR enc l Q' x r := by
  revert h
  cases x with
  | ok p => rintro ⟨d, e', h1, h2, h3⟩; exact ⟨d, e', h1, hq _ _ h2, h3⟩
  | ex c w => exact id
  | no => exact id
/-- the expression a reckons what m says -/
structure ER (T : Fns) (enc : σ → D) (l : List Sl) (a : IE) (m : S σ α) (Q : α → D → Prop) : Prop where
  out : ∀ s e, Has enc s l e → RR enc l Q (m s) (ev T a e)
/-- .. several -/
structure ES (T : Fns) (enc : σ → D) (l : List Sl) (as : IEs) (m : S σ α) (Q : α → List D → Prop) : Prop where
  out : ∀ s e, Has enc s l e → RR enc l Q (m s) (evs T as e)
/-- .. what a loop walks -/
structure EI (T : Fns) (enc : σ → D) (l : List Sl) (it : It) (m : S σ (List α)) (f : α → D) : Prop where
  out : ∀ s e, Has enc s l e → RR enc l (fun v ds => ds = v.map f) (m s) (evIt T it e)
/-- an operand, between its two readings -/
def OP (T : Fns) (enc : σ → D) (l : List Sl) (a : IE) (m : S σ α) (f : α → D) : Prop :=
  (∃ i v sl, a = .slot i ∧ l[i]? = some sl ∧ m = S.pure v ∧ (sl = .up (f v) ∨ ∃ xs, sl = .own xs ∧ xs.all pers = true ∧ f v = .lst false xs)) ∨ (a.isSlot = none ∧ ER T enc l a m (isUp f)) ∨ m = S.no
variable {T : Fns} {enc : σ → D} {l : List Sl} {a b c : IE} {m : S σ α} {f : α → D} {g : β → D} {h : γ → D} {Q : γ → D → Prop}
theorem op_s {i : Nat} {v : α} (hl : l[i]? = some (.up (f v))) : OP T enc l (.slot i) (S.pure v) f := .inl ⟨i, v, _, rfl, hl, rfl, .inl rfl⟩
theorem op_o {i : Nat} {xs : List D} {v : α} (hl : l[i]? = some (.own xs)) (hp : xs.all pers = true) (he : f v = .lst false xs) : OP T enc l (.slot i) (S.pure v) f := .inl ⟨i, v, _, rfl, hl, rfl, .inr ⟨xs, rfl, hp, he⟩⟩
theorem op_e (hs : a.isSlot = none) (h : ER T enc l a m (isUp f)) : OP T enc l a m f := .inr (.inl ⟨hs, h⟩)
/-- the first half of an operand -/
def OH (enc : σ → D) (l : List Sl) (a : IE) (f : α → D) (v : α) (d : D) : Prop :=
  (∃ i sl, a = .slot i ∧ l[i]? = some sl ∧ (sl = .up (f v) ∨ ∃ xs, sl = .own xs ∧ xs.all pers = true ∧ f v = .lst false xs)) ∨ (a.isSlot = none ∧ frz d = f v)
theorem OP.pre (o : OP T enc l a m f) {s : σ} {e : Env} (hh : Has enc s l e) : RR enc l (OH enc l a f) (m s) (Tw.pre a (ev T a) e) := by
  rcases o with ⟨i, v, sl, rfl, hl, rfl, hv⟩ | ⟨hs, o⟩ | rfl
  · obtain ⟨d, hd, hs⟩ := hh.2 i sl hl
    have hn : d ≠ .hole := by
      rcases hv with rfl | ⟨xs, rfl, _, _⟩
      · exact hs.1
      · have : d = .lst true xs := hs
        rw [this]; exact fun q => by cases q
    refine ⟨.hole, e, ?_, .inl ⟨i, sl, rfl, hl, hv⟩, hh⟩
    rw [pre_slot, gt_of hd]
    cases d <;> first | rfl | exact absurd rfl hn
  · rw [pre_ns hs]
    exact (o.out s e hh).mono fun v d q => .inr ⟨hs, q.2⟩
  · trivial
theorem OH.fin {v : α} {d : D} (o : OH enc l a f v d) {s : σ} {e : Env} (hh : Has enc s l e) : ∃ e', Tw.fin a d e = .ok (f v) e' ∧ Has enc s l e' := by
  rcases o with ⟨i, sl, rfl, hl, hv⟩ | ⟨hs, hf⟩
  · obtain ⟨d', hd, hs⟩ := hh.2 i sl hl
    rw [fin_slot, rdS_eq, gt_of hd]
    rcases hv with rfl | ⟨xs, rfl, hp, he⟩
    · obtain ⟨hn, hf⟩ := hs
      cases d' with
      | hole => exact absurd rfl hn
      | lst z xs =>
        cases z with
        | true =>
          rw [frz_lt] at hf
          rw [rdS_lt]
          by_cases hp : xs.all pers = true
          · rw [if_pos hp, ← hf, frzs_pers hp]; exact ⟨e, rfl, hh⟩
          · rw [if_neg hp, ← hf]
            exact ⟨_, rfl, hh.reset hl ⟨(fun q => by cases q), by rw [frz_lf]; exact hf⟩⟩
        | false => rw [← hf, frz_lf]; exact ⟨e, rfl, hh⟩
      | int k => rw [← hf, frz_int]; exact ⟨e, rfl, hh⟩
      | bl k => rw [← hf, frz_bl]; exact ⟨e, rfl, hh⟩
      | non => rw [← hf, frz_non]; exact ⟨e, rfl, hh⟩
      | str k => rw [← hf, frz_str]; exact ⟨e, rfl, hh⟩
      | tup k => rw [← hf, frz_tup]; exact ⟨e, rfl, hh⟩
      | scr k => exact ⟨e, by rw [← hf]; rfl, hh⟩
      | rng k z => rw [← hf, frz_rng]; exact ⟨e, rfl, hh⟩
    · have : d' = .lst true xs := hs
      rw [this, rdS_lt, if_pos hp, he]
      exact ⟨e, rfl, hh⟩
  · refine ⟨e, ?_, hh⟩
    cases a <;> first | (rw [← hf]; rfl) | cases hs
/-- a slot read as an expression -/
theorem er_slot {i : Nat} {v : α} (hl : l[i]? = some (.up (f v))) : ER T enc l (.slot i) (S.pure v) (isUp f) := .mk <| fun s e hh => by
  obtain ⟨d, hd, hn, hf⟩ := hh.2 i _ hl
  show RR enc l _ (S.pure v s) (rdF i e)
  rw [rdF_eq, gt_of hd]
  cases d with
  | hole => exact absurd rfl hn
  | lst z xs =>
    cases z with
    | true => exact ⟨_, _, rfl, ⟨(fun q => by cases q), by rw [frz_lf, ← frz_lt]; exact hf⟩, hh.reset hl ⟨(fun q => by cases q), by rw [frz_lf, ← frz_lt]; exact hf⟩⟩
    | false => exact ⟨_, _, rfl, ⟨hn, hf⟩, hh⟩
  | _ => exact ⟨_, _, rfl, ⟨hn, hf⟩, hh⟩
theorem er_con {d : D} {v : α} (hv : d = f v) (hd : frz d = d) (hn : d ≠ .hole) : ER T enc l (.con d) (S.pure v) (isUp f) := .mk <| fun s e hh => ⟨d, e, rfl, ⟨hn, hd.trans hv⟩, hh⟩
theorem er_glob {x : PySem.Str} {d : D} {v : α} (hv : d = f v) (hd : frz d = d) (hn : d ≠ .hole) : ER T enc l (.glob x d) (S.pure v) (isUp f) := .mk <| fun s e hh => ⟨d, e, rfl, ⟨hn, hd.trans hv⟩, hh⟩
theorem er_one {Q : α → D → Prop} (h : ER T enc l a m Q) : ER T enc l (.one a) m Q := ⟨h.out⟩
theorem er_mono {Q Q' : α → D → Prop} (h : ER T enc l a m Q) (k : ∀ v d, Q v d → Q' v d) : ER T enc l a m Q' := .mk <| fun s e hh => (h.out s e hh).mono k

/-! ### operations -/
def Op1 (p : P1) (f : α → D) (o : α → Option γ) (Q : γ → D → Prop) : Prop := ∀ x v, o x = some v → ∃ d, sem1 p (f x) = some d ∧ Q v d
def Op2 (q : P2) (f : α → D) (g : β → D) (o : α → β → Option γ) (Q : γ → D → Prop) : Prop := ∀ x y v, o x y = some v → ∃ d, sem2 q (f x) (g y) = some d ∧ Q v d
theorem RR.of {x : Option γ} {o : Option D} {s : σ} {e : Env} (hh : Has enc s l e) (k : ∀ v, x = some v → ∃ d, o = some d ∧ Q v d) : RR enc l Q ((S.of x : S σ γ) s) (R.of o e) := by
  cases x with
  | none => trivial
  | some v =>
    obtain ⟨d, e1, hq⟩ := k v rfl
    rw [e1]
    exact ⟨d, e, rfl, hq, hh⟩
theorem er_p1 {p : P1} {o : α → Option γ} {m' : S σ γ} (ha : OP T enc l a m f) (ho : Op1 p f o Q) (hm : m' = S.bind m fun x => S.of (o x)) : ER T enc l (.p1 p a) m' Q := .mk <| fun s e hh => by
  rw [hm, ev_p1]
  refine RR.bind (ha.pre hh) fun v s' d e' q hh' => ?_
  obtain ⟨e2, h1, h2⟩ := q.fin hh'
  rw [h1, R.bind_ok]
  exact RR.of h2 fun v' hv => ho v v' hv
theorem er_p2 {q : P2} {o : α → β → Option γ} {ma : S σ α} {mb : S σ β} {m' : S σ γ} (ha : OP T enc l a ma f) (hb : OP T enc l b mb g) (ho : Op2 q f g o Q) (hm : m' = S.bind ma fun x => S.bind mb fun y => S.of (o x y)) : ER T enc l (.p2 q a b) m' Q := .mk <| fun s e hh => by
  rw [hm, ev_p2]
  refine RR.bind (ha.pre hh) fun v s1 d e1 q1 h1 => RR.bind (hb.pre h1) fun w s2 d2 e2 q2 h2 => ?_
  obtain ⟨e3, h3, h4⟩ := q1.fin h2
  rw [h3, R.bind_ok]
  obtain ⟨e4, h5, h6⟩ := q2.fin h4
  rw [h5, R.bind_ok]
  exact RR.of h6 fun v' hv => ho v w v' hv
theorem er_rev {o : α → Option γ} {m' : S σ γ} (ha : OP T enc l a m f) (ho : ∀ x v, o x = some v → ∃ d, semRev (f x) = some d ∧ Q v d) (hm : m' = S.bind m fun x => S.of (o x)) : ER T enc l (.rev a) m' Q := .mk <| fun s e hh => by
  rw [hm, ev_rev]
  refine RR.bind (ha.pre hh) fun v s' d e' q hh' => ?_
  obtain ⟨e2, h1, h2⟩ := q.fin hh'
  rw [h1, R.bind_ok]
  exact RR.of h2 fun v' hv => ho v v' hv
/-- a bound of a slice: none or a number -/
structure EP (T : Fns) (enc : σ → D) (l : List Sl) (a : IE) (m : S σ (Option Int)) : Prop where
  out : ∀ s e, Has enc s l e → RR enc l (fun v d => partD d = some v) (m s) (ev T a e)
theorem ep_none : EP T enc l (.con .hole) (S.pure none) := .mk <| fun s e hh => ⟨.hole, e, rfl, rfl, hh⟩
theorem ep_some {m : S σ Int} {m' : S σ (Option Int)} (h : ER T enc l a m (isUp D.int)) (hm : m' = S.bind m fun x => S.pure (some x)) : EP T enc l a m' := .mk <| fun s e hh => by
  rw [hm]
  have := RR.bind (k := fun x => S.pure (some x)) (f := fun d e => R.ok d e) (Q' := fun v d => partD d = some v) (h.out s e hh) fun v s' d e' q hh' => ⟨d, e', rfl, ?_, hh'⟩
  · revert this
    cases ev T a e <;> exact id
  · have : d = .int v := by
      have := q.2
      cases d with
      | int k => rw [frz_int] at this; exact this
      | lst z xs => cases z <;> (first | rw [frz_lt] at this | rw [frz_lf] at this) <;> cases this
      | bl k => rw [frz_bl] at this; cases this
      | non => rw [frz_non] at this; cases this
      | str k => rw [frz_str] at this; cases this
      | tup k => rw [frz_tup] at this; cases this
      | rng k z => rw [frz_rng] at this; cases this
      | hole => exact absurd rfl q.1
      | scr k => cases (show D.scr k = .int v from this)
    rw [this]; rfl
theorem er_sl {o : α → Option Int → Option Int → Option γ} {ml mh : S σ (Option Int)} {m' : S σ γ} {lo hi : IE} (ha : OP T enc l a m f) (hlo : EP T enc l lo ml) (hhi : EP T enc l hi mh)
    (ho : ∀ x u v r, o x u v = some r → ∃ d, semSl (f x) u v = some d ∧ Q r d) (hm : m' = S.bind m fun x => S.bind ml fun u => S.bind mh fun v => S.of (o x u v)) : ER T enc l (.sl a lo hi) m' Q := .mk <| fun s e hh => by
  rw [hm, ev_sl]
  refine RR.bind (ha.pre hh) fun v s1 d e1 q1 h1 => RR.bind (hlo.out s1 e1 h1) fun u s2 d2 e2 q2 h2 => ?_
  unfold partR
  rw [q2]
  refine RR.bind (hhi.out s2 e2 h2) fun w s3 d3 e3 q3 h3 => ?_
  simp only []
  rw [q3]
  obtain ⟨e4, h5, h6⟩ := q1.fin h3
  simp only []
  rw [h5, R.bind_ok]
  exact RR.of h6 fun v' hv => ho v u w v' hv
/-! ### truth -/
theorem up_bl {v : Bool} {d : D} (q : isUp D.bl v d) : d = .bl v := by
  have := q.2
  cases d with
  | bl k => rw [frz_bl] at this; exact this
  | lst z xs => cases z <;> (first | rw [frz_lt] at this | rw [frz_lf] at this) <;> cases this
  | int k => rw [frz_int] at this; cases this
  | non => rw [frz_non] at this; cases this
  | str k => rw [frz_str] at this; cases this
  | tup k => rw [frz_tup] at this; cases this
  | rng k z => rw [frz_rng] at this; cases this
  | hole => exact absurd rfl q.1
  | scr k => cases (show D.scr k = .bl v from this)
theorem bl_up {v : Bool} : isUp D.bl v (.bl v) := ⟨(fun q => by cases q), frz_bl⟩
theorem er_and {ma mb m' : S σ Bool} (ha : ER T enc l a ma (isUp D.bl)) (hb : ER T enc l b mb (isUp D.bl)) (hm : m' = S.bind ma fun x => if x then mb else S.pure false) : ER T enc l (.and a b) m' (isUp D.bl) := .mk <| fun s e hh => by
  rw [hm, ev_and]
  refine RR.bind (ha.out s e hh) fun v s1 d e1 q1 h1 => ?_
  cases up_bl q1
  rw [andD_bl]
  cases v
  · exact ⟨_, _, rfl, bl_up, h1⟩
  · exact hb.out s1 e1 h1
theorem er_or {ma mb m' : S σ Bool} (ha : ER T enc l a ma (isUp D.bl)) (hb : ER T enc l b mb (isUp D.bl)) (hm : m' = S.bind ma fun x => if x then S.pure true else mb) : ER T enc l (.or a b) m' (isUp D.bl) := .mk <| fun s e hh => by
  rw [hm, ev_or]
  refine RR.bind (ha.out s e hh) fun v s1 d e1 q1 h1 => ?_
  cases up_bl q1
  rw [orD_bl]
  cases v
  · exact hb.out s1 e1 h1
  · exact ⟨_, _, rfl, bl_up, h1⟩
theorem er_not {ma m' : S σ Bool} (ha : ER T enc l a ma (isUp D.bl)) (hm : m' = S.bind ma fun x => S.pure (!x)) : ER T enc l (.not a) m' (isUp D.bl) := .mk <| fun s e hh => by
  rw [hm, ev_not]
  refine RR.bind (ha.out s e hh) fun v s1 d e1 q1 h1 => ?_
  cases up_bl q1
  exact ⟨_, _, rfl, bl_up, h1⟩
theorem er_ife {mc : S σ Bool} {ma mb m' : S σ γ} (hc : ER T enc l c mc (isUp D.bl)) (ha : ER T enc l a ma Q) (hb : ER T enc l b mb Q) (hm : m' = S.bind mc fun x => if x then ma else mb) : ER T enc l (.ife c a b) m' Q := .mk <| fun s e hh => by
  rw [hm, ev_ife]
  refine RR.bind (hc.out s e hh) fun v s1 d e1 q1 h1 => ?_
  cases up_bl q1
  rw [ifD_bl]
  cases v
  · exact hb.out s1 e1 h1
  · exact ha.out s1 e1 h1
/-! .. of values -/
theorem er_andv {x y : Bool} {m' : S σ Bool} (ha : ER T enc l a (S.pure x) (isUp D.bl)) (hb : ER T enc l b (S.pure y) (isUp D.bl)) (hm : m' = S.pure (x && y)) : ER T enc l (.and a b) m' (isUp D.bl) := er_and ha hb (by rw [hm]; cases x <;> rfl)
theorem er_orv {x y : Bool} {m' : S σ Bool} (ha : ER T enc l a (S.pure x) (isUp D.bl)) (hb : ER T enc l b (S.pure y) (isUp D.bl)) (hm : m' = S.pure (x || y)) : ER T enc l (.or a b) m' (isUp D.bl) := er_or ha hb (by rw [hm]; cases x <;> rfl)
theorem er_ifev {x : Bool} {y z : γ} {m' : S σ γ} (hc : ER T enc l c (S.pure x) (isUp D.bl)) (ha : ER T enc l a (S.pure y) Q) (hb : ER T enc l b (S.pure z) Q) (hm : m' = S.pure (if x then y else z)) : ER T enc l (.ife c a b) m' Q := er_ife hc ha hb (by rw [hm]; cases x <;> rfl)
theorem er_chain {p q : P2} {h : γ → D} {o : α → β → Option Bool} {o' : β → γ → Option Bool} {ma : S σ α} {mb : S σ β} {mc : S σ γ} {m' : S σ Bool} (ha : ER T enc l a ma (isUp f)) (hb : ER T enc l b mb (isUp g)) (hc : ER T enc l c mc (isUp h))
    (ho : Op2 p f g o (isUp D.bl)) (ho' : Op2 q g h o' (isUp D.bl)) (hm : m' = S.bind ma fun x => S.bind mb fun y => S.bind (S.of (o x y)) fun z => if z then S.bind mc fun w => S.of (o' y w) else S.pure false) : ER T enc l (.chain p q a b c) m' (isUp D.bl) := .mk <| fun s e hh => by
  rw [hm, ev_chain]
  refine RR.bind (ha.out s e hh) fun v s1 d e1 q1 h1 => RR.bind (hb.out s1 e1 h1) fun w s2 d2 e2 q2 h2 => ?_
  rw [q1.2, q2.2]
  cases hz : o v w with
  | none => exact trivial
  | some z =>
    obtain ⟨d3, h3, h4⟩ := ho v w z hz
    cases up_bl h4
    rw [h3, chD_bl]
    show RR enc l _ ((if z then S.bind mc fun w_1 => S.of (o' w w_1) else S.pure false) s2) _
    cases z
    · exact ⟨_, _, rfl, bl_up, h2⟩
    · rw [if_pos rfl, if_pos rfl]
      refine RR.bind (hc.out s2 e2 h2) fun u s3 d3 e3 q3 h3 => ?_
      rw [q3.2]
      exact RR.of h3 fun v' hv => ho' w u v' hv
theorem er_chainv {p q : P2} {h : γ → D} {o : α → β → Bool} {o' : β → γ → Bool} {x : α} {y : β} {z : γ} {m' : S σ Bool} (ha : ER T enc l a (S.pure x) (isUp f)) (hb : ER T enc l b (S.pure y) (isUp g)) (hc : ER T enc l c (S.pure z) (isUp h))
    (ho : Op2 p f g (fun x y => some (o x y)) (isUp D.bl)) (ho' : Op2 q g h (fun x y => some (o' x y)) (isUp D.bl)) (hm : m' = S.pure (o x y && o' y z)) : ER T enc l (.chain p q a b c) m' (isUp D.bl) :=
  er_chain ha hb hc ho ho' (by
    rw [hm]
    show S.pure (o x y && o' y z) = if o x y then S.pure (o' y z) else S.pure false
    cases o x y <;> rfl)
/-! ### several expressions -/
theorem es_nil : ES T enc l .nil (S.pure ()) (fun _ ds => ds = []) := .mk <| fun s e hh => ⟨[], e, rfl, rfl, hh⟩
theorem es_cons {as : IEs} {ma : S σ α} {mb : S σ β} {m' : S σ (α × β)} {Qa : α → D → Prop} {Qb : β → List D → Prop} (ha : ER T enc l a ma Qa) (hb : ES T enc l as mb Qb) (hm : m' = S.bind ma fun x => S.bind mb fun y => S.pure (x, y)) :
    ES T enc l (.cons a as) m' (fun p ds => ∃ d ds', ds = d :: ds' ∧ Qa p.1 d ∧ Qb p.2 ds') := .mk <| fun s e hh => by
  rw [hm, evs_cons]
  refine RR.bind (ha.out s e hh) fun v s1 d e1 q1 h1 => RR.bind (hb.out s1 e1 h1) fun w s2 d2 e2 q2 h2 => ?_
  exact ⟨d :: d2, e2, rfl, ⟨d, d2, rfl, q1, q2⟩, h2⟩
theorem er_tup {as : IEs} {ma : S σ α} {m' : S σ γ} {Qa : α → List D → Prop} {p : α → γ} (ha : ES T enc l as ma Qa) (hq : ∀ v ds, Qa v ds → .tup (ds.map frz) = h (p v)) (hm : m' = S.bind ma fun x => S.pure (p x)) : ER T enc l (.tup as) m' (isUp h) := .mk <| fun s e hh => by
  rw [hm, ev_tup]
  refine RR.bind (ha.out s e hh) fun v s1 d e1 q1 h1 => ?_
  exact ⟨_, e1, rfl, ⟨(fun q => by cases q), by rw [frz_tup]; exact hq _ _ q1⟩, h1⟩
theorem er_lst {as : IEs} {ma : S σ α} {m' : S σ γ} {Qa : α → List D → Prop} {p : α → γ} (ha : ES T enc l as ma Qa) (hq : ∀ v ds, Qa v ds → Q (p v) (.lst true ds)) (hm : m' = S.bind ma fun x => S.pure (p x)) : ER T enc l (.lst as) m' Q := .mk <| fun s e hh => by
  rw [hm, ev_lst]
  refine RR.bind (ha.out s e hh) fun v s1 d e1 q1 h1 => ?_
  exact ⟨_, e1, rfl, hq _ _ q1, h1⟩
/-! ### ranges -/
def rgI (a b : Int) : List Int := (List.range (b - a).toNat).map fun i => a + (i : Nat)
theorem rgD_eq {a b : Int} : rgD a b = (rgI a b).map D.int := by unfold rgD rgI; rw [List.map_map]; rfl
@[irreducible] def rgB (b : Int) : Option (List Int) := if okRg 0 b then some (rgI 0 b) else none
@[irreducible] def rgAB (a b : Int) : Option (List Int) := if okRg a b then some (rgI a b) else none
theorem es_1 {v : Int} {ds : List D} (q : ∃ d ds', ds = d :: ds' ∧ isUp D.int v d ∧ ds' = []) : ds = [.int v] := by
  obtain ⟨d, ds', rfl, q1, rfl⟩ := q
  have := q1.2
  have : d = .int v := by
    cases d with
    | int k => rw [frz_int] at this; exact this
    | lst z xs => cases z <;> (first | rw [frz_lt] at this | rw [frz_lf] at this) <;> cases this
    | bl k => rw [frz_bl] at this; cases this
    | non => rw [frz_non] at this; cases this
    | str k => rw [frz_str] at this; cases this
    | tup k => rw [frz_tup] at this; cases this
    | rng k z => rw [frz_rng] at this; cases this
    | hole => exact absurd rfl q1.1
    | scr k => cases (show D.scr k = .int v from this)
  rw [this]
theorem up_int {v : Int} {d : D} (q : isUp D.int v d) : d = .int v := by
  have := es_1 ⟨d, [], rfl, q, rfl⟩
  cases this; rfl
end
end Tx

set_option Elab.async false
set_option linter.all false
set_option maxRecDepth 100000
set_option maxHeartbeats 4000000
/-! Tx1: the typed layer: encoders, calls, targets, walks, comprehensions. -/
namespace Tx
open Tw
/-- what a state is, as a list that is owned -/
class EncOk {σ : Type} (enc : σ → D) : Prop where
  own : ∀ s, ∃ xs, enc s = .lst true xs
def encU : Unit → D := fun _ => .lst true []
instance : EncOk encU := ⟨fun _ => ⟨[], rfl⟩⟩
/-- encoders of persistent data -/
class Pe {α : Type} (f : α → D) : Prop where
  p : ∀ x, pers (f x) = true
/-- .. that are no lists -/
class NL {α : Type} (f : α → D) : Prop where
  p : ∀ x, pers (f x) = true ∧ ∀ o xs, f x ≠ .lst o xs
section
variable {α β γ δ ε ζ : Type}
def eI : Int → D := .int
def eB : Bool → D := .bl
def eS : PySem.Str → D := .str
def eU : Unit → D := fun _ => .non
def eV (f : α → D) : List α → D := fun xs => .tup (xs.map f)
def eL (f : α → D) : List α → D := fun xs => .lst false (xs.map f)
def e0 : Unit → D := fun _ => .tup []
def e1 (f : α → D) : α → D := fun p => .tup [f p]
def e2 (f : α → D) (g : β → D) : α × β → D := fun p => .tup [f p.1, g p.2]
def e3 (f : α → D) (g : β → D) (h : γ → D) : α × β × γ → D := fun p => .tup [f p.1, g p.2.1, h p.2.2]
def e4 (f : α → D) (g : β → D) (h : γ → D) (i : δ → D) : α × β × γ × δ → D := fun p => .tup [f p.1, g p.2.1, h p.2.2.1, i p.2.2.2]
def e5 (f : α → D) (g : β → D) (h : γ → D) (i : δ → D) (j : ε → D) : α × β × γ × δ × ε → D := fun p => .tup [f p.1, g p.2.1, h p.2.2.1, i p.2.2.2.1, j p.2.2.2.2]
def eO (f : α → D) : Option α → D := fun o => match o with
  | none => .non
  | some x => f x
def eR : Int × Int → D := fun p => .rng p.1 p.2
def eScr : List Int → D := .scr
instance : NL eI := ⟨fun _ => ⟨rfl, fun _ _ q => by cases q⟩⟩
instance : NL eB := ⟨fun _ => ⟨rfl, fun _ _ q => by cases q⟩⟩
instance : NL eS := ⟨fun _ => ⟨rfl, fun _ _ q => by cases q⟩⟩
instance : NL eU := ⟨fun _ => ⟨rfl, fun _ _ q => by cases q⟩⟩
instance {f : α → D} : NL (eV f) := ⟨fun _ => ⟨rfl, fun _ _ q => by cases q⟩⟩
instance : NL e0 := ⟨fun _ => ⟨rfl, fun _ _ q => by cases q⟩⟩
instance {f : α → D} : NL (e1 f) := ⟨fun _ => ⟨rfl, fun _ _ q => by cases q⟩⟩
instance {f : α → D} {g : β → D} : NL (e2 f g) := ⟨fun _ => ⟨rfl, fun _ _ q => by cases q⟩⟩
instance {f : α → D} {g : β → D} {h : γ → D} : NL (e3 f g h) := ⟨fun _ => ⟨rfl, fun _ _ q => by cases q⟩⟩
instance {f : α → D} {g : β → D} {h : γ → D} {i : δ → D} : NL (e4 f g h i) := ⟨fun _ => ⟨rfl, fun _ _ q => by cases q⟩⟩
instance {f : α → D} {g : β → D} {h : γ → D} {i : δ → D} {j : ε → D} : NL (e5 f g h i j) := ⟨fun _ => ⟨rfl, fun _ _ q => by cases q⟩⟩
instance : NL eR := ⟨fun _ => ⟨rfl, fun _ _ q => by cases q⟩⟩
instance : NL eScr := ⟨fun _ => ⟨rfl, fun _ _ q => by cases q⟩⟩
instance {f : α → D} [NL f] : NL (eO f) := ⟨fun x => by
  cases x with
  | none => exact ⟨rfl, fun _ _ q => by cases q⟩
  | some x => exact NL.p x⟩
instance (priority := low) {f : α → D} [NL f] : Pe f := ⟨fun x => (NL.p x).1⟩
instance {f : α → D} : Pe (eL f) := ⟨fun _ => rfl⟩
instance {f : α → D} [Pe f] : Pe (eO f) := ⟨fun x => by
  cases x with
  | none => rfl
  | some x => exact Pe.p x⟩
theorem Pe.frz {f : α → D} [Pe f] (x : α) : Tw.frz (f x) = f x := frz_pers (Pe.p x)
theorem Pe.nh {f : α → D} [Pe f] (x : α) : f x ≠ .hole := fun q => by
  have := Pe.p (f := f) x
  rw [q] at this
  cases this
theorem Pe.all {f : α → D} [Pe f] (xs : List α) : (xs.map f).all pers = true := by
  rw [List.all_map]; exact List.all_eq_true.mpr fun x _ => Pe.p x
theorem frzs_eq : ∀ {xs : List D}, frz.frzs xs = xs.map frz
  | [] => by unfold frz.frzs; rfl
  | x :: xs => by unfold frz.frzs; rw [List.map_cons, frzs_eq]
theorem frzs_map {f : α → D} [Pe f] (xs : List α) : frz.frzs (xs.map f) = xs.map f := frzs_pers (Pe.all xs)
theorem NL.eq {f : α → D} [NL f] {x : α} {d : D} (h : Tw.frz d = f x) (hn : d ≠ .hole) : d = f x := by
  cases d with
  | lst z xs =>
    cases z with
    | true => rw [frz_lt] at h; exact absurd h.symm ((NL.p x).2 _ _)
    | false => rw [frz_lf] at h; exact h
  | int k => rw [frz_int] at h; exact h
  | bl k => rw [frz_bl] at h; exact h
  | non => rw [frz_non] at h; exact h
  | str k => rw [frz_str] at h; exact h
  | tup k => rw [frz_tup] at h; exact h
  | rng k z => rw [frz_rng] at h; exact h
  | hole => exact absurd rfl hn
  | scr k => exact h
theorem up_of {f : α → D} [Pe f] (x : α) : isUp f x (f x) := ⟨Pe.nh x, Pe.frz x⟩
/-- an owned list, read -/
theorem own_up {f : α → D} [Pe f] {x : List α} {d : D} (h : isOwn (List.map f) x d) : isUp (eL f) x d := by
  rw [show d = .lst true (x.map f) from h]
  exact ⟨(fun q => by cases q), by rw [frz_lt, frzs_map]; rfl⟩
end
section
variable {σ α β γ δ : Type}
/-- item by item -/
def All2 (Q : α → β → Prop) : List α → List β → Prop
  | [], [] => True
  | x :: xs, y :: ys => Q x y ∧ All2 Q xs ys
  | _, _ => False
theorem All2.up {f : α → D} : ∀ {xs : List α} {ds : List D}, All2 (isUp f) xs ds → ds.map frz = xs.map f
  | [], [], _ => rfl
  | x :: xs, d :: ds, h => by rw [List.map_cons, List.map_cons, h.1.2, All2.up h.2]
  | [], _ :: _, h => h.elim
  | _ :: _, [], h => h.elim
theorem All2.eq {f : α → D} [NL f] : ∀ {xs : List α} {ds : List D}, All2 (isUp f) xs ds → ds = xs.map f
  | [], [], _ => rfl
  | x :: xs, d :: ds, h => by rw [List.map_cons, NL.eq h.1.2 h.1.1, All2.eq h.2]
  | [], _ :: _, h => h.elim
  | _ :: _, [], h => h.elim
theorem comp_up {f : α → D} {xs : List α} {d : D} (h : ∃ ds, d = .lst true ds ∧ All2 (isUp f) xs ds) : isUp (eL f) xs d := by
  obtain ⟨ds, rfl, h⟩ := h
  exact ⟨(fun q => by cases q), by rw [frz_lt, frzs_eq, h.up]; rfl⟩
theorem comp_own {f : α → D} [NL f] {xs : List α} {d : D} (h : ∃ ds, d = .lst true ds ∧ All2 (isUp f) xs ds) : isOwn (List.map f) xs d := by
  obtain ⟨ds, rfl, h⟩ := h
  show D.lst true ds = .lst true (xs.map f)
  rw [← h.eq]

/-! ### targets -/
def TG (enc : σ → D) (t : Tg) (d : D) (l l' : List Sl) : Prop := ∀ s e, Has enc s l e → ∃ e', asg t d e = some e' ∧ Has enc s l' e'
def TGs (enc : σ → D) (ts : List Tg) (ds : List D) (l l' : List Sl) : Prop := ∀ s e, Has enc s l e → ∃ e', asgs ts ds e = some e' ∧ Has enc s l' e'
variable {enc : σ → D} {l l' l'' : List Sl} {T : Fns}
theorem tg_nm {i : Nat} {f : α → D} [Pe f] {v : α} (hi : i < l.length) (hl : l.set i (.up (f v)) = l') : TG enc (.nm i) (f v) l l' := fun s e hh => by
  rw [asg_nm, if_pos (by rw [← hh.1]; exact hi)]
  exact ⟨_, rfl, hl ▸ hh.set ⟨Pe.nh v, Pe.frz v⟩⟩
theorem tg_tp {ts : List Tg} {ds : List D} (h : TGs enc ts ds l l') : TG enc (.tp ts) (.tup ds) l l' := fun s e hh => by
  rw [asg_tp]; exact h s e hh
theorem tgs_nil : TGs enc [] [] l l := fun s e hh => ⟨e, asgs_nil, hh⟩
theorem tgs_cons {t : Tg} {ts : List Tg} {d : D} {ds : List D} (h : TG enc t d l l') (h2 : TGs enc ts ds l' l'') : TGs enc (t :: ts) (d :: ds) l l'' := fun s e hh => by
  obtain ⟨e1, q1, q2⟩ := h s e hh
  obtain ⟨e2, q3, q4⟩ := h2 s e1 q2
  exact ⟨e2, by rw [asgs_cons, q1]; exact q3, q4⟩

/-! ### walks -/
theorem ei_seq {a : IE} {f : α → D} {g : List α → D} {m : S σ (List α)} (ha : ER T enc l a m (isUp g)) (hg : ∀ v, walkD (g v) = some (v.map f)) : EI T enc l (.seq a) m f := .mk <| fun s e hh => by
  rw [evIt_seq]
  have := RR.bind (k := fun x => S.pure x) (f := fun d e1 => R.of (walkD (frz d)) e1) (Q' := fun v ds => ds = v.map f) (l := l) (ha.out s e hh) fun v s' d e' q hh' => ?_
  · rw [S.bind_pure] at this; exact this
  · rw [q.2, hg]
    exact ⟨_, _, rfl, rfl, hh'⟩
theorem ei_l {a : IE} {f : α → D} {m : S σ (List α)} (ha : ER T enc l a m (isUp (eL f))) : EI T enc l (.seq a) m f := ei_seq ha fun _ => rfl
theorem ei_v {a : IE} {f : α → D} {m : S σ (List α)} (ha : ER T enc l a m (isUp (eV f))) : EI T enc l (.seq a) m f := ei_seq ha fun _ => rfl
/-- a tuple of fixed length, walked -/
theorem ei_2 {a : IE} {f : α → D} {m : S σ (α × α)} {m' : S σ (List α)} (ha : ER T enc l a m (isUp (e2 f f))) (hm : m' = S.bind m fun p => S.pure [p.1, p.2]) : EI T enc l (.seq a) m' f := .mk <| fun s e hh => by
  rw [evIt_seq, hm]
  refine RR.bind (ha.out s e hh) fun v s' d e' q hh' => ?_
  rw [q.2]
  exact ⟨_, _, rfl, rfl, hh'⟩
theorem ei_3 {a : IE} {f : α → D} {m : S σ (α × α × α)} {m' : S σ (List α)} (ha : ER T enc l a m (isUp (e3 f f f))) (hm : m' = S.bind m fun p => S.pure [p.1, p.2.1, p.2.2]) : EI T enc l (.seq a) m' f := .mk <| fun s e hh => by
  rw [evIt_seq, hm]
  refine RR.bind (ha.out s e hh) fun v s' d e' q hh' => ?_
  rw [q.2]
  exact ⟨_, _, rfl, rfl, hh'⟩
theorem ei_R {a : IE} {m : S σ (Int × Int)} {m' : S σ (List Int)} (ha : ER T enc l a m (isUp eR)) (hm : m' = S.bind m fun p => S.of (rgAB p.1 p.2)) : EI T enc l (.seq a) m' eI := .mk <| fun s e hh => by
  rw [evIt_seq, hm]
  refine RR.bind (ha.out s e hh) fun v s' d e' q hh' => ?_
  rw [q.2]
  show RR enc l _ (S.of (rgAB v.1 v.2) s') (R.of (if okRg v.1 v.2 then some (rgD v.1 v.2) else none) e')
  unfold rgAB
  by_cases h : okRg v.1 v.2 = true
  · rw [if_pos h, if_pos h, rgD_eq]; exact ⟨_, _, rfl, rfl, hh'⟩
  · rw [if_neg h, if_neg h]; trivial
theorem ei_rng1 {a : IE} {m : S σ Int} {m' : S σ (List Int)} (ha : ER T enc l a m (isUp eI)) (hm : m' = S.bind m fun b => S.of (rgB b)) : EI T enc l (.rng (.cons a .nil)) m' eI := .mk <| fun s e hh => by
  rw [evIt_rng, hm, evs_cons]
  show RR enc l _ _ (((ev T a e).bind _).bind _)
  have := RR.bind (k := fun b => S.of (rgB b)) (f := fun d e1 => (R.ok [d] e1).bind fun ds e1 => R.of (itRng ds) e1) (Q' := fun v ds => ds = v.map eI) (l := l) (ha.out s e hh) fun v s' d e' q hh' => ?_
  · revert this
    cases ev T a e <;> exact id
  · cases up_int q
    show RR enc l _ (S.of (rgB v) s') (R.of (if okRg 0 v then some (rgD 0 v) else none) e')
    unfold rgB
    by_cases h : okRg 0 v = true
    · rw [if_pos h, if_pos h, rgD_eq]; exact ⟨_, _, rfl, rfl, hh'⟩
    · rw [if_neg h, if_neg h]; trivial
theorem RR.two {a b : IE} {ma : S σ Int} {mb : S σ Int} {s : σ} {e : Env} {k : Int → Int → S σ γ} {F : List D → Env → Tw.R δ} {Q : γ → δ → Prop} (ha : ER T enc l a ma (isUp eI)) (hb : ER T enc l b mb (isUp eI)) (hh : Has enc s l e)
    (h : ∀ x y s' e', Has enc s' l e' → RR enc l Q (k x y s') (F [.int x, .int y] e')) : RR enc l Q ((S.bind ma fun x => S.bind mb fun y => k x y) s) ((evs T (.cons a (.cons b .nil)) e).bind F) := by
  rw [evs_cons]
  have := RR.bind (Q' := Q) (l := l) (k := fun x => S.bind mb fun y => k x y) (f := fun d e1 => ((evs T (.cons b .nil) e1).bind fun ds e2 => R.ok (d :: ds) e2).bind F) (ha.out s e hh) fun x s1 d e1 q1 h1 => ?_
  · revert this
    cases ev T a e <;> exact id
  · rw [evs_cons]
    have := RR.bind (Q' := Q) (l := l) (k := fun y => k x y) (f := fun d' e2 => F [d, d'] e2) (hb.out s1 e1 h1) fun y s2 d2 e2 q2 h2 => ?_
    · revert this
      cases ev T b e1 <;> exact id
    · cases up_int q1
      cases up_int q2
      exact h x y s2 e2 h2
theorem ei_rng2 {a b : IE} {ma mb : S σ Int} {m' : S σ (List Int)} (ha : ER T enc l a ma (isUp eI)) (hb : ER T enc l b mb (isUp eI)) (hm : m' = S.bind ma fun a => S.bind mb fun b => S.of (rgAB a b)) : EI T enc l (.rng (.cons a (.cons b .nil))) m' eI := .mk <| fun s e hh => by
  rw [evIt_rng, hm]
  refine RR.two ha hb hh fun x y s' e' hh' => ?_
  show RR enc l _ (S.of (rgAB x y) s') (R.of (if okRg x y then some (rgD x y) else none) e')
  unfold rgAB
  by_cases h : okRg x y = true
  · rw [if_pos h, if_pos h, rgD_eq]; exact ⟨_, _, rfl, rfl, hh'⟩
  · rw [if_neg h, if_neg h]; trivial
theorem RR.oneI {a : IE} {ma : S σ Int} {s : σ} {e : Env} {k : Int → S σ γ} {F : List D → Env → Tw.R δ} {Q : γ → δ → Prop} (ha : ER T enc l a ma (isUp eI)) (hh : Has enc s l e)
    (h : ∀ x s' e', Has enc s' l e' → RR enc l Q (k x s') (F [.int x] e')) : RR enc l Q ((S.bind ma fun x => k x) s) ((evs T (.cons a .nil) e).bind F) := by
  rw [evs_cons]
  have := RR.bind (Q' := Q) (l := l) (k := k) (f := fun d e1 => F [d] e1) (ha.out s e hh) fun x s1 d e1 q1 h1 => ?_
  · revert this
    cases ev T a e <;> exact id
  · cases up_int q1
    exact h x s1 e1 h1
theorem er_rgl1 {a : IE} {ma : S σ Int} {m' : S σ (List Int)} (ha : ER T enc l a ma (isUp eI)) (hm : m' = S.bind ma fun b => S.of (rgB b)) : ER T enc l (.rgl false (.cons a .nil)) m' (isOwn (List.map eI)) := .mk <| fun s e hh => by
  rw [ev_rgl, hm]
  refine RR.oneI ha hh fun x s' e' hh' => ?_
  show RR enc l _ (S.of (rgB x) s') (R.of (if okRg 0 x then some (D.lst true (rgD 0 x)) else none) e')
  unfold rgB
  by_cases h : okRg 0 x = true
  · rw [if_pos h, if_pos h, rgD_eq]; exact ⟨_, _, rfl, rfl, hh'⟩
  · rw [if_neg h, if_neg h]; trivial
theorem er_rgt1 {a : IE} {ma : S σ Int} {m' : S σ (List Int)} (ha : ER T enc l a ma (isUp eI)) (hm : m' = S.bind ma fun b => S.of (rgB b)) : ER T enc l (.rgl true (.cons a .nil)) m' (isUp (eV eI)) := .mk <| fun s e hh => by
  rw [ev_rgl, hm]
  refine RR.oneI ha hh fun x s' e' hh' => ?_
  show RR enc l _ (S.of (rgB x) s') (R.of (if okRg 0 x then some (D.tup (rgD 0 x)) else none) e')
  unfold rgB
  by_cases h : okRg 0 x = true
  · rw [if_pos h, if_pos h, rgD_eq]; exact ⟨_, _, rfl, up_of (f := eV eI) _, hh'⟩
  · rw [if_neg h, if_neg h]; trivial
theorem er_rgl2 {a b : IE} {ma mb : S σ Int} {m' : S σ (List Int)} (ha : ER T enc l a ma (isUp eI)) (hb : ER T enc l b mb (isUp eI)) (hm : m' = S.bind ma fun a => S.bind mb fun b => S.of (rgAB a b)) : ER T enc l (.rgl false (.cons a (.cons b .nil))) m' (isOwn (List.map eI)) := .mk <| fun s e hh => by
  rw [ev_rgl, hm]
  refine RR.two ha hb hh fun x y s' e' hh' => ?_
  show RR enc l _ (S.of (rgAB x y) s') (R.of (if okRg x y then some (D.lst true (rgD x y)) else none) e')
  unfold rgAB
  by_cases h : okRg x y = true
  · rw [if_pos h, if_pos h, rgD_eq]; exact ⟨_, _, rfl, rfl, hh'⟩
  · rw [if_neg h, if_neg h]; trivial
theorem er_rgt2 {a b : IE} {ma mb : S σ Int} {m' : S σ (List Int)} (ha : ER T enc l a ma (isUp eI)) (hb : ER T enc l b mb (isUp eI)) (hm : m' = S.bind ma fun a => S.bind mb fun b => S.of (rgAB a b)) : ER T enc l (.rgl true (.cons a (.cons b .nil))) m' (isUp (eV eI)) := .mk <| fun s e hh => by
  rw [ev_rgl, hm]
  refine RR.two ha hb hh fun x y s' e' hh' => ?_
  show RR enc l _ (S.of (rgAB x y) s') (R.of (if okRg x y then some (D.tup (rgD x y)) else none) e')
  unfold rgAB
  by_cases h : okRg x y = true
  · rw [if_pos h, if_pos h, rgD_eq]; exact ⟨_, _, rfl, up_of (f := eV eI) _, hh'⟩
  · rw [if_neg h, if_neg h]; trivial
@[irreducible] def rgO (b : Int) : Option (Int × Int) := if okRg 0 b then some (0, b) else none
theorem er_rngv1 {a : IE} {ma : S σ Int} {m' : S σ (Int × Int)} (ha : ER T enc l a ma (isUp eI)) (hm : m' = S.bind ma fun b => S.of (rgO b)) : ER T enc l (.rngv (.cons a .nil)) m' (isUp eR) := .mk <| fun s e hh => by
  rw [ev_rngv, hm]
  refine RR.oneI ha hh fun x s' e' hh' => ?_
  show RR enc l _ (S.of (rgO x) s') (R.of (if okRg 0 x then some (D.rng 0 x) else none) e')
  unfold rgO
  by_cases h : okRg 0 x = true
  · rw [if_pos h, if_pos h]; exact ⟨_, _, rfl, up_of (f := eR) (0, x), hh'⟩
  · rw [if_neg h, if_neg h]; trivial

/-! ### comprehensions -/
def S.comp (c : α → S σ Bool) (f : α → S σ β) : List α → S σ (List β)
  | [] => S.pure []
  | x :: xs => S.bind (c x) fun b => if b then S.bind (f x) fun y => S.bind (S.comp c f xs) fun ys => S.pure (y :: ys) else S.comp c f xs
def S.calm (m : S σ α) : S σ α := fun s => match m s with
  | .ok p => .ok p
  | _ => .no
theorem S.calm_pure (a : α) : S.calm (S.pure a : S σ α) = S.pure a := rfl
theorem S.comp_pure (p : α → Bool) (k : α → β) : ∀ xs : List α, (S.comp (σ := σ) (fun x => S.pure (p x)) (fun x => S.pure (k x)) xs) = S.pure ((xs.filter p).map k)
  | [] => rfl
  | x :: xs => by
    unfold S.comp
    rw [S.comp_pure p k xs]
    show (if p x then S.pure (k x :: (xs.filter p).map k) else S.pure ((xs.filter p).map k)) = _
    cases h : p x with
    | true => rw [List.filter_cons_of_pos h]; rfl
    | false => rw [List.filter_cons_of_neg (by rw [h]; exact Bool.false_ne_true)]; rfl
def wipeL (own : List (PySem.Str × Nat)) (l : List Sl) : List Sl := own.foldl (fun l p => l.set p.2 .any) l
theorem wipe_has {own : List (PySem.Str × Nat)} {s : σ} : ∀ {l : List Sl} {e : Env}, Has enc s l e → Has enc s (wipeL own l) (wipeE own e) := by
  induction own with
  | nil => exact fun h => h
  | cons p own ih => exact fun h => ih (h.set trivial)
theorem wipe_wipe {own : List (PySem.Str × Nat)} : ∀ (l : List Sl) (i : Nat), i ∉ own.map Prod.snd → (wipeL own l)[i]? = l[i]? := by
  induction own with
  | nil => exact fun _ _ _ => rfl
  | cons p own ih =>
    intro l i h
    rw [List.map_cons, List.mem_cons, not_or] at h
    show (wipeL own (l.set p.2 .any))[i]? = _
    rw [ih _ _ h.2, List.getElem?_set, if_neg (fun q => h.1 q.symm)]
theorem wipe_len {own : List (PySem.Str × Nat)} : ∀ (l : List Sl), (wipeL own l).length = l.length := by
  induction own with
  | nil => exact fun _ => rfl
  | cons p own ih => exact fun l => (ih _).trans List.length_set
def noSt (l : List Sl) (i : Nat) : Bool := match l[i]? with
  | some .st => false
  | _ => true
theorem SlOk.st {s s' : σ} {sl : Sl} {d : D} (h : SlOk enc s sl d) (hn : sl ≠ .st) : SlOk enc s' sl d := by
  cases sl <;> first | exact h | exact absurd rfl hn
theorem unown_has {s s' : σ} {e1 : Env} (h1 : Has enc s l e1) : ∀ {own : List (PySem.Str × Nat)} {e2 : Env}, (own.all fun p => noSt l p.2) = true → e2.length = l.length → (∀ i sl, i ∉ own.map Prod.snd → l[i]? = some sl → ∃ d, e2[i]? = some d ∧ SlOk enc s' sl d) → Has enc s' l (unown own e1 e2) := by
  intro own
  induction own with
  | nil => exact fun _ hl h => ⟨hl.symm, fun i sl hi => h i sl (fun q => by cases q) hi⟩
  | cons p own ih =>
    intro e2 hn hl h
    rw [List.all_cons, Bool.and_eq_true] at hn
    refine ih (e2 := e2.set p.2 (gt e1 p.2)) hn.2 (by rw [List.length_set]; exact hl) fun i sl hi hs => ?_
    rw [List.getElem?_set]
    by_cases hp : p.2 = i
    · rw [if_pos hp]
      subst hp
      obtain ⟨d, hd, hs2⟩ := h1.2 _ _ hs
      have hlt : p.2 < e2.length := by
        rw [hl]; exact (List.getElem?_eq_some_iff.mp hs).1
      rw [if_pos hlt, gt_of hd]
      refine ⟨d, rfl, hs2.st fun q => ?_⟩
      have := hn.1
      unfold noSt at this
      rw [hs, q] at this
      cases this
    · rw [if_neg hp]
      refine h i sl ?_ hs
      rw [List.map_cons, List.mem_cons, not_or]
      exact ⟨fun q => hp q.symm, hi⟩
/-- errors are of no account -/
def RN (enc : σ → D) (l : List Sl) (Q : α → γ → Prop) (x : Res (α × σ)) (r : Tw.R γ) : Prop := match x with
  | .ok p => ∃ d e', r = .ok d e' ∧ Q p.1 d ∧ Has enc p.2 l e'
  | _ => True
theorem RR.rn {Q : α → γ → Prop} {x : Res (α × σ)} {r : Tw.R γ} (h : RR enc l Q x r) : RN enc l Q x r := by
  cases x with
  | ok p => exact h
  | _ => trivial
theorem RN.bind {Q : α → γ → Prop} {Q' : β → δ → Prop} {m : S σ α} {k : α → S σ β} {s : σ} {r : Tw.R γ} {f : γ → Env → Tw.R δ} (h : RN enc l Q (m s) r)
    (hk : ∀ v s' d e', Q v d → Has enc s' l e' → RN enc l' Q' (k v s') (f d e')) : RN enc l' Q' (S.bind m k s) (r.bind f) := by
  unfold S.bind
  revert h
  cases m s with
  | ok p =>
    rintro ⟨d, e', rfl, hq, hh⟩
    exact hk _ _ _ _ hq hh
  | _ => intro _; trivial
theorem RN.bindK {Q : α → γ → Prop} {Q' : β → γ → Prop} {m : S σ α} {k : α → S σ β} {s : σ} {r : Tw.R γ} (h : RN enc l Q (m s) r)
    (hk : ∀ v s' d, Q v d → ∃ v', k v s' = .ok (v', s') ∧ Q' v' d) : RN enc l Q' (S.bind m k s) r := by
  unfold S.bind
  revert h
  cases m s with
  | ok p =>
    rintro ⟨d, e', rfl, hq, hh⟩
    obtain ⟨v', h1, h2⟩ := hk p.1 p.2 d hq
    simp only []
    rw [h1]
    exact ⟨d, e', rfl, h2, hh⟩
  | _ => intro _; trivial
theorem comp_go {own : List (PySem.Str × Nat)} {tg : Tg} {g : α → D} {h : β → D} {c : α → S σ Bool} {f : α → S σ β} {C : Env → Tw.R D} {E : Env → Tw.R D} {l1 : α → List Sl} (ht : ∀ x, TG enc tg (g x) (wipeL own l) (l1 x)) (hw : ∀ x, wipeL own (l1 x) = wipeL own l) (hww : wipeL own (wipeL own l) = wipeL own l)
    (hc : ∀ x s e, Has enc s (l1 x) e → RR enc (l1 x) (isUp eB) (c x s) (C e)) (hf : ∀ x s e, Has enc s (l1 x) e → RR enc (l1 x) (isUp h) (f x s) (E e)) : ∀ (xs : List α) (acc : List D) (s : σ) (e : Env), acc.length + xs.length < 16000000 → Has enc s (wipeL own l) e →
      RN enc (wipeL own l) (fun ys ds => ∃ ds', ds = acc ++ ds' ∧ All2 (isUp h) ys ds') (S.comp c f xs s) (compGo own tg C E (xs.map g) acc e)
  | [], acc, s, e, hl, hh => ⟨acc, e, rfl, ⟨[], by rw [List.append_nil], trivial⟩, hh⟩
  | x :: xs, acc, s, e, hl, hh => by
    rw [List.length_cons] at hl
    have hh0 := wipe_has (own := own) hh
    rw [hww] at hh0
    obtain ⟨e1, h1, h2⟩ := ht x s _ hh0
    rw [List.map_cons, compGo, h1]
    unfold S.comp
    refine RN.bind (hc x s e1 h2).rn fun b s1 d e2 q2 q3 => ?_
    cases up_bl q2
    have w2 := wipe_has (own := own) q3
    rw [hw] at w2
    cases b with
    | false => exact comp_go ht hw hww hc hf xs acc s1 _ (by omega) w2
    | true =>
      rw [if_pos rfl]
      refine RN.bind (hf x s1 e2 q3).rn fun y s2 d e3 q5 q6 => ?_
      rw [if_pos (by omega)]
      have w3 := wipe_has (own := own) q6
      rw [hw] at w3
      refine RN.bindK (comp_go ht hw hww hc hf xs (acc ++ [d]) s2 _ (by rw [List.length_append, List.length_singleton]; omega) w3) fun ys s3 ds q => ?_
      obtain ⟨ds', rfl, q8⟩ := q
      exact ⟨y :: ys, rfl, d :: ds', by rw [List.append_assoc]; rfl, q5, q8⟩
/-- the condition of a comprehension -/
structure EC (T : Fns) (enc : σ → D) (l : List Sl) (cs : IEs) (m : S σ Bool) : Prop where
  out : ∀ s e, Has enc s l e → RR enc l (isUp eB) (m s) (evC T cs e)
theorem ec_nil : EC T enc l .nil (S.pure true) := .mk <| fun s e hh => ⟨_, _, rfl, bl_up, hh⟩
theorem ec_cons {a : IE} {as : IEs} {m : S σ Bool} (h : ER T enc l a m (isUp eB)) : EC T enc l (.cons a as) m := ⟨h.out⟩
theorem er_comp {own : List (PySem.Str × Nat)} {tg : Tg} {it : It} {cs : IEs} {elt : IE} {g : α → D} {h : β → D} {mi : S σ (List α)} {c : α → S σ Bool} {f : α → S σ β} {m' : S σ (List β)} (l1 : α → List Sl) (hi : EI T enc l it mi g)
    (ht : ∀ x, TG enc tg (g x) (wipeL own l) (l1 x)) (hw : ∀ x, wipeL own (l1 x) = wipeL own l) (hww : wipeL own (wipeL own l) = wipeL own l) (hn : (own.all fun p => noSt l p.2) = true) (hc : ∀ x, EC T enc (l1 x) cs (c x)) (hf : ∀ x, ER T enc (l1 x) elt (f x) (isUp h))
    (hm : m' = S.bind mi fun xs => S.calm (S.bind (S.lim xs.length) fun _ => S.comp c f xs)) : ER T enc l (.comp own tg it cs elt) m' (fun xs d => ∃ ds, d = .lst true ds ∧ All2 (isUp h) xs ds) := .mk <| fun s e hh => by
  rw [hm]
  show RR enc l _ _ ((evIt T it e).bind fun xs e1 => R.calm ((compGo own tg (evC T cs) (ev T elt) xs [] (wipeE own e1)).bind fun ys e2 => R.ok (D.lst true ys) (unown own e1 e2)))
  refine RR.bind (hi.out s e hh) fun xs s1 d e1 q h1 => ?_
  subst q
  unfold S.lim
  by_cases hl : xs.length < 16000000
  · rw [if_pos hl, S.pure_bind]
    have := comp_go ht hw hww (fun x => (hc x).out) (fun x => (hf x).out) xs [] s1 (wipeE own e1) (by rw [List.length_nil]; omega) (wipe_has h1)
    unfold S.calm
    revert this
    cases S.comp c f xs s1 with
    | ex w d => intro _; trivial
    | no => intro _; trivial
    | ok p =>
      rintro ⟨ds, e', r1, ⟨ds', r0, r2⟩, r3⟩
      rw [List.nil_append] at r0
      rw [r1, r0]
      refine ⟨.lst true ds', unown own e1 e', rfl, ⟨ds', rfl, r2⟩, unown_has h1 hn ?_ fun i sl hi hs => r3.2 i sl ?_⟩
      · rw [← r3.1, wipe_len]
      · rw [wipe_wipe _ _ hi]; exact hs
  · rw [if_neg hl]; trivial
theorem er_compv {own : List (PySem.Str × Nat)} {tg : Tg} {it : It} {cs : IEs} {elt : IE} {g : α → D} {h : β → D} {mi : S σ (List α)} {p : α → Bool} {k : α → β} {m' : S σ (List β)} (l1 : α → List Sl) (hi : EI T enc l it mi g)
    (ht : ∀ x, TG enc tg (g x) (wipeL own l) (l1 x)) (hw : ∀ x, wipeL own (l1 x) = wipeL own l) (hww : wipeL own (wipeL own l) = wipeL own l) (hn : (own.all fun p => noSt l p.2) = true) (hc : ∀ x, EC T enc (l1 x) cs (S.pure (p x))) (hf : ∀ x, ER T enc (l1 x) elt (S.pure (k x)) (isUp h))
    (hm : m' = S.bind mi fun xs => S.bind (S.lim xs.length) fun _ => S.pure ((xs.filter p).map k)) : ER T enc l (.comp own tg it cs elt) m' (fun xs d => ∃ ds, d = .lst true ds ∧ All2 (isUp h) xs ds) :=
  er_comp l1 hi ht hw hww hn hc hf (by
    rw [hm]
    congr 1
    funext xs
    rw [S.comp_pure]
    unfold S.lim
    by_cases hl : xs.length < 16000000
    · rw [if_pos hl]; rfl
    · rw [if_neg hl]; rfl)
theorem er_compm {own : List (PySem.Str × Nat)} {tg : Tg} {it : It} {elt : IE} {g : α → D} {h : β → D} {mi : S σ (List α)} {k : α → β} {m' : S σ (List β)} (l1 : α → List Sl) (hi : EI T enc l it mi g)
    (ht : ∀ x, TG enc tg (g x) (wipeL own l) (l1 x)) (hw : ∀ x, wipeL own (l1 x) = wipeL own l) (hww : wipeL own (wipeL own l) = wipeL own l) (hn : (own.all fun p => noSt l p.2) = true) (hf : ∀ x, ER T enc (l1 x) elt (S.pure (k x)) (isUp h))
    (hm : m' = S.bind mi fun xs => S.bind (S.lim xs.length) fun _ => S.pure (xs.map k)) : ER T enc l (.comp own tg it .nil elt) m' (fun xs d => ∃ ds, d = .lst true ds ∧ All2 (isUp h) xs ds) :=
  er_compv (p := fun _ => true) l1 hi ht hw hww hn (fun _ => ec_nil) hf (by
    rw [hm]
    congr 1
    funext xs
    rw [List.filter_eq_self.mpr fun _ _ => rfl])
end
end Tx

set_option Elab.async false
set_option linter.all false
set_option maxRecDepth 100000
set_option maxHeartbeats 4000000
/-! Tx2: the typed layer: calls. -/
namespace Tx
open Tw
section
variable {σ α β γ : Type} {enc : σ → D} {l l' : List Sl} {T : Fns}
def slotsA : IEs → List Nat
  | .nil => []
  | .cons a as => match a.isSlot with
    | some i => i :: slotsA as
    | none => slotsA as
def Args (l : List Sl) : IEs → List D → List Sl → Prop
  | .nil, ds, ps => ds = [] ∧ ps = []
  | .cons a as, ds, ps => ∃ d ds' p ps', ds = d :: ds' ∧ ps = p :: ps' ∧ (match a.isSlot with
      | some i => l[i]? = some p ∧ p ≠ .any
      | none => p = .up d ∧ d ≠ .hole ∧ frz d = d) ∧ Args l as ds' ps'
structure EA (T : Fns) (enc : σ → D) (l : List Sl) (as : IEs) (m : S σ α) (ps : α → List Sl) : Prop where
  out : ∀ s e, Has enc s l e → RR enc l (fun b ds => Args l as ds (ps b)) (m s) (evA T as e)
theorem ea_nil : EA T enc l .nil (S.pure ()) (fun _ => []) := .mk <| fun s e hh => ⟨[], e, rfl, ⟨rfl, rfl⟩, hh⟩
theorem ea_e {a : IE} {as : IEs} {f : α → D} {ma : S σ α} {mb : S σ β} {ps : β → List Sl} {m' : S σ (α × β)} (hs : a.isSlot = none) (ha : ER T enc l a ma (isUp f)) (hb : EA T enc l as mb ps) (hm : m' = S.bind ma fun x => S.bind mb fun y => S.pure (x, y)) :
    EA T enc l (.cons a as) m' (fun p => .up (f p.1) :: ps p.2) := .mk <| fun s e hh => by
  rw [hm, evA_cons, pre_ns hs]
  refine RR.bind (ha.out s e hh) fun v s1 d e1 q1 h1 => RR.bind (hb.out s1 e1 h1) fun w s2 d2 e2 q2 h2 => ?_
  refine ⟨_, e2, rfl, ⟨frz d, d2, .up (f v), ps w, rfl, rfl, ?_, q2⟩, h2⟩
  rw [hs]
  exact ⟨by rw [q1.2], frz_hole q1.1, frz_frz d⟩
theorem SlOk.nh [EncOk enc] {s : σ} {sl : Sl} {d : D} (h : SlOk enc s sl d) (hn : sl ≠ .any) : d ≠ .hole := by
  cases sl with
  | any => exact absurd rfl hn
  | up d => exact h.1
  | own xs => exact fun q => by cases (show D.lst true xs = .hole from (show d = .lst true xs from h).symm.trans q)
  | st =>
    obtain ⟨xs, hx⟩ := EncOk.own (enc := enc) s
    exact fun q => by cases (show D.lst true xs = .hole from hx.symm.trans ((show d = enc s from h).symm.trans q))
theorem ea_s [EncOk enc] {i : Nat} {sl : Sl} {as : IEs} {mb : S σ β} {ps : β → List Sl} (hl : l[i]? = some sl) (hn : sl ≠ .any) (hb : EA T enc l as mb ps) : EA T enc l (.cons (.slot i) as) mb (fun y => sl :: ps y) := .mk <| fun s e hh => by
  obtain ⟨d, hd, hs⟩ := hh.2 i sl hl
  have hnh := hs.nh hn
  have hp : pre (.slot i) (ev T (.slot i)) e = .ok .hole e := by
    rw [pre_slot, gt_of hd]
    cases d <;> first | rfl | exact absurd rfl hnh
  rw [evA_cons, hp, R.bind_ok]
  have := RR.bind (k := fun y => S.pure y) (f := fun ds e2 => R.ok (frz .hole :: ds) e2) (Q' := fun b ds => Args l (.cons (.slot i) as) ds (sl :: ps b)) (l := l) (hb.out s e hh) fun v s' d e' q hh' => ⟨_, e', rfl, ⟨_, _, _, _, rfl, rfl, ⟨hl, hn⟩, q⟩, hh'⟩
  rw [S.bind_pure] at this
  exact this
def Sl.ownish : Sl → Bool
  | .own _ => true
  | .st => true
  | _ => false
theorem Has.cons {s : σ} {p : Sl} {ps : List Sl} {d : D} {ds : List D} (h : SlOk enc s p d) (h2 : Has enc s ps ds) : Has enc s (p :: ps) (d :: ds) := by
  refine ⟨by rw [List.length_cons, List.length_cons, h2.1], fun i sl hi => ?_⟩
  cases i with
  | zero =>
    have : p = sl := by simpa using hi
    subst this
    exact ⟨d, rfl, h⟩
  | succ i => exact h2.2 i sl (by simpa using hi)
theorem backA_set {es : Env} {i : Nat} {d : D} : ∀ {lent : List (Nat × Nat)} {e : Env}, (∀ p ∈ lent, p.1 ≠ i) → backA es lent (e.set i d) = (backA es lent e).set i d
  | [], _, _ => rfl
  | p :: lent, e, h => by
    show backA es lent ((e.set i d).set p.1 (gt es p.2)) = (backA es lent (e.set p.1 (gt es p.2))).set i d
    rw [List.set_comm _ _ (fun q => h p List.mem_cons_self q.symm)]
    exact backA_set fun q hq => h q (List.mem_cons_of_mem _ hq)
theorem get_set_ne {e : Env} {i j : Nat} {d : D} (h : i ≠ j) : (e.set i d)[j]? = e[j]? := by rw [List.getElem?_set, if_neg h]
theorem get_set_eq {e : Env} {i : Nat} {d : D} (h : i < e.length) : (e.set i d)[i]? = some d := by rw [List.getElem?_set, if_pos rfl, if_pos h]
def Fill (enc : σ → D) (s : σ) (l : List Sl) (st : List Bool) (as : IEs) (ps : List Sl) (k : Nat) (e : Env) (r : Option (List D × List (Nat × Nat) × Env)) : Prop :=
  ∃ ds2 lent e2, r = some (ds2, lent, e2) ∧ Has enc s ps ds2 ∧ (∀ p ∈ lent, p.1 ∈ slotsA as) ∧ ∀ s' es, (∀ j p, ps[j]? = some p → st.getD (k + j) false = true → ∃ d, es[k + j]? = some d ∧ SlOk enc s' p d) →
    (backA es lent e2).length = e.length ∧ (∀ i, i ∉ slotsA as → (backA es lent e2)[i]? = e[i]?) ∧ ∀ i ∈ slotsA as, ∀ sl, l[i]? = some sl → ∃ d, (backA es lent e2)[i]? = some d ∧ SlOk enc s' sl d
theorem fill_go [EncOk enc] {st : List Bool} {s : σ} : ∀ (as : IEs) (ds : List D) (ps : List Sl) (k : Nat) (e : Env), Args l as ds ps → (slotsA as).Nodup → (∀ i ∈ slotsA as, ∀ sl, l[i]? = some sl → ∃ d, e[i]? = some d ∧ SlOk enc s sl d) →
    (∀ j p, ps[j]? = some p → p.ownish = true → st.getD (k + j) false = true) → Fill enc s l st as ps k e (fillA st as ds k e)
  | .nil, ds, ps, k, e, ha, hn, he, ho => by
    obtain ⟨rfl, rfl⟩ := ha
    exact ⟨[], [], e, rfl, ⟨rfl, fun i sl q => by simp at q⟩, (fun p q => by cases q), fun s' es _ => ⟨rfl, fun _ _ => rfl, fun i q => by cases q⟩⟩
  | .cons a as, ds, ps, k, e, ha, hn, he, ho => by
    obtain ⟨d, ds, p, ps, rfl, rfl, hp, ha⟩ := ha
    have ho' : ∀ j q, ps[j]? = some q → q.ownish = true → st.getD (k + 1 + j) false = true := fun j q h1 h2 => by
      have := ho (j + 1) q (by simpa using h1) h2
      rwa [show k + (j + 1) = k + 1 + j by omega] at this
    cases hs : a.isSlot with
    | none =>
      rw [hs] at hp
      have hsl : slotsA (.cons a as) = slotsA as := by show (match a.isSlot with | some i => _ | none => _) = _; rw [hs]
      rw [hsl] at hn he
      obtain ⟨ds2, lent, e2, h1, h2, h3, h4⟩ := fill_go as ds ps (k + 1) e ha hn he ho'
      refine ⟨d :: ds2, lent, e2, ?_, Has.cons ?_ h2, by rw [hsl]; exact h3, fun s' es q => ?_⟩
      · show (match a.isSlot with | none => _ | some i => _) = _
        rw [hs, h1]; rfl
      · rw [hp.1]; exact ⟨hp.2.1, hp.2.2⟩
      · rw [hsl]
        exact h4 s' es fun j p h5 h6 => by
          have := q (j + 1) p (by simpa using h5)
          rw [show k + (j + 1) = k + 1 + j by omega] at this
          exact this h6
    | some i =>
      rw [hs] at hp
      have hsl : slotsA (.cons a as) = i :: slotsA as := by show (match a.isSlot with | some i => _ | none => _) = _; rw [hs]
      rw [hsl] at hn he
      obtain ⟨hi, hn⟩ := List.nodup_cons.mp hn
      obtain ⟨d0, hd0, hs0⟩ := he i List.mem_cons_self p hp.1
      have hil : i < e.length := (List.getElem?_eq_some_iff.mp hd0).1
      have hnh := hs0.nh hp.2
      have hgt := gt_of hd0
      have rest : ∀ (s' : σ) (es : Env), (∀ j q, (p :: ps)[j]? = some q → st.getD (k + j) false = true → ∃ d, es[k + j]? = some d ∧ SlOk enc s' q d) → ∀ j q, ps[j]? = some q → st.getD (k + 1 + j) false = true → ∃ d, es[k + 1 + j]? = some d ∧ SlOk enc s' q d := fun s' es q j p h5 h6 => by
        have := q (j + 1) p (by simpa using h5)
        rw [show k + (j + 1) = k + 1 + j by omega] at this
        exact this h6
      -- the same environment
      have same : (∀ x, d0 ≠ .lst true x) → Fill enc s l st (.cons a as) (p :: ps) k e ((fillA st as ds (k + 1) e).map fun q => (d0 :: q.1, q.2.1, q.2.2)) := by
        intro hd
        obtain ⟨ds2, lent, e2, h1, h2, h3, h4⟩ := fill_go as ds ps (k + 1) e ha hn (fun j hj => he j (List.mem_cons_of_mem _ hj)) ho'
        refine ⟨d0 :: ds2, lent, e2, by rw [h1]; rfl, Has.cons hs0 h2, fun q hq => by rw [hsl]; exact List.mem_cons_of_mem _ (h3 q hq), fun s' es q => ?_⟩
        obtain ⟨g1, g2, g3⟩ := h4 s' es (rest s' es q)
        rw [hsl]
        refine ⟨g1, fun j hj => g2 j fun z => hj (List.mem_cons_of_mem _ z), fun j hj sl hsl' => ?_⟩
        rcases List.mem_cons.mp hj with rfl | hj
        · refine ⟨d0, (g2 j hi).trans hd0, ?_⟩
          rw [hp.1] at hsl'
          cases hsl'
          cases p with
          | st =>
            obtain ⟨xs, hx⟩ := EncOk.own (enc := enc) s
            exact absurd ((show d0 = enc s from hs0).trans hx) (hd xs)
          | any => exact trivial
          | up d => exact hs0
          | own xs => exact hs0
        · exact g3 j hj sl hsl'
      show Fill enc s l st (.cons a as) (p :: ps) k e (match a.isSlot with | none => _ | some i => _)
      rw [hs]
      simp only [hgt]
      cases d0 with
      | hole => exact absurd rfl hnh
      | lst z xs =>
        cases z with
        | false => exact same fun x q => by cases q
        | true =>
          simp only []
          cases hst : st.getD k false with
          | true =>
            rw [if_pos rfl]
            obtain ⟨ds2, lent, e2, h1, h2, h3, h4⟩ := fill_go as ds ps (k + 1) (e.set i .hole) ha hn (fun j hj sl hsl' => by
              rw [get_set_ne (by rintro rfl; exact hi hj)]
              exact he j (List.mem_cons_of_mem _ hj) sl hsl') ho'
            refine ⟨.lst true xs :: ds2, (i, k) :: lent, e2, by rw [h1]; rfl, Has.cons hs0 h2, fun q hq => ?_, fun s' es q => ?_⟩
            · rw [hsl]
              rcases List.mem_cons.mp hq with rfl | hq
              · exact List.mem_cons_self
              · exact List.mem_cons_of_mem _ (h3 q hq)
            · obtain ⟨g1, g2, g3⟩ := h4 s' es (rest s' es q)
              obtain ⟨d1, hd1, hs1⟩ := q 0 p rfl (by rw [Nat.add_zero]; exact hst)
              rw [Nat.add_zero] at hd1
              have hb : backA es ((i, k) :: lent) e2 = (backA es lent e2).set i d1 := by
                show backA es lent (e2.set i (gt es k)) = _
                rw [gt_of hd1, backA_set (by rintro p2 hp2 rfl; exact hi (h3 p2 hp2))]
              rw [hb, hsl]
              rw [List.length_set] at g1
              refine ⟨by rw [List.length_set, g1], fun j hj => ?_, fun j hj sl hsl' => ?_⟩
              · rw [List.mem_cons, not_or] at hj
                rw [get_set_ne (fun q => hj.1 q.symm), g2 j hj.2, get_set_ne (fun q => hj.1 q.symm)]
              · rcases List.mem_cons.mp hj with rfl | hj
                · rw [hp.1] at hsl'
                  cases hsl'
                  exact ⟨d1, get_set_eq (by rw [g1]; exact hil), hs1⟩
                · rw [get_set_ne (by rintro rfl; exact hi hj)]
                  exact g3 j hj sl hsl'
          | false =>
            rw [if_neg Bool.false_ne_true]
            have hup : p = .up (.lst false (frz.frzs xs)) := by
              cases p with
              | any => exact absurd rfl hp.2
              | up d =>
                have := hs0.2
                rw [frz_lt] at this
                rw [this]
              | own ys => exact absurd (ho 0 _ rfl rfl) (by rw [Nat.add_zero, hst]; exact Bool.false_ne_true)
              | st => exact absurd (ho 0 _ rfl rfl) (by rw [Nat.add_zero, hst]; exact Bool.false_ne_true)
            have hok : ∀ s' : σ, SlOk enc s' p (.lst false (frz.frzs xs)) := fun s' => by
              rw [hup]; exact ⟨(fun q => by cases q), frz_lf⟩
            obtain ⟨ds2, lent, e2, h1, h2, h3, h4⟩ := fill_go as ds ps (k + 1) (e.set i (.lst false (frz.frzs xs))) ha hn (fun j hj sl hsl' => by
              rw [get_set_ne (by rintro rfl; exact hi hj)]
              exact he j (List.mem_cons_of_mem _ hj) sl hsl') ho'
            refine ⟨.lst false (frz.frzs xs) :: ds2, lent, e2, by rw [h1]; rfl, Has.cons (hok s) h2, fun q hq => by rw [hsl]; exact List.mem_cons_of_mem _ (h3 q hq), fun s' es q => ?_⟩
            obtain ⟨g1, g2, g3⟩ := h4 s' es (rest s' es q)
            rw [List.length_set] at g1
            rw [hsl]
            refine ⟨g1, fun j hj => ?_, fun j hj sl hsl' => ?_⟩
            · rw [List.mem_cons, not_or] at hj
              rw [g2 j hj.2, get_set_ne (fun q => hj.1 q.symm)]
            · rcases List.mem_cons.mp hj with rfl | hj
              · rw [hp.1] at hsl'
                cases hsl'
                exact ⟨_, (g2 j hi).trans (get_set_eq hil), hok s'⟩
              · exact g3 j hj sl hsl'
      | _ => exact same fun x q => by cases q
/-- what is left of the parameters that are never stored to -/
def Post (enc : σ → D) (s : σ) (st : List Bool) (ps : List Sl) (es : Env) : Prop := ∀ (j : Nat) (p : Sl), ps[j]? = some p → st.getD j false = true → ∃ d, es[j]? = some d ∧ SlOk enc s p d
/-- a def, called at a level, reckons what m says -/
structure CR (F : List Fn) (wf k f : Nat) (st : List Bool) (enc : σ → D) (ps : List Sl) (m : S σ α) (Q : α → D → Prop) : Prop where
  out : ∀ s ds, Has enc s ps ds → match m s with
  | .ok p => ∃ d es, callF F wf k f ds = .ok d es ∧ Q p.1 d ∧ Post enc p.2 st ps es
  | .ex c w => ∃ s' es, callF F wf k f ds = .ex c w es ∧ Post enc s' st ps es
  | .no => True
abbrev TF (F : List Fn) (wf k : Nat) : Fns := ⟨callF F wf k, fun f => (F[f]?.map (·.stab)).getD []⟩
def ownStab : List Bool → List Sl → Bool
  | _, [] => true
  | [], p :: ps => !p.ownish && ownStab [] ps
  | b :: bs, p :: ps => (b || !p.ownish) && ownStab bs ps
theorem ownStab_at : ∀ {st : List Bool} {ps : List Sl}, ownStab st ps = true → ∀ j p, ps[j]? = some p → p.ownish = true → st.getD j false = true
  | _, [], _, j, p, h, _ => by simp at h
  | [], q :: ps, hh, j, p, h, ho => by
    unfold ownStab at hh
    rw [Bool.and_eq_true] at hh
    cases j with
    | zero =>
      have : q = p := by simpa using h
      subst this
      rw [ho] at hh; cases hh.1
    | succ j =>
      have := ownStab_at hh.2 j p (by simpa using h) ho
      simp at this
  | b :: bs, q :: ps, hh, j, p, h, ho => by
    unfold ownStab at hh
    rw [Bool.and_eq_true] at hh
    cases j with
    | zero =>
      have : q = p := by simpa using h
      subst this
      rw [ho] at hh
      simpa using hh.1
    | succ j => simpa using ownStab_at hh.2 j p (by simpa using h) ho
def stIn (l : List Sl) (is : List Nat) : Bool := (List.range l.length).all fun i => noSt l i || is.contains i
def noSts (l : List Sl) : Bool := l.all fun p => match p with
  | .st => false
  | _ => true
theorem stIn_at {l : List Sl} {is : List Nat} (h : stIn l is = true) {i : Nat} (hi : l[i]? = some .st) : i ∈ is := by
  have := List.all_eq_true.mp h i (List.mem_range.mpr (List.getElem?_eq_some_iff.mp hi).1)
  unfold noSt at this
  rw [hi] at this
  simpa using this
variable {F : List Fn} {wf k : Nat}
theorem er_call [EncOk enc] {f : Nat} {as : IEs} {ma : S σ β} {ps : β → List Sl} {mc : β → S σ γ} {m' : S σ γ} {st : List Bool} {Q : γ → D → Prop} (hst : (TF F wf k).stab f = st) (ha : EA (TF F wf k) enc l as ma ps) (hc : ∀ b, CR F wf k f st enc (ps b) (mc b) Q) (nd : (slotsA as).Nodup) (ho : ∀ b, ownStab st (ps b) = true)
    (hs : stIn l (slotsA as) = true) (hm : m' = S.bind ma mc) : ER (TF F wf k) enc l (.call f as) m' Q := .mk <| fun s e hh => by
  rw [hm]
  show RR enc l Q _ ((evA (TF F wf k) as e).bind fun ds e1 => match fillA ((TF F wf k).stab f) as ds 0 e1 with | none => .no | some (ds, lent, e2) => callEnd lent e2 ((TF F wf k).cf f ds))
  refine RR.bind (ha.out s e hh) fun b s1 ds e1 q1 h1 => ?_
  rw [hst]
  obtain ⟨ds2, lent, e2, h2, h3, h4, h5⟩ := fill_go (s := s1) (st := st) as ds (ps b) 0 e1 q1 nd (fun i _ sl hsl => h1.2 i sl hsl) (fun j p h6 h7 => by rw [Nat.zero_add]; exact ownStab_at (ho b) j p h6 h7)
  rw [h2]
  have hcb := (hc b).out s1 ds2 h3
  have fin : ∀ s2 es, Post enc s2 st (ps b) es → Has enc s2 l (backA es lent e2) := fun s2 es hp => by
    obtain ⟨g1, g2, g3⟩ := h5 s2 es fun j p h6 h7 => by
      rw [Nat.zero_add] at h7 ⊢
      exact hp j p h6 h7
    refine ⟨h1.1.trans g1.symm, fun i sl hi => ?_⟩
    by_cases his : i ∈ slotsA as
    · exact g3 i his sl hi
    · obtain ⟨d, hd, hs2⟩ := h1.2 i sl hi
      exact ⟨d, (g2 i his).trans hd, hs2.st fun q => his (stIn_at hs (q ▸ hi))⟩
  revert hcb
  show _ → RR enc l Q (mc b s1) (callEnd lent e2 (callF F wf k f ds2))
  cases mc b s1 with
  | ok p =>
    rintro ⟨d, es, q1, q2, q3⟩
    rw [q1]
    exact ⟨d, _, rfl, q2, fin _ _ q3⟩
  | ex c w =>
    rintro ⟨s', es, q1, q3⟩
    rw [q1]
    exact ⟨s', _, rfl, fin _ _ q3⟩
  | no => intro _; trivial
/-- a def without a state, called where there is one -/
theorem er_callU [EncOk enc] {f : Nat} {as : IEs} {ma : S σ β} {ps : β → List Sl} {mc : β → S Unit γ} {m' : S σ γ} {st : List Bool} {Q : γ → D → Prop} (hst : (TF F wf k).stab f = st) (ha : EA (TF F wf k) enc l as ma ps) (hc : ∀ b, CR F wf k f st encU (ps b) (mc b) Q) (nd : (slotsA as).Nodup) (ho : ∀ b, ownStab st (ps b) = true)
    (hs : ∀ b, noSts (ps b) = true) (hm : m' = S.bind ma fun b => S.up (mc b)) : ER (TF F wf k) enc l (.call f as) m' Q := .mk <| fun s e hh => by
  rw [hm]
  show RR enc l Q _ ((evA (TF F wf k) as e).bind fun ds e1 => match fillA ((TF F wf k).stab f) as ds 0 e1 with | none => .no | some (ds, lent, e2) => callEnd lent e2 ((TF F wf k).cf f ds))
  refine RR.bind (ha.out s e hh) fun b s1 ds e1 q1 h1 => ?_
  rw [hst]
  obtain ⟨ds2, lent, e2, h2, h3, h4, h5⟩ := fill_go (s := s1) (st := st) as ds (ps b) 0 e1 q1 nd (fun i _ sl hsl => h1.2 i sl hsl) (fun j p h6 h7 => by rw [Nat.zero_add]; exact ownStab_at (ho b) j p h6 h7)
  rw [h2]
  have nost : ∀ {j : Nat} {p : Sl}, (ps b)[j]? = some p → p ≠ .st := fun {j p} h6 q => by
    have := List.all_eq_true.mp (hs b) p (List.mem_of_getElem? h6)
    rw [q] at this
    cases this
  have cv : ∀ {τ τ' : Type} {en : τ → D} {en' : τ' → D} {t : τ} {t' : τ'} {p : Sl} {d : D}, p ≠ .st → SlOk en t p d → SlOk en' t' p d := fun {_ _ _ _ _ _ p _} hp h => by
    cases p <;> first | exact h | exact absurd rfl hp
  have hcb := (hc b).out () ds2 ⟨h3.1, fun i sl hi => by
    obtain ⟨d, hd, hs2⟩ := h3.2 i sl hi
    exact ⟨d, hd, cv (nost hi) hs2⟩⟩
  have fin : ∀ es, Post encU () st (ps b) es → Has enc s1 l (backA es lent e2) := fun es hp => by
    obtain ⟨g1, g2, g3⟩ := h5 s1 es fun j p h6 h7 => by
      rw [Nat.zero_add] at h7 ⊢
      obtain ⟨d, hd, hs2⟩ := hp j p h6 h7
      exact ⟨d, hd, cv (nost h6) hs2⟩
    refine ⟨h1.1.trans g1.symm, fun i sl hi => ?_⟩
    by_cases his : i ∈ slotsA as
    · exact g3 i his sl hi
    · obtain ⟨d, hd, hs2⟩ := h1.2 i sl hi
      exact ⟨d, (g2 i his).trans hd, hs2⟩
  revert hcb
  show _ → RR enc l Q (S.up (mc b) s1) (callEnd lent e2 (callF F wf k f ds2))
  unfold S.up
  cases mc b () with
  | ok p =>
    rintro ⟨d, es, q1, q2, q3⟩
    rw [q1]
    exact ⟨d, _, rfl, q2, fin _ q3⟩
  | ex c w =>
    rintro ⟨s', es, q1, q3⟩
    rw [q1]
    exact ⟨s1, _, rfl, fin _ q3⟩
  | no => intro _; trivial
end
end Tx

set_option Elab.async false
set_option linter.all false
set_option maxRecDepth 100000
set_option maxHeartbeats 4000000
/-! Tx3: the typed layer: statements and defs. -/
namespace Tx
open Tw
/-- how a turn of a loop ends -/
inductive Fl (τ ρ : Type) where
  | nx (t : τ)
  | bk (t : τ)
  | rt (r : ρ)
def Fl.el {τ ρ β : Type} (r : Fl τ ρ) (k : τ → β) (kr : ρ → β) : β := match r with
  | .nx t => k t
  | .bk t => k t
  | .rt v => kr v
section
variable {σ α β τ ρ : Type}
def S.fold (f : τ → α → S σ τ) : τ → List α → S σ τ
  | t, [] => S.pure t
  | t, x :: xs => S.bind (f t x) fun t' => S.fold f t' xs
def S.foldE (f : τ → α → S σ (Fl τ ρ)) : τ → List α → S σ (Fl τ ρ)
  | t, [] => S.pure (.nx t)
  | t, x :: xs => S.bind (f t x) fun r => match r with
    | .nx t' => S.foldE f t' xs
    | .bk t' => S.pure (.nx t')
    | .rt v => S.pure (.rt v)
def S.whil (c : τ → S σ Bool) (f : τ → S σ τ) : Nat → τ → S σ τ
  | 0, _ => S.no
  | n + 1, t => S.bind (c t) fun b => if b then S.bind (f t) fun t' => S.whil c f n t' else S.pure t
def S.whilE (c : τ → S σ Bool) (f : τ → S σ (Fl τ ρ)) : Nat → τ → S σ (Fl τ ρ)
  | 0, _ => S.no
  | n + 1, t => S.bind (c t) fun b => if b then S.bind (f t) fun r => (match r with
    | .nx t' => S.whilE c f n t'
    | .bk t' => S.pure (.nx t')
    | .rt v => S.pure (.rt v)) else S.pure (.nx t)
/-- the parameters that are never stored to are as they were -/
def KP : List Bool → List Sl → List Sl → Prop
  | true :: st, p :: ps, s :: l => p = s ∧ KP st ps l
  | false :: st, _ :: ps, _ :: l => KP st ps l
  | [], _, _ => True
  | _, [], _ => True
  | _ :: _, _ :: _, [] => False
theorem KP.at : ∀ {st : List Bool} {ps l : List Sl}, KP st ps l → ∀ (j : Nat) (p : Sl), ps[j]? = some p → st.getD j false = true → l[j]? = some p
  | [], _, _, _, j, p, _, h => by simp at h
  | _ :: _, [], _, _, j, p, h, _ => by simp at h
  | _ :: _, _ :: _, [], h, _, _, _, _ => by
    unfold KP at h
    split at h <;> first | exact h.elim | simp_all
  | true :: st, q :: ps, s :: l, h, j, p, h1, h2 => by
    cases j with
    | zero =>
      have : q = p := by simpa using h1
      rw [← this, ← h.1]; rfl
    | succ j => exact KP.at (st := st) (ps := ps) (l := l) h.2 j p (by simpa using h1) (by simpa using h2)
  | false :: st, q :: ps, s :: l, h, j, p, h1, h2 => by
    cases j with
    | zero => simp at h2
    | succ j => exact KP.at (st := st) (ps := ps) (l := l) h j p (by simpa using h1) (by simpa using h2)
variable {enc : σ → D} {l l' : List Sl} {T : Fns} {wf np : Nat} {K : List Bool × List Sl} {Φ : α → σ → O → Prop} {ss body : List IS} {a b c : IE}
theorem KP.post {s : σ} {e : Env} (h : KP K.1 K.2 l) (hh : Has enc s l e) : Post enc s K.1 K.2 e := fun j p h1 h2 => hh.2 j p (h.at j p h1 h2)
/-- what m says, and how the statements end -/
def OR (enc : σ → D) (K : List Bool × List Sl) (Φ : α → σ → O → Prop) (x : Res (α × σ)) (o : O) : Prop := match x with
  | .ok p => Φ p.1 p.2 o
  | .ex c w => ∃ s' e', o = .ex c w e' ∧ Post enc s' K.1 K.2 e'
  | .no => True
structure BR (T : Fns) (wf np : Nat) (enc : σ → D) (K : List Bool × List Sl) (l : List Sl) (ss : List IS) (m : S σ α) (Φ : α → σ → O → Prop) : Prop where
  out : ∀ s e, Has enc s l e → OR enc K Φ (m s) (exs T wf np ss e)
theorem of_seq {γ : Type} {r : Tw.R γ} {f : γ → Env → O} {g : Env → O} : (O.of r f).seq g = O.of r fun d e => (f d e).seq g := by cases r <;> rfl
theorem OR.bind {γ : Type} {Q : β → γ → Prop} {m : S σ β} {k : β → S σ α} {s : σ} {r : Tw.R γ} {f : γ → Env → O} (h : RR enc l Q (m s) r) (kp : KP K.1 K.2 l)
    (hk : ∀ v s' d e', Q v d → Has enc s' l e' → OR enc K Φ (k v s') (f d e')) : OR enc K Φ (S.bind m k s) (O.of r f) := by
  unfold S.bind
  revert h
  cases m s with
  | ok p =>
    rintro ⟨d, e', rfl, hq, hh⟩
    exact hk _ _ _ _ hq hh
  | ex c w =>
    rintro ⟨s', e', rfl, hh⟩
    exact ⟨s', e', rfl, kp.post hh⟩
  | no => intro _; trivial
/-- a slot is known less well -/
inductive LE : List Sl → List Sl → Prop
  | nil : LE [] []
  | any {s : Sl} {l l' : List Sl} : LE l l' → LE (s :: l) (.any :: l')
  | eq {s : Sl} {l l' : List Sl} : LE l l' → LE (s :: l) (s :: l')
  | ou {γ : Type} {f : γ → D} [Pe f] {x : List γ} {l l' : List Sl} : LE l l' → LE (.own (x.map f) :: l) (.up (eL f x) :: l')
theorem LE.refl : ∀ {l : List Sl}, LE l l
  | [] => .nil
  | _ :: _ => .eq LE.refl
theorem LE.at (h : LE l l') : ∀ (i : Nat) (sl : Sl), l'[i]? = some sl → ∃ s0, l[i]? = some s0 ∧ (sl = .any ∨ sl = s0 ∨ ∃ xs, s0 = .own xs ∧ xs.all pers = true ∧ sl = .up (.lst false xs)) := by
  induction h with
  | nil => intro i sl h; simp at h
  | @any s l l' _ ih =>
    intro i sl h
    cases i with
    | zero =>
      have : Sl.any = sl := by simpa using h
      exact ⟨s, rfl, .inl this.symm⟩
    | succ i => exact ih i sl (by simpa using h)
  | @eq s l l' _ ih =>
    intro i sl h
    cases i with
    | zero =>
      have : s = sl := by simpa using h
      exact ⟨s, rfl, .inr (.inl this.symm)⟩
    | succ i => exact ih i sl (by simpa using h)
  | @ou γ f _ x l l' _ ih =>
    intro i sl h
    cases i with
    | zero =>
      have : Sl.up (eL f x) = sl := by simpa using h
      exact ⟨_, rfl, .inr (.inr ⟨_, rfl, Pe.all x, this.symm⟩)⟩
    | succ i => exact ih i sl (by simpa using h)
theorem LE.len (h : LE l l') : l.length = l'.length := by
  induction h with
  | nil => rfl
  | any _ ih => rw [List.length_cons, List.length_cons, ih]
  | eq _ ih => rw [List.length_cons, List.length_cons, ih]
  | ou _ ih => rw [List.length_cons, List.length_cons, ih]
theorem LE.has (h : LE l l') {s : σ} {e : Env} (hh : Has enc s l e) : Has enc s l' e := by
  refine ⟨h.len.symm.trans hh.1, fun i sl hi => ?_⟩
  obtain ⟨s0, h0, h1⟩ := h.at i sl hi
  obtain ⟨d, hd, hs⟩ := hh.2 i s0 h0
  refine ⟨d, hd, ?_⟩
  rcases h1 with rfl | rfl | ⟨xs, rfl, hp, rfl⟩
  · trivial
  · exact hs
  · rw [show d = .lst true xs from hs]
    exact ⟨(fun q => by cases q), by rw [frz_lt, frzs_pers hp]⟩
theorem sr_le {m : S σ α} (h : LE l l') (hb : BR T wf np enc K l' ss m Φ) : BR T wf np enc K l ss m Φ := .mk <| fun s e hh => hb.out s e (h.has hh)
/-! ### ends -/
/-- a return -/
def Rt (enc : σ → D) (K : List Bool × List Sl) (Q : ρ → D → Prop) : ρ → σ → O → Prop := fun v s o => ∃ d e, o = .rt d e ∧ Q v d ∧ Post enc s K.1 K.2 e
/-- a def's end -/
def FnE (enc : σ → D) (K : List Bool × List Sl) (Q : ρ → D → Prop) : ρ → σ → O → Prop := fun v s o => Rt enc K Q v s o ∨ ∃ e, o = .nx e ∧ Q v .non ∧ Post enc s K.1 K.2 e
/-- a turn's end -/
def LpE (enc : σ → D) (lj : τ → List Sl) : τ → σ → O → Prop := fun t s o => ∃ e, (o = .nx e ∨ o = .ct e) ∧ Has enc s (lj t) e
def FlE (enc : σ → D) (K : List Bool × List Sl) (Q : ρ → D → Prop) (lj : τ → List Sl) : Fl τ ρ → σ → O → Prop := fun r s o => match r with
  | .nx t => ∃ e, (o = .nx e ∨ o = .ct e) ∧ Has enc s (lj t) e
  | .bk t => ∃ e, o = .bk e ∧ Has enc s (lj t) e
  | .rt v => Rt enc K Q v s o
/-- a block's end -/
def JE (enc : σ → D) (lj : τ → List Sl) : τ → σ → O → Prop := fun t s o => ∃ e, o = .nx e ∧ Has enc s (lj t) e
theorem sr_nilL {lj : τ → List Sl} {t : τ} {m : S σ τ} (h : LE l (lj t)) (hm : m = S.pure t) : BR T wf np enc K l [] m (LpE enc lj) := .mk <| fun s e hh => by
  rw [hm]; exact ⟨e, .inl rfl, h.has hh⟩
theorem sr_nilF {lj : τ → List Sl} {Q : ρ → D → Prop} {t : τ} {m : S σ (Fl τ ρ)} (h : LE l (lj t)) (hm : m = S.pure (.nx t)) : BR T wf np enc K l [] m (FlE enc K Q lj) := .mk <| fun s e hh => by
  rw [hm]; exact ⟨e, .inl rfl, h.has hh⟩
theorem sr_nilJ {lj : τ → List Sl} {t : τ} {m : S σ τ} (h : LE l (lj t)) (hm : m = S.pure t) : BR T wf np enc K l [] m (JE enc lj) := .mk <| fun s e hh => by
  rw [hm]; exact ⟨e, rfl, h.has hh⟩
theorem sr_nilD {Q : ρ → D → Prop} {v : ρ} {m : S σ ρ} (kp : KP K.1 K.2 l) (hq : Q v .non) (hm : m = S.pure v) : BR T wf np enc K l [] m (FnE enc K Q) := .mk <| fun s e hh => by
  rw [hm]; exact .inr ⟨e, rfl, hq, kp.post hh⟩
theorem sr_contL {lj : τ → List Sl} {t : τ} {m : S σ τ} (h : LE l (lj t)) (hm : m = S.pure t) : BR T wf np enc K l (.cont :: ss) m (LpE enc lj) := .mk <| fun s e hh => by
  rw [hm]; exact ⟨e, .inr rfl, h.has hh⟩
theorem sr_contF {lj : τ → List Sl} {Q : ρ → D → Prop} {t : τ} {m : S σ (Fl τ ρ)} (h : LE l (lj t)) (hm : m = S.pure (.nx t)) : BR T wf np enc K l (.cont :: ss) m (FlE enc K Q lj) := .mk <| fun s e hh => by
  rw [hm]; exact ⟨e, .inr rfl, h.has hh⟩
theorem sr_brk {lj : τ → List Sl} {Q : ρ → D → Prop} {t : τ} {m : S σ (Fl τ ρ)} (h : LE l (lj t)) (hm : m = S.pure (.bk t)) : BR T wf np enc K l (.brk :: ss) m (FlE enc K Q lj) := .mk <| fun s e hh => by
  rw [hm]; exact ⟨e, rfl, h.has hh⟩
/-- which returns go on as they are -/
theorem ret_any {Q : ρ → D → Prop} {m : S σ ρ} (np0 : ∀ i, a.isSlot = some i → ¬ np ≤ i) (ha : ER T enc l a m Q) (kp : KP K.1 K.2 l) {k : ρ → S σ α} (hr : ∀ v s o, Rt enc K Q v s o → OR enc K Φ (k v s) o) : BR T wf np enc K l (.ret a :: ss) (S.bind m k) Φ := .mk <| fun s e hh => by
  have e0 : ex T wf np (.ret a) e = O.of (ev T a e) fun d e1 => .rt d e1 := by
    cases hs : a.isSlot with
    | none => exact ex_ret hs
    | some i =>
      have := np0 i hs
      cases a <;> first | cases hs | skip
      rw [ex_retS, if_neg this]; rfl
  show OR enc K Φ _ ((ex T wf np (.ret a) e).seq _)
  rw [e0, of_seq]
  refine OR.bind (ha.out s e hh) kp fun v s' d e' q hh' => ?_
  exact hr v s' _ ⟨d, e', rfl, q, kp.post hh'⟩
theorem sr_ret {Q : ρ → D → Prop} {m : S σ ρ} (np0 : ∀ i, a.isSlot = some i → ¬ np ≤ i) (ha : ER T enc l a m Q) (kp : KP K.1 K.2 l) : BR T wf np enc K l (.ret a :: ss) m (FnE enc K Q) := by
  have := ret_any (ss := ss) (wf := wf) np0 ha kp (k := S.pure) (Φ := FnE enc K Q) fun v s o h => .inl h
  rwa [S.bind_pure] at this
theorem sr_retE {Q : ρ → D → Prop} {lj : τ → List Sl} {m : S σ ρ} {m' : S σ (Fl τ ρ)} (np0 : ∀ i, a.isSlot = some i → ¬ np ≤ i) (ha : ER T enc l a m Q) (kp : KP K.1 K.2 l) (hm : m' = S.bind m fun v => S.pure (.rt v)) : BR T wf np enc K l (.ret a :: ss) m' (FlE enc K Q lj) := by
  rw [hm]
  exact ret_any np0 ha kp fun v s o h => h
theorem Post.setL {s : σ} {e : Env} {i : Nat} {d : D} (h : Post enc s K.1 K.2 e) (hi : K.2.length ≤ i) : Post enc s K.1 K.2 (e.set i d) := fun j p h1 h2 => by
  have : j < K.2.length := (List.getElem?_eq_some_iff.mp h1).1
  rw [get_set_ne (by omega)]
  exact h j p h1 h2
/-- a local name's value, returned -/
theorem ret_loc {Q : ρ → D → Prop} {i : Nat} {sl : Sl} {v : ρ} (hl : l[i]? = some sl) (hq : ∀ s d, SlOk enc s sl d → d ≠ .hole ∧ Q v d) (hi : np ≤ i) (hK : K.2.length ≤ i) (kp : KP K.1 K.2 l) {m : S σ α} (hr : ∀ s o, Rt enc K Q v s o → OR enc K Φ (m s) o) : BR T wf np enc K l (.ret (.slot i) :: ss) m Φ := .mk <| fun s e hh => by
  obtain ⟨d, hd, hs⟩ := hh.2 i sl hl
  obtain ⟨hn, hv⟩ := hq s d hs
  show OR enc K Φ _ ((ex T wf np (.ret (.slot i)) e).seq _)
  rw [ex_retS, if_pos hi, gt_of hd]
  have : retD i d e = .rt d (e.set i .hole) := by cases d <;> first | rfl | exact absurd rfl hn
  rw [this]
  exact hr s _ ⟨d, _, rfl, hv, (kp.post hh).setL hK⟩
theorem sr_retU {f : ρ → D} {i : Nat} {v : ρ} {m : S σ ρ} (hl : l[i]? = some (.up (f v))) (hi : np ≤ i) (hK : K.2.length ≤ i) (kp : KP K.1 K.2 l) (hm : m = S.pure v) : BR T wf np enc K l (.ret (.slot i) :: ss) m (FnE enc K (isUp f)) :=
  ret_loc (enc := enc) (Q := isUp f) (Φ := FnE enc K (isUp f)) (m := m) hl (fun s d h => ⟨h.1, h⟩) hi hK kp fun s o h => by rw [hm]; exact .inl h
theorem sr_retO {f : ρ → List D} {i : Nat} {v : ρ} {m : S σ ρ} (hl : l[i]? = some (.own (f v))) (hi : np ≤ i) (hK : K.2.length ≤ i) (kp : KP K.1 K.2 l) (hm : m = S.pure v) : BR T wf np enc K l (.ret (.slot i) :: ss) m (FnE enc K (isOwn f)) :=
  ret_loc (enc := enc) (Q := isOwn f) (Φ := FnE enc K (isOwn f)) (m := m) hl (fun s d h => ⟨(fun q => by cases (show D.lst true _ = .hole from (show d = .lst true _ from h).symm.trans q)), h⟩) hi hK kp fun s o h => by rw [hm]; exact .inl h
theorem sr_retUE {f : ρ → D} {lj : τ → List Sl} {i : Nat} {v : ρ} {m : S σ (Fl τ ρ)} (hl : l[i]? = some (.up (f v))) (hi : np ≤ i) (hK : K.2.length ≤ i) (kp : KP K.1 K.2 l) (hm : m = S.pure (.rt v)) : BR T wf np enc K l (.ret (.slot i) :: ss) m (FlE enc K (isUp f) lj) :=
  ret_loc (enc := enc) (Q := isUp f) (Φ := FlE enc K (isUp f) lj) (m := m) hl (fun s d h => ⟨h.1, h⟩) hi hK kp fun s o h => by rw [hm]; exact h
theorem sr_retN {Q : ρ → D → Prop} {v : ρ} {m : S σ ρ} (kp : KP K.1 K.2 l) (hq : Q v .non) (hm : m = S.pure v) : BR T wf np enc K l (.retN :: ss) m (FnE enc K Q) := .mk <| fun s e hh => by
  rw [hm]; exact .inl ⟨_, e, rfl, hq, kp.post hh⟩
theorem sr_raise {β : Type} {f : β → D} {w : Nat} {m : S σ β} {m' : S σ α} (ha : ER T enc l a m (isUp f)) (kp : KP K.1 K.2 l) (hm : m' = S.bind m fun v => S.raise w (f v)) : BR T wf np enc K l (.raise w a :: ss) m' Φ := .mk <| fun s e hh => by
  rw [hm]
  show OR enc K Φ _ ((ex T wf np (.raise w a) e).seq _)
  rw [ex_raise, of_seq]
  refine OR.bind (ha.out s e hh) kp fun v s' d e' q hh' => ?_
  rw [q.2]
  exact ⟨s', e', rfl, kp.post hh'⟩
/-! ### statements that go on -/
theorem sr_pass {m : S σ α} (h : BR T wf np enc K l ss m Φ) : BR T wf np enc K l (.pass :: ss) m Φ := ⟨h.out⟩
theorem sr_drop {β : Type} {Q : β → D → Prop} {m : S σ β} {k : β → S σ α} {m' : S σ α} (ha : ER T enc l a m Q) (kp : KP K.1 K.2 l) (hm : m' = S.bind m k) (hk : ∀ v, BR T wf np enc K l ss (k v) Φ) : BR T wf np enc K l (.drop a :: ss) m' Φ := .mk <| fun s e hh => by
  rw [hm]
  show OR enc K Φ _ ((ex T wf np (.drop a) e).seq _)
  rw [ex_drop, of_seq]
  exact OR.bind (ha.out s e hh) kp fun v s' d e' q hh' => (hk v).out s' e' hh'
theorem set_any {β : Type} {Q : β → D → Prop} {i : Nat} {sl : β → Sl} {l1 : β → List Sl} {m : S σ β} {k : β → S σ α} {m' : S σ α} (ha : ER T enc l a m Q) (hq : ∀ v s d, Q v d → SlOk enc s (sl v) d) (kp : KP K.1 K.2 l) (hi : i < l.length) (hl : ∀ v, l.set i (sl v) = l1 v) (hm : m' = S.bind m k) (hk : ∀ v, BR T wf np enc K (l1 v) ss (k v) Φ) :
    BR T wf np enc K l (.set i a :: ss) m' Φ := .mk <| fun s e hh => by
  rw [hm]
  show OR enc K Φ _ ((ex T wf np (.set i a) e).seq _)
  rw [ex_set, of_seq]
  refine OR.bind (ha.out s e hh) kp fun v s' d e' q hh' => ?_
  rw [if_pos (by rw [← hh'.1]; exact hi)]
  exact (hk v).out s' _ (hl v ▸ hh'.set (hq v s' d q))
theorem sr_set {β : Type} {f : β → D} {i : Nat} {l1 : β → List Sl} {m : S σ β} {k : β → S σ α} {m' : S σ α} (ha : ER T enc l a m (isUp f)) (kp : KP K.1 K.2 l) (hi : i < l.length) (hl : ∀ v, l.set i (.up (f v)) = l1 v) (hm : m' = S.bind m k) (hk : ∀ v, BR T wf np enc K (l1 v) ss (k v) Φ) :
    BR T wf np enc K l (.set i a :: ss) m' Φ := set_any ha (sl := fun v => .up (f v)) (fun v s d q => q) kp hi hl hm hk
theorem sr_setO {β : Type} {f : β → List D} {i : Nat} {l1 : β → List Sl} {m : S σ β} {k : β → S σ α} {m' : S σ α} (ha : ER T enc l a m (isOwn f)) (kp : KP K.1 K.2 l) (hi : i < l.length) (hl : ∀ v, l.set i (.own (f v)) = l1 v) (hm : m' = S.bind m k) (hk : ∀ v, BR T wf np enc K (l1 v) ss (k v) Φ) :
    BR T wf np enc K l (.set i a :: ss) m' Φ := set_any ha (sl := fun v => .own (f v)) (fun v s d q => q) kp hi hl hm hk
/-- a list that is new: the state from here on -/
theorem sr_setS {β : Type} {i : Nat} {l1 : List Sl} {m : S Unit β} {en : β → D} {k : S β ρ} {Q : ρ → D → Prop} {m' : S Unit ρ} (ha : ER T encU l a m (fun v d => d = en v)) (kp : KP K.1 K.2 l) (hi : i < l.length) (hl : l.set i .st = l1) (hns : noSts l = true) (hps : noSts K.2 = true)
    (hm : m' = S.bind m fun v => S.run k v) (hk : BR T wf np en K l1 ss k (FnE en K Q)) : BR T wf np encU K l (.set i a :: ss) m' (FnE encU K Q) := .mk <| fun s e hh => by
  rw [hm]
  show OR encU K (FnE encU K Q) _ ((ex T wf np (.set i a) e).seq _)
  rw [ex_set, of_seq]
  have cv : ∀ {τ τ' : Type} {en : τ → D} {en' : τ' → D} {t : τ} {t' : τ'} {p : Sl} {d : D}, p ≠ .st → SlOk en t p d → SlOk en' t' p d := fun {_ _ _ _ _ _ p _} hp h => by
    cases p <;> first | exact h | exact absurd rfl hp
  have post : ∀ s e, Post en s K.1 K.2 e → Post encU () K.1 K.2 e := fun s e hp j p h1 h2 => by
    obtain ⟨d, hd, hs⟩ := hp j p h1 h2
    refine ⟨d, hd, cv (fun q => ?_) hs⟩
    have := List.all_eq_true.mp hps p (List.mem_of_getElem? h1)
    rw [q] at this; cases this
  refine OR.bind (ha.out s e hh) kp fun v s' d e' q hh' => ?_
  rw [if_pos (by rw [← hh'.1]; exact hi)]
  have hh1 : Has en v l1 (e'.set i d) := by
    rw [← hl]
    refine Has.set ⟨hh'.1, fun j sl hj => ?_⟩ q
    obtain ⟨d', hd', hs⟩ := hh'.2 j sl hj
    refine ⟨d', hd', cv (fun q => ?_) hs⟩
    have := List.all_eq_true.mp hns sl (List.mem_of_getElem? hj)
    rw [q] at this; cases this
  have := hk.out v _ hh1
  unfold S.run
  revert this
  cases k v with
  | ok p =>
    rintro (⟨d, e, h1, h2, h3⟩ | ⟨e, h1, h2, h3⟩)
    · exact .inl ⟨d, e, h1, h2, post _ _ h3⟩
    · exact .inr ⟨e, h1, h2, post _ _ h3⟩
  | ex c w => rintro ⟨s2, e2, h1, h2⟩; exact ⟨(), e2, h1, post _ _ h2⟩
  | no => intro _; trivial
theorem par2_any {β γ : Type} {Q : β → D → Prop} {Q' : γ → D → Prop} {i j : Nat} {sl : β → Sl} {sl' : γ → Sl} {l1 : β → γ → List Sl} {ma : S σ β} {mb : S σ γ} {k : β → γ → S σ α} {m' : S σ α} (ha : ER T enc l a ma Q) (hb : ER T enc l b mb Q') (hq : ∀ v s d, Q v d → SlOk enc s (sl v) d) (hq' : ∀ v s d, Q' v d → SlOk enc s (sl' v) d)
    (kp : KP K.1 K.2 l) (hi : i < l.length) (hj : j < l.length) (hl : ∀ v w, (l.set i (sl v)).set j (sl' w) = l1 v w) (hm : m' = S.bind ma fun v => S.bind mb fun w => k v w) (hk : ∀ v w, BR T wf np enc K (l1 v w) ss (k v w) Φ) :
    BR T wf np enc K l (.par [i, j] (.cons a (.cons b .nil)) :: ss) m' Φ := .mk <| fun s e hh => by
  rw [hm]
  show OR enc K Φ _ ((ex T wf np (.par [i, j] (.cons a (.cons b .nil))) e).seq _)
  rw [ex_par, of_seq, evs_cons]
  have e0 : ∀ (r : Tw.R D) (F : D → Env → Tw.R (List D)) (G : List D → Env → O), O.of (r.bind F) G = O.of r fun d e => O.of (F d e) G := fun r F G => by cases r <;> rfl
  rw [e0]
  have e1' : ∀ (r : Tw.R (List D)) (F : List D → Env → Tw.R (List D)) (G : List D → Env → O), O.of (r.bind F) G = O.of r fun d e => O.of (F d e) G := fun r F G => by cases r <;> rfl
  refine OR.bind (ha.out s e hh) kp fun v s1 d e1 q1 h1 => ?_
  rw [evs_cons, e1', e0]
  refine OR.bind (hb.out s1 e1 h1) kp fun w s2 d2 e2 q2 h2 => ?_
  rw [evs_nil]
  show OR enc K Φ _ ((if 2 = 2 ∧ [i, j].all (· < e2.length) = true then _ else _ : O).seq _)
  rw [if_pos ⟨rfl, by simp only [List.all_cons, List.all_nil, Bool.and_true, Bool.and_eq_true, decide_eq_true_eq]; rw [← h2.1]; exact ⟨hi, hj⟩⟩]
  exact (hk v w).out s2 _ (hl v w ▸ (h2.set (hq v s2 d q1)).set (hq' w s2 d2 q2))
theorem par3_any {β γ δ : Type} {Q : β → D → Prop} {Q' : γ → D → Prop} {Q'' : δ → D → Prop} {i j n : Nat} {sl : β → Sl} {sl' : γ → Sl} {sl'' : δ → Sl} {l1 : β → γ → δ → List Sl} {ma : S σ β} {mb : S σ γ} {mc : S σ δ} {k : β → γ → δ → S σ α} {m' : S σ α} (ha : ER T enc l a ma Q) (hb : ER T enc l b mb Q') (hc : ER T enc l c mc Q'')
    (hq : ∀ v s d, Q v d → SlOk enc s (sl v) d) (hq' : ∀ v s d, Q' v d → SlOk enc s (sl' v) d) (hq'' : ∀ v s d, Q'' v d → SlOk enc s (sl'' v) d)
    (kp : KP K.1 K.2 l) (hi : i < l.length) (hj : j < l.length) (hn : n < l.length) (hl : ∀ v w u, ((l.set i (sl v)).set j (sl' w)).set n (sl'' u) = l1 v w u) (hm : m' = S.bind ma fun v => S.bind mb fun w => S.bind mc fun u => k v w u) (hk : ∀ v w u, BR T wf np enc K (l1 v w u) ss (k v w u) Φ) :
    BR T wf np enc K l (.par [i, j, n] (.cons a (.cons b (.cons c .nil))) :: ss) m' Φ := .mk <| fun s e hh => by
  rw [hm]
  show OR enc K Φ _ ((ex T wf np (.par [i, j, n] (.cons a (.cons b (.cons c .nil)))) e).seq _)
  rw [ex_par, of_seq, evs_cons]
  have e0 : ∀ (r : Tw.R D) (F : D → Env → Tw.R (List D)) (G : List D → Env → O), O.of (r.bind F) G = O.of r fun d e => O.of (F d e) G := fun r F G => by cases r <;> rfl
  have e1 : ∀ (r : Tw.R (List D)) (F : List D → Env → Tw.R (List D)) (G : List D → Env → O), O.of (r.bind F) G = O.of r fun d e => O.of (F d e) G := fun r F G => by cases r <;> rfl
  rw [e0]
  refine OR.bind (ha.out s e hh) kp fun v s1 d e1' q1 h1 => ?_
  rw [evs_cons, e1, e0]
  refine OR.bind (hb.out s1 e1' h1) kp fun w s2 d2 e2 q2 h2 => ?_
  rw [evs_cons, e1, e0]
  refine OR.bind (hc.out s2 e2 h2) kp fun u s3 d3 e3 q3 h3 => ?_
  rw [evs_nil]
  show OR enc K Φ _ ((if 3 = 3 ∧ [i, j, n].all (· < e3.length) = true then _ else _ : O).seq _)
  rw [if_pos ⟨rfl, by simp only [List.all_cons, List.all_nil, Bool.and_true, Bool.and_eq_true, decide_eq_true_eq]; rw [← h3.1]; exact ⟨hi, hj, hn⟩⟩]
  exact (hk v w u).out s3 _ (hl v w u ▸ ((h3.set (hq v s3 d q1)).set (hq' w s3 d2 q2)).set (hq'' u s3 d3 q3))
theorem sr_unp {β : Type} {f : β → D} {t : Tg} {l1 : β → List Sl} {m : S σ β} {k : β → S σ α} {m' : S σ α} (ha : ER T enc l a m (isUp f)) (ht : ∀ v, TG enc t (f v) l (l1 v)) (kp : KP K.1 K.2 l) (hm : m' = S.bind m k) (hk : ∀ v, BR T wf np enc K (l1 v) ss (k v) Φ) :
    BR T wf np enc K l (.unp t a :: ss) m' Φ := .mk <| fun s e hh => by
  rw [hm]
  show OR enc K Φ _ ((ex T wf np (.unp t a) e).seq _)
  rw [ex_unp, of_seq]
  refine OR.bind (ha.out s e hh) kp fun v s' d e' q hh' => ?_
  rw [q.2]
  obtain ⟨e2, h1, h2⟩ := ht v s' e' hh'
  rw [h1]
  exact (hk v).out s' e2 h2
theorem sr_ite {mc : S σ Bool} {ma mb m' : S σ α} {sa sb : List IS} (hc : ER T enc l c mc (isUp eB)) (kp : KP K.1 K.2 l) (hm : m' = S.bind mc fun z => if z then ma else mb) (ha : BR T wf np enc K l (sa ++ ss) ma Φ) (hb : BR T wf np enc K l (sb ++ ss) mb Φ) : BR T wf np enc K l (.ite c sa sb :: ss) m' Φ := .mk <| fun s e hh => by
  rw [hm]
  show OR enc K Φ _ ((ex T wf np (.ite c sa sb) e).seq _)
  rw [ex_ite, of_seq]
  refine OR.bind (hc.out s e hh) kp fun v s' d e' q hh' => ?_
  cases up_bl q
  rw [ifO_bl]
  cases v with
  | true =>
    rw [if_pos rfl, if_pos rfl, ← exs_app]
    exact ha.out s' e' hh'
  | false =>
    rw [if_neg Bool.false_ne_true, if_neg Bool.false_ne_true, ← exs_app]
    exact hb.out s' e' hh'
theorem OR.join {lj : τ → List Sl} {k : τ → S σ α} {m : S σ τ} {s : σ} {o : O} (h : OR enc K (JE enc lj) (m s) o) (hk : ∀ t, BR T wf np enc K (lj t) ss (k t) Φ) : OR enc K Φ (S.bind m k s) (o.seq (exs T wf np ss)) := by
  unfold S.bind
  revert h
  cases m s with
  | ok p =>
    rintro ⟨e, rfl, hh⟩
    exact (hk p.1).out p.2 e hh
  | ex c w =>
    rintro ⟨s', e, rfl, hp⟩
    exact ⟨s', e, rfl, hp⟩
  | no => intro _; trivial
theorem sr_iteJ {mc : S σ Bool} {ma mb : S σ τ} {k : τ → S σ α} {m' : S σ α} {sa sb : List IS} {lj : τ → List Sl} (hc : ER T enc l c mc (isUp eB)) (kp : KP K.1 K.2 l) (hm : m' = S.bind mc fun z => S.bind (if z then ma else mb) k) (ha : BR T wf np enc K l sa ma (JE enc lj)) (hb : BR T wf np enc K l sb mb (JE enc lj)) (hk : ∀ t, BR T wf np enc K (lj t) ss (k t) Φ) :
    BR T wf np enc K l (.ite c sa sb :: ss) m' Φ := .mk <| fun s e hh => by
  rw [hm]
  show OR enc K Φ _ ((ex T wf np (.ite c sa sb) e).seq _)
  rw [ex_ite, of_seq]
  refine OR.bind (hc.out s e hh) kp fun v s' d e' q hh' => ?_
  cases up_bl q
  rw [ifO_bl]
  cases v with
  | true =>
    rw [if_pos rfl, if_pos rfl]
    exact (ha.out s' e' hh').join hk
  | false =>
    rw [if_neg Bool.false_ne_true, if_neg Bool.false_ne_true]
    exact (hb.out s' e' hh').join hk
/-! ### loops -/
theorem forE_go {β : Type} {Q : ρ → D → Prop} {t : Tg} {g : β → D} {lj : τ → List Sl} {lb : τ → β → List Sl} {f : τ → β → S σ (Fl τ ρ)} (ht : ∀ v x, TG enc t (g x) (lj v) (lb v x)) (hb : ∀ v x, BR T wf np enc K (lb v x) body (f v x) (FlE enc K Q lj)) : ∀ (xs : List β) (v : τ) (s : σ) (e : Env), Has enc s (lj v) e →
    OR enc K (fun r s o => match r with | .nx t => ∃ e, o = .nx e ∧ Has enc s (lj t) e | .bk t => ∃ e, o = .nx e ∧ Has enc s (lj t) e | .rt v => Rt enc K Q v s o) (S.foldE f v xs s) (forGo t (exs T wf np body) (xs.map g) e)
  | [], v, s, e, hh => ⟨e, rfl, hh⟩
  | x :: xs, v, s, e, hh => by
    obtain ⟨e1, h1, h2⟩ := ht v x s e hh
    rw [List.map_cons, forGo, h1]
    unfold S.foldE S.bind
    have h3 := (hb v x).out s e1 h2
    simp only []
    revert h3
    cases f v x s with
    | ex c w =>
      rintro ⟨s', e', h3, h4⟩
      simp only [h3]
      exact ⟨s', e', rfl, h4⟩
    | no => intro _; trivial
    | ok p =>
      obtain ⟨r, s1⟩ := p
      cases r with
      | nx t' =>
        rintro ⟨e2, h3 | h3, h4⟩
        · simp only [h3]; exact forE_go ht hb xs t' s1 e2 h4
        · simp only [h3]; exact forE_go ht hb xs t' s1 e2 h4
      | bk t' =>
        rintro ⟨e2, h3, h4⟩
        simp only [h3]
        exact ⟨e2, rfl, h4⟩
      | rt r =>
        rintro ⟨d, e2, h3, h4⟩
        simp only [h3]
        exact ⟨d, e2, rfl, h4⟩
theorem sr_forE {β : Type} {Q : ρ → D → Prop} {t : Tg} {it : It} {g : β → D} {lj : τ → List Sl} {lb : τ → β → List Sl} {mi : S σ (List β)} {f : τ → β → S σ (Fl τ ρ)} {t0 : τ} {k : τ → S σ α} {kr : ρ → S σ α} {m' : S σ α} (hi : EI T enc l it mi g) (kp : KP K.1 K.2 l) (h0 : LE l (lj t0))
    (ht : ∀ v x, TG enc t (g x) (lj v) (lb v x)) (hr : ∀ v s o, Rt enc K Q v s o → OR enc K Φ (kr v s) o) (hm : m' = S.bind mi fun xs => S.bind (S.foldE f t0 xs) fun r => r.el k kr) (hb : ∀ v x, BR T wf np enc K (lb v x) body (f v x) (FlE enc K Q lj)) (hk : ∀ t, BR T wf np enc K (lj t) ss (k t) Φ) :
    BR T wf np enc K l (.for_ t it body :: ss) m' Φ := .mk <| fun s e hh => by
  rw [hm]
  show OR enc K Φ _ ((ex T wf np (.for_ t it body) e).seq _)
  rw [ex_for, of_seq]
  refine OR.bind (hi.out s e hh) kp fun xs s1 d e1 q1 h1 => ?_
  subst q1
  have := forE_go ht hb xs t0 s1 e1 (h0.has h1)
  unfold S.bind
  revert this
  cases S.foldE f t0 xs s1 with
  | ex c w =>
    rintro ⟨s', e', h3, h4⟩
    simp only [h3]
    exact ⟨s', e', rfl, h4⟩
  | no => intro _; trivial
  | ok p =>
    obtain ⟨r, s2⟩ := p
    cases r with
    | nx t' => rintro ⟨e2, h3, h4⟩; rw [h3]; exact (hk t').out s2 e2 h4
    | bk t' => rintro ⟨e2, h3, h4⟩; rw [h3]; exact (hk t').out s2 e2 h4
    | rt v =>
      rintro ⟨d, e2, h3, h4⟩
      rw [h3]
      exact hr v s2 _ ⟨d, e2, rfl, h4⟩
theorem fold_nx {β : Type} (f : τ → β → S σ τ) : ∀ (xs : List β) (t : τ), (S.foldE (ρ := Unit) (fun t x => S.bind (f t x) fun t' => S.pure (.nx t')) t xs) = S.bind (S.fold f t xs) fun t' => S.pure (.nx t')
  | [], t => rfl
  | x :: xs, t => by
    unfold S.foldE S.fold
    rw [S.bind_assoc, S.bind_assoc]
    congr 1
    funext t'
    exact fold_nx f xs t'
theorem sr_for {β : Type} {t : Tg} {it : It} {g : β → D} {lj : τ → List Sl} {lb : τ → β → List Sl} {mi : S σ (List β)} {f : τ → β → S σ τ} {t0 : τ} {k : τ → S σ α} {m' : S σ α} (hi : EI T enc l it mi g) (kp : KP K.1 K.2 l) (h0 : LE l (lj t0))
    (ht : ∀ v x, TG enc t (g x) (lj v) (lb v x)) (hm : m' = S.bind mi fun xs => S.bind (S.fold f t0 xs) k) (hb : ∀ v x, BR T wf np enc K (lb v x) body (f v x) (LpE enc lj)) (hk : ∀ t, BR T wf np enc K (lj t) ss (k t) Φ) :
    BR T wf np enc K l (.for_ t it body :: ss) m' Φ := by
  refine sr_forE (ρ := Unit) (Q := fun _ _ => False) (lb := lb) (f := fun t x => S.bind (f t x) fun t' => S.pure (.nx t')) (t0 := t0) (k := k) (kr := fun _ => S.no) hi kp h0 ht (fun v s o h => trivial) ?_ (fun v x => ⟨fun s e hh => ?_⟩) hk
  · rw [hm]
    congr 1
    funext xs
    rw [fold_nx, S.bind_assoc]
    rfl
  · have := (hb v x).out s e hh
    unfold S.bind
    revert this
    cases f v x s with
    | ok p => exact fun h => h
    | ex c w => exact fun h => h
    | no => intro _; trivial
theorem whilE_go {Q : ρ → D → Prop} {lj : τ → List Sl} {cm : τ → S σ Bool} {f : τ → S σ (Fl τ ρ)} (kp : ∀ v, KP K.1 K.2 (lj v)) (hc : ∀ v, ER T enc (lj v) c (cm v) (isUp eB)) (hb : ∀ v, BR T wf np enc K (lj v) body (f v) (FlE enc K Q lj)) : ∀ (n : Nat) (v : τ) (s : σ) (e : Env), Has enc s (lj v) e →
    OR enc K (fun r s o => match r with | .nx t => ∃ e, o = .nx e ∧ Has enc s (lj t) e | .bk t => ∃ e, o = .nx e ∧ Has enc s (lj t) e | .rt v => Rt enc K Q v s o) (S.whilE cm f n v s) (whileGo (ev T c) (exs T wf np body) n e)
  | 0, v, s, e, hh => trivial
  | n + 1, v, s, e, hh => by
    unfold S.whilE
    show OR enc K _ _ (O.of (ev T c e) _)
    refine OR.bind ((hc v).out s e hh) (kp v) fun b s1 d e1 q1 h1 => ?_
    cases up_bl q1
    cases b with
    | false => exact ⟨e1, rfl, h1⟩
    | true =>
      rw [if_pos rfl]
      unfold S.bind
      have h3 := (hb v).out s1 e1 h1
      simp only []
      revert h3
      cases f v s1 with
      | ex c w =>
        rintro ⟨s', e', h3, h4⟩
        simp only [h3]
        exact ⟨s', e', rfl, h4⟩
      | no => intro _; trivial
      | ok p =>
        obtain ⟨r, s2⟩ := p
        cases r with
        | nx t' =>
          rintro ⟨e2, h3 | h3, h4⟩
          · simp only [h3]; exact whilE_go kp hc hb n t' s2 e2 h4
          · simp only [h3]; exact whilE_go kp hc hb n t' s2 e2 h4
        | bk t' =>
          rintro ⟨e2, h3, h4⟩
          simp only [h3]
          exact ⟨e2, rfl, h4⟩
        | rt r =>
          rintro ⟨d, e2, h3, h4⟩
          simp only [h3]
          exact ⟨d, e2, rfl, h4⟩
theorem sr_whilE {Q : ρ → D → Prop} {lj : τ → List Sl} {cm : τ → S σ Bool} {f : τ → S σ (Fl τ ρ)} {t0 : τ} {k : τ → S σ α} {kr : ρ → S σ α} {m' : S σ α} (h0 : LE l (lj t0)) (kp : ∀ v, KP K.1 K.2 (lj v)) (hc : ∀ v, ER T enc (lj v) c (cm v) (isUp eB))
    (hr : ∀ v s o, Rt enc K Q v s o → OR enc K Φ (kr v s) o) (hm : m' = S.bind (S.whilE cm f wf t0) fun r => r.el k kr) (hb : ∀ v, BR T wf np enc K (lj v) body (f v) (FlE enc K Q lj)) (hk : ∀ t, BR T wf np enc K (lj t) ss (k t) Φ) :
    BR T wf np enc K l (.whil c body :: ss) m' Φ := .mk <| fun s e hh => by
  rw [hm]
  show OR enc K Φ _ ((whileGo (ev T c) (exs T wf np body) wf e).seq _)
  have := whilE_go kp hc hb wf t0 s e (h0.has hh)
  unfold S.bind
  revert this
  cases S.whilE cm f wf t0 s with
  | ex c w =>
    rintro ⟨s', e', h3, h4⟩
    simp only [h3]
    exact ⟨s', e', rfl, h4⟩
  | no => intro _; trivial
  | ok p =>
    obtain ⟨r, s2⟩ := p
    cases r with
    | nx t' => rintro ⟨e2, h3, h4⟩; rw [h3]; exact (hk t').out s2 e2 h4
    | bk t' => rintro ⟨e2, h3, h4⟩; rw [h3]; exact (hk t').out s2 e2 h4
    | rt v =>
      rintro ⟨d, e2, h3, h4⟩
      rw [h3]
      exact hr v s2 _ ⟨d, e2, rfl, h4⟩
theorem whil_nx (c : τ → S σ Bool) (f : τ → S σ τ) : ∀ (n : Nat) (t : τ), (S.whilE (ρ := Unit) c (fun t => S.bind (f t) fun t' => S.pure (.nx t')) n t) = S.bind (S.whil c f n t) fun t' => S.pure (.nx t')
  | 0, t => rfl
  | n + 1, t => by
    unfold S.whilE S.whil
    rw [S.bind_assoc (c t)]
    congr 1
    funext b
    cases b with
    | false => rfl
    | true =>
      rw [if_pos rfl, if_pos rfl, S.bind_assoc, S.bind_assoc]
      congr 1
      funext t'
      exact whil_nx c f n t'
theorem sr_whil {lj : τ → List Sl} {cm : τ → S σ Bool} {f : τ → S σ τ} {t0 : τ} {k : τ → S σ α} {m' : S σ α} (h0 : LE l (lj t0)) (kp : ∀ v, KP K.1 K.2 (lj v)) (hc : ∀ v, ER T enc (lj v) c (cm v) (isUp eB))
    (hm : m' = S.bind (S.whil cm f wf t0) k) (hb : ∀ v, BR T wf np enc K (lj v) body (f v) (LpE enc lj)) (hk : ∀ t, BR T wf np enc K (lj t) ss (k t) Φ) :
    BR T wf np enc K l (.whil c body :: ss) m' Φ := by
  refine sr_whilE (ρ := Unit) (Q := fun _ _ => False) (cm := cm) (f := fun t => S.bind (f t) fun t' => S.pure (.nx t')) (t0 := t0) (k := k) (kr := fun _ => S.no) h0 kp hc (fun v s o h => trivial) ?_ (fun v => ⟨fun s e hh => ?_⟩) hk
  · rw [hm, whil_nx, S.bind_assoc]
    rfl
  · have := (hb v).out s e hh
    unfold S.bind
    revert this
    cases f v s with
    | ok p => exact fun h => h
    | ex c w => exact fun h => h
    | no => intro _; trivial
/-! ### defs -/
theorem cr_fn {F : List Fn} {f d : Nat} {g : Fn} {ps : List Sl} {st : List Bool} {m : S σ α} {Q : α → D → Prop} (hF : F[f]? = some g) (hst : g.stab = st) (hl : ps.length = g.np) (hsl : st.length = g.np)
    (hb : ∀ k, d ≤ k → BR (TF F wf k) wf g.np enc (st, ps) (ps ++ List.replicate (g.ns - g.np) .any) g.body m (FnE enc (st, ps) Q)) : ∀ k, d + 1 ≤ k → CR F wf k f st enc ps m Q := by
  intro k hk
  refine ⟨fun s ds hh => ?_⟩
  obtain ⟨k, rfl⟩ : ∃ k', k = k' + 1 := ⟨k - 1, by omega⟩
  have hlen : ds.length = g.np := by rw [← hh.1, hl]
  have e0 : callF F wf (k + 1) f ds = Tw.finish g.np g.stab (exs (TF F wf k) wf g.np g.body (ds ++ List.replicate (g.ns - g.np) .hole)) := by
    show (match F[f]? with | none => _ | some g => _) = _
    rw [hF]
    exact if_pos hlen
  have hh2 : Has enc s (ps ++ List.replicate (g.ns - g.np) .any) (ds ++ List.replicate (g.ns - g.np) .hole) := by
    refine ⟨by rw [List.length_append, List.length_append, List.length_replicate, List.length_replicate, hh.1], fun i sl hi => ?_⟩
    by_cases hlt : i < ps.length
    · rw [List.getElem?_append_left hlt] at hi
      rw [List.getElem?_append_left (by rw [← hh.1]; exact hlt)]
      exact hh.2 i sl hi
    · rw [List.getElem?_append_right (by omega)] at hi
      rw [List.getElem?_append_right (by rw [← hh.1]; omega)]
      have hr := List.getElem?_eq_some_iff.mp hi
      have : i - ps.length < g.ns - g.np := by
        have := hr.1
        rwa [List.length_replicate] at this
      refine ⟨.hole, by rw [← hh.1, List.getElem?_replicate, if_pos this], ?_⟩
      have : sl = .any := by
        have := hr.2
        rw [List.getElem_replicate] at this
        exact this.symm
      rw [this]; trivial
  have hk2 := (hb k (by omega)).out s _ hh2
  rw [e0]
  have post : ∀ s' e, Post enc s' st ps e → Post enc s' st ps (Tw.finish.keep g.np g.stab e) := fun s' e hp j p h1 h2 => by
    obtain ⟨d, hd, hs⟩ := hp j p h1 h2
    refine ⟨d, ?_, hs⟩
    have hj : j < ps.length := (List.getElem?_eq_some_iff.mp h1).1
    rw [keep_eq, List.getElem?_zipWith, List.getElem?_take_of_lt (by rw [← hl]; exact hj), hd, hst]
    have hj2 : j < st.length := by rw [hsl, ← hl]; exact hj
    rw [List.getElem?_eq_getElem hj2]
    rw [List.getD_eq_getElem?_getD, List.getElem?_eq_getElem hj2, Option.getD_some] at h2
    show some (if st[j] = true then d else .hole) = _
    rw [if_pos h2]
  revert hk2
  cases m s with
  | ok p =>
    rintro (⟨d, e, h1, h2, h3⟩ | ⟨e, h1, h2, h3⟩)
    · exact ⟨d, _, by rw [h1]; rfl, h2, post _ _ h3⟩
    · exact ⟨.non, _, by rw [h1]; rfl, h2, post _ _ h3⟩
  | ex c w =>
    rintro ⟨s', e, h1, h3⟩
    exact ⟨s', _, by rw [h1]; rfl, post _ _ h3⟩
  | no => intro _; trivial
end
end Tx

set_option Elab.async false
set_option linter.all false
set_option maxRecDepth 100000
set_option maxHeartbeats 4000000
/-! Tx4: the typed layer: writes to lists; operations by type. -/
namespace Tx
open Tw
section
variable {σ α β γ δ τ ρ : Type} {enc : σ → D} {l l' : List Sl} {T : Fns} {wf np : Nat} {K : List Bool × List Sl} {Φ : α → σ → O → Prop} {ss body : List IS} {a b c i j : IE}
@[irreducible] def setI (xs : List α) (i : Int) (v : α) : Option (List α) := (L2.ixN xs.length i).map fun j => xs.set j v
@[irreducible] def popI (xs : List α) (i : Int) : Option (α × List α) := if smallI i then (L2.ixN xs.length i).bind fun j => (xs[j]?).map fun y => (y, xs.eraseIdx j) else none
theorem map_erase {f : α → β} : ∀ (xs : List α) (j : Nat), (xs.map f).eraseIdx j = (xs.eraseIdx j).map f
  | [], _ => rfl
  | x :: xs, 0 => rfl
  | x :: xs, j + 1 => by
    show f x :: (xs.map f).eraseIdx j = f x :: (xs.eraseIdx j).map f
    rw [map_erase xs j]
theorem own_gt {s : σ} {e : Env} {x : Nat} {ys : List D} (hh : Has enc s l e) (hl : l[x]? = some (.own ys)) : gt e x = .lst true ys := by
  obtain ⟨d, hd, hs⟩ := hh.2 x _ hl
  rw [gt_of hd]; exact hs
theorem of_of {κ : Type} {r : Tw.R κ} {f : κ → Env → Tw.R D} {g : D → Env → O} : O.of (r.bind f) g = O.of r fun d e => O.of (f d e) g := by cases r <;> rfl
theorem sr_append {x : Nat} {xs : List β} {f : β → D} {l1 : β → List Sl} {Q : β → D → Prop} {m : S σ β} {k : β → S σ α} {m' : S σ α} (hx : l[x]? = some (.own (xs.map f))) (ha : ER T enc l a m Q) (hq : ∀ v d, Q v d → d = f v) (kp : KP K.1 K.2 l) (hl : ∀ v, l.set x (.own ((xs ++ [v]).map f)) = l1 v)
    (hm : m' = S.bind m fun v => S.bind (S.lim xs.length) fun _ => k v) (hk : ∀ v, BR T wf np enc K (l1 v) ss (k v) Φ) : BR T wf np enc K l (.append x .nil a :: ss) m' Φ := .mk <| fun s e hh => by
  rw [hm]
  show OR enc K Φ _ ((ex T wf np (.append x .nil a) e).seq _)
  rw [ex_append, of_seq]
  have h0 := own_gt hh hx
  have e0 : apR T x .nil a e = (ev T a e).bind (apK x [] e) := by
    show (evP x (evs T .nil) e).bind (fun is e1 => if ownAt x is e1 then (ev T a (hide is x e1)).bind (apK x is e1) else .no) = _
    rw [evP_eq, h0]
    show (if ownAt x [] e then (ev T a e).bind (apK x [] e) else .no) = _
    rw [if_pos (own_lt h0)]
  rw [e0, of_of]
  refine OR.bind (ha.out s e hh) kp fun v s' d e' q hh' => ?_
  have h1 := own_gt hh' hx
  unfold S.lim
  have e1 : apK x [] e d e' = if xs.length < 16000000 then .ok .non (e'.set x (.lst true (xs.map f ++ [d]))) else .no := by
    show onSlot (fun xs => if xs.length < 16000000 then some (.non, xs ++ [d]) else none) x [] e' = _
    rw [on_0 h1, List.length_map]
    by_cases hl : xs.length < 16000000
    · rw [if_pos hl, if_pos hl]
    · rw [if_neg hl, if_neg hl]
  rw [e1]
  by_cases hlt : xs.length < 16000000
  · rw [if_pos hlt, if_pos hlt]
    refine (hk v).out s' _ (hl v ▸ hh'.set ?_)
    show D.lst true _ = .lst true _
    rw [hq v d q, List.map_append]; rfl
  · rw [if_neg hlt]; trivial
theorem sr_extend {x : Nat} {xs : List β} {f : β → D} {l1 : List β → List Sl} {m : S σ (List β)} {k : List β → S σ α} {m' : S σ α} (hx : l[x]? = some (.own (xs.map f))) (ha : ER T enc l a m (isUp (eL f))) (kp : KP K.1 K.2 l) (hl : ∀ v, l.set x (.own ((xs ++ v).map f)) = l1 v)
    (hm : m' = S.bind m fun v => S.bind (S.lim (xs.length + v.length)) fun _ => k v) (hk : ∀ v, BR T wf np enc K (l1 v) ss (k v) Φ) : BR T wf np enc K l (.extend x .nil a :: ss) m' Φ := .mk <| fun s e hh => by
  rw [hm]
  show OR enc K Φ _ ((O.of (exR T x .nil a e) fun _ e1 => .nx e1).seq _)
  rw [of_seq]
  have h0 := own_gt hh hx
  have e0 : exR T x .nil a e = (ev T a e).bind (exK x [] e) := by
    show (evP x (evs T .nil) e).bind (fun is e1 => if ownAt x is e1 then (ev T a (hide is x e1)).bind (exK x is e1) else .no) = _
    rw [evP_eq, h0]
    show (if ownAt x [] e then (ev T a e).bind (exK x [] e) else .no) = _
    rw [if_pos (own_lt h0)]
  rw [e0, of_of]
  refine OR.bind (ha.out s e hh) kp fun v s' d e' q hh' => ?_
  have h1 := own_gt hh' hx
  unfold S.lim
  have e1 : exK x [] e d e' = if xs.length + v.length < 16000000 then .ok .non (e'.set x (.lst true (xs.map f ++ v.map f))) else .no := by
    unfold exK
    rw [q.2]
    show onSlot (fun xs => if xs.length + (v.map f).length < 16000000 then some (.non, xs ++ v.map f) else none) x [] e' = _
    rw [on_0 h1, List.length_map, List.length_map]
    by_cases hl : xs.length + v.length < 16000000
    · rw [if_pos hl, if_pos hl]
    · rw [if_neg hl, if_neg hl]
  rw [e1]
  by_cases hlt : xs.length + v.length < 16000000
  · rw [if_pos hlt, if_pos hlt]
    refine (hk v).out s' _ (hl v ▸ hh'.set ?_)
    show D.lst true _ = .lst true _
    rw [List.map_append]
  · rw [if_neg hlt]; trivial
/-- x[i] = d, the datum known -/
theorem setR_go {x : Nat} {xs : List β} {f : β → D} {v : β} {m : S σ Int} {k : List β → S σ α} {G : Env → O} {s : σ} {e : Env} (hx : l[x]? = some (.own (xs.map f))) (hi : ER T enc l i m (isUp eI)) (kp : KP K.1 K.2 l) (hh : Has enc s l e)
    (hG : ∀ xs' s' e', Has enc s' (l.set x (.own (xs'.map f))) e' → OR enc K Φ (k xs' s') (G e')) :
    OR enc K Φ ((S.bind m fun i => S.bind (S.of (setI xs i v)) k) s) (O.of (setR T x .nil i (f v) e) fun _ e2 => G e2) := by
  have h0 := own_gt hh hx
  have e0 : setR T x .nil i (f v) e = (ev T i e).bind (setK x [] e (f v)) := by
    show (evP x (evs T .nil) e).bind (fun is e1 => if ownAt x is e1 then (ev T i (hide is x e1)).bind (setK x is e1 (f v)) else .no) = _
    rw [evP_eq, h0]
    show (if ownAt x [] e then (ev T i e).bind (setK x [] e (f v)) else .no) = _
    rw [if_pos (own_lt h0)]
  rw [e0, of_of]
  refine OR.bind (hi.out s e hh) kp fun n s' d e' q hh' => ?_
  cases up_int q
  have h1 := own_gt hh' hx
  have e1 : setK x [] e (f v) (.int n) e' = match (L2.ixN xs.length n).map (fun j => xs.set j v) with | some ys => .ok .non (e'.set x (.lst true (ys.map f))) | none => .no := by
    show onSlot (fun xs => (L2.ixN xs.length n).map fun j => (.non, xs.set j (f v))) x [] e' = _
    rw [on_0 h1, List.length_map]
    cases L2.ixN xs.length n with
    | none => rfl
    | some j =>
      show R.ok D.non (e'.set x (.lst true ((xs.map f).set j (f v)))) = R.ok D.non (e'.set x (.lst true ((xs.set j v).map f)))
      rw [List.map_set]
  rw [e1]
  unfold setI
  cases (L2.ixN xs.length n).map (fun j => xs.set j v) with
  | none => trivial
  | some ys => exact hG ys s' _ (hh'.set rfl)
theorem sr_setIx {x : Nat} {xs : List β} {f : β → D} {l1 : List β → List Sl} {ma : S σ β} {mi : S σ Int} {k : List β → S σ α} {m' : S σ α} (hx : l[x]? = some (.own (xs.map f))) (ha : ER T enc l a ma (isUp f)) (hi : ER T enc l i mi (isUp eI)) (kp : KP K.1 K.2 l) (hl : ∀ xs', l.set x (.own (xs'.map f)) = l1 xs')
    (hm : m' = S.bind ma fun v => S.bind mi fun i => S.bind (S.of (setI xs i v)) k) (hk : ∀ xs', BR T wf np enc K (l1 xs') ss (k xs') Φ) : BR T wf np enc K l (.setIx x .nil i a :: ss) m' Φ := .mk <| fun s e hh => by
  rw [hm]
  show OR enc K Φ _ ((ex T wf np (.setIx x .nil i a) e).seq _)
  rw [ex_setIx, of_seq]
  refine OR.bind (ha.out s e hh) kp fun v s' d e' q hh' => ?_
  rw [q.2, of_seq]
  exact setR_go (G := fun e2 => exs T wf np ss e2) hx hi kp hh' fun xs' s2 e2 h2 => (hk xs').out s2 e2 (hl xs' ▸ h2)
theorem KP.set {x : Nat} {sl sl' : Sl} (kp : KP K.1 K.2 l) : True := trivial
theorem sr_unpSub2 {x y : Nat} {xs : List β} {f : β → D} {g : γ → D} {ys : List β → List γ} {l1 : List β → List Sl} {l2 : List β → List γ → List Sl} {ma : S σ β} {mb : S σ γ} {mi : S σ Int} {mj : List β → S σ Int} {k : List β → List γ → S σ α} {m' : S σ α}
    (ha : ER T enc l a ma (isUp f)) (hb : ER T enc l b mb (isUp g)) (hx : l[x]? = some (.own (xs.map f))) (hi : ER T enc l i mi (isUp eI)) (kp : KP K.1 K.2 l) (hl : ∀ xs', l.set x (.own (xs'.map f)) = l1 xs') (kp1 : ∀ xs', KP K.1 K.2 (l1 xs'))
    (hy : ∀ xs', (l1 xs')[y]? = some (.own ((ys xs').map g))) (hj : ∀ xs', ER T enc (l1 xs') j (mj xs') (isUp eI)) (hl2 : ∀ xs' ys', (l1 xs').set y (.own (ys'.map g)) = l2 xs' ys')
    (hm : m' = S.bind ma fun v => S.bind mb fun w => S.bind mi fun i => S.bind (S.of (setI xs i v)) fun xs' => S.bind (mj xs') fun j => S.bind (S.of (setI (ys xs') j w)) fun ys' => k xs' ys') (hk : ∀ xs' ys', BR T wf np enc K (l2 xs' ys') ss (k xs' ys') Φ) :
    BR T wf np enc K l (.unpSub [(x, i), (y, j)] (.cons a (.cons b .nil)) :: ss) m' Φ := .mk <| fun s e hh => by
  rw [hm]
  show OR enc K Φ _ ((ex T wf np (.unpSub [(x, i), (y, j)] (.cons a (.cons b .nil))) e).seq _)
  rw [ex_unpSub, of_seq, evs_cons]
  have e0 : ∀ {κ : Type} (r : Tw.R κ) (F : κ → Env → Tw.R (List D)) (G : List D → Env → O), O.of (r.bind F) G = O.of r fun d e => O.of (F d e) G := fun r F G => by cases r <;> rfl
  rw [e0]
  refine OR.bind (ha.out s e hh) kp fun v s1 d e1 q1 h1 => ?_
  rw [evs_cons, e0, e0]
  refine OR.bind (hb.out s1 e1 h1) kp fun w s2 d2 e2 q2 h2 => ?_
  show OR enc K Φ _ ((unpGo T [(x, i), (y, j)] [frz d, frz d2] e2).seq _)
  rw [q1.2, q2.2, unp_cons, of_seq]
  refine setR_go (G := fun e3 => (unpGo T [(y, j)] [g w] e3).seq (exs T wf np ss)) hx hi kp h2 fun xs' s3 e3 h3 => ?_
  rw [hl] at h3
  rw [unp_cons, of_seq]
  refine setR_go (G := fun e4 => (unpGo T [] [] e4).seq (exs T wf np ss)) (hy xs') (hj xs') (kp1 xs') h3 fun ys' s4 e4 h4 => ?_
  rw [hl2] at h4
  exact (hk xs' ys').out s4 e4 h4
/-- y.append(x.pop(i)) -/
theorem sr_appPop {x y : Nat} {xs : List β} {ys : List β} {f : β → D} {l1 : List β → List β → List Sl} {mi : S σ Int} {k : List β → List β → S σ α} {m' : S σ α} (hx : l[x]? = some (.own (xs.map f))) (hy : l[y]? = some (.own (ys.map f))) (hxy : x ≠ y) (hi : ER T enc l i mi (isUp eI)) (kp : KP K.1 K.2 l)
    (hl : ∀ xs' ys', (l.set x (.own (xs'.map f))).set y (.own (ys'.map f)) = l1 xs' ys') (hm : m' = S.bind mi fun i => S.bind (S.of (popI xs i)) fun p => S.bind (S.lim ys.length) fun _ => k p.2 (ys ++ [p.1])) (hk : ∀ xs' ys', BR T wf np enc K (l1 xs' ys') ss (k xs' ys') Φ) :
    BR T wf np enc K l (.append y .nil (.popAt x .nil i) :: ss) m' Φ := .mk <| fun s e hh => by
  rw [hm]
  show OR enc K Φ _ ((ex T wf np (.append y .nil (.popAt x .nil i)) e).seq _)
  rw [ex_append, of_seq]
  have h0 := own_gt hh hy
  have h0x := own_gt hh hx
  have e0 : apR T y .nil (.popAt x .nil i) e = (ev T i e).bind fun d e2 => (match d with
      | .int k => if smallI k then onSlot (fun xs => (L2.ixN xs.length k).bind fun j => (xs[j]?).map fun y => (y, xs.eraseIdx j)) x [] e2 else .no
      | _ => .no : Tw.R D).bind (apK y [] e) := by
    show (evP y (evs T .nil) e).bind (fun is e1 => if ownAt y is e1 then (ev T (.popAt x .nil i) (hide is y e1)).bind (apK y is e1) else .no) = _
    rw [evP_eq, h0]
    show (if ownAt y [] e then (ev T (.popAt x .nil i) e).bind (apK y [] e) else .no) = _
    rw [if_pos (own_lt h0)]
    show ((evP x (evs T .nil) e).bind (fun is e1 => if ownAt x is e1 then (ev T i (hide is x e1)).bind _ else .no)).bind _ = _
    rw [evP_eq, h0x]
    show (if ownAt x [] e then _ else .no : Tw.R D).bind _ = _
    rw [if_pos (own_lt h0x)]
    show Tw.R.bind (Tw.R.bind (ev T i e) _) _ = _
    cases ev T i e <;> rfl
  rw [e0, of_of]
  refine OR.bind (hi.out s e hh) kp fun n s' d e' q hh' => ?_
  cases up_int q
  have h1 := own_gt hh' hy
  have h1x := own_gt hh' hx
  simp only []
  unfold popI
  by_cases hs : smallI n = true
  · rw [if_pos hs, if_pos hs, on_0 h1x, List.length_map]
    cases L2.ixN xs.length n with
    | none => trivial
    | some j =>
      show OR enc K Φ (S.bind (S.of ((xs[j]?).map fun y => (y, xs.eraseIdx j))) _ s') (O.of ((match ((xs.map f)[j]?).map (fun y => (y, (xs.map f).eraseIdx j)) with | some p => R.ok p.1 (e'.set x (.lst true p.2)) | none => .no).bind _) _)
      rw [List.getElem?_map]
      cases xs[j]? with
      | none => trivial
      | some u =>
        simp only [Option.map_some, S.of_some, S.pure_bind, R.bind_ok]
        have hh2 : Has enc s' (l.set x (.own ((xs.eraseIdx j).map f))) (e'.set x (.lst true ((xs.map f).eraseIdx j))) := hh'.set (by rw [map_erase]; rfl)
        have hy2 : (l.set x (.own ((xs.eraseIdx j).map f)))[y]? = some (.own (ys.map f)) := by rw [List.getElem?_set, if_neg hxy]; exact hy
        have h2 := own_gt hh2 hy2
        have e1 : apK y [] e (f u) (e'.set x (.lst true ((xs.map f).eraseIdx j))) = if ys.length < 16000000 then .ok .non ((e'.set x (.lst true ((xs.map f).eraseIdx j))).set y (.lst true (ys.map f ++ [f u]))) else .no := by
          show onSlot (fun xs => if xs.length < 16000000 then some (.non, xs ++ [f u]) else none) y [] (e'.set x (.lst true ((xs.map f).eraseIdx j))) = _
          rw [on_0 h2, List.length_map]
          by_cases hl : ys.length < 16000000
          · rw [if_pos hl, if_pos hl]
          · rw [if_neg hl, if_neg hl]
        rw [e1]
        unfold S.lim
        by_cases hlt : ys.length < 16000000
        · rw [if_pos hlt, if_pos hlt]
          have h3 := hh2.set (i := y) (sl := .own ((ys ++ [u]).map f)) (d := .lst true (ys.map f ++ [f u])) (by
            show D.lst true _ = .lst true _
            rw [List.map_append]; rfl)
          rw [hl] at h3
          exact (hk _ _).out s' _ h3
        · rw [if_neg hlt]; trivial
  · rw [if_neg hs, if_neg hs]; trivial
end
end Tx

set_option Elab.async false
set_option linter.all false
set_option maxRecDepth 100000
set_option maxHeartbeats 4000000
/-! Tx5: the typed layer: operations by type. -/
namespace Tx
open Tw
section
variable {σ α β γ δ ε ζ : Type} {enc : σ → D} {l l' : List Sl} {T : Fns} {a b c : IE}
/-! ### casts -/
theorem er_cast {f : α → D} {g : β → D} (c : α → β) {m : S σ α} {m' : S σ β} (ha : ER T enc l a m (isUp f)) (hc : ∀ v, f v = g (c v)) (hm : m' = S.bind m fun v => S.pure (c v)) : ER T enc l a m' (isUp g) := .mk <| fun s e hh => by
  rw [hm]
  have := RR.bind (l := l) (k := fun v => S.pure (c v)) (f := fun d e => R.ok d e) (Q' := isUp g) (ha.out s e hh) fun v s' d e' q hh' => ⟨d, e', rfl, ⟨q.1, q.2.trans (hc v)⟩, hh'⟩
  revert this
  cases ev T a e <;> exact id
theorem er_some {f : α → D} {m : S σ α} {m' : S σ (Option α)} (ha : ER T enc l a m (isUp f)) (hm : m' = S.bind m fun v => S.pure (some v)) : ER T enc l a m' (isUp (eO f)) := er_cast some ha (fun _ => rfl) hm
theorem er_upO {f : α → D} [Pe f] {m : S σ (List α)} (ha : ER T enc l a m (isOwn (List.map f))) : ER T enc l a m (isUp (eL f)) := er_mono ha fun _ _ h => own_up h
theorem er_upC {f : α → D} {m : S σ (List α)} (ha : ER T enc l a m (fun xs d => ∃ ds, d = .lst true ds ∧ All2 (isUp f) xs ds)) : ER T enc l a m (isUp (eL f)) := er_mono ha fun _ _ h => comp_up h
theorem er_ownC {f : α → D} [NL f] {m : S σ (List α)} (ha : ER T enc l a m (fun xs d => ∃ ds, d = .lst true ds ∧ All2 (isUp f) xs ds)) : ER T enc l a m (isOwn (List.map f)) := er_mono ha fun _ _ h => comp_own h
theorem nl_eq {f : α → D} [NL f] (v : α) (d : D) (h : isUp f v d) : d = f v := NL.eq h.2 h.1
theorem lf_eq {f : α → D} (v : List α) (d : D) (h : isUp (eL f) v d) (hd : ∀ xs, d ≠ .lst true xs) : d = eL f v := by
  have := h.2
  cases d with
  | lst z xs => cases z with
    | true => exact absurd rfl (hd xs)
    | false => rw [frz_lf] at this; exact this
  | int k => rw [frz_int] at this; exact this
  | bl k => rw [frz_bl] at this; exact this
  | non => rw [frz_non] at this; exact this
  | str k => rw [frz_str] at this; exact this
  | tup k => rw [frz_tup] at this; exact this
  | rng k z => rw [frz_rng] at this; exact this
  | hole => exact absurd rfl h.1
  | scr k => exact this
/-! ### tuples and lists told -/
section
variable {d : IE} {f : α → D} {g : β → D} {h : γ → D} {i : δ → D} {j : ε → D} {ma : S σ α} {mb : S σ β} {mc : S σ γ} {md : S σ δ}
theorem er_t0 {m' : S σ Unit} (hm : m' = S.pure ()) : ER T enc l (.tup .nil) m' (isUp e0) := er_tup (p := fun v => v) (h := e0) es_nil (fun v ds q => by rw [q]; rfl) hm
theorem er_t1 {m' : S σ α} (ha : ER T enc l a ma (isUp f)) (hm : m' = S.bind ma fun x => S.pure x) : ER T enc l (.tup (.cons a .nil)) m' (isUp (e1 f)) :=
  er_tup (p := fun v : α × Unit => v.1) (h := e1 f) (es_cons ha es_nil rfl) (fun v ds q => by
    obtain ⟨d1, ds1, rfl, q1, rfl⟩ := q
    show D.tup [frz d1] = .tup [f v.1]
    rw [q1.2]) (by rw [hm, S.bind_assoc]; rfl)
theorem er_t2 {m' : S σ (α × β)} (ha : ER T enc l a ma (isUp f)) (hb : ER T enc l b mb (isUp g)) (hm : m' = S.bind ma fun x => S.bind mb fun y => S.pure (x, y)) : ER T enc l (.tup (.cons a (.cons b .nil))) m' (isUp (e2 f g)) :=
  er_tup (p := fun v : α × β × Unit => (v.1, v.2.1)) (h := e2 f g) (es_cons ha (es_cons hb es_nil rfl) rfl) (fun v ds q => by
    obtain ⟨d1, ds1, rfl, q1, d2, ds2, rfl, q2, rfl⟩ := q
    show D.tup [frz d1, frz d2] = .tup [f v.1, g v.2.1]
    rw [q1.2, q2.2]) (by rw [hm]; simp only [S.bind_assoc, S.pure_bind])
theorem er_t3 {m' : S σ (α × β × γ)} (ha : ER T enc l a ma (isUp f)) (hb : ER T enc l b mb (isUp g)) (hc : ER T enc l c mc (isUp h)) (hm : m' = S.bind ma fun x => S.bind mb fun y => S.bind mc fun z => S.pure (x, y, z)) : ER T enc l (.tup (.cons a (.cons b (.cons c .nil)))) m' (isUp (e3 f g h)) :=
  er_tup (p := fun v : α × β × γ × Unit => (v.1, v.2.1, v.2.2.1)) (h := e3 f g h) (es_cons ha (es_cons hb (es_cons hc es_nil rfl) rfl) rfl) (fun v ds q => by
    obtain ⟨d1, ds1, rfl, q1, d2, ds2, rfl, q2, d3, ds3, rfl, q3, rfl⟩ := q
    show D.tup [frz d1, frz d2, frz d3] = .tup [f v.1, g v.2.1, h v.2.2.1]
    rw [q1.2, q2.2, q3.2]) (by rw [hm]; simp only [S.bind_assoc, S.pure_bind])
theorem er_t4 {m' : S σ (α × β × γ × δ)} (ha : ER T enc l a ma (isUp f)) (hb : ER T enc l b mb (isUp g)) (hc : ER T enc l c mc (isUp h)) (hd : ER T enc l d md (isUp i)) (hm : m' = S.bind ma fun x => S.bind mb fun y => S.bind mc fun z => S.bind md fun w => S.pure (x, y, z, w)) : ER T enc l (.tup (.cons a (.cons b (.cons c (.cons d .nil))))) m' (isUp (e4 f g h i)) :=
  er_tup (p := fun v : α × β × γ × δ × Unit => (v.1, v.2.1, v.2.2.1, v.2.2.2.1)) (h := e4 f g h i) (es_cons ha (es_cons hb (es_cons hc (es_cons hd es_nil rfl) rfl) rfl) rfl) (fun v ds q => by
    obtain ⟨d1, ds1, rfl, q1, d2, ds2, rfl, q2, d3, ds3, rfl, q3, d4, ds4, rfl, q4, rfl⟩ := q
    show D.tup [frz d1, frz d2, frz d3, frz d4] = .tup [f v.1, g v.2.1, h v.2.2.1, i v.2.2.2.1]
    rw [q1.2, q2.2, q3.2, q4.2]) (by rw [hm]; simp only [S.bind_assoc, S.pure_bind])
/-- lists told: the items known just -/
theorem er_l0 {m' : S σ (List α)} (hm : m' = S.pure []) : ER T enc l (.lst .nil) m' (isOwn (List.map f)) := er_lst (p := fun _ => []) es_nil (fun v ds q => by rw [q]; rfl) hm
theorem er_l1 [NL f] {m' : S σ (List α)} (ha : ER T enc l a ma (isUp f)) (hm : m' = S.bind ma fun x => S.pure [x]) : ER T enc l (.lst (.cons a .nil)) m' (isOwn (List.map f)) :=
  er_lst (p := fun v : α × Unit => [v.1]) (es_cons ha es_nil rfl) (fun v ds q => by
    obtain ⟨d1, ds1, rfl, q1, rfl⟩ := q
    show D.lst true [d1] = .lst true [f v.1]
    rw [nl_eq _ _ q1]) (by rw [hm, S.bind_assoc]; rfl)
theorem er_l2 [NL f] {mb : S σ α} {m' : S σ (List α)} (ha : ER T enc l a ma (isUp f)) (hb : ER T enc l b mb (isUp f)) (hm : m' = S.bind ma fun x => S.bind mb fun y => S.pure [x, y]) : ER T enc l (.lst (.cons a (.cons b .nil))) m' (isOwn (List.map f)) :=
  er_lst (p := fun v : α × α × Unit => [v.1, v.2.1]) (es_cons ha (es_cons hb es_nil rfl) rfl) (fun v ds q => by
    obtain ⟨d1, ds1, rfl, q1, d2, ds2, rfl, q2, rfl⟩ := q
    show D.lst true [d1, d2] = .lst true [f v.1, f v.2.1]
    rw [nl_eq _ _ q1, nl_eq _ _ q2]) (by rw [hm]; simp only [S.bind_assoc, S.pure_bind])
/-- a list of lists, read from then on -/
theorem er_l1u {m' : S σ (List α)} (ha : ER T enc l a ma (isUp f)) (hm : m' = S.bind ma fun x => S.pure [x]) : ER T enc l (.lst (.cons a .nil)) m' (isUp (eL f)) :=
  er_lst (p := fun v : α × Unit => [v.1]) (es_cons ha es_nil rfl) (fun v ds q => by
    obtain ⟨d1, ds1, rfl, q1, rfl⟩ := q
    exact comp_up (f := f) ⟨_, rfl, q1, trivial⟩) (by rw [hm, S.bind_assoc]; rfl)
/-- [] or a list of fixed length and unlike items -/
def eN3 (f : α → D) (g : β → D) (h : γ → D) : Option (α × β × γ) → D := fun o => match o with
  | none => .lst false []
  | some p => .lst false [f p.1, g p.2.1, h p.2.2]
instance : Pe (eN3 f g h) := ⟨fun x => by cases x <;> rfl⟩
theorem er_n0 {m' : S σ (Option (α × β × γ))} (hm : m' = S.pure none) : ER T enc l (.lst .nil) m' (isUp (eN3 f g h)) := er_lst (p := fun _ => none) es_nil (fun v ds q => by
  rw [q]; exact ⟨(fun q => by cases q), by rw [frz_lt]; rfl⟩) hm
theorem er_n3 {m' : S σ (Option (α × β × γ))} (ha : ER T enc l a ma (isUp f)) (hb : ER T enc l b mb (isUp g)) (hc : ER T enc l c mc (isUp h)) (hm : m' = S.bind ma fun x => S.bind mb fun y => S.bind mc fun z => S.pure (some (x, y, z))) : ER T enc l (.lst (.cons a (.cons b (.cons c .nil)))) m' (isUp (eN3 f g h)) :=
  er_lst (p := fun v : α × β × γ × Unit => some (v.1, v.2.1, v.2.2.1)) (es_cons ha (es_cons hb (es_cons hc es_nil rfl) rfl) rfl) (fun v ds q => by
    obtain ⟨d1, ds1, rfl, q1, d2, ds2, rfl, q2, d3, ds3, rfl, q3, rfl⟩ := q
    refine ⟨(fun q => by cases q), ?_⟩
    rw [frz_lt, frzs_eq]
    show D.lst false [frz d1, frz d2, frz d3] = .lst false [f v.1, g v.2.1, h v.2.2.1]
    rw [q1.2, q2.2, q3.2]) (by rw [hm]; simp only [S.bind_assoc, S.pure_bind])
end
/-! ### numbers -/
theorem op_add : Op2 .add eI eI (fun x y => some (x + y)) (isUp eI) := fun x y v h => by cases h; exact ⟨_, rfl, up_of (f := eI) _⟩
theorem op_sub : Op2 .sub eI eI (fun x y => some (x - y)) (isUp eI) := fun x y v h => by cases h; exact ⟨_, rfl, up_of (f := eI) _⟩
theorem op_min : Op2 .min eI eI (fun x y => some (min x y)) (isUp eI) := fun x y v h => by
  cases h
  refine ⟨_, rfl, (fun q => by cases q), ?_⟩
  rw [frz_int]
  show D.int _ = .int _
  congr 1
  omega
theorem op_max : Op2 .max eI eI (fun x y => some (max x y)) (isUp eI) := fun x y v h => by
  cases h
  refine ⟨_, rfl, (fun q => by cases q), ?_⟩
  rw [frz_int]
  show D.int _ = .int _
  congr 1
  omega
@[irreducible] def mulI (x y : Int) : Option Int := if mulOk x y then some (x * y) else none
@[irreducible] def divI (x y : Int) : Option Int := if 0 < y ∧ y < 1073741824 then some (x / y) else none
@[irreducible] def modI (x y : Int) : Option Int := if 0 < y then some (x % y) else none
@[irreducible] def powI (x y : Int) : Option Int := if decide (0 ≤ y) && decide (y ≤ 1000) && decide (x.natAbs < 2 ^ 60) then some (powN x y.toNat) else none
theorem op_mul : Op2 .mul eI eI mulI (isUp eI) := fun x y v h => by
  unfold mulI at h
  split at h <;> cases h
  rename_i hh
  refine ⟨_, ?_, up_of (f := eI) _⟩
  show (if mulOk x y then some (D.int (x * y)) else none) = _
  rw [if_pos hh]; rfl
theorem op_div : Op2 .fdiv eI eI divI (isUp eI) := fun x y v h => by
  unfold divI at h
  split at h <;> cases h
  rename_i hh
  refine ⟨_, ?_, up_of (f := eI) _⟩
  show (if decide (0 < y) && decide (y < 1073741824) then some (D.int (x / y)) else none) = _
  rw [if_pos (by simp [hh.1, hh.2])]; rfl
theorem op_mod : Op2 .mod eI eI modI (isUp eI) := fun x y v h => by
  unfold modI at h
  split at h <;> cases h
  rename_i hh
  refine ⟨_, ?_, up_of (f := eI) _⟩
  show (if 0 < y then some (D.int (x % y)) else none) = _
  rw [if_pos hh]; rfl
theorem op_pow : Op2 .pow eI eI powI (isUp eI) := fun x y v h => by
  unfold powI at h
  split at h <;> cases h
  rename_i hh
  refine ⟨_, ?_, up_of (f := eI) _⟩
  show (if _ then some (D.int (powN x y.toNat)) else none) = _
  rw [if_pos hh]; rfl
theorem op_lt : Op2 .lt eI eI (fun x y => some (decide (x < y))) (isUp eB) := fun x y v h => by cases h; exact ⟨_, rfl, bl_up⟩
theorem op_le : Op2 .le eI eI (fun x y => some (decide (x ≤ y))) (isUp eB) := fun x y v h => by cases h; exact ⟨_, rfl, bl_up⟩
theorem op_gt : Op2 .gt eI eI (fun x y => some (decide (y < x))) (isUp eB) := fun x y v h => by cases h; exact ⟨_, rfl, bl_up⟩
theorem op_ge : Op2 .ge eI eI (fun x y => some (decide (y ≤ x))) (isUp eB) := fun x y v h => by cases h; exact ⟨_, rfl, bl_up⟩
theorem op_neg : Op1 .neg eI (fun x => some (-x)) (isUp eI) := fun x v h => by cases h; exact ⟨_, rfl, up_of (f := eI) _⟩
theorem op_int : Op1 .int eI (fun x => some x) (isUp eI) := fun x v h => by cases h; exact ⟨_, rfl, up_of (f := eI) _⟩
theorem op_intb : Op1 .int eB (fun x => some (if x then 1 else 0)) (isUp eI) := fun x v h => by cases h; exact ⟨_, rfl, up_of (f := eI) _⟩
/-! ### pairs of numbers, compared -/
@[irreducible] def ltP (x y : Int × Int) : Bool := decide (x.1 < y.1) || (decide (x.1 = y.1) && decide (x.2 < y.2))
theorem op_leP : Op2 .le (e2 eI eI) (e2 eI eI) (fun x y => some (!ltP y x)) (isUp eB) := fun x y v h => by
  cases h
  refine ⟨_, rfl, (fun q => by cases q), ?_⟩
  rw [frz_bl]
  show D.bl (lexLe [x.1, x.2] [y.1, y.2]) = .bl _
  congr 1
  unfold lexLe ltP
  by_cases h1 : x.1 = y.1
  · rw [if_pos h1]
    unfold lexLe
    by_cases h2 : x.2 = y.2
    · rw [if_pos h2]
      unfold lexLe
      simp [h1, h2]
    · rw [if_neg h2, Bool.eq_iff_iff]
      simp [h1]
      omega
  · rw [if_neg h1, Bool.eq_iff_iff]
    simp
    omega
/-! ### lengths, parts -/
theorem op_lenV {f : α → D} : Op1 .len (eV f) (fun x => some (x.length : Int)) (isUp eI) := fun x v h => by
  cases h
  exact ⟨.int (x.map f).length, rfl, (fun q => by cases q), by rw [frz_int, List.length_map]; rfl⟩
theorem op_lenL {f : α → D} : Op1 .len (eL f) (fun x => some (x.length : Int)) (isUp eI) := fun x v h => by
  cases h
  exact ⟨.int (x.map f).length, rfl, (fun q => by cases q), by rw [frz_int, List.length_map]; rfl⟩
theorem op_lenS : Op1 .len eScr (fun x => some (x.length : Int)) (isUp eI) := fun x v h => by cases h; exact ⟨_, rfl, up_of (f := eI) _⟩
theorem op_len2 {f : α → D} {g : β → D} : Op1 .len (e2 f g) (fun _ => some 2) (isUp eI) := fun x v h => by cases h; exact ⟨_, rfl, up_of (f := eI) _⟩
theorem op_len3 {f : α → D} {g : β → D} {h : γ → D} : Op1 .len (e3 f g h) (fun _ => some 3) (isUp eI) := fun x v h => by cases h; exact ⟨_, rfl, up_of (f := eI) _⟩
theorem op_len4 {f : α → D} {g : β → D} {h : γ → D} {i : δ → D} : Op1 .len (e4 f g h i) (fun _ => some 4) (isUp eI) := fun x v h => by cases h; exact ⟨_, rfl, up_of (f := eI) _⟩
@[irreducible] def getI (xs : List α) (i : Int) : Option α := L2.atI xs i
theorem getI_eq (xs : List α) (i : Int) : getI xs i = L2.atI xs i := by unfold getI; rfl
theorem atI_map {f : α → β} (xs : List α) (i : Int) : L2.atI (xs.map f) i = (L2.atI xs i).map f := by
  unfold L2.atI
  rw [List.length_map]
  cases L2.ixN xs.length i with
  | none => rfl
  | some j => exact List.getElem?_map
theorem op_ixV {f : α → D} [Pe f] : Op2 .ix (eV f) eI getI (isUp f) := fun x y v h => ⟨f v, by
  show L2.atI (x.map f) y = _
  rw [atI_map, ← getI_eq, h]; rfl, up_of v⟩
theorem op_ixL {f : α → D} [Pe f] : Op2 .ix (eL f) eI getI (isUp f) := fun x y v h => ⟨f v, by
  show L2.atI (x.map f) y = _
  rw [atI_map, ← getI_eq, h]; rfl, up_of v⟩
theorem op_ixS : Op2 .ix eScr eI getI (isUp eI) := fun x y v h => ⟨.int v, by
  show (L2.atI x y).map D.int = _
  rw [← getI_eq, h]; rfl, up_of (f := eI) v⟩
/-- an item of a tuple of fixed length -/
theorem er_pj {f : α → D} {g : β → D} [Pe g] {k : Int} {π : α → β} {m : S σ α} {m' : S σ β} (ha : OP T enc l a m f) (hp : ∀ x, sem2 .ix (f x) (.int k) = some (g (π x))) (hm : m' = S.bind m fun x => S.pure (π x)) : ER T enc l (.p2 .ix a (.con (.int k))) m' (isUp g) :=
  er_p2 (Q := isUp g) (b := .con (.int k)) (g := fun _ : Unit => .int k) (mb := S.pure ()) (o := fun x _ => some (π x)) ha (op_e rfl (er_con rfl frz_int (fun q => by cases q))) (fun x y v h => by cases h; exact ⟨_, hp x, up_of _⟩) hm
theorem pj2_0 {f : α → D} {g : β → D} (x : α × β) : sem2 .ix (e2 f g x) (.int 0) = some (f x.1) := atI_0
theorem pj2_1 {f : α → D} {g : β → D} (x : α × β) : sem2 .ix (e2 f g x) (.int 1) = some (g x.2) := atI_1
theorem pj3_0 {f : α → D} {g : β → D} {h : γ → D} (x : α × β × γ) : sem2 .ix (e3 f g h x) (.int 0) = some (f x.1) := atI_0
theorem pj3_1 {f : α → D} {g : β → D} {h : γ → D} (x : α × β × γ) : sem2 .ix (e3 f g h x) (.int 1) = some (g x.2.1) := atI_1
theorem pj3_2 {f : α → D} {g : β → D} {h : γ → D} (x : α × β × γ) : sem2 .ix (e3 f g h x) (.int 2) = some (h x.2.2) := atI_2
/-- an item of a pair of like things, at a reckoned place -/
@[irreducible] def get2 (p : α × α) (i : Int) : Option α := getI [p.1, p.2] i
theorem op_ix2 {f : α → D} [Pe f] : Op2 .ix (e2 f f) eI get2 (isUp f) := fun x y v h => op_ixV (f := f) [x.1, x.2] y v (by unfold get2 at h; exact h)
@[irreducible] def cutI (xs : List α) (lo hi : Option Int) : List α := (xs.drop (HT.sIx xs.length 0 lo)).take (HT.sIx xs.length xs.length hi - HT.sIx xs.length 0 lo)
theorem cut_map {f : α → D} (xs : List α) (lo hi : Option Int) : cutD (xs.map f) lo hi = (cutI xs lo hi).map f := by
  unfold cutD cutI
  rw [List.length_map, List.map_take, List.map_drop]
theorem sl_V {f : α → D} [Pe f] : ∀ (x : List α) (u v : Option Int) (r : List α), some (cutI x u v) = some r → ∃ d, semSl (eV f x) u v = some d ∧ isUp (eV f) r d := fun x u v r h => by
  cases h
  refine ⟨_, rfl, (fun q => by cases q), ?_⟩
  rw [frz_tup]
  show D.tup (cutD (x.map f) u v) = _
  rw [cut_map]; rfl
theorem sl_L {f : α → D} [Pe f] : ∀ (x : List α) (u v : Option Int) (r : List α), some (cutI x u v) = some r → ∃ d, semSl (eL f x) u v = some d ∧ isOwn (List.map f) r d := fun x u v r h => by
  cases h
  refine ⟨_, rfl, ?_⟩
  show D.lst true (cutD (x.map f) u v) = .lst true _
  rw [cut_map]
theorem sl_S : ∀ (x : List Int) (u v : Option Int) (r : List Int), some (cutI x u v) = some r → ∃ d, semSl (eScr x) u v = some d ∧ isOwn (List.map eI) r d := fun x u v r h => by
  cases h
  refine ⟨_, rfl, ?_⟩
  show D.lst true (cutD (x.map D.int) u v) = .lst true _
  rw [cut_map]; rfl
theorem rev_L {f : α → D} : ∀ (x : List α) (r : List α), some x.reverse = some r → ∃ d, semRev (eL f x) = some d ∧ isOwn (List.map f) r d := fun x r h => by
  cases h
  refine ⟨_, rfl, ?_⟩
  show D.lst true (x.map f).reverse = .lst true _
  rw [List.map_reverse]
theorem op_listV {f : α → D} : Op1 .list (eV f) (fun x => some x) (isOwn (List.map f)) := fun x v h => by cases h; exact ⟨_, rfl, rfl⟩
theorem op_listL {f : α → D} : Op1 .list (eL f) (fun x => some x) (isOwn (List.map f)) := fun x v h => by cases h; exact ⟨_, rfl, rfl⟩
theorem op_tupV {f : α → D} : Op1 .tuple (eV f) (fun x => some x) (isUp (eV f)) := fun x v h => by cases h; exact ⟨_, rfl, up_of (f := eV f) _⟩
theorem op_tupL {f : α → D} : Op1 .tuple (eL f) (fun x => some x) (isUp (eV f)) := fun x v h => by cases h; exact ⟨_, rfl, up_of (f := eV f) _⟩
@[irreducible] def catI (x y : List α) : Option (List α) := if x.length + y.length < PySem.sizeLine then some (x ++ y) else none
theorem op_catV {f : α → D} : Op2 .add (eV f) (eV f) catI (isUp (eV f)) := fun x y v h => by
  unfold catI at h
  split at h <;> cases h
  rename_i hh
  refine ⟨.tup (x.map f ++ y.map f), ?_, (fun q => by cases q), by rw [frz_tup]; show _ = D.tup _; rw [List.map_append]⟩
  show (if (x.map f).length + (y.map f).length < PySem.sizeLine then some (D.tup (x.map f ++ y.map f)) else none) = _
  rw [List.length_map, List.length_map, if_pos hh]
theorem op_catL {f : α → D} : Op2 .add (eL f) (eL f) catI (isOwn (List.map f)) := fun x y v h => by
  unfold catI at h
  split at h <;> cases h
  rename_i hh
  refine ⟨.lst true (x.map f ++ y.map f), ?_, by show _ = D.lst true _; rw [List.map_append]⟩
  show (if (x.map f).length + (y.map f).length < PySem.sizeLine then some (D.lst true (x.map f ++ y.map f)) else none) = _
  rw [List.length_map, List.length_map, if_pos hh]
@[irreducible] def repI (x : List α) (k : Int) : Option (List α) := if decide (-(2 ^ 60) < k) && decide (k < 2 ^ 60) && decide (x.length * k.toNat < PySem.sizeLine) then some (List.replicate k.toNat x).flatten else none
theorem op_rep {f : α → D} : Op2 .mul (eL f) eI repI (isOwn (List.map f)) := fun x y v h => by
  unfold repI at h
  split at h <;> cases h
  rename_i hh
  refine ⟨.lst true (repD (x.map f) y), ?_, ?_⟩
  · show (if decide (-(2 ^ 60) < y) && decide (y < 2 ^ 60) && decide ((x.map f).length * y.toNat < PySem.sizeLine) then some (D.lst true (repD (x.map f) y)) else none) = _
    rw [List.length_map, if_pos hh]
  · show D.lst true _ = .lst true _
    unfold repD
    rw [List.map_flatten, List.map_replicate]
theorem toInts_map : ∀ xs : List Int, toInts (xs.map eI) = some xs
  | [] => rfl
  | x :: xs => by
    show (toInts (xs.map eI)).map _ = _
    rw [toInts_map xs]; rfl
theorem srt_ints (x : List Int) : srtD (x.map eI) = some (.lst true ((sortI x).map eI)) := by
  unfold srtD
  rw [toInts_map]; rfl
theorem toPrs_map : ∀ xs : List (Int × Int), toPrs (xs.map (e2 eI eI)) = some xs
  | [] => rfl
  | x :: xs => by
    show (toPrs (xs.map (e2 eI eI))).map _ = _
    rw [toPrs_map xs]; rfl
theorem srt_prs (x : List (Int × Int)) : srtD (x.map (e2 eI eI)) = some (.lst true ((sortP x).map (e2 eI eI))) := by
  cases x with
  | nil => rfl
  | cons y ys =>
    unfold srtD
    rw [toPrs_map]; rfl
theorem op_sort : Op1 .sorted (eL eI) (fun x => some (sortI x)) (isOwn (List.map eI)) := fun x v h => by cases h; exact ⟨_, srt_ints x, rfl⟩
theorem op_sortV : Op1 .sorted (eV eI) (fun x => some (sortI x)) (isOwn (List.map eI)) := fun x v h => by cases h; exact ⟨_, srt_ints x, rfl⟩
theorem op_sortP : Op1 .sorted (eL (e2 eI eI)) (fun x => some (sortP x)) (isOwn (List.map (e2 eI eI))) := fun x v h => by cases h; exact ⟨_, srt_prs x, rfl⟩
theorem op_sortPV : Op1 .sorted (eV (e2 eI eI)) (fun x => some (sortP x)) (isOwn (List.map (e2 eI eI))) := fun x v h => by cases h; exact ⟨_, srt_prs x, rfl⟩
theorem op_sum : Op1 .sum (eL eI) (fun x => some x.sum) (isUp eI) := fun x v h => by
  cases h
  refine ⟨.int x.sum, ?_, up_of (f := eI) _⟩
  show (toInts (x.map eI)).map (fun ns => D.int ns.sum) = _
  rw [toInts_map]; rfl
@[irreducible] def minL : List Int → Option Int
  | [] => none
  | n :: ns => some (leastI n ns)
@[irreducible] def maxL : List Int → Option Int
  | [] => none
  | n :: ns => some (mostI n ns)
theorem op_minL : Op1 .min (eL eI) minL (isUp eI) := fun x v h => by
  unfold minL at h
  cases x with
  | nil => cases h
  | cons n ns =>
    cases h
    refine ⟨.int (leastI n ns), ?_, up_of (f := eI) _⟩
    show (match toInts ((n :: ns).map eI) with | some (n :: ns) => some (D.int (leastI n ns)) | _ => none) = _
    rw [toInts_map]
theorem op_maxL : Op1 .max (eL eI) maxL (isUp eI) := fun x v h => by
  unfold maxL at h
  cases x with
  | nil => cases h
  | cons n ns =>
    cases h
    refine ⟨.int (mostI n ns), ?_, up_of (f := eI) _⟩
    show (match toInts ((n :: ns).map eI) with | some (n :: ns) => some (D.int (mostI n ns)) | _ => none) = _
    rw [toInts_map]
/-! ### forms -/
theorem op_isN {f : α → D} [NL f] (hf : ∀ x, f x ≠ .non) : Op1 .isN (eO f) (fun x => some x.isNone) (isUp eB) := fun x v h => by
  cases h
  cases x with
  | none => exact ⟨_, rfl, bl_up⟩
  | some x =>
    refine ⟨.bl false, ?_, bl_up⟩
    have := hf x
    show sem1 .isN (f x) = _
    cases h : f x <;> first | rfl | exact absurd h this
theorem op_notN {f : α → D} [NL f] (hf : ∀ x, f x ≠ .non) : Op1 .notN (eO f) (fun x => some x.isSome) (isUp eB) := fun x v h => by
  cases h
  cases x with
  | none => exact ⟨_, rfl, bl_up⟩
  | some x =>
    refine ⟨.bl true, ?_, bl_up⟩
    have := hf x
    show sem1 .notN (f x) = _
    cases h : f x <;> first | rfl | exact absurd h this
theorem op_is1 {p : P1} {f : α → D} {z : Bool} (h : ∀ x, sem1 p (f x) = some (.bl z)) : Op1 p f (fun _ => some z) (isUp eB) := fun x v hv => by cases hv; exact ⟨_, h x, bl_up⟩
/-! ### equality -/
class Eqe {α : Type} (f : α → D) (n : outParam Nat) [DecidableEq α] : Prop where
  sh : ∀ x, shD n (f x) = true
  eq : ∀ x y, eqD (f x) (f y) = decide (x = y)
theorem shD_mono : ∀ (n : Nat) (d : D), shD n d = true → shD (n + 1) d = true
  | _, .non, _ => rfl
  | _, .bl _, _ => rfl
  | _, .int _, _ => rfl
  | 0, .str x, h => h
  | n + 1, .str x, h => h
  | n + 1, .tup xs, h => List.all_eq_true.mpr fun x hx => shD_mono n x (List.all_eq_true.mp h x hx)
  | n + 1, .lst _ xs, h => List.all_eq_true.mpr fun x hx => shD_mono n x (List.all_eq_true.mp h x hx)
  | 0, .tup _, h => by cases h
  | 0, .lst _ _, h => by cases h
  | n, .hole, h => by cases n <;> cases h
  | n, .scr _, h => by cases n <;> cases h
  | n, .rng _ _, h => by cases n <;> cases h
theorem shD_le {n m : Nat} {d : D} (hnm : n ≤ m) (h : shD n d = true) : shD m d = true := by
  induction hnm with
  | refl => exact h
  | step _ ih => exact shD_mono _ _ ih
theorem eqDs_map {f : α → D} {n : Nat} [DecidableEq α] [Eqe f n] : ∀ xs ys : List α, eqDs (xs.map f) (ys.map f) = decide (xs = ys)
  | [], [] => by simp [eqDs]
  | [], _ :: _ => by simp [eqDs]
  | _ :: _, [] => by simp [eqDs]
  | x :: xs, y :: ys => by
    rw [List.map_cons, List.map_cons, eqDs, Eqe.eq (f := f), eqDs_map xs ys]
    simp [List.cons.injEq]
instance : Eqe eI 0 := ⟨fun _ => rfl, fun x y => by
  show (x == y) = _
  rw [Bool.eq_iff_iff]; simp⟩
instance : Eqe eB 0 := ⟨fun _ => rfl, fun x y => by
  show (x == y) = _
  rw [Bool.eq_iff_iff]; simp⟩
instance {f : α → D} {n : Nat} [DecidableEq α] [Eqe f n] : Eqe (eV f) (n + 1) := ⟨fun xs => by
  show (xs.map f).all (shD n) = true
  rw [List.all_map]; exact List.all_eq_true.mpr fun x _ => Eqe.sh x, fun xs ys => by
  show eqD (.tup _) (.tup _) = _
  rw [eqD, eqDs_map]⟩
instance {f : α → D} {n : Nat} [DecidableEq α] [Eqe f n] : Eqe (eL f) (n + 1) := ⟨fun xs => by
  show (xs.map f).all (shD n) = true
  rw [List.all_map]; exact List.all_eq_true.mpr fun x _ => Eqe.sh x, fun xs ys => by
  show eqD (.lst _ _) (.lst _ _) = _
  rw [eqD, eqDs_map]⟩
instance {f : α → D} {g : β → D} {n m : Nat} [DecidableEq α] [DecidableEq β] [Eqe f n] [Eqe g m] : Eqe (e2 f g) (max n m + 1) := ⟨fun x => by
  show [f x.1, g x.2].all (shD (max n m)) = true
  simp [shD_le (Nat.le_max_left n m) (Eqe.sh (f := f) x.1), shD_le (Nat.le_max_right n m) (Eqe.sh (f := g) x.2)], fun x y => by
  show eqD (.tup [f x.1, g x.2]) (.tup [f y.1, g y.2]) = _
  rw [eqD, eqDs, eqDs, eqDs, Eqe.eq (f := f), Eqe.eq (f := g)]
  obtain ⟨x1, x2⟩ := x
  obtain ⟨y1, y2⟩ := y
  simp⟩
instance {f : α → D} {g : β → D} {h : γ → D} {n m p : Nat} [DecidableEq α] [DecidableEq β] [DecidableEq γ] [Eqe f n] [Eqe g m] [Eqe h p] : Eqe (e3 f g h) (max n (max m p) + 1) := ⟨fun x => by
  show [f x.1, g x.2.1, h x.2.2].all (shD (max n (max m p))) = true
  simp [shD_le (Nat.le_max_left n (max m p)) (Eqe.sh (f := f) x.1), shD_le (Nat.le_trans (Nat.le_max_left m p) (Nat.le_max_right n _)) (Eqe.sh (f := g) x.2.1), shD_le (Nat.le_trans (Nat.le_max_right m p) (Nat.le_max_right n _)) (Eqe.sh (f := h) x.2.2)], fun x y => by
  show eqD (.tup [f x.1, g x.2.1, h x.2.2]) (.tup [f y.1, g y.2.1, h y.2.2]) = _
  rw [eqD, eqDs, eqDs, eqDs, eqDs, Eqe.eq (f := f), Eqe.eq (f := g), Eqe.eq (f := h)]
  obtain ⟨x1, x2, x3⟩ := x
  obtain ⟨y1, y2, y3⟩ := y
  simp⟩
theorem op_eq {f : α → D} {n : Nat} [DecidableEq α] [Eqe f n] (h : n ≤ 12) : Op2 .eq f f (fun x y => some (decide (x = y))) (isUp eB) := fun x y v hv => by
  cases hv
  refine ⟨.bl (eqD (f x) (f y)), ?_, ?_⟩
  · show (if (shD 12 (f x) && shD 12 (f y)) = true then some (D.bl (eqD (f x) (f y))) else none) = _
    rw [shD_le h (Eqe.sh (f := f) x), shD_le h (Eqe.sh (f := f) y)]; rfl
  · rw [Eqe.eq (f := f)]; exact bl_up
theorem op_ne {f : α → D} {n : Nat} [DecidableEq α] [Eqe f n] (h : n ≤ 12) : Op2 .ne f f (fun x y => some (!decide (x = y))) (isUp eB) := fun x y v hv => by
  cases hv
  refine ⟨.bl (!eqD (f x) (f y)), ?_, ?_⟩
  · show (if (shD 12 (f x) && shD 12 (f y)) = true then some (D.bl (!eqD (f x) (f y))) else none) = _
    rw [shD_le h (Eqe.sh (f := f) x), shD_le h (Eqe.sh (f := f) y)]; rfl
  · rw [Eqe.eq (f := f)]; exact bl_up
/-- [], or a list of fixed length: whether it is [] -/
theorem op_eqN3 {f : α → D} {g : β → D} {h : γ → D} (hf : ∀ x : Option (α × β × γ), shD 12 (eN3 f g h x) = true) : Op2 .eq (eN3 f g h) (eL (α := Int) eI) (fun x y => if y = [] then some x.isNone else none) (isUp eB) := fun x y v hv => by
  simp only [] at hv
  split at hv <;> cases hv
  rename_i hy
  subst hy
  refine ⟨.bl x.isNone, ?_, bl_up⟩
  show (if (shD 12 (eN3 f g h x) && shD 12 (eL eI [])) = true then some (D.bl (eqD (eN3 f g h x) (eL eI []))) else none) = _
  rw [hf x]
  cases x <;> rfl
/-! ### in -/
@[irreducible] def inI (x : Int) (ys : List Int) : Bool := ys.contains x
theorem any_in (x : Int) (ys : List Int) : ((ys.map eI).any fun y => eqD y (.int x)) = inI x ys := by
  unfold inI
  rw [List.any_map]
  induction ys with
  | nil => rfl
  | cons y ys ih =>
    rw [List.any_cons, ih, List.contains_cons]
    show ((y == x) || _) = _
    rw [show (y == x) = (x == y) from by rw [Bool.eq_iff_iff, beq_iff_eq, beq_iff_eq]; exact eq_comm]
theorem flat_ints (ys : List Int) : (ys.map eI).all flatD = true := by rw [List.all_map]; exact List.all_eq_true.mpr fun _ _ => rfl
theorem op_inV : Op2 .inn eI (eV eI) (fun x y => some (inI x y)) (isUp eB) := fun x y v h => by
  cases h
  refine ⟨.bl (inI x y), ?_, bl_up⟩
  show (if (flatD (D.int x) && (y.map eI).all flatD) = true then some (D.bl ((y.map eI).any fun y => eqD y (.int x))) else _) = _
  rw [flat_ints, any_in]; rfl
theorem op_inL : Op2 .inn eI (eL eI) (fun x y => some (inI x y)) (isUp eB) := fun x y v h => by
  cases h
  refine ⟨.bl (inI x y), ?_, bl_up⟩
  show (if (flatD (D.int x) && (y.map eI).all flatD) = true then some (D.bl ((y.map eI).any fun y => eqD y (.int x))) else _) = _
  rw [flat_ints, any_in]; rfl
theorem op_in2 : Op2 .inn eI (e2 eI eI) (fun x y => some (inI x [y.1, y.2])) (isUp eB) := fun x y v h => op_inV x [y.1, y.2] v h
theorem op_in3 : Op2 .inn eI (e3 eI eI eI) (fun x y => some (inI x [y.1, y.2.1, y.2.2])) (isUp eB) := fun x y v h => op_inV x [y.1, y.2.1, y.2.2] v h
theorem op_ninV : Op2 .notin eI (eV eI) (fun x y => some (!inI x y)) (isUp eB) := fun x y v h => by
  cases h
  refine ⟨.bl (!inI x y), ?_, bl_up⟩
  show (if (flatD (D.int x) && (y.map eI).all flatD) = true then some (D.bl (!(y.map eI).any fun y => eqD y (.int x))) else _) = _
  rw [flat_ints, any_in]; rfl
theorem op_ninL : Op2 .notin eI (eL eI) (fun x y => some (!inI x y)) (isUp eB) := fun x y v h => by
  cases h
  refine ⟨.bl (!inI x y), ?_, bl_up⟩
  show (if (flatD (D.int x) && (y.map eI).all flatD) = true then some (D.bl (!(y.map eI).any fun y => eqD y (.int x))) else _) = _
  rw [flat_ints, any_in]; rfl
theorem op_nin2 : Op2 .notin eI (e2 eI eI) (fun x y => some (!inI x [y.1, y.2])) (isUp eB) := fun x y v h => op_ninV x [y.1, y.2] v h
/-! ### what is there, taken apart -/
/-- [] or three things: the three -/
theorem tg_n3 {f : α → D} {g : β → D} {h : γ → D} {ts : List Tg} {p : α × β × γ} (k : TGs enc ts [f p.1, g p.2.1, h p.2.2] l l') : TG enc (.tp ts) (eN3 f g h (some p)) l l' := fun s e hh => by
  obtain ⟨e', h1, h2⟩ := k s e hh
  refine ⟨e', ?_, h2⟩
  show asg (.tp ts) (.lst false _) e = _
  rw [asg]; exact h1
end
end Tx

set_option Elab.async false
set_option linter.all false
set_option maxRecDepth 100000
set_option maxHeartbeats 4000000
/-! Tx6: the pool of draws, a state. -/
namespace Tx
open Tw
def poolFn : Fn := { name := (PySem.Str.ofString "_law_pool"), np := 1, ns := 3, stab := [true], body := [.set 1 (.ife (.p2 .gt (.p1 .len (.slot 0)) (.con (.int 0))) (.p1 .int (.p2 .ix (.slot 0) (.con (.int 0)))) (.con (.int 0))), .set 2 (.ife (.p2 .ge (.slot 1) (.con (.int 0))) (.p2 .mul (.con (.int 2)) (.slot 1)) (.p2 .sub (.p1 .neg (.con (.int 1))) (.p2 .mul (.con (.int 2)) (.slot 1)))), .ret (.lst (.cons (.ife (.p2 .ge (.slot 2) (.p2 .pow (.con (.int 10)) (.con (.int 18)))) (.slot 2) (.con (.int 0))) (.cons (.p2 .add (.p2 .mod (.p1 .int (.p2 .add (.p2 .mul (.slot 2) (.con (.int 48271))) (.con (.int 1009)))) (.con (.int 2147483629))) (.con (.int 3))) (.cons (.p1 .list (.sl (.slot 0) (.con (.int 1)) (.con .hole))) .nil))))] }
def drawFn : Fn := { name := (PySem.Str.ofString "_law_draw"), np := 2, ns := 5, stab := [true, true], body := [.ite (.and (.p2 .eq (.at 0 (.con (.int 0))) (.con (.int 0))) (.one (.vw .ne 0 (.con (.int 2)) none))) [.set 2 (.p1 .int (.popAt 0 (.cons (.con (.int 2)) .nil) (.con (.int 0)))), .set 3 (.ife (.p2 .ge (.slot 2) (.con (.int 0))) (.p2 .mul (.con (.int 2)) (.slot 2)) (.p2 .sub (.p1 .neg (.con (.int 1))) (.p2 .mul (.con (.int 2)) (.slot 2)))), .setIx 0 .nil (.con (.int 0)) (.ife (.p2 .ge (.slot 3) (.p2 .pow (.con (.int 10)) (.con (.int 18)))) (.slot 3) (.con (.int 0))), .setIx 0 .nil (.con (.int 1)) (.p2 .add (.p2 .mod (.p1 .int (.p2 .add (.at 0 (.con (.int 1))) (.p2 .mul (.slot 3) (.con (.int 69621))))) (.con (.int 2147483629))) (.con (.int 3)))] [], .ite (.p2 .gt (.at 0 (.con (.int 0))) (.con (.int 0))) [.set 4 (.p2 .mod (.p1 .int (.at 0 (.con (.int 0)))) (.slot 1)), .setIx 0 .nil (.con (.int 0)) (.p2 .fdiv (.at 0 (.con (.int 0))) (.slot 1)), .ret (.slot 4)] [], .setIx 0 .nil (.con (.int 1)) (.p2 .mod (.p1 .int (.p2 .add (.p2 .mul (.at 0 (.con (.int 1))) (.con (.int 48271))) (.con (.int 11)))) (.con (.int 2147483647))), .ret (.p2 .mod (.p2 .fdiv (.p2 .mod (.p1 .int (.p2 .mul (.at 0 (.con (.int 1))) (.at 0 (.con (.int 1))))) (.con (.int 2147483629))) (.con (.int 32))) (.slot 1))] }
structure Pool where
  b : Int
  s : Int
  cs : List Int
  h1 : 0 ≤ b
  h2 : 0 ≤ s
  h3 : s < 2 ^ 32
def encP (p : Pool) : D := .lst true [.int p.b, .int p.s, .lst true (p.cs.map .int)]
instance : EncOk encP := ⟨fun _ => ⟨_, rfl⟩⟩
def szI (c : Int) : Int := if 0 ≤ c then 2 * c else -1 - 2 * c
theorem szI_nn (c : Int) : 0 ≤ szI c := by unfold szI; split <;> omega
def bigI (z : Int) : Int := if 1000000000000000000 ≤ z then z else 0
theorem bigI_nn {z : Int} (h : 0 ≤ z) : 0 ≤ bigI z := by unfold bigI; split <;> omega
theorem emod_nn (t : Int) : 0 ≤ t % 2147483629 := Int.emod_nonneg _ (by decide)
theorem emod_lt (t : Int) : t % 2147483629 < 2147483629 := Int.emod_lt_of_pos _ (by decide)
def Pool.next (p : Pool) : Pool := if p.b = 0 then (match p.cs with
  | [] => p
  | c :: cs => ⟨bigI (szI c), (p.s + szI c * 69621) % 2147483629 + 3, cs, bigI_nn (szI_nn c), by have := emod_nn (p.s + szI c * 69621); omega, by have := emod_lt (p.s + szI c * 69621); omega⟩) else p
def Pool.dig (p : Pool) (m : Int) (hm : 0 < m) : Int × Pool := if 0 < p.b then (p.b % m, ⟨p.b / m, p.s, p.cs, Int.ediv_nonneg p.h1 (Int.le_of_lt hm), p.h2, p.h3⟩)
  else (((p.s * 48271 + 11) % 2147483647 * ((p.s * 48271 + 11) % 2147483647)) % 2147483629 / 32 % m, ⟨0, (p.s * 48271 + 11) % 2147483647, p.cs, Int.le_refl _, Int.emod_nonneg _ (by decide), by have := Int.emod_lt_of_pos (p.s * 48271 + 11) (show (0 : Int) < 2147483647 by decide); omega⟩)
/-- a drawn number below m -/
@[irreducible] def draw (m : Int) : S Pool Int := fun p => if hm : 0 < m ∧ m < 1073741824 then .ok (p.next.dig m hm.1) else .no
theorem dig_lt (p : Pool) (m : Int) (hm : 0 < m) : 0 ≤ (p.dig m hm).1 ∧ (p.dig m hm).1 < m := by
  unfold Pool.dig
  split
  · exact ⟨Int.emod_nonneg _ (by omega), Int.emod_lt_of_pos _ hm⟩
  · exact ⟨Int.emod_nonneg _ (by omega), Int.emod_lt_of_pos _ hm⟩
def Pool.of (ns : List Int) : Pool :=
  let c := ns.headD 0
  ⟨bigI (szI c), (szI c * 48271 + 1009) % 2147483629 + 3, cutI ns (some 1) none, bigI_nn (szI_nn c), by have := emod_nn (szI c * 48271 + 1009); omega, by have := emod_lt (szI c * 48271 + 1009); omega⟩
section
variable {F : List Fn} {wf k f : Nat}
theorem gt_0 {d : D} {e : Env} : gt (d :: e) 0 = d := rfl
theorem poolSet0 {T : Fns} {b s z : Int} {cs : List D} {r : Env} : setR T 0 .nil (.con (.int 0)) (.int z) (.lst true [.int b, .int s, .lst true cs] :: r) = .ok .non (.lst true [.int z, .int s, .lst true cs] :: r) := by
  rw [set_at (e1 := .lst true [.int b, .int s, .lst true cs] :: r) (xs := [.int b, .int s, .lst true cs]) (ys := [.int b, .int s, .lst true cs]) (k := 0) (j := 0) rfl rfl rfl rfl]; rfl
theorem poolSet1 {T : Fns} {b s z : Int} {cs : List D} {r : Env} : setR T 0 .nil (.con (.int 1)) (.int z) (.lst true [.int b, .int s, .lst true cs] :: r) = .ok .non (.lst true [.int b, .int z, .lst true cs] :: r) := by
  rw [set_at (e1 := .lst true [.int b, .int s, .lst true cs] :: r) (xs := [.int b, .int s, .lst true cs]) (ys := [.int b, .int s, .lst true cs]) (k := 1) (j := 1) rfl rfl rfl rfl]; rfl
theorem pool_at0 {T : Fns} {b s : Int} {cs : List D} {r : Env} : ev T (.at 0 (.con (.int 0))) (.lst true [.int b, .int s, .lst true cs] :: r) = .ok (.int b) (.lst true [.int b, .int s, .lst true cs] :: r) := rfl
theorem pool_at1 {T : Fns} {b s : Int} {cs : List D} {r : Env} : ev T (.at 0 (.con (.int 1))) (.lst true [.int b, .int s, .lst true cs] :: r) = .ok (.int s) (.lst true [.int b, .int s, .lst true cs] :: r) := rfl
theorem ixN_2 : L2.ixN 3 2 = some 2 := by decide
theorem pool_pop {T : Fns} {b s c : Int} {cs : List Int} {r : Env} : ev T (.popAt 0 (.cons (.con (.int 2)) .nil) (.con (.int 0))) (.lst true [.int b, .int s, .lst true ((c :: cs).map .int)] :: r) = .ok (.int c) (.lst true [.int b, .int s, .lst true (cs.map .int)] :: r) := by
  show (evP 0 (evs T (.cons (.con (.int 2)) .nil)) (.lst true [.int b, .int s, .lst true ((c :: cs).map .int)] :: r)).bind (fun is e1 => if ownAt 0 is e1 then (ev T (.con (.int 0)) (hide is 0 e1)).bind (popK 0 is e1) else .no) = _
  simp [ownAt, toInts, onPath, ixN_2, hide, popK, smallI, onSlot, unhide]
theorem pool_vw {T : Fns} {b s : Int} {cs : List Int} {r : Env} : ev T (.vw .ne 0 (.con (.int 2)) none) (.lst true [.int b, .int s, .lst true (cs.map .int)] :: r) = .ok (.bl (!cs.isEmpty)) (.lst true [.int b, .int s, .lst true (cs.map .int)] :: r) := by
  have h : (cs.map D.int).all (shD 11) = true := by rw [List.all_map]; exact List.all_eq_true.mpr fun _ _ => rfl
  have h1 : shD 12 (.lst false (cs.map .int)) = true := h
  have h2 : sem2 .ne (.lst false (cs.map .int)) (.lst false []) = some (.bl (!cs.isEmpty)) := by
    show (if (shD 12 (.lst false (cs.map .int)) && shD 12 (.lst false [])) = true then some (D.bl (!eqD (.lst false (cs.map .int)) (.lst false []))) else none) = _
    rw [h1]
    cases cs <;> rfl
  simp [h2]
theorem draw_head (p : Pool) (m : Int) : ∃ x y, ex (TF F wf k) wf 2 (drawFn.body.getD 0 .pass) [encP p, .int m, .hole, .hole, .hole] = .nx [encP p.next, .int m, x, y, .hole] := by
  obtain ⟨b, s, cs, h1, h2, h3⟩ := p
  unfold encP Pool.next
  by_cases hb : b = 0
  · subst hb
    cases cs with
    | nil =>
      refine ⟨.hole, .hole, ?_⟩
      have := pool_vw (T := TF F wf k) (b := 0) (s := s) (cs := []) (r := [.int m, .hole, .hole, .hole])
      rw [List.map_nil] at this
      simp [drawFn, pool_at0, this, -ev_at, -ev_vw]
    | cons c cs =>
      have pw : powN 10 18 = 1000000000000000000 := by decide
      have m1 : ∀ t : Int, mulOk 2 t = true := fun t => by unfold mulOk; simp
      have m2 : ∀ t : Int, mulOk t 69621 = true := fun t => by unfold mulOk; simp
      refine ⟨.int c, .int (szI c), ?_⟩
      unfold bigI szI
      by_cases hc : 0 ≤ c
      · by_cases hg : 1000000000000000000 ≤ 2 * c
        · simp [drawFn, pool_at0, pool_at1, pool_vw, pool_pop, poolSet0, poolSet1, hc, m1, m2, pw, hg, -ev_at, -ev_vw, -List.map_cons]
        · simp [drawFn, pool_at0, pool_at1, pool_vw, pool_pop, poolSet0, poolSet1, hc, m1, m2, pw, hg, -ev_at, -ev_vw, -List.map_cons]
      · by_cases hg : 1000000000000000000 ≤ -1 - 2 * c
        · simp [drawFn, pool_at0, pool_at1, pool_vw, pool_pop, poolSet0, poolSet1, hc, m1, m2, pw, hg, -ev_at, -ev_vw, -List.map_cons]
        · simp [drawFn, pool_at0, pool_at1, pool_vw, pool_pop, poolSet0, poolSet1, hc, m1, m2, pw, hg, -ev_at, -ev_vw, -List.map_cons]
  · refine ⟨.hole, .hole, ?_⟩
    simp [drawFn, pool_at0, pool_vw, hb, -ev_at, -ev_vw]
theorem draw_tail (p : Pool) (m : Int) (x y z : D) (hm : 0 < m) (hm2 : m < 1073741824) :
    Tw.finish 2 [true, true] (exs (TF F wf k) wf 2 (drawFn.body.drop 1) [encP p, .int m, x, y, z]) = .ok (.int (p.dig m hm).1) [encP (p.dig m hm).2, .int m] := by
  obtain ⟨b, s, cs, h1, h2, h3⟩ := p
  unfold encP Pool.dig
  by_cases hb : 0 < b
  · simp [drawFn, pool_at0, pool_at1, poolSet0, poolSet1, hb, hm, hm2, -ev_at]
  · have hb0 : b = 0 := by omega
    subst hb0
    have e1 : 0 ≤ (s * 48271 + 11) % 2147483647 := Int.emod_nonneg _ (by decide)
    have e2 : (s * 48271 + 11) % 2147483647 < 2147483647 := Int.emod_lt_of_pos _ (by decide)
    have m1 : mulOk s 48271 = true := by unfold mulOk; simp
    have m2 : ∀ t : Int, 0 ≤ t → t < 2147483647 → mulOk t t = true := fun t h h' => by unfold mulOk; simp; omega
    have m3 := m2 _ e1 e2
    simp [drawFn, pool_at0, pool_at1, poolSet0, poolSet1, hm, hm2, m1, m3, -ev_at]
theorem call_eq {n i : Nat} {g : Fn} {ds : List D} (h : F[i]? = some g) (hl : ds.length = g.np) : callF F wf (n + 1) i ds = Tw.finish g.np g.stab (exs (TF F wf n) wf g.np g.body (ds ++ List.replicate (g.ns - g.np) .hole)) := by
  show (match F[i]? with | none => _ | some g => _) = _
  rw [h]
  exact if_pos hl
theorem has1 {σ : Type} {enc : σ → D} {s : σ} {a : Sl} {ds : List D} (h : Has enc s [a] ds) : ∃ d, ds = [d] ∧ SlOk enc s a d := by
  match ds, h with
  | [d], h =>
    obtain ⟨d', h1, h2⟩ := h.2 0 a rfl
    cases h1
    exact ⟨d, rfl, h2⟩
  | [], h => cases h.1
  | _ :: _ :: _, h => cases h.1
theorem has2 {σ : Type} {enc : σ → D} {s : σ} {a b : Sl} {ds : List D} (h : Has enc s [a, b] ds) : ∃ d d', ds = [d, d'] ∧ SlOk enc s a d ∧ SlOk enc s b d' := by
  match ds, h with
  | [d, d'], h =>
    obtain ⟨d1, h1, h2⟩ := h.2 0 a rfl
    obtain ⟨d2, h3, h4⟩ := h.2 1 b rfl
    cases h1
    cases h3
    exact ⟨d, d', rfl, h2, h4⟩
  | [], h => cases h.1
  | [_], h => cases h.1
  | _ :: _ :: _ :: _, h => cases h.1
theorem post2 {σ : Type} {enc : σ → D} {s : σ} {a b : Sl} {st : List Bool} {d d' : D} (h : SlOk enc s a d) (h2 : SlOk enc s b d') : Post enc s st [a, b] [d, d'] := fun j p hj _ => by
  match j, hj with
  | 0, hj => cases hj; exact ⟨d, rfl, h⟩
  | 1, hj => cases hj; exact ⟨d', rfl, h2⟩
theorem draw_c (hF : F[f]? = some drawFn) (m : Int) : ∀ k, 1 ≤ k → CR F wf k f [true, true] encP [.st, .up (eI m)] (draw m) (isUp eI) := by
  intro k hk
  refine ⟨fun p ds hh => ?_⟩
  obtain ⟨k, rfl⟩ : ∃ k', k = k' + 1 := ⟨k - 1, by omega⟩
  obtain ⟨d, d', rfl, h1, h2⟩ := has2 hh
  cases (show d = encP p from h1)
  cases up_int (v := m) h2
  unfold draw
  by_cases hm : 0 < m ∧ m < 1073741824
  · rw [dif_pos hm]
    refine ⟨.int (p.next.dig m hm.1).1, [encP (p.next.dig m hm.1).2, .int m], ?_, up_of (f := eI) _, post2 rfl h2⟩
    obtain ⟨x, y, h3⟩ := draw_head (F := F) (wf := wf) (k := k) p m
    rw [call_eq hF rfl, ← draw_tail (F := F) (wf := wf) (k := k) p.next m x y .hole hm.1 hm.2]
    show Tw.finish 2 [true, true] ((ex (TF F wf k) wf 2 (drawFn.body.getD 0 .pass) [encP p, .int m, .hole, .hole, .hole]).seq (exs (TF F wf k) wf 2 (drawFn.body.drop 1))) = _
    rw [h3]; rfl
  · rw [dif_neg hm]; trivial
theorem pool_c (hF : F[f]? = some poolFn) (ns : List Int) : ∀ k, 1 ≤ k → CR F wf k f [true] encU [.up (eScr ns)] (S.pure (Pool.of ns)) (fun v d => d = encP v) := by
  intro k hk
  refine ⟨fun p ds hh => ?_⟩
  obtain ⟨k, rfl⟩ : ∃ k', k = k' + 1 := ⟨k - 1, by omega⟩
  obtain ⟨d, rfl, h1⟩ := has1 hh
  have hd : d = .scr ns := NL.eq (f := eScr) h1.2 h1.1
  subst hd
  refine ⟨encP (Pool.of ns), [.scr ns], ?_, rfl, fun j q hj _ => ?_⟩
  · rw [call_eq hF rfl]
    have pw : powN 10 18 = 1000000000000000000 := by decide
    have m1 : ∀ t : Int, mulOk 2 t = true := fun t => by unfold mulOk; simp
    have m2 : ∀ t : Int, mulOk t 48271 = true := fun t => by unfold mulOk; simp
    have hc := cut_map (f := D.int) ns (some 1) none
    have hfr : frz.frzs ((cutI ns (some 1) none).map D.int) = (cutI ns (some 1) none).map D.int := frzs_pers ints_pers
    have h1 : ex (TF F wf k) wf 1 (poolFn.body.getD 0 .pass) [.scr ns, .hole, .hole] = .nx [.scr ns, .int (ns.headD 0), .hole] := by
      cases ns with
      | nil => simp [poolFn]
      | cons x r => simp [poolFn, show (0 : Int) < (r.length : Int) + 1 by omega]
    have h2 : ∀ c : Int, Tw.finish 1 [true] (exs (TF F wf k) wf 1 (poolFn.body.drop 1) [.scr ns, .int c, .hole]) = .ok (.lst true [.int (bigI (szI c)), .int ((szI c * 48271 + 1009) % 2147483629 + 3), .lst true ((cutI ns (some 1) none).map .int)]) [.scr ns] := fun c => by
      unfold bigI szI
      by_cases hc2 : 0 ≤ c
      · by_cases hg : 1000000000000000000 ≤ 2 * c
        · simp [poolFn, hc2, m1, m2, pw, hg, hc, hfr]
        · simp [poolFn, hc2, m1, m2, pw, hg, hc, hfr]
      · by_cases hg : 1000000000000000000 ≤ -1 - 2 * c
        · simp [poolFn, hc2, m1, m2, pw, hg, hc, hfr]
        · simp [poolFn, hc2, m1, m2, pw, hg, hc, hfr]
    show Tw.finish 1 [true] ((ex (TF F wf k) wf 1 (poolFn.body.getD 0 .pass) [.scr ns, .hole, .hole]).seq (exs (TF F wf k) wf 1 (poolFn.body.drop 1))) = _
    rw [h1]
    exact h2 _
  · match j, hj with
    | 0, hj => cases hj; exact ⟨_, rfl, h1⟩
/-- what is left of a great cell -/
def S.big : S Pool Int := fun p => .ok (p.b, p)
theorem er_big {l : List Sl} {i : Nat} (hl : l[i]? = some .st) : ER (TF F wf k) encP l (.at i (.con (.int 0))) S.big (isUp eI) := .mk <| fun p e hh => by
  obtain ⟨d, hd, hs⟩ := hh.2 i _ hl
  refine ⟨.int p.b, e, ?_, up_of (f := eI) _, hh⟩
  rw [ev_at, gt_of hd, show d = encP p from hs, ev_con, R.bind_ok, gt_of hd, show d = encP p from hs]
  rfl
end
end Tx

set_option Elab.async false
set_option linter.all false
set_option maxRecDepth 100000
set_option maxHeartbeats 4000000
/-! Tx7: the typed layer: short forms for the printed proofs; what is left of a law. -/
namespace Tx
open Tw
def WF : Nat := 100000
section
variable {σ α β γ : Type} {enc : σ → D} {l l' : List Sl} {T : Fns} {a b c : IE}
theorem ltB {i n : Nat} (h : Nat.blt i n = true) : i < n := by
  exact Nat.le_of_ble_eq_true (show Nat.ble (i + 1) n = true from h)
theorem leB {i n : Nat} (h : Nat.ble i n = true) : i ≤ n := Nat.le_of_ble_eq_true h
theorem kp_0 {ps l : List Sl} : KP [] ps l := by
  unfold KP; trivial
theorem kp_n {st : List Bool} {l : List Sl} : KP st [] l := by
  cases st with
  | nil => exact kp_0
  | cons b st => cases b <;> (unfold KP; trivial)
theorem kp_t {st : List Bool} {p : Sl} {ps l : List Sl} (h : KP st ps l) : KP (true :: st) (p :: ps) (p :: l) := ⟨rfl, h⟩
theorem kp_f {st : List Bool} {p s : Sl} {ps l : List Sl} (h : KP st ps l) : KP (false :: st) (p :: ps) (s :: l) := h
theorem ea_u [EncOk enc] {i : Nat} {d : D} {as : IEs} {mb : S σ β} {ps : β → List Sl} (hl : l[i]? = some (.up d)) (hb : EA T enc l as mb ps) : EA T enc l (.cons (.slot i) as) mb (fun y => .up d :: ps y) := ea_s hl (fun q => by cases q) hb
theorem ea_o [EncOk enc] {i : Nat} {d : List D} {as : IEs} {mb : S σ β} {ps : β → List Sl} (hl : l[i]? = some (.own d)) (hb : EA T enc l as mb ps) : EA T enc l (.cons (.slot i) as) mb (fun y => .own d :: ps y) := ea_s hl (fun q => by cases q) hb
theorem ea_st [EncOk enc] {i : Nat} {as : IEs} {mb : S σ β} {ps : β → List Sl} (hl : l[i]? = some .st) (hb : EA T enc l as mb ps) : EA T enc l (.cons (.slot i) as) mb (fun y => .st :: ps y) := ea_s hl (fun q => by cases q) hb
theorem sr_start {wf np : Nat} {K : List Bool × List Sl} {Φ : α → σ → O → Prop} {ss : List IS} {m : S σ α} (l : List Sl) (h : l' = l) (hb : BR T wf np enc K l ss m Φ) : BR T wf np enc K l' ss m Φ := h ▸ hb
/-- what None is not -/
class NN {α : Type} (f : α → D) : Prop where
  p : ∀ x, f x ≠ .non
instance : NN eI := ⟨fun _ q => by cases q⟩
instance : NN eB := ⟨fun _ q => by cases q⟩
instance : NN eS := ⟨fun _ q => by cases q⟩
instance {f : α → D} : NN (eV f) := ⟨fun _ q => by cases q⟩
instance {f : α → D} : NN (eL f) := ⟨fun _ q => by cases q⟩
instance : NN e0 := ⟨fun _ q => by cases q⟩
instance {f : α → D} : NN (e1 f) := ⟨fun _ q => by cases q⟩
instance {f : α → D} {g : β → D} : NN (e2 f g) := ⟨fun _ q => by cases q⟩
instance {f : α → D} {g : β → D} {h : γ → D} : NN (e3 f g h) := ⟨fun _ q => by cases q⟩
instance {δ : Type} {f : α → D} {g : β → D} {h : γ → D} {i : δ → D} : NN (e4 f g h i) := ⟨fun _ q => by cases q⟩
theorem op_isO {f : α → D} [NL f] [NN f] : Op1 .isN (eO f) (fun x => some x.isNone) (isUp eB) := op_isN NN.p
theorem op_notO {f : α → D} [NL f] [NN f] : Op1 .notN (eO f) (fun x => some x.isSome) (isUp eB) := op_notN NN.p
theorem er_i {k : Int} : ER T enc l (.con (.int k)) (S.pure k) (isUp eI) := er_con rfl frz_int (fun q => by cases q)
theorem er_b {k : Bool} : ER T enc l (.con (.bl k)) (S.pure k) (isUp eB) := er_con rfl frz_bl (fun q => by cases q)
theorem er_str {k : PySem.Str} : ER T enc l (.con (.str k)) (S.pure k) (isUp eS) := er_con rfl frz_str (fun q => by cases q)
theorem er_u : ER T enc l (.con .non) (S.pure ()) (isUp eU) := er_con rfl frz_non (fun q => by cases q)
theorem er_none {f : α → D} : ER T enc l (.con .non) (S.pure none) (isUp (eO f)) := er_con (f := eO f) rfl frz_non (fun q => by cases q)
theorem er_gi {x : PySem.Str} {k : Int} : ER T enc l (.glob x (.int k)) (S.pure k) (isUp eI) := er_glob rfl frz_int (fun q => by cases q)
theorem er_gs {x : PySem.Str} {k : PySem.Str} : ER T enc l (.glob x (.str k)) (S.pure k) (isUp eS) := er_glob rfl frz_str (fun q => by cases q)
/-- what is there, where it is -/
theorem er_un {f : α → D} {m : S σ (Option α)} {m' : S σ α} (ha : ER T enc l a m (isUp (eO f))) (hm : m' = S.bind m fun o => S.of o) : ER T enc l a m' (isUp f) := .mk <| fun s e hh => by
  rw [hm]
  have := RR.bind (l := l) (k := fun o => S.of o) (f := fun d e => R.ok d e) (Q' := isUp f) (ha.out s e hh) fun v s' d e' q hh' => ?_
  · revert this
    cases ev T a e <;> exact id
  · cases v with
    | none => trivial
    | some v => exact ⟨d, e', rfl, q, hh'⟩
theorem op_un {f : α → D} {m : S σ (Option α)} {m' : S σ α} (ha : OP T enc l a m (eO f)) (hm : m' = S.bind m fun o => S.of o) : OP T enc l a m' f := by
  rcases ha with ⟨i, v, sl, h1, h2, rfl, h4⟩ | ⟨h1, h2⟩ | rfl
  · cases v with
    | some v => rw [hm]; exact .inl ⟨i, v, sl, h1, h2, rfl, h4⟩
    | none => exact .inr (.inr hm)
  · exact .inr (.inl ⟨h1, er_un h2 hm⟩)
  · exact .inr (.inr hm)
theorem np0S {np i : Nat} (h : Nat.ble np i = false) : ∀ j, (IE.slot i).isSlot = some j → ¬ np ≤ j := fun j hj hn => by
  cases hj
  have := Nat.ble_eq_true_of_le hn
  rw [h] at this; cases this
theorem np0N {np : Nat} (h : a.isSlot = none) : ∀ j, a.isSlot = some j → ¬ np ≤ j := fun j hj => by rw [h] at hj; cases hj
/-- what is left of a law -/
theorem law_end {F : List Fn} {k f : Nat} {m : S Unit Bool} {ns : List Int} (h : CR F WF k f [true] encU [.up (eScr ns)] m (isUp eB)) (hm : m () = .ok (true, ())) : ∃ e, callF F 100000 k f [.scr ns] = .ok (.bl true) e := by
  have := h.out () [.scr ns] ⟨rfl, fun i sl hi => by
    match i, hi with
    | 0, hi => cases hi; exact ⟨_, rfl, fun q => (by cases q), rfl⟩⟩
  rw [hm] at this
  obtain ⟨d, es, h1, h2, _⟩ := this
  cases up_bl h2
  exact ⟨es, h1⟩
end
end Tx
namespace Tx
open Tw
section
variable {σ α β γ δ τ ρ : Type} {enc : σ → D} {l l' : List Sl} {T : Fns} {wf np : Nat} {K : List Bool × List Sl} {Φ : α → σ → O → Prop} {ss body : List IS} {a b c : IE}
theorem sr_itev {z : Bool} {ma mb m' : S σ α} {sa sb : List IS} (hc : ER T enc l c (S.pure z) (isUp eB)) (kp : KP K.1 K.2 l) (hm : m' = if z then ma else mb) (ha : BR T wf np enc K l (sa ++ ss) ma Φ) (hb : BR T wf np enc K l (sb ++ ss) mb Φ) : BR T wf np enc K l (.ite c sa sb :: ss) m' Φ := sr_ite hc kp hm ha hb
theorem sr_iteJv {z : Bool} {ma mb : S σ τ} {k : τ → S σ α} {m' : S σ α} {sa sb : List IS} {lj : τ → List Sl} (hc : ER T enc l c (S.pure z) (isUp eB)) (kp : KP K.1 K.2 l) (hm : m' = S.bind (if z then ma else mb) k) (ha : BR T wf np enc K l sa ma (JE enc lj)) (hb : BR T wf np enc K l sb mb (JE enc lj)) (hk : ∀ t, BR T wf np enc K (lj t) ss (k t) Φ) :
    BR T wf np enc K l (.ite c sa sb :: ss) m' Φ := sr_iteJ hc kp hm ha hb hk
theorem sr_forv {β : Type} {t : Tg} {it : It} {g : β → D} {lj : τ → List Sl} {lb : τ → β → List Sl} {xs : List β} {f : τ → β → S σ τ} {t0 : τ} {k : τ → S σ α} {m' : S σ α} (hi : EI T enc l it (S.pure xs) g) (kp : KP K.1 K.2 l) (h0 : LE l (lj t0))
    (ht : ∀ v x, TG enc t (g x) (lj v) (lb v x)) (hm : m' = S.bind (S.fold f t0 xs) k) (hb : ∀ v x, BR T wf np enc K (lb v x) body (f v x) (LpE enc lj)) (hk : ∀ t, BR T wf np enc K (lj t) ss (k t) Φ) :
    BR T wf np enc K l (.for_ t it body :: ss) m' Φ := sr_for hi kp h0 ht hm hb hk
theorem sr_forEv {β : Type} {Q : ρ → D → Prop} {t : Tg} {it : It} {g : β → D} {lj : τ → List Sl} {lb : τ → β → List Sl} {xs : List β} {f : τ → β → S σ (Fl τ ρ)} {t0 : τ} {k : τ → S σ α} {kr : ρ → S σ α} {m' : S σ α} (hi : EI T enc l it (S.pure xs) g) (kp : KP K.1 K.2 l) (h0 : LE l (lj t0))
    (ht : ∀ v x, TG enc t (g x) (lj v) (lb v x)) (hr : ∀ v s o, Rt enc K Q v s o → OR enc K Φ (kr v s) o) (hm : m' = S.bind (S.foldE f t0 xs) fun r => r.el k kr) (hb : ∀ v x, BR T wf np enc K (lb v x) body (f v x) (FlE enc K Q lj)) (hk : ∀ t, BR T wf np enc K (lj t) ss (k t) Φ) :
    BR T wf np enc K l (.for_ t it body :: ss) m' Φ := sr_forE hi kp h0 ht hr hm hb hk
/-- a cast that may fail -/
theorem er_castO {f : α → D} {g : β → D} (c : α → Option β) {m : S σ α} {m' : S σ β} (ha : ER T enc l a m (isUp f)) (hc : ∀ v w, c v = some w → f v = g w) (hm : m' = S.bind m fun v => S.of (c v)) : ER T enc l a m' (isUp g) := .mk <| fun s e hh => by
  rw [hm]
  have := RR.bind (l := l) (k := fun v => S.of (c v)) (f := fun d e => R.ok d e) (Q' := isUp g) (ha.out s e hh) fun v s' d e' q hh' => ?_
  · revert this
    cases ev T a e <;> exact id
  · cases hv : c v with
    | none => trivial
    | some w => exact ⟨d, e', rfl, ⟨q.1, q.2.trans (hc v w hv)⟩, hh'⟩
def as2 (p : List α) : Option (α × α) := match p with
  | [x, y] => some (x, y)
  | _ => none
def as3 (p : List α) : Option (α × α × α) := match p with
  | [x, y, z] => some (x, y, z)
  | _ => none
theorem cast2 {f : α → D} (v : List α) (w : α × α) (h : as2 v = some w) : eV f v = e2 f f w := by
  unfold as2 at h
  split at h <;> cases h
  rfl
theorem cast3 {f : α → D} (v : List α) (w : α × α × α) (h : as3 v = some w) : eV f v = e3 f f f w := by
  unfold as3 at h
  split at h <;> cases h
  rfl
def eF3 (f : α → D) (g : β → D) (h : γ → D) : α × β × γ → D := fun p => .lst false [f p.1, g p.2.1, h p.2.2]
theorem er_unN3 {f : α → D} {g : β → D} {h : γ → D} {m : S σ (Option (α × β × γ))} {m' : S σ (α × β × γ)} (ha : ER T enc l a m (isUp (eN3 f g h))) (hm : m' = S.bind m fun o => S.of o) : ER T enc l a m' (isUp (eF3 f g h)) :=
  er_castO (fun o => o) ha (fun v w hv => by cases hv; rfl) hm
theorem tg_f3 {f : α → D} {g : β → D} {h : γ → D} {ts : List Tg} {p : α × β × γ} (k : TGs enc ts [f p.1, g p.2.1, h p.2.2] l l') : TG enc (.tp ts) (eF3 f g h p) l l' := tg_n3 (p := p) k
theorem op_eqNn3 {f : α → D} {g : β → D} {h : γ → D} {n m p : Nat} [DecidableEq α] [DecidableEq β] [DecidableEq γ] [Eqe f n] [Eqe g m] [Eqe h p] (hn : max n (max m p) ≤ 11) : Op2 .eq (eN3 f g h) (eL (α := Int) eI) (fun x y => if y = [] then some x.isNone else none) (isUp eB) := op_eqN3 fun x => by
  cases x with
  | none => rfl
  | some x =>
    have h1 := shD_le (Nat.le_trans (Nat.le_max_left n (max m p)) hn) (Eqe.sh (f := f) x.1)
    have h2 := shD_le (Nat.le_trans (Nat.le_trans (Nat.le_max_left m p) (Nat.le_max_right n _)) hn) (Eqe.sh (f := g) x.2.1)
    have h3 := shD_le (Nat.le_trans (Nat.le_trans (Nat.le_max_right m p) (Nat.le_max_right n _)) hn) (Eqe.sh (f := h) x.2.2)
    show ([f x.1, g x.2.1, h x.2.2].all (shD 11)) = true
    rw [List.all_cons, List.all_cons, List.all_cons, h1, h2, h3]; rfl
end
end Tx
/-! ### the rules where the parts are values -/
namespace Tx
open Tw
section
variable {σ α β γ δ τ ρ : Type} {enc : σ → D} {l l' : List Sl} {T : Fns} {wf np : Nat} {K : List Bool × List Sl} {Φ : α → σ → O → Prop} {ss body : List IS} {a b c : IE} {f : α → D} {g : β → D} {h : γ → D}
theorem er_p1v {p : P1} {o : α → Option γ} {x : α} {Q : γ → D → Prop} {m' : S σ γ} (ha : OP T enc l a (S.pure x) f) (ho : Op1 p f o Q) (hm : m' = S.of (o x)) : ER T enc l (.p1 p a) m' Q := er_p1 ha ho hm
theorem er_p2v {q : P2} {o : α → β → Option γ} {x : α} {y : β} {Q : γ → D → Prop} {m' : S σ γ} (ha : OP T enc l a (S.pure x) f) (hb : OP T enc l b (S.pure y) g) (ho : Op2 q f g o Q) (hm : m' = S.of (o x y)) : ER T enc l (.p2 q a b) m' Q := er_p2 ha hb ho hm
theorem er_revv {o : α → Option γ} {x : α} {Q : γ → D → Prop} {m' : S σ γ} (ha : OP T enc l a (S.pure x) f) (ho : ∀ x v, o x = some v → ∃ d, semRev (f x) = some d ∧ Q v d) (hm : m' = S.of (o x)) : ER T enc l (.rev a) m' Q := er_rev ha ho hm
theorem ep_somev {x : Int} {m' : S σ (Option Int)} (h : ER T enc l a (S.pure x) (isUp D.int)) (hm : m' = S.pure (some x)) : EP T enc l a m' := ep_some h hm
theorem er_slv {o : α → Option Int → Option Int → Option γ} {x : α} {u v : Option Int} {Q : γ → D → Prop} {m' : S σ γ} {lo hi : IE} (ha : OP T enc l a (S.pure x) f) (hlo : EP T enc l lo (S.pure u)) (hhi : EP T enc l hi (S.pure v))
    (ho : ∀ x u v r, o x u v = some r → ∃ d, semSl (f x) u v = some d ∧ Q r d) (hm : m' = S.of (o x u v)) : ER T enc l (.sl a lo hi) m' Q := er_sl ha hlo hhi ho hm
theorem er_notv {x : Bool} {m' : S σ Bool} (ha : ER T enc l a (S.pure x) (isUp D.bl)) (hm : m' = S.pure (!x)) : ER T enc l (.not a) m' (isUp D.bl) := er_not ha hm
theorem er_somev {x : α} {m' : S σ (Option α)} (ha : ER T enc l a (S.pure x) (isUp f)) (hm : m' = S.pure (some x)) : ER T enc l a m' (isUp (eO f)) := er_some ha hm
theorem er_castv (c : α → β) {x : α} {m' : S σ β} (ha : ER T enc l a (S.pure x) (isUp f)) (hc : ∀ v, f v = g (c v)) (hm : m' = S.pure (c x)) : ER T enc l a m' (isUp g) := er_cast c ha hc hm
theorem er_castOv (c : α → Option β) {x : α} {m' : S σ β} (ha : ER T enc l a (S.pure x) (isUp f)) (hc : ∀ v w, c v = some w → f v = g w) (hm : m' = S.of (c x)) : ER T enc l a m' (isUp g) := er_castO c ha hc hm
theorem er_unv {x : Option α} {m' : S σ α} (ha : ER T enc l a (S.pure x) (isUp (eO f))) (hm : m' = S.of x) : ER T enc l a m' (isUp f) := er_un ha hm
theorem op_unv {x : Option α} {m' : S σ α} (ha : OP T enc l a (S.pure x) (eO f)) (hm : m' = S.of x) : OP T enc l a m' f := op_un ha hm
theorem er_unN3v {x : Option (α × β × γ)} {m' : S σ (α × β × γ)} (ha : ER T enc l a (S.pure x) (isUp (eN3 f g h))) (hm : m' = S.of x) : ER T enc l a m' (isUp (eF3 f g h)) := er_unN3 ha hm
theorem er_pjv [Pe g] {k : Int} {π : α → β} {x : α} {m' : S σ β} (ha : OP T enc l a (S.pure x) f) (hp : ∀ x, sem2 .ix (f x) (.int k) = some (g (π x))) (hm : m' = S.pure (π x)) : ER T enc l (.p2 .ix a (.con (.int k))) m' (isUp g) := er_pj ha hp hm
theorem er_t1v {x : α} {m' : S σ α} (ha : ER T enc l a (S.pure x) (isUp f)) (hm : m' = S.pure x) : ER T enc l (.tup (.cons a .nil)) m' (isUp (e1 f)) := er_t1 ha hm
theorem er_t2v {x : α} {y : β} {m' : S σ (α × β)} (ha : ER T enc l a (S.pure x) (isUp f)) (hb : ER T enc l b (S.pure y) (isUp g)) (hm : m' = S.pure (x, y)) : ER T enc l (.tup (.cons a (.cons b .nil))) m' (isUp (e2 f g)) := er_t2 ha hb hm
theorem er_t3v {x : α} {y : β} {z : γ} {m' : S σ (α × β × γ)} (ha : ER T enc l a (S.pure x) (isUp f)) (hb : ER T enc l b (S.pure y) (isUp g)) (hc : ER T enc l c (S.pure z) (isUp h)) (hm : m' = S.pure (x, y, z)) : ER T enc l (.tup (.cons a (.cons b (.cons c .nil)))) m' (isUp (e3 f g h)) := er_t3 ha hb hc hm
theorem er_t4v {d : IE} {i : δ → D} {x : α} {y : β} {z : γ} {w : δ} {m' : S σ (α × β × γ × δ)} (ha : ER T enc l a (S.pure x) (isUp f)) (hb : ER T enc l b (S.pure y) (isUp g)) (hc : ER T enc l c (S.pure z) (isUp h)) (hd : ER T enc l d (S.pure w) (isUp i)) (hm : m' = S.pure (x, y, z, w)) : ER T enc l (.tup (.cons a (.cons b (.cons c (.cons d .nil))))) m' (isUp (e4 f g h i)) := er_t4 ha hb hc hd hm
theorem er_l1v [NL f] {x : α} {m' : S σ (List α)} (ha : ER T enc l a (S.pure x) (isUp f)) (hm : m' = S.pure [x]) : ER T enc l (.lst (.cons a .nil)) m' (isOwn (List.map f)) := er_l1 ha hm
theorem er_l2v [NL f] {x y : α} {m' : S σ (List α)} (ha : ER T enc l a (S.pure x) (isUp f)) (hb : ER T enc l b (S.pure y) (isUp f)) (hm : m' = S.pure [x, y]) : ER T enc l (.lst (.cons a (.cons b .nil))) m' (isOwn (List.map f)) := er_l2 ha hb hm
theorem er_l1uv {x : α} {m' : S σ (List α)} (ha : ER T enc l a (S.pure x) (isUp f)) (hm : m' = S.pure [x]) : ER T enc l (.lst (.cons a .nil)) m' (isUp (eL f)) := er_l1u ha hm
theorem er_n3v {x : α} {y : β} {z : γ} {m' : S σ (Option (α × β × γ))} (ha : ER T enc l a (S.pure x) (isUp f)) (hb : ER T enc l b (S.pure y) (isUp g)) (hc : ER T enc l c (S.pure z) (isUp h)) (hm : m' = S.pure (some (x, y, z))) : ER T enc l (.lst (.cons a (.cons b (.cons c .nil)))) m' (isUp (eN3 f g h)) := er_n3 ha hb hc hm
theorem ei_rng1v {x : Int} {m' : S σ (List Int)} (ha : ER T enc l a (S.pure x) (isUp eI)) (hm : m' = S.of (rgB x)) : EI T enc l (.rng (.cons a .nil)) m' eI := ei_rng1 ha hm
theorem ei_rng2v {x y : Int} {m' : S σ (List Int)} (ha : ER T enc l a (S.pure x) (isUp eI)) (hb : ER T enc l b (S.pure y) (isUp eI)) (hm : m' = S.of (rgAB x y)) : EI T enc l (.rng (.cons a (.cons b .nil))) m' eI := ei_rng2 ha hb hm
theorem ei_Rv {x : Int × Int} {m' : S σ (List Int)} (ha : ER T enc l a (S.pure x) (isUp eR)) (hm : m' = S.of (rgAB x.1 x.2)) : EI T enc l (.seq a) m' eI := ei_R ha hm
theorem ei_2v {x : α × α} {m' : S σ (List α)} (ha : ER T enc l a (S.pure x) (isUp (e2 f f))) (hm : m' = S.pure [x.1, x.2]) : EI T enc l (.seq a) m' f := ei_2 ha hm
theorem ei_3v {x : α × α × α} {m' : S σ (List α)} (ha : ER T enc l a (S.pure x) (isUp (e3 f f f))) (hm : m' = S.pure [x.1, x.2.1, x.2.2]) : EI T enc l (.seq a) m' f := ei_3 ha hm
theorem er_rgl1v {x : Int} {m' : S σ (List Int)} (ha : ER T enc l a (S.pure x) (isUp eI)) (hm : m' = S.of (rgB x)) : ER T enc l (.rgl false (.cons a .nil)) m' (isOwn (List.map eI)) := er_rgl1 ha hm
theorem er_rgt1v {x : Int} {m' : S σ (List Int)} (ha : ER T enc l a (S.pure x) (isUp eI)) (hm : m' = S.of (rgB x)) : ER T enc l (.rgl true (.cons a .nil)) m' (isUp (eV eI)) := er_rgt1 ha hm
theorem er_rgl2v {x y : Int} {m' : S σ (List Int)} (ha : ER T enc l a (S.pure x) (isUp eI)) (hb : ER T enc l b (S.pure y) (isUp eI)) (hm : m' = S.of (rgAB x y)) : ER T enc l (.rgl false (.cons a (.cons b .nil))) m' (isOwn (List.map eI)) := er_rgl2 ha hb hm
theorem er_rgt2v {x y : Int} {m' : S σ (List Int)} (ha : ER T enc l a (S.pure x) (isUp eI)) (hb : ER T enc l b (S.pure y) (isUp eI)) (hm : m' = S.of (rgAB x y)) : ER T enc l (.rgl true (.cons a (.cons b .nil))) m' (isUp (eV eI)) := er_rgt2 ha hb hm
theorem er_rngv1v {x : Int} {m' : S σ (Int × Int)} (ha : ER T enc l a (S.pure x) (isUp eI)) (hm : m' = S.of (rgO x)) : ER T enc l (.rngv (.cons a .nil)) m' (isUp eR) := er_rngv1 ha hm
theorem ea_ev {as : IEs} {x : α} {y : β} {ps : β → List Sl} {m' : S σ (α × β)} (hs : a.isSlot = none) (ha : ER T enc l a (S.pure x) (isUp f)) (hb : EA T enc l as (S.pure y) ps) (hm : m' = S.pure (x, y)) : EA T enc l (.cons a as) m' (fun p => .up (f p.1) :: ps p.2) := ea_e hs ha hb hm
variable {F : List Fn} {k : Nat}
theorem er_callv [EncOk enc] {n : Nat} {as : IEs} {v : β} {ps : β → List Sl} {mc : β → S σ γ} {m' : S σ γ} {st : List Bool} {Q : γ → D → Prop} (hst : (TF F wf k).stab n = st) (ha : EA (TF F wf k) enc l as (S.pure v) ps) (hc : ∀ b, CR F wf k n st enc (ps b) (mc b) Q) (nd : (slotsA as).Nodup) (ho : ∀ b, ownStab st (ps b) = true)
    (hs : stIn l (slotsA as) = true) (hm : m' = mc v) : ER (TF F wf k) enc l (.call n as) m' Q := er_call hst ha hc nd ho hs hm
theorem er_callUv [EncOk enc] {n : Nat} {as : IEs} {v : β} {ps : β → List Sl} {mc : β → S Unit γ} {m' : S σ γ} {st : List Bool} {Q : γ → D → Prop} (hst : (TF F wf k).stab n = st) (ha : EA (TF F wf k) enc l as (S.pure v) ps) (hc : ∀ b, CR F wf k n st encU (ps b) (mc b) Q) (nd : (slotsA as).Nodup) (ho : ∀ b, ownStab st (ps b) = true)
    (hs : ∀ b, noSts (ps b) = true) (hm : m' = S.up (mc v)) : ER (TF F wf k) enc l (.call n as) m' Q := er_callU hst ha hc nd ho hs hm
theorem sr_raisev {w : Nat} {x : β} {m' : S σ α} (ha : ER T enc l a (S.pure x) (isUp g)) (kp : KP K.1 K.2 l) (hm : m' = S.raise w (g x)) : BR T wf np enc K l (.raise w a :: ss) m' Φ := sr_raise ha kp hm
theorem sr_retEv {Q : ρ → D → Prop} {lj : τ → List Sl} {x : ρ} {m' : S σ (Fl τ ρ)} (np0 : ∀ i, a.isSlot = some i → ¬ np ≤ i) (ha : ER T enc l a (S.pure x) Q) (kp : KP K.1 K.2 l) (hm : m' = S.pure (.rt x)) : BR T wf np enc K l (.ret a :: ss) m' (FlE enc K Q lj) := sr_retE np0 ha kp hm
theorem hr_fn {Q : ρ → D → Prop} : ∀ (v : ρ) (s : σ) o, Rt enc K Q v s o → OR enc K (FnE enc K Q) (S.pure v s) o := fun _ _ _ h => .inl h
theorem hr_lp {Q : ρ → D → Prop} {lj : τ → List Sl} : ∀ (v : ρ) (s : σ) o, Rt enc K Q v s o → OR enc K (FlE enc K Q lj) ((fun v => S.pure (Fl.rt v)) v s) o := fun _ _ _ h => h
end
end Tx

set_option Elab.async false
set_option linter.all false
set_option maxRecDepth 100000
set_option maxHeartbeats 4000000
/-! Tx8: the typed layer: data of any form (eA), decoders, try. -/
namespace Tx
open Tw
/-- data of any form -/
def eA : D → D := fun d => if pers d then d else .non
instance : Pe eA := ⟨fun d => by
  unfold eA
  cases h : pers d with
  | true => rw [if_pos rfl]; exact h
  | false => rw [if_neg Bool.false_ne_true]; rfl⟩
theorem eA_pers {d : D} (h : pers d = true) : eA d = d := if_pos h
theorem eA_of {α : Type} {f : α → D} [Pe f] (x : α) : eA (f x) = f x := eA_pers (Pe.p x)
/-- which datum of the type stands there -/
class Dec {α : Type} (f : α → D) where
  dec : D → Option α
  ok : ∀ d x, dec d = some x → f x = d
def asD {α : Type} (f : α → D) [Dec f] (d : D) : Option α := Dec.dec f (eA d)
section
variable {α β γ δ : Type}
instance : Dec eA := ⟨fun d => if pers d then some d else none, fun d x h => by
  by_cases hp : pers d = true
  · rw [if_pos hp] at h; cases h; exact eA_pers hp
  · rw [if_neg hp] at h; cases h⟩
def decI : D → Option Int := fun d => match d with
  | .int i => some i
  | _ => none
def decB : D → Option Bool := fun d => match d with
  | .bl i => some i
  | _ => none
def decS : D → Option PySem.Str := fun d => match d with
  | .str i => some i
  | _ => none
def decU : D → Option Unit := fun d => match d with
  | .non => some ()
  | _ => none
def decVs (g : D → Option α) : List D → Option (List α)
  | [] => some []
  | x :: xs => (g x).bind fun y => (decVs g xs).map (y :: ·)
def decV (g : D → Option α) : D → Option (List α) := fun d => match d with
  | .tup xs => decVs g xs
  | _ => none
def decL (g : D → Option α) : D → Option (List α) := fun d => match d with
  | .lst false xs => decVs g xs
  | _ => none
def dec0 : D → Option Unit := fun d => match d with
  | .tup [] => some ()
  | _ => none
def dec2 (g : D → Option α) (h : D → Option β) : D → Option (α × β) := fun d => match d with
  | .tup [x, y] => (g x).bind fun a => (h y).map fun b => (a, b)
  | _ => none
def dec3 (g : D → Option α) (h : D → Option β) (i : D → Option γ) : D → Option (α × β × γ) := fun d => match d with
  | .tup [x, y, z] => (g x).bind fun a => (h y).bind fun b => (i z).map fun c => (a, b, c)
  | _ => none
theorem decVs_ok {f : α → D} [Dec f] : ∀ {xs : List D} {ys : List α}, decVs (Dec.dec f) xs = some ys → ys.map f = xs
  | [], ys, h => by cases (show some [] = some ys from h); rfl
  | x :: xs, ys, h => by
    have h : (Dec.dec f x).bind (fun y => (decVs (Dec.dec f) xs).map (y :: ·)) = some ys := h
    cases h1 : Dec.dec f x with
    | none => rw [h1] at h; cases h
    | some y =>
      rw [h1] at h
      cases h2 : decVs (Dec.dec f) xs with
      | none => rw [h2] at h; cases h
      | some zs => rw [h2] at h; cases h; rw [List.map_cons, Dec.ok x y h1, decVs_ok h2]
instance : Dec eI := ⟨decI, fun d x h => by cases d <;> first | (cases h; rfl) | cases h⟩
instance : Dec eB := ⟨decB, fun d x h => by cases d <;> first | (cases h; rfl) | cases h⟩
instance : Dec eS := ⟨decS, fun d x h => by cases d <;> first | (cases h; rfl) | cases h⟩
instance : Dec eU := ⟨decU, fun d x h => by cases d <;> first | (cases h; rfl) | cases h⟩
instance : Dec e0 := ⟨dec0, fun d x h => by unfold dec0 at h; split at h <;> first | (cases h; rfl) | cases h⟩
instance {f : α → D} [Dec f] : Dec (eV f) := ⟨decV (Dec.dec f), fun d x h => by
  unfold decV at h
  split at h
  · exact congrArg D.tup (decVs_ok h)
  · cases h⟩
instance {f : α → D} [Dec f] : Dec (eL f) := ⟨decL (Dec.dec f), fun d x h => by
  unfold decL at h
  split at h
  · exact congrArg (D.lst false) (decVs_ok h)
  · cases h⟩
instance {f : α → D} {g : β → D} [Dec f] [Dec g] : Dec (e2 f g) := ⟨dec2 (Dec.dec f) (Dec.dec g), fun d x h => by
  unfold dec2 at h
  split at h
  · rename_i u v
    cases h1 : Dec.dec f u with
    | none => rw [h1] at h; cases h
    | some a =>
      rw [h1] at h
      cases h2 : Dec.dec g v with
      | none => simp [h2] at h
      | some b => simp [h2] at h; subst h; show D.tup [f a, g b] = _; rw [Dec.ok u a h1, Dec.ok v b h2]
  · cases h⟩
instance {f : α → D} {g : β → D} {i : γ → D} [Dec f] [Dec g] [Dec i] : Dec (e3 f g i) := ⟨dec3 (Dec.dec f) (Dec.dec g) (Dec.dec i), fun d x h => by
  unfold dec3 at h
  split at h
  · rename_i u v w
    cases h1 : Dec.dec f u with
    | none => rw [h1] at h; cases h
    | some a =>
      rw [h1] at h
      cases h2 : Dec.dec g v with
      | none => simp [h2] at h
      | some b =>
        cases h3 : Dec.dec i w with
        | none => simp [h2, h3] at h
        | some c => simp [h2, h3] at h; subst h; show D.tup [f a, g b, i c] = _; rw [Dec.ok u a h1, Dec.ok v b h2, Dec.ok w c h3]
  · cases h⟩
/-- is it of the type -/
def isA (t : Ty) (d : D) : Option Bool := match sem1 (.isTy t) (eA d) with
  | some (.bl b) => some b
  | _ => none
def nonA (d : D) : Bool := match eA d with
  | .non => true
  | _ => false
def eqA (x y : D) : Option Bool := if shD 12 (eA x) && shD 12 (eA y) then some (eqD (eA x) (eA y)) else none
def neA (x y : D) : Option Bool := if shD 12 (eA x) && shD 12 (eA y) then some (!eqD (eA x) (eA y)) else none
theorem op_isA {t : Ty} : Op1 (.isTy t) eA (isA t) (isUp eB) := fun x v h => by
  unfold isA at h
  split at h
  · rename_i b hb
    cases h
    exact ⟨_, hb, bl_up⟩
  · cases h
theorem op_nonA : Op1 .isN eA (fun x => some (nonA x)) (isUp eB) := fun x v h => by
  cases h
  unfold nonA
  cases eA x <;> exact ⟨_, rfl, bl_up⟩
theorem op_nnonA : Op1 .notN eA (fun x => some (!nonA x)) (isUp eB) := fun x v h => by
  cases h
  unfold nonA
  cases eA x <;> exact ⟨_, rfl, bl_up⟩
theorem sem_eq {a b : D} : sem2 .eq a b = if shD 12 a && shD 12 b then some (.bl (eqD a b)) else none := by
  cases a <;> cases b <;> rfl
theorem sem_ne {a b : D} : sem2 .ne a b = if shD 12 a && shD 12 b then some (.bl (!eqD a b)) else none := by
  cases a <;> cases b <;> rfl
theorem op_eqA : Op2 .eq eA eA eqA (isUp eB) := fun x y v h => by
  unfold eqA at h
  rw [sem_eq]
  by_cases q : (shD 12 (eA x) && shD 12 (eA y)) = true
  · rw [if_pos q] at h ⊢; cases h; exact ⟨_, rfl, bl_up⟩
  · rw [if_neg q] at h; cases h
theorem op_neA : Op2 .ne eA eA neA (isUp eB) := fun x y v h => by
  unfold neA at h
  rw [sem_ne]
  by_cases q : (shD 12 (eA x) && shD 12 (eA y)) = true
  · rw [if_pos q] at h ⊢; cases h; exact ⟨_, rfl, bl_up⟩
  · rw [if_neg q] at h; cases h
end
section
variable {σ α β γ δ τ ρ : Type} {enc : σ → D} {l l' : List Sl} {T : Fns} {a : IE} {f : α → D} {g : β → D}
theorem er_any [Pe f] {m : S σ α} {m' : S σ D} (ha : ER T enc l a m (isUp f)) (hm : m' = S.bind m fun x => S.pure (f x)) : ER T enc l a m' (isUp eA) := .mk <| fun s e hh => by
  rw [hm]
  have := RR.bind (l := l) (k := fun x => S.pure (f x)) (f := fun d e => R.ok d e) (Q' := isUp eA) (ha.out s e hh) fun v s' d e' q hh' => ?_
  · revert this
    cases ev T a e <;> exact id
  · exact ⟨d, e', rfl, ⟨q.1, q.2.trans (eA_of (f := f) v).symm⟩, hh'⟩
theorem er_anyv [Pe f] {x : α} {m' : S σ D} (ha : ER T enc l a (S.pure x) (isUp f)) (hm : m' = S.pure (f x)) : ER T enc l a m' (isUp eA) := er_any ha hm
theorem er_as [Dec f] {m : S σ D} {m' : S σ α} (ha : ER T enc l a m (isUp eA)) (hm : m' = S.bind m fun x => S.of (asD f x)) : ER T enc l a m' (isUp f) := .mk <| fun s e hh => by
  rw [hm]
  have := RR.bind (l := l) (k := fun x => S.of (asD f x)) (f := fun d e => R.ok d e) (Q' := isUp f) (ha.out s e hh) fun v s' d e' q hh' => ?_
  · revert this
    cases ev T a e <;> exact id
  · cases h : asD f v with
    | none => trivial
    | some y =>
      have : f y = eA v := Dec.ok _ _ h
      exact ⟨d, e', rfl, ⟨q.1, by rw [this]; exact q.2⟩, hh'⟩
theorem er_asv [Dec f] {x : D} {m' : S σ α} (ha : ER T enc l a (S.pure x) (isUp eA)) (hm : m' = S.of (asD f x)) : ER T enc l a m' (isUp f) := er_as ha hm
theorem op_as [Dec f] {m : S σ D} {m' : S σ α} (ha : OP T enc l a m eA) (hm : m' = S.bind m fun x => S.of (asD f x)) : OP T enc l a m' f := by
  rcases ha with ⟨i, v, sl, rfl, hl, rfl, hv⟩ | ⟨hs, o⟩ | rfl
  · rw [hm, S.pure_bind]
    cases h : asD f v with
    | none => exact .inr (.inr rfl)
    | some y =>
      have : f y = eA v := Dec.ok _ _ h
      refine .inl ⟨i, y, sl, rfl, hl, rfl, ?_⟩
      rw [this]; exact hv
  · exact .inr (.inl ⟨hs, er_as o hm⟩)
  · exact .inr (.inr hm)
theorem op_asv [Dec f] {x : D} {m' : S σ α} (ha : OP T enc l a (S.pure x) eA) (hm : m' = S.of (asD f x)) : OP T enc l a m' f := op_as ha hm
theorem op_any [Pe f] {m : S σ α} {m' : S σ D} (ha : OP T enc l a m f) (hm : m' = S.bind m fun x => S.pure (f x)) : OP T enc l a m' eA := by
  rcases ha with ⟨i, v, sl, rfl, hl, rfl, hv⟩ | ⟨hs, o⟩ | rfl
  · rw [hm, S.pure_bind]
    refine .inl ⟨i, f v, sl, rfl, hl, rfl, ?_⟩
    rw [eA_of (f := f) v]; exact hv
  · exact .inr (.inl ⟨hs, er_any o hm⟩)
  · exact .inr (.inr hm)
theorem op_anyv [Pe f] {x : α} {m' : S σ D} (ha : OP T enc l a (S.pure x) f) (hm : m' = S.pure (f x)) : OP T enc l a m' eA := op_any ha hm
/-! ### try -/
def S.try_ (m : S Unit α) (h : Nat → D → S Unit α) : S Unit α := fun s => match m s with
  | .ex c w => h c w ()
  | r => r
def S.hd (f : ρ → D) [Dec f] : List Hd → Nat → D → S Unit ρ
  | [], c, w => S.raise c w
  | h :: hs, c, w => if h.yes.contains c then (match h.he.ev c w with
    | some d => S.of (Dec.dec f d)
    | none => S.no) else if h.no.contains c then S.hd f hs c w else S.no
/-- the end of a try's body -/
def TrE (enc : σ → D) (K : List Bool × List Sl) (Q : ρ → D → Prop) (lj : τ → List Sl) : Fl τ ρ → σ → O → Prop := fun r s o => match r with
  | .nx t => ∃ e, o = .nx e ∧ Has enc s (lj t) e
  | .bk t => ∃ e, o = .nx e ∧ Has enc s (lj t) e
  | .rt v => Rt enc K Q v s o
variable {wf np : Nat} {K : List Bool × List Sl} {Φ : α → σ → O → Prop} {ss body : List IS}
theorem hr_tr {lj : τ → List Sl} {Q : ρ → D → Prop} : ∀ v s o, Rt enc K Q v s o → OR enc K (TrE enc K Q lj) ((fun v => S.pure (Fl.rt v) : ρ → S σ (Fl τ ρ)) v s) o := fun v s o h => h
theorem sr_nilT {lj : τ → List Sl} {Q : ρ → D → Prop} {t : τ} {m : S σ (Fl τ ρ)} (h : LE l (lj t)) (hm : m = S.pure (.nx t)) : BR T wf np enc K l [] m (TrE enc K Q lj) := .mk <| fun s e hh => by
  rw [hm]; exact ⟨e, rfl, h.has hh⟩
theorem sr_retT {Q : ρ → D → Prop} {lj : τ → List Sl} {m : S σ ρ} {m' : S σ (Fl τ ρ)} (np0 : ∀ i, a.isSlot = some i → ¬ np ≤ i) (ha : ER T enc l a m Q) (kp : KP K.1 K.2 l) (hm : m' = S.bind m fun v => S.pure (.rt v)) : BR T wf np enc K l (.ret a :: ss) m' (TrE enc K Q lj) := by
  rw [hm]
  exact ret_any np0 ha kp fun v s o h => h
theorem sr_retTv {Q : ρ → D → Prop} {lj : τ → List Sl} {x : ρ} {m' : S σ (Fl τ ρ)} (np0 : ∀ i, a.isSlot = some i → ¬ np ≤ i) (ha : ER T enc l a (S.pure x) Q) (kp : KP K.1 K.2 l) (hm : m' = S.pure (.rt x)) : BR T wf np enc K l (.ret a :: ss) m' (TrE enc K Q lj) := sr_retT np0 ha kp hm
theorem sr_retUT {f : ρ → D} {lj : τ → List Sl} {i : Nat} {v : ρ} {m : S σ (Fl τ ρ)} (hl : l[i]? = some (.up (f v))) (hi : np ≤ i) (hK : K.2.length ≤ i) (kp : KP K.1 K.2 l) (hm : m = S.pure (.rt v)) : BR T wf np enc K l (.ret (.slot i) :: ss) m (TrE enc K (isUp f) lj) :=
  ret_loc (enc := enc) (Q := isUp f) (Φ := TrE enc K (isUp f) lj) (m := m) hl (fun s d h => ⟨h.1, h⟩) hi hK kp fun s o h => by rw [hm]; exact h
end
section
variable {α τ ρ : Type} {l : List Sl} {T : Fns} {wf np : Nat} {K : List Bool × List Sl} {Φ : α → Unit → O → Prop} {ss body : List IS} {g : ρ → D}
theorem hd_or [Dec g] [Pe g] {c : Nat} {w : D} {e : Env} {u : Unit} (hp : Post encU u K.1 K.2 e) {lj : τ → List Sl} : ∀ hs : List Hd, OR encU K (fun r s o => match r with | .nx t => ∃ e, o = .nx e ∧ Has encU s (lj t) e | .bk t => ∃ e, o = .nx e ∧ Has encU s (lj t) e | .rt v => Rt encU K (isUp g) v s o)
    ((S.bind (S.hd g hs c w) fun v => S.pure (Fl.rt v : Fl τ ρ)) ()) (hdGo hs c w e)
  | [] => ⟨u, e, rfl, hp⟩
  | h :: hs => by
    unfold S.hd hdGo
    by_cases hy : h.yes.contains c = true
    · rw [if_pos hy, if_pos hy]
      cases he : h.he.ev c w with
      | none => exact trivial
      | some d =>
        show OR encU K _ ((S.bind (S.of (Dec.dec g d)) fun v => S.pure (Fl.rt v : Fl τ ρ)) ()) (.rt d e)
        cases hd : Dec.dec g d with
        | none => exact trivial
        | some v =>
          have hv : g v = d := Dec.ok d v hd
          exact ⟨d, e, rfl, by rw [← hv]; exact up_of v, hp⟩
    · rw [if_neg hy, if_neg hy]
      by_cases hn : h.no.contains c = true
      · rw [if_pos hn, if_pos hn]; exact hd_or hp hs
      · rw [if_neg hn]; exact trivial
theorem sr_try [Dec g] [Pe g] {hs : List Hd} {lj : τ → List Sl} {mb : S Unit (Fl τ ρ)} {k : τ → S Unit α} {kr : ρ → S Unit α} {m' : S Unit α} (hr : ∀ v s o, Rt encU K (isUp g) v s o → OR encU K Φ (kr v s) o)
    (hm : m' = S.bind (S.try_ mb fun c w => S.bind (S.hd g hs c w) fun v => S.pure (Fl.rt v)) fun r => r.el k kr) (hb : BR T wf np encU K l body mb (TrE encU K (isUp g) lj)) (hk : ∀ t, BR T wf np encU K (lj t) ss (k t) Φ) :
    BR T wf np encU K l (.try_ body hs :: ss) m' Φ := .mk <| fun s e hh => by
  rw [hm]
  show OR encU K Φ _ (((exs T wf np body e).hd hs).seq _)
  have h1 := hb.out s e hh
  have h2 : OR encU K (fun r s o => match r with | .nx t => ∃ e, o = .nx e ∧ Has encU s (lj t) e | .bk t => ∃ e, o = .nx e ∧ Has encU s (lj t) e | .rt v => Rt encU K (isUp g) v s o)
      ((S.try_ mb fun c w => S.bind (S.hd g hs c w) fun v => S.pure (Fl.rt v)) s) ((exs T wf np body e).hd hs) := by
    unfold S.try_
    revert h1
    cases mb s with
    | ok p =>
      obtain ⟨r, s1⟩ := p
      cases r with
      | nx t => rintro ⟨e2, h3, h4⟩; rw [h3]; exact ⟨e2, rfl, h4⟩
      | bk t => rintro ⟨e2, h3, h4⟩; rw [h3]; exact ⟨e2, rfl, h4⟩
      | rt v => rintro ⟨d, e2, h3, h4⟩; rw [h3]; exact ⟨d, e2, rfl, h4⟩
    | ex c w =>
      rintro ⟨s', e', h3, h4⟩
      rw [h3]
      exact hd_or h4 hs
    | no => intro _; trivial
  revert h2
  generalize (S.try_ mb fun c w => S.bind (S.hd g hs c w) fun v => S.pure (Fl.rt v)) = mm
  unfold S.bind
  cases mm s with
  | ex c w =>
    rintro ⟨s', e', h3, h4⟩
    rw [h3]
    exact ⟨s', e', rfl, h4⟩
  | no => intro _; trivial
  | ok p =>
    obtain ⟨r, s2⟩ := p
    cases r with
    | nx t' => rintro ⟨e2, h3, h4⟩; rw [h3]; exact (hk t').out s2 e2 h4
    | bk t' => rintro ⟨e2, h3, h4⟩; rw [h3]; exact (hk t').out s2 e2 h4
    | rt v =>
      rintro ⟨d, e2, h3, h4⟩
      rw [h3]
      exact hr v s2 _ ⟨d, e2, rfl, h4⟩
end
end Tx
namespace Tx
open Tw
section
variable {σ α β τ ρ : Type} {enc : σ → D} {l l' : List Sl} {T : Fns} {a : IE} {f : α → D} {as : IEs}
/-- an order of data of any form -/
def cmpA (p : P2) (x y : D) : Option Bool := match sem2 p (eA x) (eA y) with
  | some (.bl b) => some b
  | _ => none
theorem op_cmpA {p : P2} : Op2 p eA eA (cmpA p) (isUp eB) := fun x y v h => by
  unfold cmpA at h
  split at h
  · rename_i b hb
    cases h
    exact ⟨_, hb, bl_up⟩
  · cases h
/-! a tuple written out, as a list of one type -/
def TV (f : α → D) (v : List α) (ds : List D) : Prop := ds.map frz = v.map f
theorem tv_nil : ES T enc l .nil (S.pure []) (TV f) := .mk <| fun s e hh => ⟨[], e, rfl, rfl, hh⟩
theorem tv_cons {ma : S σ α} {mb m' : S σ (List α)} (ha : ER T enc l a ma (isUp f)) (hb : ES T enc l as mb (TV f)) (hm : m' = S.bind ma fun x => S.bind mb fun xs => S.pure (x :: xs)) : ES T enc l (.cons a as) m' (TV f) := .mk <| fun s e hh => by
  rw [hm, evs_cons]
  refine RR.bind (ha.out s e hh) fun v s1 d e1 q1 h1 => RR.bind (hb.out s1 e1 h1) fun w s2 d2 e2 q2 h2 => ?_
  refine ⟨d :: d2, e2, rfl, ?_, h2⟩
  show (d :: d2).map frz = (v :: w).map f
  rw [List.map_cons, List.map_cons, q1.2, show d2.map frz = w.map f from q2]
theorem tv_consv {x : α} {xs : List α} {m' : S σ (List α)} (ha : ER T enc l a (S.pure x) (isUp f)) (hb : ES T enc l as (S.pure xs) (TV f)) (hm : m' = S.pure (x :: xs)) : ES T enc l (.cons a as) m' (TV f) := tv_cons ha hb hm
theorem er_tV {m : S σ (List α)} (ha : ES T enc l as m (TV f)) : ER T enc l (.tup as) m (isUp (eV f)) := .mk <| fun s e hh => by
  rw [ev_tup]
  have := RR.bind (l := l) (k := fun x => S.pure x) (f := fun ds e1 => R.ok (.tup (ds.map frz)) e1) (Q' := isUp (eV f)) (ha.out s e hh) fun v s' d e' q hh' => ⟨_, e', rfl, ⟨(fun q => by cases q), by rw [frz_tup, show d.map frz = v.map f from q]; rfl⟩, hh'⟩
  rw [S.bind_pure] at this
  exact this
variable {wf np : Nat} {K : List Bool × List Sl} {Φ : α → σ → O → Prop} {ss body : List IS}
/-- what is never reached -/
theorem sr_no : BR T wf np enc K l ss S.no Φ := .mk <| fun s e hh => trivial
end
end Tx
namespace Tx
open Tw
section
variable {σ α β : Type} {enc : σ → D} {l : List Sl} {T : Fns}
/-- a comprehension over the owned list of a slot -/
theorem er_compS {own : List (PySem.Str × Nat)} {tg : Tg} {i : Nat} {cs : IEs} {elt : IE} {g : α → D} [Pe g] {h : β → D} {xs : List α} {c : α → S σ Bool} {f : α → S σ β} {m' : S σ (List β)} (l1 : α → List Sl) (hi : l[i]? = some (.own (xs.map g)))
    (ht : ∀ x, TG enc tg (g x) (wipeL own (l.set i .any)) (l1 x)) (hw : ∀ x, wipeL own (l1 x) = wipeL own (l.set i .any)) (hww : wipeL own (wipeL own (l.set i .any)) = wipeL own (l.set i .any)) (hn : (own.all fun p => noSt (l.set i .any) p.2) = true) (hc : ∀ x, EC T enc (l1 x) cs (c x)) (hf : ∀ x, ER T enc (l1 x) elt (f x) (isUp h))
    (hm : m' = S.calm (S.bind (S.lim xs.length) fun _ => S.comp c f xs)) : ER T enc l (.compS own tg i cs elt) m' (fun xs d => ∃ ds, d = .lst true ds ∧ All2 (isUp h) xs ds) := .mk <| fun s e hh => by
  rw [hm]
  obtain ⟨d, hd, hs⟩ := hh.2 i _ hi
  have hs : d = .lst true (xs.map g) := hs
  subst hs
  have hg := gt_of hd
  have hev : ev T (.compS own tg i cs elt) e = R.calm ((compGo own tg (evC T cs) (ev T elt) (xs.map g) [] (wipeE own (e.set i .hole))).bind fun ys e2 => R.ok (D.lst true ys) ((unown own (e.set i .hole) e2).set i (D.lst true (xs.map g)))) := by
    show (match gt e i with
      | D.lst true xs => if xs.all pers then R.calm ((compGo own tg (evC T cs) (ev T elt) xs [] (wipeE own (e.set i .hole))).bind fun ys e2 => R.ok (D.lst true ys) ((unown own (e.set i .hole) e2).set i (D.lst true xs))) else R.no
      | _ => R.no) = _
    rw [hg]
    simp only [Pe.all, if_true]
  rw [hev]
  have hh1 : Has enc s (l.set i .any) (e.set i .hole) := hh.set trivial
  unfold S.lim
  by_cases hl : xs.length < 16000000
  · rw [if_pos hl, S.pure_bind]
    have := comp_go ht hw hww (fun x => (hc x).out) (fun x => (hf x).out) xs [] s (wipeE own (e.set i .hole)) (by rw [List.length_nil]; omega) (wipe_has hh1)
    unfold S.calm
    revert this
    cases S.comp c f xs s with
    | ex w d => intro _; trivial
    | no => intro _; trivial
    | ok p =>
      rintro ⟨ds, e', r1, ⟨ds', r0, r2⟩, r3⟩
      rw [List.nil_append] at r0
      rw [r1, r0]
      have hu : Has enc p.2 (l.set i .any) (unown own (e.set i .hole) e') := unown_has hh1 hn (by rw [← r3.1, wipe_len]) fun j sl hj hs => r3.2 j sl (by rw [wipe_wipe _ _ hj]; exact hs)
      refine ⟨.lst true ds', _, rfl, ⟨ds', rfl, r2⟩, ?_⟩
      have := hu.set (i := i) (sl := .own (xs.map g)) (d := .lst true (xs.map g)) rfl
      have e1 : (l.set i .any).set i (.own (xs.map g)) = l := by
        rw [List.set_set]
        apply List.ext_getElem?
        intro j
        rw [List.getElem?_set]
        by_cases hij : i = j
        · subst hij
          rw [if_pos rfl, hi, if_pos (List.getElem?_eq_some_iff.mp hi).1]
        · rw [if_neg hij]
      rw [e1] at this
      exact this
  · rw [if_neg hl]; trivial
theorem er_compSv {own : List (PySem.Str × Nat)} {tg : Tg} {i : Nat} {cs : IEs} {elt : IE} {g : α → D} [Pe g] {h : β → D} {xs : List α} {p : α → Bool} {k : α → β} {m' : S σ (List β)} (l1 : α → List Sl) (hi : l[i]? = some (.own (xs.map g)))
    (ht : ∀ x, TG enc tg (g x) (wipeL own (l.set i .any)) (l1 x)) (hw : ∀ x, wipeL own (l1 x) = wipeL own (l.set i .any)) (hww : wipeL own (wipeL own (l.set i .any)) = wipeL own (l.set i .any)) (hn : (own.all fun p => noSt (l.set i .any) p.2) = true) (hc : ∀ x, EC T enc (l1 x) cs (S.pure (p x))) (hf : ∀ x, ER T enc (l1 x) elt (S.pure (k x)) (isUp h))
    (hm : m' = S.bind (S.lim xs.length) fun _ => S.pure ((xs.filter p).map k)) : ER T enc l (.compS own tg i cs elt) m' (fun xs d => ∃ ds, d = .lst true ds ∧ All2 (isUp h) xs ds) :=
  er_compS l1 hi ht hw hww hn hc hf (by
    rw [hm, S.comp_pure]
    unfold S.lim
    by_cases hl : xs.length < 16000000
    · rw [if_pos hl]; rfl
    · rw [if_neg hl]; rfl)
theorem er_compSm {own : List (PySem.Str × Nat)} {tg : Tg} {i : Nat} {elt : IE} {g : α → D} [Pe g] {h : β → D} {xs : List α} {k : α → β} {m' : S σ (List β)} (l1 : α → List Sl) (hi : l[i]? = some (.own (xs.map g)))
    (ht : ∀ x, TG enc tg (g x) (wipeL own (l.set i .any)) (l1 x)) (hw : ∀ x, wipeL own (l1 x) = wipeL own (l.set i .any)) (hww : wipeL own (wipeL own (l.set i .any)) = wipeL own (l.set i .any)) (hn : (own.all fun p => noSt (l.set i .any) p.2) = true) (hf : ∀ x, ER T enc (l1 x) elt (S.pure (k x)) (isUp h))
    (hm : m' = S.bind (S.lim xs.length) fun _ => S.pure (xs.map k)) : ER T enc l (.compS own tg i .nil elt) m' (fun xs d => ∃ ds, d = .lst true ds ∧ All2 (isUp h) xs ds) :=
  er_compSv (p := fun _ => true) l1 hi ht hw hww hn (fun _ => ec_nil) hf (by rw [hm, List.filter_eq_self.mpr fun _ _ => rfl])
end
end Tx
namespace Tx
open Tw
section
variable {σ α β γ : Type} {enc : σ → D} {l l' : List Sl}
/-- a list of two, of three, taken apart -/
def eF2 (f : α → D) (g : β → D) : α × β → D := fun p => .lst false [f p.1, g p.2]
theorem castF2 {f : α → D} (v : List α) (w : α × α) (h : as2 v = some w) : eL f v = eF2 f f w := by
  unfold as2 at h
  split at h <;> cases h
  rfl
theorem castF3 {f : α → D} (v : List α) (w : α × α × α) (h : as3 v = some w) : eL f v = eF3 f f f w := by
  unfold as3 at h
  split at h <;> cases h
  rfl
theorem tg_lf {ts : List Tg} {ds : List D} (h : TGs enc ts ds l l') : TG enc (.tp ts) (.lst false ds) l l' := fun s e hh => by
  obtain ⟨e1, q1, q2⟩ := h s e hh
  exact ⟨e1, q1, q2⟩
theorem tg_f2 {f : α → D} {g : β → D} {ts : List Tg} {p : α × β} (k : TGs enc ts [f p.1, g p.2] l l') : TG enc (.tp ts) (eF2 f g p) l l' := tg_lf k
end
end Tx
namespace Tx
open Tw
section
variable {α : Type}
theorem any_eqe {f : α → D} {n : Nat} [DecidableEq α] [Eqe f n] (x : α) : ∀ ys : List α, ((ys.map f).any fun y => eqD y (f x)) = decide (x ∈ ys)
  | [] => by simp
  | y :: ys => by
    rw [List.map_cons, List.any_cons, Eqe.eq (f := f), any_eqe x ys, Bool.eq_iff_iff, Bool.or_eq_true, decide_eq_true_eq, decide_eq_true_eq, decide_eq_true_eq, List.mem_cons]
    exact ⟨fun h => h.imp Eq.symm id, fun h => h.imp Eq.symm id⟩
theorem sem_in {a : D} {ys : List D} (h : shD 12 a = true) (h2 : shD 12 (.tup ys) = true) : sem2 .inn a (.tup ys) = some (.bl (ys.any fun y => eqD y a)) := by
  have : sem2 .inn a (.tup ys) = (if (flatD a && ys.all flatD) = true then some (.bl (ys.any fun y => eqD y a)) else if (shD 12 a && shD 12 (.tup ys)) = true then some (.bl (ys.any fun y => eqD y a)) else none) := by cases a <;> rfl
  rw [this, h, h2]
  split <;> rfl
theorem sem_nin {a : D} {ys : List D} (h : shD 12 a = true) (h2 : shD 12 (.tup ys) = true) : sem2 .notin a (.tup ys) = some (.bl (!ys.any fun y => eqD y a)) := by
  have : sem2 .notin a (.tup ys) = (if (flatD a && ys.all flatD) = true then some (.bl (!ys.any fun y => eqD y a)) else if (shD 12 a && shD 12 (.tup ys)) = true then some (.bl (!ys.any fun y => eqD y a)) else none) := by cases a <;> rfl
  rw [this, h, h2]
  split <;> rfl
theorem sh_tup {f : α → D} {n : Nat} [DecidableEq α] [Eqe f n] (h : n + 1 ≤ 12) (ys : List α) : shD 12 (.tup (ys.map f)) = true := by
  show (ys.map f).all (shD 11) = true
  rw [List.all_map]
  exact List.all_eq_true.mpr fun x _ => shD_le (show n ≤ 11 by omega) (Eqe.sh (f := f) x)
def inG [DecidableEq α] (x : α) (ys : List α) : Bool := decide (x ∈ ys)
theorem inG_eq [DecidableEq α] (x : α) (ys : List α) : inG x ys = decide (x ∈ ys) := rfl
theorem op_inG {f : α → D} {n : Nat} [DecidableEq α] [Eqe f n] (h : n + 1 ≤ 12) : Op2 .inn f (eV f) (fun x ys => some (inG x ys)) (isUp eB) := fun x ys v hv => by
  cases hv
  refine ⟨_, sem_in (shD_le (by omega) (Eqe.sh (f := f) x)) (sh_tup (f := f) h ys), ?_⟩
  rw [any_eqe]; exact bl_up
theorem op_ninG {f : α → D} {n : Nat} [DecidableEq α] [Eqe f n] (h : n + 1 ≤ 12) : Op2 .notin f (eV f) (fun x ys => some (!inG x ys)) (isUp eB) := fun x ys v hv => by
  cases hv
  refine ⟨_, sem_nin (shD_le (by omega) (Eqe.sh (f := f) x)) (sh_tup (f := f) h ys), ?_⟩
  rw [any_eqe]; exact bl_up
end
end Tx

set_option Elab.async false
set_option linter.all false
set_option maxRecDepth 100000
set_option maxHeartbeats 4000000
namespace P
open Tw Tx
abbrev c_BadYard : Nat := 0
abbrev c_BadPick : Nat := 1
abbrev c_BadLane : Nat := 2
abbrev hs_law_heard : List Hd := [{ slot := (some 3), cls := 0, yes := [0], no := [1, 2], he := (.tup (.cons (.con (.str (PySem.Str.ofString "yard"))) (.cons .what .nil))) }, { slot := (some 3), cls := 2, yes := [2], no := [0, 1], he := (.tup (.cons (.con (.str (PySem.Str.ofString "lane"))) (.cons .what .nil))) }]
@[irreducible] def law_turned (many1 : Int) : S Pool (List Int) :=
  (S.bind (S.of (rgB many1)) fun left1 => (S.bind (S.pure []) fun found1 => (S.bind (S.of (rgB many1)) fun x1 => (S.bind (S.fold (fun (t1 : ((List Int) × (List Int))) (turn1 : Int) => ((S.bind (draw (List.length t1.2 : Int)) fun i1 => S.bind (S.of (popI t1.2 i1)) fun p1 => S.bind (S.lim (List.length t1.1)) fun _ => S.pure ((t1.1 ++ [p1.1]), p1.2)) : S Pool ((List Int) × (List Int)))) (found1, left1) x1) fun t2 => S.pure t2.1))))
@[irreducible] def law_web_yard (lanes1 : Int) (most1 : Int) : S Pool (Int × Int × (List (Int × Int))) :=
  (S.bind (S.bind (S.pure (1 : Int)) fun x1 => (S.bind (draw lanes1) fun x2 => S.pure (x1 + x2))) fun k1 => (S.bind (S.bind (S.pure (1 : Int)) fun x3 => (S.bind (draw lanes1) fun x4 => S.pure (x3 + x4))) fun l1 => (S.bind (S.bind (S.bind (S.of (mulI k1 l1)) fun x5 => (S.of (rgB x5))) fun x8 => (S.calm (S.bind (S.lim (List.length x8)) fun _ => S.comp (fun (at1 : Int) => (S.pure true)) (fun (at1 : Int) => (S.bind (S.of (divI at1 l1)) fun x6 => (S.bind (S.of (modI at1 l1)) fun x7 => S.pure (x6, x7)))) x8))) fun pairs1 => (S.bind (S.bind (S.bind (draw (3 : Int)) fun x9 => (S.bind (S.pure (0 : Int)) fun x10 => S.pure (decide (x9 = x10)))) fun x11 => (if x11 then (S.pure (min most1 (List.length pairs1 : Int))) else (draw ((min most1 (List.length pairs1 : Int)) + (1 : Int))))) fun many1 => (S.bind (S.bind (P.law_turned (List.length pairs1 : Int)) fun x12 => S.bind (S.pure none) fun x13 => S.bind (S.bind (S.pure many1) fun x15 => S.pure (some x15)) fun x14 => S.pure (cutI x12 x13 x14)) fun chosen1 => (S.bind (S.pure k1) fun x18 => (S.bind (S.pure l1) fun x19 => (S.bind (S.bind (S.bind (S.pure (sortI chosen1)) fun x16 => (S.calm (S.bind (S.lim (List.length x16)) fun _ => S.comp (fun (at2 : Int) => (S.pure true)) (fun (at2 : Int) => (S.of (getI pairs1 at2))) x16))) fun x17 => S.pure x17) fun x20 => S.pure (x18, x19, x20)))))))))
@[irreducible] def is_whole (thing1 : Int) (low1 : Int) (high1 : Int) : S Unit Bool :=
  (S.pure (true && ((!false) && ((decide (low1 ≤ thing1)) && (decide (thing1 ≤ high1))))))
@[irreducible] def is_track (thing1 : (Int × Int)) (firsts1 : Int) (seconds1 : Int) : S Unit Bool :=
  (if ((!true) || (!decide ((2 : Int) = (2 : Int)))) then (S.pure false) else (S.bind (P.is_whole thing1.1 (0 : Int) (firsts1 - (1 : Int))) fun x1 => (if x1 then (P.is_whole thing1.2 (0 : Int) (seconds1 - (1 : Int))) else S.pure false)))
@[irreducible] def first_wrong (thing1 : (Int × Int × (List (Int × Int)))) : S Unit (Option Int) :=
  (if ((!true) || (!decide ((3 : Int) = (3 : Int)))) then (S.pure (some (-(1 : Int)))) else (S.bind (S.pure thing1) fun u1 => (S.bind (S.bind (P.is_whole u1.1 (1 : Int) (12 : Int)) fun x1 => S.pure (!x1)) fun z3 => (if z3 then (S.pure (some (-(2 : Int)))) else (S.bind (S.bind (P.is_whole u1.2.1 (1 : Int) (12 : Int)) fun x2 => S.pure (!x2)) fun z2 => (if z2 then (S.pure (some (-(3 : Int)))) else (if ((!true) || (decide ((60 : Int) < (List.length u1.2.2 : Int)))) then (S.pure (some (-(4 : Int)))) else (S.bind (S.of (rgB (List.length u1.2.2 : Int))) fun x9 => (S.bind (S.foldE (fun (t1 : Unit) (at1 : Int) => ((S.bind (S.bind (S.bind (S.bind (S.bind (S.of (getI u1.2.2 at1)) fun x3 => S.bind (S.pure ()) fun y1 => S.pure (x3, y1)) fun b => (P.is_track b.1 u1.1 u1.2.1)) fun x4 => S.pure (!x4)) fun x8 => (if x8 then S.pure true else (S.bind (S.pure (decide ((0 : Int) < at1))) fun x7 => (if x7 then (S.bind (S.of (getI u1.2.2 at1)) fun x5 => (S.bind (S.of (getI u1.2.2 (at1 - (1 : Int)))) fun x6 => S.pure (!ltP x6 x5))) else S.pure false)))) fun z1 => (if z1 then S.pure (Fl.rt (some at1)) else S.pure (Fl.nx ()))) : S Unit (Fl Unit (Option Int)))) () x9) fun r => Fl.el r (fun t2 => (S.pure none)) S.pure)))))))))
@[irreducible] def made_yard (thing1 : (Int × Int × (List (Int × Int)))) : S Unit (Int × Int × (List (Int × Int))) :=
  (S.bind (P.first_wrong thing1) fun wrong1 => (if wrong1.isSome then S.raise c_BadYard ((eO eI) wrong1) else (S.pure thing1)))
@[irreducible] def all_tracks (yard1 : (Int × Int × (List (Int × Int)))) : S Unit (List Int) :=
  (S.bind (S.bind (S.bind (P.made_yard yard1) fun x1 => S.pure x1.2.2) fun x2 => S.pure (List.length x2 : Int)) fun x3 => (S.of (rgB x3)))
@[irreducible] def is_pick (yard1 : (Int × Int × (List (Int × Int)))) (thing1 : (List Int)) : S Unit Bool :=
  (if (!true) then (S.pure false) else (S.bind (S.of (rgB (List.length thing1 : Int))) fun x9 => (S.bind (S.foldE (fun (t1 : Unit) (at1 : Int) => ((S.bind (S.bind (S.bind (S.bind (S.bind (S.of (getI thing1 at1)) fun x1 => S.bind (S.bind (S.pure (0 : Int)) fun x2 => S.bind (S.bind (S.pure ((List.length yard1.2.2 : Int) - (1 : Int))) fun x3 => S.bind (S.pure ()) fun y3 => S.pure (x3, y3)) fun y2 => S.pure (x2, y2)) fun y1 => S.pure (x1, y1)) fun b => (P.is_whole b.1 b.2.1 b.2.2.1)) fun x4 => S.pure (!x4)) fun x8 => (if x8 then S.pure true else (S.bind (S.pure (decide ((0 : Int) < at1))) fun x7 => (if x7 then (S.bind (S.of (getI thing1 at1)) fun x5 => (S.bind (S.of (getI thing1 (at1 - (1 : Int)))) fun x6 => S.pure (decide (x5 ≤ x6)))) else S.pure false)))) fun z1 => (if z1 then S.pure (Fl.rt false) else S.pure (Fl.nx ()))) : S Unit (Fl Unit Bool))) () x9) fun r => Fl.el r (fun t2 => (S.pure true)) S.pure)))
@[irreducible] def made_pick (yard1 : (Int × Int × (List (Int × Int)))) (thing1 : (List Int)) : S Unit (List Int) :=
  (S.bind (S.bind (P.is_pick yard1 thing1) fun x1 => S.pure (!x1)) fun z1 => (if z1 then S.raise c_BadPick (eI (-(1 : Int))) else (S.pure thing1)))
@[irreducible] def ends (yard1 : (Int × Int × (List (Int × Int)))) (t1 : Int) : S Unit (Int × Int) :=
  (S.bind (S.of (getI yard1.2.2 t1)) fun u1 => (S.pure (u1.1, (yard1.1 + u1.2))))
@[irreducible] def labels (yard1 : (Int × Int × (List (Int × Int)))) (pick1 : (List Int)) : S Unit (List Int) :=
  (S.bind (S.of (repI [(-(1 : Int))] (yard1.1 + yard1.2.1))) fun found1 => (S.bind (S.fold (fun (t1 : (List Int)) (t2 : Int) => ((S.bind (P.ends yard1 t2) fun u1 => (S.bind (S.bind (S.bind (S.bind (S.of (getI t1 u1.1)) fun x1 => (S.bind (S.pure (0 : Int)) fun x2 => S.pure (decide (x2 ≤ x1)))) fun x3 => (if x3 then (S.of (getI t1 u1.1)) else (S.pure u1.1))) fun x7 => (S.bind (S.bind (S.bind (S.of (getI t1 u1.2)) fun x4 => (S.bind (S.pure (0 : Int)) fun x5 => S.pure (decide (x5 ≤ x4)))) fun x6 => (if x6 then (S.of (getI t1 u1.2)) else (S.pure u1.2))) fun x8 => S.pure (min x7 x8))) fun low1 => (S.bind (S.bind (S.of (getI t1 u1.1)) fun x9 => (S.bind (S.of (getI t1 u1.2)) fun x10 => S.pure (x9, x10))) fun old1 => (S.bind (S.bind (S.lim (List.length t1)) fun _ => S.pure (List.map (fun (label1 : Int) => (if ((decide ((0 : Int) ≤ label1)) && (inI label1 [old1.1, old1.2])) then low1 else label1)) t1)) fun found2 => (S.bind (S.pure low1) fun v1 => S.bind (S.pure low1) fun v2 => S.bind (S.pure u1.1) fun i1 => S.bind (S.of (setI found2 i1 v1)) fun found3 => S.bind (S.pure u1.2) fun i2 => S.bind (S.of (setI found3 i2 v2)) fun found4 => S.pure found4))))) : S Unit (List Int))) found1 pick1) fun t3 => S.pure t3))
@[irreducible] def joins (yard1 : (Int × Int × (List (Int × Int)))) (pick1 : (List Int)) : S Unit Int :=
  (S.bind (P.labels yard1 pick1) fun found1 => (S.bind (S.bind (S.of (rgB (List.length found1 : Int))) fun x6 => (S.calm (S.bind (S.lim (List.length x6)) fun _ => S.comp (fun (lane1 : Int) => (S.bind (S.bind (S.of (getI found1 lane1)) fun x1 => (S.bind (S.pure (0 : Int)) fun x2 => S.pure (decide (x2 ≤ x1)))) fun x5 => (if x5 then (S.bind (S.of (getI found1 lane1)) fun x3 => (S.bind (S.pure lane1) fun x4 => S.pure (!decide (x3 = x4)))) else S.pure false))) (fun (lane1 : Int) => (S.pure lane1)) x6))) fun x7 => S.pure (List.length x7 : Int)))
@[irreducible] def rank (yard1 : (Int × Int × (List (Int × Int)))) (pick1 : (List Int)) : S Unit Int :=
  (S.bind (P.made_yard yard1) fun _ => (S.bind (S.bind (P.made_pick yard1 pick1) fun x1 => S.bind (S.pure ()) fun y1 => S.pure (x1, y1)) fun b => (P.joins yard1 b.1)))
@[irreducible] def worth (yard1 : (Int × Int × (List (Int × Int)))) : S Unit Int :=
  (S.bind (S.bind (P.all_tracks yard1) fun x1 => S.bind (S.pure ()) fun y1 => S.pure (x1, y1)) fun b => (P.rank yard1 b.1))
@[irreducible] def law_is_whole (thing1 : Int) : S Unit Bool :=
  (S.pure (true && (!false)))
@[irreducible] def law_web_ends (yard1 : (Int × Int × (List (Int × Int)))) (t1 : Int) : S Unit (List Int) :=
  (S.bind (S.bind (S.of (getI yard1.2.2 t1)) fun x1 => S.pure x1.1) fun x5 => (S.bind (S.bind (S.pure yard1.1) fun x3 => (S.bind (S.bind (S.of (getI yard1.2.2 t1)) fun x2 => S.pure x2.2) fun x4 => S.pure (x3 + x4))) fun x6 => S.pure [x5, x6]))
@[irreducible] def law_web_reached (yard1 : (Int × Int × (List (Int × Int)))) (pick1 : (List Int)) (lane1 : Int) : S Unit (List Int) :=
  (S.bind (S.pure [lane1]) fun found1 => (S.bind (S.pure [lane1]) fun left1 => (S.bind (S.of (rgB (yard1.1 + yard1.2.1))) fun x8 => (S.bind (S.fold (fun (t1 : ((List Int) × (List Int))) (turn1 : Int) => ((S.bind (S.pure []) fun ahead1 => (S.bind (S.fold (fun (t2 : (List Int)) (t3 : Int) => ((S.bind (S.bind (P.law_web_ends yard1 t3) fun x1 => S.of (as2 x1)) fun u1 => (S.bind (S.bind (S.pure (inI u1.1 t1.2)) fun x4 => (if x4 then (S.bind (S.pure u1.2) fun x2 => (S.bind (S.of (catI t1.1 t2)) fun x3 => S.pure (!inI x2 x3))) else S.pure false)) fun z2 => S.bind (if z2 then ((S.bind (S.pure u1.2) fun v2 => S.bind (S.lim (List.length t2)) fun _ => S.pure (t2 ++ [v2])) : S Unit (List Int)) else S.pure t2) fun t4 => (S.bind (S.bind (S.pure (inI u1.2 t1.2)) fun x7 => (if x7 then (S.bind (S.pure u1.1) fun x5 => (S.bind (S.of (catI t1.1 t4)) fun x6 => S.pure (!inI x5 x6))) else S.pure false)) fun z1 => (if z1 then (S.bind (S.pure u1.1) fun v3 => S.bind (S.lim (List.length t4)) fun _ => S.pure (t4 ++ [v3])) else S.pure t4)))) : S Unit (List Int))) ahead1 pick1) fun t5 => (S.bind (S.of (catI t1.1 t5)) fun found2 => (S.bind (S.pure t5) fun left2 => S.pure (found2, left2))))) : S Unit ((List Int) × (List Int)))) (found1, left1) x8) fun t6 => (S.pure (sortI t6.1))))))
@[irreducible] def law_web_pieces (yard1 : (Int × Int × (List (Int × Int)))) (pick1 : (List Int)) : S Unit (List (List Int)) :=
  (S.bind (S.pure []) fun found1 => (S.bind (S.of (rgB (yard1.1 + yard1.2.1))) fun x11 => (S.bind (S.fold (fun (t1 : (List (List Int))) (lane1 : Int) => ((S.bind (S.bind (S.bind (S.bind (S.pure pick1) fun x3 => (S.calm (S.bind (S.lim (List.length x3)) fun _ => S.comp (fun (t2 : Int) => (S.bind (S.pure lane1) fun x1 => (S.bind (P.law_web_ends yard1 t2) fun x2 => S.pure (inI x1 x2)))) (fun (t2 : Int) => (S.pure t2)) x3))) fun x4 => (S.bind (S.pure []) fun x5 => S.pure (!decide (x4 = x5)))) fun x8 => (if x8 then (S.bind (S.bind (S.lim (List.length t1)) fun _ => S.pure (List.map (fun (lot1 : (List Int)) => lot1) (List.filter (fun (lot1 : (List Int)) => (inI lane1 lot1)) t1))) fun x6 => (S.bind (S.pure []) fun x7 => S.pure (decide (x6 = x7)))) else S.pure false)) fun z1 => (if z1 then (S.bind (S.bind (P.law_web_reached yard1 pick1 lane1) fun x10 => S.pure x10) fun v1 => S.bind (S.lim (List.length t1)) fun _ => S.pure (t1 ++ [v1])) else S.pure t1)) : S Unit (List (List Int)))) found1 x11) fun t3 => (S.pure t3))))
@[irreducible] def law_web_rank (yard1 : (Int × Int × (List (Int × Int)))) (pick1 : (List Int)) : S Unit Int :=
  (S.bind (P.law_web_pieces yard1 pick1) fun lots1 => (S.bind (S.bind (S.bind (S.pure lots1) fun x1 => (S.bind (S.lim (List.length x1)) fun _ => S.pure (List.map (fun (lot1 : (List Int)) => (List.length lot1 : Int)) x1))) fun x2 => S.pure (List.sum x2)) fun x3 => (S.bind (S.pure (List.length lots1 : Int)) fun x4 => S.pure (x3 - x4))))
@[irreducible] def check_lane (lane1 : Int) (many1 : Int) : S Unit Unit :=
  (S.bind (S.bind (P.is_whole lane1 (0 : Int) (many1 - (1 : Int))) fun x1 => S.pure (!x1)) fun z1 => (if z1 then S.raise c_BadLane (eI lane1) else S.pure ()))
@[irreducible] def pieces (yard1 : (Int × Int × (List (Int × Int)))) (pick1 : (List Int)) : S Unit (List (List Int)) :=
  (S.bind (P.made_yard yard1) fun _ => (S.bind (S.bind (S.bind (P.made_pick yard1 pick1) fun x1 => S.bind (S.pure ()) fun y1 => S.pure (x1, y1)) fun b => (P.labels yard1 b.1)) fun found1 => (S.bind (S.of (rgO (List.length found1 : Int))) fun lanes1 => (S.bind (S.bind (S.of (rgAB lanes1.1 lanes1.2)) fun x8 => (S.calm (S.bind (S.lim (List.length x8)) fun _ => S.comp (fun (low1 : Int) => (S.bind (S.of (getI found1 low1)) fun x2 => (S.bind (S.pure low1) fun x3 => S.pure (decide (x2 = x3))))) (fun (low1 : Int) => (S.bind (S.bind (S.of (rgAB lanes1.1 lanes1.2)) fun x6 => (S.calm (S.bind (S.lim (List.length x6)) fun _ => S.comp (fun (lane1 : Int) => (S.bind (S.of (getI found1 lane1)) fun x4 => (S.bind (S.pure low1) fun x5 => S.pure (decide (x4 = x5))))) (fun (lane1 : Int) => (S.pure lane1)) x6))) fun x7 => S.pure x7)) x8))) fun x9 => S.pure x9))))
@[irreducible] def adds (yard1 : (Int × Int × (List (Int × Int)))) (a1 : Int) (b1 : Int) : S Unit Bool :=
  (S.bind (P.made_yard yard1) fun u1 => (S.bind (P.check_lane a1 u1.1) fun _ => (S.bind (P.check_lane b1 u1.2.1) fun _ => (S.bind (S.bind (S.bind (P.all_tracks yard1) fun x1 => S.bind (S.pure ()) fun y1 => S.pure (x1, y1)) fun b => (P.pieces yard1 b.1)) fun x2 => (S.bind (S.foldE (fun (t1 : Unit) (lanes1 : (List Int)) => ((if ((inI a1 lanes1) && (inI (u1.1 + b1) lanes1)) then S.pure (Fl.rt false) else S.pure (Fl.nx ())) : S Unit (Fl Unit Bool))) () x2) fun r => Fl.el r (fun t2 => (S.pure true)) S.pure)))))
@[irreducible] def law_pair_right (yard1 : (Int × Int × (List (Int × Int)))) (a1 : Int) (b1 : Int) (held1 : Int) : S Unit Bool :=
  (S.bind (S.pure yard1) fun u1 => (S.bind (S.bind (S.pure (u1.1 + b1)) fun x2 => (S.bind (S.bind (S.bind (S.of (rgB (List.length u1.2.2 : Int))) fun x1 => S.bind (S.pure ()) fun y1 => S.pure (x1, y1)) fun b => (P.law_web_reached yard1 b.1 a1)) fun x3 => S.pure (!inI x2 x3))) fun due1 => (S.bind (P.adds yard1 a1 b1) fun told1 => (if ((!true) || (!decide (told1 = due1))) then (S.pure false) else (if (inG (a1, b1) u1.2.2) then (S.pure true) else (S.bind (S.bind (S.bind (S.bind (S.pure u1.1) fun x11 => (S.bind (S.pure u1.2.1) fun x12 => (S.bind (S.bind (S.bind (S.of (catI u1.2.2 [(a1, b1)])) fun x9 => S.pure (sortP x9)) fun x10 => S.pure x10) fun x13 => S.pure (x11, x12, x13)))) fun x14 => S.bind (S.pure ()) fun y2 => S.pure (x14, y2)) fun b => (P.worth b.1)) fun x15 => (S.bind (S.pure (held1 + (if due1 then 1 else 0 : Int))) fun x16 => S.pure (decide (x15 = x16)))))))))
@[irreducible] def is_whole__A_i_i (thing1 : Tw.D) (low1 : Int) (high1 : Int) : S Unit Bool :=
  (S.bind (S.of (isA .int thing1)) fun x6 => (if x6 then (S.bind (S.bind (S.of (isA .bool thing1)) fun x1 => S.pure (!x1)) fun x5 => (if x5 then (S.bind (S.pure low1) fun x2 => (S.bind (S.of (asD eI thing1)) fun x3 => (S.bind (S.pure (decide (x2 ≤ x3))) fun z1 => (if z1 then (S.bind (S.pure high1) fun x4 => S.pure (decide (x3 ≤ x4))) else S.pure false)))) else S.pure false)) else S.pure false))
@[irreducible] def check_lane__A_i (lane1 : Tw.D) (many1 : Int) : S Unit Unit :=
  (S.bind (S.bind (P.is_whole__A_i_i lane1 (0 : Int) (many1 - (1 : Int))) fun x1 => S.pure (!x1)) fun z1 => (if z1 then S.raise c_BadLane (eA lane1) else S.pure ()))
@[irreducible] def adds__y_A_A (yard1 : (Int × Int × (List (Int × Int)))) (a1 : Tw.D) (b1 : Tw.D) : S Unit Bool :=
  (S.bind (P.made_yard yard1) fun u1 => (S.bind (P.check_lane__A_i a1 u1.1) fun _ => (S.bind (P.check_lane__A_i b1 u1.2.1) fun _ => (S.bind (S.bind (S.bind (P.all_tracks yard1) fun x1 => S.bind (S.pure ()) fun y1 => S.pure (x1, y1)) fun b => (P.pieces yard1 b.1)) fun x9 => (S.bind (S.foldE (fun (t1 : Unit) (lanes1 : (List Int)) => ((S.bind (S.bind (S.bind (S.of (asD eI a1)) fun x2 => (S.bind (S.pure lanes1) fun x3 => S.pure (inI x2 x3))) fun x8 => (if x8 then (S.bind (S.bind (S.pure u1.1) fun x4 => (S.bind (S.of (asD eI b1)) fun x5 => S.pure (x4 + x5))) fun x6 => (S.bind (S.pure lanes1) fun x7 => S.pure (inI x6 x7))) else S.pure false)) fun z1 => (if z1 then S.pure (Fl.rt false) else S.pure (Fl.nx ()))) : S Unit (Fl Unit Bool))) () x9) fun r => Fl.el r (fun t2 => (S.pure true)) S.pure)))))
@[irreducible] def law_heard__y_A_A (yard1 : (Int × Int × (List (Int × Int)))) (a1 : Tw.D) (b1 : Tw.D) : S Unit Tw.D :=
  (S.bind (S.try_ ((S.bind (S.bind (S.bind (S.pure (PySem.Str.ofString "told")) fun x1 => (S.bind (P.adds__y_A_A yard1 a1 b1) fun x2 => S.pure (x1, x2))) fun x3 => S.pure ((e2 eS eB) x3)) fun x4 => S.pure (Fl.rt x4)) : S Unit (Fl Unit Tw.D)) fun c w => S.bind (S.hd eA hs_law_heard c w) fun v => S.pure (Fl.rt v)) fun r => Fl.el r (fun _ => S.no) S.pure)
@[irreducible] def law_refused_right (yard1 : (Int × Int × (List (Int × Int)))) : S Pool Bool :=
  (S.bind (S.pure yard1) fun u1 => (S.bind (S.bind (S.pure (eI (-(1 : Int)))) fun x10 => S.bind (S.bind (S.pure (eI u1.1)) fun x9 => S.bind (S.bind (S.bind (S.bind (S.pure (u1.1 + (1 : Int))) fun x5 => (S.bind (draw (20 : Int)) fun x6 => S.pure (x5 + x6))) fun x7 => S.pure (eI x7)) fun x8 => S.bind (S.pure ((eB true) :: ((eU ()) :: ((eS (PySem.Str.ofString "0")) :: [])))) fun y1 => S.pure (x8 :: y1)) fun y2 => S.pure (x9 :: y2)) fun y3 => S.pure (x10 :: y3)) fun x31 => (S.bind (S.foldE (fun (t1 : Unit) (far1 : Tw.D) => ((S.bind (S.bind (S.bind (S.up (P.law_heard__y_A_A yard1 far1 (eI (-(1 : Int))))) fun x11 => (S.bind (S.pure ((e2 eS eA) ((PySem.Str.ofString "lane"), far1))) fun x12 => (S.of (neA x11 x12)))) fun x15 => (if x15 then S.pure true else (S.bind (S.up (P.law_heard__y_A_A yard1 far1 (eI (0 : Int)))) fun x13 => (S.bind (S.pure ((e2 eS eA) ((PySem.Str.ofString "lane"), far1))) fun x14 => (S.of (neA x13 x14)))))) fun z1 => (if z1 then S.pure (Fl.rt false) else S.pure (Fl.nx ()))) : S Pool (Fl Unit Bool))) () x31) fun r => Fl.el r (fun t2 => (S.bind (S.bind (S.pure (eI (-(1 : Int)))) fun x25 => S.bind (S.bind (S.pure (eI u1.2.1)) fun x24 => S.bind (S.bind (S.bind (S.bind (S.pure (u1.2.1 + (1 : Int))) fun x20 => (S.bind (draw (20 : Int)) fun x21 => S.pure (x20 + x21))) fun x22 => S.pure (eI x22)) fun x23 => S.bind (S.pure ((eB false) :: ((eU ()) :: []))) fun y4 => S.pure (x23 :: y4)) fun y5 => S.pure (x24 :: y5)) fun y6 => S.pure (x25 :: y6)) fun x30 => (S.bind (S.foldE (fun (t3 : Unit) (far2 : Tw.D) => ((S.bind (S.bind (S.up (P.law_heard__y_A_A yard1 (eI (u1.1 - (1 : Int))) far2)) fun x26 => (S.bind (S.pure ((e2 eS eA) ((PySem.Str.ofString "lane"), far2))) fun x27 => (S.of (neA x26 x27)))) fun z2 => (if z2 then S.pure (Fl.rt false) else S.pure (Fl.nx ()))) : S Pool (Fl Unit Bool))) () x30) fun r => Fl.el r (fun t4 => (S.bind (S.up (P.law_heard__y_A_A (u1.1, (0 : Int), u1.2.2) (eI (-(1 : Int))) (eI (-(1 : Int))))) fun x28 => (S.bind (S.pure ((e2 eS eI) ((PySem.Str.ofString "yard"), (-(3 : Int))))) fun x29 => (S.of (eqA x28 x29))))) S.pure))) S.pure)))
@[irreducible] def law (script1 : (List Int)) : S Unit Bool :=
  (S.bind (S.pure (Pool.of script1)) fun pool1 => S.run ((S.bind (S.bind (S.bind S.big fun x1 => (S.bind (S.pure (0 : Int)) fun x2 => S.pure (decide (x2 < x1)))) fun x5 => (if x5 then (S.bind (draw (2 : Int)) fun x3 => (S.bind (S.pure (0 : Int)) fun x4 => S.pure (decide (x3 = x4)))) else S.pure false)) fun is_large1 => (S.bind (P.law_web_yard (if is_large1 then (12 : Int) else (4 : Int)) (if is_large1 then (30 : Int) else (8 : Int))) fun yard1 => (S.bind (S.pure yard1) fun u1 => (S.bind (S.up (P.worth yard1)) fun held1 => (S.bind (S.bind (S.bind (S.up (P.law_is_whole held1)) fun x6 => S.pure (!x6)) fun x10 => (if x10 then S.pure true else (S.bind (S.pure held1) fun x8 => (S.bind (S.bind (S.bind (S.of (rgB (List.length u1.2.2 : Int))) fun x7 => S.bind (S.pure ()) fun y1 => S.pure (x7, y1)) fun b => S.up (P.law_web_rank yard1 b.1)) fun x9 => S.pure (!decide (x8 = x9)))))) fun z4 => (if z4 then (S.pure false) else (S.bind (S.bind (S.bind (S.of (mulI u1.1 u1.2.1)) fun x11 => (S.of (rgB x11))) fun x14 => (S.calm (S.bind (S.lim (List.length x14)) fun _ => S.comp (fun (at1 : Int) => (S.pure true)) (fun (at1 : Int) => (S.bind (S.of (divI at1 u1.2.1)) fun x12 => (S.bind (S.of (modI at1 u1.2.1)) fun x13 => S.pure (x12, x13)))) x14))) fun pairs1 => (S.bind (S.bind (S.pure is_large1) fun x17 => (if x17 then S.pure true else (S.bind (S.of (mulI u1.1 u1.2.1)) fun x15 => (S.bind (S.pure (6 : Int)) fun x16 => S.pure (decide (x16 < x15)))))) fun z3 => S.bind (if z3 then ((S.bind (S.bind (S.of (rgB (6 : Int))) fun x23 => (S.calm (S.bind (S.lim (List.length x23)) fun _ => S.comp (fun (turn2 : Int) => (S.pure true)) (fun (turn2 : Int) => (S.bind (draw u1.1) fun x21 => (S.bind (draw u1.2.1) fun x22 => S.pure (x21, x22)))) x23))) fun pairs3 => S.pure pairs3) : S Pool (List (Int × Int))) else S.pure pairs1) fun t1 => (S.bind (S.foldE (fun (t2 : Unit) (e1 : (Int × Int)) => ((S.bind (S.bind (S.up (P.law_pair_right yard1 e1.1 e1.2 held1)) fun x24 => S.pure (!x24)) fun z1 => (if z1 then S.pure (Fl.rt false) else S.pure (Fl.nx ()))) : S Pool (Fl Unit Bool))) () t1) fun r => Fl.el r (fun t3 => (S.bind (S.bind (S.pure (12 : Int)) fun x29 => (S.bind (S.pure (12 : Int)) fun x30 => (S.bind (S.bind (S.bind (S.of (rgB (60 : Int))) fun x27 => (S.calm (S.bind (S.lim (List.length x27)) fun _ => S.comp (fun (at2 : Int) => (S.pure true)) (fun (at2 : Int) => (S.bind (S.of (divI at2 (12 : Int))) fun x25 => (S.bind (S.of (modI at2 (12 : Int))) fun x26 => S.pure (x25, x26)))) x27))) fun x28 => S.pure x28) fun x31 => S.pure (x29, x30, x31)))) fun full1 => (S.bind (S.bind (S.bind (S.bind (S.bind (S.bind (S.pure (5 : Int)) fun x34 => (S.bind (draw (7 : Int)) fun x35 => S.pure (x34 + x35))) fun x36 => S.bind (S.bind (draw (12 : Int)) fun x37 => S.bind (S.pure ()) fun y3 => S.pure (x37, y3)) fun y2 => S.pure (x36, y2)) fun b => S.up (P.adds full1 b.1 b.2.1)) fun x38 => (S.bind (S.pure true) fun x39 => S.pure (!decide (x38 = x39)))) fun x44 => (if x44 then S.pure true else (S.bind (S.bind (S.bind (draw (5 : Int)) fun x40 => S.bind (S.bind (draw (12 : Int)) fun x41 => S.bind (S.pure ()) fun y5 => S.pure (x41, y5)) fun y4 => S.pure (x40, y4)) fun b => S.up (P.adds full1 b.1 b.2.1)) fun x42 => (S.bind (S.pure false) fun x43 => S.pure (!decide (x42 = x43)))))) fun z2 => (if z2 then (S.pure false) else (P.law_refused_right yard1))))) S.pure)))))))))) pool1)
end P

set_option Elab.async false
set_option linter.all false
set_option maxRecDepth 100000
set_option maxHeartbeats 4000000
/-! Ts: typed reckonings: what they come to. -/
namespace Tx
open Tw
section
variable {σ α β γ τ ρ : Type}
theorem okRg_le {a b : Int} (h0 : -1000000 ≤ a) (h1 : a ≤ 1000000) (h2 : -1000000 ≤ b) (h3 : b ≤ 1000000) : okRg a b = true := by
  unfold okRg
  rw [PySem.sizeLine_eq]
  simp
  omega
def nums (n : Nat) : List Int := (List.range n).map fun i : Nat => (i : Int)
def tab (n : Nat) (g : Nat → α) : List α := (List.range n).map g
theorem nums_tab (n : Nat) : nums n = tab n fun i : Nat => (i : Int) := rfl
theorem rgI_nat (n : Nat) : rgI 0 n = nums n := by
  unfold rgI nums
  rw [show ((n : Int) - 0).toNat = n by omega]
  apply List.map_congr_left
  intro i _
  omega
theorem rgB_nat {n : Nat} (h : n ≤ 1000000) : rgB (n : Int) = some (nums n) := by
  unfold rgB
  rw [if_pos (okRg_le (by omega) (by omega) (by omega) (by omega)), rgI_nat]
theorem rgO_nat {n : Nat} (h : n ≤ 1000000) : rgO (n : Int) = some (0, (n : Int)) := by
  unfold rgO
  rw [if_pos (okRg_le (by omega) (by omega) (by omega) (by omega))]
theorem rgAB_nat {n : Nat} (h : n ≤ 1000000) : rgAB 0 (n : Int) = some (nums n) := by
  unfold rgAB
  rw [if_pos (okRg_le (by omega) (by omega) (by omega) (by omega)), rgI_nat]
theorem getI_nat {xs : List α} {i : Nat} : getI xs (i : Int) = xs[i]? := by
  unfold getI; exact atI_nat
theorem getI_lt {xs : List α} {i : Nat} (h : i < xs.length) : getI xs (i : Int) = some xs[i] := by rw [getI_nat, List.getElem?_eq_getElem h]
theorem len_tab {n : Nat} {g : Nat → α} : (tab n g).length = n := by unfold tab; rw [List.length_map, List.length_range]
theorem len_nums {n : Nat} : (nums n).length = n := len_tab
theorem getI_tab {n i : Nat} {g : Nat → α} (h : i < n) : getI (tab n g) (i : Int) = some (g i) := by
  rw [getI_nat]; unfold tab
  rw [List.getElem?_map, List.getElem?_range h]; rfl
theorem getI_map {f : α → β} {xs : List α} {i : Int} : getI (xs.map f) i = (getI xs i).map f := by
  unfold getI; exact atI_map xs i
theorem setI_nat {xs : List α} {i : Nat} {v : α} (h : i < xs.length) : setI xs (i : Int) v = some (xs.set i v) := by
  unfold setI; rw [ixN_nat h]; rfl
theorem setI_tab {n i : Nat} {g : Nat → α} {v : α} (h : i < n) : setI (tab n g) (i : Int) v = some (tab n fun x => if x = i then v else g x) := by
  rw [setI_nat (by rw [len_tab]; exact h)]
  congr 1
  apply List.ext_getElem?
  intro j
  unfold tab
  rw [List.getElem?_set, List.getElem?_map, List.getElem?_map, List.length_map, List.length_range]
  by_cases hij : i = j
  · subst hij
    rw [if_pos rfl, if_pos h, List.getElem?_range h]
    simp
  · rw [if_neg hij]
    by_cases hj : j < n
    · rw [List.getElem?_range hj]
      simp
      exact fun q => absurd q.symm hij
    · rw [List.getElem?_eq_none (by rw [List.length_range]; omega)]; rfl
theorem map_tab {n : Nat} {g : Nat → α} {f : α → β} : (tab n g).map f = tab n fun i => f (g i) := by unfold tab; rw [List.map_map]; rfl
theorem tab_congr {n : Nat} {g h : Nat → α} (e : ∀ i, i < n → g i = h i) : tab n g = tab n h := by
  unfold tab
  exact List.map_congr_left fun i hi => e i (List.mem_range.mp hi)
theorem lim_ok {n : Nat} (h : n < 16000000) : (S.lim n : S σ Unit) = S.pure () := by unfold S.lim; rw [if_pos h]
theorem repI_one {v : α} {n : Nat} (h : n ≤ 1000000) : repI [v] (n : Int) = some (tab n fun _ => v) := by
  unfold repI
  rw [if_pos]
  · congr 1
    unfold tab
    rw [show ((n : Int)).toNat = n by omega]
    clear h
    induction n with
    | zero => rfl
    | succ n ih => rw [List.replicate_succ, List.flatten_cons, ih, List.range_succ_eq_map, List.map_cons, List.map_map]; rfl
  · rw [PySem.sizeLine_eq]
    simp
    omega
theorem catI_ok {x y : List α} (h : x.length + y.length ≤ 1000000) : catI x y = some (x ++ y) := by
  unfold catI
  rw [if_pos]
  rw [PySem.sizeLine_eq]; omega
theorem cut_to {xs : List α} {n : Nat} : cutI xs none (some (n : Int)) = xs.take n := by
  unfold cutI
  rw [HT.sIx_none, HT.sIx_nat, List.drop_zero, Nat.sub_zero]
  rcases Nat.le_total n xs.length with h | h
  · rw [Nat.min_eq_left h]
  · rw [Nat.min_eq_right h, List.take_of_length_le (Nat.le_refl _), List.take_of_length_le h]
/-! ### walks that come to a plain end -/
/-- a walk: what is true at each place -/
theorem fold_inv {f : τ → α → S σ τ} (I : List α → τ → Prop) {xs : List α} : ∀ {r d : List α} {t : τ}, d ++ r = xs → I d t → (∀ d x r t, d ++ x :: r = xs → I d t → ∃ t', f t x = S.pure t' ∧ I (d ++ [x]) t') → ∃ t', S.fold f t r = S.pure t' ∧ I xs t'
  | [], d, t, e, h, _ => ⟨t, rfl, by rw [← e, List.append_nil]; exact h⟩
  | x :: r, d, t, e, h, k => by
    obtain ⟨t1, h1, h2⟩ := k d x r t e h
    obtain ⟨t', h3, h4⟩ := fold_inv (f := f) I (r := r) (d := d ++ [x]) (by rw [List.append_assoc]; exact e) h2 k
    refine ⟨t', ?_, h4⟩
    unfold S.fold
    rw [h1, S.pure_bind]
    exact h3
/-- a walk that never ends early -/
theorem foldE_inv {f : τ → α → S σ (Fl τ ρ)} (I : List α → τ → Prop) {xs : List α} : ∀ {r d : List α} {t : τ}, d ++ r = xs → I d t → (∀ d x r t, d ++ x :: r = xs → I d t → ∃ t', f t x = S.pure (.nx t') ∧ I (d ++ [x]) t') → ∃ t', S.foldE f t r = S.pure (.nx t') ∧ I xs t'
  | [], d, t, e, h, _ => ⟨t, rfl, by rw [← e, List.append_nil]; exact h⟩
  | x :: r, d, t, e, h, k => by
    obtain ⟨t1, h1, h2⟩ := k d x r t e h
    obtain ⟨t', h3, h4⟩ := foldE_inv (f := f) I (r := r) (d := d ++ [x]) (by rw [List.append_assoc]; exact e) h2 k
    refine ⟨t', ?_, h4⟩
    unfold S.foldE
    rw [h1, S.pure_bind]
    exact h3
theorem fold_then {f : τ → α → S σ τ} (I : List α → τ → Prop) {xs : List α} {t : τ} {K : τ → S σ β} {R : S σ β} (h0 : I [] t) (k : ∀ d x r t, d ++ x :: r = xs → I d t → ∃ t', f t x = S.pure t' ∧ I (d ++ [x]) t') (hK : ∀ t', I xs t' → K t' = R) : S.bind (S.fold f t xs) K = R := by
  obtain ⟨t', h1, h2⟩ := fold_inv I (r := xs) (d := []) rfl h0 k
  rw [h1, S.pure_bind]
  exact hK t' h2
theorem foldE_then {f : τ → α → S σ (Fl τ ρ)} (I : List α → τ → Prop) {xs : List α} {t : τ} {K : Fl τ ρ → S σ β} {R : S σ β} (h0 : I [] t) (k : ∀ d x r t, d ++ x :: r = xs → I d t → ∃ t', f t x = S.pure (.nx t') ∧ I (d ++ [x]) t') (hK : ∀ t', I xs t' → K (.nx t') = R) : S.bind (S.foldE f t xs) K = R := by
  obtain ⟨t', h1, h2⟩ := foldE_inv I (r := xs) (d := []) rfl h0 k
  rw [h1, S.pure_bind]
  exact hK t' h2
theorem comp_eq {c : α → S σ Bool} {f : α → S σ β} (p : α → Bool) (k : α → β) : ∀ {xs : List α}, (∀ x ∈ xs, c x = S.pure (p x)) → (∀ x ∈ xs, p x = true → f x = S.pure (k x)) → S.comp c f xs = S.pure ((xs.filter p).map k)
  | [], _, _ => rfl
  | x :: xs, h1, h2 => by
    unfold S.comp
    rw [h1 x List.mem_cons_self, S.pure_bind, comp_eq p k (fun y hy => h1 y (List.mem_cons_of_mem _ hy)) fun y hy => h2 y (List.mem_cons_of_mem _ hy)]
    cases h : p x with
    | true => rw [if_pos rfl, h2 x List.mem_cons_self h, List.filter_cons_of_pos h]; rfl
    | false => rw [if_neg Bool.false_ne_true, List.filter_cons_of_neg (by rw [h]; exact Bool.false_ne_true)]
/-! ### with a state: whatever the state is -/
def Sat (m : S σ α) (Q : α → Prop) : Prop := ∀ s, ∃ v s', m s = .ok (v, s') ∧ Q v
theorem sat_pure {a : α} {Q : α → Prop} (h : Q a) : Sat (σ := σ) (S.pure a) Q := fun s => ⟨a, s, rfl, h⟩
theorem sat_bind {m : S σ α} {k : α → S σ β} {Q : α → Prop} {Q' : β → Prop} (h : Sat m Q) (hk : ∀ v, Q v → Sat (k v) Q') : Sat (S.bind m k) Q' := fun s => by
  obtain ⟨v, s1, h1, h2⟩ := h s
  obtain ⟨w, s2, h3, h4⟩ := hk v h2 s1
  exact ⟨w, s2, by unfold S.bind; rw [h1]; exact h3, h4⟩
theorem sat_mono {m : S σ α} {Q Q' : α → Prop} (h : Sat m Q) (k : ∀ v, Q v → Q' v) : Sat m Q' := fun s => by
  obtain ⟨v, s1, h1, h2⟩ := h s
  exact ⟨v, s1, h1, k v h2⟩
theorem sat_eq {m : S σ α} {v : α} {Q : α → Prop} (h : m = S.pure v) (q : Q v) : Sat m Q := by rw [h]; exact sat_pure q
theorem sat_calm {m : S σ α} {Q : α → Prop} (h : Sat m Q) : Sat (S.calm m) Q := fun s => by
  obtain ⟨v, s1, h1, h2⟩ := h s
  exact ⟨v, s1, by unfold S.calm; rw [h1], h2⟩
theorem sat_lim {n : Nat} {Q : Unit → Prop} (h : n < 16000000) (q : Q ()) : Sat (σ := σ) (S.lim n) Q := by rw [lim_ok h]; exact sat_pure q
theorem sat_ite {b : Bool} {m m' : S σ α} {Q : α → Prop} (h1 : b = true → Sat m Q) (h2 : b = false → Sat m' Q) : Sat (if b then m else m') Q := by
  cases b
  · exact h2 rfl
  · exact h1 rfl
theorem sat_fold {f : τ → α → S σ τ} (I : List α → τ → Prop) {xs : List α} : ∀ {r d : List α} {t : τ}, d ++ r = xs → I d t → (∀ d x r t, d ++ x :: r = xs → I d t → Sat (f t x) fun t' => I (d ++ [x]) t') → Sat (S.fold f t r) (I xs)
  | [], d, t, e, h, _ => sat_pure (by rw [← e, List.append_nil]; exact h)
  | x :: r, d, t, e, h, k => by
    unfold S.fold
    exact sat_bind (k d x r t e h) fun t' h' => sat_fold I (by rw [List.append_assoc]; exact e) h' k
theorem sat_foldE {f : τ → α → S σ (Fl τ ρ)} (I : List α → τ → Prop) {xs : List α} : ∀ {r d : List α} {t : τ}, d ++ r = xs → I d t → (∀ d x r t, d ++ x :: r = xs → I d t → Sat (f t x) fun q => ∃ t', q = .nx t' ∧ I (d ++ [x]) t') → Sat (S.foldE f t r) fun q => ∃ t', q = .nx t' ∧ I xs t'
  | [], d, t, e, h, _ => sat_pure ⟨t, rfl, by rw [← e, List.append_nil]; exact h⟩
  | x :: r, d, t, e, h, k => by
    unfold S.foldE
    refine sat_bind (k d x r t e h) fun q h' => ?_
    obtain ⟨t', rfl, h'⟩ := h'
    exact sat_foldE I (by rw [List.append_assoc]; exact e) h' k
/-- some of the things, the conditions drawn -/
theorem sat_comp {c : α → S σ Bool} {f : α → S σ β} (k : α → β) : ∀ {xs : List α}, (∀ x ∈ xs, Sat (c x) fun _ => True) → (∀ x ∈ xs, f x = S.pure (k x)) → Sat (S.comp c f xs) fun ys => ∃ zs : List α, zs.Sublist xs ∧ ys = zs.map k
  | [], _, _ => sat_pure ⟨[], List.Sublist.slnil, rfl⟩
  | x :: xs, h1, h2 => by
    unfold S.comp
    have ih := sat_comp k (xs := xs) (fun y hy => h1 y (List.mem_cons_of_mem _ hy)) fun y hy => h2 y (List.mem_cons_of_mem _ hy)
    refine sat_bind (h1 x List.mem_cons_self) fun b _ => sat_ite (fun _ => ?_) fun _ => ?_
    · rw [h2 x List.mem_cons_self, S.pure_bind]
      refine sat_bind ih fun ys hy => sat_pure ?_
      obtain ⟨zs, hz, rfl⟩ := hy
      exact ⟨x :: zs, hz.cons_cons x, rfl⟩
    · exact sat_mono ih fun ys hy => by
        obtain ⟨zs, hz, rfl⟩ := hy
        exact ⟨zs, hz.cons x, rfl⟩
theorem sat_up {m : S Unit α} {v : α} {Q : α → Prop} (h : m = S.pure v) (q : Q v) : Sat (σ := σ) (S.up m) Q := by rw [h]; exact sat_pure q
theorem sat_draw {m : Nat} (h0 : 0 < m) (h1 : m ≤ 1000000) : Sat (draw (m : Int)) fun v => ∃ n : Nat, v = n ∧ n < m := fun p => by
  unfold draw
  have hm : 0 < (m : Int) ∧ (m : Int) < 1073741824 := by omega
  rw [dif_pos hm]
  obtain ⟨a, b⟩ := dig_lt p.next (m : Int) hm.1
  generalize p.next.dig m hm.1 = q at a b
  exact ⟨q.1, q.2, rfl, q.1.toNat, by omega, by omega⟩
theorem sat_big {Q : Int → Prop} (h : ∀ v, Q v) : Sat S.big Q := fun p => ⟨p.b, p, rfl, h _⟩
/-- without a state: a value -/
theorem sat_unit {m : S Unit α} {Q : α → Prop} (h : Sat m Q) : ∃ v, m = S.pure v ∧ Q v := by
  obtain ⟨v, s, h1, h2⟩ := h ()
  exact ⟨v, funext fun _ => h1, h2⟩
theorem sat_then {f : τ → α → S σ τ} (I : List α → τ → Prop) {xs : List α} {t : τ} {K : τ → S σ β} {Q : β → Prop} (h0 : I [] t) (k : ∀ d x r t, d ++ x :: r = xs → I d t → Sat (f t x) fun t' => I (d ++ [x]) t') (hK : ∀ t', I xs t' → Sat (K t') Q) : Sat (S.bind (S.fold f t xs) K) Q :=
  sat_bind (sat_fold I (r := xs) (d := []) rfl h0 k) hK
theorem sat_thenE {f : τ → α → S σ (Fl τ ρ)} (I : List α → τ → Prop) {xs : List α} {t : τ} {K : Fl τ ρ → S σ β} {Q : β → Prop} (h0 : I [] t) (k : ∀ d x r t, d ++ x :: r = xs → I d t → Sat (f t x) fun q => ∃ t', q = .nx t' ∧ I (d ++ [x]) t') (hK : ∀ t', I xs t' → Sat (K (.nx t')) Q) : Sat (S.bind (S.foldE f t xs) K) Q :=
  sat_bind (sat_foldE I (r := xs) (d := []) rfl h0 k) fun q hq => by
    obtain ⟨t', rfl, h⟩ := hq
    exact hK t' h
theorem law_run {ns : List Int} {m : S Pool Bool} (h : Sat m fun v => v = true) : (S.bind (S.pure (Pool.of ns)) fun p => S.run m p : S Unit Bool) () = .ok (true, ()) := by
  obtain ⟨v, p, h1, rfl⟩ := h (Pool.of ns)
  show S.run m (Pool.of ns) () = _
  unfold S.run
  rw [h1]
end
end Tx

set_option Elab.async false
set_option linter.all false
/-! G0: lots of lanes: names by least lane; plain. -/
namespace G
abbrev Ed := Nat × Nat
def step (M : Nat → Nat) (e : Ed) : Nat → Nat := fun x => if M x = M e.1 ∨ M x = M e.2 then min (M e.1) (M e.2) else M x
def mer (E : List Ed) : Nat → Nat := E.foldl step id
inductive Conn (E : List Ed) : Nat → Nat → Prop
  | refl (x : Nat) : Conn E x x
  | edge {a b : Nat} : (a, b) ∈ E → Conn E a b
  | symm {a b : Nat} : Conn E a b → Conn E b a
  | trans {a b c : Nat} : Conn E a b → Conn E b c → Conn E a c
theorem Conn.mono {E E' : List Ed} (h : ∀ e ∈ E, Conn E' e.1 e.2) {x y : Nat} (c : Conn E x y) : Conn E' x y := by
  induction c with
  | refl x => exact .refl x
  | edge h' => exact h _ h'
  | symm _ ih => exact ih.symm
  | trans _ _ h1 h2 => exact h1.trans h2
theorem Conn.sub {E E' : List Ed} (h : ∀ e ∈ E, e ∈ E') {x y : Nat} (c : Conn E x y) : Conn E' x y := c.mono fun e he => .edge (h e he)
structure Good (M : Nat → Nat) (E : List Ed) : Prop where
  conn : ∀ x y, M x = M y ↔ Conn E x y
  idem : ∀ x, M (M x) = M x
  le : ∀ x, M x ≤ x
theorem good_nil : Good id [] := ⟨fun x y => ⟨fun h => by rw [show x = y from h]; exact .refl y, fun h => by
  induction h with
  | refl x => rfl
  | edge h => cases h
  | symm _ ih => exact ih.symm
  | trans _ _ h1 h2 => exact h1.trans h2⟩, fun _ => rfl, fun _ => Nat.le_refl _⟩
theorem good_step {M : Nat → Nat} {E : List Ed} (g : Good M E) (e : Ed) : Good (step M e) (E ++ [e]) := by
  have ha := g.idem e.1
  have hb := g.idem e.2
  have sub : ∀ {x y}, Conn E x y → Conn (E ++ [e]) x y := fun c => c.sub fun e he => List.mem_append_left _ he
  have ce : Conn (E ++ [e]) e.1 e.2 := .edge (List.mem_append_right _ List.mem_cons_self)
  have hm : min (M e.1) (M e.2) = M e.1 ∨ min (M e.1) (M e.2) = M e.2 := by omega
  refine ⟨fun x y => ⟨fun h => ?_, fun h => ?_⟩, fun x => ?_, fun x => ?_⟩
  · unfold step at h
    by_cases hx : M x = M e.1 ∨ M x = M e.2
    · rw [if_pos hx] at h
      have cx : Conn (E ++ [e]) x e.1 := by
        rcases hx with hx | hx
        · exact sub ((g.conn _ _).mp hx)
        · exact (sub ((g.conn _ _).mp hx)).trans ce.symm
      by_cases hy : M y = M e.1 ∨ M y = M e.2
      · have cy : Conn (E ++ [e]) y e.1 := by
          rcases hy with hy | hy
          · exact sub ((g.conn _ _).mp hy)
          · exact (sub ((g.conn _ _).mp hy)).trans ce.symm
        exact cx.trans cy.symm
      · rw [if_neg hy] at h
        exact absurd (hm.imp (fun q => h.symm.trans q) (fun q => h.symm.trans q)) hy
    · rw [if_neg hx] at h
      by_cases hy : M y = M e.1 ∨ M y = M e.2
      · rw [if_pos hy] at h
        exact absurd (hm.imp (fun q => h.trans q) (fun q => h.trans q)) hx
      · rw [if_neg hy] at h
        exact sub ((g.conn _ _).mp h)
  · induction h with
    | refl x => rfl
    | @edge a b he =>
      rcases List.mem_append.mp he with he | he
      · have : M a = M b := (g.conn _ _).mpr (.edge he)
        unfold step; rw [this]
      · have : (a, b) = e := by simpa using he
        subst this
        unfold step
        rw [if_pos (.inl rfl), if_pos (.inr rfl)]
    | symm _ ih => exact ih.symm
    | trans _ _ h1 h2 => exact h1.trans h2
  · unfold step
    by_cases hx : M x = M e.1 ∨ M x = M e.2
    · simp only [if_pos hx]
      rcases hm with hm | hm
      · rw [hm, ha, if_pos (.inl rfl)]
      · rw [hm, hb, if_pos (.inr rfl)]
    · simp only [if_neg hx]
      rw [g.idem, if_neg hx]
  · unfold step
    have := g.le x
    split <;> omega
theorem mer_snoc (E : List Ed) (e : Ed) : mer (E ++ [e]) = step (mer E) e := by unfold mer; rw [List.foldl_append]; rfl
theorem good_mer (E : List Ed) : Good (mer E) E := by
  have : ∀ (n : Nat) (E : List Ed), E.length = n → Good (mer E) E := by
    intro n
    induction n with
    | zero => intro E h; rw [List.length_eq_zero_iff.mp h]; exact good_nil
    | succ n ih =>
      intro E h
      have hne : E ≠ [] := fun q => by rw [q] at h; cases h
      have := List.dropLast_concat_getLast hne
      rw [← this, mer_snoc]
      exact good_step (ih _ (by rw [List.length_dropLast, h]; rfl)) _
  exact this _ E rfl
theorem Good.root {M : Nat → Nat} {E : List Ed} (g : Good M E) (x : Nat) : Conn E x (M x) := (g.conn _ _).mp (g.idem x).symm
theorem good_ext {M M' : Nat → Nat} {E E' : List Ed} (g : Good M E) (g' : Good M' E') (h : ∀ x y, Conn E x y ↔ Conn E' x y) : M = M' := by
  funext x
  have h1 : M' x = M' (M x) := (g'.conn _ _).mpr ((h _ _).mp (g.root x))
  have h2 : M x = M (M' x) := (g.conn _ _).mpr ((h _ _).mpr (g'.root x))
  have := g'.le (M x)
  have := g.le (M' x)
  omega
theorem mer_ext {E E' : List Ed} (h : ∀ x y, Conn E x y ↔ Conn E' x y) : mer E = mer E' := good_ext (good_mer E) (good_mer E') h
theorem mer_mem {E E' : List Ed} (h : ∀ e, e ∈ E ↔ e ∈ E') : mer E = mer E' := mer_ext fun x y => ⟨fun c => c.sub fun e => (h e).mp, fun c => c.sub fun e => (h e).mpr⟩
theorem mer_skip {E : List Ed} {e : Ed} (h : mer E e.1 = mer E e.2) : mer (E ++ [e]) = mer E := mer_ext fun x y => ⟨fun c => c.mono fun e' he => by
  rcases List.mem_append.mp he with he | he
  · exact .edge he
  · have : e' = e := by simpa using he
    subst this
    exact ((good_mer E).conn _ _).mp h, fun c => c.sub fun e he => List.mem_append_left _ he⟩
/-! ### counting -/
def cnt (p : Nat → Bool) : Nat → Nat
  | 0 => 0
  | n + 1 => cnt p n + (if p n then 1 else 0)
theorem cnt_filter (p : Nat → Bool) : ∀ n, ((List.range n).filter p).length = cnt p n
  | 0 => rfl
  | n + 1 => by
    rw [List.range_succ, List.filter_append, List.length_append, cnt_filter p n]
    show _ = cnt p n + (if p n then 1 else 0)
    cases h : p n <;> simp [h]
theorem cnt_congr {p q : Nat → Bool} : ∀ {n : Nat}, (∀ x, x < n → p x = q x) → cnt p n = cnt q n
  | 0, _ => rfl
  | n + 1, h => by
    unfold cnt
    rw [cnt_congr (fun x hx => h x (by omega)), h n (by omega)]
theorem cnt_one {p q : Nat → Bool} {c : Nat} : ∀ {n : Nat}, c < n → (∀ x, x < n → x ≠ c → q x = p x) → p c = false → q c = true → cnt q n = cnt p n + 1
  | 0, h, _, _, _ => by omega
  | n + 1, h, h1, h2, h3 => by
    unfold cnt
    by_cases hc : c = n
    · subst hc
      rw [h2, h3, cnt_congr (p := q) (q := p) fun x hx => h1 x (by omega) (by omega)]
      simp
    · rw [cnt_one (n := n) (by omega) (fun x hx => h1 x (by omega)) h2 h3, h1 n (by omega) (fun q => hc q.symm)]
      omega
theorem cnt_zero {p : Nat → Bool} : ∀ {n : Nat}, (∀ x, x < n → p x = false) → cnt p n = 0
  | 0, _ => rfl
  | n + 1, h => by
    unfold cnt
    rw [cnt_zero fun x hx => h x (by omega), h n (by omega)]; rfl
/-- how many are not the least of their lot -/
def low (M : Nat → Nat) (n : Nat) : Nat := cnt (fun x => decide (M x ≠ x)) n
theorem low_id (n : Nat) : low id n = 0 := cnt_zero fun x _ => by simp
theorem low_step {M : Nat → Nat} {E : List Ed} (g : Good M E) {e : Ed} {n : Nat} (h1 : e.1 < n) (h2 : e.2 < n) (h : M e.1 ≠ M e.2) : low (step M e) n = low M n + 1 := by
  have l1 := g.le e.1
  have l2 := g.le e.2
  have i1 := g.idem e.1
  have i2 := g.idem e.2
  unfold low
  refine cnt_one (c := max (M e.1) (M e.2)) (by omega) (fun x hx hc => ?_) ?_ ?_
  · unfold step
    by_cases hxx : M x = M e.1 ∨ M x = M e.2
    · rw [if_pos hxx]
      have := g.le x
      have e1 : (min (M e.1) (M e.2) ≠ x) ↔ (M x ≠ x) := by
        constructor
        · intro q z
          rcases hxx with w | w <;> omega
        · intro q z
          have : M x < x := by omega
          rcases hxx with w | w <;> omega
      exact decide_eq_decide.mpr e1
    · rw [if_neg hxx]
  · rcases Nat.le_total (M e.1) (M e.2) with q | q
    · rw [Nat.max_eq_right q, i2]; simp
    · rw [Nat.max_eq_left q, i1]; simp
  · have e0 : M (max (M e.1) (M e.2)) = M e.1 ∨ M (max (M e.1) (M e.2)) = M e.2 := by
      rcases Nat.le_total (M e.1) (M e.2) with q | q
      · rw [Nat.max_eq_right q, i2]; exact .inr rfl
      · rw [Nat.max_eq_left q, i1]; exact .inl rfl
    unfold step
    simp only [if_pos e0]
    exact decide_eq_true (by omega)
/-! ### what has an edge -/
def tou (E : List Ed) (x : Nat) : Bool := E.any fun e => e.1 == x || e.2 == x
theorem tou_iff {E : List Ed} {x : Nat} : tou E x = true ↔ ∃ e ∈ E, e.1 = x ∨ e.2 = x := by
  unfold tou
  simp [List.any_eq_true]
theorem tou_conn {E : List Ed} {x y : Nat} (c : Conn E x y) : x = y ∨ (tou E x = true ∧ tou E y = true) := by
  induction c with
  | refl x => exact .inl rfl
  | @edge a b h => exact .inr ⟨tou_iff.mpr ⟨_, h, .inl rfl⟩, tou_iff.mpr ⟨_, h, .inr rfl⟩⟩
  | symm _ ih => exact ih.imp Eq.symm And.symm
  | trans _ _ h1 h2 =>
    rcases h1 with rfl | h1
    · exact h2
    · rcases h2 with rfl | h2
      · exact .inr h1
      · exact .inr ⟨h1.1, h2.2⟩
theorem tou_mer {E : List Ed} {x : Nat} (h : tou E x = true) : tou E (mer E x) = true := by
  rcases tou_conn ((good_mer E).root x) with q | q
  · rw [← q]; exact h
  · exact q.2
theorem mer_untou {E : List Ed} {x : Nat} (h : tou E x = false) : mer E x = x := by
  rcases tou_conn ((good_mer E).root x) with q | q
  · exact q.symm
  · rw [h] at q; cases q.1
theorem tou_snoc {E : List Ed} {e : Ed} {x : Nat} : tou (E ++ [e]) x = (tou E x || (e.1 == x || e.2 == x)) := by unfold tou; rw [List.any_append]; simp
end G

set_option Elab.async false
set_option linter.all false
set_option maxRecDepth 100000
set_option maxHeartbeats 4000000
namespace P
open Tw Tx G
abbrev zp (p : Nat × Nat) : Int × Int := (p.1, p.2)
def yd (k l : Nat) (tr : List (Nat × Nat)) : Int × Int × List (Int × Int) := (k, l, tr.map zp)
def pk (p : List Nat) : List Int := p.map fun t : Nat => (t : Int)
def lt2 (p q : Nat × Nat) : Prop := p.1 < q.1 ∨ (p.1 = q.1 ∧ p.2 < q.2)
structure YOk (k l : Nat) (tr : List (Nat × Nat)) : Prop where
  k1 : 1 ≤ k
  k2 : k ≤ 12
  l1 : 1 ≤ l
  l2 : l ≤ 12
  len : tr.length ≤ 60
  mem : ∀ p ∈ tr, p.1 < k ∧ p.2 < l
  inc : tr.Pairwise lt2
structure POk (n : Nat) (p : List Nat) : Prop where
  mem : ∀ t ∈ p, t < n
  inc : p.Pairwise (· < ·)
theorem pk_len {p : List Nat} : (pk p).length = p.length := List.length_map _
/-- a list of numbers that rises, below n, is no longer than n -/
theorem rise_len : ∀ {p : List Nat} {n m : Nat}, (∀ t ∈ p, m ≤ t ∧ t < n) → p.Pairwise (· < ·) → p.length ≤ n - m
  | [], _, _, _, _ => Nat.zero_le _
  | t :: p, n, m, h, hp => by
    obtain ⟨h1, h2⟩ := List.pairwise_cons.mp hp
    have ht := h t List.mem_cons_self
    have := rise_len (p := p) (n := n) (m := t + 1) (fun u hu => ⟨h1 u hu, (h u (List.mem_cons_of_mem _ hu)).2⟩) h2
    rw [List.length_cons]; omega
theorem POk.le {n : Nat} {p : List Nat} (h : POk n p) : p.length ≤ n := rise_len (m := 0) (fun t ht => ⟨Nat.zero_le _, h.mem t ht⟩) h.inc
theorem is_whole_eq (t lo hi : Int) : P.is_whole t lo hi = S.pure (decide (lo ≤ t) && decide (t ≤ hi)) := by unfold P.is_whole; simp
theorem is_track_ok {k l : Nat} {p : Nat × Nat} (h : p.1 < k ∧ p.2 < l) : P.is_track (zp p) k l = S.pure true := by
  unfold P.is_track
  simp only [is_whole_eq, S.pure_bind]
  have h1 : (decide ((0 : Int) ≤ (zp p).1) && decide ((zp p).1 ≤ (k : Int) - 1)) = true := by simp; omega
  have h2 : (decide ((0 : Int) ≤ (zp p).2) && decide ((zp p).2 ≤ (l : Int) - 1)) = true := by simp; omega
  rw [h1, h2]
  simp
theorem mid_get {α : Type} {d r xs : List α} {x : α} (h : d ++ x :: r = xs) : xs[d.length]? = some x := by rw [← h]; simp
theorem nums_mid {n : Nat} {d r : List Int} {x : Int} (h : d ++ x :: r = nums n) : x = (d.length : Int) ∧ d.length < n := by
  have h1 := mid_get h
  have h2 : d.length < n := by
    have := congrArg List.length h
    rw [len_nums, List.length_append, List.length_cons] at this
    omega
  rw [nums_tab] at h1
  unfold tab at h1
  rw [List.getElem?_map, List.getElem?_range h2] at h1
  simp at h1
  exact ⟨h1.symm, h2⟩
theorem first_wrong_ok {k l : Nat} {tr : List (Nat × Nat)} (y : YOk k l tr) : P.first_wrong (yd k l tr) = S.pure none := by
  have k1 := y.k1
  have k2 := y.k2
  have l1 := y.l1
  have l2 := y.l2
  have hl := y.len
  unfold P.first_wrong yd
  simp only [is_whole_eq, S.pure_bind, List.length_map]
  have h1 : (decide ((1 : Int) ≤ (k : Int)) && decide ((k : Int) ≤ 12)) = true := by simp; omega
  have h2 : (decide ((1 : Int) ≤ (l : Int)) && decide ((l : Int) ≤ 12)) = true := by simp; omega
  have h3 : decide ((60 : Int) < (tr.length : Int)) = false := by simp; omega
  simp only [h1, h2, h3, rgB_nat (show tr.length ≤ 1000000 by omega), S.of_some, S.pure_bind]
  simp only [Bool.not_true, Bool.false_eq_true, Bool.or_self, decide_true, if_false]
  refine foldE_then (fun _ _ => True) trivial (fun d x r t e _ => ?_) fun t' _ => rfl
  obtain ⟨rfl, hd⟩ := nums_mid e
  have hp := y.mem _ (List.getElem_mem hd)
  have g1 : getI (tr.map zp) (d.length : Int) = some (zp tr[d.length]) := by rw [getI_map, getI_lt hd]; rfl
  refine ⟨(), ?_, trivial⟩
  simp only [g1, S.of_some, S.pure_bind, is_track_ok hp, Bool.not_true, Bool.false_eq_true, if_false]
  by_cases h0 : 0 < d.length
  · have hd1 : d.length - 1 < tr.length := by omega
    have g2 : getI (tr.map zp) ((d.length : Int) - 1) = some (zp tr[d.length - 1]) := by
      rw [show ((d.length : Int) - 1) = ((d.length - 1 : Nat) : Int) by omega, getI_map, getI_lt hd1]; rfl
    have hlt := List.pairwise_iff_getElem.mp y.inc (d.length - 1) d.length hd1 hd (by omega)
    have hl : ltP (zp tr[d.length - 1]) (zp tr[d.length]) = true := by
      unfold ltP lt2 at *
      simp
      omega
    simp [g2, h0, hl]
  · simp [h0]
theorem made_yard_ok {k l : Nat} {tr : List (Nat × Nat)} (y : YOk k l tr) : P.made_yard (yd k l tr) = S.pure (yd k l tr) := by
  unfold P.made_yard
  rw [first_wrong_ok y]; rfl
theorem is_pick_ok {k l : Nat} {tr : List (Nat × Nat)} {p : List Nat} (h : POk tr.length p) (hl : tr.length ≤ 1000) : P.is_pick (yd k l tr) (pk p) = S.pure true := by
  have := h.le
  unfold P.is_pick yd
  simp only [is_whole_eq, S.pure_bind, List.length_map, pk_len, rgB_nat (show p.length ≤ 1000000 by omega), S.of_some, Bool.not_true, Bool.false_eq_true, if_false]
  refine foldE_then (fun _ _ => True) trivial (fun d x r t e _ => ?_) fun t' _ => rfl
  obtain ⟨rfl, hd⟩ := nums_mid e
  have hp := h.mem _ (List.getElem_mem hd)
  have g1 : getI (pk p) (d.length : Int) = some (p[d.length] : Int) := by unfold pk; rw [getI_map, getI_lt hd]; rfl
  refine ⟨(), ?_, trivial⟩
  have h1 : (decide ((0 : Int) ≤ (p[d.length] : Int)) && decide ((p[d.length] : Int) ≤ (tr.length : Int) - 1)) = true := by simp; omega
  simp only [g1, S.of_some, S.pure_bind, h1, Bool.not_true, Bool.false_eq_true, if_false]
  by_cases h0 : 0 < d.length
  · have hd1 : d.length - 1 < p.length := by omega
    have g2 : getI (pk p) ((d.length : Int) - 1) = some (p[d.length - 1] : Int) := by
      rw [show ((d.length : Int) - 1) = ((d.length - 1 : Nat) : Int) by omega]; unfold pk; rw [getI_map, getI_lt hd1]; rfl
    have hlt := List.pairwise_iff_getElem.mp h.inc (d.length - 1) d.length hd1 hd (by omega)
    simp [g2, h0]
    omega
  · simp [h0]
theorem made_pick_ok {k l : Nat} {tr : List (Nat × Nat)} {p : List Nat} (h : POk tr.length p) (hl : tr.length ≤ 1000) : P.made_pick (yd k l tr) (pk p) = S.pure (pk p) := by
  unfold P.made_pick
  rw [is_pick_ok h hl]; rfl
def edge (k : Nat) (tr : List (Nat × Nat)) (t : Nat) : Ed := ((tr.getD t (0, 0)).1, k + (tr.getD t (0, 0)).2)
def es (k : Nat) (tr : List (Nat × Nat)) (p : List Nat) : List Ed := p.map (edge k tr)
theorem edge_lt {k l : Nat} {tr : List (Nat × Nat)} (y : YOk k l tr) {t : Nat} (h : t < tr.length) : (edge k tr t).1 < k ∧ k ≤ (edge k tr t).2 ∧ (edge k tr t).2 < k + l := by
  have := y.mem _ (List.getElem_mem h)
  unfold edge
  rw [List.getD_eq_getElem?_getD, List.getElem?_eq_getElem h]
  show tr[t].1 < k ∧ k ≤ k + tr[t].2 ∧ k + tr[t].2 < k + l
  omega
theorem getT {k l : Nat} {tr : List (Nat × Nat)} {t : Nat} (h : t < tr.length) : getI (tr.map zp) (t : Int) = some (((edge k tr t).1 : Int), ((edge k tr t).2 : Int) - k) := by
  rw [getI_map, getI_lt h]
  unfold edge
  rw [List.getD_eq_getElem?_getD, List.getElem?_eq_getElem h]
  show some (zp tr[t]) = some ((tr[t].1 : Int), ((k + tr[t].2 : Nat) : Int) - k)
  congr 1
  show ((tr[t].1 : Int), (tr[t].2 : Int)) = _
  congr 1
  omega
theorem ends_ok {k l : Nat} {tr : List (Nat × Nat)} {t : Nat} (h : t < tr.length) : P.ends (yd k l tr) (t : Int) = S.pure (zp (edge k tr t)) := by
  unfold P.ends yd
  simp only [getT (k := k) (l := l) h, S.of_some, S.pure_bind]
  congr 1
  show (((edge k tr t).1 : Int), (k : Int) + (((edge k tr t).2 : Int) - k)) = (((edge k tr t).1 : Int), ((edge k tr t).2 : Int))
  congr 1
  omega
def lab (E : List Ed) (x : Nat) : Int := if tou E x then (mer E x : Int) else -1
theorem pk_mid {p : List Nat} {d r : List Int} {x : Int} (h : d ++ x :: r = pk p) : ∃ hd : d.length < p.length, x = (p[d.length] : Int) ∧ p.take (d.length + 1) = p.take d.length ++ [p[d.length]] := by
  have hd : d.length < p.length := by
    have := congrArg List.length h
    rw [pk_len, List.length_append, List.length_cons] at this
    omega
  refine ⟨hd, ?_, ?_⟩
  · have h1 := mid_get h
    unfold pk at h1
    rw [List.getElem?_map, List.getElem?_eq_getElem hd] at h1
    simp at h1
    exact h1.symm
  · rw [List.take_succ_eq_append_getElem hd]
theorem lab_nn {E : List Ed} {x : Nat} : (decide ((0 : Int) ≤ lab E x)) = tou E x := by
  unfold lab
  cases tou E x <;> simp
theorem lab_or {E : List Ed} {x : Nat} : (if tou E x = true then lab E x else (x : Int)) = (mer E x : Int) := by
  unfold lab
  cases h : tou E x
  · rw [if_neg Bool.false_ne_true, mer_untou h]
  · simp
theorem lab_pick {σ : Type} {E : List Ed} {x : Nat} : (if decide ((0 : Int) ≤ lab E x) = true then (S.pure (lab E x) : S σ Int) else S.pure (x : Int)) = S.pure (mer E x : Int) := by
  rw [lab_nn, ← lab_or]
  cases tou E x <;> rfl
theorem lab_snoc {E : List Ed} {e : Ed} {x : Nat} : (if x = e.2 then ((min (mer E e.1) (mer E e.2) : Nat) : Int) else if x = e.1 then ((min (mer E e.1) (mer E e.2) : Nat) : Int) else if (decide ((0 : Int) ≤ lab E x) && inI (lab E x) [lab E e.1, lab E e.2]) = true then ((min (mer E e.1) (mer E e.2) : Nat) : Int) else lab E x) = lab (E ++ [e]) x := by
  have hs : mer (E ++ [e]) = step (mer E) e := mer_snoc E e
  have key : ∀ {a x : Nat}, x ≠ a → tou E x = true → ((mer E x : Int) = lab E a ↔ mer E x = mer E a) := fun {a x} hx ht => by
    unfold lab
    cases ha : tou E a
    · rw [if_neg Bool.false_ne_true, mer_untou ha]
      constructor
      · intro q; omega
      · intro q
        have hc : Conn E x a := by
          have := (good_mer E).root x
          rw [q] at this; exact this
        rcases tou_conn hc with z | z
        · exact absurd z hx
        · rw [ha] at z; cases z.2
    · rw [if_pos rfl]; omega
  by_cases h2 : x = e.2
  · rw [if_pos h2]
    have ht : tou (E ++ [e]) x = true := by rw [tou_snoc, h2]; simp
    unfold lab
    rw [if_pos ht, hs, h2]
    unfold step
    rw [if_pos (.inr rfl)]
  · rw [if_neg h2]
    by_cases h1 : x = e.1
    · rw [if_pos h1]
      have ht : tou (E ++ [e]) x = true := by rw [tou_snoc, h1]; simp
      unfold lab
      rw [if_pos ht, hs, h1]
      unfold step
      rw [if_pos (.inl rfl)]
    · rw [if_neg h1, lab_nn]
      have ht : tou (E ++ [e]) x = tou E x := by
        rw [tou_snoc]
        have q1 : (e.1 == x) = false := by simp; exact fun q => h1 q.symm
        have q2 : (e.2 == x) = false := by simp; exact fun q => h2 q.symm
        rw [q1, q2]; simp
      cases hx : tou E x with
      | false =>
        simp only [Bool.false_and, Bool.false_eq_true, if_false]
        unfold lab
        rw [ht, hx]; rfl
      | true =>
        have e0 : lab E x = (mer E x : Int) := by unfold lab; rw [hx]; rfl
        have k1 := key (a := e.1) h1 hx
        have k2 := key (a := e.2) h2 hx
        have e1 : lab (E ++ [e]) x = (step (mer E) e x : Nat) := by
          unfold lab
          rw [ht, hx, hs]; rfl
        rw [e1, e0]
        unfold step
        have hin : (inI (mer E x : Int) [lab E e.1, lab E e.2]) = decide (mer E x = mer E e.1 ∨ mer E x = mer E e.2) := by
          unfold inI
          rw [Bool.eq_iff_iff]
          simp only [List.contains_iff_mem, List.mem_cons, List.not_mem_nil, or_false, decide_eq_true_eq, k1, k2]
        rw [hin]
        simp only [Bool.true_and, decide_eq_true_eq]
        split <;> rfl
theorem labels_ok {k l : Nat} {tr : List (Nat × Nat)} (y : YOk k l tr) {p : List Nat} (hp : ∀ t ∈ p, t < tr.length) : P.labels (yd k l tr) (pk p) = S.pure (tab (k + l) (lab (es k tr p))) := by
  have := y.k2
  have := y.l2
  unfold P.labels
  have hr : repI [-(1 : Int)] ((yd k l tr).1 + (yd k l tr).2.1) = some (tab (k + l) fun _ => -1) := by
    show repI [-(1 : Int)] ((k : Int) + (l : Int)) = _
    rw [show (k : Int) + (l : Int) = ((k + l : Nat) : Int) by omega, repI_one (by omega)]
  rw [hr, S.of_some, S.pure_bind]
  refine fold_then (fun d t => t = tab (k + l) (lab (es k tr (p.take d.length)))) rfl (fun d x r t e h => ?_) fun t' h => ?_
  · subst h
    obtain ⟨hd, rfl, htk⟩ := pk_mid e
    have ht := hp _ (List.getElem_mem hd)
    obtain ⟨e1, e2, e3⟩ := edge_lt y ht
    generalize hE : es k tr (p.take d.length) = E
    have hE' : es k tr (p.take (d.length + 1)) = E ++ [edge k tr p[d.length]] := by rw [htk, ← hE]; unfold es; rw [List.map_append]; rfl
    generalize hed : edge k tr p[d.length] = ed at *
    refine ⟨_, ?_, rfl⟩
    have a1 : ed.1 < k + l := by omega
    rw [List.length_append, List.length_singleton, hE', ends_ok ht]
    simp only [S.pure_bind, hed, zp, getI_tab a1, getI_tab e3, S.of_some, S.bind_assoc, lim_ok (show (tab (k + l) (lab E)).length < 16000000 by rw [len_tab]; omega), map_tab]
    have hmin : min (mer E ed.1 : Int) (mer E ed.2 : Int) = ((min (mer E ed.1) (mer E ed.2) : Nat) : Int) := by omega
    simp only [lab_pick, S.pure_bind, hmin, setI_tab a1, setI_tab e3, S.of_some]
    congr 1
    exact tab_congr fun x _ => lab_snoc
  · rw [h, pk_len, List.take_length]
theorem nums_filter {n : Nat} {p : Int → Bool} : (((nums n).filter p).length) = cnt (fun i => p (i : Int)) n := by
  unfold nums
  rw [List.filter_map, List.length_map, cnt_filter]; rfl
theorem mem_nums {n : Nat} {x : Int} : x ∈ nums n ↔ ∃ i : Nat, i < n ∧ x = i := by
  unfold nums
  simp only [List.mem_map, List.mem_range]
  constructor
  · rintro ⟨i, h1, h2⟩; exact ⟨i, h1, h2.symm⟩
  · rintro ⟨i, h1, h2⟩; exact ⟨i, h1, h2.symm⟩
theorem joins_ok {k l : Nat} {tr : List (Nat × Nat)} (y : YOk k l tr) {p : List Nat} (hp : ∀ t ∈ p, t < tr.length) : P.joins (yd k l tr) (pk p) = S.pure (low (mer (es k tr p)) (k + l) : Int) := by
  have := y.k2
  have := y.l2
  unfold P.joins
  generalize hE : es k tr p = E
  rw [labels_ok y hp, hE, S.pure_bind, len_tab, rgB_nat (by omega), S.of_some, S.pure_bind, len_nums, lim_ok (by omega), S.pure_bind]
  rw [comp_eq (fun x : Int => decide (mer E x.toNat ≠ x.toNat)) (fun x => x) (fun x hx => ?_) fun x hx _ => rfl]
  · rw [S.calm_pure, S.pure_bind, List.map_id', nums_filter]
    rfl
  · obtain ⟨i, hi, rfl⟩ := mem_nums.mp hx
    simp only [getI_tab hi, S.of_some, S.pure_bind, lab_nn, Int.toNat_natCast]
    unfold lab
    cases h : tou E i
    · simp [mer_untou h]
    · simp [Int.natCast_inj]
theorem rank_ok {k l : Nat} {tr : List (Nat × Nat)} (y : YOk k l tr) {p : List Nat} (hp : POk tr.length p) : P.rank (yd k l tr) (pk p) = S.pure (low (mer (es k tr p)) (k + l) : Int) := by
  have := y.len
  unfold P.rank
  rw [made_yard_ok y, S.pure_bind, made_pick_ok hp (by omega)]
  simp only [S.pure_bind]
  rw [joins_ok y hp.mem]
/-- the lots, by their least lanes -/
def lots (E : List Ed) (n : Nat) : List (List Int) := ((nums n).filter fun x => tou E x.toNat && decide (mer E x.toNat = x.toNat)).map fun z => (nums n).filter fun x => decide ((mer E x.toNat : Int) = z)
theorem lab_eq {E : List Ed} {x z : Nat} (hz : tou E z = true ∧ mer E z = z) : (lab E x = (z : Int)) ↔ mer E x = z := by
  unfold lab
  cases h : tou E x
  · rw [if_neg Bool.false_ne_true, mer_untou h]
    constructor
    · intro q; omega
    · rintro rfl; rw [h] at hz; cases hz.1
  · rw [if_pos rfl]; omega
theorem pieces_ok {k l : Nat} {tr : List (Nat × Nat)} (y : YOk k l tr) {p : List Nat} (hp : POk tr.length p) : P.pieces (yd k l tr) (pk p) = S.pure (lots (es k tr p) (k + l)) := by
  have := y.len
  have := y.k2
  have := y.l2
  unfold P.pieces
  generalize hE : es k tr p = E
  rw [made_yard_ok y, S.pure_bind, made_pick_ok hp (by omega)]
  simp only [S.pure_bind]
  rw [labels_ok y hp.mem, hE, S.pure_bind, len_tab, rgO_nat (by omega), S.of_some, S.pure_bind]
  simp only [rgAB_nat (show k + l ≤ 1000000 by omega), S.of_some, S.pure_bind, len_nums, lim_ok (show k + l < 16000000 by omega)]
  rw [comp_eq (fun x : Int => tou E x.toNat && decide (mer E x.toNat = x.toNat)) (fun z : Int => (nums (k + l)).filter fun x => decide ((mer E x.toNat : Int) = z)) (fun x hx => ?_) fun x hx hh => ?_]
  · rw [S.calm_pure, S.pure_bind]; rfl
  · obtain ⟨i, hi, rfl⟩ := mem_nums.mp hx
    simp only [getI_tab hi, S.of_some, S.pure_bind, Int.toNat_natCast]
    congr 1
    rw [Bool.eq_iff_iff, Bool.and_eq_true, decide_eq_true_eq, decide_eq_true_eq]
    unfold lab
    cases h : tou E i
    · simp
    · simp [Int.natCast_inj]
  · obtain ⟨i, hi, rfl⟩ := mem_nums.mp hx
    rw [Bool.and_eq_true, decide_eq_true_eq, Int.toNat_natCast] at hh
    rw [comp_eq (fun x : Int => decide ((mer E x.toNat : Int) = (i : Int))) (fun x => x) (fun x hx => ?_) fun x hx _ => rfl]
    · rw [S.calm_pure, S.pure_bind, List.map_id']
    · obtain ⟨j, hj, rfl⟩ := mem_nums.mp hx
      simp only [getI_tab hj, S.of_some, S.pure_bind, Int.toNat_natCast]
      congr 1
      rw [Bool.eq_iff_iff, decide_eq_true_eq, decide_eq_true_eq, lab_eq hh]
      omega
def names (E : List Ed) (n : Nat) : List Int := tab n fun x => (mer E x : Int)
theorem names_nil {n : Nat} : nums n = names [] n := rfl
/-- one edge more, all names anew -/
theorem names_snoc {E : List Ed} {e : Ed} {n : Nat} : (names E n).map (fun x => if inI x [(mer E e.1 : Int), (mer E e.2 : Int)] = true then min (mer E e.1 : Int) (mer E e.2 : Int) else x) = names (E ++ [e]) n := by
  unfold names
  rw [map_tab]
  refine tab_congr fun x _ => ?_
  rw [mer_snoc]
  unfold step
  have hin : (inI (mer E x : Int) [(mer E e.1 : Int), (mer E e.2 : Int)]) = decide (mer E x = mer E e.1 ∨ mer E x = mer E e.2) := by
    unfold inI
    rw [Bool.eq_iff_iff]
    simp only [List.contains_iff_mem, List.mem_cons, List.not_mem_nil, or_false, decide_eq_true_eq]
    omega
  rw [hin]
  simp only [decide_eq_true_eq]
  split <;> omega
theorem getE {k l : Nat} {tr : List (Nat × Nat)} {t : Nat} (h : t < tr.length) : getI (tr.map zp) (t : Int) = some (((edge k tr t).1 : Int), ((edge k tr t).2 : Int) - k) := getT (k := k) (l := l) h
/-- what the law's own joining keeps -/
structure Kept (k n : Nat) (tr : List (Nat × Nat)) (q kept : List Nat) : Prop where
  sub : kept.Sublist q
  conn : ∀ x y, Conn (es k tr kept) x y ↔ Conn (es k tr q) x y
  len : kept.length = low (mer (es k tr q)) n
theorem es_snoc {k : Nat} {tr : List (Nat × Nat)} {q : List Nat} {t : Nat} : es k tr (q ++ [t]) = es k tr q ++ [edge k tr t] := by unfold es; rw [List.map_append]; rfl
/-- the law's own pieces -/
theorem own_len {E : List Ed} {n : Nat} {i : Nat} (hi : i < n) (hE : ∀ e ∈ E, e.1 < n ∧ e.2 < n ∧ e.1 ≠ e.2) : decide (1 < (((nums n).filter fun x => decide ((mer E x.toNat : Int) = (i : Int))).length : Int)) = (tou E i && decide (mer E i = i)) := by
  rw [nums_filter]
  have e0 : cnt (fun x : Nat => decide ((mer E (x : Int).toNat : Int) = (i : Int))) n = cnt (fun x => decide (mer E x = i)) n := cnt_congr fun x _ => by
    rw [Int.toNat_natCast]
    exact decide_eq_decide.mpr (by omega)
  rw [e0]
  have hs : ∀ {x y : Nat}, x < n → y < n → x ≠ y → mer E x = i → mer E y = i → 1 < cnt (fun x => decide (mer E x = i)) n := by
    intro x y hx hy hxy h1 h2
    have c1 := cnt_one (p := fun z => decide (mer E z = i) && decide (z ≠ x)) (q := fun z => decide (mer E z = i)) (c := x) (n := n) hx (fun z _ hz => by simp [hz]) (by simp) (by simp [h1])
    have c2 := cnt_one (p := fun z => decide (mer E z = i) && decide (z ≠ x) && decide (z ≠ y)) (q := fun z => decide (mer E z = i) && decide (z ≠ x)) (c := y) (n := n) hy (fun z _ hz => by simp [hz]) (by simp) (by simp [h2]; exact fun q => hxy q.symm)
    omega
  rw [Bool.eq_iff_iff, decide_eq_true_eq, Bool.and_eq_true, decide_eq_true_eq]
  constructor
  · intro h
    -- another lane than i itself
    have : ∃ x, x < n ∧ x ≠ i ∧ mer E x = i := by
      refine Classical.byContradiction fun hn => ?_
      have c1 : cnt (fun x => decide (mer E x = i)) n ≤ cnt (fun x => decide (x = i)) n := by
        have : ∀ m, m ≤ n → cnt (fun x => decide (mer E x = i)) m ≤ cnt (fun x => decide (x = i)) m := by
          intro m
          induction m with
          | zero => intro _; exact Nat.le_refl _
          | succ m ih =>
            intro hm
            have := ih (by omega)
            show cnt _ m + (if decide (mer E m = i) = true then 1 else 0) ≤ cnt _ m + (if decide (m = i) = true then 1 else 0)
            by_cases h1 : mer E m = i
            · have h2 : m = i := Classical.byContradiction fun q => hn ⟨m, by omega, q, h1⟩
              rw [if_pos (decide_eq_true h1), if_pos (decide_eq_true h2)]
              omega
            · rw [if_neg (fun q => h1 (of_decide_eq_true q))]
              omega
        exact this n (Nat.le_refl _)
      have c2 : cnt (fun x => decide (x = i)) n = 1 := by
        rw [cnt_one (p := fun _ => false) (q := fun x => decide (x = i)) (c := i) hi (fun x _ hx => by simp [hx]) rfl (by simp), cnt_zero fun _ _ => rfl]
      omega
    obtain ⟨x, hx, hxi, hm⟩ := this
    have hc : Conn E x i := by
      have := (good_mer E).root x
      rw [hm] at this; exact this
    have hi2 : mer E i = i := by
      have := (good_mer E).idem x
      rw [hm] at this; exact this
    rcases tou_conn hc with z | z
    · exact absurd z hxi
    · exact ⟨z.2, hi2⟩
  · rintro ⟨h1, h2⟩
    obtain ⟨e, he, h3⟩ := tou_iff.mp h1
    obtain ⟨b1, b2, b3⟩ := hE e he
    have hm : mer E e.1 = mer E e.2 := ((good_mer E).conn _ _).mpr (.edge he)
    have : 1 < cnt (fun x => decide (mer E x = i)) n := by
      rcases h3 with h3 | h3
      · exact hs b1 b2 b3 (by rw [h3]; exact h2) (by rw [← hm, h3]; exact h2)
      · exact hs b1 b2 b3 (by rw [hm, h3]; exact h2) (by rw [h3]; exact h2)
    omega
theorem popI_nat {α : Type} {xs : List α} {i : Nat} (h : i < xs.length) (h2 : xs.length ≤ 1000000) : popI xs (i : Int) = some (xs[i], xs.eraseIdx i) := by
  unfold popI
  have : smallI (i : Int) = true := by unfold smallI; simp; omega
  rw [if_pos this, ixN_nat h]
  show (xs[i]?).map _ = _
  rw [List.getElem?_eq_getElem h]; rfl
theorem erase_perm {α : Type} : ∀ {xs : List α} {i : Nat} (h : i < xs.length), (xs[i] :: xs.eraseIdx i).Perm xs
  | x :: xs, 0, _ => List.Perm.refl _
  | x :: xs, i + 1, h => by
    show (xs[i]'(by simpa using h) :: x :: xs.eraseIdx i).Perm (x :: xs)
    exact (List.Perm.swap _ _ _).trans ((erase_perm (xs := xs) (i := i) (by simpa using h)).cons x)
theorem nums_pk {n : Nat} : nums n = pk (List.range n) := rfl
theorem law_turned_sat {n : Nat} (hn : n ≤ 1000) : Sat (P.law_turned n) fun v => ∃ q : List Nat, v = pk q ∧ q.Perm (List.range n) := by
  unfold P.law_turned
  rw [rgB_nat (by omega), S.of_some, S.pure_bind, S.pure_bind, S.pure_bind]
  refine sat_then (fun d t => ∃ f r : List Nat, t = (pk f, pk r) ∧ (f ++ r).Perm (List.range n) ∧ f.length = d.length) ⟨[], List.range n, rfl, List.Perm.refl _, rfl⟩ (fun d x r t e h => ?_) fun t' h => ?_
  · obtain ⟨f, q, rfl, hp, hf⟩ := h
    obtain ⟨rfl, hd⟩ := nums_mid e
    have hl := hp.length_eq
    rw [List.length_append, List.length_range] at hl
    simp only [pk_len]
    refine sat_bind (sat_draw (by omega) (by omega)) fun v hv => ?_
    obtain ⟨j, rfl, hj⟩ := hv
    rw [popI_nat (by rw [pk_len]; exact hj) (by rw [pk_len]; omega), S.of_some, S.pure_bind, lim_ok (by omega), S.pure_bind]
    refine sat_pure ⟨f ++ [q[j]], q.eraseIdx j, ?_, ?_, by rw [List.length_append, List.length_append, hf]; rfl⟩
    · congr 1
      · unfold pk; rw [List.map_append, List.getElem_map]; rfl
      · unfold pk; rw [map_erase]
    · rw [List.append_assoc]
      refine List.Perm.trans (List.Perm.append_left f ?_) hp
      exact erase_perm hj
  · obtain ⟨f, q, rfl, hp, hf⟩ := h
    have hl := hp.length_eq
    rw [List.length_append, List.length_range, hf, len_nums] at hl
    have : q = [] := List.length_eq_zero_iff.mp (by omega)
    subst this
    rw [List.append_nil] at hp
    exact sat_pure ⟨f, rfl, hp⟩
theorem sub_nums {n : Nat} {zs : List Int} (h : zs.Sublist (nums n)) : ∃ p, zs = pk p ∧ POk n p := by
  unfold nums at h
  obtain ⟨p, hp, rfl⟩ := List.sublist_map_iff.mp h
  exact ⟨p, rfl, fun t ht => List.mem_range.mp (hp.subset ht), List.pairwise_lt_range.sublist hp⟩
theorem sortI_perm : ∀ xs : List Int, (sortI xs).Perm xs
  | [] => List.Perm.refl _
  | x :: xs => by
    have ins : ∀ (x : Int) (ys : List Int), (insI x ys).Perm (x :: ys) := by
      intro x ys
      induction ys with
      | nil => exact List.Perm.refl _
      | cons y ys ih =>
        unfold insI
        split
        · exact List.Perm.refl _
        · exact (ih.cons y).trans (List.Perm.swap _ _ _)
    exact (ins x _).trans ((sortI_perm xs).cons x)
theorem sortI_sorted : ∀ xs : List Int, (sortI xs).Pairwise (· ≤ ·)
  | [] => List.Pairwise.nil
  | x :: xs => by
    have ins : ∀ (x : Int) (ys : List Int), ys.Pairwise (· ≤ ·) → (insI x ys).Pairwise (· ≤ ·) := by
      intro x ys
      induction ys with
      | nil => intro _; exact List.pairwise_singleton _ _
      | cons y ys ih =>
        intro h
        obtain ⟨h1, h2⟩ := List.pairwise_cons.mp h
        unfold insI
        split
        · rename_i hxy
          exact List.pairwise_cons.mpr ⟨fun z hz => by
            rcases List.mem_cons.mp hz with rfl | hz
            · exact hxy
            · exact Int.le_trans hxy (h1 z hz), h⟩
        · rename_i hxy
          refine List.pairwise_cons.mpr ⟨fun z hz => ?_, ih h2⟩
          have hm : z = x ∨ z ∈ ys := by
            have : ∀ (ys : List Int), z ∈ insI x ys → z = x ∨ z ∈ ys := by
              intro ys
              induction ys with
              | nil => intro h; exact .inl (by simpa [insI] using h)
              | cons w ys ih =>
                unfold insI
                split
                · intro h; exact (List.mem_cons.mp h)
                · intro h
                  rcases List.mem_cons.mp h with rfl | h
                  · exact .inr List.mem_cons_self
                  · exact (ih h).imp id (List.mem_cons_of_mem _)
            exact this ys hz
          rcases hm with rfl | hm
          · omega
          · exact h1 z hm
    exact ins x _ (sortI_sorted xs)
/-- unlike numbers, sorted, are a pick -/
theorem sort_pk {n : Nat} {q : List Nat} (h : q.Nodup) (hm : ∀ t ∈ q, t < n) : ∃ p, sortI (pk q) = pk p ∧ POk n p ∧ p.Perm q := by
  have hp := sortI_perm (pk q)
  have hs := sortI_sorted (pk q)
  refine ⟨(sortI (pk q)).map Int.toNat, ?_, ⟨?_, ?_⟩, ?_⟩
  · show _ = List.map (fun t : Nat => (t : Int)) _
    rw [List.map_map]
    have : ∀ x ∈ sortI (pk q), ((fun t : Nat => (t : Int)) ∘ Int.toNat) x = x := fun x hx => by
      obtain ⟨t, _, rfl⟩ := List.mem_map.mp (hp.mem_iff.mp hx)
      rfl
    rw [List.map_congr_left this]
    exact (List.map_id' _).symm
  · intro t ht
    obtain ⟨x, hx, rfl⟩ := List.mem_map.mp ht
    obtain ⟨s, hs, rfl⟩ := List.mem_map.mp (hp.mem_iff.mp hx)
    exact hm s hs
  · have hnd : (sortI (pk q)).Nodup := hp.nodup_iff.mpr (List.pairwise_map.mpr (h.imp fun hne q => hne (by omega)))
    rw [List.pairwise_map]
    have := hs.and hnd
    refine List.Pairwise.imp_of_mem (fun {a b} ha hb h => ?_) this
    obtain ⟨s, _, rfl⟩ := List.mem_map.mp (hp.mem_iff.mp ha)
    obtain ⟨t, _, rfl⟩ := List.mem_map.mp (hp.mem_iff.mp hb)
    obtain ⟨h1, h2⟩ := h
    show s < t
    have h1' : (s : Int) ≤ t := h1
    have h2' : (s : Int) ≠ t := h2
    omega
  · have := hp.map Int.toNat
    unfold pk at this
    rw [List.map_map] at this
    have e : (List.map (Int.toNat ∘ fun t : Nat => (t : Int)) q) = q := by
      rw [show (Int.toNat ∘ fun t : Nat => (t : Int)) = id from rfl, List.map_id]
    rw [e] at this
    exact this
theorem getPk {p : List Nat} {i : Nat} (h : i < p.length) : getI (pk p) (i : Int) = some (p[i] : Int) := by
  unfold pk; rw [getI_map, getI_lt h]; rfl
def sm (P : Nat → Bool) (f : Nat → Nat) : Nat → Nat
  | 0 => 0
  | n + 1 => sm P f n + (if P n then f n else 0)
theorem sm_congr {P : Nat → Bool} {f g : Nat → Nat} : ∀ {n : Nat}, (∀ z, z < n → f z = g z) → sm P f n = sm P g n
  | 0, _ => rfl
  | n + 1, h => by
    unfold sm
    rw [sm_congr fun z hz => h z (by omega), h n (by omega)]
theorem sm_add {P : Nat → Bool} {f : Nat → Nat} {c : Nat} : ∀ {n : Nat}, c < n → sm P (fun z => f z + if z = c then 1 else 0) n = sm P f n + if P c then 1 else 0
  | 0, h => by omega
  | n + 1, h => by
    unfold sm
    by_cases hc : c = n
    · subst hc
      rw [sm_congr (g := f) fun z hz => by rw [if_neg (by omega)]; rfl]
      cases h : P c
      · simp
      · simp; omega
    · rw [sm_add (n := n) (by omega)]
      rw [if_neg (fun q : n = c => hc q.symm), Nat.add_zero]
      omega
theorem sm_zero {P : Nat → Bool} : ∀ {n : Nat}, sm P (fun _ => 0) n = 0
  | 0 => rfl
  | n + 1 => by unfold sm; rw [sm_zero]; simp
theorem sm_cnt {P : Nat → Bool} {M : Nat → Nat} {n : Nat} : ∀ {m : Nat}, (∀ x, x < m → M x < n) → sm P (fun z => cnt (fun x => decide (M x = z)) m) n = cnt (fun x => P (M x)) m
  | 0, _ => sm_zero
  | m + 1, h => by
    have ih := sm_cnt (P := P) (M := M) (m := m) fun x hx => h x (by omega)
    have := sm_add (P := P) (f := fun z => cnt (fun x => decide (M x = z)) m) (c := M m) (n := n) (h m (by omega))
    rw [ih] at this
    rw [← show sm P (fun z => cnt (fun x => decide (M x = z)) m + if z = M m then 1 else 0) n = sm P (fun z => cnt (fun x => decide (M x = z)) (m + 1)) n from sm_congr fun z _ => by
      show _ = cnt (fun x => decide (M x = z)) m + (if decide (M m = z) = true then 1 else 0)
      by_cases hz : z = M m
      · simp [hz]
      · rw [if_neg hz, if_neg (fun q => hz (of_decide_eq_true q).symm)]]
    rw [this]; rfl
theorem sum_filter {p : Int → Bool} {g : Int → Int} {f : Nat → Nat} (hg : ∀ i : Nat, g i = f i) : ∀ n, (((nums n).filter p).map g).sum = (sm (fun i => p (i : Int)) f n : Int)
  | 0 => rfl
  | n + 1 => by
    have e : nums (n + 1) = nums n ++ [(n : Int)] := by unfold nums; rw [List.range_succ, List.map_append]; rfl
    rw [e, List.filter_append, List.map_append, List.sum_append, sum_filter hg n]
    show _ = ((sm (fun i => p (i : Int)) f n + (if p (n : Int) then f n else 0) : Nat) : Int)
    cases h : p (n : Int)
    · simp [h]
    · simp [h, hg]
theorem lots_sum {E : List Ed} {n : Nat} : ((lots E n).map fun x => (x.length : Int)).sum - ((lots E n).length : Int) = (low (mer E) n : Int) := by
  unfold lots
  rw [List.map_map, List.length_map, nums_filter]
  have hf : ∀ i : Nat, ((fun x : List Int => (x.length : Int)) ∘ fun z : Int => (nums n).filter fun x => decide ((mer E x.toNat : Int) = z)) (i : Int) = ((cnt (fun x => decide (mer E x = i)) n : Nat) : Int) := fun i => by
    show (((nums n).filter fun x => decide ((mer E x.toNat : Int) = (i : Int))).length : Int) = _
    rw [nums_filter]
    congr 1
    refine cnt_congr fun x _ => ?_
    rw [Int.toNat_natCast]
    exact decide_eq_decide.mpr (by omega)
  rw [sum_filter hf]
  simp only [Int.toNat_natCast]
  rw [sm_cnt fun x hx => Nat.lt_of_le_of_lt ((good_mer E).le x) hx]
  have e1 : cnt (fun x => tou E (mer E x) && decide (mer E (mer E x) = mer E x)) n = cnt (fun x => tou E x) n := cnt_congr fun x _ => by
    rw [(good_mer E).idem, decide_eq_true rfl, Bool.and_true, Bool.eq_iff_iff]
    refine ⟨fun h => ?_, tou_mer⟩
    rcases tou_conn ((good_mer E).root x) with q | q
    · rw [q]; exact h
    · exact q.1
  rw [e1]
  have e2 : ∀ m, cnt (fun x => tou E x) m = cnt (fun i => tou E i && decide (mer E i = i)) m + low (mer E) m := by
    intro m
    induction m with
    | zero => rfl
    | succ m ih =>
      show cnt _ m + (if tou E m = true then 1 else 0) = (cnt _ m + (if (tou E m && decide (mer E m = m)) = true then 1 else 0)) + (cnt _ m + (if decide (mer E m ≠ m) = true then 1 else 0))
      unfold low at ih
      rw [ih]
      cases h : tou E m
      · simp [mer_untou h]
      · by_cases h2 : mer E m = m
        · simp [h2]; omega
        · simp [h2]; omega
  rw [e2 n]
  omega
/-- all edges of a yard -/
def eall (k : Nat) (tr : List (Nat × Nat)) : List Ed := es k tr (List.range tr.length)
theorem pok_range {n : Nat} : POk n (List.range n) := ⟨fun t ht => List.mem_range.mp ht, List.pairwise_lt_range⟩
theorem all_tracks_ok {k l : Nat} {tr : List (Nat × Nat)} (y : YOk k l tr) : P.all_tracks (yd k l tr) = S.pure (pk (List.range tr.length)) := by
  have := y.len
  unfold P.all_tracks
  rw [made_yard_ok y]
  unfold yd
  simp only [S.pure_bind, List.length_map, rgB_nat (show tr.length ≤ 1000000 by omega), S.of_some]
  rfl
theorem worth_ok {k l : Nat} {tr : List (Nat × Nat)} (y : YOk k l tr) : P.worth (yd k l tr) = S.pure (low (mer (eall k tr)) (k + l) : Int) := by
  unfold P.worth
  rw [all_tracks_ok y]
  simp only [S.pure_bind]
  rw [rank_ok y pok_range]; rfl
theorem check_lane_ok {a n : Nat} (h : a < n) : P.check_lane (a : Int) (n : Int) = S.pure () := by
  unfold P.check_lane
  rw [is_whole_eq]
  have h1 : (decide ((0 : Int) ≤ (a : Int)) && decide ((a : Int) ≤ (n : Int) - 1)) = true := by simp; omega
  simp only [h1, S.pure_bind, Bool.not_true, Bool.false_eq_true, if_false]
theorem foldE_any {σ α ρ : Type} (p : α → Bool) (v : ρ) : ∀ xs : List α, S.foldE (σ := σ) (fun (_ : Unit) x => if p x then S.pure (Fl.rt v) else S.pure (Fl.nx ())) () xs = S.pure (if xs.any p then Fl.rt v else Fl.nx ())
  | [] => rfl
  | x :: xs => by
    unfold S.foldE
    cases h : p x with
    | true => rw [if_pos rfl, S.pure_bind, List.any_cons, h]; rfl
    | false => rw [if_neg Bool.false_ne_true, S.pure_bind, List.any_cons, h, Bool.false_or]; exact foldE_any p v xs
theorem in_lot {E : List Ed} {n a : Nat} {z : Int} (h : a < n) : inI (a : Int) ((nums n).filter fun x => decide ((mer E x.toNat : Int) = z)) = decide ((mer E a : Int) = z) := by
  unfold inI
  rw [Bool.eq_iff_iff, List.contains_iff_mem, List.mem_filter, decide_eq_true_eq, decide_eq_true_eq, Int.toNat_natCast, mem_nums]
  exact ⟨fun q => q.2, fun q => ⟨⟨a, h, rfl⟩, q⟩⟩
theorem lots_any {E : List Ed} {n a b : Nat} (ha : a < n) (hb : b < n) (hab : a ≠ b) : ((lots E n).any fun x => inI (a : Int) x && inI (b : Int) x) = decide (mer E a = mer E b) := by
  unfold lots
  rw [List.any_map, Bool.eq_iff_iff, List.any_eq_true, decide_eq_true_eq]
  constructor
  · rintro ⟨z, hz, h⟩
    have h : (inI (a : Int) ((nums n).filter fun x => decide ((mer E x.toNat : Int) = z)) && inI (b : Int) ((nums n).filter fun x => decide ((mer E x.toNat : Int) = z))) = true := h
    rw [in_lot ha, in_lot hb, Bool.and_eq_true, decide_eq_true_eq, decide_eq_true_eq] at h
    omega
  · intro h
    have hc : Conn E a b := ((good_mer E).conn _ _).mp h
    have ht : tou E a = true := by
      rcases tou_conn hc with q | q
      · exact absurd q hab
      · exact q.1
    refine ⟨(mer E a : Int), ?_, ?_⟩
    · rw [List.mem_filter, Bool.and_eq_true, decide_eq_true_eq, Int.toNat_natCast]
      exact ⟨mem_nums.mpr ⟨mer E a, Nat.lt_of_le_of_lt ((good_mer E).le a) ha, rfl⟩, tou_mer ht, (good_mer E).idem a⟩
    · show (inI (a : Int) ((nums n).filter fun x => decide ((mer E x.toNat : Int) = (mer E a : Int))) && inI (b : Int) ((nums n).filter fun x => decide ((mer E x.toNat : Int) = (mer E a : Int)))) = true
      rw [in_lot ha, in_lot hb, h]
      simp
theorem adds_ok {k l : Nat} {tr : List (Nat × Nat)} (y : YOk k l tr) {a b : Nat} (ha : a < k) (hb : b < l) : P.adds (yd k l tr) (a : Int) (b : Int) = S.pure (!decide (mer (eall k tr) a = mer (eall k tr) (k + b))) := by
  unfold P.adds
  rw [made_yard_ok y, S.pure_bind]
  show S.bind (P.check_lane (a : Int) (k : Int)) _ = _
  rw [check_lane_ok ha, S.pure_bind]
  show S.bind (P.check_lane (b : Int) (l : Int)) _ = _
  rw [check_lane_ok hb, S.pure_bind, all_tracks_ok y]
  simp only [S.pure_bind]
  rw [pieces_ok y pok_range, S.pure_bind]
  show S.bind (S.foldE (fun (_ : Unit) (lanes1 : List Int) => if (inI (a : Int) lanes1 && inI ((k : Int) + (b : Int)) lanes1) = true then S.pure (Fl.rt false) else S.pure (Fl.nx ())) () (lots (es k tr (List.range tr.length)) (k + l))) _ = _
  rw [foldE_any, S.pure_bind, show ((k : Int) + (b : Int)) = ((k + b : Nat) : Int) by omega, lots_any (by omega) (by omega) (by omega)]
  show _ = S.pure (!decide (mer (es k tr (List.range tr.length)) a = mer (es k tr (List.range tr.length)) (k + b)))
  cases decide (mer (es k tr (List.range tr.length)) a = mer (es k tr (List.range tr.length)) (k + b)) <;> rfl
/-- pairs, sorted -/
theorem zp_le {p q : Nat × Nat} (h : prLe (zp p) (zp q) = true) (hn : p ≠ q) : lt2 p q := by
  unfold prLe at h
  unfold lt2
  simp at h
  have : ¬ (p.1 = q.1 ∧ p.2 = q.2) := fun z => hn (Prod.ext z.1 z.2)
  omega
theorem sort_tr {tr : List (Nat × Nat)} (h : tr.Nodup) : ∃ tr2 : List (Nat × Nat), sortP (tr.map zp) = tr2.map zp ∧ tr2.Perm tr ∧ tr2.Pairwise lt2 := by
  have hp := sortP_perm (tr.map zp)
  obtain ⟨tr2, h1, h2⟩ := perm_map_inv hp
  refine ⟨tr2, h2, h1, ?_⟩
  have hs := sortP_sorted (tr.map zp)
  rw [h2, List.pairwise_map] at hs
  exact (hs.and (h1.nodup_iff.mpr h)).imp fun h => zp_le h.1 h.2
theorem mem_eall {k : Nat} {tr : List (Nat × Nat)} {e : Ed} : e ∈ eall k tr ↔ ∃ p ∈ tr, e = (p.1, k + p.2) := by
  unfold eall es
  rw [List.mem_map]
  constructor
  · rintro ⟨t, ht, rfl⟩
    have ht := List.mem_range.mp ht
    refine ⟨tr[t], List.getElem_mem ht, ?_⟩
    unfold edge
    rw [List.getD_eq_getElem?_getD, List.getElem?_eq_getElem ht]; rfl
  · rintro ⟨p, hp, rfl⟩
    obtain ⟨t, ht, rfl⟩ := List.getElem_of_mem hp
    refine ⟨t, List.mem_range.mpr ht, ?_⟩
    unfold edge
    rw [List.getD_eq_getElem?_getD, List.getElem?_eq_getElem ht]; rfl
theorem eall_lt {k l : Nat} {tr : List (Nat × Nat)} (y : YOk k l tr) {e : Ed} (h : e ∈ eall k tr) : e.1 < k ∧ k ≤ e.2 ∧ e.2 < k + l := by
  obtain ⟨p, hp, rfl⟩ := mem_eall.mp h
  have := y.mem p hp
  show p.1 < k ∧ k ≤ k + p.2 ∧ k + p.2 < k + l
  omega
theorem inc_ext : ∀ {p q : List Nat}, p.Pairwise (· < ·) → q.Pairwise (· < ·) → (∀ x, x ∈ p ↔ x ∈ q) → p = q
  | [], [], _, _, _ => rfl
  | [], y :: q, _, _, h => by have := (h y).mpr List.mem_cons_self; cases this
  | x :: p, [], _, _, h => by have := (h x).mp List.mem_cons_self; cases this
  | x :: p, y :: q, hp, hq, h => by
    obtain ⟨p1, p2⟩ := List.pairwise_cons.mp hp
    obtain ⟨q1, q2⟩ := List.pairwise_cons.mp hq
    have e : x = y := by
      have h1 := (h x).mp List.mem_cons_self
      have h2 := (h y).mpr List.mem_cons_self
      rcases List.mem_cons.mp h1 with h1 | h1
      · exact h1
      · rcases List.mem_cons.mp h2 with h2 | h2
        · exact h2.symm
        · have := q1 x h1; have := p1 y h2; omega
    subst e
    congr 1
    refine inc_ext p2 q2 fun z => ⟨fun hz => ?_, fun hz => ?_⟩
    · rcases List.mem_cons.mp ((h z).mp (List.mem_cons_of_mem _ hz)) with e | e
      · have := p1 z hz; omega
      · exact e
    · rcases List.mem_cons.mp ((h z).mpr (List.mem_cons_of_mem _ hz)) with e | e
      · have := q1 z hz; omega
      · exact e
theorem nodup_len {n : Nat} {q : List Nat} (h : q.Nodup) (hm : ∀ t ∈ q, t < n) : q.length ≤ n := by
  obtain ⟨p, _, hp, hq⟩ := sort_pk h hm
  rw [← hq.length_eq]; exact hp.le
theorem inI_pk {x : Nat} {L : List Nat} : inI (x : Int) (pk L) = decide (x ∈ L) := by
  unfold inI pk
  rw [Bool.eq_iff_iff, List.contains_iff_mem, decide_eq_true_eq, List.mem_map]
  exact ⟨fun ⟨y, h1, h2⟩ => by
    have : y = x := by omega
    rw [← this]; exact h1, fun h => ⟨x, h, rfl⟩⟩
theorem pk_app {p q : List Nat} : pk p ++ pk q = pk (p ++ q) := by unfold pk; rw [List.map_append]
theorem web_ends_ok {k l : Nat} {tr : List (Nat × Nat)} {t : Nat} (h : t < tr.length) : P.law_web_ends (yd k l tr) (t : Int) = S.pure [((edge k tr t).1 : Int), ((edge k tr t).2 : Int)] := by
  unfold P.law_web_ends yd
  simp only [getT (k := k) (l := l) h, S.of_some, S.pure_bind]
  rw [show (k : Int) + (((edge k tr t).2 : Int) - k) = (edge k tr t).2 by omega]
/-- a lane found beside -/
def addN (F L A : List Nat) (x y : Nat) : List Nat := if decide (x ∈ L) && !decide (y ∈ F ++ A) then A ++ [y] else A
theorem half {σ β : Type} {F L A : List Nat} {x y : Nat} (hb : F.length + A.length ≤ 1000000) (k : List Int → S σ β) :
    (S.bind (S.bind (S.pure (inI (x : Int) (pk L))) fun b => (if b then (S.bind (S.pure (y : Int)) fun x2 => (S.bind (S.of (catI (pk F) (pk A))) fun x3 => S.pure (!inI x2 x3))) else S.pure false)) fun z => S.bind (if z then (S.bind (S.pure (y : Int)) fun v => S.bind (S.lim (List.length (pk A))) fun _ => S.pure (pk A ++ [v])) else S.pure (pk A)) k) = k (pk (addN F L A x y)) := by
  rw [S.pure_bind, inI_pk]
  unfold addN
  by_cases hx : x ∈ L
  · simp only [hx, decide_true, if_true, S.pure_bind, catI_ok (show (pk F).length + (pk A).length ≤ 1000000 by rw [pk_len, pk_len]; exact hb), S.of_some, pk_app, inI_pk, Bool.true_and]
    by_cases hy : y ∈ F ++ A
    · simp only [hy, decide_true, Bool.not_true, Bool.false_eq_true, if_false, S.pure_bind]
    · simp only [hy, decide_false, Bool.not_false, if_true, S.pure_bind, pk_len, lim_ok (show A.length < 16000000 by omega)]
      congr 1
      unfold pk; rw [List.map_append]; rfl
  · simp only [hx, decide_false, Bool.false_eq_true, if_false, S.pure_bind, Bool.false_and]
theorem half' {σ : Type} {F L A : List Nat} {x y : Nat} (hb : F.length + A.length ≤ 1000000) :
    (S.bind (S.bind (S.pure (inI (x : Int) (pk L))) fun b => (if b then (S.bind (S.pure (y : Int)) fun x2 => (S.bind (S.of (catI (pk F) (pk A))) fun x3 => S.pure (!inI x2 x3))) else S.pure false)) fun z => (if z then (S.bind (S.pure (y : Int)) fun v => S.bind (S.lim (List.length (pk A))) fun _ => S.pure (pk A ++ [v])) else S.pure (pk A)) : S σ (List Int)) = S.pure (pk (addN F L A x y)) := by
  have := half (σ := σ) (x := x) (y := y) (L := L) hb S.pure
  simp only [S.bind_pure] at this
  exact this
structure RInv (E : List Ed) (n : Nat) (F L A : List Nat) : Prop where
  nd : (F ++ A).Nodup
  lt : ∀ x ∈ F ++ A, x < n
  cn : ∀ x ∈ A, ∃ u ∈ L, Conn E u x
theorem RInv.len {E : List Ed} {n : Nat} {F L A : List Nat} (h : RInv E n F L A) : F.length + A.length ≤ n := by
  have := nodup_len h.nd h.lt
  rwa [List.length_append] at this
theorem RInv.add {E : List Ed} {n : Nat} {F L A : List Nat} {x y : Nat} (h : RInv E n F L A) (hy : y < n) (hc : Conn E x y) : RInv E n F L (addN F L A x y) ∧ (x ∈ L → y ∈ F ++ addN F L A x y) ∧ ∀ z ∈ F ++ A, z ∈ F ++ addN F L A x y := by
  unfold addN
  by_cases hx : x ∈ L
  · by_cases hz : y ∈ F ++ A
    · rw [if_neg (by simp [hz])]
      exact ⟨h, fun _ => hz, fun z q => q⟩
    · rw [if_pos (by simp [hx, hz])]
      refine ⟨⟨?_, ?_, ?_⟩, fun _ => by simp, fun z q => ?_⟩
      · rw [← List.append_assoc, List.nodup_append]
        refine ⟨h.nd, by simp, fun a ha b hb => ?_⟩
        have : b = y := by simpa using hb
        subst this
        rintro rfl
        exact hz ha
      · intro z q
        rw [← List.append_assoc] at q
        rcases List.mem_append.mp q with q | q
        · exact h.lt z q
        · have : z = y := by simpa using q
          omega
      · intro z q
        rcases List.mem_append.mp q with q | q
        · exact h.cn z q
        · have : z = y := by simpa using q
          subst this
          exact ⟨x, hx, hc⟩
      · rw [← List.append_assoc]; exact List.mem_append_left _ q
  · rw [if_neg (by simp [hx])]
    exact ⟨h, fun q => absurd q hx, fun z q => q⟩
theorem mem_es {k : Nat} {tr : List (Nat × Nat)} {p : List Nat} {e : Ed} : e ∈ es k tr p ↔ ∃ t ∈ p, edge k tr t = e := by unfold es; exact List.mem_map
/-- the lanes of a class -/
def cls (E : List Ed) (n a : Nat) : List Int := (nums n).filter fun x => decide (mer E x.toNat = mer E a)
theorem cls_pk {E : List Ed} {n a : Nat} : cls E n a = pk ((List.range n).filter fun x => decide (mer E x = mer E a)) := by
  unfold cls pk nums
  rw [List.filter_map]
  rfl
theorem web_reached_ok {k l : Nat} {tr : List (Nat × Nat)} (y : YOk k l tr) {p : List Nat} (hp : ∀ t ∈ p, t < tr.length) {a : Nat} (ha : a < k + l) : P.law_web_reached (yd k l tr) (pk p) (a : Int) = S.pure (cls (es k tr p) (k + l) a) := by
  have hk2 := y.k2
  have hl2 := y.l2
  generalize hE : es k tr p = E
  have hy : ((yd k l tr).1 + (yd k l tr).2.1 : Int) = ((k + l : Nat) : Int) := by unfold yd; simp
  unfold P.law_web_reached
  rw [S.pure_bind, S.pure_bind, hy, rgB_nat (by omega), S.of_some, S.pure_bind]
  refine fold_then (fun d t => ∃ F L : List Nat, t = (pk F, pk L) ∧ F.Nodup ∧ a ∈ F ∧ (∀ x ∈ F, x < k + l ∧ Conn E a x) ∧ (∀ x ∈ L, x ∈ F) ∧ (∀ e ∈ E, (e.1 ∈ F → e.1 ∉ L → e.2 ∈ F) ∧ (e.2 ∈ F → e.2 ∉ L → e.1 ∈ F)) ∧ (L = [] ∨ d.length + 1 ≤ F.length))
    ⟨[a], [a], rfl, by simp, by simp, fun x hx => by
      have : x = a := by simpa using hx
      subst this; exact ⟨ha, .refl _⟩, fun x hx => hx, fun e he => ⟨fun h1 h2 => absurd h1 h2, fun h1 h2 => absurd h1 h2⟩, .inr (by simp)⟩ (fun d x r t e h => ?_) fun t h => ?_
  · obtain ⟨F, L, rfl, hnd, haF, hF, hL, hcl, hlen⟩ := h
    have h0 : RInv E (k + l) F L [] := ⟨by rw [List.append_nil]; exact hnd, fun z q => (hF z (by rwa [List.append_nil] at q)).1, fun z q => by cases q⟩
    have inner : ∃ A : List Nat, RInv E (k + l) F L A ∧ (∀ e ∈ E, (e.1 ∈ L → e.2 ∈ F ++ A) ∧ (e.2 ∈ L → e.1 ∈ F ++ A)) ∧ ∀ {β : Type} (K : List Int → S Unit β), S.bind (S.fold (fun (t2 : (List Int)) (t3 : Int) => ((S.bind (S.bind (P.law_web_ends (yd k l tr) t3) fun x1 => S.of (as2 x1)) fun u1 => (S.bind (S.bind (S.pure (inI u1.1 (pk F, pk L).2)) fun x4 => (if x4 then (S.bind (S.pure u1.2) fun x2 => (S.bind (S.of (catI (pk F, pk L).1 t2)) fun x3 => S.pure (!inI x2 x3))) else S.pure false)) fun z2 => S.bind (if z2 then ((S.bind (S.pure u1.2) fun v2 => S.bind (S.lim (List.length t2)) fun _ => S.pure (t2 ++ [v2])) : S Unit (List Int)) else S.pure t2) fun t4 => (S.bind (S.bind (S.pure (inI u1.2 (pk F, pk L).2)) fun x7 => (if x7 then (S.bind (S.pure u1.1) fun x5 => (S.bind (S.of (catI (pk F, pk L).1 t4)) fun x6 => S.pure (!inI x5 x6))) else S.pure false)) fun z1 => (if z1 then (S.bind (S.pure u1.1) fun v3 => S.bind (S.lim (List.length t4)) fun _ => S.pure (t4 ++ [v3])) else S.pure t4)))) : S Unit (List Int))) [] (pk p)) K = K (pk A) := by
      have := fold_inv (σ := Unit) (f := (fun (t2 : (List Int)) (t3 : Int) => ((S.bind (S.bind (P.law_web_ends (yd k l tr) t3) fun x1 => S.of (as2 x1)) fun u1 => (S.bind (S.bind (S.pure (inI u1.1 (pk F, pk L).2)) fun x4 => (if x4 then (S.bind (S.pure u1.2) fun x2 => (S.bind (S.of (catI (pk F, pk L).1 t2)) fun x3 => S.pure (!inI x2 x3))) else S.pure false)) fun z2 => S.bind (if z2 then ((S.bind (S.pure u1.2) fun v2 => S.bind (S.lim (List.length t2)) fun _ => S.pure (t2 ++ [v2])) : S Unit (List Int)) else S.pure t2) fun t4 => (S.bind (S.bind (S.pure (inI u1.2 (pk F, pk L).2)) fun x7 => (if x7 then (S.bind (S.pure u1.1) fun x5 => (S.bind (S.of (catI (pk F, pk L).1 t4)) fun x6 => S.pure (!inI x5 x6))) else S.pure false)) fun z1 => (if z1 then (S.bind (S.pure u1.1) fun v3 => S.bind (S.lim (List.length t4)) fun _ => S.pure (t4 ++ [v3])) else S.pure t4)))) : S Unit (List Int)))) (fun d t => ∃ A : List Nat, t = pk A ∧ RInv E (k + l) F L A ∧ ∀ e ∈ es k tr (p.take d.length), (e.1 ∈ L → e.2 ∈ F ++ A) ∧ (e.2 ∈ L → e.1 ∈ F ++ A)) (xs := pk p) (r := pk p) (d := []) (t := []) rfl ⟨[], rfl, h0, fun e he => by simp [es] at he⟩ fun d x r t e h => ?_
      · obtain ⟨t', h1, A, rfl, h2, h3⟩ := this
        rw [pk_len, List.take_length, hE] at h3
        exact ⟨A, h2, h3, fun K => by rw [h1, S.pure_bind]⟩
      · obtain ⟨A, rfl, hA, hd⟩ := h
        obtain ⟨hlt, rfl, htk⟩ := pk_mid e
        have ht := hp _ (List.getElem_mem hlt)
        obtain ⟨e1, e2, e3⟩ := edge_lt y ht
        generalize hg : edge k tr p[d.length] = g at e1 e2 e3
        have hgE : g ∈ E := by rw [← hE, mem_es]; exact ⟨_, List.getElem_mem hlt, hg⟩
        obtain ⟨a1, a2, a3⟩ := hA.add (y := g.2) (x := g.1) e3 (.edge hgE)
        obtain ⟨b1, b2, b3⟩ := a1.add (y := g.1) (x := g.2) (by omega) (.symm (.edge hgE))
        refine ⟨_, ?_, _, rfl, b1, fun e he => ?_⟩
        · rw [web_ends_ok ht, S.pure_bind, hg]
          show S.bind (S.of (some ((g.1 : Int), (g.2 : Int)))) _ = _
          rw [S.of_some, S.pure_bind]
          dsimp only
          rw [half (by have := hA.len; omega), half' (by have := a1.len; omega)]
        · rw [List.length_append, List.length_singleton, htk] at he
          unfold es at he
          rw [List.map_append, List.mem_append] at he
          rcases he with he | he
          · obtain ⟨c1, c2⟩ := hd e he
            exact ⟨fun q => b3 _ (a3 _ (c1 q)), fun q => b3 _ (a3 _ (c2 q))⟩
          · have : e = g := by rw [← hg]; simpa using he
            subst this
            exact ⟨fun q => b3 _ (a2 q), fun q => b2 q⟩
    obtain ⟨A, hA, hadj, hK⟩ := inner
    refine ⟨(pk (F ++ A), pk A), ?_, F ++ A, A, rfl, hA.nd, List.mem_append_left _ haF, fun x hx => ?_, fun x hx => List.mem_append_right _ hx, fun e he => ?_, ?_⟩
    · rw [S.pure_bind, hK]
      have := hA.len
      show S.bind (S.of (catI (pk F) (pk A))) _ = _
      rw [catI_ok (by rw [pk_len, pk_len]; omega), S.of_some, S.pure_bind, S.pure_bind, pk_app]
    · rcases List.mem_append.mp hx with hx | hx
      · exact hF x hx
      · obtain ⟨u, hu, c⟩ := hA.cn x hx
        exact ⟨hA.lt x (List.mem_append_right _ hx), (hF u (hL u hu)).2.trans c⟩
    · obtain ⟨c1, c2⟩ := hcl e he
      obtain ⟨d1, d2⟩ := hadj e he
      constructor
      · intro h1 h2
        rcases List.mem_append.mp h1 with h1 | h1
        · by_cases q : e.1 ∈ L
          · exact d1 q
          · exact List.mem_append_left _ (c1 h1 q)
        · exact absurd h1 h2
      · intro h1 h2
        rcases List.mem_append.mp h1 with h1 | h1
        · by_cases q : e.2 ∈ L
          · exact d2 q
          · exact List.mem_append_left _ (c2 h1 q)
        · exact absurd h1 h2
    · rw [List.length_append, List.length_append, List.length_singleton]
      rcases hlen with rfl | hlen
      · left
        cases A with
        | nil => rfl
        | cons z A =>
          obtain ⟨u, hu, _⟩ := hA.cn z List.mem_cons_self
          cases hu
      · cases A with
        | nil => exact .inl rfl
        | cons z A => right; rw [List.length_cons]; omega
  · obtain ⟨F, L, rfl, hnd, haF, hF, hL, hcl, hlen⟩ := h
    have hLn : L = [] := by
      rcases hlen with h | h
      · exact h
      · rw [len_nums] at h
        have := nodup_len hnd fun x hx => (hF x hx).1
        omega
    subst hLn
    have closed : ∀ x y, Conn E x y → x ∈ F → y ∈ F := by
      intro x y c
      have : (x ∈ F ↔ y ∈ F) := by
        induction c with
        | refl x => exact Iff.rfl
        | edge h => exact ⟨fun q => (hcl _ h).1 q (by simp), fun q => (hcl _ h).2 q (by simp)⟩
        | symm _ ih => exact ih.symm
        | trans _ _ ih1 ih2 => exact ih1.trans ih2
      exact this.mp
    obtain ⟨q, hq, hok, hperm⟩ := sort_pk hnd fun x hx => (hF x hx).1
    show S.pure (sortI (pk F)) = _
    rw [hq, cls_pk]
    congr 2
    refine inc_ext hok.inc (List.pairwise_lt_range.filter _) fun x => ?_
    rw [hperm.mem_iff, List.mem_filter, List.mem_range, decide_eq_true_eq]
    constructor
    · intro hx
      exact ⟨(hF x hx).1, ((good_mer E).conn _ _).mpr (.symm (hF x hx).2)⟩
    · rintro ⟨hx, hm⟩
      exact closed a x (.symm (((good_mer E).conn _ _).mp hm)) haF
theorem cls_in {E : List Ed} {n a b : Nat} (hb : b < n) : inI (b : Int) (cls E n a) = decide (mer E b = mer E a) := by
  rw [cls_pk, inI_pk]
  congr 1
  rw [List.mem_filter, List.mem_range, decide_eq_true_eq, eq_iff_iff]
  exact ⟨fun q => q.2, fun q => ⟨hb, q⟩⟩
theorem nums_take_succ {n m : Nat} (h : m < n) : (nums n).take (m + 1) = (nums n).take m ++ [(m : Int)] := by
  unfold nums
  rw [← List.map_take, ← List.map_take, List.take_range, List.take_range, Nat.min_eq_left (by omega), Nat.min_eq_left (by omega), List.range_succ, List.map_append]
  rfl
/-- the pieces that the lanes below m begin -/
def lotsTo (E : List Ed) (n m : Nat) : List (List Int) := ((nums m).filter fun x => tou E x.toNat && decide (mer E x.toNat = x.toNat)).map fun z => cls E n z.toNat
theorem lotsTo_succ {E : List Ed} {n m : Nat} : lotsTo E n (m + 1) = lotsTo E n m ++ if tou E m && decide (mer E m = m) then [cls E n m] else [] := by
  have : nums (m + 1) = nums m ++ [(m : Int)] := by unfold nums; rw [List.range_succ, List.map_append]; rfl
  unfold lotsTo
  rw [this, List.filter_append, List.map_append]
  congr 1
  by_cases h : (tou E m && decide (mer E m = m)) = true
  · rw [if_pos h, List.filter_cons_of_pos (by simpa using h)]; rfl
  · rw [if_neg h, List.filter_cons_of_neg (by simpa using h)]; rfl
theorem lotsTo_all {E : List Ed} {n : Nat} : lotsTo E n n = lots E n := by
  unfold lotsTo lots
  refine List.map_congr_left fun z hz => ?_
  obtain ⟨hz, h⟩ := List.mem_filter.mp hz
  obtain ⟨i, hi, rfl⟩ := mem_nums.mp hz
  simp only [Int.toNat_natCast, Bool.and_eq_true, decide_eq_true_eq] at h
  unfold cls
  congr 1
  funext x
  rw [Int.toNat_natCast, h.2]
  congr 1
  rw [eq_iff_iff]
  omega
theorem lotsTo_len {E : List Ed} {n m : Nat} : (lotsTo E n m).length ≤ m := by
  unfold lotsTo
  rw [List.length_map]
  exact Nat.le_trans (List.length_filter_le _ _) (Nat.le_of_eq len_nums)
/-- no piece so far has the lane: it begins one, if it is touched -/
theorem lotsTo_none {E : List Ed} {n m : Nat} (hm : m < n) (ht : tou E m = true) : (((lotsTo E n m).filter fun lot => inI (m : Int) lot) = []) ↔ mer E m = m := by
  rw [List.filter_eq_nil_iff]
  constructor
  · intro h
    have hle := (good_mer E).le m
    by_cases q : mer E m = m
    · exact q
    · exfalso
      refine h (cls E n (mer E m)) ?_ ?_
      · unfold lotsTo
        rw [List.mem_map]
        refine ⟨((mer E m : Nat) : Int), ?_, by rw [Int.toNat_natCast]⟩
        rw [List.mem_filter, mem_nums]
        exact ⟨⟨_, by omega, rfl⟩, by simp only [Int.toNat_natCast, tou_mer ht, Bool.true_and, decide_eq_true_eq]; exact (good_mer E).idem m⟩
      · rw [cls_in hm, (good_mer E).idem]; simp
  · intro h lot hlot
    unfold lotsTo at hlot
    obtain ⟨z, hz, rfl⟩ := List.mem_map.mp hlot
    obtain ⟨hz, h2⟩ := List.mem_filter.mp hz
    obtain ⟨i, hi, rfl⟩ := mem_nums.mp hz
    simp only [Int.toNat_natCast, Bool.and_eq_true, decide_eq_true_eq] at h2 ⊢
    rw [cls_in hm, h, h2.2]
    simp; omega
theorem web_pieces_ok {k l : Nat} {tr : List (Nat × Nat)} (y : YOk k l tr) {p : List Nat} (hp : ∀ t ∈ p, t < tr.length) (hpl : p.length ≤ 1000) : P.law_web_pieces (yd k l tr) (pk p) = S.pure (lots (es k tr p) (k + l)) := by
  have hk2 := y.k2
  have hl2 := y.l2
  generalize hE : es k tr p = E
  have hy : ((yd k l tr).1 + (yd k l tr).2.1 : Int) = ((k + l : Nat) : Int) := by unfold yd; simp
  unfold P.law_web_pieces
  rw [S.pure_bind, hy, rgB_nat (by omega), S.of_some, S.pure_bind]
  refine fold_then (fun d t => t = lotsTo E (k + l) d.length) rfl (fun d x r t e h => ?_) fun t h => ?_
  · subst h
    obtain ⟨rfl, hd⟩ := nums_mid e
    have hc : S.comp (σ := Unit) (fun (t2 : Int) => (S.bind (P.law_web_ends (yd k l tr) t2) fun x2 => S.pure (inI (d.length : Int) x2))) (fun (t2 : Int) => (S.pure t2)) (pk p) = S.pure (((pk p).filter fun x => decide (d.length = (edge k tr x.toNat).1) || decide (d.length = (edge k tr x.toNat).2)).map fun x => x) := by
      refine comp_eq _ _ (fun x hx => ?_) fun x _ _ => rfl
      obtain ⟨t, ht, rfl⟩ := List.mem_map.mp hx
      rw [web_ends_ok (hp t ht), S.pure_bind]
      congr 1
      rw [Int.toNat_natCast]
      unfold inI
      rw [Bool.eq_iff_iff, List.contains_iff_mem]
      simp
      omega
    have hne : (((pk p).filter fun x => decide (d.length = (edge k tr x.toNat).1) || decide (d.length = (edge k tr x.toNat).2)).map fun x => x) = [] ↔ tou E d.length = false := by
      rw [List.map_id', List.filter_eq_nil_iff, ← hE, Bool.eq_false_iff, Ne, tou_iff]
      constructor
      · rintro h ⟨e, he, hx⟩
        obtain ⟨t, ht, rfl⟩ := mem_es.mp he
        refine h (t : Int) (List.mem_map.mpr ⟨t, ht, rfl⟩) ?_
        rw [Int.toNat_natCast]
        rcases hx with hx | hx <;> simp [hx]
      · rintro h x hx q
        obtain ⟨t, ht, rfl⟩ := List.mem_map.mp hx
        rw [Int.toNat_natCast] at q
        refine h ⟨edge k tr t, mem_es.mpr ⟨t, ht, rfl⟩, ?_⟩
        simp only [Bool.or_eq_true, decide_eq_true_eq] at q
        exact q.imp Eq.symm Eq.symm
    simp only [S.pure_bind, pk_len, lim_ok (show p.length < 16000000 by omega)]
    rw [hc]
    simp only [S.calm_pure, S.pure_bind, lim_ok (show (lotsTo E (k + l) d.length).length < 16000000 by have := lotsTo_len (E := E) (n := k + l) (m := d.length); omega), S.pure_bind, List.map_id']
    rw [List.map_id'] at hne
    refine ⟨lotsTo E (k + l) (d.length + 1), ?_, by rw [List.length_append]; rfl⟩
    rw [lotsTo_succ]
    by_cases ht : tou E d.length = true
    · have h1 : ¬ ((pk p).filter fun x => decide (d.length = (edge k tr x.toNat).1) || decide (d.length = (edge k tr x.toNat).2)) = [] := fun q => by rw [hne] at q; rw [ht] at q; cases q
      rw [show decide (((pk p).filter fun x => decide (d.length = (edge k tr x.toNat).1) || decide (d.length = (edge k tr x.toNat).2)) = []) = false from decide_eq_false h1]
      simp only [Bool.not_false, if_true, S.pure_bind, ht, Bool.true_and]
      have h2 := lotsTo_none (E := E) (n := k + l) hd ht
      by_cases hm : mer E d.length = d.length
      · rw [decide_eq_true (h2.mpr hm), if_pos rfl, web_reached_ok y hp hd, hE]
        simp only [S.pure_bind, hm, decide_true, if_true]
      · rw [decide_eq_false (fun q => hm (h2.mp q)), if_neg Bool.false_ne_true]
        simp [hm]
    · have ht : tou E d.length = false := by simpa using ht
      rw [decide_eq_true (hne.mpr ht)]
      simp [ht]
  · subst h
    rw [len_nums, lotsTo_all]
theorem web_rank_ok {k l : Nat} {tr : List (Nat × Nat)} (y : YOk k l tr) {p : List Nat} (hp : ∀ t ∈ p, t < tr.length) (hpl : p.length ≤ 1000) : P.law_web_rank (yd k l tr) (pk p) = S.pure (low (mer (es k tr p)) (k + l) : Int) := by
  have hk2 := y.k2
  have hl2 := y.l2
  unfold P.law_web_rank
  rw [web_pieces_ok y hp hpl]
  have hl : (lots (es k tr p) (k + l)).length < 16000000 := by
    have := lotsTo_len (E := es k tr p) (n := k + l) (m := k + l)
    rw [lotsTo_all] at this
    omega
  simp only [S.pure_bind, lim_ok hl]
  rw [lots_sum]
theorem divI_n {a b : Nat} (h : 0 < b) (h2 : b < 1000000) : divI (a : Int) (b : Int) = some ((a / b : Nat) : Int) := by
  unfold divI
  rw [if_pos (by simp; omega)]; rfl
theorem modI_n {a b : Nat} (h : 0 < b) : modI (a : Int) (b : Int) = some ((a % b : Nat) : Int) := by
  unfold modI
  rw [if_pos (by omega)]; rfl
theorem mulI_n {a b : Nat} (h : a ≤ 1000000) : mulI (a : Int) (b : Int) = some ((a * b : Nat) : Int) := by
  unfold mulI
  rw [if_pos (by unfold mulOk; simp; omega)]
  congr 1
theorem web_yard_sat {m mo : Nat} (h1 : 1 ≤ m) (h2 : m ≤ 12) (h3 : mo ≤ 60) : Sat (P.law_web_yard (m : Int) (mo : Int)) fun v => ∃ k l tr, v = yd k l tr ∧ YOk k l tr ∧ tr.length ≤ mo := by
  unfold P.law_web_yard
  simp only [S.bind_assoc, S.pure_bind]
  refine sat_bind (sat_draw (by omega) (by omega)) fun v hv => ?_
  obtain ⟨k', rfl, hk⟩ := hv
  refine sat_bind (sat_draw (by omega) (by omega)) fun v hv => ?_
  obtain ⟨l', rfl, hl⟩ := hv
  rw [show (1 : Int) + (k' : Int) = ((1 + k' : Nat) : Int) by omega, show (1 : Int) + (l' : Int) = ((1 + l' : Nat) : Int) by omega]
  generalize hk2 : 1 + k' = k
  generalize hl2 : 1 + l' = l
  have hkl : k * l ≤ 12 * 12 := Nat.mul_le_mul (by omega) (by omega)
  have hc : S.comp (σ := Pool) (fun (at1 : Int) => (S.pure true)) (fun (at1 : Int) => (S.bind (S.of (divI at1 (l : Int))) fun x6 => (S.bind (S.of (modI at1 (l : Int))) fun x7 => S.pure (x6, x7)))) (nums (k * l)) = S.pure ((nums (k * l)).map fun x => zp (x.toNat / l, x.toNat % l)) := by
    have := comp_eq (σ := Pool) (c := fun (at1 : Int) => (S.pure true)) (f := (fun (at1 : Int) => (S.bind (S.of (divI at1 (l : Int))) fun x6 => (S.bind (S.of (modI at1 (l : Int))) fun x7 => S.pure (x6, x7))))) (fun _ => true) (fun x => zp (x.toNat / l, x.toNat % l)) (xs := nums (k * l)) (fun x _ => rfl) fun x hx _ => ?_
    · rw [this, List.filter_eq_self.mpr fun _ _ => rfl]
    · obtain ⟨i, hi, rfl⟩ := mem_nums.mp hx
      rw [divI_n (by omega) (by omega), modI_n (by omega), S.of_some, S.of_some, S.pure_bind, S.pure_bind]
      rfl
  rw [mulI_n (by omega), S.of_some, S.pure_bind, rgB_nat (by omega), S.of_some, S.pure_bind, len_nums, lim_ok (by omega), S.pure_bind, hc, S.calm_pure, S.pure_bind]
  have hpl : ((nums (k * l)).map fun x => zp (x.toNat / l, x.toNat % l)).length = k * l := by rw [List.length_map, len_nums]
  rw [hpl, show min (mo : Int) ((k * l : Nat) : Int) = ((min mo (k * l) : Nat) : Int) by omega]
  refine sat_bind (sat_draw (m := 3) (by omega) (by omega)) fun v _ => ?_
  refine sat_bind (Q := fun v : Int => ∃ n : Nat, v = (n : Int) ∧ n ≤ min mo (k * l)) (sat_ite (fun _ => sat_pure ⟨_, rfl, Nat.le_refl _⟩) fun _ => ?_) fun v hv => ?_
  · rw [show ((min mo (k * l) : Nat) : Int) + 1 = ((min mo (k * l) + 1 : Nat) : Int) by omega]
    refine sat_mono (sat_draw (by omega) (by omega)) fun v hv => ?_
    obtain ⟨n, rfl, hn⟩ := hv
    exact ⟨n, rfl, by omega⟩
  · obtain ⟨n, rfl, hn⟩ := hv
    refine sat_bind (law_turned_sat (by omega)) fun v hv => ?_
    obtain ⟨q, rfl, hq⟩ := hv
    have hnd : (q.take n).Nodup := (hq.nodup_iff.mpr List.nodup_range).sublist (List.take_sublist _ _)
    have hlt : ∀ t ∈ q.take n, t < k * l := fun t ht => List.mem_range.mp (hq.mem_iff.mp (List.mem_of_mem_take ht))
    obtain ⟨p, hp1, hp2, hp3⟩ := sort_pk hnd hlt
    have hcut : cutI (pk q) none (some (n : Int)) = pk (q.take n) := by rw [cut_to]; unfold pk; rw [List.map_take]
    have hpl2 : p.length ≤ n := by rw [hp3.length_eq, List.length_take]; omega
    have hc2 : S.comp (σ := Pool) (fun (at2 : Int) => (S.pure true)) (fun (at2 : Int) => (S.of (getI ((nums (k * l)).map fun x => zp (x.toNat / l, x.toNat % l)) at2))) (pk p) = S.pure ((p.map fun i => (i / l, i % l)).map zp) := by
      have := comp_eq (σ := Pool) (c := fun (at1 : Int) => (S.pure true)) (f := (fun (at2 : Int) => (S.of (getI ((nums (k * l)).map fun x => zp (x.toNat / l, x.toNat % l)) at2)))) (fun _ => true) (fun x => zp (x.toNat / l, x.toNat % l)) (xs := pk p) (fun x _ => rfl) fun x hx _ => ?_
      · rw [this, List.filter_eq_self.mpr fun _ _ => rfl]
        unfold pk
        rw [List.map_map, List.map_map]; rfl
      · obtain ⟨i, hi, rfl⟩ := List.mem_map.mp hx
        rw [getI_map, nums_tab, getI_tab (hp2.mem i hi)]
        rfl
    rw [hcut, hp1, pk_len, lim_ok (by omega), S.pure_bind, hc2, S.calm_pure, S.pure_bind]
    have hl0 : 0 < l := by omega
    refine sat_pure ⟨k, l, p.map fun i => (i / l, i % l), rfl, ⟨by omega, by omega, by omega, by omega, by rw [List.length_map]; omega, fun e he => ?_, ?_⟩, by rw [List.length_map]; omega⟩
    · obtain ⟨i, hi, rfl⟩ := List.mem_map.mp he
      exact ⟨Nat.div_lt_of_lt_mul (by rw [Nat.mul_comm]; exact hp2.mem i hi), Nat.mod_lt _ hl0⟩
    · rw [List.pairwise_map]
      refine hp2.inc.imp fun {i j} h => ?_
      have h1 : i / l ≤ j / l := Nat.div_le_div_right (by omega)
      have e1 := Nat.div_add_mod i l
      have e2 := Nat.div_add_mod j l
      rcases Nat.lt_or_ge (i / l) (j / l) with q | q
      · exact .inl q
      · have : i / l = j / l := by omega
        refine .inr ⟨this, ?_⟩
        show i % l < j % l
        rw [this] at e1
        omega
theorem cut_from {α : Type} {xs : List α} {n : Nat} (h : n ≤ xs.length) : cutI xs (some (n : Int)) none = xs.drop n := by
  unfold cutI
  have h1 : HT.sIx xs.length 0 (some (n : Int)) = n := by unfold HT.sIx; simp; rw [if_neg (by omega)]; omega
  have h2 : HT.sIx xs.length xs.length none = xs.length := rfl
  rw [h1, h2, List.take_of_length_le (by rw [List.length_drop]; exact Nat.le_refl _)]
theorem whole_int {i lo hi : Int} : P.is_whole__A_i_i (.int i) lo hi = S.pure (decide (lo ≤ i) && decide (i ≤ hi)) := by
  unfold P.is_whole__A_i_i
  show S.bind (S.pure (decide (lo ≤ i))) (fun z1 => (if z1 then (S.bind (S.pure hi) fun x4 => S.pure (decide (i ≤ x4))) else S.pure false)) = _
  rw [S.pure_bind]
  cases decide (lo ≤ i) <;> rfl
theorem whole_bl {b : Bool} {lo hi : Int} : P.is_whole__A_i_i (.bl b) lo hi = S.pure false := by unfold P.is_whole__A_i_i; rfl
theorem whole_non {lo hi : Int} : P.is_whole__A_i_i .non lo hi = S.pure false := by unfold P.is_whole__A_i_i; rfl
theorem whole_str {x : PySem.Str} {lo hi : Int} : P.is_whole__A_i_i (.str x) lo hi = S.pure false := by unfold P.is_whole__A_i_i; rfl
theorem sat_all {σ α β : Type} {f : α → S σ β} {P : β → Prop} : ∀ {xs : List α}, (∀ x ∈ xs, Sat (f x) P) → Sat (S.comp (fun _ => S.pure true) f xs) fun ys => (∀ y ∈ ys, P y) ∧ ys.length ≤ xs.length
  | [], _ => sat_pure ⟨(fun y hy => nomatch hy), Nat.le_refl _⟩
  | x :: xs, h => by
    unfold S.comp
    rw [S.pure_bind]
    simp only [if_true]
    refine sat_bind (h x List.mem_cons_self) fun v hv => sat_bind (sat_all fun z hz => h z (List.mem_cons_of_mem _ hz)) fun vs hvs => sat_pure ⟨fun y hy => ?_, by rw [List.length_cons, List.length_cons]; have := hvs.2; omega⟩
    rcases List.mem_cons.mp hy with rfl | hy
    · exact hv
    · exact hvs.1 y hy
theorem whole_true (x : Int) : P.law_is_whole x = S.pure true := by unfold P.law_is_whole; rfl
/-- told beside the same, they are alike -/
theorem ne_same {w : PySem.Str} {far : D} (hw : PySem.PyData.strOk w = true) (hs : shD 11 (eA far) = true) (he : eqD (eA far) (eA far) = true) : neA (.tup [.str w, eA far]) (e2 eS eA (w, far)) = some false := by
  have e1 : eA (.tup [.str w, eA far]) = .tup [.str w, eA far] := rfl
  have e2' : eA (e2 eS eA (w, far)) = .tup [.str w, eA far] := rfl
  unfold neA
  rw [e1, e2']
  have h : shD 12 (.tup [.str w, eA far]) = true := by
    show ([D.str w, eA far].all (shD 11)) = true
    rw [List.all_cons, List.all_cons, hs]
    show (PySem.PyData.strOk w && (true && true)) = true
    rw [hw]; rfl
  rw [h]
  show some (!(eqD (.str w) (.str w) && (eqD (eA far) (eA far) && true))) = some false
  rw [he]
  show some (!((w == w) && (true && true))) = some false
  rw [beq_self_eq_true]; rfl
/-- a number, a truth value, a text, None that is no number below n -/
structure FarN (n : Nat) (far : D) : Prop where
  w : P.is_whole__A_i_i far 0 ((n : Int) - 1) = S.pure false
  s : shD 11 (eA far) = true
  e : eqD (eA far) (eA far) = true
theorem farN_int {n : Nat} {i : Int} (h : i < 0 ∨ (n : Int) ≤ i) : FarN n (.int i) := ⟨by
  rw [whole_int]; congr 1; simp; omega, rfl, by show (i == i) = true; simp⟩
theorem farN_bl {n : Nat} {b : Bool} : FarN n (.bl b) := ⟨whole_bl, rfl, by cases b <;> rfl⟩
theorem farN_non {n : Nat} : FarN n .non := ⟨whole_non, rfl, rfl⟩
theorem farN_0 {n : Nat} : FarN n (.str (PySem.Str.ofString "0")) := ⟨whole_str, by decide +kernel, by decide +kernel⟩
end P

set_option Elab.async false
set_option linter.all false
set_option maxRecDepth 100000
set_option maxHeartbeats 4000000
/-! K31m: the plain law of k31. -/
namespace P
open Tw Tx G
theorem pair_right_ok {k l : Nat} {tr : List (Nat × Nat)} (y : YOk k l tr) (hl : tr.length < 60) {a b : Nat} (ha : a < k) (hb : b < l) :
    P.law_pair_right (yd k l tr) (a : Int) (b : Int) (low (mer (eall k tr)) (k + l) : Int) = S.pure true := by
  have han : a < k + l := by omega
  have hbn : k + b < k + l := by omega
  have hle : ((yd k l tr).2.2).length = tr.length := List.length_map _
  have hw : P.law_web_reached (yd k l tr) (nums tr.length) (a : Int) = S.pure (cls (eall k tr) (k + l) a) := web_reached_ok y (fun t ht => List.mem_range.mp ht) han
  unfold P.law_pair_right
  rw [S.pure_bind, hle, rgB_nat (by omega), S.of_some, S.pure_bind]
  simp only [S.pure_bind, hw]
  rw [show (yd k l tr).1 + (b : Int) = ((k + b : Nat) : Int) by unfold yd; simp, cls_in hbn, adds_ok y ha hb, S.pure_bind]
  have hsym : decide (mer (eall k tr) (k + b) = mer (eall k tr) a) = decide (mer (eall k tr) a = mer (eall k tr) (k + b)) := decide_eq_decide.mpr eq_comm
  rw [hsym]
  have d2 : ∀ z : Bool, ((!true) || (!decide (z = z))) = false := by intro z; simp
  rw [d2, if_neg Bool.false_ne_true]
  have hmem : ((a : Int), (b : Int)) ∈ (yd k l tr).2.2 ↔ (a, b) ∈ tr := by
    show ((a : Int), (b : Int)) ∈ tr.map zp ↔ _
    rw [List.mem_map]
    constructor
    · rintro ⟨p, hp, h⟩
      have h1 : (p.1 : Int) = a := congrArg Prod.fst h
      have h2 : (p.2 : Int) = b := congrArg Prod.snd h
      have : p = (a, b) := by
        obtain ⟨p1, p2⟩ := p
        congr 1 <;> omega
      rw [← this]; exact hp
    · intro h; exact ⟨(a, b), h, rfl⟩
  have hG : inG ((a : Int), (b : Int)) (yd k l tr).2.2 = decide ((a, b) ∈ tr) := by unfold inG; exact decide_eq_decide.mpr hmem
  rw [hG]
  by_cases hn : (a, b) ∈ tr
  · rw [decide_eq_true hn, if_pos rfl]
  · rw [decide_eq_false hn, if_neg Bool.false_ne_true]
    have hnd : (tr ++ [(a, b)]).Nodup := by
      rw [List.nodup_append]
      refine ⟨y.inc.imp fun {p q} h => ?_, by simp, fun p hp q hq => ?_⟩
      · rintro rfl
        unfold lt2 at h
        omega
      · have : q = (a, b) := by simpa using hq
        rintro rfl
        exact hn (this ▸ hp)
    obtain ⟨tr2, s1, s2, s3⟩ := sort_tr hnd
    have y2 : YOk k l tr2 := ⟨y.k1, y.k2, y.l1, y.l2, by rw [s2.length_eq, List.length_append, List.length_singleton]; omega, fun p hp => by
      rcases List.mem_append.mp (s2.mem_iff.mp hp) with hp | hp
      · exact y.mem p hp
      · have : p = (a, b) := by simpa using hp
        rw [this]; exact ⟨ha, hb⟩, s3⟩
    have hmer : mer (eall k tr2) = mer (eall k tr ++ [(a, k + b)]) := mer_mem fun e => by
      rw [mem_eall, List.mem_append, mem_eall]
      constructor
      · rintro ⟨p, hp, rfl⟩
        rcases List.mem_append.mp (s2.mem_iff.mp hp) with hp | hp
        · exact .inl ⟨p, hp, rfl⟩
        · have : p = (a, b) := by simpa using hp
          exact .inr (by rw [this]; exact List.mem_singleton.mpr rfl)
      · rintro (⟨p, hp, rfl⟩ | h)
        · exact ⟨p, s2.mem_iff.mpr (List.mem_append_left _ hp), rfl⟩
        · have : e = (a, k + b) := by simpa using h
          exact ⟨(a, b), s2.mem_iff.mpr (List.mem_append_right _ (List.mem_singleton.mpr rfl)), this⟩
    have hcat2 : catI (yd k l tr).2.2 [((a : Int), (b : Int))] = some ((tr ++ [(a, b)]).map zp) := by
      show catI (tr.map zp) [((a : Int), (b : Int))] = _
      rw [catI_ok (by rw [List.length_map]; simp; omega), List.map_append]; rfl
    have hwo : P.worth ((yd k l tr).1, (yd k l tr).2.1, tr2.map zp) = S.pure (low (mer (eall k tr2)) (k + l) : Int) := worth_ok y2
    simp only [hcat2, S.of_some, S.pure_bind, s1, hwo]
    congr 1
    rw [hmer]
    by_cases h : mer (eall k tr) a = mer (eall k tr) (k + b)
    · rw [mer_skip h]; simp [h]
    · rw [mer_snoc, low_step (good_mer _) han hbn h]; simp [h]
/-- the yard of twelve by twelve, five lanes in full -/
def trF : List (Nat × Nat) := (List.range 60).map fun i => (i / 12, i % 12)
theorem yF : YOk 12 12 trF := ⟨by omega, by omega, by omega, by omega, by decide, by decide, by unfold lt2; decide⟩
theorem merF_row {x : Nat} (h : x < 5 ∨ (12 ≤ x ∧ x < 24)) : mer (eall 12 trF) x = 0 := by
  have edge : ∀ a b, a < 5 → b < 12 → Conn (eall 12 trF) a (12 + b) := fun a b ha hb => .edge (mem_eall.mpr ⟨(a, b), by
    unfold trF
    rw [List.mem_map]
    exact ⟨12 * a + b, List.mem_range.mpr (by omega), by
      congr 1 <;> omega⟩, rfl⟩)
  have c : Conn (eall 12 trF) x 0 := by
    rcases h with h | ⟨h1, h2⟩
    · exact (edge x 0 h (by omega)).trans (.symm (edge 0 0 (by omega) (by omega)))
    · have := edge 0 (x - 12) (by omega) (by omega)
      rw [show 12 + (x - 12) = x by omega] at this
      exact .symm this
  have := ((good_mer (eall 12 trF)).conn _ _).mpr c
  rw [this]
  have := (good_mer (eall 12 trF)).le 0
  omega
theorem merF_alone {x : Nat} (h1 : 5 ≤ x) (h2 : x < 12) : mer (eall 12 trF) x = x := mer_untou (by
  rw [Bool.eq_false_iff, Ne, tou_iff]
  rintro ⟨e, he, q⟩
  obtain ⟨p, hp, rfl⟩ := mem_eall.mp he
  unfold trF at hp
  obtain ⟨i, hi, rfl⟩ := List.mem_map.mp hp
  have := List.mem_range.mp hi
  dsimp only at q
  omega)
theorem heard_lane {k l : Nat} {tr : List (Nat × Nat)} (y : YOk k l tr) {a b far : D} (h : P.check_lane__A_i a (k : Int) = S.raise c_BadLane (eA far) ∨ (P.check_lane__A_i a (k : Int) = S.pure () ∧ P.check_lane__A_i b (l : Int) = S.raise c_BadLane (eA far))) :
    P.law_heard__y_A_A (yd k l tr) a b = S.pure (.tup [.str (PySem.Str.ofString "lane"), eA far]) := by
  have hr : P.adds__y_A_A (yd k l tr) a b = S.raise c_BadLane (eA far) := by
    unfold P.adds__y_A_A
    rw [made_yard_ok y, S.pure_bind]
    show S.bind (P.check_lane__A_i a (k : Int)) (fun _ => S.bind (P.check_lane__A_i b (l : Int)) _) = _
    rcases h with h | ⟨h1, h2⟩
    · rw [h]; rfl
    · rw [h1, S.pure_bind, h2]; rfl
  unfold P.law_heard__y_A_A
  rw [hr]
  rfl
theorem lane_far {n : Nat} {far : D} (h : FarN n far) : P.check_lane__A_i far (n : Int) = S.raise c_BadLane (eA far) := by
  unfold P.check_lane__A_i
  rw [h.w]; rfl
theorem lane_in {n a : Nat} (h : a < n) : P.check_lane__A_i (.int (a : Int)) (n : Int) = S.pure () := by
  unfold P.check_lane__A_i
  rw [whole_int]
  have : (decide ((0 : Int) ≤ (a : Int)) && decide ((a : Int) ≤ (n : Int) - 1)) = true := by simp; omega
  rw [this]; rfl
theorem heard_yard0 {k : Nat} (h1 : 1 ≤ k) (h2 : k ≤ 12) {ts : List (Int × Int)} {a b : D} : P.law_heard__y_A_A ((k : Int), (0 : Int), ts) a b = S.pure (.tup [.str (PySem.Str.ofString "yard"), .int (-3)]) := by
  have hr : P.adds__y_A_A ((k : Int), (0 : Int), ts) a b = S.raise c_BadYard (.int (-3)) := by
    unfold P.adds__y_A_A
    have : P.made_yard ((k : Int), (0 : Int), ts) = S.raise c_BadYard (.int (-3)) := by
      unfold P.made_yard
      have : P.first_wrong ((k : Int), (0 : Int), ts) = S.pure (some (-3)) := by
        unfold P.first_wrong
        simp only [is_whole_eq, S.pure_bind]
        have hk : (decide ((1 : Int) ≤ (k : Int)) && decide ((k : Int) ≤ 12)) = true := by simp; omega
        simp only [hk]
        rfl
      rw [this]; rfl
    rw [this]; rfl
  unfold P.law_heard__y_A_A
  rw [hr]
  rfl
theorem eq_yard : eqA (.tup [.str (PySem.Str.ofString "yard"), .int (-3)]) (e2 eS eI (PySem.Str.ofString "yard", (-(3 : Int)))) = some true := by decide +kernel
theorem refused_right_sat {k l : Nat} {tr : List (Nat × Nat)} (y : YOk k l tr) : Sat (P.law_refused_right (yd k l tr)) fun v => v = true := by
  have hk1 := y.k1
  have hk2 := y.k2
  have hl1 := y.l1
  have hl2 := y.l2
  have sl : PySem.PyData.strOk (PySem.Str.ofString "lane") = true := by decide +kernel
  unfold P.law_refused_right
  simp only [S.bind_assoc, S.pure_bind]
  refine sat_bind (sat_draw (m := 20) (by omega) (by omega)) fun w hw => ?_
  obtain ⟨w, rfl, _⟩ := hw
  have hfar : ∀ far ∈ [eI (-1), eI (yd k l tr).1, eI ((yd k l tr).1 + 1 + (w : Int)), eB true, eU (), eS (PySem.Str.ofString "0")], FarN k far := by
    intro far h
    simp only [List.mem_cons, List.not_mem_nil, or_false] at h
    rcases h with rfl | rfl | rfl | rfl | rfl | rfl
    · exact farN_int (.inl (by omega))
    · exact farN_int (.inr (Int.le_refl _))
    · exact farN_int (.inr (show (k : Int) ≤ (k : Int) + 1 + (w : Int) by omega))
    · exact farN_bl
    · exact farN_non
    · exact farN_0
  refine sat_thenE (fun _ _ => True) trivial (fun d x r t e _ => ?_) fun t' _ => ?_
  · have hx := hfar x (by rw [← e]; simp)
    rw [heard_lane y (.inl (lane_far hx)), S.up_pure, S.pure_bind, ne_same sl hx.s hx.e, S.of_some, S.pure_bind, if_neg Bool.false_ne_true, heard_lane y (.inl (lane_far hx)), S.up_pure, S.pure_bind, ne_same sl hx.s hx.e, S.of_some, S.pure_bind, if_neg Bool.false_ne_true]
    exact sat_pure ⟨(), rfl, trivial⟩
  · dsimp only [Fl.el]
    refine sat_bind (sat_draw (m := 20) (by omega) (by omega)) fun w hw => ?_
    obtain ⟨w, rfl, _⟩ := hw
    have hfar : ∀ far ∈ [eI (-1), eI (yd k l tr).2.1, eI ((yd k l tr).2.1 + 1 + (w : Int)), eB false, eU ()], FarN l far := by
      intro far h
      simp only [List.mem_cons, List.not_mem_nil, or_false] at h
      rcases h with rfl | rfl | rfl | rfl | rfl
      · exact farN_int (.inl (by omega))
      · exact farN_int (.inr (Int.le_refl _))
      · exact farN_int (.inr (show (l : Int) ≤ (l : Int) + 1 + (w : Int) by omega))
      · exact farN_bl
      · exact farN_non
    refine sat_thenE (fun _ _ => True) trivial (fun d x r t e _ => ?_) fun t' _ => ?_
    · have hx := hfar x (by rw [← e]; simp)
      have hk : P.check_lane__A_i (eI ((yd k l tr).1 - 1)) (k : Int) = S.pure () := by
        have : eI ((yd k l tr).1 - 1) = .int ((k - 1 : Nat) : Int) := by
          show D.int ((k : Int) - 1) = _
          congr 1; omega
        rw [this]; exact lane_in (by omega)
      rw [heard_lane y (.inr ⟨hk, lane_far hx⟩), S.up_pure, S.pure_bind, ne_same sl hx.s hx.e, S.of_some, S.pure_bind, if_neg Bool.false_ne_true]
      exact sat_pure ⟨(), rfl, trivial⟩
    · dsimp only [Fl.el]
      rw [show P.law_heard__y_A_A ((yd k l tr).1, (0 : Int), (yd k l tr).2.2) (eI (-1)) (eI (-1)) = _ from heard_yard0 (ts := tr.map zp) hk1 hk2, S.up_pure, S.pure_bind, eq_yard, S.of_some]
      exact sat_pure rfl
theorem pairs_comp {σ : Type} {l n : Nat} (hl : 0 < l) (hl2 : l < 1000000) : S.comp (σ := σ) (fun (at1 : Int) => (S.pure true)) (fun (at1 : Int) => (S.bind (S.of (divI at1 (l : Int))) fun x6 => (S.bind (S.of (modI at1 (l : Int))) fun x7 => S.pure (x6, x7)))) (nums n) = S.pure ((nums n).map fun x => zp (x.toNat / l, x.toNat % l)) := by
  have := comp_eq (σ := σ) (c := fun (at1 : Int) => (S.pure true)) (f := (fun (at1 : Int) => (S.bind (S.of (divI at1 (l : Int))) fun x6 => (S.bind (S.of (modI at1 (l : Int))) fun x7 => S.pure (x6, x7))))) (fun _ => true) (fun x => zp (x.toNat / l, x.toNat % l)) (xs := nums n) (fun x _ => rfl) fun x hx _ => ?_
  · rw [this, List.filter_eq_self.mpr fun _ _ => rfl]
  · obtain ⟨i, hi, rfl⟩ := mem_nums.mp hx
    rw [divI_n hl hl2, modI_n hl, S.of_some, S.of_some, S.pure_bind, S.pure_bind]
    rfl
theorem law_ok (ns : List Int) : P.law ns () = .ok (true, ()) := by
  unfold P.law
  refine law_run ?_
  simp only [S.bind_assoc, S.pure_bind]
  refine sat_bind (Q := fun _ => True) (sat_big fun v => trivial) fun v _ => ?_
  refine sat_bind (Q := fun _ => True) (sat_ite (fun _ => sat_bind (sat_draw (m := 2) (by omega) (by omega)) fun v _ => sat_pure trivial) fun _ => sat_pure trivial) fun big _ => ?_
  have hy : Sat (P.law_web_yard (if big = true then 12 else 4) (if big = true then 30 else 8)) fun v => ∃ k l tr, v = yd k l tr ∧ YOk k l tr ∧ tr.length ≤ 30 := by
    cases big with
    | true => exact web_yard_sat (m := 12) (mo := 30) (by omega) (by omega) (by omega)
    | false => exact sat_mono (web_yard_sat (m := 4) (mo := 8) (by omega) (by omega) (by omega)) fun v ⟨k, l, tr, h1, h2, h3⟩ => ⟨k, l, tr, h1, h2, by omega⟩
  refine sat_bind hy fun v hv => ?_
  obtain ⟨k, l, tr, rfl, y, hlt⟩ := hv
  have hk1 := y.k1
  have hk2 := y.k2
  have hl1 := y.l1
  have hl2 := y.l2
  have hle : ((yd k l tr).2.2).length = tr.length := List.length_map _
  have hwr : P.law_web_rank (yd k l tr) (nums tr.length) = S.pure (low (mer (eall k tr)) (k + l) : Int) := web_rank_ok y (fun t ht => List.mem_range.mp ht) (by rw [List.length_range]; omega)
  have hkl : mulI (yd k l tr).1 (yd k l tr).2.1 = some ((k * l : Nat) : Int) := mulI_n (show k ≤ 1000000 by omega)
  have hkl2 : k * l ≤ 144 := Nat.mul_le_mul hk2 hl2
  rw [hle, worth_ok y, S.up_pure, S.pure_bind, whole_true, S.up_pure, S.pure_bind, Bool.not_true, if_neg Bool.false_ne_true, rgB_nat (by omega), S.of_some, S.pure_bind, hwr, S.up_pure, S.pure_bind, decide_eq_true rfl, Bool.not_true, S.pure_bind, if_neg Bool.false_ne_true, hkl, S.of_some, S.pure_bind, rgB_nat (by omega), S.of_some, S.pure_bind, len_nums, lim_ok (by omega), S.pure_bind]
  rw [show S.comp (σ := Pool) (fun (at1 : Int) => (S.pure true)) (fun (at1 : Int) => (S.bind (S.of (divI at1 (yd k l tr).2.1)) fun x12 => (S.bind (S.of (modI at1 (yd k l tr).2.1)) fun x13 => S.pure (x12, x13)))) (nums (k * l)) = _ from pairs_comp (show 0 < l by omega) (show l < 1000000 by omega), S.calm_pure, S.pure_bind]
  refine sat_bind (Q := fun _ => True) (sat_ite (fun _ => sat_pure trivial) fun _ => by rw [S.pure_bind]; exact sat_pure trivial) fun z3 _ => ?_
  refine sat_bind (Q := fun ps : List (Int × Int) => ∀ p ∈ ps, ∃ a b, p = zp (a, b) ∧ a < k ∧ b < l) (sat_ite (fun _ => ?_) fun _ => sat_pure fun p hp => ?_) fun ps hps => ?_
  · have hd : Sat (S.comp (σ := Pool) (fun (turn2 : Int) => (S.pure true)) (fun (turn2 : Int) => (S.bind (draw (yd k l tr).1) fun x21 => (S.bind (draw (yd k l tr).2.1) fun x22 => S.pure (x21, x22)))) (nums 6)) fun ps => ∀ p ∈ ps, ∃ a b, p = zp (a, b) ∧ a < k ∧ b < l := sat_mono (sat_all fun x _ => by
      refine sat_bind (sat_draw (m := k) (by omega) (by omega)) fun a ha => sat_bind (sat_draw (m := l) (by omega) (by omega)) fun b hb => sat_pure ?_
      obtain ⟨a, rfl, ha⟩ := ha
      obtain ⟨b, rfl, hb⟩ := hb
      exact ⟨a, b, rfl, ha, hb⟩) fun v hv => hv.1
    rw [show rgB (6 : Int) = some (nums 6) from rgB_nat (n := 6) (by omega), S.of_some, S.pure_bind, len_nums, lim_ok (by omega), S.pure_bind]
    exact sat_bind (sat_calm hd) fun v hv => sat_pure hv
  · obtain ⟨x, hx, rfl⟩ := List.mem_map.mp hp
    obtain ⟨i, hi, rfl⟩ := mem_nums.mp hx
    refine ⟨i / l, i % l, rfl, ?_, Nat.mod_lt _ (by omega)⟩
    exact Nat.div_lt_of_lt_mul (by rw [Nat.mul_comm]; exact hi)
  · refine sat_thenE (fun _ _ => True) trivial (fun d x r t e _ => ?_) fun t' _ => ?_
    · obtain ⟨a, b, rfl, ha, hb⟩ := hps x (by rw [← e]; simp)
      rw [show P.law_pair_right (yd k l tr) (zp (a, b)).1 (zp (a, b)).2 (low (mer (eall k tr)) (k + l) : Int) = _ from pair_right_ok y (by omega) ha hb, S.up_pure, S.pure_bind, Bool.not_true, if_neg Bool.false_ne_true]
      exact sat_pure ⟨(), rfl, trivial⟩
    · dsimp only [Fl.el]
      rw [show rgB (60 : Int) = some (nums 60) from rgB_nat (n := 60) (by omega), S.of_some, S.pure_bind, len_nums, lim_ok (by omega), S.pure_bind, show S.comp (σ := Pool) (fun (at1 : Int) => (S.pure true)) (fun (at1 : Int) => (S.bind (S.of (divI at1 12)) fun x12 => (S.bind (S.of (modI at1 12)) fun x13 => S.pure (x12, x13)))) (nums 60) = _ from pairs_comp (l := 12) (by omega) (by omega), S.calm_pure, S.pure_bind]
      have hfull : ((12 : Int), (12 : Int), (nums 60).map fun x => zp (x.toNat / 12, x.toNat % 12)) = yd 12 12 trF := by decide +kernel
      rw [hfull]
      refine sat_bind (sat_draw (m := 7) (by omega) (by omega)) fun a ha => sat_bind (sat_draw (m := 12) (by omega) (by omega)) fun b hb => ?_
      obtain ⟨a, rfl, ha⟩ := ha
      obtain ⟨b, rfl, hb⟩ := hb
      have h1 : P.adds (yd 12 12 trF) (5 + (a : Int)) (b : Int) = S.pure true := by
        rw [show (5 + (a : Int)) = ((5 + a : Nat) : Int) by omega, adds_ok yF (show 5 + a < 12 by omega) hb, merF_alone (by omega) (by omega), merF_row (.inr ⟨by omega, by omega⟩), decide_eq_false (by omega)]; rfl
      rw [h1, S.up_pure, S.pure_bind]
      refine sat_bind (Q := fun z => z = false) ?_ fun z hz => ?_
      · show Sat (if (!decide (true = true)) = true then S.pure true else _) _
        rw [if_neg (by simp)]
        refine sat_bind (sat_draw (m := 5) (by omega) (by omega)) fun a ha => sat_bind (sat_draw (m := 12) (by omega) (by omega)) fun b hb => ?_
        obtain ⟨a, rfl, ha⟩ := ha
        obtain ⟨b, rfl, hb⟩ := hb
        rw [adds_ok yF (show a < 12 by omega) hb, merF_row (.inl ha), merF_row (.inr ⟨by omega, by omega⟩), S.up_pure, S.pure_bind]
        exact sat_pure (by decide)
      · subst hz
        rw [if_neg Bool.false_ne_true]
        exact refused_right_sat y
end P

set_option Elab.async false
set_option linter.all false
set_option maxRecDepth 100000
set_option maxHeartbeats 4000000
namespace K31
open PySem Tw Tx
def f0 : Fn := { name := (PySem.Str.ofString "is_whole"), np := 3, ns := 3, stab := [true, true, true], body := [.ret (.and (.p1 (.isTy .int) (.slot 0)) (.and (.not (.p1 (.isTy .bool) (.slot 0))) (.one (.chain .le .le (.slot 1) (.slot 0) (.slot 2)))))] }
def f1 : Fn := { name := (PySem.Str.ofString "is_track"), np := 3, ns := 3, stab := [true, true, true], body := [.ite (.or (.not (.p1 (.isTy .tuple) (.slot 0))) (.one (.p2 .ne (.p1 .len (.slot 0)) (.con (.int 2))))) [.ret (.con (.bl false))] [], .ret (.and (.call 0 (.cons (.p2 .ix (.slot 0) (.con (.int 0))) (.cons (.con (.int 0)) (.cons (.p2 .sub (.slot 1) (.con (.int 1))) .nil)))) (.one (.call 0 (.cons (.p2 .ix (.slot 0) (.con (.int 1))) (.cons (.con (.int 0)) (.cons (.p2 .sub (.slot 2) (.con (.int 1))) .nil))))))] }
def f2 : Fn := { name := (PySem.Str.ofString "first_wrong"), np := 1, ns := 5, stab := [true], body := [.ite (.or (.not (.p1 (.isTy .tuple) (.slot 0))) (.one (.p2 .ne (.p1 .len (.slot 0)) (.con (.int 3))))) [.ret (.p1 .neg (.con (.int 1)))] [], .unp (.tp [(.nm 1), (.nm 2), (.nm 3)]) (.slot 0), .ite (.not (.call 0 (.cons (.slot 1) (.cons (.con (.int 1)) (.cons (.glob (PySem.Str.ofString "MOST_LANES") (.int 12)) .nil))))) [.ret (.p1 .neg (.con (.int 2)))] [], .ite (.not (.call 0 (.cons (.slot 2) (.cons (.con (.int 1)) (.cons (.glob (PySem.Str.ofString "MOST_LANES") (.int 12)) .nil))))) [.ret (.p1 .neg (.con (.int 3)))] [], .ite (.or (.not (.p1 (.isTy .tuple) (.slot 3))) (.one (.p2 .gt (.p1 .len (.slot 3)) (.glob (PySem.Str.ofString "MOST_TRACKS") (.int 60))))) [.ret (.p1 .neg (.con (.int 4)))] [], .for_ (.nm 4) (.rng (.cons (.p1 .len (.slot 3)) .nil)) [.ite (.or (.not (.call 1 (.cons (.p2 .ix (.slot 3) (.slot 4)) (.cons (.slot 1) (.cons (.slot 2) .nil))))) (.one (.and (.p2 .gt (.slot 4) (.con (.int 0))) (.one (.p2 .le (.p2 .ix (.slot 3) (.slot 4)) (.p2 .ix (.slot 3) (.p2 .sub (.slot 4) (.con (.int 1))))))))) [.ret (.slot 4)] []], .ret (.con .non)] }
def f3 : Fn := { name := (PySem.Str.ofString "made_yard"), np := 1, ns := 2, stab := [true], body := [.set 1 (.call 2 (.cons (.slot 0) .nil)), .ite (.p1 .notN (.slot 1)) [.raise 0 (.slot 1)] [], .ret (.slot 0)] }
def f4 : Fn := { name := (PySem.Str.ofString "is_pick"), np := 2, ns := 3, stab := [true, true], body := [.ite (.not (.p1 (.isTy .tuple) (.slot 1))) [.ret (.con (.bl false))] [], .for_ (.nm 2) (.rng (.cons (.p1 .len (.slot 1)) .nil)) [.ite (.or (.not (.call 0 (.cons (.p2 .ix (.slot 1) (.slot 2)) (.cons (.con (.int 0)) (.cons (.p2 .sub (.p1 .len (.p2 .ix (.slot 0) (.con (.int 2)))) (.con (.int 1))) .nil))))) (.one (.and (.p2 .gt (.slot 2) (.con (.int 0))) (.one (.p2 .le (.p2 .ix (.slot 1) (.slot 2)) (.p2 .ix (.slot 1) (.p2 .sub (.slot 2) (.con (.int 1))))))))) [.ret (.con (.bl false))] []], .ret (.con (.bl true))] }
def f5 : Fn := { name := (PySem.Str.ofString "made_pick"), np := 2, ns := 2, stab := [true, true], body := [.ite (.not (.call 4 (.cons (.slot 0) (.cons (.slot 1) .nil)))) [.raise 1 (.p1 .neg (.con (.int 1)))] [], .ret (.slot 1)] }
def f6 : Fn := { name := (PySem.Str.ofString "all_tracks"), np := 1, ns := 1, stab := [true], body := [.ret (.rgl true (.cons (.p1 .len (.p2 .ix (.call 3 (.cons (.slot 0) .nil)) (.con (.int 2)))) .nil))] }
def f7 : Fn := { name := (PySem.Str.ofString "ends"), np := 2, ns := 4, stab := [true, true], body := [.unp (.tp [(.nm 2), (.nm 3)]) (.p2 .ix (.p2 .ix (.slot 0) (.con (.int 2))) (.slot 1)), .ret (.tup (.cons (.slot 2) (.cons (.p2 .add (.p2 .ix (.slot 0) (.con (.int 0))) (.slot 3)) .nil)))] }
def f8 : Fn := { name := (PySem.Str.ofString "labels"), np := 2, ns := 9, stab := [true, true], body := [.set 2 (.p2 .mul (.lst (.cons (.p1 .neg (.con (.int 1))) .nil)) (.p2 .add (.p2 .ix (.slot 0) (.con (.int 0))) (.p2 .ix (.slot 0) (.con (.int 1))))), .for_ (.nm 3) (.seq (.slot 1)) [.unp (.tp [(.nm 4), (.nm 5)]) (.call 7 (.cons (.slot 0) (.cons (.slot 3) .nil))), .set 6 (.p2 .min (.ife (.p2 .ge (.p2 .ix (.slot 2) (.slot 4)) (.con (.int 0))) (.p2 .ix (.slot 2) (.slot 4)) (.slot 4)) (.ife (.p2 .ge (.p2 .ix (.slot 2) (.slot 5)) (.con (.int 0))) (.p2 .ix (.slot 2) (.slot 5)) (.slot 5))), .set 7 (.tup (.cons (.p2 .ix (.slot 2) (.slot 4)) (.cons (.p2 .ix (.slot 2) (.slot 5)) .nil))), .set 2 (.compS [((PySem.Str.ofString "label"), 8)] (.nm 8) 2 .nil (.ife (.and (.p2 .ge (.slot 8) (.con (.int 0))) (.one (.p2 .inn (.slot 8) (.slot 7)))) (.slot 6) (.slot 8))), .unpSub [(2, (.slot 4)), (2, (.slot 5))] (.cons (.slot 6) (.cons (.slot 6) .nil))], .ret (.slot 2)] }
def f9 : Fn := { name := (PySem.Str.ofString "joins"), np := 2, ns := 4, stab := [true, true], body := [.set 2 (.call 8 (.cons (.slot 0) (.cons (.slot 1) .nil))), .ret (.p1 .len (.comp [((PySem.Str.ofString "lane"), 3)] (.nm 3) (.rng (.cons (.p1 .len (.slot 2)) .nil)) (.cons (.and (.p2 .ge (.p2 .ix (.slot 2) (.slot 3)) (.con (.int 0))) (.one (.p2 .ne (.p2 .ix (.slot 2) (.slot 3)) (.slot 3)))) .nil) (.slot 3)))] }
def f10 : Fn := { name := (PySem.Str.ofString "pieces"), np := 2, ns := 6, stab := [true, true], body := [.drop (.call 3 (.cons (.slot 0) .nil)), .set 2 (.call 8 (.cons (.slot 0) (.cons (.call 5 (.cons (.slot 0) (.cons (.slot 1) .nil))) .nil))), .set 3 (.rngv (.cons (.p1 .len (.slot 2)) .nil)), .ret (.p1 .tuple (.comp [((PySem.Str.ofString "low"), 4)] (.nm 4) (.seq (.slot 3)) (.cons (.p2 .eq (.p2 .ix (.slot 2) (.slot 4)) (.slot 4)) .nil) (.p1 .tuple (.comp [((PySem.Str.ofString "lane"), 5)] (.nm 5) (.seq (.slot 3)) (.cons (.p2 .eq (.p2 .ix (.slot 2) (.slot 5)) (.slot 4)) .nil) (.slot 5)))))] }
def f11 : Fn := { name := (PySem.Str.ofString "rank"), np := 2, ns := 2, stab := [true, true], body := [.drop (.call 3 (.cons (.slot 0) .nil)), .ret (.call 9 (.cons (.slot 0) (.cons (.call 5 (.cons (.slot 0) (.cons (.slot 1) .nil))) .nil)))] }
def f12 : Fn := { name := (PySem.Str.ofString "worth"), np := 1, ns := 1, stab := [true], body := [.ret (.call 11 (.cons (.slot 0) (.cons (.call 6 (.cons (.slot 0) .nil)) .nil)))] }
def f13 : Fn := { name := (PySem.Str.ofString "check_lane"), np := 2, ns := 2, stab := [true, true], body := [.ite (.not (.call 0 (.cons (.slot 0) (.cons (.con (.int 0)) (.cons (.p2 .sub (.slot 1) (.con (.int 1))) .nil))))) [.raise 2 (.slot 0)] []] }
def f14 : Fn := { name := (PySem.Str.ofString "adds"), np := 3, ns := 7, stab := [true, true, true], body := [.unp (.tp [(.nm 3), (.nm 4), (.nm 5)]) (.call 3 (.cons (.slot 0) .nil)), .drop (.call 13 (.cons (.slot 1) (.cons (.slot 3) .nil))), .drop (.call 13 (.cons (.slot 2) (.cons (.slot 4) .nil))), .for_ (.nm 6) (.seq (.call 10 (.cons (.slot 0) (.cons (.call 6 (.cons (.slot 0) .nil)) .nil)))) [.ite (.and (.p2 .inn (.slot 1) (.slot 6)) (.one (.p2 .inn (.p2 .add (.slot 3) (.slot 2)) (.slot 6)))) [.ret (.con (.bl false))] []], .ret (.con (.bl true))] }
def f15 : Fn := { name := (PySem.Str.ofString "_law_pool"), np := 1, ns := 3, stab := [true], body := [.set 1 (.ife (.p2 .gt (.p1 .len (.slot 0)) (.con (.int 0))) (.p1 .int (.p2 .ix (.slot 0) (.con (.int 0)))) (.con (.int 0))), .set 2 (.ife (.p2 .ge (.slot 1) (.con (.int 0))) (.p2 .mul (.con (.int 2)) (.slot 1)) (.p2 .sub (.p1 .neg (.con (.int 1))) (.p2 .mul (.con (.int 2)) (.slot 1)))), .ret (.lst (.cons (.ife (.p2 .ge (.slot 2) (.p2 .pow (.con (.int 10)) (.con (.int 18)))) (.slot 2) (.con (.int 0))) (.cons (.p2 .add (.p2 .mod (.p1 .int (.p2 .add (.p2 .mul (.slot 2) (.con (.int 48271))) (.con (.int 1009)))) (.con (.int 2147483629))) (.con (.int 3))) (.cons (.p1 .list (.sl (.slot 0) (.con (.int 1)) (.con .hole))) .nil))))] }
def f16 : Fn := { name := (PySem.Str.ofString "_law_draw"), np := 2, ns := 5, stab := [true, true], body := [.ite (.and (.p2 .eq (.at 0 (.con (.int 0))) (.con (.int 0))) (.one (.vw .ne 0 (.con (.int 2)) none))) [.set 2 (.p1 .int (.popAt 0 (.cons (.con (.int 2)) .nil) (.con (.int 0)))), .set 3 (.ife (.p2 .ge (.slot 2) (.con (.int 0))) (.p2 .mul (.con (.int 2)) (.slot 2)) (.p2 .sub (.p1 .neg (.con (.int 1))) (.p2 .mul (.con (.int 2)) (.slot 2)))), .setIx 0 .nil (.con (.int 0)) (.ife (.p2 .ge (.slot 3) (.p2 .pow (.con (.int 10)) (.con (.int 18)))) (.slot 3) (.con (.int 0))), .setIx 0 .nil (.con (.int 1)) (.p2 .add (.p2 .mod (.p1 .int (.p2 .add (.at 0 (.con (.int 1))) (.p2 .mul (.slot 3) (.con (.int 69621))))) (.con (.int 2147483629))) (.con (.int 3)))] [], .ite (.p2 .gt (.at 0 (.con (.int 0))) (.con (.int 0))) [.set 4 (.p2 .mod (.p1 .int (.at 0 (.con (.int 0)))) (.slot 1)), .setIx 0 .nil (.con (.int 0)) (.p2 .fdiv (.at 0 (.con (.int 0))) (.slot 1)), .ret (.slot 4)] [], .setIx 0 .nil (.con (.int 1)) (.p2 .mod (.p1 .int (.p2 .add (.p2 .mul (.at 0 (.con (.int 1))) (.con (.int 48271))) (.con (.int 11)))) (.con (.int 2147483647))), .ret (.p2 .mod (.p2 .fdiv (.p2 .mod (.p1 .int (.p2 .mul (.at 0 (.con (.int 1))) (.at 0 (.con (.int 1))))) (.con (.int 2147483629))) (.con (.int 32))) (.slot 1))] }
def f17 : Fn := { name := (PySem.Str.ofString "_law_is_whole"), np := 1, ns := 1, stab := [true], body := [.ret (.and (.p1 (.isTy .int) (.slot 0)) (.one (.not (.p1 (.isTy .bool) (.slot 0)))))] }
def f18 : Fn := { name := (PySem.Str.ofString "_law_turned"), np := 2, ns := 5, stab := [true, true], body := [.par [2, 3] (.cons (.rgl false (.cons (.slot 1) .nil)) (.cons (.lst .nil) .nil)), .for_ (.nm 4) (.rng (.cons (.slot 1) .nil)) [.append 3 .nil (.popAt 2 .nil (.call 16 (.cons (.slot 0) (.cons (.p1 .len (.slot 2)) .nil))))], .ret (.slot 3)] }
def f19 : Fn := { name := (PySem.Str.ofString "_law_web_yard"), np := 3, ns := 9, stab := [true, true, true], body := [.par [3, 4] (.cons (.p2 .add (.con (.int 1)) (.call 16 (.cons (.slot 0) (.cons (.slot 1) .nil)))) (.cons (.p2 .add (.con (.int 1)) (.call 16 (.cons (.slot 0) (.cons (.slot 1) .nil)))) .nil)), .set 5 (.comp [((PySem.Str.ofString "_law_at"), 8)] (.nm 8) (.rng (.cons (.p2 .mul (.slot 3) (.slot 4)) .nil)) .nil (.tup (.cons (.p2 .fdiv (.slot 8) (.slot 4)) (.cons (.p2 .mod (.p1 .int (.slot 8)) (.slot 4)) .nil)))), .set 6 (.ife (.p2 .eq (.call 16 (.cons (.slot 0) (.cons (.con (.int 3)) .nil))) (.con (.int 0))) (.p2 .min (.slot 2) (.p1 .len (.slot 5))) (.call 16 (.cons (.slot 0) (.cons (.p2 .add (.p2 .min (.slot 2) (.p1 .len (.slot 5))) (.con (.int 1))) .nil)))), .set 7 (.sl (.call 18 (.cons (.slot 0) (.cons (.p1 .len (.slot 5)) .nil))) (.con .hole) (.slot 6)), .ret (.tup (.cons (.slot 3) (.cons (.slot 4) (.cons (.p1 .tuple (.comp [((PySem.Str.ofString "_law_at"), 8)] (.nm 8) (.seq (.p1 .sorted (.slot 7))) .nil (.p2 .ix (.slot 5) (.slot 8)))) .nil))))] }
def f20 : Fn := { name := (PySem.Str.ofString "_law_web_ends"), np := 2, ns := 2, stab := [true, true], body := [.ret (.lst (.cons (.p2 .ix (.p2 .ix (.p2 .ix (.slot 0) (.con (.int 2))) (.slot 1)) (.con (.int 0))) (.cons (.p2 .add (.p2 .ix (.slot 0) (.con (.int 0))) (.p2 .ix (.p2 .ix (.p2 .ix (.slot 0) (.con (.int 2))) (.slot 1)) (.con (.int 1)))) .nil)))] }
def f21 : Fn := { name := (PySem.Str.ofString "_law_web_reached"), np := 3, ns := 10, stab := [true, true, true], body := [.par [3, 4] (.cons (.lst (.cons (.slot 2) .nil)) (.cons (.lst (.cons (.slot 2) .nil)) .nil)), .for_ (.nm 5) (.rng (.cons (.p2 .add (.p2 .ix (.slot 0) (.con (.int 0))) (.p2 .ix (.slot 0) (.con (.int 1)))) .nil)) [.set 6 (.lst .nil), .for_ (.nm 7) (.seq (.slot 1)) [.unp (.tp [(.nm 8), (.nm 9)]) (.call 20 (.cons (.slot 0) (.cons (.slot 7) .nil))), .ite (.and (.p2 .inn (.slot 8) (.slot 4)) (.one (.p2 .notin (.slot 9) (.p2 .add (.slot 3) (.slot 6))))) [.append 6 .nil (.slot 9)] [], .ite (.and (.p2 .inn (.slot 9) (.slot 4)) (.one (.p2 .notin (.slot 8) (.p2 .add (.slot 3) (.slot 6))))) [.append 6 .nil (.slot 8)] []], .par [3, 4] (.cons (.p2 .add (.slot 3) (.slot 6)) (.cons (.slot 6) .nil))], .ret (.p1 .sorted (.slot 3))] }
def f22 : Fn := { name := (PySem.Str.ofString "_law_web_pieces"), np := 2, ns := 6, stab := [true, true], body := [.set 2 (.lst .nil), .for_ (.nm 3) (.rng (.cons (.p2 .add (.p2 .ix (.slot 0) (.con (.int 0))) (.p2 .ix (.slot 0) (.con (.int 1)))) .nil)) [.ite (.and (.p2 .ne (.comp [((PySem.Str.ofString "_law_t"), 4)] (.nm 4) (.seq (.slot 1)) (.cons (.p2 .inn (.slot 3) (.call 20 (.cons (.slot 0) (.cons (.slot 4) .nil)))) .nil) (.slot 4)) (.lst .nil)) (.one (.p2 .eq (.compS [((PySem.Str.ofString "_law_lot"), 5)] (.nm 5) 2 (.cons (.p2 .inn (.slot 3) (.slot 5)) .nil) (.slot 5)) (.lst .nil)))) [.append 2 .nil (.p1 .tuple (.call 21 (.cons (.slot 0) (.cons (.slot 1) (.cons (.slot 3) .nil)))))] []], .ret (.p1 .tuple (.slot 2))] }
def f23 : Fn := { name := (PySem.Str.ofString "_law_web_rank"), np := 2, ns := 4, stab := [true, true], body := [.set 2 (.call 22 (.cons (.slot 0) (.cons (.slot 1) .nil))), .ret (.p2 .sub (.p1 .sum (.comp [((PySem.Str.ofString "_law_lot"), 3)] (.nm 3) (.seq (.slot 2)) .nil (.p1 .len (.slot 3)))) (.p1 .len (.slot 2)))] }
def f24 : Fn := { name := (PySem.Str.ofString "_law_pair_right"), np := 4, ns := 9, stab := [true, true, true, true], body := [.unp (.tp [(.nm 4), (.nm 5), (.nm 6)]) (.slot 0), .set 7 (.p2 .notin (.p2 .add (.slot 4) (.slot 2)) (.call 21 (.cons (.slot 0) (.cons (.rgl true (.cons (.p1 .len (.slot 6)) .nil)) (.cons (.slot 1) .nil))))), .set 8 (.call 14 (.cons (.slot 0) (.cons (.slot 1) (.cons (.slot 2) .nil)))), .ite (.or (.not (.p1 (.isTy .bool) (.slot 8))) (.one (.p2 .ne (.slot 8) (.slot 7)))) [.ret (.con (.bl false))] [], .ite (.p2 .inn (.tup (.cons (.slot 1) (.cons (.slot 2) .nil))) (.slot 6)) [.ret (.con (.bl true))] [], .ret (.p2 .eq (.call 12 (.cons (.tup (.cons (.slot 4) (.cons (.slot 5) (.cons (.p1 .tuple (.p1 .sorted (.p2 .add (.slot 6) (.tup (.cons (.tup (.cons (.slot 1) (.cons (.slot 2) .nil))) .nil))))) .nil)))) .nil)) (.p2 .add (.slot 3) (.p1 .int (.slot 7))))] }
def f25 : Fn := { name := (PySem.Str.ofString "_law_heard"), np := 3, ns := 4, stab := [true, true, true], body := [.try_ [.ret (.tup (.cons (.con (.str (PySem.Str.ofString "told"))) (.cons (.call 14 (.cons (.slot 0) (.cons (.slot 1) (.cons (.slot 2) .nil)))) .nil)))] [{ slot := (some 3), cls := 0, yes := [0], no := [1, 2], he := (.tup (.cons (.con (.str (PySem.Str.ofString "yard"))) (.cons .what .nil))) }, { slot := (some 3), cls := 2, yes := [2], no := [0, 1], he := (.tup (.cons (.con (.str (PySem.Str.ofString "lane"))) (.cons .what .nil))) }]] }
def f26 : Fn := { name := (PySem.Str.ofString "_law_refused_right"), np := 2, ns := 6, stab := [true, true], body := [.unp (.tp [(.nm 2), (.nm 3), (.nm 4)]) (.slot 1), .for_ (.nm 5) (.seq (.tup (.cons (.p1 .neg (.con (.int 1))) (.cons (.slot 2) (.cons (.p2 .add (.p2 .add (.slot 2) (.con (.int 1))) (.call 16 (.cons (.slot 0) (.cons (.con (.int 20)) .nil)))) (.cons (.con (.bl true)) (.cons (.con .non) (.cons (.con (.str (PySem.Str.ofString "0"))) .nil)))))))) [.ite (.or (.p2 .ne (.call 25 (.cons (.slot 1) (.cons (.slot 5) (.cons (.p1 .neg (.con (.int 1))) .nil)))) (.tup (.cons (.con (.str (PySem.Str.ofString "lane"))) (.cons (.slot 5) .nil)))) (.one (.p2 .ne (.call 25 (.cons (.slot 1) (.cons (.slot 5) (.cons (.con (.int 0)) .nil)))) (.tup (.cons (.con (.str (PySem.Str.ofString "lane"))) (.cons (.slot 5) .nil)))))) [.ret (.con (.bl false))] []], .for_ (.nm 5) (.seq (.tup (.cons (.p1 .neg (.con (.int 1))) (.cons (.slot 3) (.cons (.p2 .add (.p2 .add (.slot 3) (.con (.int 1))) (.call 16 (.cons (.slot 0) (.cons (.con (.int 20)) .nil)))) (.cons (.con (.bl false)) (.cons (.con .non) .nil))))))) [.ite (.p2 .ne (.call 25 (.cons (.slot 1) (.cons (.p2 .sub (.slot 2) (.con (.int 1))) (.cons (.slot 5) .nil)))) (.tup (.cons (.con (.str (PySem.Str.ofString "lane"))) (.cons (.slot 5) .nil)))) [.ret (.con (.bl false))] []], .ret (.p2 .eq (.call 25 (.cons (.tup (.cons (.slot 2) (.cons (.con (.int 0)) (.cons (.slot 4) .nil)))) (.cons (.p1 .neg (.con (.int 1))) (.cons (.p1 .neg (.con (.int 1))) .nil)))) (.tup (.cons (.con (.str (PySem.Str.ofString "yard"))) (.cons (.p1 .neg (.con (.int 3))) .nil))))] }
def f27 : Fn := { name := (PySem.Str.ofString "law"), np := 1, ns := 14, stab := [true], body := [.set 1 (.call 15 (.cons (.slot 0) .nil)), .set 2 (.and (.p2 .gt (.at 1 (.con (.int 0))) (.con (.int 0))) (.one (.p2 .eq (.call 16 (.cons (.slot 1) (.cons (.con (.int 2)) .nil))) (.con (.int 0))))), .set 3 (.call 19 (.cons (.slot 1) (.cons (.ife (.slot 2) (.con (.int 12)) (.con (.int 4))) (.cons (.ife (.slot 2) (.con (.int 30)) (.con (.int 8))) .nil)))), .unp (.tp [(.nm 4), (.nm 5), (.nm 6)]) (.slot 3), .set 7 (.call 12 (.cons (.slot 3) .nil)), .ite (.or (.not (.call 17 (.cons (.slot 7) .nil))) (.one (.p2 .ne (.slot 7) (.call 23 (.cons (.slot 3) (.cons (.rgl true (.cons (.p1 .len (.slot 6)) .nil)) .nil)))))) [.ret (.con (.bl false))] [], .set 8 (.comp [((PySem.Str.ofString "_law_at"), 12)] (.nm 12) (.rng (.cons (.p2 .mul (.slot 4) (.slot 5)) .nil)) .nil (.tup (.cons (.p2 .fdiv (.p1 .int (.slot 12)) (.slot 5)) (.cons (.p2 .mod (.p1 .int (.slot 12)) (.slot 5)) .nil)))), .ite (.or (.slot 2) (.one (.p2 .gt (.p2 .mul (.slot 4) (.slot 5)) (.con (.int 6))))) [.set 8 (.comp [((PySem.Str.ofString "_law_turn"), 13)] (.nm 13) (.rng (.cons (.con (.int 6)) .nil)) .nil (.tup (.cons (.call 16 (.cons (.slot 1) (.cons (.slot 4) .nil))) (.cons (.call 16 (.cons (.slot 1) (.cons (.slot 5) .nil))) .nil))))] [], .for_ (.tp [(.nm 9), (.nm 10)]) (.seq (.slot 8)) [.ite (.not (.call 24 (.cons (.slot 3) (.cons (.slot 9) (.cons (.slot 10) (.cons (.slot 7) .nil)))))) [.ret (.con (.bl false))] []], .set 11 (.tup (.cons (.con (.int 12)) (.cons (.con (.int 12)) (.cons (.p1 .tuple (.comp [((PySem.Str.ofString "_law_at"), 12)] (.nm 12) (.rng (.cons (.con (.int 60)) .nil)) .nil (.tup (.cons (.p2 .fdiv (.p1 .int (.slot 12)) (.con (.int 12))) (.cons (.p2 .mod (.p1 .int (.slot 12)) (.con (.int 12))) .nil))))) .nil)))), .ite (.or (.p2 .ne (.call 14 (.cons (.slot 11) (.cons (.p2 .add (.con (.int 5)) (.call 16 (.cons (.slot 1) (.cons (.con (.int 7)) .nil)))) (.cons (.call 16 (.cons (.slot 1) (.cons (.con (.int 12)) .nil))) .nil)))) (.con (.bl true))) (.one (.p2 .ne (.call 14 (.cons (.slot 11) (.cons (.call 16 (.cons (.slot 1) (.cons (.con (.int 5)) .nil))) (.cons (.call 16 (.cons (.slot 1) (.cons (.con (.int 12)) .nil))) .nil)))) (.con (.bl false))))) [.ret (.con (.bl false))] [], .ret (.call 26 (.cons (.slot 1) (.cons (.slot 3) .nil)))] }
def tF : List Fn := [f0, f1, f2, f3, f4, f5, f6, f7, f8, f9, f10, f11, f12, f13, f14, f15, f16, f17, f18, f19, f20, f21, f22, f23, f24, f25, f26, f27]
def n0 : List Str := [(PySem.Str.ofString "thing"), (PySem.Str.ofString "low"), (PySem.Str.ofString "high")]
def n1 : List Str := [(PySem.Str.ofString "thing"), (PySem.Str.ofString "firsts"), (PySem.Str.ofString "seconds")]
def n2 : List Str := [(PySem.Str.ofString "thing"), (PySem.Str.ofString "firsts"), (PySem.Str.ofString "seconds"), (PySem.Str.ofString "tracks"), (PySem.Str.ofString "at")]
def n3 : List Str := [(PySem.Str.ofString "thing"), (PySem.Str.ofString "wrong")]
def n4 : List Str := [(PySem.Str.ofString "yard"), (PySem.Str.ofString "thing"), (PySem.Str.ofString "at")]
def n5 : List Str := [(PySem.Str.ofString "yard"), (PySem.Str.ofString "thing")]
def n6 : List Str := [(PySem.Str.ofString "yard")]
def n7 : List Str := [(PySem.Str.ofString "yard"), (PySem.Str.ofString "t"), (PySem.Str.ofString "first"), (PySem.Str.ofString "second")]
def n8 : List Str := [(PySem.Str.ofString "yard"), (PySem.Str.ofString "pick"), (PySem.Str.ofString "found"), (PySem.Str.ofString "t"), (PySem.Str.ofString "one"), (PySem.Str.ofString "other"), (PySem.Str.ofString "low"), (PySem.Str.ofString "old"), (PySem.Str.ofString "label")]
def n9 : List Str := [(PySem.Str.ofString "yard"), (PySem.Str.ofString "pick"), (PySem.Str.ofString "found"), (PySem.Str.ofString "lane")]
def n10 : List Str := [(PySem.Str.ofString "yard"), (PySem.Str.ofString "pick"), (PySem.Str.ofString "found"), (PySem.Str.ofString "lanes"), (PySem.Str.ofString "low"), (PySem.Str.ofString "lane")]
def n11 : List Str := [(PySem.Str.ofString "yard"), (PySem.Str.ofString "pick")]
def n12 : List Str := [(PySem.Str.ofString "yard")]
def n13 : List Str := [(PySem.Str.ofString "lane"), (PySem.Str.ofString "many")]
def n14 : List Str := [(PySem.Str.ofString "yard"), (PySem.Str.ofString "a"), (PySem.Str.ofString "b"), (PySem.Str.ofString "k"), (PySem.Str.ofString "l"), (PySem.Str.ofString "tracks"), (PySem.Str.ofString "lanes")]
def n15 : List Str := [(PySem.Str.ofString "_law_script"), (PySem.Str.ofString "_law_first"), (PySem.Str.ofString "_law_size")]
def n16 : List Str := [(PySem.Str.ofString "_law_pool_here"), (PySem.Str.ofString "_law_many"), (PySem.Str.ofString "_law_cell"), (PySem.Str.ofString "_law_size"), (PySem.Str.ofString "_law_found")]
def n17 : List Str := [(PySem.Str.ofString "_law_thing")]
def n18 : List Str := [(PySem.Str.ofString "_law_pool_here"), (PySem.Str.ofString "_law_many"), (PySem.Str.ofString "_law_left"), (PySem.Str.ofString "_law_found"), (PySem.Str.ofString "_law_turn")]
def n19 : List Str := [(PySem.Str.ofString "_law_pool_here"), (PySem.Str.ofString "_law_lanes"), (PySem.Str.ofString "_law_most"), (PySem.Str.ofString "_law_k"), (PySem.Str.ofString "_law_l"), (PySem.Str.ofString "_law_pairs"), (PySem.Str.ofString "_law_many"), (PySem.Str.ofString "_law_chosen"), (PySem.Str.ofString "_law_at")]
def n20 : List Str := [(PySem.Str.ofString "_law_yard"), (PySem.Str.ofString "_law_t")]
def n21 : List Str := [(PySem.Str.ofString "_law_yard"), (PySem.Str.ofString "_law_pick"), (PySem.Str.ofString "_law_lane"), (PySem.Str.ofString "_law_found"), (PySem.Str.ofString "_law_left"), (PySem.Str.ofString "_law_turn"), (PySem.Str.ofString "_law_ahead"), (PySem.Str.ofString "_law_t"), (PySem.Str.ofString "_law_one"), (PySem.Str.ofString "_law_other")]
def n22 : List Str := [(PySem.Str.ofString "_law_yard"), (PySem.Str.ofString "_law_pick"), (PySem.Str.ofString "_law_found"), (PySem.Str.ofString "_law_lane"), (PySem.Str.ofString "_law_t"), (PySem.Str.ofString "_law_lot")]
def n23 : List Str := [(PySem.Str.ofString "_law_yard"), (PySem.Str.ofString "_law_pick"), (PySem.Str.ofString "_law_lots"), (PySem.Str.ofString "_law_lot")]
def n24 : List Str := [(PySem.Str.ofString "_law_yard"), (PySem.Str.ofString "_law_a"), (PySem.Str.ofString "_law_b"), (PySem.Str.ofString "_law_held"), (PySem.Str.ofString "_law_k"), (PySem.Str.ofString "_law_l"), (PySem.Str.ofString "_law_tracks"), (PySem.Str.ofString "_law_due"), (PySem.Str.ofString "_law_told")]
def n25 : List Str := [(PySem.Str.ofString "_law_yard"), (PySem.Str.ofString "_law_a"), (PySem.Str.ofString "_law_b"), (PySem.Str.ofString "error")]
def n26 : List Str := [(PySem.Str.ofString "_law_pool_here"), (PySem.Str.ofString "_law_yard"), (PySem.Str.ofString "_law_k"), (PySem.Str.ofString "_law_l"), (PySem.Str.ofString "_law_tracks"), (PySem.Str.ofString "_law_far")]
def n27 : List Str := [(PySem.Str.ofString "_law_script"), (PySem.Str.ofString "_law_pool_here"), (PySem.Str.ofString "_law_is_large"), (PySem.Str.ofString "_law_yard"), (PySem.Str.ofString "_law_k"), (PySem.Str.ofString "_law_l"), (PySem.Str.ofString "_law_tracks"), (PySem.Str.ofString "_law_held"), (PySem.Str.ofString "_law_pairs"), (PySem.Str.ofString "_law_a"), (PySem.Str.ofString "_law_b"), (PySem.Str.ofString "_law_full"), (PySem.Str.ofString "_law_at"), (PySem.Str.ofString "_law_turn")]
def tN : List (List Str) := [n0, n1, n2, n3, n4, n5, n6, n7, n8, n9, n10, n11, n12, n13, n14, n15, n16, n17, n18, n19, n20, n21, n22, n23, n24, n25, n26, n27]
def top (j : Nat) : Stmt := PySem.Challenge.pw_trackworth_k31_tracks_that_add.main.body.getD j (.Pass ⟨0, 0, 0, 0⟩)
def tS_ : List Stmt := [top 8, top 9, top 10, top 11, top 12, top 13, top 14, top 16, top 17, top 18, top 19, top 20, top 22, top 24, top 25, top 27, top 28, top 29, top 30, top 31, top 32, top 33, top 34, top 35, top 36, top 37, top 38, top 39]
def tBl : List Str := [(PySem.Str.ofString "isinstance"), (PySem.Str.ofString "int"), (PySem.Str.ofString "bool"), (PySem.Str.ofString "tuple"), (PySem.Str.ofString "len"), (PySem.Str.ofString "range"), (PySem.Str.ofString "min"), (PySem.Str.ofString "list"), (PySem.Str.ofString "sorted"), (PySem.Str.ofString "sum")]
def tGl : List (Str × D) := [((PySem.Str.ofString "MOST_LANES"), (.int 12)), ((PySem.Str.ofString "MOST_TRACKS"), (.int 60))]
def tEr : List Str := [(PySem.Str.ofString "BadYard"), (PySem.Str.ofString "BadPick"), (PySem.Str.ofString "BadLane")]
def tSb : List (Nat × Nat × Bool) := [(0, 0, true), (1, 0, false), (2, 0, false), (0, 2, false), (1, 2, false), (2, 2, true)]
def pr : Pr := { F := tF, N := tN, st := tS_, bl := tBl, gl := tGl, er := tEr, sb := tSb }
theorem law_turned_c (many1 : Int) : ∀ k, 2 ≤ k → CR tF WF k 18 [true, true] encP [.st, .up (eI many1)] (P.law_turned many1) (isOwn (List.map eI)) :=
  cr_fn (g := f18) (d := 1) rfl rfl rfl rfl fun k hk => sr_start [.st, .up (eI many1), .any, .any, .any] rfl (by
    unfold P.law_turned
    refine par2_any (sl := fun v => .own (List.map eI v)) (sl' := fun v => .own (List.map eI v)) (l1 := fun left1 found1 => [.st, .up (eI many1), .own (List.map eI left1), .own (List.map eI found1), .any]) (er_rgl1v (er_slot (i := 1) (f := eI) (v := many1) rfl) rfl) (er_l0 (f := eI) rfl) (fun _ _ _ q => q) (fun _ _ _ q => q) (kp_t (kp_t kp_0)) (ltB rfl) (ltB rfl) (fun _ _ => rfl) rfl (fun left1 found1 => ?_)
    refine sr_for (lj := fun (t1 : ((List Int) × (List Int))) => [.st, .up (eI many1), .own (List.map eI t1.2), .own (List.map eI t1.1), .any]) (lb := fun t1 turn1 => [.st, .up (eI many1), .own (List.map eI t1.2), .own (List.map eI t1.1), .up (eI turn1)]) (ei_rng1v (er_slot (i := 1) (f := eI) (v := many1) rfl) rfl) (kp_t (kp_t kp_0)) LE.refl (fun t1 turn1 => (tg_nm (ltB rfl) rfl)) rfl (fun t1 turn1 => ?_) (fun t2 => ?_)
    · refine sr_appPop (k := fun left2 found2 => S.pure (found2, left2)) (l1 := fun left2 found2 => [.st, .up (eI many1), .own (List.map eI left2), .own (List.map eI found2), .up (eI turn1)]) rfl rfl (by decide) (er_callv (v := ((List.length t1.2 : Int), ())) (mc := fun b => draw b.1) (st := [true, true]) rfl (ea_st (i := 0) rfl (ea_ev rfl (er_p1v (op_o (i := 2) (f := eL eI) (v := t1.2) rfl (Pe.all _) rfl) (op_lenL (f := eI)) rfl) ea_nil rfl)) (fun _ => draw_c rfl _ _ (by omega)) (by decide) (fun _ => rfl) rfl rfl) (kp_t (kp_t kp_0)) (fun _ _ => rfl) rfl (fun left2 found2 => ?_)
      exact sr_nilL (t := (found2, left2)) (LE.eq (LE.eq (LE.eq (LE.eq (LE.any LE.refl))))) rfl
    · exact sr_retO (f := List.map eI) (v := t2.1) rfl (leB rfl) (leB rfl) (kp_t (kp_t kp_0)) rfl)
theorem law_web_yard_c (lanes1 : Int) (most1 : Int) : ∀ k, 3 ≤ k → CR tF WF k 19 [true, true, true] encP [.st, .up (eI lanes1), .up (eI most1)] (P.law_web_yard lanes1 most1) (isUp (e3 eI eI (eV (e2 eI eI)))) :=
  cr_fn (g := f19) (d := 2) rfl rfl rfl rfl fun k hk => sr_start [.st, .up (eI lanes1), .up (eI most1), .any, .any, .any, .any, .any, .any] rfl (by
    unfold P.law_web_yard
    refine par2_any (sl := fun v => .up (eI v)) (sl' := fun v => .up (eI v)) (l1 := fun k1 l1 => [.st, .up (eI lanes1), .up (eI most1), .up (eI k1), .up (eI l1), .any, .any, .any, .any]) (er_p2 (op_e rfl er_i) (op_e rfl (er_callv (v := ()) (mc := fun _ => draw lanes1) (st := [true, true]) rfl (ea_st (i := 0) rfl (ea_u rfl ea_nil)) (fun _ => draw_c rfl _ _ (by omega)) (by decide) (fun _ => rfl) rfl rfl)) op_add rfl) (er_p2 (op_e rfl er_i) (op_e rfl (er_callv (v := ()) (mc := fun _ => draw lanes1) (st := [true, true]) rfl (ea_st (i := 0) rfl (ea_u rfl ea_nil)) (fun _ => draw_c rfl _ _ (by omega)) (by decide) (fun _ => rfl) rfl rfl)) op_add rfl) (fun _ _ _ q => q) (fun _ _ _ q => q) (kp_t (kp_t (kp_t kp_0))) (ltB rfl) (ltB rfl) (fun _ _ => rfl) rfl (fun k1 l1 => ?_)
    refine sr_set (f := (eL (e2 eI eI))) (l1 := fun pairs1 => [.st, .up (eI lanes1), .up (eI most1), .up (eI k1), .up (eI l1), .up ((eL (e2 eI eI)) pairs1), .any, .any, .any]) (er_upC (er_comp (h := (e2 eI eI)) (fun at1 => [.st, .up (eI lanes1), .up (eI most1), .up (eI k1), .up (eI l1), .any, .any, .any, .up (eI at1)]) (ei_rng1 (er_p2v (op_s (i := 3) (f := eI) (v := k1) rfl) (op_s (i := 4) (f := eI) (v := l1) rfl) op_mul rfl) rfl) (fun at1 => (tg_nm (ltB rfl) rfl)) (fun _ => rfl) rfl rfl (fun at1 => ec_nil) (fun at1 => (er_t2 (er_p2v (op_s (i := 8) (f := eI) (v := at1) rfl) (op_s (i := 4) (f := eI) (v := l1) rfl) op_div rfl) (er_p2v (op_e rfl (er_p1v (op_s (i := 8) (f := eI) (v := at1) rfl) op_int rfl)) (op_s (i := 4) (f := eI) (v := l1) rfl) op_mod rfl) rfl)) rfl)) (kp_t (kp_t (kp_t kp_0))) (ltB rfl) (fun _ => rfl) rfl (fun pairs1 => ?_)
    refine sr_set (f := eI) (l1 := fun many1 => [.st, .up (eI lanes1), .up (eI most1), .up (eI k1), .up (eI l1), .up ((eL (e2 eI eI)) pairs1), .up (eI many1), .any, .any]) (er_ife (er_p2 (op_e rfl (er_callv (v := ((3 : Int), ())) (mc := fun b => draw b.1) (st := [true, true]) rfl (ea_st (i := 0) rfl (ea_ev rfl er_i ea_nil rfl)) (fun _ => draw_c rfl _ _ (by omega)) (by decide) (fun _ => rfl) rfl rfl)) (op_e rfl er_i) (op_eq (f := eI) (leB rfl)) rfl) (er_p2v (op_s (i := 2) (f := eI) (v := most1) rfl) (op_e rfl (er_p1v (op_s (i := 5) (f := (eL (e2 eI eI))) (v := pairs1) rfl) (op_lenL (f := (e2 eI eI))) rfl)) op_min rfl) (er_callv (v := (((min most1 (List.length pairs1 : Int)) + (1 : Int)), ())) (mc := fun b => draw b.1) (st := [true, true]) rfl (ea_st (i := 0) rfl (ea_ev rfl (er_p2v (op_e rfl (er_p2v (op_s (i := 2) (f := eI) (v := most1) rfl) (op_e rfl (er_p1v (op_s (i := 5) (f := (eL (e2 eI eI))) (v := pairs1) rfl) (op_lenL (f := (e2 eI eI))) rfl)) op_min rfl)) (op_e rfl er_i) op_add rfl) ea_nil rfl)) (fun _ => draw_c rfl _ _ (by omega)) (by decide) (fun _ => rfl) rfl rfl) rfl) (kp_t (kp_t (kp_t kp_0))) (ltB rfl) (fun _ => rfl) rfl (fun many1 => ?_)
    refine sr_set (f := (eL eI)) (l1 := fun chosen1 => [.st, .up (eI lanes1), .up (eI most1), .up (eI k1), .up (eI l1), .up ((eL (e2 eI eI)) pairs1), .up (eI many1), .up ((eL eI) chosen1), .any]) (er_upO (er_sl (op_e rfl (er_upO (er_callv (v := ((List.length pairs1 : Int), ())) (mc := fun b => (P.law_turned b.1)) (st := [true, true]) rfl (ea_st (i := 0) rfl (ea_ev rfl (er_p1v (op_s (i := 5) (f := (eL (e2 eI eI))) (v := pairs1) rfl) (op_lenL (f := (e2 eI eI))) rfl) ea_nil rfl)) (fun b => law_turned_c _ _ (by omega)) (by decide) (fun _ => rfl) rfl rfl))) ep_none (ep_some (er_slot (i := 6) (f := eI) (v := many1) rfl) rfl) sl_L rfl)) (kp_t (kp_t (kp_t kp_0))) (ltB rfl) (fun _ => rfl) rfl (fun chosen1 => ?_)
    exact sr_ret (Q := (isUp (e3 eI eI (eV (e2 eI eI))))) (np0N rfl) (er_t3 (er_slot (i := 3) (f := eI) (v := k1) rfl) (er_slot (i := 4) (f := eI) (v := l1) rfl) (er_p1 (op_e rfl (er_upC (er_comp (h := (e2 eI eI)) (fun at2 => [.st, .up (eI lanes1), .up (eI most1), .up (eI k1), .up (eI l1), .up ((eL (e2 eI eI)) pairs1), .up (eI many1), .up ((eL eI) chosen1), .up (eI at2)]) (ei_l (er_upO (er_p1v (op_s (i := 7) (f := (eL eI)) (v := chosen1) rfl) op_sort rfl))) (fun at2 => (tg_nm (ltB rfl) rfl)) (fun _ => rfl) rfl rfl (fun at2 => ec_nil) (fun at2 => (er_p2v (op_s (i := 5) (f := (eL (e2 eI eI))) (v := pairs1) rfl) (op_s (i := 8) (f := eI) (v := at2) rfl) (op_ixL (f := (e2 eI eI))) rfl)) rfl))) (op_tupL (f := (e2 eI eI))) rfl) rfl) (kp_t (kp_t (kp_t kp_0))))
theorem is_whole_c (thing1 : Int) (low1 : Int) (high1 : Int) : ∀ k, 1 ≤ k → CR tF WF k 0 [true, true, true] encU [.up (eI thing1), .up (eI low1), .up (eI high1)] (P.is_whole thing1 low1 high1) (isUp eB) :=
  cr_fn (g := f0) (d := 0) rfl rfl rfl rfl fun k hk => sr_start [.up (eI thing1), .up (eI low1), .up (eI high1)] rfl (by
    unfold P.is_whole
    exact sr_ret (Q := (isUp eB)) (np0N rfl) (er_andv (er_p1v (op_s (i := 0) (f := eI) (v := thing1) rfl) (op_is1 (z := true) fun _ => rfl) rfl) (er_andv (er_notv (er_p1v (op_s (i := 0) (f := eI) (v := thing1) rfl) (op_is1 (z := false) fun _ => rfl) rfl) rfl) (er_one (er_chainv (er_slot (i := 1) (f := eI) (v := low1) rfl) (er_slot (i := 0) (f := eI) (v := thing1) rfl) (er_slot (i := 2) (f := eI) (v := high1) rfl) op_le op_le rfl)) rfl) rfl) (kp_t (kp_t (kp_t kp_0))))
theorem is_track_c (thing1 : (Int × Int)) (firsts1 : Int) (seconds1 : Int) : ∀ k, 2 ≤ k → CR tF WF k 1 [true, true, true] encU [.up ((e2 eI eI) thing1), .up (eI firsts1), .up (eI seconds1)] (P.is_track thing1 firsts1 seconds1) (isUp eB) :=
  cr_fn (g := f1) (d := 1) rfl rfl rfl rfl fun k hk => sr_start [.up ((e2 eI eI) thing1), .up (eI firsts1), .up (eI seconds1)] rfl (by
    unfold P.is_track
    refine sr_itev (er_orv (er_notv (er_p1v (op_s (i := 0) (f := (e2 eI eI)) (v := thing1) rfl) (op_is1 (z := true) fun _ => rfl) rfl) rfl) (er_one (er_p2v (op_e rfl (er_p1v (op_s (i := 0) (f := (e2 eI eI)) (v := thing1) rfl) op_len2 rfl)) (op_e rfl er_i) (op_ne (f := eI) (leB rfl)) rfl)) rfl) (kp_t (kp_t (kp_t kp_0))) rfl ?_ ?_
    · exact sr_ret (Q := (isUp eB)) (np0N rfl) er_b (kp_t (kp_t (kp_t kp_0)))
    · exact sr_ret (Q := (isUp eB)) (np0N rfl) (er_and (er_callv (v := (thing1.1, ((0 : Int), ((firsts1 - (1 : Int)), ())))) (mc := fun b => (P.is_whole b.1 b.2.1 b.2.2.1)) (st := [true, true, true]) rfl (ea_ev rfl (er_pjv (g := eI) (op_s (i := 0) (f := (e2 eI eI)) (v := thing1) rfl) pj2_0 rfl) (ea_ev rfl er_i (ea_ev rfl (er_p2v (op_s (i := 1) (f := eI) (v := firsts1) rfl) (op_e rfl er_i) op_sub rfl) ea_nil rfl) rfl) rfl) (fun b => is_whole_c _ _ _ _ (by omega)) (by decide) (fun _ => rfl) rfl rfl) (er_one (er_callv (v := (thing1.2, ((0 : Int), ((seconds1 - (1 : Int)), ())))) (mc := fun b => (P.is_whole b.1 b.2.1 b.2.2.1)) (st := [true, true, true]) rfl (ea_ev rfl (er_pjv (g := eI) (op_s (i := 0) (f := (e2 eI eI)) (v := thing1) rfl) pj2_1 rfl) (ea_ev rfl er_i (ea_ev rfl (er_p2v (op_s (i := 2) (f := eI) (v := seconds1) rfl) (op_e rfl er_i) op_sub rfl) ea_nil rfl) rfl) rfl) (fun b => is_whole_c _ _ _ _ (by omega)) (by decide) (fun _ => rfl) rfl rfl)) rfl) (kp_t (kp_t (kp_t kp_0))))
theorem first_wrong_c (thing1 : (Int × Int × (List (Int × Int)))) : ∀ k, 3 ≤ k → CR tF WF k 2 [true] encU [.up ((e3 eI eI (eV (e2 eI eI))) thing1)] (P.first_wrong thing1) (isUp (eO eI)) :=
  cr_fn (g := f2) (d := 2) rfl rfl rfl rfl fun k hk => sr_start [.up ((e3 eI eI (eV (e2 eI eI))) thing1), .any, .any, .any, .any] rfl (by
    unfold P.first_wrong
    refine sr_itev (er_orv (er_notv (er_p1v (op_s (i := 0) (f := (e3 eI eI (eV (e2 eI eI)))) (v := thing1) rfl) (op_is1 (z := true) fun _ => rfl) rfl) rfl) (er_one (er_p2v (op_e rfl (er_p1v (op_s (i := 0) (f := (e3 eI eI (eV (e2 eI eI)))) (v := thing1) rfl) op_len3 rfl)) (op_e rfl er_i) (op_ne (f := eI) (leB rfl)) rfl)) rfl) (kp_t kp_0) rfl ?_ ?_
    · exact sr_ret (Q := (isUp (eO eI))) (np0N rfl) (er_somev (er_p1v (op_e rfl er_i) op_neg rfl) rfl) (kp_t kp_0)
    · refine sr_unp (f := (e3 eI eI (eV (e2 eI eI)))) (l1 := fun u1 => [.up ((e3 eI eI (eV (e2 eI eI))) thing1), .up (eI u1.1), .up (eI u1.2.1), .up ((eV (e2 eI eI)) u1.2.2), .any]) (er_slot (i := 0) (f := (e3 eI eI (eV (e2 eI eI)))) (v := thing1) rfl) (fun u1 => (tg_tp (tgs_cons (tg_nm (ltB rfl) rfl) (tgs_cons (tg_nm (ltB rfl) rfl) (tgs_cons (tg_nm (ltB rfl) rfl) tgs_nil))))) (kp_t kp_0) rfl (fun u1 => ?_)
      refine sr_ite (er_not (er_callv (v := ((1 : Int), ((12 : Int), ()))) (mc := fun b => (P.is_whole u1.1 b.1 b.2.1)) (st := [true, true, true]) rfl (ea_u (i := 1) rfl (ea_ev rfl er_i (ea_ev rfl er_gi ea_nil rfl) rfl)) (fun b => is_whole_c _ _ _ _ (by omega)) (by decide) (fun _ => rfl) rfl rfl) rfl) (kp_t kp_0) rfl ?_ ?_
      · exact sr_ret (Q := (isUp (eO eI))) (np0N rfl) (er_somev (er_p1v (op_e rfl er_i) op_neg rfl) rfl) (kp_t kp_0)
      · refine sr_ite (er_not (er_callv (v := ((1 : Int), ((12 : Int), ()))) (mc := fun b => (P.is_whole u1.2.1 b.1 b.2.1)) (st := [true, true, true]) rfl (ea_u (i := 2) rfl (ea_ev rfl er_i (ea_ev rfl er_gi ea_nil rfl) rfl)) (fun b => is_whole_c _ _ _ _ (by omega)) (by decide) (fun _ => rfl) rfl rfl) rfl) (kp_t kp_0) rfl ?_ ?_
        · exact sr_ret (Q := (isUp (eO eI))) (np0N rfl) (er_somev (er_p1v (op_e rfl er_i) op_neg rfl) rfl) (kp_t kp_0)
        · refine sr_itev (er_orv (er_notv (er_p1v (op_s (i := 3) (f := (eV (e2 eI eI))) (v := u1.2.2) rfl) (op_is1 (z := true) fun _ => rfl) rfl) rfl) (er_one (er_p2v (op_e rfl (er_p1v (op_s (i := 3) (f := (eV (e2 eI eI))) (v := u1.2.2) rfl) (op_lenV (f := (e2 eI eI))) rfl)) (op_e rfl er_gi) op_gt rfl)) rfl) (kp_t kp_0) rfl ?_ ?_
          · exact sr_ret (Q := (isUp (eO eI))) (np0N rfl) (er_somev (er_p1v (op_e rfl er_i) op_neg rfl) rfl) (kp_t kp_0)
          · refine sr_forE (Q := (isUp (eO eI))) (kr := S.pure) (lj := fun (t1 : Unit) => [.up ((e3 eI eI (eV (e2 eI eI))) thing1), .up (eI u1.1), .up (eI u1.2.1), .up ((eV (e2 eI eI)) u1.2.2), .any]) (lb := fun t1 at1 => [.up ((e3 eI eI (eV (e2 eI eI))) thing1), .up (eI u1.1), .up (eI u1.2.1), .up ((eV (e2 eI eI)) u1.2.2), .up (eI at1)]) (ei_rng1v (er_p1v (op_s (i := 3) (f := (eV (e2 eI eI))) (v := u1.2.2) rfl) (op_lenV (f := (e2 eI eI))) rfl) rfl) (kp_t kp_0) LE.refl (fun t1 at1 => (tg_nm (ltB rfl) rfl)) hr_fn rfl (fun t1 at1 => ?_) (fun t2 => ?_)
            · refine sr_ite (er_or (er_not (er_call (mc := fun b => (P.is_track b.1 u1.1 u1.2.1)) (st := [true, true, true]) rfl (ea_e rfl (er_p2v (op_s (i := 3) (f := (eV (e2 eI eI))) (v := u1.2.2) rfl) (op_s (i := 4) (f := eI) (v := at1) rfl) (op_ixV (f := (e2 eI eI))) rfl) (ea_u (i := 1) rfl (ea_u (i := 2) rfl ea_nil)) rfl) (fun b => is_track_c _ _ _ _ (by omega)) (by decide) (fun _ => rfl) rfl rfl) rfl) (er_one (er_and (er_p2v (op_s (i := 4) (f := eI) (v := at1) rfl) (op_e rfl er_i) op_gt rfl) (er_one (er_p2 (op_e rfl (er_p2v (op_s (i := 3) (f := (eV (e2 eI eI))) (v := u1.2.2) rfl) (op_s (i := 4) (f := eI) (v := at1) rfl) (op_ixV (f := (e2 eI eI))) rfl)) (op_e rfl (er_p2v (op_s (i := 3) (f := (eV (e2 eI eI))) (v := u1.2.2) rfl) (op_e rfl (er_p2v (op_s (i := 4) (f := eI) (v := at1) rfl) (op_e rfl er_i) op_sub rfl)) (op_ixV (f := (e2 eI eI))) rfl)) op_leP rfl)) rfl)) rfl) (kp_t kp_0) rfl ?_ ?_
              · exact sr_retUE (f := (eO eI)) (v := (some at1)) rfl (leB rfl) (leB rfl) (kp_t kp_0) rfl
              · exact sr_nilF (t := ()) (LE.eq (LE.eq (LE.eq (LE.eq (LE.any LE.refl))))) rfl
            · exact sr_ret (Q := (isUp (eO eI))) (np0N rfl) (er_none (f := eI)) (kp_t kp_0))
theorem made_yard_c (thing1 : (Int × Int × (List (Int × Int)))) : ∀ k, 4 ≤ k → CR tF WF k 3 [true] encU [.up ((e3 eI eI (eV (e2 eI eI))) thing1)] (P.made_yard thing1) (isUp (e3 eI eI (eV (e2 eI eI)))) :=
  cr_fn (g := f3) (d := 3) rfl rfl rfl rfl fun k hk => sr_start [.up ((e3 eI eI (eV (e2 eI eI))) thing1), .any] rfl (by
    unfold P.made_yard
    refine sr_set (f := (eO eI)) (l1 := fun wrong1 => [.up ((e3 eI eI (eV (e2 eI eI))) thing1), .up ((eO eI) wrong1)]) (er_callv (v := ()) (mc := fun _ => (P.first_wrong thing1)) (st := [true]) rfl (ea_u (i := 0) rfl ea_nil) (fun _ => first_wrong_c _ _ (by omega)) (by decide) (fun _ => rfl) rfl rfl) (kp_t kp_0) (ltB rfl) (fun _ => rfl) rfl (fun wrong1 => ?_)
    refine sr_itev (er_p1v (op_s (i := 1) (f := (eO eI)) (v := wrong1) rfl) op_notO rfl) (kp_t kp_0) rfl ?_ ?_
    · exact sr_raisev (g := (eO eI)) (er_slot (i := 1) (f := (eO eI)) (v := wrong1) rfl) (kp_t kp_0) rfl
    · exact sr_ret (Q := (isUp (e3 eI eI (eV (e2 eI eI))))) (np0S rfl) (er_slot (i := 0) (f := (e3 eI eI (eV (e2 eI eI)))) (v := thing1) rfl) (kp_t kp_0))
theorem all_tracks_c (yard1 : (Int × Int × (List (Int × Int)))) : ∀ k, 5 ≤ k → CR tF WF k 6 [true] encU [.up ((e3 eI eI (eV (e2 eI eI))) yard1)] (P.all_tracks yard1) (isUp (eV eI)) :=
  cr_fn (g := f6) (d := 4) rfl rfl rfl rfl fun k hk => sr_start [.up ((e3 eI eI (eV (e2 eI eI))) yard1)] rfl (by
    unfold P.all_tracks
    exact sr_ret (Q := (isUp (eV eI))) (np0N rfl) (er_rgt1 (er_p1 (op_e rfl (er_pj (g := (eV (e2 eI eI))) (op_e rfl (er_callv (v := ()) (mc := fun _ => (P.made_yard yard1)) (st := [true]) rfl (ea_u (i := 0) rfl ea_nil) (fun _ => made_yard_c _ _ (by omega)) (by decide) (fun _ => rfl) rfl rfl)) pj3_2 rfl)) (op_lenV (f := (e2 eI eI))) rfl) rfl) (kp_t kp_0))
theorem is_pick_c (yard1 : (Int × Int × (List (Int × Int)))) (thing1 : (List Int)) : ∀ k, 2 ≤ k → CR tF WF k 4 [true, true] encU [.up ((e3 eI eI (eV (e2 eI eI))) yard1), .up ((eV eI) thing1)] (P.is_pick yard1 thing1) (isUp eB) :=
  cr_fn (g := f4) (d := 1) rfl rfl rfl rfl fun k hk => sr_start [.up ((e3 eI eI (eV (e2 eI eI))) yard1), .up ((eV eI) thing1), .any] rfl (by
    unfold P.is_pick
    refine sr_itev (er_notv (er_p1v (op_s (i := 1) (f := (eV eI)) (v := thing1) rfl) (op_is1 (z := true) fun _ => rfl) rfl) rfl) (kp_t (kp_t kp_0)) rfl ?_ ?_
    · exact sr_ret (Q := (isUp eB)) (np0N rfl) er_b (kp_t (kp_t kp_0))
    · refine sr_forE (Q := (isUp eB)) (kr := S.pure) (lj := fun (t1 : Unit) => [.up ((e3 eI eI (eV (e2 eI eI))) yard1), .up ((eV eI) thing1), .any]) (lb := fun t1 at1 => [.up ((e3 eI eI (eV (e2 eI eI))) yard1), .up ((eV eI) thing1), .up (eI at1)]) (ei_rng1v (er_p1v (op_s (i := 1) (f := (eV eI)) (v := thing1) rfl) (op_lenV (f := eI)) rfl) rfl) (kp_t (kp_t kp_0)) LE.refl (fun t1 at1 => (tg_nm (ltB rfl) rfl)) hr_fn rfl (fun t1 at1 => ?_) (fun t2 => ?_)
      · refine sr_ite (er_or (er_not (er_call (mc := fun b => (P.is_whole b.1 b.2.1 b.2.2.1)) (st := [true, true, true]) rfl (ea_e rfl (er_p2v (op_s (i := 1) (f := (eV eI)) (v := thing1) rfl) (op_s (i := 2) (f := eI) (v := at1) rfl) (op_ixV (f := eI)) rfl) (ea_e rfl er_i (ea_e rfl (er_p2v (op_e rfl (er_p1v (op_e rfl (er_pjv (g := (eV (e2 eI eI))) (op_s (i := 0) (f := (e3 eI eI (eV (e2 eI eI)))) (v := yard1) rfl) pj3_2 rfl)) (op_lenV (f := (e2 eI eI))) rfl)) (op_e rfl er_i) op_sub rfl) ea_nil rfl) rfl) rfl) (fun b => is_whole_c _ _ _ _ (by omega)) (by decide) (fun _ => rfl) rfl rfl) rfl) (er_one (er_and (er_p2v (op_s (i := 2) (f := eI) (v := at1) rfl) (op_e rfl er_i) op_gt rfl) (er_one (er_p2 (op_e rfl (er_p2v (op_s (i := 1) (f := (eV eI)) (v := thing1) rfl) (op_s (i := 2) (f := eI) (v := at1) rfl) (op_ixV (f := eI)) rfl)) (op_e rfl (er_p2v (op_s (i := 1) (f := (eV eI)) (v := thing1) rfl) (op_e rfl (er_p2v (op_s (i := 2) (f := eI) (v := at1) rfl) (op_e rfl er_i) op_sub rfl)) (op_ixV (f := eI)) rfl)) op_le rfl)) rfl)) rfl) (kp_t (kp_t kp_0)) rfl ?_ ?_
        · exact sr_retEv (Q := (isUp eB)) (np0N rfl) er_b (kp_t (kp_t kp_0)) rfl
        · exact sr_nilF (t := ()) (LE.eq (LE.eq (LE.any LE.refl))) rfl
      · exact sr_ret (Q := (isUp eB)) (np0N rfl) er_b (kp_t (kp_t kp_0)))
theorem made_pick_c (yard1 : (Int × Int × (List (Int × Int)))) (thing1 : (List Int)) : ∀ k, 3 ≤ k → CR tF WF k 5 [true, true] encU [.up ((e3 eI eI (eV (e2 eI eI))) yard1), .up ((eV eI) thing1)] (P.made_pick yard1 thing1) (isUp (eV eI)) :=
  cr_fn (g := f5) (d := 2) rfl rfl rfl rfl fun k hk => sr_start [.up ((e3 eI eI (eV (e2 eI eI))) yard1), .up ((eV eI) thing1)] rfl (by
    unfold P.made_pick
    refine sr_ite (er_not (er_callv (v := ()) (mc := fun _ => (P.is_pick yard1 thing1)) (st := [true, true]) rfl (ea_u (i := 0) rfl (ea_u (i := 1) rfl ea_nil)) (fun _ => is_pick_c _ _ _ (by omega)) (by decide) (fun _ => rfl) rfl rfl) rfl) (kp_t (kp_t kp_0)) rfl ?_ ?_
    · exact sr_raisev (g := eI) (er_p1v (op_e rfl er_i) op_neg rfl) (kp_t (kp_t kp_0)) rfl
    · exact sr_ret (Q := (isUp (eV eI))) (np0S rfl) (er_slot (i := 1) (f := (eV eI)) (v := thing1) rfl) (kp_t (kp_t kp_0)))
theorem ends_c (yard1 : (Int × Int × (List (Int × Int)))) (t1 : Int) : ∀ k, 1 ≤ k → CR tF WF k 7 [true, true] encU [.up ((e3 eI eI (eV (e2 eI eI))) yard1), .up (eI t1)] (P.ends yard1 t1) (isUp (e2 eI eI)) :=
  cr_fn (g := f7) (d := 0) rfl rfl rfl rfl fun k hk => sr_start [.up ((e3 eI eI (eV (e2 eI eI))) yard1), .up (eI t1), .any, .any] rfl (by
    unfold P.ends
    refine sr_unp (f := (e2 eI eI)) (l1 := fun u1 => [.up ((e3 eI eI (eV (e2 eI eI))) yard1), .up (eI t1), .up (eI u1.1), .up (eI u1.2)]) (er_p2v (op_e rfl (er_pjv (g := (eV (e2 eI eI))) (op_s (i := 0) (f := (e3 eI eI (eV (e2 eI eI)))) (v := yard1) rfl) pj3_2 rfl)) (op_s (i := 1) (f := eI) (v := t1) rfl) (op_ixV (f := (e2 eI eI))) rfl) (fun u1 => (tg_tp (tgs_cons (tg_nm (ltB rfl) rfl) (tgs_cons (tg_nm (ltB rfl) rfl) tgs_nil)))) (kp_t (kp_t kp_0)) rfl (fun u1 => ?_)
    exact sr_ret (Q := (isUp (e2 eI eI))) (np0N rfl) (er_t2v (er_slot (i := 2) (f := eI) (v := u1.1) rfl) (er_p2v (op_e rfl (er_pjv (g := eI) (op_s (i := 0) (f := (e3 eI eI (eV (e2 eI eI)))) (v := yard1) rfl) pj3_0 rfl)) (op_s (i := 3) (f := eI) (v := u1.2) rfl) op_add rfl) rfl) (kp_t (kp_t kp_0)))
theorem labels_c (yard1 : (Int × Int × (List (Int × Int)))) (pick1 : (List Int)) : ∀ k, 2 ≤ k → CR tF WF k 8 [true, true] encU [.up ((e3 eI eI (eV (e2 eI eI))) yard1), .up ((eV eI) pick1)] (P.labels yard1 pick1) (isOwn (List.map eI)) :=
  cr_fn (g := f8) (d := 1) rfl rfl rfl rfl fun k hk => sr_start [.up ((e3 eI eI (eV (e2 eI eI))) yard1), .up ((eV eI) pick1), .any, .any, .any, .any, .any, .any, .any] rfl (by
    unfold P.labels
    refine sr_setO (f := List.map eI) (l1 := fun found1 => [.up ((e3 eI eI (eV (e2 eI eI))) yard1), .up ((eV eI) pick1), .own (List.map eI found1), .any, .any, .any, .any, .any, .any]) (er_p2v (op_e rfl (er_upO (er_l1v (er_p1v (op_e rfl er_i) op_neg rfl) rfl))) (op_e rfl (er_p2v (op_e rfl (er_pjv (g := eI) (op_s (i := 0) (f := (e3 eI eI (eV (e2 eI eI)))) (v := yard1) rfl) pj3_0 rfl)) (op_e rfl (er_pjv (g := eI) (op_s (i := 0) (f := (e3 eI eI (eV (e2 eI eI)))) (v := yard1) rfl) pj3_1 rfl)) op_add rfl)) (op_rep (f := eI)) rfl) (kp_t (kp_t kp_0)) (ltB rfl) (fun _ => rfl) rfl (fun found1 => ?_)
    refine sr_forv (lj := fun (t1 : (List Int)) => [.up ((e3 eI eI (eV (e2 eI eI))) yard1), .up ((eV eI) pick1), .own (List.map eI t1), .any, .any, .any, .any, .any, .any]) (lb := fun t1 t2 => [.up ((e3 eI eI (eV (e2 eI eI))) yard1), .up ((eV eI) pick1), .own (List.map eI t1), .up (eI t2), .any, .any, .any, .any, .any]) (ei_v (er_slot (i := 1) (f := (eV eI)) (v := pick1) rfl)) (kp_t (kp_t kp_0)) LE.refl (fun t1 t2 => (tg_nm (ltB rfl) rfl)) rfl (fun t1 t2 => ?_) (fun t3 => ?_)
    · refine sr_unp (f := (e2 eI eI)) (l1 := fun u1 => [.up ((e3 eI eI (eV (e2 eI eI))) yard1), .up ((eV eI) pick1), .own (List.map eI t1), .up (eI t2), .up (eI u1.1), .up (eI u1.2), .any, .any, .any]) (er_callv (v := ()) (mc := fun _ => (P.ends yard1 t2)) (st := [true, true]) rfl (ea_u (i := 0) rfl (ea_u (i := 3) rfl ea_nil)) (fun _ => ends_c _ _ _ (by omega)) (by decide) (fun _ => rfl) rfl rfl) (fun u1 => (tg_tp (tgs_cons (tg_nm (ltB rfl) rfl) (tgs_cons (tg_nm (ltB rfl) rfl) tgs_nil)))) (kp_t (kp_t kp_0)) rfl (fun u1 => ?_)
      refine sr_set (f := eI) (l1 := fun low1 => [.up ((e3 eI eI (eV (e2 eI eI))) yard1), .up ((eV eI) pick1), .own (List.map eI t1), .up (eI t2), .up (eI u1.1), .up (eI u1.2), .up (eI low1), .any, .any]) (er_p2 (op_e rfl (er_ife (er_p2 (op_e rfl (er_p2v (op_o (i := 2) (f := eL eI) (v := t1) rfl (Pe.all _) rfl) (op_s (i := 4) (f := eI) (v := u1.1) rfl) (op_ixL (f := eI)) rfl)) (op_e rfl er_i) op_ge rfl) (er_p2v (op_o (i := 2) (f := eL eI) (v := t1) rfl (Pe.all _) rfl) (op_s (i := 4) (f := eI) (v := u1.1) rfl) (op_ixL (f := eI)) rfl) (er_slot (i := 4) (f := eI) (v := u1.1) rfl) rfl)) (op_e rfl (er_ife (er_p2 (op_e rfl (er_p2v (op_o (i := 2) (f := eL eI) (v := t1) rfl (Pe.all _) rfl) (op_s (i := 5) (f := eI) (v := u1.2) rfl) (op_ixL (f := eI)) rfl)) (op_e rfl er_i) op_ge rfl) (er_p2v (op_o (i := 2) (f := eL eI) (v := t1) rfl (Pe.all _) rfl) (op_s (i := 5) (f := eI) (v := u1.2) rfl) (op_ixL (f := eI)) rfl) (er_slot (i := 5) (f := eI) (v := u1.2) rfl) rfl)) op_min rfl) (kp_t (kp_t kp_0)) (ltB rfl) (fun _ => rfl) rfl (fun low1 => ?_)
      refine sr_set (f := (e2 eI eI)) (l1 := fun old1 => [.up ((e3 eI eI (eV (e2 eI eI))) yard1), .up ((eV eI) pick1), .own (List.map eI t1), .up (eI t2), .up (eI u1.1), .up (eI u1.2), .up (eI low1), .up ((e2 eI eI) old1), .any]) (er_t2 (er_p2v (op_o (i := 2) (f := eL eI) (v := t1) rfl (Pe.all _) rfl) (op_s (i := 4) (f := eI) (v := u1.1) rfl) (op_ixL (f := eI)) rfl) (er_p2v (op_o (i := 2) (f := eL eI) (v := t1) rfl (Pe.all _) rfl) (op_s (i := 5) (f := eI) (v := u1.2) rfl) (op_ixL (f := eI)) rfl) rfl) (kp_t (kp_t kp_0)) (ltB rfl) (fun _ => rfl) rfl (fun old1 => ?_)
      refine sr_setO (f := List.map eI) (l1 := fun found2 => [.up ((e3 eI eI (eV (e2 eI eI))) yard1), .up ((eV eI) pick1), .own (List.map eI found2), .up (eI t2), .up (eI u1.1), .up (eI u1.2), .up (eI low1), .up ((e2 eI eI) old1), .any]) (er_ownC (er_compSm (h := eI) (fun label1 => [.up ((e3 eI eI (eV (e2 eI eI))) yard1), .up ((eV eI) pick1), .any, .up (eI t2), .up (eI u1.1), .up (eI u1.2), .up (eI low1), .up ((e2 eI eI) old1), .up (eI label1)]) rfl (fun label1 => (tg_nm (ltB rfl) rfl)) (fun _ => rfl) rfl rfl (fun label1 => (er_ifev (er_andv (er_p2v (op_s (i := 8) (f := eI) (v := label1) rfl) (op_e rfl er_i) op_ge rfl) (er_one (er_p2v (op_s (i := 8) (f := eI) (v := label1) rfl) (op_s (i := 7) (f := (e2 eI eI)) (v := old1) rfl) op_in2 rfl)) rfl) (er_slot (i := 6) (f := eI) (v := low1) rfl) (er_slot (i := 8) (f := eI) (v := label1) rfl) rfl)) rfl)) (kp_t (kp_t kp_0)) (ltB rfl) (fun _ => rfl) rfl (fun found2 => ?_)
      refine sr_unpSub2 (ys := fun found3 => found3) (mj := fun found3 => (S.pure u1.2)) (l1 := fun found3 => [.up ((e3 eI eI (eV (e2 eI eI))) yard1), .up ((eV eI) pick1), .own (List.map eI found3), .up (eI t2), .up (eI u1.1), .up (eI u1.2), .up (eI low1), .up ((e2 eI eI) old1), .any]) (l2 := fun found3 found4 => [.up ((e3 eI eI (eV (e2 eI eI))) yard1), .up ((eV eI) pick1), .own (List.map eI found4), .up (eI t2), .up (eI u1.1), .up (eI u1.2), .up (eI low1), .up ((e2 eI eI) old1), .any]) (er_slot (i := 6) (f := eI) (v := low1) rfl) (er_slot (i := 6) (f := eI) (v := low1) rfl) rfl (er_slot (i := 4) (f := eI) (v := u1.1) rfl) (kp_t (kp_t kp_0)) (fun _ => rfl) (fun _ => (kp_t (kp_t kp_0))) (fun _ => rfl) (fun found3 => (er_slot (i := 5) (f := eI) (v := u1.2) rfl)) (fun _ _ => rfl) rfl (fun found3 found4 => ?_)
      exact sr_nilL (t := found4) (LE.eq (LE.eq (LE.eq (LE.any (LE.any (LE.any (LE.any (LE.any LE.refl)))))))) rfl
    · exact sr_retO (f := List.map eI) (v := t3) rfl (leB rfl) (leB rfl) (kp_t (kp_t kp_0)) rfl)
theorem joins_c (yard1 : (Int × Int × (List (Int × Int)))) (pick1 : (List Int)) : ∀ k, 3 ≤ k → CR tF WF k 9 [true, true] encU [.up ((e3 eI eI (eV (e2 eI eI))) yard1), .up ((eV eI) pick1)] (P.joins yard1 pick1) (isUp eI) :=
  cr_fn (g := f9) (d := 2) rfl rfl rfl rfl fun k hk => sr_start [.up ((e3 eI eI (eV (e2 eI eI))) yard1), .up ((eV eI) pick1), .any, .any] rfl (by
    unfold P.joins
    refine sr_set (f := (eL eI)) (l1 := fun found1 => [.up ((e3 eI eI (eV (e2 eI eI))) yard1), .up ((eV eI) pick1), .up ((eL eI) found1), .any]) (er_upO (er_callv (v := ()) (mc := fun _ => (P.labels yard1 pick1)) (st := [true, true]) rfl (ea_u (i := 0) rfl (ea_u (i := 1) rfl ea_nil)) (fun _ => labels_c _ _ _ (by omega)) (by decide) (fun _ => rfl) rfl rfl)) (kp_t (kp_t kp_0)) (ltB rfl) (fun _ => rfl) rfl (fun found1 => ?_)
    exact sr_ret (Q := (isUp eI)) (np0N rfl) (er_p1 (op_e rfl (er_upC (er_comp (h := eI) (fun lane1 => [.up ((e3 eI eI (eV (e2 eI eI))) yard1), .up ((eV eI) pick1), .up ((eL eI) found1), .up (eI lane1)]) (ei_rng1v (er_p1v (op_s (i := 2) (f := (eL eI)) (v := found1) rfl) (op_lenL (f := eI)) rfl) rfl) (fun lane1 => (tg_nm (ltB rfl) rfl)) (fun _ => rfl) rfl rfl (fun lane1 => (ec_cons (er_and (er_p2 (op_e rfl (er_p2v (op_s (i := 2) (f := (eL eI)) (v := found1) rfl) (op_s (i := 3) (f := eI) (v := lane1) rfl) (op_ixL (f := eI)) rfl)) (op_e rfl er_i) op_ge rfl) (er_one (er_p2 (op_e rfl (er_p2v (op_s (i := 2) (f := (eL eI)) (v := found1) rfl) (op_s (i := 3) (f := eI) (v := lane1) rfl) (op_ixL (f := eI)) rfl)) (op_s (i := 3) (f := eI) (v := lane1) rfl) (op_ne (f := eI) (leB rfl)) rfl)) rfl))) (fun lane1 => (er_slot (i := 3) (f := eI) (v := lane1) rfl)) rfl))) (op_lenL (f := eI)) rfl) (kp_t (kp_t kp_0)))
theorem rank_c (yard1 : (Int × Int × (List (Int × Int)))) (pick1 : (List Int)) : ∀ k, 5 ≤ k → CR tF WF k 11 [true, true] encU [.up ((e3 eI eI (eV (e2 eI eI))) yard1), .up ((eV eI) pick1)] (P.rank yard1 pick1) (isUp eI) :=
  cr_fn (g := f11) (d := 4) rfl rfl rfl rfl fun k hk => sr_start [.up ((e3 eI eI (eV (e2 eI eI))) yard1), .up ((eV eI) pick1)] rfl (by
    unfold P.rank
    refine sr_drop (er_callv (v := ()) (mc := fun _ => (P.made_yard yard1)) (st := [true]) rfl (ea_u (i := 0) rfl ea_nil) (fun _ => made_yard_c _ _ (by omega)) (by decide) (fun _ => rfl) rfl rfl) (kp_t (kp_t kp_0)) rfl (fun _ => ?_)
    exact sr_ret (Q := (isUp eI)) (np0N rfl) (er_call (mc := fun b => (P.joins yard1 b.1)) (st := [true, true]) rfl (ea_u (i := 0) rfl (ea_e rfl (er_callv (v := ()) (mc := fun _ => (P.made_pick yard1 pick1)) (st := [true, true]) rfl (ea_u (i := 0) rfl (ea_u (i := 1) rfl ea_nil)) (fun _ => made_pick_c _ _ _ (by omega)) (by decide) (fun _ => rfl) rfl rfl) ea_nil rfl)) (fun b => joins_c _ _ _ (by omega)) (by decide) (fun _ => rfl) rfl rfl) (kp_t (kp_t kp_0)))
theorem worth_c (yard1 : (Int × Int × (List (Int × Int)))) : ∀ k, 6 ≤ k → CR tF WF k 12 [true] encU [.up ((e3 eI eI (eV (e2 eI eI))) yard1)] (P.worth yard1) (isUp eI) :=
  cr_fn (g := f12) (d := 5) rfl rfl rfl rfl fun k hk => sr_start [.up ((e3 eI eI (eV (e2 eI eI))) yard1)] rfl (by
    unfold P.worth
    exact sr_ret (Q := (isUp eI)) (np0N rfl) (er_call (mc := fun b => (P.rank yard1 b.1)) (st := [true, true]) rfl (ea_u (i := 0) rfl (ea_e rfl (er_callv (v := ()) (mc := fun _ => (P.all_tracks yard1)) (st := [true]) rfl (ea_u (i := 0) rfl ea_nil) (fun _ => all_tracks_c _ _ (by omega)) (by decide) (fun _ => rfl) rfl rfl) ea_nil rfl)) (fun b => rank_c _ _ _ (by omega)) (by decide) (fun _ => rfl) rfl rfl) (kp_t kp_0))
theorem law_is_whole_c (thing1 : Int) : ∀ k, 1 ≤ k → CR tF WF k 17 [true] encU [.up (eI thing1)] (P.law_is_whole thing1) (isUp eB) :=
  cr_fn (g := f17) (d := 0) rfl rfl rfl rfl fun k hk => sr_start [.up (eI thing1)] rfl (by
    unfold P.law_is_whole
    exact sr_ret (Q := (isUp eB)) (np0N rfl) (er_andv (er_p1v (op_s (i := 0) (f := eI) (v := thing1) rfl) (op_is1 (z := true) fun _ => rfl) rfl) (er_one (er_notv (er_p1v (op_s (i := 0) (f := eI) (v := thing1) rfl) (op_is1 (z := false) fun _ => rfl) rfl) rfl)) rfl) (kp_t kp_0))
theorem law_web_ends_c (yard1 : (Int × Int × (List (Int × Int)))) (t1 : Int) : ∀ k, 1 ≤ k → CR tF WF k 20 [true, true] encU [.up ((e3 eI eI (eV (e2 eI eI))) yard1), .up (eI t1)] (P.law_web_ends yard1 t1) (isOwn (List.map eI)) :=
  cr_fn (g := f20) (d := 0) rfl rfl rfl rfl fun k hk => sr_start [.up ((e3 eI eI (eV (e2 eI eI))) yard1), .up (eI t1)] rfl (by
    unfold P.law_web_ends
    exact sr_ret (Q := (isOwn (List.map eI))) (np0N rfl) (er_l2 (er_pj (g := eI) (op_e rfl (er_p2v (op_e rfl (er_pjv (g := (eV (e2 eI eI))) (op_s (i := 0) (f := (e3 eI eI (eV (e2 eI eI)))) (v := yard1) rfl) pj3_2 rfl)) (op_s (i := 1) (f := eI) (v := t1) rfl) (op_ixV (f := (e2 eI eI))) rfl)) pj2_0 rfl) (er_p2 (op_e rfl (er_pjv (g := eI) (op_s (i := 0) (f := (e3 eI eI (eV (e2 eI eI)))) (v := yard1) rfl) pj3_0 rfl)) (op_e rfl (er_pj (g := eI) (op_e rfl (er_p2v (op_e rfl (er_pjv (g := (eV (e2 eI eI))) (op_s (i := 0) (f := (e3 eI eI (eV (e2 eI eI)))) (v := yard1) rfl) pj3_2 rfl)) (op_s (i := 1) (f := eI) (v := t1) rfl) (op_ixV (f := (e2 eI eI))) rfl)) pj2_1 rfl)) op_add rfl) rfl) (kp_t (kp_t kp_0)))
theorem law_web_reached_c (yard1 : (Int × Int × (List (Int × Int)))) (pick1 : (List Int)) (lane1 : Int) : ∀ k, 2 ≤ k → CR tF WF k 21 [true, true, true] encU [.up ((e3 eI eI (eV (e2 eI eI))) yard1), .up ((eV eI) pick1), .up (eI lane1)] (P.law_web_reached yard1 pick1 lane1) (isOwn (List.map eI)) :=
  cr_fn (g := f21) (d := 1) rfl rfl rfl rfl fun k hk => sr_start [.up ((e3 eI eI (eV (e2 eI eI))) yard1), .up ((eV eI) pick1), .up (eI lane1), .any, .any, .any, .any, .any, .any, .any] rfl (by
    unfold P.law_web_reached
    refine par2_any (sl := fun v => .up ((eL eI) v)) (sl' := fun v => .up ((eL eI) v)) (l1 := fun found1 left1 => [.up ((e3 eI eI (eV (e2 eI eI))) yard1), .up ((eV eI) pick1), .up (eI lane1), .up ((eL eI) found1), .up ((eL eI) left1), .any, .any, .any, .any, .any]) (er_upO (er_l1v (er_slot (i := 2) (f := eI) (v := lane1) rfl) rfl)) (er_upO (er_l1v (er_slot (i := 2) (f := eI) (v := lane1) rfl) rfl)) (fun _ _ _ q => q) (fun _ _ _ q => q) (kp_t (kp_t (kp_t kp_0))) (ltB rfl) (ltB rfl) (fun _ _ => rfl) rfl (fun found1 left1 => ?_)
    refine sr_for (lj := fun (t1 : ((List Int) × (List Int))) => [.up ((e3 eI eI (eV (e2 eI eI))) yard1), .up ((eV eI) pick1), .up (eI lane1), .up ((eL eI) t1.1), .up ((eL eI) t1.2), .any, .any, .any, .any, .any]) (lb := fun t1 turn1 => [.up ((e3 eI eI (eV (e2 eI eI))) yard1), .up ((eV eI) pick1), .up (eI lane1), .up ((eL eI) t1.1), .up ((eL eI) t1.2), .up (eI turn1), .any, .any, .any, .any]) (ei_rng1v (er_p2v (op_e rfl (er_pjv (g := eI) (op_s (i := 0) (f := (e3 eI eI (eV (e2 eI eI)))) (v := yard1) rfl) pj3_0 rfl)) (op_e rfl (er_pjv (g := eI) (op_s (i := 0) (f := (e3 eI eI (eV (e2 eI eI)))) (v := yard1) rfl) pj3_1 rfl)) op_add rfl) rfl) (kp_t (kp_t (kp_t kp_0))) LE.refl (fun t1 turn1 => (tg_nm (ltB rfl) rfl)) rfl (fun t1 turn1 => ?_) (fun t6 => ?_)
    · refine sr_setO (f := List.map eI) (l1 := fun ahead1 => [.up ((e3 eI eI (eV (e2 eI eI))) yard1), .up ((eV eI) pick1), .up (eI lane1), .up ((eL eI) t1.1), .up ((eL eI) t1.2), .up (eI turn1), .own (List.map eI ahead1), .any, .any, .any]) (er_l0 (f := eI) rfl) (kp_t (kp_t (kp_t kp_0))) (ltB rfl) (fun _ => rfl) rfl (fun ahead1 => ?_)
      refine sr_forv (lj := fun (t2 : (List Int)) => [.up ((e3 eI eI (eV (e2 eI eI))) yard1), .up ((eV eI) pick1), .up (eI lane1), .up ((eL eI) t1.1), .up ((eL eI) t1.2), .up (eI turn1), .own (List.map eI t2), .any, .any, .any]) (lb := fun t2 t3 => [.up ((e3 eI eI (eV (e2 eI eI))) yard1), .up ((eV eI) pick1), .up (eI lane1), .up ((eL eI) t1.1), .up ((eL eI) t1.2), .up (eI turn1), .own (List.map eI t2), .up (eI t3), .any, .any]) (ei_v (er_slot (i := 1) (f := (eV eI)) (v := pick1) rfl)) (kp_t (kp_t (kp_t kp_0))) LE.refl (fun t2 t3 => (tg_nm (ltB rfl) rfl)) rfl (fun t2 t3 => ?_) (fun t5 => ?_)
      · refine sr_unp (f := (eF2 eI eI)) (l1 := fun u1 => [.up ((e3 eI eI (eV (e2 eI eI))) yard1), .up ((eV eI) pick1), .up (eI lane1), .up ((eL eI) t1.1), .up ((eL eI) t1.2), .up (eI turn1), .own (List.map eI t2), .up (eI t3), .up (eI u1.1), .up (eI u1.2)]) (er_castO (f := (eL eI)) (g := (eF2 eI eI)) as2 (er_upO (er_callv (v := ()) (mc := fun _ => (P.law_web_ends yard1 t3)) (st := [true, true]) rfl (ea_u (i := 0) rfl (ea_u (i := 7) rfl ea_nil)) (fun _ => law_web_ends_c _ _ _ (by omega)) (by decide) (fun _ => rfl) rfl rfl)) castF2 rfl) (fun u1 => (tg_f2 (tgs_cons (tg_nm (ltB rfl) rfl) (tgs_cons (tg_nm (ltB rfl) rfl) tgs_nil)))) (kp_t (kp_t (kp_t kp_0))) rfl (fun u1 => ?_)
        refine sr_iteJ (lj := fun (t4 : (List Int)) => [.up ((e3 eI eI (eV (e2 eI eI))) yard1), .up ((eV eI) pick1), .up (eI lane1), .up ((eL eI) t1.1), .up ((eL eI) t1.2), .up (eI turn1), .own (List.map eI t4), .up (eI t3), .up (eI u1.1), .up (eI u1.2)]) (er_and (er_p2v (op_s (i := 8) (f := eI) (v := u1.1) rfl) (op_s (i := 4) (f := (eL eI)) (v := t1.2) rfl) op_inL rfl) (er_one (er_p2 (op_s (i := 9) (f := eI) (v := u1.2) rfl) (op_e rfl (er_upO (er_p2v (op_s (i := 3) (f := (eL eI)) (v := t1.1) rfl) (op_o (i := 6) (f := eL eI) (v := t2) rfl (Pe.all _) rfl) (op_catL (f := eI)) rfl))) op_ninL rfl)) rfl) (kp_t (kp_t (kp_t kp_0))) rfl ?_ ?_ (fun t4 => ?_)
        · refine sr_append (f := eI) (xs := t2) (l1 := fun v2 => [.up ((e3 eI eI (eV (e2 eI eI))) yard1), .up ((eV eI) pick1), .up (eI lane1), .up ((eL eI) t1.1), .up ((eL eI) t1.2), .up (eI turn1), .own (List.map eI (t2 ++ [v2])), .up (eI t3), .up (eI u1.1), .up (eI u1.2)]) rfl (er_slot (i := 9) (f := eI) (v := u1.2) rfl) (nl_eq (f := eI)) (kp_t (kp_t (kp_t kp_0))) (fun _ => rfl) rfl (fun v2 => ?_)
          exact sr_nilJ (t := (t2 ++ [v2])) LE.refl rfl
        · exact sr_nilJ (t := t2) LE.refl rfl
        · refine sr_ite (er_and (er_p2v (op_s (i := 9) (f := eI) (v := u1.2) rfl) (op_s (i := 4) (f := (eL eI)) (v := t1.2) rfl) op_inL rfl) (er_one (er_p2 (op_s (i := 8) (f := eI) (v := u1.1) rfl) (op_e rfl (er_upO (er_p2v (op_s (i := 3) (f := (eL eI)) (v := t1.1) rfl) (op_o (i := 6) (f := eL eI) (v := t4) rfl (Pe.all _) rfl) (op_catL (f := eI)) rfl))) op_ninL rfl)) rfl) (kp_t (kp_t (kp_t kp_0))) rfl ?_ ?_
          · refine sr_append (f := eI) (xs := t4) (l1 := fun v3 => [.up ((e3 eI eI (eV (e2 eI eI))) yard1), .up ((eV eI) pick1), .up (eI lane1), .up ((eL eI) t1.1), .up ((eL eI) t1.2), .up (eI turn1), .own (List.map eI (t4 ++ [v3])), .up (eI t3), .up (eI u1.1), .up (eI u1.2)]) rfl (er_slot (i := 8) (f := eI) (v := u1.1) rfl) (nl_eq (f := eI)) (kp_t (kp_t (kp_t kp_0))) (fun _ => rfl) rfl (fun v3 => ?_)
            exact sr_nilL (t := (t4 ++ [v3])) (LE.eq (LE.eq (LE.eq (LE.eq (LE.eq (LE.eq (LE.eq (LE.any (LE.any (LE.any LE.refl)))))))))) rfl
          · exact sr_nilL (t := t4) (LE.eq (LE.eq (LE.eq (LE.eq (LE.eq (LE.eq (LE.eq (LE.any (LE.any (LE.any LE.refl)))))))))) rfl
      · refine sr_le (LE.eq (LE.eq (LE.eq (LE.eq (LE.eq (LE.eq (LE.ou LE.refl))))))) ?_
        refine par2_any (sl := fun v => .up ((eL eI) v)) (sl' := fun v => .up ((eL eI) v)) (l1 := fun found2 left2 => [.up ((e3 eI eI (eV (e2 eI eI))) yard1), .up ((eV eI) pick1), .up (eI lane1), .up ((eL eI) found2), .up ((eL eI) left2), .up (eI turn1), .up ((eL eI) t5), .any, .any, .any]) (er_upO (er_p2v (op_s (i := 3) (f := (eL eI)) (v := t1.1) rfl) (op_s (i := 6) (f := (eL eI)) (v := t5) rfl) (op_catL (f := eI)) rfl)) (er_slot (i := 6) (f := (eL eI)) (v := t5) rfl) (fun _ _ _ q => q) (fun _ _ _ q => q) (kp_t (kp_t (kp_t kp_0))) (ltB rfl) (ltB rfl) (fun _ _ => rfl) rfl (fun found2 left2 => ?_)
        exact sr_nilL (t := (found2, left2)) (LE.eq (LE.eq (LE.eq (LE.eq (LE.eq (LE.any (LE.any LE.refl))))))) rfl
    · exact sr_ret (Q := (isOwn (List.map eI))) (np0N rfl) (er_p1v (op_s (i := 3) (f := (eL eI)) (v := t6.1) rfl) op_sort rfl) (kp_t (kp_t (kp_t kp_0))))
theorem law_web_pieces_c (yard1 : (Int × Int × (List (Int × Int)))) (pick1 : (List Int)) : ∀ k, 3 ≤ k → CR tF WF k 22 [true, true] encU [.up ((e3 eI eI (eV (e2 eI eI))) yard1), .up ((eV eI) pick1)] (P.law_web_pieces yard1 pick1) (isUp (eV (eV eI))) :=
  cr_fn (g := f22) (d := 2) rfl rfl rfl rfl fun k hk => sr_start [.up ((e3 eI eI (eV (e2 eI eI))) yard1), .up ((eV eI) pick1), .any, .any, .any, .any] rfl (by
    unfold P.law_web_pieces
    refine sr_setO (f := List.map (eV eI)) (l1 := fun found1 => [.up ((e3 eI eI (eV (e2 eI eI))) yard1), .up ((eV eI) pick1), .own (List.map (eV eI) found1), .any, .any, .any]) (er_l0 (f := (eV eI)) rfl) (kp_t (kp_t kp_0)) (ltB rfl) (fun _ => rfl) rfl (fun found1 => ?_)
    refine sr_for (lj := fun (t1 : (List (List Int))) => [.up ((e3 eI eI (eV (e2 eI eI))) yard1), .up ((eV eI) pick1), .own (List.map (eV eI) t1), .any, .any, .any]) (lb := fun t1 lane1 => [.up ((e3 eI eI (eV (e2 eI eI))) yard1), .up ((eV eI) pick1), .own (List.map (eV eI) t1), .up (eI lane1), .any, .any]) (ei_rng1v (er_p2v (op_e rfl (er_pjv (g := eI) (op_s (i := 0) (f := (e3 eI eI (eV (e2 eI eI)))) (v := yard1) rfl) pj3_0 rfl)) (op_e rfl (er_pjv (g := eI) (op_s (i := 0) (f := (e3 eI eI (eV (e2 eI eI)))) (v := yard1) rfl) pj3_1 rfl)) op_add rfl) rfl) (kp_t (kp_t kp_0)) LE.refl (fun t1 lane1 => (tg_nm (ltB rfl) rfl)) rfl (fun t1 lane1 => ?_) (fun t3 => ?_)
    · refine sr_ite (er_and (er_p2 (op_e rfl (er_upC (er_comp (h := eI) (fun t2 => [.up ((e3 eI eI (eV (e2 eI eI))) yard1), .up ((eV eI) pick1), .own (List.map (eV eI) t1), .up (eI lane1), .up (eI t2), .any]) (ei_v (er_slot (i := 1) (f := (eV eI)) (v := pick1) rfl)) (fun t2 => (tg_nm (ltB rfl) rfl)) (fun _ => rfl) rfl rfl (fun t2 => (ec_cons (er_p2 (op_s (i := 3) (f := eI) (v := lane1) rfl) (op_e rfl (er_upO (er_callv (v := ()) (mc := fun _ => (P.law_web_ends yard1 t2)) (st := [true, true]) rfl (ea_u (i := 0) rfl (ea_u (i := 4) rfl ea_nil)) (fun _ => law_web_ends_c _ _ _ (by omega)) (by decide) (fun _ => rfl) rfl rfl))) op_inL rfl))) (fun t2 => (er_slot (i := 4) (f := eI) (v := t2) rfl)) rfl))) (op_e rfl (er_upO (er_l0 (f := eI) rfl))) (op_ne (f := (eL eI)) (leB rfl)) rfl) (er_one (er_p2 (op_e rfl (er_upC (er_compSv (h := (eV eI)) (fun lot1 => [.up ((e3 eI eI (eV (e2 eI eI))) yard1), .up ((eV eI) pick1), .any, .up (eI lane1), .any, .up ((eV eI) lot1)]) rfl (fun lot1 => (tg_nm (ltB rfl) rfl)) (fun _ => rfl) rfl rfl (fun lot1 => (ec_cons (er_p2v (op_s (i := 3) (f := eI) (v := lane1) rfl) (op_s (i := 5) (f := (eV eI)) (v := lot1) rfl) op_inV rfl))) (fun lot1 => (er_slot (i := 5) (f := (eV eI)) (v := lot1) rfl)) rfl))) (op_e rfl (er_upO (er_l0 (f := (eV eI)) rfl))) (op_eq (f := (eL (eV eI))) (leB rfl)) rfl)) rfl) (kp_t (kp_t kp_0)) rfl ?_ ?_
      · refine sr_append (f := (eV eI)) (xs := t1) (l1 := fun v1 => [.up ((e3 eI eI (eV (e2 eI eI))) yard1), .up ((eV eI) pick1), .own (List.map (eV eI) (t1 ++ [v1])), .up (eI lane1), .any, .any]) rfl (er_p1 (op_e rfl (er_upO (er_callv (v := ()) (mc := fun _ => (P.law_web_reached yard1 pick1 lane1)) (st := [true, true, true]) rfl (ea_u (i := 0) rfl (ea_u (i := 1) rfl (ea_u (i := 3) rfl ea_nil))) (fun _ => law_web_reached_c _ _ _ _ (by omega)) (by decide) (fun _ => rfl) rfl rfl))) (op_tupL (f := eI)) rfl) (nl_eq (f := (eV eI))) (kp_t (kp_t kp_0)) (fun _ => rfl) rfl (fun v1 => ?_)
        exact sr_nilL (t := (t1 ++ [v1])) (LE.eq (LE.eq (LE.eq (LE.any LE.refl)))) rfl
      · exact sr_nilL (t := t1) (LE.eq (LE.eq (LE.eq (LE.any LE.refl)))) rfl
    · exact sr_ret (Q := (isUp (eV (eV eI)))) (np0N rfl) (er_p1v (op_o (i := 2) (f := eL (eV eI)) (v := t3) rfl (Pe.all _) rfl) (op_tupL (f := (eV eI))) rfl) (kp_t (kp_t kp_0)))
theorem law_web_rank_c (yard1 : (Int × Int × (List (Int × Int)))) (pick1 : (List Int)) : ∀ k, 4 ≤ k → CR tF WF k 23 [true, true] encU [.up ((e3 eI eI (eV (e2 eI eI))) yard1), .up ((eV eI) pick1)] (P.law_web_rank yard1 pick1) (isUp eI) :=
  cr_fn (g := f23) (d := 3) rfl rfl rfl rfl fun k hk => sr_start [.up ((e3 eI eI (eV (e2 eI eI))) yard1), .up ((eV eI) pick1), .any, .any] rfl (by
    unfold P.law_web_rank
    refine sr_set (f := (eV (eV eI))) (l1 := fun lots1 => [.up ((e3 eI eI (eV (e2 eI eI))) yard1), .up ((eV eI) pick1), .up ((eV (eV eI)) lots1), .any]) (er_callv (v := ()) (mc := fun _ => (P.law_web_pieces yard1 pick1)) (st := [true, true]) rfl (ea_u (i := 0) rfl (ea_u (i := 1) rfl ea_nil)) (fun _ => law_web_pieces_c _ _ _ (by omega)) (by decide) (fun _ => rfl) rfl rfl) (kp_t (kp_t kp_0)) (ltB rfl) (fun _ => rfl) rfl (fun lots1 => ?_)
    exact sr_ret (Q := (isUp eI)) (np0N rfl) (er_p2 (op_e rfl (er_p1 (op_e rfl (er_upC (er_compm (h := eI) (fun lot1 => [.up ((e3 eI eI (eV (e2 eI eI))) yard1), .up ((eV eI) pick1), .up ((eV (eV eI)) lots1), .up ((eV eI) lot1)]) (ei_v (er_slot (i := 2) (f := (eV (eV eI))) (v := lots1) rfl)) (fun lot1 => (tg_nm (ltB rfl) rfl)) (fun _ => rfl) rfl rfl (fun lot1 => (er_p1v (op_s (i := 3) (f := (eV eI)) (v := lot1) rfl) (op_lenV (f := eI)) rfl)) rfl))) op_sum rfl)) (op_e rfl (er_p1v (op_s (i := 2) (f := (eV (eV eI))) (v := lots1) rfl) (op_lenV (f := (eV eI))) rfl)) op_sub rfl) (kp_t (kp_t kp_0)))
theorem check_lane_c (lane1 : Int) (many1 : Int) : ∀ k, 2 ≤ k → CR tF WF k 13 [true, true] encU [.up (eI lane1), .up (eI many1)] (P.check_lane lane1 many1) (isUp eU) :=
  cr_fn (g := f13) (d := 1) rfl rfl rfl rfl fun k hk => sr_start [.up (eI lane1), .up (eI many1)] rfl (by
    unfold P.check_lane
    refine sr_ite (er_not (er_callv (v := ((0 : Int), ((many1 - (1 : Int)), ()))) (mc := fun b => (P.is_whole lane1 b.1 b.2.1)) (st := [true, true, true]) rfl (ea_u (i := 0) rfl (ea_ev rfl er_i (ea_ev rfl (er_p2v (op_s (i := 1) (f := eI) (v := many1) rfl) (op_e rfl er_i) op_sub rfl) ea_nil rfl) rfl)) (fun b => is_whole_c _ _ _ _ (by omega)) (by decide) (fun _ => rfl) rfl rfl) rfl) (kp_t (kp_t kp_0)) rfl ?_ ?_
    · exact sr_raisev (g := eI) (er_slot (i := 0) (f := eI) (v := lane1) rfl) (kp_t (kp_t kp_0)) rfl
    · exact sr_nilD (kp_t (kp_t kp_0)) ⟨(fun q => by cases q), frz_non⟩ rfl)
theorem pieces_c (yard1 : (Int × Int × (List (Int × Int)))) (pick1 : (List Int)) : ∀ k, 5 ≤ k → CR tF WF k 10 [true, true] encU [.up ((e3 eI eI (eV (e2 eI eI))) yard1), .up ((eV eI) pick1)] (P.pieces yard1 pick1) (isUp (eV (eV eI))) :=
  cr_fn (g := f10) (d := 4) rfl rfl rfl rfl fun k hk => sr_start [.up ((e3 eI eI (eV (e2 eI eI))) yard1), .up ((eV eI) pick1), .any, .any, .any, .any] rfl (by
    unfold P.pieces
    refine sr_drop (er_callv (v := ()) (mc := fun _ => (P.made_yard yard1)) (st := [true]) rfl (ea_u (i := 0) rfl ea_nil) (fun _ => made_yard_c _ _ (by omega)) (by decide) (fun _ => rfl) rfl rfl) (kp_t (kp_t kp_0)) rfl (fun _ => ?_)
    refine sr_set (f := (eL eI)) (l1 := fun found1 => [.up ((e3 eI eI (eV (e2 eI eI))) yard1), .up ((eV eI) pick1), .up ((eL eI) found1), .any, .any, .any]) (er_upO (er_call (mc := fun b => (P.labels yard1 b.1)) (st := [true, true]) rfl (ea_u (i := 0) rfl (ea_e rfl (er_callv (v := ()) (mc := fun _ => (P.made_pick yard1 pick1)) (st := [true, true]) rfl (ea_u (i := 0) rfl (ea_u (i := 1) rfl ea_nil)) (fun _ => made_pick_c _ _ _ (by omega)) (by decide) (fun _ => rfl) rfl rfl) ea_nil rfl)) (fun b => labels_c _ _ _ (by omega)) (by decide) (fun _ => rfl) rfl rfl)) (kp_t (kp_t kp_0)) (ltB rfl) (fun _ => rfl) rfl (fun found1 => ?_)
    refine sr_set (f := eR) (l1 := fun lanes1 => [.up ((e3 eI eI (eV (e2 eI eI))) yard1), .up ((eV eI) pick1), .up ((eL eI) found1), .up (eR lanes1), .any, .any]) (er_rngv1v (er_p1v (op_s (i := 2) (f := (eL eI)) (v := found1) rfl) (op_lenL (f := eI)) rfl) rfl) (kp_t (kp_t kp_0)) (ltB rfl) (fun _ => rfl) rfl (fun lanes1 => ?_)
    exact sr_ret (Q := (isUp (eV (eV eI)))) (np0N rfl) (er_p1 (op_e rfl (er_upC (er_comp (h := (eV eI)) (fun low1 => [.up ((e3 eI eI (eV (e2 eI eI))) yard1), .up ((eV eI) pick1), .up ((eL eI) found1), .up (eR lanes1), .up (eI low1), .any]) (ei_Rv (er_slot (i := 3) (f := eR) (v := lanes1) rfl) rfl) (fun low1 => (tg_nm (ltB rfl) rfl)) (fun _ => rfl) rfl rfl (fun low1 => (ec_cons (er_p2 (op_e rfl (er_p2v (op_s (i := 2) (f := (eL eI)) (v := found1) rfl) (op_s (i := 4) (f := eI) (v := low1) rfl) (op_ixL (f := eI)) rfl)) (op_s (i := 4) (f := eI) (v := low1) rfl) (op_eq (f := eI) (leB rfl)) rfl))) (fun low1 => (er_p1 (op_e rfl (er_upC (er_comp (h := eI) (fun lane1 => [.up ((e3 eI eI (eV (e2 eI eI))) yard1), .up ((eV eI) pick1), .up ((eL eI) found1), .up (eR lanes1), .up (eI low1), .up (eI lane1)]) (ei_Rv (er_slot (i := 3) (f := eR) (v := lanes1) rfl) rfl) (fun lane1 => (tg_nm (ltB rfl) rfl)) (fun _ => rfl) rfl rfl (fun lane1 => (ec_cons (er_p2 (op_e rfl (er_p2v (op_s (i := 2) (f := (eL eI)) (v := found1) rfl) (op_s (i := 5) (f := eI) (v := lane1) rfl) (op_ixL (f := eI)) rfl)) (op_s (i := 4) (f := eI) (v := low1) rfl) (op_eq (f := eI) (leB rfl)) rfl))) (fun lane1 => (er_slot (i := 5) (f := eI) (v := lane1) rfl)) rfl))) (op_tupL (f := eI)) rfl)) rfl))) (op_tupL (f := (eV eI))) rfl) (kp_t (kp_t kp_0)))
theorem adds_c (yard1 : (Int × Int × (List (Int × Int)))) (a1 : Int) (b1 : Int) : ∀ k, 6 ≤ k → CR tF WF k 14 [true, true, true] encU [.up ((e3 eI eI (eV (e2 eI eI))) yard1), .up (eI a1), .up (eI b1)] (P.adds yard1 a1 b1) (isUp eB) :=
  cr_fn (g := f14) (d := 5) rfl rfl rfl rfl fun k hk => sr_start [.up ((e3 eI eI (eV (e2 eI eI))) yard1), .up (eI a1), .up (eI b1), .any, .any, .any, .any] rfl (by
    unfold P.adds
    refine sr_unp (f := (e3 eI eI (eV (e2 eI eI)))) (l1 := fun u1 => [.up ((e3 eI eI (eV (e2 eI eI))) yard1), .up (eI a1), .up (eI b1), .up (eI u1.1), .up (eI u1.2.1), .up ((eV (e2 eI eI)) u1.2.2), .any]) (er_callv (v := ()) (mc := fun _ => (P.made_yard yard1)) (st := [true]) rfl (ea_u (i := 0) rfl ea_nil) (fun _ => made_yard_c _ _ (by omega)) (by decide) (fun _ => rfl) rfl rfl) (fun u1 => (tg_tp (tgs_cons (tg_nm (ltB rfl) rfl) (tgs_cons (tg_nm (ltB rfl) rfl) (tgs_cons (tg_nm (ltB rfl) rfl) tgs_nil))))) (kp_t (kp_t (kp_t kp_0))) rfl (fun u1 => ?_)
    refine sr_drop (er_callv (v := ()) (mc := fun _ => (P.check_lane a1 u1.1)) (st := [true, true]) rfl (ea_u (i := 1) rfl (ea_u (i := 3) rfl ea_nil)) (fun _ => check_lane_c _ _ _ (by omega)) (by decide) (fun _ => rfl) rfl rfl) (kp_t (kp_t (kp_t kp_0))) rfl (fun _ => ?_)
    refine sr_drop (er_callv (v := ()) (mc := fun _ => (P.check_lane b1 u1.2.1)) (st := [true, true]) rfl (ea_u (i := 2) rfl (ea_u (i := 4) rfl ea_nil)) (fun _ => check_lane_c _ _ _ (by omega)) (by decide) (fun _ => rfl) rfl rfl) (kp_t (kp_t (kp_t kp_0))) rfl (fun _ => ?_)
    refine sr_forE (Q := (isUp eB)) (kr := S.pure) (lj := fun (t1 : Unit) => [.up ((e3 eI eI (eV (e2 eI eI))) yard1), .up (eI a1), .up (eI b1), .up (eI u1.1), .up (eI u1.2.1), .up ((eV (e2 eI eI)) u1.2.2), .any]) (lb := fun t1 lanes1 => [.up ((e3 eI eI (eV (e2 eI eI))) yard1), .up (eI a1), .up (eI b1), .up (eI u1.1), .up (eI u1.2.1), .up ((eV (e2 eI eI)) u1.2.2), .up ((eV eI) lanes1)]) (ei_v (er_call (mc := fun b => (P.pieces yard1 b.1)) (st := [true, true]) rfl (ea_u (i := 0) rfl (ea_e rfl (er_callv (v := ()) (mc := fun _ => (P.all_tracks yard1)) (st := [true]) rfl (ea_u (i := 0) rfl ea_nil) (fun _ => all_tracks_c _ _ (by omega)) (by decide) (fun _ => rfl) rfl rfl) ea_nil rfl)) (fun b => pieces_c _ _ _ (by omega)) (by decide) (fun _ => rfl) rfl rfl)) (kp_t (kp_t (kp_t kp_0))) LE.refl (fun t1 lanes1 => (tg_nm (ltB rfl) rfl)) hr_fn rfl (fun t1 lanes1 => ?_) (fun t2 => ?_)
    · refine sr_itev (er_andv (er_p2v (op_s (i := 1) (f := eI) (v := a1) rfl) (op_s (i := 6) (f := (eV eI)) (v := lanes1) rfl) op_inV rfl) (er_one (er_p2v (op_e rfl (er_p2v (op_s (i := 3) (f := eI) (v := u1.1) rfl) (op_s (i := 2) (f := eI) (v := b1) rfl) op_add rfl)) (op_s (i := 6) (f := (eV eI)) (v := lanes1) rfl) op_inV rfl)) rfl) (kp_t (kp_t (kp_t kp_0))) rfl ?_ ?_
      · exact sr_retEv (Q := (isUp eB)) (np0N rfl) er_b (kp_t (kp_t (kp_t kp_0))) rfl
      · exact sr_nilF (t := ()) (LE.eq (LE.eq (LE.eq (LE.eq (LE.eq (LE.eq (LE.any LE.refl))))))) rfl
    · exact sr_ret (Q := (isUp eB)) (np0N rfl) er_b (kp_t (kp_t (kp_t kp_0))))
theorem law_pair_right_c (yard1 : (Int × Int × (List (Int × Int)))) (a1 : Int) (b1 : Int) (held1 : Int) : ∀ k, 7 ≤ k → CR tF WF k 24 [true, true, true, true] encU [.up ((e3 eI eI (eV (e2 eI eI))) yard1), .up (eI a1), .up (eI b1), .up (eI held1)] (P.law_pair_right yard1 a1 b1 held1) (isUp eB) :=
  cr_fn (g := f24) (d := 6) rfl rfl rfl rfl fun k hk => sr_start [.up ((e3 eI eI (eV (e2 eI eI))) yard1), .up (eI a1), .up (eI b1), .up (eI held1), .any, .any, .any, .any, .any] rfl (by
    unfold P.law_pair_right
    refine sr_unp (f := (e3 eI eI (eV (e2 eI eI)))) (l1 := fun u1 => [.up ((e3 eI eI (eV (e2 eI eI))) yard1), .up (eI a1), .up (eI b1), .up (eI held1), .up (eI u1.1), .up (eI u1.2.1), .up ((eV (e2 eI eI)) u1.2.2), .any, .any]) (er_slot (i := 0) (f := (e3 eI eI (eV (e2 eI eI)))) (v := yard1) rfl) (fun u1 => (tg_tp (tgs_cons (tg_nm (ltB rfl) rfl) (tgs_cons (tg_nm (ltB rfl) rfl) (tgs_cons (tg_nm (ltB rfl) rfl) tgs_nil))))) (kp_t (kp_t (kp_t (kp_t kp_0)))) rfl (fun u1 => ?_)
    refine sr_set (f := eB) (l1 := fun due1 => [.up ((e3 eI eI (eV (e2 eI eI))) yard1), .up (eI a1), .up (eI b1), .up (eI held1), .up (eI u1.1), .up (eI u1.2.1), .up ((eV (e2 eI eI)) u1.2.2), .up (eB due1), .any]) (er_p2 (op_e rfl (er_p2v (op_s (i := 4) (f := eI) (v := u1.1) rfl) (op_s (i := 2) (f := eI) (v := b1) rfl) op_add rfl)) (op_e rfl (er_upO (er_call (mc := fun b => (P.law_web_reached yard1 b.1 a1)) (st := [true, true, true]) rfl (ea_u (i := 0) rfl (ea_e rfl (er_rgt1v (er_p1v (op_s (i := 6) (f := (eV (e2 eI eI))) (v := u1.2.2) rfl) (op_lenV (f := (e2 eI eI))) rfl) rfl) (ea_u (i := 1) rfl ea_nil) rfl)) (fun b => law_web_reached_c _ _ _ _ (by omega)) (by decide) (fun _ => rfl) rfl rfl))) op_ninL rfl) (kp_t (kp_t (kp_t (kp_t kp_0)))) (ltB rfl) (fun _ => rfl) rfl (fun due1 => ?_)
    refine sr_set (f := eB) (l1 := fun told1 => [.up ((e3 eI eI (eV (e2 eI eI))) yard1), .up (eI a1), .up (eI b1), .up (eI held1), .up (eI u1.1), .up (eI u1.2.1), .up ((eV (e2 eI eI)) u1.2.2), .up (eB due1), .up (eB told1)]) (er_callv (v := ()) (mc := fun _ => (P.adds yard1 a1 b1)) (st := [true, true, true]) rfl (ea_u (i := 0) rfl (ea_u (i := 1) rfl (ea_u (i := 2) rfl ea_nil))) (fun _ => adds_c _ _ _ _ (by omega)) (by decide) (fun _ => rfl) rfl rfl) (kp_t (kp_t (kp_t (kp_t kp_0)))) (ltB rfl) (fun _ => rfl) rfl (fun told1 => ?_)
    refine sr_itev (er_orv (er_notv (er_p1v (op_s (i := 8) (f := eB) (v := told1) rfl) (op_is1 (z := true) fun _ => rfl) rfl) rfl) (er_one (er_p2v (op_s (i := 8) (f := eB) (v := told1) rfl) (op_s (i := 7) (f := eB) (v := due1) rfl) (op_ne (f := eB) (leB rfl)) rfl)) rfl) (kp_t (kp_t (kp_t (kp_t kp_0)))) rfl ?_ ?_
    · exact sr_ret (Q := (isUp eB)) (np0N rfl) er_b (kp_t (kp_t (kp_t (kp_t kp_0))))
    · refine sr_itev (er_p2v (op_e rfl (er_t2v (er_slot (i := 1) (f := eI) (v := a1) rfl) (er_slot (i := 2) (f := eI) (v := b1) rfl) rfl)) (op_s (i := 6) (f := (eV (e2 eI eI))) (v := u1.2.2) rfl) (op_inG (f := (e2 eI eI)) (leB rfl)) rfl) (kp_t (kp_t (kp_t (kp_t kp_0)))) rfl ?_ ?_
      · exact sr_ret (Q := (isUp eB)) (np0N rfl) er_b (kp_t (kp_t (kp_t (kp_t kp_0))))
      · exact sr_ret (Q := (isUp eB)) (np0N rfl) (er_p2 (op_e rfl (er_call (mc := fun b => (P.worth b.1)) (st := [true]) rfl (ea_e rfl (er_t3 (er_slot (i := 4) (f := eI) (v := u1.1) rfl) (er_slot (i := 5) (f := eI) (v := u1.2.1) rfl) (er_p1 (op_e rfl (er_upO (er_p1 (op_e rfl (er_p2v (op_s (i := 6) (f := (eV (e2 eI eI))) (v := u1.2.2) rfl) (op_e rfl (er_castv (f := (e1 (e2 eI eI))) (g := (eV (e2 eI eI))) (fun p => [p]) (er_t1v (er_t2v (er_slot (i := 1) (f := eI) (v := a1) rfl) (er_slot (i := 2) (f := eI) (v := b1) rfl) rfl) rfl) (fun _ => rfl) rfl)) (op_catV (f := (e2 eI eI))) rfl)) op_sortPV rfl))) (op_tupL (f := (e2 eI eI))) rfl) rfl) ea_nil rfl) (fun b => worth_c _ _ (by omega)) (by decide) (fun _ => rfl) rfl rfl)) (op_e rfl (er_p2v (op_s (i := 3) (f := eI) (v := held1) rfl) (op_e rfl (er_p1v (op_s (i := 7) (f := eB) (v := due1) rfl) op_intb rfl)) op_add rfl)) (op_eq (f := eI) (leB rfl)) rfl) (kp_t (kp_t (kp_t (kp_t kp_0)))))
theorem is_whole__A_i_i_c (thing1 : Tw.D) (low1 : Int) (high1 : Int) : ∀ k, 1 ≤ k → CR tF WF k 0 [true, true, true] encU [.up (eA thing1), .up (eI low1), .up (eI high1)] (P.is_whole__A_i_i thing1 low1 high1) (isUp eB) :=
  cr_fn (g := f0) (d := 0) rfl rfl rfl rfl fun k hk => sr_start [.up (eA thing1), .up (eI low1), .up (eI high1)] rfl (by
    unfold P.is_whole__A_i_i
    exact sr_ret (Q := (isUp eB)) (np0N rfl) (er_and (er_p1v (op_s (i := 0) (f := eA) (v := thing1) rfl) op_isA rfl) (er_and (er_not (er_p1v (op_s (i := 0) (f := eA) (v := thing1) rfl) op_isA rfl) rfl) (er_one (er_chain (er_slot (i := 1) (f := eI) (v := low1) rfl) (er_asv (f := eI) (er_slot (i := 0) (f := eA) (v := thing1) rfl) rfl) (er_slot (i := 2) (f := eI) (v := high1) rfl) op_le op_le rfl)) rfl) rfl) (kp_t (kp_t (kp_t kp_0))))
theorem check_lane__A_i_c (lane1 : Tw.D) (many1 : Int) : ∀ k, 2 ≤ k → CR tF WF k 13 [true, true] encU [.up (eA lane1), .up (eI many1)] (P.check_lane__A_i lane1 many1) (isUp eU) :=
  cr_fn (g := f13) (d := 1) rfl rfl rfl rfl fun k hk => sr_start [.up (eA lane1), .up (eI many1)] rfl (by
    unfold P.check_lane__A_i
    refine sr_ite (er_not (er_callv (v := ((0 : Int), ((many1 - (1 : Int)), ()))) (mc := fun b => (P.is_whole__A_i_i lane1 b.1 b.2.1)) (st := [true, true, true]) rfl (ea_u (i := 0) rfl (ea_ev rfl er_i (ea_ev rfl (er_p2v (op_s (i := 1) (f := eI) (v := many1) rfl) (op_e rfl er_i) op_sub rfl) ea_nil rfl) rfl)) (fun b => is_whole__A_i_i_c _ _ _ _ (by omega)) (by decide) (fun _ => rfl) rfl rfl) rfl) (kp_t (kp_t kp_0)) rfl ?_ ?_
    · exact sr_raisev (g := eA) (er_slot (i := 0) (f := eA) (v := lane1) rfl) (kp_t (kp_t kp_0)) rfl
    · exact sr_nilD (kp_t (kp_t kp_0)) ⟨(fun q => by cases q), frz_non⟩ rfl)
theorem adds__y_A_A_c (yard1 : (Int × Int × (List (Int × Int)))) (a1 : Tw.D) (b1 : Tw.D) : ∀ k, 6 ≤ k → CR tF WF k 14 [true, true, true] encU [.up ((e3 eI eI (eV (e2 eI eI))) yard1), .up (eA a1), .up (eA b1)] (P.adds__y_A_A yard1 a1 b1) (isUp eB) :=
  cr_fn (g := f14) (d := 5) rfl rfl rfl rfl fun k hk => sr_start [.up ((e3 eI eI (eV (e2 eI eI))) yard1), .up (eA a1), .up (eA b1), .any, .any, .any, .any] rfl (by
    unfold P.adds__y_A_A
    refine sr_unp (f := (e3 eI eI (eV (e2 eI eI)))) (l1 := fun u1 => [.up ((e3 eI eI (eV (e2 eI eI))) yard1), .up (eA a1), .up (eA b1), .up (eI u1.1), .up (eI u1.2.1), .up ((eV (e2 eI eI)) u1.2.2), .any]) (er_callv (v := ()) (mc := fun _ => (P.made_yard yard1)) (st := [true]) rfl (ea_u (i := 0) rfl ea_nil) (fun _ => made_yard_c _ _ (by omega)) (by decide) (fun _ => rfl) rfl rfl) (fun u1 => (tg_tp (tgs_cons (tg_nm (ltB rfl) rfl) (tgs_cons (tg_nm (ltB rfl) rfl) (tgs_cons (tg_nm (ltB rfl) rfl) tgs_nil))))) (kp_t (kp_t (kp_t kp_0))) rfl (fun u1 => ?_)
    refine sr_drop (er_callv (v := ()) (mc := fun _ => (P.check_lane__A_i a1 u1.1)) (st := [true, true]) rfl (ea_u (i := 1) rfl (ea_u (i := 3) rfl ea_nil)) (fun _ => check_lane__A_i_c _ _ _ (by omega)) (by decide) (fun _ => rfl) rfl rfl) (kp_t (kp_t (kp_t kp_0))) rfl (fun _ => ?_)
    refine sr_drop (er_callv (v := ()) (mc := fun _ => (P.check_lane__A_i b1 u1.2.1)) (st := [true, true]) rfl (ea_u (i := 2) rfl (ea_u (i := 4) rfl ea_nil)) (fun _ => check_lane__A_i_c _ _ _ (by omega)) (by decide) (fun _ => rfl) rfl rfl) (kp_t (kp_t (kp_t kp_0))) rfl (fun _ => ?_)
    refine sr_forE (Q := (isUp eB)) (kr := S.pure) (lj := fun (t1 : Unit) => [.up ((e3 eI eI (eV (e2 eI eI))) yard1), .up (eA a1), .up (eA b1), .up (eI u1.1), .up (eI u1.2.1), .up ((eV (e2 eI eI)) u1.2.2), .any]) (lb := fun t1 lanes1 => [.up ((e3 eI eI (eV (e2 eI eI))) yard1), .up (eA a1), .up (eA b1), .up (eI u1.1), .up (eI u1.2.1), .up ((eV (e2 eI eI)) u1.2.2), .up ((eV eI) lanes1)]) (ei_v (er_call (mc := fun b => (P.pieces yard1 b.1)) (st := [true, true]) rfl (ea_u (i := 0) rfl (ea_e rfl (er_callv (v := ()) (mc := fun _ => (P.all_tracks yard1)) (st := [true]) rfl (ea_u (i := 0) rfl ea_nil) (fun _ => all_tracks_c _ _ (by omega)) (by decide) (fun _ => rfl) rfl rfl) ea_nil rfl)) (fun b => pieces_c _ _ _ (by omega)) (by decide) (fun _ => rfl) rfl rfl)) (kp_t (kp_t (kp_t kp_0))) LE.refl (fun t1 lanes1 => (tg_nm (ltB rfl) rfl)) hr_fn rfl (fun t1 lanes1 => ?_) (fun t2 => ?_)
    · refine sr_ite (er_and (er_p2 (op_asv (f := eI) (op_s (i := 1) (f := eA) (v := a1) rfl) rfl) (op_s (i := 6) (f := (eV eI)) (v := lanes1) rfl) op_inV rfl) (er_one (er_p2 (op_e rfl (er_p2 (op_s (i := 3) (f := eI) (v := u1.1) rfl) (op_asv (f := eI) (op_s (i := 2) (f := eA) (v := b1) rfl) rfl) op_add rfl)) (op_s (i := 6) (f := (eV eI)) (v := lanes1) rfl) op_inV rfl)) rfl) (kp_t (kp_t (kp_t kp_0))) rfl ?_ ?_
      · exact sr_retEv (Q := (isUp eB)) (np0N rfl) er_b (kp_t (kp_t (kp_t kp_0))) rfl
      · exact sr_nilF (t := ()) (LE.eq (LE.eq (LE.eq (LE.eq (LE.eq (LE.eq (LE.any LE.refl))))))) rfl
    · exact sr_ret (Q := (isUp eB)) (np0N rfl) er_b (kp_t (kp_t (kp_t kp_0))))
theorem law_heard__y_A_A_c (yard1 : (Int × Int × (List (Int × Int)))) (a1 : Tw.D) (b1 : Tw.D) : ∀ k, 7 ≤ k → CR tF WF k 25 [true, true, true] encU [.up ((e3 eI eI (eV (e2 eI eI))) yard1), .up (eA a1), .up (eA b1)] (P.law_heard__y_A_A yard1 a1 b1) (isUp eA) :=
  cr_fn (g := f25) (d := 6) rfl rfl rfl rfl fun k hk => sr_start [.up ((e3 eI eI (eV (e2 eI eI))) yard1), .up (eA a1), .up (eA b1), .any] rfl (by
    unfold P.law_heard__y_A_A
    refine sr_try (g := eA) (hs := P.hs_law_heard) (lj := fun (_ : Unit) => [.up ((e3 eI eI (eV (e2 eI eI))) yard1), .up (eA a1), .up (eA b1), .any]) (kr := S.pure) hr_fn rfl ?_ (fun _ => ?_)
    · exact sr_retT (Q := (isUp eA)) (np0N rfl) (er_any (f := (e2 eS eB)) (er_t2 er_str (er_callv (v := ()) (mc := fun _ => (P.adds__y_A_A yard1 a1 b1)) (st := [true, true, true]) rfl (ea_u (i := 0) rfl (ea_u (i := 1) rfl (ea_u (i := 2) rfl ea_nil))) (fun _ => adds__y_A_A_c _ _ _ _ (by omega)) (by decide) (fun _ => rfl) rfl rfl) rfl) rfl) (kp_t (kp_t (kp_t kp_0))) rfl
    · exact sr_no)
theorem law_refused_right_c (yard1 : (Int × Int × (List (Int × Int)))) : ∀ k, 8 ≤ k → CR tF WF k 26 [true, true] encP [.st, .up ((e3 eI eI (eV (e2 eI eI))) yard1)] (P.law_refused_right yard1) (isUp eB) :=
  cr_fn (g := f26) (d := 7) rfl rfl rfl rfl fun k hk => sr_start [.st, .up ((e3 eI eI (eV (e2 eI eI))) yard1), .any, .any, .any, .any] rfl (by
    unfold P.law_refused_right
    refine sr_unp (f := (e3 eI eI (eV (e2 eI eI)))) (l1 := fun u1 => [.st, .up ((e3 eI eI (eV (e2 eI eI))) yard1), .up (eI u1.1), .up (eI u1.2.1), .up ((eV (e2 eI eI)) u1.2.2), .any]) (er_slot (i := 1) (f := (e3 eI eI (eV (e2 eI eI)))) (v := yard1) rfl) (fun u1 => (tg_tp (tgs_cons (tg_nm (ltB rfl) rfl) (tgs_cons (tg_nm (ltB rfl) rfl) (tgs_cons (tg_nm (ltB rfl) rfl) tgs_nil))))) (kp_t (kp_t kp_0)) rfl (fun u1 => ?_)
    refine sr_forE (Q := (isUp eB)) (kr := S.pure) (lj := fun (t1 : Unit) => [.st, .up ((e3 eI eI (eV (e2 eI eI))) yard1), .up (eI u1.1), .up (eI u1.2.1), .up ((eV (e2 eI eI)) u1.2.2), .any]) (lb := fun t1 far1 => [.st, .up ((e3 eI eI (eV (e2 eI eI))) yard1), .up (eI u1.1), .up (eI u1.2.1), .up ((eV (e2 eI eI)) u1.2.2), .up (eA far1)]) (ei_v (er_tV (tv_cons (er_anyv (f := eI) (er_p1v (op_e rfl er_i) op_neg rfl) rfl) (tv_cons (er_anyv (f := eI) (er_slot (i := 2) (f := eI) (v := u1.1) rfl) rfl) (tv_cons (er_any (f := eI) (er_p2 (op_e rfl (er_p2v (op_s (i := 2) (f := eI) (v := u1.1) rfl) (op_e rfl er_i) op_add rfl)) (op_e rfl (er_callv (v := ((20 : Int), ())) (mc := fun b => draw b.1) (st := [true, true]) rfl (ea_st (i := 0) rfl (ea_ev rfl er_i ea_nil rfl)) (fun _ => draw_c rfl _ _ (by omega)) (by decide) (fun _ => rfl) rfl rfl)) op_add rfl) rfl) (tv_consv (er_anyv (f := eB) er_b rfl) (tv_consv (er_anyv (f := eU) er_u rfl) (tv_consv (er_anyv (f := eS) er_str rfl) (tv_nil (f := eA)) rfl) rfl) rfl) rfl) rfl) rfl))) (kp_t (kp_t kp_0)) LE.refl (fun t1 far1 => (tg_nm (ltB rfl) rfl)) hr_fn rfl (fun t1 far1 => ?_) (fun t2 => ?_)
    · refine sr_ite (er_or (er_p2 (op_e rfl (er_callUv (v := ((eI (-(1 : Int))), ())) (mc := fun b => (P.law_heard__y_A_A yard1 far1 b.1)) (st := [true, true, true]) rfl (ea_u (i := 1) rfl (ea_u (i := 5) rfl (ea_ev rfl (er_anyv (f := eI) (er_p1v (op_e rfl er_i) op_neg rfl) rfl) ea_nil rfl))) (fun b => law_heard__y_A_A_c _ _ _ _ (by omega)) (by decide) (fun _ => rfl) (fun _ => rfl) rfl)) (op_e rfl (er_anyv (f := (e2 eS eA)) (er_t2v er_str (er_slot (i := 5) (f := eA) (v := far1) rfl) rfl) rfl)) op_neA rfl) (er_one (er_p2 (op_e rfl (er_callUv (v := ((eI (0 : Int)), ())) (mc := fun b => (P.law_heard__y_A_A yard1 far1 b.1)) (st := [true, true, true]) rfl (ea_u (i := 1) rfl (ea_u (i := 5) rfl (ea_ev rfl (er_anyv (f := eI) er_i rfl) ea_nil rfl))) (fun b => law_heard__y_A_A_c _ _ _ _ (by omega)) (by decide) (fun _ => rfl) (fun _ => rfl) rfl)) (op_e rfl (er_anyv (f := (e2 eS eA)) (er_t2v er_str (er_slot (i := 5) (f := eA) (v := far1) rfl) rfl) rfl)) op_neA rfl)) rfl) (kp_t (kp_t kp_0)) rfl ?_ ?_
      · exact sr_retEv (Q := (isUp eB)) (np0N rfl) er_b (kp_t (kp_t kp_0)) rfl
      · exact sr_nilF (t := ()) (LE.eq (LE.eq (LE.eq (LE.eq (LE.eq (LE.any LE.refl)))))) rfl
    · refine sr_forE (Q := (isUp eB)) (kr := S.pure) (lj := fun (t3 : Unit) => [.st, .up ((e3 eI eI (eV (e2 eI eI))) yard1), .up (eI u1.1), .up (eI u1.2.1), .up ((eV (e2 eI eI)) u1.2.2), .any]) (lb := fun t3 far2 => [.st, .up ((e3 eI eI (eV (e2 eI eI))) yard1), .up (eI u1.1), .up (eI u1.2.1), .up ((eV (e2 eI eI)) u1.2.2), .up (eA far2)]) (ei_v (er_tV (tv_cons (er_anyv (f := eI) (er_p1v (op_e rfl er_i) op_neg rfl) rfl) (tv_cons (er_anyv (f := eI) (er_slot (i := 3) (f := eI) (v := u1.2.1) rfl) rfl) (tv_cons (er_any (f := eI) (er_p2 (op_e rfl (er_p2v (op_s (i := 3) (f := eI) (v := u1.2.1) rfl) (op_e rfl er_i) op_add rfl)) (op_e rfl (er_callv (v := ((20 : Int), ())) (mc := fun b => draw b.1) (st := [true, true]) rfl (ea_st (i := 0) rfl (ea_ev rfl er_i ea_nil rfl)) (fun _ => draw_c rfl _ _ (by omega)) (by decide) (fun _ => rfl) rfl rfl)) op_add rfl) rfl) (tv_consv (er_anyv (f := eB) er_b rfl) (tv_consv (er_anyv (f := eU) er_u rfl) (tv_nil (f := eA)) rfl) rfl) rfl) rfl) rfl))) (kp_t (kp_t kp_0)) LE.refl (fun t3 far2 => (tg_nm (ltB rfl) rfl)) hr_fn rfl (fun t3 far2 => ?_) (fun t4 => ?_)
      · refine sr_ite (er_p2 (op_e rfl (er_callUv (v := ((eI (u1.1 - (1 : Int))), ())) (mc := fun b => (P.law_heard__y_A_A yard1 b.1 far2)) (st := [true, true, true]) rfl (ea_u (i := 1) rfl (ea_ev rfl (er_anyv (f := eI) (er_p2v (op_s (i := 2) (f := eI) (v := u1.1) rfl) (op_e rfl er_i) op_sub rfl) rfl) (ea_u (i := 5) rfl ea_nil) rfl)) (fun b => law_heard__y_A_A_c _ _ _ _ (by omega)) (by decide) (fun _ => rfl) (fun _ => rfl) rfl)) (op_e rfl (er_anyv (f := (e2 eS eA)) (er_t2v er_str (er_slot (i := 5) (f := eA) (v := far2) rfl) rfl) rfl)) op_neA rfl) (kp_t (kp_t kp_0)) rfl ?_ ?_
        · exact sr_retEv (Q := (isUp eB)) (np0N rfl) er_b (kp_t (kp_t kp_0)) rfl
        · exact sr_nilF (t := ()) (LE.eq (LE.eq (LE.eq (LE.eq (LE.eq (LE.any LE.refl)))))) rfl
      · exact sr_ret (Q := (isUp eB)) (np0N rfl) (er_p2 (op_e rfl (er_callUv (v := ((u1.1, (0 : Int), u1.2.2), ((eI (-(1 : Int))), ((eI (-(1 : Int))), ())))) (mc := fun b => (P.law_heard__y_A_A b.1 b.2.1 b.2.2.1)) (st := [true, true, true]) rfl (ea_ev rfl (er_t3v (er_slot (i := 2) (f := eI) (v := u1.1) rfl) er_i (er_slot (i := 4) (f := (eV (e2 eI eI))) (v := u1.2.2) rfl) rfl) (ea_ev rfl (er_anyv (f := eI) (er_p1v (op_e rfl er_i) op_neg rfl) rfl) (ea_ev rfl (er_anyv (f := eI) (er_p1v (op_e rfl er_i) op_neg rfl) rfl) ea_nil rfl) rfl) rfl) (fun b => law_heard__y_A_A_c _ _ _ _ (by omega)) (by decide) (fun _ => rfl) (fun _ => rfl) rfl)) (op_e rfl (er_anyv (f := (e2 eS eI)) (er_t2v er_str (er_p1v (op_e rfl er_i) op_neg rfl) rfl) rfl)) op_eqA rfl) (kp_t (kp_t kp_0)))
theorem law_c (script1 : (List Int)) : ∀ k, 9 ≤ k → CR tF WF k 27 [true] encU [.up (eScr script1)] (P.law script1) (isUp eB) :=
  cr_fn (g := f27) (d := 8) rfl rfl rfl rfl fun k hk => sr_start [.up (eScr script1), .any, .any, .any, .any, .any, .any, .any, .any, .any, .any, .any, .any, .any] rfl (by
    unfold P.law
    refine sr_setS (l1 := [.up (eScr script1), .st, .any, .any, .any, .any, .any, .any, .any, .any, .any, .any, .any, .any]) (er_callv (v := ()) (mc := fun _ => S.pure (Pool.of script1)) (st := [true]) rfl (ea_u (i := 0) rfl ea_nil) (fun _ => pool_c rfl _ _ (by omega)) (by decide) (fun _ => rfl) rfl rfl) (kp_t kp_0) (ltB rfl) rfl rfl rfl rfl ?_
    refine sr_set (f := eB) (l1 := fun is_large1 => [.up (eScr script1), .st, .up (eB is_large1), .any, .any, .any, .any, .any, .any, .any, .any, .any, .any, .any]) (er_and (er_p2 (op_e rfl (er_big rfl)) (op_e rfl er_i) op_gt rfl) (er_one (er_p2 (op_e rfl (er_callv (v := ((2 : Int), ())) (mc := fun b => draw b.1) (st := [true, true]) rfl (ea_st (i := 1) rfl (ea_ev rfl er_i ea_nil rfl)) (fun _ => draw_c rfl _ _ (by omega)) (by decide) (fun _ => rfl) rfl rfl)) (op_e rfl er_i) (op_eq (f := eI) (leB rfl)) rfl)) rfl) (kp_t kp_0) (ltB rfl) (fun _ => rfl) rfl (fun is_large1 => ?_)
    refine sr_set (f := (e3 eI eI (eV (e2 eI eI)))) (l1 := fun yard1 => [.up (eScr script1), .st, .up (eB is_large1), .up ((e3 eI eI (eV (e2 eI eI))) yard1), .any, .any, .any, .any, .any, .any, .any, .any, .any, .any]) (er_callv (v := ((if is_large1 then (12 : Int) else (4 : Int)), ((if is_large1 then (30 : Int) else (8 : Int)), ()))) (mc := fun b => (P.law_web_yard b.1 b.2.1)) (st := [true, true, true]) rfl (ea_st (i := 1) rfl (ea_ev rfl (er_ifev (er_slot (i := 2) (f := eB) (v := is_large1) rfl) er_i er_i rfl) (ea_ev rfl (er_ifev (er_slot (i := 2) (f := eB) (v := is_large1) rfl) er_i er_i rfl) ea_nil rfl) rfl)) (fun b => law_web_yard_c _ _ _ (by omega)) (by decide) (fun _ => rfl) rfl rfl) (kp_t kp_0) (ltB rfl) (fun _ => rfl) rfl (fun yard1 => ?_)
    refine sr_unp (f := (e3 eI eI (eV (e2 eI eI)))) (l1 := fun u1 => [.up (eScr script1), .st, .up (eB is_large1), .up ((e3 eI eI (eV (e2 eI eI))) yard1), .up (eI u1.1), .up (eI u1.2.1), .up ((eV (e2 eI eI)) u1.2.2), .any, .any, .any, .any, .any, .any, .any]) (er_slot (i := 3) (f := (e3 eI eI (eV (e2 eI eI)))) (v := yard1) rfl) (fun u1 => (tg_tp (tgs_cons (tg_nm (ltB rfl) rfl) (tgs_cons (tg_nm (ltB rfl) rfl) (tgs_cons (tg_nm (ltB rfl) rfl) tgs_nil))))) (kp_t kp_0) rfl (fun u1 => ?_)
    refine sr_set (f := eI) (l1 := fun held1 => [.up (eScr script1), .st, .up (eB is_large1), .up ((e3 eI eI (eV (e2 eI eI))) yard1), .up (eI u1.1), .up (eI u1.2.1), .up ((eV (e2 eI eI)) u1.2.2), .up (eI held1), .any, .any, .any, .any, .any, .any]) (er_callUv (v := ()) (mc := fun _ => (P.worth yard1)) (st := [true]) rfl (ea_u (i := 3) rfl ea_nil) (fun _ => worth_c _ _ (by omega)) (by decide) (fun _ => rfl) (fun _ => rfl) rfl) (kp_t kp_0) (ltB rfl) (fun _ => rfl) rfl (fun held1 => ?_)
    refine sr_ite (er_or (er_not (er_callUv (v := ()) (mc := fun _ => (P.law_is_whole held1)) (st := [true]) rfl (ea_u (i := 7) rfl ea_nil) (fun _ => law_is_whole_c _ _ (by omega)) (by decide) (fun _ => rfl) (fun _ => rfl) rfl) rfl) (er_one (er_p2 (op_s (i := 7) (f := eI) (v := held1) rfl) (op_e rfl (er_callU (mc := fun b => (P.law_web_rank yard1 b.1)) (st := [true, true]) rfl (ea_u (i := 3) rfl (ea_e rfl (er_rgt1v (er_p1v (op_s (i := 6) (f := (eV (e2 eI eI))) (v := u1.2.2) rfl) (op_lenV (f := (e2 eI eI))) rfl) rfl) ea_nil rfl)) (fun b => law_web_rank_c _ _ _ (by omega)) (by decide) (fun _ => rfl) (fun _ => rfl) rfl)) (op_ne (f := eI) (leB rfl)) rfl)) rfl) (kp_t kp_0) rfl ?_ ?_
    · exact sr_ret (Q := (isUp eB)) (np0N rfl) er_b (kp_t kp_0)
    · refine sr_set (f := (eL (e2 eI eI))) (l1 := fun pairs1 => [.up (eScr script1), .st, .up (eB is_large1), .up ((e3 eI eI (eV (e2 eI eI))) yard1), .up (eI u1.1), .up (eI u1.2.1), .up ((eV (e2 eI eI)) u1.2.2), .up (eI held1), .up ((eL (e2 eI eI)) pairs1), .any, .any, .any, .any, .any]) (er_upC (er_comp (h := (e2 eI eI)) (fun at1 => [.up (eScr script1), .st, .up (eB is_large1), .up ((e3 eI eI (eV (e2 eI eI))) yard1), .up (eI u1.1), .up (eI u1.2.1), .up ((eV (e2 eI eI)) u1.2.2), .up (eI held1), .any, .any, .any, .any, .up (eI at1), .any]) (ei_rng1 (er_p2v (op_s (i := 4) (f := eI) (v := u1.1) rfl) (op_s (i := 5) (f := eI) (v := u1.2.1) rfl) op_mul rfl) rfl) (fun at1 => (tg_nm (ltB rfl) rfl)) (fun _ => rfl) rfl rfl (fun at1 => ec_nil) (fun at1 => (er_t2 (er_p2v (op_e rfl (er_p1v (op_s (i := 12) (f := eI) (v := at1) rfl) op_int rfl)) (op_s (i := 5) (f := eI) (v := u1.2.1) rfl) op_div rfl) (er_p2v (op_e rfl (er_p1v (op_s (i := 12) (f := eI) (v := at1) rfl) op_int rfl)) (op_s (i := 5) (f := eI) (v := u1.2.1) rfl) op_mod rfl) rfl)) rfl)) (kp_t kp_0) (ltB rfl) (fun _ => rfl) rfl (fun pairs1 => ?_)
      refine sr_iteJ (lj := fun (t1 : (List (Int × Int))) => [.up (eScr script1), .st, .up (eB is_large1), .up ((e3 eI eI (eV (e2 eI eI))) yard1), .up (eI u1.1), .up (eI u1.2.1), .up ((eV (e2 eI eI)) u1.2.2), .up (eI held1), .up ((eL (e2 eI eI)) t1), .any, .any, .any, .any, .any]) (er_or (er_slot (i := 2) (f := eB) (v := is_large1) rfl) (er_one (er_p2 (op_e rfl (er_p2v (op_s (i := 4) (f := eI) (v := u1.1) rfl) (op_s (i := 5) (f := eI) (v := u1.2.1) rfl) op_mul rfl)) (op_e rfl er_i) op_gt rfl)) rfl) (kp_t kp_0) rfl ?_ ?_ (fun t1 => ?_)
      · refine sr_set (f := (eL (e2 eI eI))) (l1 := fun pairs3 => [.up (eScr script1), .st, .up (eB is_large1), .up ((e3 eI eI (eV (e2 eI eI))) yard1), .up (eI u1.1), .up (eI u1.2.1), .up ((eV (e2 eI eI)) u1.2.2), .up (eI held1), .up ((eL (e2 eI eI)) pairs3), .any, .any, .any, .any, .any]) (er_upC (er_comp (h := (e2 eI eI)) (fun turn2 => [.up (eScr script1), .st, .up (eB is_large1), .up ((e3 eI eI (eV (e2 eI eI))) yard1), .up (eI u1.1), .up (eI u1.2.1), .up ((eV (e2 eI eI)) u1.2.2), .up (eI held1), .up ((eL (e2 eI eI)) pairs1), .any, .any, .any, .any, .up (eI turn2)]) (ei_rng1v er_i rfl) (fun turn2 => (tg_nm (ltB rfl) rfl)) (fun _ => rfl) rfl rfl (fun turn2 => ec_nil) (fun turn2 => (er_t2 (er_callv (v := ()) (mc := fun _ => draw u1.1) (st := [true, true]) rfl (ea_st (i := 1) rfl (ea_u rfl ea_nil)) (fun _ => draw_c rfl _ _ (by omega)) (by decide) (fun _ => rfl) rfl rfl) (er_callv (v := ()) (mc := fun _ => draw u1.2.1) (st := [true, true]) rfl (ea_st (i := 1) rfl (ea_u rfl ea_nil)) (fun _ => draw_c rfl _ _ (by omega)) (by decide) (fun _ => rfl) rfl rfl) rfl)) rfl)) (kp_t kp_0) (ltB rfl) (fun _ => rfl) rfl (fun pairs3 => ?_)
        exact sr_nilJ (t := pairs3) LE.refl rfl
      · exact sr_nilJ (t := pairs1) LE.refl rfl
      · refine sr_forEv (Q := (isUp eB)) (kr := S.pure) (lj := fun (t2 : Unit) => [.up (eScr script1), .st, .up (eB is_large1), .up ((e3 eI eI (eV (e2 eI eI))) yard1), .up (eI u1.1), .up (eI u1.2.1), .up ((eV (e2 eI eI)) u1.2.2), .up (eI held1), .up ((eL (e2 eI eI)) t1), .any, .any, .any, .any, .any]) (lb := fun t2 e1 => [.up (eScr script1), .st, .up (eB is_large1), .up ((e3 eI eI (eV (e2 eI eI))) yard1), .up (eI u1.1), .up (eI u1.2.1), .up ((eV (e2 eI eI)) u1.2.2), .up (eI held1), .up ((eL (e2 eI eI)) t1), .up (eI e1.1), .up (eI e1.2), .any, .any, .any]) (ei_l (er_slot (i := 8) (f := (eL (e2 eI eI))) (v := t1) rfl)) (kp_t kp_0) LE.refl (fun t2 e1 => (tg_tp (tgs_cons (tg_nm (ltB rfl) rfl) (tgs_cons (tg_nm (ltB rfl) rfl) tgs_nil)))) hr_fn rfl (fun t2 e1 => ?_) (fun t3 => ?_)
        · refine sr_ite (er_not (er_callUv (v := ()) (mc := fun _ => (P.law_pair_right yard1 e1.1 e1.2 held1)) (st := [true, true, true, true]) rfl (ea_u (i := 3) rfl (ea_u (i := 9) rfl (ea_u (i := 10) rfl (ea_u (i := 7) rfl ea_nil)))) (fun _ => law_pair_right_c _ _ _ _ _ (by omega)) (by decide) (fun _ => rfl) (fun _ => rfl) rfl) rfl) (kp_t kp_0) rfl ?_ ?_
          · exact sr_retEv (Q := (isUp eB)) (np0N rfl) er_b (kp_t kp_0) rfl
          · exact sr_nilF (t := ()) (LE.eq (LE.eq (LE.eq (LE.eq (LE.eq (LE.eq (LE.eq (LE.eq (LE.eq (LE.any (LE.any LE.refl))))))))))) rfl
        · refine sr_set (f := (e3 eI eI (eV (e2 eI eI)))) (l1 := fun full1 => [.up (eScr script1), .st, .up (eB is_large1), .up ((e3 eI eI (eV (e2 eI eI))) yard1), .up (eI u1.1), .up (eI u1.2.1), .up ((eV (e2 eI eI)) u1.2.2), .up (eI held1), .up ((eL (e2 eI eI)) t1), .any, .any, .up ((e3 eI eI (eV (e2 eI eI))) full1), .any, .any]) (er_t3 er_i er_i (er_p1 (op_e rfl (er_upC (er_comp (h := (e2 eI eI)) (fun at2 => [.up (eScr script1), .st, .up (eB is_large1), .up ((e3 eI eI (eV (e2 eI eI))) yard1), .up (eI u1.1), .up (eI u1.2.1), .up ((eV (e2 eI eI)) u1.2.2), .up (eI held1), .up ((eL (e2 eI eI)) t1), .any, .any, .any, .up (eI at2), .any]) (ei_rng1v er_i rfl) (fun at2 => (tg_nm (ltB rfl) rfl)) (fun _ => rfl) rfl rfl (fun at2 => ec_nil) (fun at2 => (er_t2 (er_p2v (op_e rfl (er_p1v (op_s (i := 12) (f := eI) (v := at2) rfl) op_int rfl)) (op_e rfl er_i) op_div rfl) (er_p2v (op_e rfl (er_p1v (op_s (i := 12) (f := eI) (v := at2) rfl) op_int rfl)) (op_e rfl er_i) op_mod rfl) rfl)) rfl))) (op_tupL (f := (e2 eI eI))) rfl) rfl) (kp_t kp_0) (ltB rfl) (fun _ => rfl) rfl (fun full1 => ?_)
          refine sr_ite (er_or (er_p2 (op_e rfl (er_callU (mc := fun b => (P.adds full1 b.1 b.2.1)) (st := [true, true, true]) rfl (ea_u (i := 11) rfl (ea_e rfl (er_p2 (op_e rfl er_i) (op_e rfl (er_callv (v := ((7 : Int), ())) (mc := fun b => draw b.1) (st := [true, true]) rfl (ea_st (i := 1) rfl (ea_ev rfl er_i ea_nil rfl)) (fun _ => draw_c rfl _ _ (by omega)) (by decide) (fun _ => rfl) rfl rfl)) op_add rfl) (ea_e rfl (er_callv (v := ((12 : Int), ())) (mc := fun b => draw b.1) (st := [true, true]) rfl (ea_st (i := 1) rfl (ea_ev rfl er_i ea_nil rfl)) (fun _ => draw_c rfl _ _ (by omega)) (by decide) (fun _ => rfl) rfl rfl) ea_nil rfl) rfl)) (fun b => adds_c _ _ _ _ (by omega)) (by decide) (fun _ => rfl) (fun _ => rfl) rfl)) (op_e rfl er_b) (op_ne (f := eB) (leB rfl)) rfl) (er_one (er_p2 (op_e rfl (er_callU (mc := fun b => (P.adds full1 b.1 b.2.1)) (st := [true, true, true]) rfl (ea_u (i := 11) rfl (ea_e rfl (er_callv (v := ((5 : Int), ())) (mc := fun b => draw b.1) (st := [true, true]) rfl (ea_st (i := 1) rfl (ea_ev rfl er_i ea_nil rfl)) (fun _ => draw_c rfl _ _ (by omega)) (by decide) (fun _ => rfl) rfl rfl) (ea_e rfl (er_callv (v := ((12 : Int), ())) (mc := fun b => draw b.1) (st := [true, true]) rfl (ea_st (i := 1) rfl (ea_ev rfl er_i ea_nil rfl)) (fun _ => draw_c rfl _ _ (by omega)) (by decide) (fun _ => rfl) rfl rfl) ea_nil rfl) rfl)) (fun b => adds_c _ _ _ _ (by omega)) (by decide) (fun _ => rfl) (fun _ => rfl) rfl)) (op_e rfl er_b) (op_ne (f := eB) (leB rfl)) rfl)) rfl) (kp_t kp_0) rfl ?_ ?_
          · exact sr_ret (Q := (isUp eB)) (np0N rfl) er_b (kp_t kp_0)
          · exact sr_ret (Q := (isUp eB)) (np0N rfl) (er_callv (v := ()) (mc := fun _ => (P.law_refused_right yard1)) (st := [true, true]) rfl (ea_st (i := 1) rfl (ea_u (i := 3) rfl ea_nil)) (fun _ => law_refused_right_c _ _ (by omega)) (by decide) (fun _ => rfl) rfl rfl) (kp_t kp_0))
end K31

set_option Elab.async false
set_option linter.all false
set_option maxRecDepth 100000
set_option maxHeartbeats 4000000
namespace K31
open PySem Tw Tx
theorem ok0 : okFn (pr.sg 0) f0 (pr.st.getD 0 (.Pass ⟨0, 0, 0, 0⟩)) = true := by decide +kernel
theorem ok1 : okFn (pr.sg 1) f1 (pr.st.getD 1 (.Pass ⟨0, 0, 0, 0⟩)) = true := by decide +kernel
theorem ok2 : okFn (pr.sg 2) f2 (pr.st.getD 2 (.Pass ⟨0, 0, 0, 0⟩)) = true := by decide +kernel
theorem ok3 : okFn (pr.sg 3) f3 (pr.st.getD 3 (.Pass ⟨0, 0, 0, 0⟩)) = true := by decide +kernel
theorem ok4 : okFn (pr.sg 4) f4 (pr.st.getD 4 (.Pass ⟨0, 0, 0, 0⟩)) = true := by decide +kernel
theorem ok5 : okFn (pr.sg 5) f5 (pr.st.getD 5 (.Pass ⟨0, 0, 0, 0⟩)) = true := by decide +kernel
theorem ok6 : okFn (pr.sg 6) f6 (pr.st.getD 6 (.Pass ⟨0, 0, 0, 0⟩)) = true := by decide +kernel
theorem ok7 : okFn (pr.sg 7) f7 (pr.st.getD 7 (.Pass ⟨0, 0, 0, 0⟩)) = true := by decide +kernel
theorem ok8 : okFn (pr.sg 8) f8 (pr.st.getD 8 (.Pass ⟨0, 0, 0, 0⟩)) = true := by decide +kernel
theorem ok9 : okFn (pr.sg 9) f9 (pr.st.getD 9 (.Pass ⟨0, 0, 0, 0⟩)) = true := by decide +kernel
theorem ok10 : okFn (pr.sg 10) f10 (pr.st.getD 10 (.Pass ⟨0, 0, 0, 0⟩)) = true := by decide +kernel
theorem ok11 : okFn (pr.sg 11) f11 (pr.st.getD 11 (.Pass ⟨0, 0, 0, 0⟩)) = true := by decide +kernel
theorem ok12 : okFn (pr.sg 12) f12 (pr.st.getD 12 (.Pass ⟨0, 0, 0, 0⟩)) = true := by decide +kernel
theorem ok13 : okFn (pr.sg 13) f13 (pr.st.getD 13 (.Pass ⟨0, 0, 0, 0⟩)) = true := by decide +kernel
theorem ok14 : okFn (pr.sg 14) f14 (pr.st.getD 14 (.Pass ⟨0, 0, 0, 0⟩)) = true := by decide +kernel
theorem ok15 : okFn (pr.sg 15) f15 (pr.st.getD 15 (.Pass ⟨0, 0, 0, 0⟩)) = true := by decide +kernel
theorem ok16 : okFn (pr.sg 16) f16 (pr.st.getD 16 (.Pass ⟨0, 0, 0, 0⟩)) = true := by decide +kernel
theorem ok17 : okFn (pr.sg 17) f17 (pr.st.getD 17 (.Pass ⟨0, 0, 0, 0⟩)) = true := by decide +kernel
theorem ok18 : okFn (pr.sg 18) f18 (pr.st.getD 18 (.Pass ⟨0, 0, 0, 0⟩)) = true := by decide +kernel
theorem ok19 : okFn (pr.sg 19) f19 (pr.st.getD 19 (.Pass ⟨0, 0, 0, 0⟩)) = true := by decide +kernel
theorem ok20 : okFn (pr.sg 20) f20 (pr.st.getD 20 (.Pass ⟨0, 0, 0, 0⟩)) = true := by decide +kernel
theorem ok21 : okFn (pr.sg 21) f21 (pr.st.getD 21 (.Pass ⟨0, 0, 0, 0⟩)) = true := by decide +kernel
theorem ok22 : okFn (pr.sg 22) f22 (pr.st.getD 22 (.Pass ⟨0, 0, 0, 0⟩)) = true := by decide +kernel
theorem ok23 : okFn (pr.sg 23) f23 (pr.st.getD 23 (.Pass ⟨0, 0, 0, 0⟩)) = true := by decide +kernel
theorem ok24 : okFn (pr.sg 24) f24 (pr.st.getD 24 (.Pass ⟨0, 0, 0, 0⟩)) = true := by decide +kernel
theorem ok25 : okFn (pr.sg 25) f25 (pr.st.getD 25 (.Pass ⟨0, 0, 0, 0⟩)) = true := by decide +kernel
theorem ok26 : okFn (pr.sg 26) f26 (pr.st.getD 26 (.Pass ⟨0, 0, 0, 0⟩)) = true := by decide +kernel
theorem ok27 : okFn (pr.sg 27) f27 (pr.st.getD 27 (.Pass ⟨0, 0, 0, 0⟩)) = true := by decide +kernel
theorem law_true (ns : List Int) (hl : ns.length ≤ 63) : ∃ e, callF pr.F 100000 16 27 [.scr ns] = .ok (.bl true) e := law_end (law_c ns 16 (by decide)) (P.law_ok ns)
theorem oks : ∀ i g, pr.F[i]? = some g → okFn (pr.sg i) g (pr.st.getD i (.Pass ⟨0, 0, 0, 0⟩)) = true := ix_c ok0 (ix_c ok1 (ix_c ok2 (ix_c ok3 (ix_c ok4 (ix_c ok5 (ix_c ok6 (ix_c ok7 (ix_c ok8 (ix_c ok9 (ix_c ok10 (ix_c ok11 (ix_c ok12 (ix_c ok13 (ix_c ok14 (ix_c ok15 (ix_c ok16 (ix_c ok17 (ix_c ok18 (ix_c ok19 (ix_c ok20 (ix_c ok21 (ix_c ok22 (ix_c ok23 (ix_c ok24 (ix_c ok25 (ix_c ok26 (ix_c ok27 (ix_n))))))))))))))))))))))))))))
theorem all_mk {P : Program} {w : World} {K : PySem.W.Frag} {h : Heap} {mg : Str → Option Value} {fa : Addr} (X : K.In h) (G : h.Ns mainGlobals mg) (hfa : mg f27.name = some (.ref fa))
    {g0 : Addr} {od0 an0 : Option Addr} {sl0 : Array (Option Value)} {oc0 kV0 dc0 pm0 cd0 ct0 : Value}
    {g1 : Addr} {od1 an1 : Option Addr} {sl1 : Array (Option Value)} {oc1 kV1 dc1 pm1 cd1 ct1 : Value}
    {g2 : Addr} {od2 an2 : Option Addr} {sl2 : Array (Option Value)} {oc2 kV2 dc2 pm2 cd2 ct2 : Value}
    {g3 : Addr} {od3 an3 : Option Addr} {sl3 : Array (Option Value)} {oc3 kV3 dc3 pm3 cd3 ct3 : Value}
    {g4 : Addr} {od4 an4 : Option Addr} {sl4 : Array (Option Value)} {oc4 kV4 dc4 pm4 cd4 ct4 : Value}
    {g5 : Addr} {od5 an5 : Option Addr} {sl5 : Array (Option Value)} {oc5 kV5 dc5 pm5 cd5 ct5 : Value}
    {g6 : Addr} {od6 an6 : Option Addr} {sl6 : Array (Option Value)} {oc6 kV6 dc6 pm6 cd6 ct6 : Value}
    {g7 : Addr} {od7 an7 : Option Addr} {sl7 : Array (Option Value)} {oc7 kV7 dc7 pm7 cd7 ct7 : Value}
    {g8 : Addr} {od8 an8 : Option Addr} {sl8 : Array (Option Value)} {oc8 kV8 dc8 pm8 cd8 ct8 : Value}
    {g9 : Addr} {od9 an9 : Option Addr} {sl9 : Array (Option Value)} {oc9 kV9 dc9 pm9 cd9 ct9 : Value}
    {g10 : Addr} {od10 an10 : Option Addr} {sl10 : Array (Option Value)} {oc10 kV10 dc10 pm10 cd10 ct10 : Value}
    {g11 : Addr} {od11 an11 : Option Addr} {sl11 : Array (Option Value)} {oc11 kV11 dc11 pm11 cd11 ct11 : Value}
    {g12 : Addr} {od12 an12 : Option Addr} {sl12 : Array (Option Value)} {oc12 kV12 dc12 pm12 cd12 ct12 : Value}
    {g13 : Addr} {od13 an13 : Option Addr} {sl13 : Array (Option Value)} {oc13 kV13 dc13 pm13 cd13 ct13 : Value}
    {g14 : Addr} {od14 an14 : Option Addr} {sl14 : Array (Option Value)} {oc14 kV14 dc14 pm14 cd14 ct14 : Value}
    {g15 : Addr} {od15 an15 : Option Addr} {sl15 : Array (Option Value)} {oc15 kV15 dc15 pm15 cd15 ct15 : Value}
    {g16 : Addr} {od16 an16 : Option Addr} {sl16 : Array (Option Value)} {oc16 kV16 dc16 pm16 cd16 ct16 : Value}
    {g17 : Addr} {od17 an17 : Option Addr} {sl17 : Array (Option Value)} {oc17 kV17 dc17 pm17 cd17 ct17 : Value}
    {g18 : Addr} {od18 an18 : Option Addr} {sl18 : Array (Option Value)} {oc18 kV18 dc18 pm18 cd18 ct18 : Value}
    {g19 : Addr} {od19 an19 : Option Addr} {sl19 : Array (Option Value)} {oc19 kV19 dc19 pm19 cd19 ct19 : Value}
    {g20 : Addr} {od20 an20 : Option Addr} {sl20 : Array (Option Value)} {oc20 kV20 dc20 pm20 cd20 ct20 : Value}
    {g21 : Addr} {od21 an21 : Option Addr} {sl21 : Array (Option Value)} {oc21 kV21 dc21 pm21 cd21 ct21 : Value}
    {g22 : Addr} {od22 an22 : Option Addr} {sl22 : Array (Option Value)} {oc22 kV22 dc22 pm22 cd22 ct22 : Value}
    {g23 : Addr} {od23 an23 : Option Addr} {sl23 : Array (Option Value)} {oc23 kV23 dc23 pm23 cd23 ct23 : Value}
    {g24 : Addr} {od24 an24 : Option Addr} {sl24 : Array (Option Value)} {oc24 kV24 dc24 pm24 cd24 ct24 : Value}
    {g25 : Addr} {od25 an25 : Option Addr} {sl25 : Array (Option Value)} {oc25 kV25 dc25 pm25 cd25 ct25 : Value}
    {g26 : Addr} {od26 an26 : Option Addr} {sl26 : Array (Option Value)} {oc26 kV26 dc26 pm26 cd26 ct26 : Value}
    {g27 : Addr} {od27 an27 : Option Addr} {sl27 : Array (Option Value)} {oc27 kV27 dc27 pm27 cd27 ct27 : Value}
    {fI : Addr} {odI anI : Option Addr} {slI : Array (Option Value)} {ocI dcI pmI cdI ctI : Value} {p1 p2 q1 q2 q3 q4 : Pos}
    {C0 : Addr} {nm0 qq0 : Str} {NN0 : Addr} {bs0 bm0 : List Value} {sn0 : List Str} {sub0 : List Value} {ab0 : Bool} {col0 : Option Bool} {dd0 : Option Addr} {m00 m10 m20 m30 m50 : Option Value}
    {C1 : Addr} {nm1 qq1 : Str} {NN1 : Addr} {bs1 bm1 : List Value} {sn1 : List Str} {sub1 : List Value} {ab1 : Bool} {col1 : Option Bool} {dd1 : Option Addr} {m01 m11 m21 m31 m51 : Option Value}
    {C2 : Addr} {nm2 qq2 : Str} {NN2 : Addr} {bs2 bm2 : List Value} {sn2 : List Str} {sub2 : List Value} {ab2 : Bool} {col2 : Option Bool} {dd2 : Option Addr} {m02 m12 m22 m32 m52 : Option Value}
    {tk0 : Tok}
    {tk1 : Tok}
    (a0 : PySem.W.nsIn K mainGlobals (PySem.Str.ofString "is_whole") = some (some (.ref g0)))
    (l0 : K.lookup g0 = some ⟨oc0, od0, .func (PySem.W.fnOf (PySem.Str.ofString "is_whole") (PySem.Str.ofString "is_whole") (L2.defArgs (top 8)) (L2.defBody (top 8)) (L2.defScope (top 8)) .none kV0 dc0 pm0 an0 cd0 ct0), sl0⟩)
    (c0 : PySem.W.codeIn K cd0 (PySem.Str.ofString "is_whole") = true)
    (k0 : PySem.W.keepIn K (.ref g0) = true)
    (a1 : PySem.W.nsIn K mainGlobals (PySem.Str.ofString "is_track") = some (some (.ref g1)))
    (l1 : K.lookup g1 = some ⟨oc1, od1, .func (PySem.W.fnOf (PySem.Str.ofString "is_track") (PySem.Str.ofString "is_track") (L2.defArgs (top 9)) (L2.defBody (top 9)) (L2.defScope (top 9)) .none kV1 dc1 pm1 an1 cd1 ct1), sl1⟩)
    (c1 : PySem.W.codeIn K cd1 (PySem.Str.ofString "is_track") = true)
    (k1 : PySem.W.keepIn K (.ref g1) = true)
    (a2 : PySem.W.nsIn K mainGlobals (PySem.Str.ofString "first_wrong") = some (some (.ref g2)))
    (l2 : K.lookup g2 = some ⟨oc2, od2, .func (PySem.W.fnOf (PySem.Str.ofString "first_wrong") (PySem.Str.ofString "first_wrong") (L2.defArgs (top 10)) (L2.defBody (top 10)) (L2.defScope (top 10)) .none kV2 dc2 pm2 an2 cd2 ct2), sl2⟩)
    (c2 : PySem.W.codeIn K cd2 (PySem.Str.ofString "first_wrong") = true)
    (k2 : PySem.W.keepIn K (.ref g2) = true)
    (a3 : PySem.W.nsIn K mainGlobals (PySem.Str.ofString "made_yard") = some (some (.ref g3)))
    (l3 : K.lookup g3 = some ⟨oc3, od3, .func (PySem.W.fnOf (PySem.Str.ofString "made_yard") (PySem.Str.ofString "made_yard") (L2.defArgs (top 11)) (L2.defBody (top 11)) (L2.defScope (top 11)) .none kV3 dc3 pm3 an3 cd3 ct3), sl3⟩)
    (c3 : PySem.W.codeIn K cd3 (PySem.Str.ofString "made_yard") = true)
    (k3 : PySem.W.keepIn K (.ref g3) = true)
    (a4 : PySem.W.nsIn K mainGlobals (PySem.Str.ofString "is_pick") = some (some (.ref g4)))
    (l4 : K.lookup g4 = some ⟨oc4, od4, .func (PySem.W.fnOf (PySem.Str.ofString "is_pick") (PySem.Str.ofString "is_pick") (L2.defArgs (top 12)) (L2.defBody (top 12)) (L2.defScope (top 12)) .none kV4 dc4 pm4 an4 cd4 ct4), sl4⟩)
    (c4 : PySem.W.codeIn K cd4 (PySem.Str.ofString "is_pick") = true)
    (k4 : PySem.W.keepIn K (.ref g4) = true)
    (a5 : PySem.W.nsIn K mainGlobals (PySem.Str.ofString "made_pick") = some (some (.ref g5)))
    (l5 : K.lookup g5 = some ⟨oc5, od5, .func (PySem.W.fnOf (PySem.Str.ofString "made_pick") (PySem.Str.ofString "made_pick") (L2.defArgs (top 13)) (L2.defBody (top 13)) (L2.defScope (top 13)) .none kV5 dc5 pm5 an5 cd5 ct5), sl5⟩)
    (c5 : PySem.W.codeIn K cd5 (PySem.Str.ofString "made_pick") = true)
    (k5 : PySem.W.keepIn K (.ref g5) = true)
    (a6 : PySem.W.nsIn K mainGlobals (PySem.Str.ofString "all_tracks") = some (some (.ref g6)))
    (l6 : K.lookup g6 = some ⟨oc6, od6, .func (PySem.W.fnOf (PySem.Str.ofString "all_tracks") (PySem.Str.ofString "all_tracks") (L2.defArgs (top 14)) (L2.defBody (top 14)) (L2.defScope (top 14)) .none kV6 dc6 pm6 an6 cd6 ct6), sl6⟩)
    (c6 : PySem.W.codeIn K cd6 (PySem.Str.ofString "all_tracks") = true)
    (k6 : PySem.W.keepIn K (.ref g6) = true)
    (a7 : PySem.W.nsIn K mainGlobals (PySem.Str.ofString "ends") = some (some (.ref g7)))
    (l7 : K.lookup g7 = some ⟨oc7, od7, .func (PySem.W.fnOf (PySem.Str.ofString "ends") (PySem.Str.ofString "ends") (L2.defArgs (top 16)) (L2.defBody (top 16)) (L2.defScope (top 16)) .none kV7 dc7 pm7 an7 cd7 ct7), sl7⟩)
    (c7 : PySem.W.codeIn K cd7 (PySem.Str.ofString "ends") = true)
    (k7 : PySem.W.keepIn K (.ref g7) = true)
    (a8 : PySem.W.nsIn K mainGlobals (PySem.Str.ofString "labels") = some (some (.ref g8)))
    (l8 : K.lookup g8 = some ⟨oc8, od8, .func (PySem.W.fnOf (PySem.Str.ofString "labels") (PySem.Str.ofString "labels") (L2.defArgs (top 17)) (L2.defBody (top 17)) (L2.defScope (top 17)) .none kV8 dc8 pm8 an8 cd8 ct8), sl8⟩)
    (c8 : PySem.W.codeIn K cd8 (PySem.Str.ofString "labels") = true)
    (k8 : PySem.W.keepIn K (.ref g8) = true)
    (a9 : PySem.W.nsIn K mainGlobals (PySem.Str.ofString "joins") = some (some (.ref g9)))
    (l9 : K.lookup g9 = some ⟨oc9, od9, .func (PySem.W.fnOf (PySem.Str.ofString "joins") (PySem.Str.ofString "joins") (L2.defArgs (top 18)) (L2.defBody (top 18)) (L2.defScope (top 18)) .none kV9 dc9 pm9 an9 cd9 ct9), sl9⟩)
    (c9 : PySem.W.codeIn K cd9 (PySem.Str.ofString "joins") = true)
    (k9 : PySem.W.keepIn K (.ref g9) = true)
    (a10 : PySem.W.nsIn K mainGlobals (PySem.Str.ofString "pieces") = some (some (.ref g10)))
    (l10 : K.lookup g10 = some ⟨oc10, od10, .func (PySem.W.fnOf (PySem.Str.ofString "pieces") (PySem.Str.ofString "pieces") (L2.defArgs (top 19)) (L2.defBody (top 19)) (L2.defScope (top 19)) .none kV10 dc10 pm10 an10 cd10 ct10), sl10⟩)
    (c10 : PySem.W.codeIn K cd10 (PySem.Str.ofString "pieces") = true)
    (k10 : PySem.W.keepIn K (.ref g10) = true)
    (a11 : PySem.W.nsIn K mainGlobals (PySem.Str.ofString "rank") = some (some (.ref g11)))
    (l11 : K.lookup g11 = some ⟨oc11, od11, .func (PySem.W.fnOf (PySem.Str.ofString "rank") (PySem.Str.ofString "rank") (L2.defArgs (top 20)) (L2.defBody (top 20)) (L2.defScope (top 20)) .none kV11 dc11 pm11 an11 cd11 ct11), sl11⟩)
    (c11 : PySem.W.codeIn K cd11 (PySem.Str.ofString "rank") = true)
    (k11 : PySem.W.keepIn K (.ref g11) = true)
    (a12 : PySem.W.nsIn K mainGlobals (PySem.Str.ofString "worth") = some (some (.ref g12)))
    (l12 : K.lookup g12 = some ⟨oc12, od12, .func (PySem.W.fnOf (PySem.Str.ofString "worth") (PySem.Str.ofString "worth") (L2.defArgs (top 22)) (L2.defBody (top 22)) (L2.defScope (top 22)) .none kV12 dc12 pm12 an12 cd12 ct12), sl12⟩)
    (c12 : PySem.W.codeIn K cd12 (PySem.Str.ofString "worth") = true)
    (k12 : PySem.W.keepIn K (.ref g12) = true)
    (a13 : PySem.W.nsIn K mainGlobals (PySem.Str.ofString "check_lane") = some (some (.ref g13)))
    (l13 : K.lookup g13 = some ⟨oc13, od13, .func (PySem.W.fnOf (PySem.Str.ofString "check_lane") (PySem.Str.ofString "check_lane") (L2.defArgs (top 24)) (L2.defBody (top 24)) (L2.defScope (top 24)) .none kV13 dc13 pm13 an13 cd13 ct13), sl13⟩)
    (c13 : PySem.W.codeIn K cd13 (PySem.Str.ofString "check_lane") = true)
    (k13 : PySem.W.keepIn K (.ref g13) = true)
    (a14 : PySem.W.nsIn K mainGlobals (PySem.Str.ofString "adds") = some (some (.ref g14)))
    (l14 : K.lookup g14 = some ⟨oc14, od14, .func (PySem.W.fnOf (PySem.Str.ofString "adds") (PySem.Str.ofString "adds") (L2.defArgs (top 25)) (L2.defBody (top 25)) (L2.defScope (top 25)) .none kV14 dc14 pm14 an14 cd14 ct14), sl14⟩)
    (c14 : PySem.W.codeIn K cd14 (PySem.Str.ofString "adds") = true)
    (k14 : PySem.W.keepIn K (.ref g14) = true)
    (a15 : PySem.W.nsIn K mainGlobals (PySem.Str.ofString "_law_pool") = some (some (.ref g15)))
    (l15 : K.lookup g15 = some ⟨oc15, od15, .func (PySem.W.fnOf (PySem.Str.ofString "_law_pool") (PySem.Str.ofString "_law_pool") (L2.defArgs (top 27)) (L2.defBody (top 27)) (L2.defScope (top 27)) .none kV15 dc15 pm15 an15 cd15 ct15), sl15⟩)
    (c15 : PySem.W.codeIn K cd15 (PySem.Str.ofString "_law_pool") = true)
    (k15 : PySem.W.keepIn K (.ref g15) = true)
    (a16 : PySem.W.nsIn K mainGlobals (PySem.Str.ofString "_law_draw") = some (some (.ref g16)))
    (l16 : K.lookup g16 = some ⟨oc16, od16, .func (PySem.W.fnOf (PySem.Str.ofString "_law_draw") (PySem.Str.ofString "_law_draw") (L2.defArgs (top 28)) (L2.defBody (top 28)) (L2.defScope (top 28)) .none kV16 dc16 pm16 an16 cd16 ct16), sl16⟩)
    (c16 : PySem.W.codeIn K cd16 (PySem.Str.ofString "_law_draw") = true)
    (k16 : PySem.W.keepIn K (.ref g16) = true)
    (a17 : PySem.W.nsIn K mainGlobals (PySem.Str.ofString "_law_is_whole") = some (some (.ref g17)))
    (l17 : K.lookup g17 = some ⟨oc17, od17, .func (PySem.W.fnOf (PySem.Str.ofString "_law_is_whole") (PySem.Str.ofString "_law_is_whole") (L2.defArgs (top 29)) (L2.defBody (top 29)) (L2.defScope (top 29)) .none kV17 dc17 pm17 an17 cd17 ct17), sl17⟩)
    (c17 : PySem.W.codeIn K cd17 (PySem.Str.ofString "_law_is_whole") = true)
    (k17 : PySem.W.keepIn K (.ref g17) = true)
    (a18 : PySem.W.nsIn K mainGlobals (PySem.Str.ofString "_law_turned") = some (some (.ref g18)))
    (l18 : K.lookup g18 = some ⟨oc18, od18, .func (PySem.W.fnOf (PySem.Str.ofString "_law_turned") (PySem.Str.ofString "_law_turned") (L2.defArgs (top 30)) (L2.defBody (top 30)) (L2.defScope (top 30)) .none kV18 dc18 pm18 an18 cd18 ct18), sl18⟩)
    (c18 : PySem.W.codeIn K cd18 (PySem.Str.ofString "_law_turned") = true)
    (k18 : PySem.W.keepIn K (.ref g18) = true)
    (a19 : PySem.W.nsIn K mainGlobals (PySem.Str.ofString "_law_web_yard") = some (some (.ref g19)))
    (l19 : K.lookup g19 = some ⟨oc19, od19, .func (PySem.W.fnOf (PySem.Str.ofString "_law_web_yard") (PySem.Str.ofString "_law_web_yard") (L2.defArgs (top 31)) (L2.defBody (top 31)) (L2.defScope (top 31)) .none kV19 dc19 pm19 an19 cd19 ct19), sl19⟩)
    (c19 : PySem.W.codeIn K cd19 (PySem.Str.ofString "_law_web_yard") = true)
    (k19 : PySem.W.keepIn K (.ref g19) = true)
    (a20 : PySem.W.nsIn K mainGlobals (PySem.Str.ofString "_law_web_ends") = some (some (.ref g20)))
    (l20 : K.lookup g20 = some ⟨oc20, od20, .func (PySem.W.fnOf (PySem.Str.ofString "_law_web_ends") (PySem.Str.ofString "_law_web_ends") (L2.defArgs (top 32)) (L2.defBody (top 32)) (L2.defScope (top 32)) .none kV20 dc20 pm20 an20 cd20 ct20), sl20⟩)
    (c20 : PySem.W.codeIn K cd20 (PySem.Str.ofString "_law_web_ends") = true)
    (k20 : PySem.W.keepIn K (.ref g20) = true)
    (a21 : PySem.W.nsIn K mainGlobals (PySem.Str.ofString "_law_web_reached") = some (some (.ref g21)))
    (l21 : K.lookup g21 = some ⟨oc21, od21, .func (PySem.W.fnOf (PySem.Str.ofString "_law_web_reached") (PySem.Str.ofString "_law_web_reached") (L2.defArgs (top 33)) (L2.defBody (top 33)) (L2.defScope (top 33)) .none kV21 dc21 pm21 an21 cd21 ct21), sl21⟩)
    (c21 : PySem.W.codeIn K cd21 (PySem.Str.ofString "_law_web_reached") = true)
    (k21 : PySem.W.keepIn K (.ref g21) = true)
    (a22 : PySem.W.nsIn K mainGlobals (PySem.Str.ofString "_law_web_pieces") = some (some (.ref g22)))
    (l22 : K.lookup g22 = some ⟨oc22, od22, .func (PySem.W.fnOf (PySem.Str.ofString "_law_web_pieces") (PySem.Str.ofString "_law_web_pieces") (L2.defArgs (top 34)) (L2.defBody (top 34)) (L2.defScope (top 34)) .none kV22 dc22 pm22 an22 cd22 ct22), sl22⟩)
    (c22 : PySem.W.codeIn K cd22 (PySem.Str.ofString "_law_web_pieces") = true)
    (k22 : PySem.W.keepIn K (.ref g22) = true)
    (a23 : PySem.W.nsIn K mainGlobals (PySem.Str.ofString "_law_web_rank") = some (some (.ref g23)))
    (l23 : K.lookup g23 = some ⟨oc23, od23, .func (PySem.W.fnOf (PySem.Str.ofString "_law_web_rank") (PySem.Str.ofString "_law_web_rank") (L2.defArgs (top 35)) (L2.defBody (top 35)) (L2.defScope (top 35)) .none kV23 dc23 pm23 an23 cd23 ct23), sl23⟩)
    (c23 : PySem.W.codeIn K cd23 (PySem.Str.ofString "_law_web_rank") = true)
    (k23 : PySem.W.keepIn K (.ref g23) = true)
    (a24 : PySem.W.nsIn K mainGlobals (PySem.Str.ofString "_law_pair_right") = some (some (.ref g24)))
    (l24 : K.lookup g24 = some ⟨oc24, od24, .func (PySem.W.fnOf (PySem.Str.ofString "_law_pair_right") (PySem.Str.ofString "_law_pair_right") (L2.defArgs (top 36)) (L2.defBody (top 36)) (L2.defScope (top 36)) .none kV24 dc24 pm24 an24 cd24 ct24), sl24⟩)
    (c24 : PySem.W.codeIn K cd24 (PySem.Str.ofString "_law_pair_right") = true)
    (k24 : PySem.W.keepIn K (.ref g24) = true)
    (a25 : PySem.W.nsIn K mainGlobals (PySem.Str.ofString "_law_heard") = some (some (.ref g25)))
    (l25 : K.lookup g25 = some ⟨oc25, od25, .func (PySem.W.fnOf (PySem.Str.ofString "_law_heard") (PySem.Str.ofString "_law_heard") (L2.defArgs (top 37)) (L2.defBody (top 37)) (L2.defScope (top 37)) .none kV25 dc25 pm25 an25 cd25 ct25), sl25⟩)
    (c25 : PySem.W.codeIn K cd25 (PySem.Str.ofString "_law_heard") = true)
    (k25 : PySem.W.keepIn K (.ref g25) = true)
    (a26 : PySem.W.nsIn K mainGlobals (PySem.Str.ofString "_law_refused_right") = some (some (.ref g26)))
    (l26 : K.lookup g26 = some ⟨oc26, od26, .func (PySem.W.fnOf (PySem.Str.ofString "_law_refused_right") (PySem.Str.ofString "_law_refused_right") (L2.defArgs (top 38)) (L2.defBody (top 38)) (L2.defScope (top 38)) .none kV26 dc26 pm26 an26 cd26 ct26), sl26⟩)
    (c26 : PySem.W.codeIn K cd26 (PySem.Str.ofString "_law_refused_right") = true)
    (k26 : PySem.W.keepIn K (.ref g26) = true)
    (a27 : PySem.W.nsIn K mainGlobals (PySem.Str.ofString "law") = some (some (.ref g27)))
    (l27 : K.lookup g27 = some ⟨oc27, od27, .func (PySem.W.fnOf (PySem.Str.ofString "law") (PySem.Str.ofString "law") (L2.defArgs (top 39)) (L2.defBody (top 39)) (L2.defScope (top 39)) .none kV27 dc27 pm27 an27 cd27 ct27), sl27⟩)
    (c27 : PySem.W.codeIn K cd27 (PySem.Str.ofString "law") = true)
    (k27 : PySem.W.keepIn K (.ref g27) = true)
    (eA0 : PySem.W.nsIn K mainGlobals (PySem.Str.ofString "BadYard") = some (some (.ref C0)))
    (eL0 : K.lookup C0 = some (PySem.excClassObj nm0 qq0 C0 NN0 bs0 bm0 true sn0 sub0 ab0 col0 dd0 m00 m10 m20 m30 m50 "ValueError.__new__"))
    (eR0 : PySem.OwnX.rVE bm0 = true)
    (eS0 : PySem.W.findIn K (.ref C0) "__setattr__" = some (some (.builtin "object.__setattr__")))
    (eG0 : PySem.W.findIn K (.ref C0) "__getattribute__" = some (some (.builtin "BaseException.__getattribute__")))
    (eH0 : PySem.W.findIn K (.ref C0) "__getattr__" = some none)
    (eN0 : PySem.W.findIn K (.ref C0) "what" = some none)
    (eI0 : PySem.W.findIn K (.ref C0) "__init__" = some (some (.ref fI)))
    (eK0 : PySem.W.keepIn K (.ref C0) = true)
    (eE0 : PySem.W.subIn K (.ref C0) (.type "BaseException") = some true)
    (eT0 : PySem.W.typeIn K (.ref C0) = some (.type "type"))
    (eD0 : PySem.W.hasDictIn K C0 = true)
    (eC0 : PySem.W.isClsIn K C0 = true)
    (eZ0 : PySem.W.subIn K (.ref C0) (.ref C0) = some true)
    (eV0 : PySem.W.kitOne K (.ref C0) (.type "ValueError") = some true)
    (eQ0 : PySem.W.findIn K (.ref C0) "__class__" = some (some (.builtin "object.__class__")))
    (eO0 : PySem.W.mroIn K C0 (.type "object") = some true)
    (eA1 : PySem.W.nsIn K mainGlobals (PySem.Str.ofString "BadPick") = some (some (.ref C1)))
    (eL1 : K.lookup C1 = some (PySem.excClassObj nm1 qq1 C1 NN1 bs1 bm1 true sn1 sub1 ab1 col1 dd1 m01 m11 m21 m31 m51 "ValueError.__new__"))
    (eR1 : PySem.OwnX.rVE bm1 = true)
    (eS1 : PySem.W.findIn K (.ref C1) "__setattr__" = some (some (.builtin "object.__setattr__")))
    (eG1 : PySem.W.findIn K (.ref C1) "__getattribute__" = some (some (.builtin "BaseException.__getattribute__")))
    (eH1 : PySem.W.findIn K (.ref C1) "__getattr__" = some none)
    (eN1 : PySem.W.findIn K (.ref C1) "what" = some none)
    (eI1 : PySem.W.findIn K (.ref C1) "__init__" = some (some (.ref fI)))
    (eK1 : PySem.W.keepIn K (.ref C1) = true)
    (eE1 : PySem.W.subIn K (.ref C1) (.type "BaseException") = some true)
    (eT1 : PySem.W.typeIn K (.ref C1) = some (.type "type"))
    (eD1 : PySem.W.hasDictIn K C1 = true)
    (eC1 : PySem.W.isClsIn K C1 = true)
    (eZ1 : PySem.W.subIn K (.ref C1) (.ref C1) = some true)
    (eV1 : PySem.W.kitOne K (.ref C1) (.type "ValueError") = some true)
    (eQ1 : PySem.W.findIn K (.ref C1) "__class__" = some (some (.builtin "object.__class__")))
    (eO1 : PySem.W.mroIn K C1 (.type "object") = some true)
    (eA2 : PySem.W.nsIn K mainGlobals (PySem.Str.ofString "BadLane") = some (some (.ref C2)))
    (eL2 : K.lookup C2 = some (PySem.excClassObj nm2 qq2 C2 NN2 bs2 bm2 true sn2 sub2 ab2 col2 dd2 m02 m12 m22 m32 m52 "ValueError.__new__"))
    (eR2 : PySem.OwnX.rVE bm2 = true)
    (eS2 : PySem.W.findIn K (.ref C2) "__setattr__" = some (some (.builtin "object.__setattr__")))
    (eG2 : PySem.W.findIn K (.ref C2) "__getattribute__" = some (some (.builtin "BaseException.__getattribute__")))
    (eH2 : PySem.W.findIn K (.ref C2) "__getattr__" = some none)
    (eN2 : PySem.W.findIn K (.ref C2) "what" = some none)
    (eI2 : PySem.W.findIn K (.ref C2) "__init__" = some (some (.ref fI)))
    (eK2 : PySem.W.keepIn K (.ref C2) = true)
    (eE2 : PySem.W.subIn K (.ref C2) (.type "BaseException") = some true)
    (eT2 : PySem.W.typeIn K (.ref C2) = some (.type "type"))
    (eD2 : PySem.W.hasDictIn K C2 = true)
    (eC2 : PySem.W.isClsIn K C2 = true)
    (eZ2 : PySem.W.subIn K (.ref C2) (.ref C2) = some true)
    (eV2 : PySem.W.kitOne K (.ref C2) (.type "ValueError") = some true)
    (eQ2 : PySem.W.findIn K (.ref C2) "__class__" = some (some (.builtin "object.__class__")))
    (eO2 : PySem.W.mroIn K C2 (.type "object") = some true)
    (sN : PySem.W.specialIn K (.builtin "object.__class__") "__get__" = some (some (.builtin "getset_descriptor.__get__")))
    (sT : PySem.W.takesIn K (.builtin "object.__class__") = some true)
    (v0_0 : PySem.W.exmOne K (.ref C0) (.ref C0) = some true)
    (u0_0 : PySem.W.kitOne K (.ref C0) (.ref C0) = some true)
    (v1_0 : PySem.W.exmOne K (.ref C1) (.ref C0) = some false)
    (u1_0 : PySem.W.kitOne K (.ref C1) (.ref C0) = some false)
    (v2_0 : PySem.W.exmOne K (.ref C2) (.ref C0) = some false)
    (u2_0 : PySem.W.kitOne K (.ref C2) (.ref C0) = some false)
    (v0_2 : PySem.W.exmOne K (.ref C0) (.ref C2) = some false)
    (u0_2 : PySem.W.kitOne K (.ref C0) (.ref C2) = some false)
    (v1_2 : PySem.W.exmOne K (.ref C1) (.ref C2) = some false)
    (u1_2 : PySem.W.kitOne K (.ref C1) (.ref C2) = some false)
    (v2_2 : PySem.W.exmOne K (.ref C2) (.ref C2) = some true)
    (u2_2 : PySem.W.kitOne K (.ref C2) (.ref C2) = some true)
    (iT : PySem.W.typeIn K (.ref fI) = some (.type "function"))
    (iL : K.lookup fI = some ⟨ocI, odI, .func (PySem.W.fnOf "__init__" "Refused.__init__" (PySem.OwnX.iA p1 p2) (PySem.OwnX.iB q1 q2 q3 q4) PySem.OwnX.iS .none .none dcI pmI anI cdI ctI), slI⟩)
    (iC : PySem.W.codeIn K cdI "Refused.__init__" = true)
    (z0 : PySem.W.nsIn K mainGlobals (PySem.Str.ofString "isinstance") = some none)
    (z1 : PySem.W.nsIn K mainGlobals (PySem.Str.ofString "int") = some none)
    (z2 : PySem.W.nsIn K mainGlobals (PySem.Str.ofString "bool") = some none)
    (z3 : PySem.W.nsIn K mainGlobals (PySem.Str.ofString "tuple") = some none)
    (z4 : PySem.W.nsIn K mainGlobals (PySem.Str.ofString "len") = some none)
    (z5 : PySem.W.nsIn K mainGlobals (PySem.Str.ofString "range") = some none)
    (z6 : PySem.W.nsIn K mainGlobals (PySem.Str.ofString "min") = some none)
    (z7 : PySem.W.nsIn K mainGlobals (PySem.Str.ofString "list") = some none)
    (z8 : PySem.W.nsIn K mainGlobals (PySem.Str.ofString "sorted") = some none)
    (z9 : PySem.W.nsIn K mainGlobals (PySem.Str.ofString "sum") = some none)
    (y0 : PySem.W.nsIn K mainGlobals (PySem.Str.ofString "MOST_LANES") = some (some (.int 12 tk0)))
    (y1 : PySem.W.nsIn K mainGlobals (PySem.Str.ofString "MOST_TRACKS") = some (some (.int 60 tk1)))
    (pure : ∀ ns : List Int, ns.length ≤ 63 → ∃ e, callF pr.F 100000 16 27 [.scr ns] = .ok (.bl true) e) :
    ∃ fd : FuncData, (∀ (s : Shared) (u : Value), BindsTo s fd ⟨[u], []⟩ [((PySem.Str.ofString "_law_script"), u)]) ∧ ∀ base : Heap, K.In base → base.Ns mainGlobals mg → L2.FnOk P w K mg base (L2.CX P w) 16 fa fd [(PySem.Str.ofString "_law_script")] (spL K) := by
  have e := hfa.symm.trans (PySem.W.mg_of X G a27)
  cases e
  have F0 := L2.fun_mk (st := top 8) l0 c0 k0
  have b0 := F0.binds (ps := [(PySem.Str.ofString "thing"), (PySem.Str.ofString "low"), (PySem.Str.ofString "high")]) fun _ _ _ _ _ _ us hl => match us, hl with | [_, _, _], _ => rfl
  have F1 := L2.fun_mk (st := top 9) l1 c1 k1
  have b1 := F1.binds (ps := [(PySem.Str.ofString "thing"), (PySem.Str.ofString "firsts"), (PySem.Str.ofString "seconds")]) fun _ _ _ _ _ _ us hl => match us, hl with | [_, _, _], _ => rfl
  have F2 := L2.fun_mk (st := top 10) l2 c2 k2
  have b2 := F2.binds (ps := [(PySem.Str.ofString "thing")]) fun _ _ _ _ _ _ us hl => match us, hl with | [_], _ => rfl
  have F3 := L2.fun_mk (st := top 11) l3 c3 k3
  have b3 := F3.binds (ps := [(PySem.Str.ofString "thing")]) fun _ _ _ _ _ _ us hl => match us, hl with | [_], _ => rfl
  have F4 := L2.fun_mk (st := top 12) l4 c4 k4
  have b4 := F4.binds (ps := [(PySem.Str.ofString "yard"), (PySem.Str.ofString "thing")]) fun _ _ _ _ _ _ us hl => match us, hl with | [_, _], _ => rfl
  have F5 := L2.fun_mk (st := top 13) l5 c5 k5
  have b5 := F5.binds (ps := [(PySem.Str.ofString "yard"), (PySem.Str.ofString "thing")]) fun _ _ _ _ _ _ us hl => match us, hl with | [_, _], _ => rfl
  have F6 := L2.fun_mk (st := top 14) l6 c6 k6
  have b6 := F6.binds (ps := [(PySem.Str.ofString "yard")]) fun _ _ _ _ _ _ us hl => match us, hl with | [_], _ => rfl
  have F7 := L2.fun_mk (st := top 16) l7 c7 k7
  have b7 := F7.binds (ps := [(PySem.Str.ofString "yard"), (PySem.Str.ofString "t")]) fun _ _ _ _ _ _ us hl => match us, hl with | [_, _], _ => rfl
  have F8 := L2.fun_mk (st := top 17) l8 c8 k8
  have b8 := F8.binds (ps := [(PySem.Str.ofString "yard"), (PySem.Str.ofString "pick")]) fun _ _ _ _ _ _ us hl => match us, hl with | [_, _], _ => rfl
  have F9 := L2.fun_mk (st := top 18) l9 c9 k9
  have b9 := F9.binds (ps := [(PySem.Str.ofString "yard"), (PySem.Str.ofString "pick")]) fun _ _ _ _ _ _ us hl => match us, hl with | [_, _], _ => rfl
  have F10 := L2.fun_mk (st := top 19) l10 c10 k10
  have b10 := F10.binds (ps := [(PySem.Str.ofString "yard"), (PySem.Str.ofString "pick")]) fun _ _ _ _ _ _ us hl => match us, hl with | [_, _], _ => rfl
  have F11 := L2.fun_mk (st := top 20) l11 c11 k11
  have b11 := F11.binds (ps := [(PySem.Str.ofString "yard"), (PySem.Str.ofString "pick")]) fun _ _ _ _ _ _ us hl => match us, hl with | [_, _], _ => rfl
  have F12 := L2.fun_mk (st := top 22) l12 c12 k12
  have b12 := F12.binds (ps := [(PySem.Str.ofString "yard")]) fun _ _ _ _ _ _ us hl => match us, hl with | [_], _ => rfl
  have F13 := L2.fun_mk (st := top 24) l13 c13 k13
  have b13 := F13.binds (ps := [(PySem.Str.ofString "lane"), (PySem.Str.ofString "many")]) fun _ _ _ _ _ _ us hl => match us, hl with | [_, _], _ => rfl
  have F14 := L2.fun_mk (st := top 25) l14 c14 k14
  have b14 := F14.binds (ps := [(PySem.Str.ofString "yard"), (PySem.Str.ofString "a"), (PySem.Str.ofString "b")]) fun _ _ _ _ _ _ us hl => match us, hl with | [_, _, _], _ => rfl
  have F15 := L2.fun_mk (st := top 27) l15 c15 k15
  have b15 := F15.binds (ps := [(PySem.Str.ofString "_law_script")]) fun _ _ _ _ _ _ us hl => match us, hl with | [_], _ => rfl
  have F16 := L2.fun_mk (st := top 28) l16 c16 k16
  have b16 := F16.binds (ps := [(PySem.Str.ofString "_law_pool_here"), (PySem.Str.ofString "_law_many")]) fun _ _ _ _ _ _ us hl => match us, hl with | [_, _], _ => rfl
  have F17 := L2.fun_mk (st := top 29) l17 c17 k17
  have b17 := F17.binds (ps := [(PySem.Str.ofString "_law_thing")]) fun _ _ _ _ _ _ us hl => match us, hl with | [_], _ => rfl
  have F18 := L2.fun_mk (st := top 30) l18 c18 k18
  have b18 := F18.binds (ps := [(PySem.Str.ofString "_law_pool_here"), (PySem.Str.ofString "_law_many")]) fun _ _ _ _ _ _ us hl => match us, hl with | [_, _], _ => rfl
  have F19 := L2.fun_mk (st := top 31) l19 c19 k19
  have b19 := F19.binds (ps := [(PySem.Str.ofString "_law_pool_here"), (PySem.Str.ofString "_law_lanes"), (PySem.Str.ofString "_law_most")]) fun _ _ _ _ _ _ us hl => match us, hl with | [_, _, _], _ => rfl
  have F20 := L2.fun_mk (st := top 32) l20 c20 k20
  have b20 := F20.binds (ps := [(PySem.Str.ofString "_law_yard"), (PySem.Str.ofString "_law_t")]) fun _ _ _ _ _ _ us hl => match us, hl with | [_, _], _ => rfl
  have F21 := L2.fun_mk (st := top 33) l21 c21 k21
  have b21 := F21.binds (ps := [(PySem.Str.ofString "_law_yard"), (PySem.Str.ofString "_law_pick"), (PySem.Str.ofString "_law_lane")]) fun _ _ _ _ _ _ us hl => match us, hl with | [_, _, _], _ => rfl
  have F22 := L2.fun_mk (st := top 34) l22 c22 k22
  have b22 := F22.binds (ps := [(PySem.Str.ofString "_law_yard"), (PySem.Str.ofString "_law_pick")]) fun _ _ _ _ _ _ us hl => match us, hl with | [_, _], _ => rfl
  have F23 := L2.fun_mk (st := top 35) l23 c23 k23
  have b23 := F23.binds (ps := [(PySem.Str.ofString "_law_yard"), (PySem.Str.ofString "_law_pick")]) fun _ _ _ _ _ _ us hl => match us, hl with | [_, _], _ => rfl
  have F24 := L2.fun_mk (st := top 36) l24 c24 k24
  have b24 := F24.binds (ps := [(PySem.Str.ofString "_law_yard"), (PySem.Str.ofString "_law_a"), (PySem.Str.ofString "_law_b"), (PySem.Str.ofString "_law_held")]) fun _ _ _ _ _ _ us hl => match us, hl with | [_, _, _, _], _ => rfl
  have F25 := L2.fun_mk (st := top 37) l25 c25 k25
  have b25 := F25.binds (ps := [(PySem.Str.ofString "_law_yard"), (PySem.Str.ofString "_law_a"), (PySem.Str.ofString "_law_b")]) fun _ _ _ _ _ _ us hl => match us, hl with | [_, _, _], _ => rfl
  have F26 := L2.fun_mk (st := top 38) l26 c26 k26
  have b26 := F26.binds (ps := [(PySem.Str.ofString "_law_pool_here"), (PySem.Str.ofString "_law_yard")]) fun _ _ _ _ _ _ us hl => match us, hl with | [_, _], _ => rfl
  have F27 := L2.fun_mk (st := top 39) l27 c27 k27
  have b27 := F27.binds (ps := [(PySem.Str.ofString "_law_script")]) fun _ _ _ _ _ _ us hl => match us, hl with | [_], _ => rfl
  have E0 : PySem.OwnX.OwnTxt K mg (PySem.Str.ofString "BadYard") "Refused.__init__" C0 fI := { gC := PySem.W.mg_of X G eA0, cls := ⟨nm0, qq0, NN0, bs0, bm0, sn0, sub0, ab0, col0, dd0, m00, m10, m20, m30, m50, eL0, eR0⟩, sa := eS0, ga := eG0, gg := eH0, noN := eN0, iC := eI0, tC := iT, kC := eK0, exC := eE0, tyC := eT0, hdC := eD0, te := exm_self eE0 eC0 eT0 eZ0, fn := ⟨_, _, _, _, _, _, _, _, _, _, _, _, _, _, iL, iC⟩ }
  have E1 : PySem.OwnX.OwnTxt K mg (PySem.Str.ofString "BadPick") "Refused.__init__" C1 fI := { gC := PySem.W.mg_of X G eA1, cls := ⟨nm1, qq1, NN1, bs1, bm1, sn1, sub1, ab1, col1, dd1, m01, m11, m21, m31, m51, eL1, eR1⟩, sa := eS1, ga := eG1, gg := eH1, noN := eN1, iC := eI1, tC := iT, kC := eK1, exC := eE1, tyC := eT1, hdC := eD1, te := exm_self eE1 eC1 eT1 eZ1, fn := ⟨_, _, _, _, _, _, _, _, _, _, _, _, _, _, iL, iC⟩ }
  have E2 : PySem.OwnX.OwnTxt K mg (PySem.Str.ofString "BadLane") "Refused.__init__" C2 fI := { gC := PySem.W.mg_of X G eA2, cls := ⟨nm2, qq2, NN2, bs2, bm2, sn2, sub2, ab2, col2, dd2, m02, m12, m22, m32, m52, eL2, eR2⟩, sa := eS2, ga := eG2, gg := eH2, noN := eN2, iC := eI2, tC := iT, kC := eK2, exC := eE2, tyC := eT2, hdC := eD2, te := exm_self eE2 eC2 eT2 eZ2, fn := ⟨_, _, _, _, _, _, _, _, _, _, _, _, _, _, iL, iC⟩ }
  have t : Tp pr K mg (clOf [C0, C1, C2]) :=
    { bl := all_c (PySem.W.mg_none_of X G z0) (all_c (PySem.W.mg_none_of X G z1) (all_c (PySem.W.mg_none_of X G z2) (all_c (PySem.W.mg_none_of X G z3) (all_c (PySem.W.mg_none_of X G z4) (all_c (PySem.W.mg_none_of X G z5) (all_c (PySem.W.mg_none_of X G z6) (all_c (PySem.W.mg_none_of X G z7) (all_c (PySem.W.mg_none_of X G z8) (all_c (PySem.W.mg_none_of X G z9) (all_n))))))))))
      gl := all_c (gl_int (PySem.W.mg_of X G y0)) (all_c (gl_int (PySem.W.mg_of X G y1)) (all_n))
      er := ix_c (⟨_, _, E0⟩) (ix_c (⟨_, _, E1⟩) (ix_c (⟨_, _, E2⟩) (ix_n)))
      hc := .inr (ix_c (⟨eV0, ⟨eG0, eH0, eE0, eD0, eQ0, sN, sT, eO0⟩⟩) (ix_c (⟨eV1, ⟨eG1, eH1, eE1, eD1, eQ1, sN, sT, eO1⟩⟩) (ix_c (⟨eV2, ⟨eG2, eH2, eE2, eD2, eQ2, sN, sT, eO2⟩⟩) (ix_n))))
      sb := all_c (⟨⟨_, rfl⟩, v0_0, u0_0⟩) (all_c (⟨⟨_, rfl⟩, v1_0, u1_0⟩) (all_c (⟨⟨_, rfl⟩, v2_0, u2_0⟩) (all_c (⟨⟨_, rfl⟩, v0_2, u0_2⟩) (all_c (⟨⟨_, rfl⟩, v1_2, u1_2⟩) (all_c (⟨⟨_, rfl⟩, v2_2, u2_2⟩) (all_n))))))
      fn := ix_c (⟨_, _, F0, PySem.W.mg_of X G a0, k0, b0⟩) (ix_c (⟨_, _, F1, PySem.W.mg_of X G a1, k1, b1⟩) (ix_c (⟨_, _, F2, PySem.W.mg_of X G a2, k2, b2⟩) (ix_c (⟨_, _, F3, PySem.W.mg_of X G a3, k3, b3⟩) (ix_c (⟨_, _, F4, PySem.W.mg_of X G a4, k4, b4⟩) (ix_c (⟨_, _, F5, PySem.W.mg_of X G a5, k5, b5⟩) (ix_c (⟨_, _, F6, PySem.W.mg_of X G a6, k6, b6⟩) (ix_c (⟨_, _, F7, PySem.W.mg_of X G a7, k7, b7⟩) (ix_c (⟨_, _, F8, PySem.W.mg_of X G a8, k8, b8⟩) (ix_c (⟨_, _, F9, PySem.W.mg_of X G a9, k9, b9⟩) (ix_c (⟨_, _, F10, PySem.W.mg_of X G a10, k10, b10⟩) (ix_c (⟨_, _, F11, PySem.W.mg_of X G a11, k11, b11⟩) (ix_c (⟨_, _, F12, PySem.W.mg_of X G a12, k12, b12⟩) (ix_c (⟨_, _, F13, PySem.W.mg_of X G a13, k13, b13⟩) (ix_c (⟨_, _, F14, PySem.W.mg_of X G a14, k14, b14⟩) (ix_c (⟨_, _, F15, PySem.W.mg_of X G a15, k15, b15⟩) (ix_c (⟨_, _, F16, PySem.W.mg_of X G a16, k16, b16⟩) (ix_c (⟨_, _, F17, PySem.W.mg_of X G a17, k17, b17⟩) (ix_c (⟨_, _, F18, PySem.W.mg_of X G a18, k18, b18⟩) (ix_c (⟨_, _, F19, PySem.W.mg_of X G a19, k19, b19⟩) (ix_c (⟨_, _, F20, PySem.W.mg_of X G a20, k20, b20⟩) (ix_c (⟨_, _, F21, PySem.W.mg_of X G a21, k21, b21⟩) (ix_c (⟨_, _, F22, PySem.W.mg_of X G a22, k22, b22⟩) (ix_c (⟨_, _, F23, PySem.W.mg_of X G a23, k23, b23⟩) (ix_c (⟨_, _, F24, PySem.W.mg_of X G a24, k24, b24⟩) (ix_c (⟨_, _, F25, PySem.W.mg_of X G a25, k25, b25⟩) (ix_c (⟨_, _, F26, PySem.W.mg_of X G a26, k26, b26⟩) (ix_c (⟨_, _, F27, PySem.W.mg_of X G a27, k27, b27⟩) (ix_n)))))))))))))))))))))))))))) }
  exact ⟨_, fun s u => .of_eq rfl, fun base _ _ => law_ok (wf := 100000) t oks (i := 27) (g := f27) rfl F27 rfl pure⟩
end K31
open PySem PySem.W PyProof.Rows in
set_option maxRecDepth 100000 in
set_option maxHeartbeats 0 in
theorem PySem.Challenge.cw_trackworth_k31_tracks_that_add_holds : PySem.Challenge.rw_trackworth_k31_tracks_that_add.Holds := by
  w_on; o_law; k_head; (case hw => w_witness2)
  k_fill
  refine Tw.law_walk (l := PySem.Challenge.rw_trackworth_k31_tracks_that_add) (x := (PySem.Str.ofString "_law_script")) (lvl := 16) rfl rfl ⟨rfl, by decide, by decide⟩ (fun w h Y => PySem.W.kIn_of Y) ?F
  case F =>
    intro w mg fa h KX G hmg
    refine' K31.all_mk KX G hmg ?a0 ?l0 ?c0 ?k0 ?a1 ?l1 ?c1 ?k1 ?a2 ?l2 ?c2 ?k2 ?a3 ?l3 ?c3 ?k3 ?a4 ?l4 ?c4 ?k4 ?a5 ?l5 ?c5 ?k5 ?a6 ?l6 ?c6 ?k6 ?a7 ?l7 ?c7 ?k7 ?a8 ?l8 ?c8 ?k8 ?a9 ?l9 ?c9 ?k9 ?a10 ?l10 ?c10 ?k10 ?a11 ?l11 ?c11 ?k11 ?a12 ?l12 ?c12 ?k12 ?a13 ?l13 ?c13 ?k13 ?a14 ?l14 ?c14 ?k14 ?a15 ?l15 ?c15 ?k15 ?a16 ?l16 ?c16 ?k16 ?a17 ?l17 ?c17 ?k17 ?a18 ?l18 ?c18 ?k18 ?a19 ?l19 ?c19 ?k19 ?a20 ?l20 ?c20 ?k20 ?a21 ?l21 ?c21 ?k21 ?a22 ?l22 ?c22 ?k22 ?a23 ?l23 ?c23 ?k23 ?a24 ?l24 ?c24 ?k24 ?a25 ?l25 ?c25 ?k25 ?a26 ?l26 ?c26 ?k26 ?a27 ?l27 ?c27 ?k27 ?eA0 ?eL0 ?eR0 ?eS0 ?eG0 ?eH0 ?eN0 ?eI0 ?eK0 ?eE0 ?eT0 ?eD0 ?eC0 ?eZ0 ?eV0 ?eQ0 ?eO0 ?eA1 ?eL1 ?eR1 ?eS1 ?eG1 ?eH1 ?eN1 ?eI1 ?eK1 ?eE1 ?eT1 ?eD1 ?eC1 ?eZ1 ?eV1 ?eQ1 ?eO1 ?eA2 ?eL2 ?eR2 ?eS2 ?eG2 ?eH2 ?eN2 ?eI2 ?eK2 ?eE2 ?eT2 ?eD2 ?eC2 ?eZ2 ?eV2 ?eQ2 ?eO2 ?sN ?sT ?v0_0 ?u0_0 ?v1_0 ?u1_0 ?v2_0 ?u2_0 ?v0_2 ?u0_2 ?v1_2 ?u1_2 ?v2_2 ?u2_2 ?iT ?iL ?iC ?z0 ?z1 ?z2 ?z3 ?z4 ?z5 ?z6 ?z7 ?z8 ?z9 ?y0 ?y1 K31.law_true
    (case a0 => first | k_is | rfl)
    (case l0 => first | k_is | rfl)
    (case c0 => first | k_is | rfl)
    (case k0 => first | k_is | rfl)
    (case a1 => first | k_is | rfl)
    (case l1 => first | k_is | rfl)
    (case c1 => first | k_is | rfl)
    (case k1 => first | k_is | rfl)
    (case a2 => first | k_is | rfl)
    (case l2 => first | k_is | rfl)
    (case c2 => first | k_is | rfl)
    (case k2 => first | k_is | rfl)
    (case a3 => first | k_is | rfl)
    (case l3 => first | k_is | rfl)
    (case c3 => first | k_is | rfl)
    (case k3 => first | k_is | rfl)
    (case a4 => first | k_is | rfl)
    (case l4 => first | k_is | rfl)
    (case c4 => first | k_is | rfl)
    (case k4 => first | k_is | rfl)
    (case a5 => first | k_is | rfl)
    (case l5 => first | k_is | rfl)
    (case c5 => first | k_is | rfl)
    (case k5 => first | k_is | rfl)
    (case a6 => first | k_is | rfl)
    (case l6 => first | k_is | rfl)
    (case c6 => first | k_is | rfl)
    (case k6 => first | k_is | rfl)
    (case a7 => first | k_is | rfl)
    (case l7 => first | k_is | rfl)
    (case c7 => first | k_is | rfl)
    (case k7 => first | k_is | rfl)
    (case a8 => first | k_is | rfl)
    (case l8 => first | k_is | rfl)
    (case c8 => first | k_is | rfl)
    (case k8 => first | k_is | rfl)
    (case a9 => first | k_is | rfl)
    (case l9 => first | k_is | rfl)
    (case c9 => first | k_is | rfl)
    (case k9 => first | k_is | rfl)
    (case a10 => first | k_is | rfl)
    (case l10 => first | k_is | rfl)
    (case c10 => first | k_is | rfl)
    (case k10 => first | k_is | rfl)
    (case a11 => first | k_is | rfl)
    (case l11 => first | k_is | rfl)
    (case c11 => first | k_is | rfl)
    (case k11 => first | k_is | rfl)
    (case a12 => first | k_is | rfl)
    (case l12 => first | k_is | rfl)
    (case c12 => first | k_is | rfl)
    (case k12 => first | k_is | rfl)
    (case a13 => first | k_is | rfl)
    (case l13 => first | k_is | rfl)
    (case c13 => first | k_is | rfl)
    (case k13 => first | k_is | rfl)
    (case a14 => first | k_is | rfl)
    (case l14 => first | k_is | rfl)
    (case c14 => first | k_is | rfl)
    (case k14 => first | k_is | rfl)
    (case a15 => first | k_is | rfl)
    (case l15 => first | k_is | rfl)
    (case c15 => first | k_is | rfl)
    (case k15 => first | k_is | rfl)
    (case a16 => first | k_is | rfl)
    (case l16 => first | k_is | rfl)
    (case c16 => first | k_is | rfl)
    (case k16 => first | k_is | rfl)
    (case a17 => first | k_is | rfl)
    (case l17 => first | k_is | rfl)
    (case c17 => first | k_is | rfl)
    (case k17 => first | k_is | rfl)
    (case a18 => first | k_is | rfl)
    (case l18 => first | k_is | rfl)
    (case c18 => first | k_is | rfl)
    (case k18 => first | k_is | rfl)
    (case a19 => first | k_is | rfl)
    (case l19 => first | k_is | rfl)
    (case c19 => first | k_is | rfl)
    (case k19 => first | k_is | rfl)
    (case a20 => first | k_is | rfl)
    (case l20 => first | k_is | rfl)
    (case c20 => first | k_is | rfl)
    (case k20 => first | k_is | rfl)
    (case a21 => first | k_is | rfl)
    (case l21 => first | k_is | rfl)
    (case c21 => first | k_is | rfl)
    (case k21 => first | k_is | rfl)
    (case a22 => first | k_is | rfl)
    (case l22 => first | k_is | rfl)
    (case c22 => first | k_is | rfl)
    (case k22 => first | k_is | rfl)
    (case a23 => first | k_is | rfl)
    (case l23 => first | k_is | rfl)
    (case c23 => first | k_is | rfl)
    (case k23 => first | k_is | rfl)
    (case a24 => first | k_is | rfl)
    (case l24 => first | k_is | rfl)
    (case c24 => first | k_is | rfl)
    (case k24 => first | k_is | rfl)
    (case a25 => first | k_is | rfl)
    (case l25 => first | k_is | rfl)
    (case c25 => first | k_is | rfl)
    (case k25 => first | k_is | rfl)
    (case a26 => first | k_is | rfl)
    (case l26 => first | k_is | rfl)
    (case c26 => first | k_is | rfl)
    (case k26 => first | k_is | rfl)
    (case a27 => first | k_is | rfl)
    (case l27 => first | k_is | rfl)
    (case c27 => first | k_is | rfl)
    (case k27 => first | k_is | rfl)
    (case eA0 => first | k_is | rfl)
    (case eL0 => first | k_is | rfl)
    (case eR0 => first | k_is | rfl)
    (case eS0 => first | k_is | rfl)
    (case eG0 => first | k_is | rfl)
    (case eH0 => first | k_is | rfl)
    (case eN0 => first | k_is | rfl)
    (case eI0 => first | k_is | rfl)
    (case eK0 => first | k_is | rfl)
    (case eE0 => first | k_is | rfl)
    (case eT0 => first | k_is | rfl)
    (case eD0 => first | k_is | rfl)
    (case eC0 => first | k_is | rfl)
    (case eZ0 => first | k_is | rfl)
    (case eV0 => first | k_is | rfl)
    (case eQ0 => first | k_is | rfl)
    (case eO0 => first | k_is | rfl)
    (case eA1 => first | k_is | rfl)
    (case eL1 => first | k_is | rfl)
    (case eR1 => first | k_is | rfl)
    (case eS1 => first | k_is | rfl)
    (case eG1 => first | k_is | rfl)
    (case eH1 => first | k_is | rfl)
    (case eN1 => first | k_is | rfl)
    (case eI1 => first | k_is | rfl)
    (case eK1 => first | k_is | rfl)
    (case eE1 => first | k_is | rfl)
    (case eT1 => first | k_is | rfl)
    (case eD1 => first | k_is | rfl)
    (case eC1 => first | k_is | rfl)
    (case eZ1 => first | k_is | rfl)
    (case eV1 => first | k_is | rfl)
    (case eQ1 => first | k_is | rfl)
    (case eO1 => first | k_is | rfl)
    (case eA2 => first | k_is | rfl)
    (case eL2 => first | k_is | rfl)
    (case eR2 => first | k_is | rfl)
    (case eS2 => first | k_is | rfl)
    (case eG2 => first | k_is | rfl)
    (case eH2 => first | k_is | rfl)
    (case eN2 => first | k_is | rfl)
    (case eI2 => first | k_is | rfl)
    (case eK2 => first | k_is | rfl)
    (case eE2 => first | k_is | rfl)
    (case eT2 => first | k_is | rfl)
    (case eD2 => first | k_is | rfl)
    (case eC2 => first | k_is | rfl)
    (case eZ2 => first | k_is | rfl)
    (case eV2 => first | k_is | rfl)
    (case eQ2 => first | k_is | rfl)
    (case eO2 => first | k_is | rfl)
    (case sN => first | k_is | rfl)
    (case sT => first | k_is | rfl)
    (case v0_0 => first | k_is | rfl)
    (case u0_0 => first | k_is | rfl)
    (case v1_0 => first | k_is | rfl)
    (case u1_0 => first | k_is | rfl)
    (case v2_0 => first | k_is | rfl)
    (case u2_0 => first | k_is | rfl)
    (case v0_2 => first | k_is | rfl)
    (case u0_2 => first | k_is | rfl)
    (case v1_2 => first | k_is | rfl)
    (case u1_2 => first | k_is | rfl)
    (case v2_2 => first | k_is | rfl)
    (case u2_2 => first | k_is | rfl)
    (case iT => first | k_is | rfl)
    (case iL => first | k_is | rfl)
    (case iC => first | k_is | rfl)
    (case z0 => first | k_is | rfl)
    (case z1 => first | k_is | rfl)
    (case z2 => first | k_is | rfl)
    (case z3 => first | k_is | rfl)
    (case z4 => first | k_is | rfl)
    (case z5 => first | k_is | rfl)
    (case z6 => first | k_is | rfl)
    (case z7 => first | k_is | rfl)
    (case z8 => first | k_is | rfl)
    (case z9 => first | k_is | rfl)
    (case y0 => first | k_is | rfl)
    (case y1 => first | k_is | rfl)