import PyProof.Rows.All
import Wide.All
import OpenK.AllK
import Wide.FinOn
import HandS.ForMost
import HandS.ForExc
import HandS.Wide
import HandS.IsInst
import HandS.Flow
import HandS.CallSlots
import HandS.TupAny
import HandS.Conv
import HandS.More
import HandS.Walk
import HandS.Style
import KE.GoesEnum
import HandS.Defaults
import HandS.HeadNt
import HandS.DictEq
import KE.KEqSeq
import HandS.Base
import HandS.Call
import HandS.Ends
import HandS.HeadEnd
import HandS.HeadHook1
import HandS.HeadHook2
import HandS.Head0
import HandS.Head1
import HandS.Head2
import HandS.DictComp
import PySem.Challenge.RW_sparehouses_k77_falls
import HandS.Codes
set_option Elab.async false
set_option linter.all false
set_option maxRecDepth 100000
/-! DLa: the data layer, part a: data, what bears it in a heap, what is owned. -/
namespace DL
open PySem L2

/-- a value with all that hangs on it -/
inductive D where
  | non | bl (b : Bool) | int (i : Int) | str (s : Str)
  | tup (ds : List D) | lst (ds : List D)
  | dK (kvs : List (Key × D)) | dT (kvs : List (List Key × D))
  | obj (c : Str) (fs : List (Str × D))
  | fn (x : Str)
  | ktu (ds : List D)
  | hole

abbrev MG := Str → Option Value

section
variable (K : PySem.W.Frag) (mg : MG) (F : Hp)
mutual
/-- the heap F bears the data at v -/
def Rep : D → V → Prop
  | .non, v => v = .non
  | .bl b, v => v = .bl b
  | .int i, v => v = .int i
  | .str s, v => v = .str s
  | .tup ds, v => ∃ a vs, v = .ref a ∧ F a = some (.tup vs) ∧ Reps ds vs
  | .lst ds, v => ∃ a vs, v = .ref a ∧ Rd F a (.lst vs) ∧ Reps ds vs
  | .dK kvs, v => ∃ a vs, v = .ref a ∧ Rd F a (.dK vs) ∧ RepK kvs vs
  | .dT kvs, v => ∃ a vs, v = .ref a ∧ Rd F a (.dT vs) ∧ RepT kvs vs
  | .obj c fs, v => ∃ a C dx vs, v = .ref a ∧ F a = some (.ins C dx vs) ∧ F dx = some (.own a) ∧ mg c = some (.ref C) ∧ RepF fs vs
  | .fn x, v => ∃ f, v = .ref f ∧ mg x = some (.ref f)
  | .ktu ds, v => ∃ a vs, v = .ref a ∧ SqT K F a vs ∧ Reps ds vs
  | .hole, _ => True
def Reps : List D → List V → Prop
  | [], vs => vs = []
  | d :: ds, vs => ∃ v r, vs = v :: r ∧ Rep d v ∧ Reps ds r
def RepK : List (Key × D) → List (Key × V) → Prop
  | [], vs => vs = []
  | (k, d) :: ds, vs => ∃ v r, vs = (k, v) :: r ∧ Rep d v ∧ RepK ds r
def RepT : List (List Key × D) → List (List Key × V) → Prop
  | [], vs => vs = []
  | (k, d) :: ds, vs => ∃ v r, vs = (k, v) :: r ∧ Rep d v ∧ RepT ds r
def RepF : List (Str × D) → List (Str × V) → Prop
  | [], vs => vs = []
  | (k, d) :: ds, vs => ∃ v r, vs = (k, v) :: r ∧ Rep d v ∧ RepF ds r
end
end


/-! ### the heap may grow -/
section
variable {K : PySem.W.Frag} {mg : MG} {F F' H H' : Hp}
theorem sqt_mono (e : Same F F') {a : Addr} {xs : List V} (h : SqT K F a xs) : SqT K F' a xs := by
  rcases h with (h | ⟨o, h⟩) | h
  · exact .inl (.inl (e _ _ h))
  · exact .inl (.inr ⟨o, e _ _ h⟩)
  · exact .inr h
theorem rd_mono (e : Same F F') {a : Addr} {u : HO} (h : Rd F a u) : Rd F' a u := by
  rcases h with h | ⟨o, h⟩
  · exact .inl (e _ _ h)
  · exact .inr ⟨o, e _ _ h⟩
mutual
theorem Rep.mono (e : Same F F') : ∀ {d : D} {v : V}, Rep K mg F d v → Rep K mg F' d v
  | .non, _, h => h
  | .bl _, _, h => h
  | .int _, _, h => h
  | .str _, _, h => h
  | .tup _, _, ⟨a, vs, h1, h2, h3⟩ => ⟨a, vs, h1, e _ _ h2, Reps.mono e h3⟩
  | .lst _, _, ⟨a, vs, h1, h2, h3⟩ => ⟨a, vs, h1, rd_mono e h2, Reps.mono e h3⟩
  | .dK _, _, ⟨a, vs, h1, h2, h3⟩ => ⟨a, vs, h1, rd_mono e h2, RepK.mono e h3⟩
  | .dT _, _, ⟨a, vs, h1, h2, h3⟩ => ⟨a, vs, h1, rd_mono e h2, RepT.mono e h3⟩
  | .obj _ _, _, ⟨a, C, dx, vs, h1, h2, h3, h4, h5⟩ => ⟨a, C, dx, vs, h1, e _ _ h2, e _ _ h3, h4, RepF.mono e h5⟩
  | .fn _, _, h => h
  | .ktu _, _, ⟨a, vs, h1, h2, h3⟩ => ⟨a, vs, h1, sqt_mono e h2, Reps.mono e h3⟩
  | .hole, _, h => h
theorem Reps.mono (e : Same F F') : ∀ {ds : List D} {vs : List V}, Reps K mg F ds vs → Reps K mg F' ds vs
  | [], _, h => h
  | _ :: _, _, ⟨v, r, h1, h2, h3⟩ => ⟨v, r, h1, Rep.mono e h2, Reps.mono e h3⟩
theorem RepK.mono (e : Same F F') : ∀ {ds : List (Key × D)} {vs : List (Key × V)}, RepK K mg F ds vs → RepK K mg F' ds vs
  | [], _, h => h
  | (_, _) :: _, _, ⟨v, r, h1, h2, h3⟩ => ⟨v, r, h1, Rep.mono e h2, RepK.mono e h3⟩
theorem RepT.mono (e : Same F F') : ∀ {ds : List (List Key × D)} {vs : List (List Key × V)}, RepT K mg F ds vs → RepT K mg F' ds vs
  | [], _, h => h
  | (_, _) :: _, _, ⟨v, r, h1, h2, h3⟩ => ⟨v, r, h1, Rep.mono e h2, RepT.mono e h3⟩
theorem RepF.mono (e : Same F F') : ∀ {ds : List (Str × D)} {vs : List (Str × V)}, RepF K mg F ds vs → RepF K mg F' ds vs
  | [], _, h => h
  | (_, _) :: _, _, ⟨v, r, h1, h2, h3⟩ => ⟨v, r, h1, Rep.mono e h2, RepF.mono e h3⟩
end
theorem Reps.length : ∀ {ds : List D} {vs : List V}, Reps K mg F ds vs → vs.length = ds.length
  | [], _, h => by subst h; rfl
  | _ :: _, _, ⟨v, r, h1, _, h3⟩ => by subst h1; simp [Reps.length h3]
theorem Reps.get : ∀ {ds : List D} {vs : List V} {i : Nat} {d : D}, Reps K mg F ds vs → ds[i]? = some d → ∃ v, vs[i]? = some v ∧ Rep K mg F d v
  | [], _, _, _, _, e => by simp at e
  | d :: _, _, 0, _, ⟨v, r, h1, h2, _⟩, e => by
    subst h1
    have e : d = _ := Option.some.inj (by simpa using e)
    subst e
    exact ⟨v, rfl, h2⟩
  | _ :: ds, _, i + 1, _, ⟨v, r, h1, _, h3⟩, e => by
    subst h1
    exact Reps.get (i := i) h3 (by simpa using e)
theorem Reps.get' : ∀ {ds : List D} {vs : List V} {i : Nat} {v : V}, Reps K mg F ds vs → vs[i]? = some v → ∃ d, ds[i]? = some d ∧ Rep K mg F d v
  | [], _, _, _, h, e => by subst h; simp at e
  | d :: _, _, 0, _, ⟨w, r, h1, h2, _⟩, e => by
    subst h1
    have e : w = _ := Option.some.inj (by simpa using e)
    subst e
    exact ⟨d, rfl, h2⟩
  | _ :: ds, _, i + 1, _, ⟨w, r, h1, _, h3⟩, e => by
    subst h1
    exact Reps.get' (i := i) h3 (by simpa using e)
theorem Reps.append : ∀ {ds es : List D} {vs ws : List V}, Reps K mg F ds vs → Reps K mg F es ws → Reps K mg F (ds ++ es) (vs ++ ws)
  | [], _, _, _, h, g => by subst h; exact g
  | _ :: _, _, _, ws, ⟨v, r, h1, h2, h3⟩, g => ⟨v, r ++ ws, by subst h1; rfl, h2, Reps.append h3 g⟩
theorem Reps.take : ∀ {ds : List D} {vs : List V} (n : Nat), Reps K mg F ds vs → Reps K mg F (ds.take n) (vs.take n)
  | _, _, 0, _ => by simp [Reps]
  | [], _, n + 1, h => by subst h; simp [Reps]
  | _ :: _, _, n + 1, ⟨v, r, h1, h2, h3⟩ => ⟨v, r.take n, by subst h1; rfl, h2, Reps.take n h3⟩
theorem Reps.drop : ∀ {ds : List D} {vs : List V} (n : Nat), Reps K mg F ds vs → Reps K mg F (ds.drop n) (vs.drop n)
  | _, _, 0, h => h
  | [], _, n + 1, h => by subst h; simp [Reps]
  | _ :: ds, _, n + 1, ⟨v, r, h1, _, h3⟩ => by subst h1; exact Reps.drop n h3
theorem Reps.set : ∀ {ds : List D} {vs : List V} (i : Nat) {d : D} {v : V}, Reps K mg F ds vs → Rep K mg F d v → Reps K mg F (ds.set i d) (vs.set i v)
  | [], _, _, _, _, h, _ => by subst h; simp [Reps]
  | _ :: _, _, 0, _, v, ⟨w, r, h1, _, h3⟩, g => ⟨v, r, by subst h1; rfl, g, h3⟩
  | _ :: _, _, i + 1, _, v, ⟨w, r, h1, h2, h3⟩, g => ⟨w, r.set i v, by subst h1; rfl, h2, Reps.set i h3 g⟩
theorem Reps.one {d : D} {v : V} (h : Rep K mg F d v) : Reps K mg F [d] [v] := ⟨v, [], rfl, h, rfl⟩
theorem Reps.reverse : ∀ {ds : List D} {vs : List V}, Reps K mg F ds vs → Reps K mg F ds.reverse vs.reverse
  | [], _, h => by subst h; simp [Reps]
  | _ :: _, _, ⟨v, r, h1, h2, h3⟩ => by
    subst h1
    rw [List.reverse_cons, List.reverse_cons]
    exact Reps.append (Reps.reverse h3) (Reps.one h2)
theorem RepK.keys : ∀ {ds : List (Key × D)} {vs : List (Key × V)}, RepK K mg F ds vs → ds.map (·.1) = vs.map (·.1) ∧ Reps K mg F (ds.map (·.2)) (vs.map (·.2))
  | [], _, h => by subst h; exact ⟨rfl, rfl⟩
  | (k, d) :: _, _, ⟨v, r, h1, h2, h3⟩ => by
    subst h1
    obtain ⟨a, b⟩ := RepK.keys h3
    exact ⟨congrArg (k :: ·) a, ⟨v, _, rfl, h2, b⟩⟩
theorem RepK.of : ∀ {ds : List (Key × D)} {vs : List (Key × V)}, ds.map (·.1) = vs.map (·.1) → Reps K mg F (ds.map (·.2)) (vs.map (·.2)) → RepK K mg F ds vs
  | [], vs, h, _ => by
    cases vs with
    | nil => rfl
    | cons _ _ => simp at h
  | (k, d) :: ds, [], h, _ => by simp at h
  | (k, d) :: ds, (k', v) :: vs, h, ⟨w, r, h1, h2, h3⟩ => by
    have hk : k = k' ∧ ds.map (·.1) = vs.map (·.1) := by simpa using h
    obtain ⟨rfl, hh⟩ := hk
    have h1 : v :: vs.map (·.2) = w :: r := h1
    injection h1 with e1 e2
    subst e1; subst e2
    exact ⟨v, vs, rfl, h2, RepK.of hh h3⟩
theorem RepT.keys : ∀ {ds : List (List Key × D)} {vs : List (List Key × V)}, RepT K mg F ds vs → ds.map (·.1) = vs.map (·.1) ∧ Reps K mg F (ds.map (·.2)) (vs.map (·.2))
  | [], _, h => by subst h; exact ⟨rfl, rfl⟩
  | (k, d) :: _, _, ⟨v, r, h1, h2, h3⟩ => by
    subst h1
    obtain ⟨a, b⟩ := RepT.keys h3
    exact ⟨congrArg (k :: ·) a, ⟨v, _, rfl, h2, b⟩⟩
theorem RepT.of : ∀ {ds : List (List Key × D)} {vs : List (List Key × V)}, ds.map (·.1) = vs.map (·.1) → Reps K mg F (ds.map (·.2)) (vs.map (·.2)) → RepT K mg F ds vs
  | [], vs, h, _ => by
    cases vs with
    | nil => rfl
    | cons _ _ => simp at h
  | (k, d) :: ds, [], h, _ => by simp at h
  | (k, d) :: ds, (k', v) :: vs, h, ⟨w, r, h1, h2, h3⟩ => by
    have hk : k = k' ∧ ds.map (·.1) = vs.map (·.1) := by simpa using h
    obtain ⟨rfl, hh⟩ := hk
    have h1 : v :: vs.map (·.2) = w :: r := h1
    injection h1 with e1 e2
    subst e1; subst e2
    exact ⟨v, vs, rfl, h2, RepT.of hh h3⟩
theorem RepF.keys : ∀ {ds : List (Str × D)} {vs : List (Str × V)}, RepF K mg F ds vs → ds.map (·.1) = vs.map (·.1) ∧ Reps K mg F (ds.map (·.2)) (vs.map (·.2))
  | [], _, h => by subst h; exact ⟨rfl, rfl⟩
  | (k, d) :: _, _, ⟨v, r, h1, h2, h3⟩ => by
    subst h1
    obtain ⟨a, b⟩ := RepF.keys h3
    exact ⟨congrArg (k :: ·) a, ⟨v, _, rfl, h2, b⟩⟩
theorem RepF.of : ∀ {ds : List (Str × D)} {vs : List (Str × V)}, ds.map (·.1) = vs.map (·.1) → Reps K mg F (ds.map (·.2)) (vs.map (·.2)) → RepF K mg F ds vs
  | [], vs, h, _ => by
    cases vs with
    | nil => rfl
    | cons _ _ => simp at h
  | (k, d) :: ds, [], h, _ => by simp at h
  | (k, d) :: ds, (k', v) :: vs, h, ⟨w, r, h1, h2, h3⟩ => by
    have hk : k = k' ∧ ds.map (·.1) = vs.map (·.1) := by simpa using h
    obtain ⟨rfl, hh⟩ := hk
    have h1 : v :: vs.map (·.2) = w :: r := h1
    injection h1 with e1 e2
    subst e1; subst e2
    exact ⟨v, vs, rfl, h2, RepF.of hh h3⟩
end

/-! ### what is owned -/
abbrev AP := Addr → Prop
/-- items with what each owns -/
def ROs (R : AP → D → V → Prop) : AP → List D → List V → Prop
  | _, [], vs => vs = []
  | P, d :: ds, vs => ∃ v r P1 P2, vs = v :: r ∧ (∀ a, P1 a → P a) ∧ (∀ a, P2 a → P a) ∧ (∀ a, P1 a → P2 a → False) ∧ R P1 d v ∧ ROs R P2 ds r
/-- the data at v; its nodes at depth below n stand in H and are owned (P), all else stands in F -/
def RepO (K : PySem.W.Frag) (mg : MG) (F H : Hp) : Nat → AP → D → V → Prop
  | 0, _, d, v => Rep K mg F d v
  | n + 1, P, .lst ds, v => ∃ a vs P', v = .ref a ∧ H a = some (.lst vs) ∧ P a ∧ ¬ P' a ∧ (∀ b, P' b → P b) ∧ ROs (RepO K mg F H n) P' ds vs
  | n + 1, P, .dK kvs, v => ∃ a vs P', v = .ref a ∧ H a = some (.dK vs) ∧ P a ∧ ¬ P' a ∧ (∀ b, P' b → P b) ∧ kvs.map (·.1) = vs.map (·.1) ∧ ROs (RepO K mg F H n) P' (kvs.map (·.2)) (vs.map (·.2))
  | n + 1, P, .dT kvs, v => ∃ a vs P', v = .ref a ∧ H a = some (.dT vs) ∧ P a ∧ ¬ P' a ∧ (∀ b, P' b → P b) ∧ kvs.map (·.1) = vs.map (·.1) ∧ ROs (RepO K mg F H n) P' (kvs.map (·.2)) (vs.map (·.2))
  | n + 1, P, .obj c fs, v => ∃ a C dx vs P', v = .ref a ∧ H a = some (.ins C dx vs) ∧ H dx = some (.own a) ∧ mg c = some (.ref C) ∧ P a ∧ P dx ∧ ¬ P' a ∧ ¬ P' dx ∧ (∀ b, P' b → P b) ∧
      fs.map (·.1) = vs.map (·.1) ∧ ROs (RepO K mg F H n) P' (fs.map (·.2)) (vs.map (·.2))
  | _ + 1, _, d, v => Rep K mg F d v
section
variable {K : PySem.W.Frag} {mg : MG} {F F' H H' : Hp}
theorem ROs.imp {R R' : AP → D → V → Prop} : ∀ {ds : List D} {P P' : AP} {vs : List V}, (∀ P1 d v, (∀ a, P1 a → P a) → R P1 d v → R' P1 d v) → (∀ a, P a → P' a) → ROs R P ds vs → ROs R' P' ds vs
  | [], _, _, _, _, _, h => h
  | _ :: _, P, P', _, k, s, ⟨v, r, P1, P2, h1, h2, h3, h4, h5, h6⟩ =>
    ⟨v, r, P1, P2, h1, fun a x => s a (h2 a x), fun a x => s a (h3 a x), h4, k P1 _ _ h2 h5, ROs.imp (fun Q d w hq => k Q d w fun a x => h3 a (hq a x)) (fun _ x => x) h6⟩
theorem ROs.reps {R : AP → D → V → Prop} : ∀ {ds : List D} {P : AP} {vs : List V}, (∀ P1 d v, (∀ a, P1 a → P a) → R P1 d v → Rep K mg F d v) → ROs R P ds vs → Reps K mg F ds vs
  | [], _, _, _, h => h
  | _ :: _, P, _, k, ⟨v, r, P1, P2, h1, h2, h3, h4, h5, h6⟩ => ⟨v, r, h1, k P1 _ _ h2 h5, ROs.reps (fun Q d w hq => k Q d w fun a x => h3 a (hq a x)) h6⟩
theorem ROs.of {R : AP → D → V → Prop} : ∀ {ds : List D} {P : AP} {vs : List V}, (∀ d v, Rep K mg F d v → R (fun _ => False) d v) → Reps K mg F ds vs → ROs R P ds vs
  | [], _, _, _, h => h
  | _ :: _, P, _, k, ⟨v, r, h1, h2, h3⟩ => ⟨v, r, fun _ => False, fun _ => False, h1, fun _ x => x.elim, fun _ x => x.elim, fun _ x => x.elim, k _ _ h2, ROs.of k h3⟩
/-- a larger ground, the owned nodes as they were, a wider owner -/
theorem RepO.mono : ∀ {n : Nat} {P P' : AP} {d : D} {v : V}, Same F F' → (∀ a o, P a → H a = some o → H' a = some o) → (∀ a, P a → P' a) → RepO K mg F H n P d v → RepO K mg F' H' n P' d v
  | 0, _, _, _, _, e, _, _, h => Rep.mono e h
  | n + 1, P, P', .lst ds, v, e, k, s, ⟨a, vs, P1, h1, h2, h3, h4, h5, h6⟩ =>
    ⟨a, vs, P1, h1, k _ _ h3 h2, s _ h3, h4, fun b x => s _ (h5 b x), h6.imp (fun Q d w hq r => RepO.mono e (fun a o x => k a o (h5 _ (hq _ x))) (fun _ x => x) r) fun _ x => x⟩
  | n + 1, P, P', .dK ds, v, e, k, s, ⟨a, vs, P1, h1, h2, h3, h4, h5, h6, h7⟩ =>
    ⟨a, vs, P1, h1, k _ _ h3 h2, s _ h3, h4, fun b x => s _ (h5 b x), h6, h7.imp (fun Q d w hq r => RepO.mono e (fun a o x => k a o (h5 _ (hq _ x))) (fun _ x => x) r) fun _ x => x⟩
  | n + 1, P, P', .dT ds, v, e, k, s, ⟨a, vs, P1, h1, h2, h3, h4, h5, h6, h7⟩ =>
    ⟨a, vs, P1, h1, k _ _ h3 h2, s _ h3, h4, fun b x => s _ (h5 b x), h6, h7.imp (fun Q d w hq r => RepO.mono e (fun a o x => k a o (h5 _ (hq _ x))) (fun _ x => x) r) fun _ x => x⟩
  | n + 1, P, P', .obj c ds, v, e, k, s, ⟨a, C, dx, vs, P1, h1, h2, h2', hm, h3, h3', h4, h4', h5, h6, h7⟩ =>
    ⟨a, C, dx, vs, P1, h1, k _ _ h3 h2, k _ _ h3' h2', hm, s _ h3, s _ h3', h4, h4', fun b x => s _ (h5 b x), h6, h7.imp (fun Q d w hq r => RepO.mono e (fun a o x => k a o (h5 _ (hq _ x))) (fun _ x => x) r) fun _ x => x⟩
  | n + 1, _, _, .non, _, _, _, _, h => h
  | n + 1, _, _, .bl _, _, _, _, _, h => h
  | n + 1, _, _, .int _, _, _, _, _, h => h
  | n + 1, _, _, .str _, _, _, _, _, h => h
  | n + 1, _, _, .tup _, _, e, _, _, h => Rep.mono (d := .tup _) e h
  | n + 1, _, _, .fn _, _, _, _, _, h => h
  | n + 1, _, _, .ktu _, _, e, _, _, h => Rep.mono (d := .ktu _) e h
  | n + 1, _, _, .hole, _, _, _, _, h => h
/-- all that was owned is laid into the ground F' -/
theorem RepO.fz : ∀ {n : Nat} {P : AP} {d : D} {v : V}, Same F F' → (∀ a o, P a → H a = some o → F' a = some o) → RepO K mg F H n P d v → Rep K mg F' d v
  | 0, _, _, _, e, _, h => Rep.mono e h
  | n + 1, P, .lst ds, v, e, k, ⟨a, vs, P1, h1, h2, h3, h4, h5, h6⟩ =>
    ⟨a, vs, h1, .inl (k _ _ h3 h2), h6.reps fun Q d w hq r => RepO.fz e (fun a o x => k a o (h5 _ (hq _ x))) r⟩
  | n + 1, P, .dK ds, v, e, k, ⟨a, vs, P1, h1, h2, h3, h4, h5, h6, h7⟩ =>
    ⟨a, vs, h1, .inl (k _ _ h3 h2), RepK.of h6 (h7.reps fun Q d w hq r => RepO.fz e (fun a o x => k a o (h5 _ (hq _ x))) r)⟩
  | n + 1, P, .dT ds, v, e, k, ⟨a, vs, P1, h1, h2, h3, h4, h5, h6, h7⟩ =>
    ⟨a, vs, h1, .inl (k _ _ h3 h2), RepT.of h6 (h7.reps fun Q d w hq r => RepO.fz e (fun a o x => k a o (h5 _ (hq _ x))) r)⟩
  | n + 1, P, .obj c ds, v, e, k, ⟨a, C, dx, vs, P1, h1, h2, h2', hm, h3, h3', h4, h4', h5, h6, h7⟩ =>
    ⟨a, C, dx, vs, h1, k _ _ h3 h2, k _ _ h3' h2', hm, RepF.of h6 (h7.reps fun Q d w hq r => RepO.fz e (fun a o x => k a o (h5 _ (hq _ x))) r)⟩
  | n + 1, _, .non, _, _, _, h => h
  | n + 1, _, .bl _, _, _, _, h => h
  | n + 1, _, .int _, _, _, _, h => h
  | n + 1, _, .str _, _, _, _, h => h
  | n + 1, _, .tup _, _, e, _, h => Rep.mono (d := .tup _) e h
  | n + 1, _, .fn _, _, _, _, h => h
  | n + 1, _, .ktu _, _, e, _, h => Rep.mono (d := .ktu _) e h
  | n + 1, _, .hole, _, _, _, h => h
theorem RepO.rep {n : Nat} {P : AP} {d : D} {v : V} (e : Same F H) (h : RepO K mg F H n P d v) : Rep K mg H d v := h.fz e fun _ _ _ x => x
/-- the top alone stays owned -/
theorem RepO.one : ∀ {n : Nat} {P : AP} {d : D} {v : V}, RepO K mg F H (n + 1) P d v → ∃ T : AP, (∀ a, T a → P a) ∧ ∀ F', Same F F' → (∀ a o, P a → ¬ T a → H a = some o → F' a = some o) → RepO K mg F' H 1 T d v
  | n, P, .lst ds, v, ⟨a, vs, P1, h1, h2, h3, h4, h5, h6⟩ =>
    ⟨fun b => b = a, fun b e => e ▸ h3, fun F' e k => ⟨a, vs, fun _ => False, h1, h2, rfl, fun x => x, fun _ x => x.elim, ROs.of (fun _ _ x => x) (h6.reps fun Q d w hq r => RepO.fz e (fun b o x => k b o (h5 _ (hq _ x)) fun z => h4 (z ▸ hq _ x)) r)⟩⟩
  | n, P, .dK ds, v, ⟨a, vs, P1, h1, h2, h3, h4, h5, h6, h7⟩ =>
    ⟨fun b => b = a, fun b e => e ▸ h3, fun F' e k => ⟨a, vs, fun _ => False, h1, h2, rfl, fun x => x, fun _ x => x.elim, h6, ROs.of (fun _ _ x => x) (h7.reps fun Q d w hq r => RepO.fz e (fun b o x => k b o (h5 _ (hq _ x)) fun z => h4 (z ▸ hq _ x)) r)⟩⟩
  | n, P, .dT ds, v, ⟨a, vs, P1, h1, h2, h3, h4, h5, h6, h7⟩ =>
    ⟨fun b => b = a, fun b e => e ▸ h3, fun F' e k => ⟨a, vs, fun _ => False, h1, h2, rfl, fun x => x, fun _ x => x.elim, h6, ROs.of (fun _ _ x => x) (h7.reps fun Q d w hq r => RepO.fz e (fun b o x => k b o (h5 _ (hq _ x)) fun z => h4 (z ▸ hq _ x)) r)⟩⟩
  | n, P, .obj c ds, v, ⟨a, C, dx, vs, P1, h1, h2, h2', hm, h3, h3', h4, h4', h5, h6, h7⟩ =>
    ⟨fun b => b = a ∨ b = dx, fun b e => e.elim (fun e => e ▸ h3) fun e => e ▸ h3', fun F' e k => ⟨a, C, dx, vs, fun _ => False, h1, h2, h2', hm, .inl rfl, .inr rfl, fun x => x, fun x => x, fun _ x => x.elim, h6, ROs.of (fun _ _ x => x)
      (h7.reps fun Q d w hq r => RepO.fz e (fun b o x => k b o (h5 _ (hq _ x)) fun z => z.elim (fun z => h4 (z ▸ hq _ x)) fun z => h4' (z ▸ hq _ x)) r)⟩⟩
  | n, _, .non, _, h => ⟨fun _ => False, fun _ x => x.elim, fun _ _ _ => h⟩
  | n, _, .bl _, _, h => ⟨fun _ => False, fun _ x => x.elim, fun _ _ _ => h⟩
  | n, _, .int _, _, h => ⟨fun _ => False, fun _ x => x.elim, fun _ _ _ => h⟩
  | n, _, .str _, _, h => ⟨fun _ => False, fun _ x => x.elim, fun _ _ _ => h⟩
  | n, _, .tup _, _, h => ⟨fun _ => False, fun _ x => x.elim, fun _ e _ => Rep.mono (d := .tup _) e h⟩
  | n, _, .fn _, _, h => ⟨fun _ => False, fun _ x => x.elim, fun _ _ _ => h⟩
  | n, _, .ktu _, _, h => ⟨fun _ => False, fun _ x => x.elim, fun _ e _ => Rep.mono (d := .ktu _) e h⟩
  | n, _, .hole, _, h => ⟨fun _ => False, fun _ x => x.elim, fun _ _ _ => h⟩
/-- no address in it -/
def D.leaf : D → Bool
  | .non => true | .bl _ => true | .int _ => true | .str _ => true | _ => false
theorem leaf_rep {d : D} {v : V} (hl : d.leaf = true) (h : Rep K mg F d v) : Rep K mg F' d v := by
  cases d <;> first | exact h | cases hl
theorem leaf_repO {d : D} {v : V} (hl : d.leaf = true) (h : Rep K mg F d v) : ∀ (n : Nat) (P : AP), RepO K mg F' H n P d v := by
  intro n P
  cases n <;> (cases d <;> first | exact h | cases hl)
end

end DL
set_option Elab.async false
set_option linter.all false
set_option maxRecDepth 100000
/-! DLb: the data layer, part b: slots, owners, moves of the state; readings; the basic rules. -/
namespace DL
open PySem L2

structure Bd where
  d : D
  n : Nat
  io : Bool
abbrev DEnv := List (Option Bd)
abbrev OW := Addr → Option Nat
section
variable (K : PySem.W.Frag) (mg : MG)
/-- the state at hand: F the ground that stays, O whose slot owns an address -/
structure SI (io : Nat → Option V) (env : DEnv) (σ : L2.St) (F : Hp) (O : OW) (H : Hp) : Prop where
  sub : Same F H
  own : ∀ a i, O a = some i → F a = none ∧ ∃ o, H a = some o
  slot : ∀ i b, env[i]? = some (some b) → ∃ v, σ[i]? = some (some v) ∧ RepO K mg F H b.n (fun a => O a = some i) b.d v ∧ (b.io = true → io i = some v)
  len : env.length = σ.length
end
/-- what a piece of code may do to the heap -/
structure Mv (F : Hp) (O : OW) (H F' : Hp) (O' : OW) (H' : Hp) : Prop where
  ff : Same F F'
  fr : ∀ a o, H a = some o → O a = none → H' a = some o
  fn : ∀ a o, F' a = some o → F a = some o ∨ H a = none ∨ ∃ i, O a = some i
  on : ∀ a i, O' a = some i → H a = none ∨ ∃ i, O a = some i
/-- what a value at hand owns -/
structure Tp (O : OW) (H F' : Hp) (O' : OW) (H' : Hp) (P : AP) : Prop where
  t : ∀ a, P a → F' a = none ∧ O' a = none ∧ ∃ o, H' a = some o
  nw : ∀ a, P a → H a = none ∨ ∃ i, O a = some i
structure At (K : PySem.W.Frag) (mg : MG) (io : Nat → Option V) (F : Hp) (O : OW) (H : Hp) (env' : DEnv) (σ' : L2.St) (F' : Hp) (O' : OW) (H' : Hp) : Prop where
  mv : Mv F O H F' O' H'
  si : SI K mg io env' σ' F' O' H'
abbrev P0 : AP := fun _ => False

section
variable {K : PySem.W.Frag} {mg : MG} {io : Nat → Option V} {env env1 env2 : DEnv} {σ σ1 σ2 : L2.St} {F F0 F1 F2 H H0 H1 H2 : Hp} {O O0 O1 O2 : OW} {P : AP} {n : Nat} {d : D} {v : V}
theorem Mv.refl (h : Same F H) : Mv F O H F O H := ⟨fun _ _ h => h, fun _ _ h _ => h, fun _ _ h => .inl h, fun _ i h => .inr ⟨i, h⟩⟩
theorem Mv.back (m : Mv F O H F1 O1 H1) {a : Addr} (h : H1 a = none ∨ ∃ i, O1 a = some i) : H a = none ∨ ∃ i, O a = some i := by
  rcases h with h | ⟨i, h⟩
  · cases e : H a with
    | none => exact .inl rfl
    | some o =>
      cases q : O a with
      | some i => exact .inr ⟨i, rfl⟩
      | none => rw [m.fr a o e q] at h; cases h
  · exact m.on a i h
theorem Mv.trans (m : Mv F O H F1 O1 H1) (m' : Mv F1 O1 H1 F2 O2 H2) : Mv F O H F2 O2 H2 where
  ff := m.ff.trans m'.ff
  fr := fun a o h q => by
    refine m'.fr a o (m.fr a o h q) ?_
    cases e : O1 a with
    | none => rfl
    | some i =>
      rcases m.on a i e with z | ⟨j, z⟩
      · rw [h] at z; cases z
      · rw [q] at z; cases z
  fn := fun a o h => by
    rcases m'.fn a o h with h | h
    · exact m.fn a o h
    · exact .inr (m.back h)
  on := fun a i h => m.back (m'.on a i h)
theorem Tp.none : Tp O H F1 O1 H1 P0 := ⟨fun _ h => h.elim, fun _ h => h.elim⟩
theorem Tp.after (m : Mv F O H F1 O1 H1) (t : Tp O1 H1 F2 O2 H2 P) : Tp O H F2 O2 H2 P := ⟨t.t, fun a h => m.back (t.nw a h)⟩
/-- a value at hand stays -/
theorem Tp.mv (t : Tp O H F1 O1 H1 P) (m : Mv F1 O1 H1 F2 O2 H2) : Tp O H F2 O2 H2 P := ⟨fun a h => by
  obtain ⟨h1, h2, o, h3⟩ := t.t a h
  refine ⟨?_, ?_, o, m.fr a o h3 h2⟩
  · cases e : F2 a with
    | none => rfl
    | some u =>
      rcases m.fn a u e with z | z | ⟨i, z⟩
      · rw [h1] at z; cases z
      · rw [h3] at z; cases z
      · rw [h2] at z; cases z
  · cases e : O2 a with
    | none => rfl
    | some i =>
      rcases m.on a i e with z | ⟨i, z⟩
      · rw [h3] at z; cases z
      · rw [h2] at z; exact (nomatch z), t.nw⟩
theorem RepO.mv (t : Tp O H F1 O1 H1 P) (m : Mv F1 O1 H1 F2 O2 H2) (h : RepO K mg F1 H1 n P d v) : RepO K mg F2 H2 n P d v :=
  h.mono m.ff (fun a o p e => m.fr a o e (t.t a p).2.1) fun _ x => x
theorem At.trans (a : At K mg io F O H env1 σ1 F1 O1 H1) (b : At K mg io F1 O1 H1 env2 σ2 F2 O2 H2) : At K mg io F O H env2 σ2 F2 O2 H2 := ⟨a.mv.trans b.mv, b.si⟩
theorem At.start (I : SI K mg io env σ F O H) : At K mg io F O H env σ F O H := ⟨Mv.refl I.sub, I⟩
/-- the heap grows -/
theorem SI.ext (I : SI K mg io env σ F O H) (e : Same H H1) : SI K mg io env σ F O H1 where
  sub := I.sub.trans e
  own := fun a i h => let ⟨h1, o, h2⟩ := I.own a i h; ⟨h1, o, e _ _ h2⟩
  slot := fun i b h => let ⟨v, h1, h2, h3⟩ := I.slot i b h; ⟨v, h1, h2.mono (fun _ _ x => x) (fun a o _ x => e a o x) (fun _ x => x), h3⟩
  len := I.len
theorem At.ext (A : At K mg io F O H env σ F1 O1 H1) (e : Same H1 H2) : At K mg io F O H env σ F1 O1 H2 :=
  A.trans ⟨⟨fun _ _ h => h, fun a o h _ => e a o h, fun _ _ h => .inl h, fun _ i h => .inr ⟨i, h⟩⟩, A.si.ext e⟩
theorem same_upd {a : Addr} {o : HO} (h : H a = none) : Same H (upd H a o) := fun b u e => by rw [upd_ne (ne_of_none e h)]; exact e
theorem SI.freeF (I : SI K mg io env σ F O H) {a : Addr} (h : H a = none) : F a = none := I.sub.free h
theorem SI.freeO (I : SI K mg io env σ F O H) {a : Addr} (h : H a = none) : O a = none := by
  cases e : O a with
  | none => rfl
  | some i => obtain ⟨_, o, z⟩ := I.own a i e; rw [h] at z; cases z
/-- a new object at hand -/
theorem At.tp_new (A : At K mg io F O H env σ F1 O1 H1) {a : Addr} {o : HO} (h : H1 a = none) : Tp O H F1 O1 (upd H1 a o) (fun b => b = a) :=
  Tp.after A.mv ⟨fun b e => by subst e; exact ⟨A.si.freeF h, A.si.freeO h, o, upd_same⟩, fun b e => by subst e; exact .inl h⟩
/-- the ground grows by what is at hand, or by what a slot owns -/
noncomputable def laid (F : Hp) (P : AP) (H : Hp) : Hp := fun a => open Classical in if P a then H a else F a
theorem laid_in {a : Addr} (h : P a) : laid F P H a = H a := by unfold laid; rw [if_pos h]
theorem laid_out {a : Addr} (h : ¬ P a) : laid F P H a = F a := by unfold laid; rw [if_neg h]
theorem laid_same (h : ∀ a o, F a = some o → P a → H a = some o) : Same F (laid F P H) := fun a o e => by
  by_cases p : P a
  · rw [laid_in p]; exact h a o e p
  · rw [laid_out p]; exact e
theorem SI.lay (I : SI K mg io env σ F O H) (hP : ∀ a, P a → O a = Option.none) : SI K mg io env σ (laid F P H) O H where
  sub := fun a o e => by
    by_cases p : P a
    · rw [laid_in p] at e; exact e
    · rw [laid_out p] at e; exact I.sub a o e
  own := fun a i h => by
    have p : ¬ P a := fun p => by rw [hP a p] at h; cases h
    rw [laid_out p]
    exact I.own a i h
  slot := fun i b h => let ⟨v, h1, h2, h3⟩ := I.slot i b h; ⟨v, h1, h2.mono (laid_same fun a o e _ => I.sub a o e) (fun _ _ _ x => x) (fun _ x => x), h3⟩
  len := I.len
theorem At.frz (A : At K mg io F O H env σ F1 O1 H1) (t : Tp O H F1 O1 H1 P) : At K mg io F O H env σ (laid F1 P H1) O1 H1 where
  mv := ⟨A.mv.ff.trans (laid_same fun a o e _ => A.si.sub a o e), A.mv.fr, fun a o e => by
    by_cases p : P a
    · exact .inr (t.nw a p)
    · rw [laid_out p] at e; exact A.mv.fn a o e, A.mv.on⟩
  si := A.si.lay fun a p => (t.t a p).2.1
theorem At.frz_same (A : At K mg io F O H env σ F1 O1 H1) : Same F1 (laid F1 P H1) := laid_same fun a o e _ => A.si.sub a o e
/-- a value at hand, laid down -/
theorem At.frz_rep (A : At K mg io F O H env σ F1 O1 H1) (h : RepO K mg F1 H1 n P d v) : Rep K mg (laid F1 P H1) d v := h.fz A.frz_same fun a o p e => by rw [laid_in p]; exact e
/-- the owner of a slot goes -/
def offO (O : OW) (i : Nat) : OW := fun a => if O a = some i then none else O a
theorem offO_some {a : Addr} {i j : Nat} : offO O i a = some j ↔ O a = some j ∧ j ≠ i := by
  unfold offO
  split
  · rename_i h
    exact ⟨fun z => (nomatch z), fun ⟨z, q⟩ => by rw [h] at z; cases z; exact absurd rfl q⟩
  · rename_i h
    exact ⟨fun z => ⟨z, fun e => h (e ▸ z)⟩, fun z => z.1⟩
theorem getElem?_set_some {α : Type} {l : List α} {i j : Nat} {x y : α} (h : (l.set i x)[j]? = some y) : (i = j ∧ y = x ∧ j < l.length) ∨ (i ≠ j ∧ l[j]? = some y) := by
  rw [List.getElem?_set] at h
  split at h
  · rename_i e
    subst e
    split at h
    · rename_i hl; exact .inl ⟨rfl, (Option.some.inj h).symm, hl⟩
    · cases h
  · rename_i e; exact .inr ⟨e, h⟩
/-- what slot i owned is laid into the ground -/
theorem At.fzSlot (A : At K mg io F O H env σ F1 O1 H1) {i : Nat} {b : Bd} (hb : env[i]? = some (some b)) :
    At K mg io F O H (env.set i (some { b with n := 0 })) σ (laid F1 (fun a => O1 a = some i) H1) (offO O1 i) H1 ∧ ∃ v, σ[i]? = some (some v) ∧ Rep K mg (laid F1 (fun a => O1 a = some i) H1) b.d v := by
  obtain ⟨v, h1, h2, h3⟩ := A.si.slot i b hb
  have r := A.frz_rep h2
  refine ⟨⟨⟨A.mv.ff.trans A.frz_same, A.mv.fr, fun a o e => ?_, fun a j e => A.mv.on a j (offO_some.mp e).1⟩, ⟨fun a o e => ?_, fun a j e => ?_, fun j c hc => ?_, by rw [List.length_set]; exact A.si.len⟩⟩, v, h1, r⟩
  · by_cases p : O1 a = some i
    · exact .inr (A.mv.on a i p)
    · rw [laid_out p] at e; exact A.mv.fn a o e
  · by_cases p : O1 a = some i
    · rw [laid_in (P := fun a => O1 a = some i) p] at e; exact e
    · rw [laid_out p] at e; exact A.si.sub a o e
  · obtain ⟨e, ne⟩ := offO_some.mp e
    have p : ¬ O1 a = some i := fun z => by rw [z] at e; cases e; exact ne rfl
    rw [laid_out p]
    exact A.si.own a j e
  · rcases getElem?_set_some hc with ⟨rfl, e, _⟩ | ⟨ne, hc⟩
    · cases e
      exact ⟨v, h1, r, h3⟩
    · obtain ⟨w, g1, g2, g3⟩ := A.si.slot j c hc
      exact ⟨w, g1, g2.mono A.frz_same (fun _ _ _ x => x) (fun a x => offO_some.mpr ⟨x, fun e => ne e.symm⟩), g3⟩
/-- slot i is given a value at hand -/
noncomputable def putO (O : OW) (i : Nat) (P : AP) : OW := fun a => open Classical in if P a then some i else offO O i a
theorem putO_some {a : Addr} {i j : Nat} : putO O i P a = some j ↔ (P a ∧ j = i) ∨ (¬ P a ∧ O a = some j ∧ j ≠ i) := by
  unfold putO
  by_cases p : P a
  · rw [if_pos p]
    exact ⟨fun e => .inl ⟨p, (Option.some.inj e).symm⟩, fun e => e.elim (fun e => by rw [e.2]) fun e => absurd p e.1⟩
  · rw [if_neg p, offO_some]
    exact ⟨fun e => .inr ⟨p, e⟩, fun e => e.elim (fun e => absurd e.1 p) fun e => e.2⟩
theorem At.set (A : At K mg io F O H env σ F1 O1 H1) {i : Nat} (t : Tp O H F1 O1 H1 P) (r : RepO K mg F1 H1 n P d v) :
    At K mg io F O H (env.set i (some ⟨d, n, false⟩)) (σ.set i (some v)) F1 (putO O1 i P) H1 where
  mv := ⟨A.mv.ff, A.mv.fr, A.mv.fn, fun a j e => by
    rcases putO_some.mp e with ⟨p, _⟩ | ⟨_, e, _⟩
    · exact t.nw a p
    · exact A.mv.on a j e⟩
  si := ⟨A.si.sub, fun a j e => by
    rcases putO_some.mp e with ⟨p, _⟩ | ⟨_, e, _⟩
    · exact ⟨(t.t a p).1, (t.t a p).2.2⟩
    · exact A.si.own a j e, fun j c hc => by
      rcases getElem?_set_some hc with ⟨rfl, e, hl⟩ | ⟨ne, hc⟩
      · cases e
        exact ⟨v, (by rw [List.getElem?_set_self (by rw [← A.si.len]; exact hl)]), r.mono (fun _ _ x => x) (fun _ _ _ x => x) (fun a p => putO_some.mpr (.inl ⟨p, rfl⟩)), fun z => (nomatch z)⟩
      · obtain ⟨w, g1, g2, g3⟩ := A.si.slot j c hc
        refine ⟨w, by rw [List.getElem?_set_ne ne]; exact g1, g2.mono (fun _ _ x => x) (fun _ _ _ x => x) (fun a e => ?_), g3⟩
        refine putO_some.mpr (.inr ⟨fun p => ?_, e, fun z => ne z.symm⟩)
        rw [(t.t a p).2.1] at e; exact (nomatch e), by rw [List.length_set, List.length_set]; exact A.si.len⟩
/-- slot i is forgotten -/
theorem At.wipe (A : At K mg io F O H env σ F1 O1 H1) (i : Nat) (w : Option V) : At K mg io F O H (env.set i none) (σ.set i w) F1 (offO O1 i) H1 where
  mv := ⟨A.mv.ff, A.mv.fr, A.mv.fn, fun a j e => A.mv.on a j (offO_some.mp e).1⟩
  si := ⟨A.si.sub, fun a j e => A.si.own a j (offO_some.mp e).1, fun j c hc => by
      rcases getElem?_set_some hc with ⟨rfl, e, hl⟩ | ⟨ne, hc⟩
      · cases e
      · obtain ⟨w, g1, g2, g3⟩ := A.si.slot j c hc
        exact ⟨w, by rw [List.getElem?_set_ne ne]; exact g1, g2.mono (fun _ _ x => x) (fun _ _ _ x => x) (fun a e => offO_some.mpr ⟨e, fun z => ne z.symm⟩), g3⟩, by rw [List.length_set, List.length_set]; exact A.si.len⟩
/-- a new tuple goes into the ground -/
theorem At.tup (A : At K mg io F O H env σ F1 O1 H1) {a : Addr} {o : HO} (h : H1 a = none) : At K mg io F O H env σ (upd F1 a o) O1 (upd H1 a o) where
  mv := ⟨A.mv.ff.trans (same_upd (A.si.freeF h)), fun b u e q => by
      by_cases z : b = a
      · subst z
        have := A.mv.fr b u e q
        rw [h] at this; cases this
      · rw [upd_ne z]; exact A.mv.fr b u e q, fun b u e => by
      by_cases z : b = a
      · subst z; exact .inr (A.mv.back (.inl h))
      · rw [upd_ne z] at e; exact A.mv.fn b u e, A.mv.on⟩
  si := ⟨fun b u e => by
      by_cases z : b = a
      · subst z; rw [upd_same] at e ⊢; exact e
      · rw [upd_ne z] at e ⊢; exact A.si.sub b u e, fun b i e => by
      have z : b ≠ a := fun z => by subst z; rw [A.si.freeO h] at e; cases e
      rw [upd_ne z, upd_ne z]
      exact A.si.own b i e, fun i b hb => by
      obtain ⟨w, g1, g2, g3⟩ := A.si.slot i b hb
      exact ⟨w, g1, g2.mono (same_upd (A.si.freeF h)) (fun b u _ e => same_upd h b u e) (fun _ x => x), g3⟩, A.si.len⟩
end

/-! ### the readings -/
structure Exc where
  cls : Str
  fs : List (Str × D)
abbrev QE := D → Nat → DEnv → Prop
abbrev QX := Exc → DEnv → Prop
abbrev ET := DEnv → QE → QX → Prop
abbrev PUT := DEnv → (D → Prop) → Prop
abbrev TTd := DEnv → (Bool → DEnv → Prop) → QX → Prop
abbrev AT := DEnv → (List D → DEnv → Prop) → QX → Prop
structure DEnds where
  nx : DEnv → Prop
  rt : QE
  bk : DEnv → Prop := fun _ => False
  ct : DEnv → Prop := fun _ => False
  ex : QX := fun _ _ => False
abbrev SD := DEnv → DEnds → Prop

section
variable (K : PySem.W.Frag) (mg : MG)
/-- an exception in the air -/
def XR (F : Hp) (x : Exc) (cls : Value) (dx : Option Addr) : Prop := ∃ C d vs, cls = .ref C ∧ mg x.cls = some (.ref C) ∧ dx = some d ∧ F d = some (.xd vs) ∧ RepF K mg F x.fs vs
def KE (io : Nat → Option V) (σ : L2.St) (F : Hp) (O : OW) (H : Hp) (Q : QE) (Qh : VK) : Prop :=
  ∀ d n env F' O' H' v P, At K mg io F O H env σ F' O' H' → Tp O H F' O' H' P → RepO K mg F' H' n P d v → Q d n env → Qh v H'
def KX (io : Nat → Option V) (F : Hp) (O : OW) (H : Hp) (R : QX) (W : WX) : Prop :=
  ∀ x env σ F' O' H' cls dx, At K mg io F O H env σ F' O' H' → XR K mg F' x cls dx → R x env → W cls dx σ H'
def rdE (τ : ET) (W : WX) : TE := fun σ H Qh => ∃ io env F O Q R, SI K mg io env σ F O H ∧ τ env Q R ∧ KE K mg io σ F O H Q Qh ∧ KX K mg io F O H R W
def rdT (τ : TTd) (W : WX) : TT := fun σ H Qh => ∃ io env F O Q R, SI K mg io env σ F O H ∧ τ env Q R ∧ (∀ b env' F' O' H', At K mg io F O H env' σ F' O' H' → Q b env' → Qh b H') ∧ KX K mg io F O H R W
def rdA (τ : AT) (W : WX) : TA := fun σ H Qh => ∃ io env F O Q R, SI K mg io env σ F O H ∧ τ env Q R ∧ (∀ ds env' F' O' H' vs, At K mg io F O H env' σ F' O' H' → Reps K mg F' ds vs → Q ds env' → Qh vs H') ∧ KX K mg io F O H R W
def rdP (τ : PUT) : TE := fun σ H Qh => ∃ io env F O Q, SI K mg io env σ F O H ∧ τ env Q ∧ ∀ d v H', Same H H' → Rep K mg H' d v → Q d → Qh v H'
def rdS (τ : SD) (W : WX) : TS := fun Dn σ H => ∃ io env F O D, SI K mg io env σ F O H ∧ τ env D ∧ (∀ env' σ' F' O' H', At K mg io F O H env' σ' F' O' H' → D.nx env' → Dn.nx σ' H') ∧
  (∀ d n env' σ' F' O' H' v P, At K mg io F O H env' σ' F' O' H' → Tp O H F' O' H' P → RepO K mg F' H' n P d v → D.rt d n env' → Dn.rt v H') ∧
  (∀ env' σ' F' O' H', At K mg io F O H env' σ' F' O' H' → D.bk env' → Dn.bk σ' H') ∧ (∀ env' σ' F' O' H', At K mg io F O H env' σ' F' O' H' → D.ct env' → Dn.ct σ' H') ∧ KX K mg io F O H D.ex W
end
def DE (X : Cx) (e : Expr) (τ : ET) : Prop := ∀ W, Takes X W → PE X e (rdE X.K X.mg τ W)
def DT (X : Cx) (e : Expr) (τ : TTd) : Prop := ∀ W, Takes X W → PT X e (rdT X.K X.mg τ W)
def DA (X : Cx) (es : List Expr) (τ : AT) : Prop := ∀ W, Takes X W → PA X es (rdA X.K X.mg τ W)
def PU (X : Cx) (e : Expr) (τ : PUT) : Prop := PE X e (rdP X.K X.mg τ)
def DS (X : Cx) (s : Stmt) (τ : SD) : Prop := ∀ W, Takes X W → PS X s (rdS X.K X.mg τ W)
def DSs (X : Cx) (s : List Stmt) (τ : SD) : Prop := ∀ W, Takes X W → PSs X s (rdS X.K X.mg τ W)
section
variable {X : Cx} {e : Expr} {t t' : TE}
theorem peI (h : PE X e t) (k : ∀ σ H Q, t' σ H Q → t σ H Q) : PE X e t' := ⟨fun pins s σ H Q I x => h.run pins s σ H Q I (k σ H Q x)⟩
theorem ptI {t t' : TT} (h : PT X e t) (k : ∀ σ H Q, t' σ H Q → t σ H Q) : PT X e t' := ⟨fun pins s σ H Q I x => h.run pins s σ H Q I (k σ H Q x)⟩
theorem pwI {t t' : TT} (h : PW X e t) (k : ∀ σ H Q, t' σ H Q → t σ H Q) : PW X e t' := ⟨fun w pins s σ H Q I x => h.run w pins s σ H Q I (k σ H Q x)⟩
theorem paI {es : List Expr} {t t' : TA} (h : PA X es t) (k : ∀ σ H Q, t' σ H Q → t σ H Q) : PA X es t' := ⟨fun pos pins s σ H Q I x => h.run pos pins s σ H Q I (k σ H Q x)⟩
theorem psI {s : Stmt} {t t' : TS} (h : PS X s t) (k : ∀ D σ H, t' D σ H → t D σ H) : PS X s t' := ⟨fun pins s σ H Q I x => h.run pins s σ H Q I (k Q σ H x)⟩
theorem pssI {s : List Stmt} {t t' : TS} (h : PSs X s t) (k : ∀ D σ H, t' D σ H → t D σ H) : PSs X s t' := ⟨fun pins s σ H Q I x => h.run pins s σ H Q I (k Q σ H x)⟩
end
section
variable {K : PySem.W.Frag} {mg : MG} {io : Nat → Option V} {env env1 env2 : DEnv} {σ σ1 σ2 : L2.St} {F F0 F1 F2 H H0 H1 H2 : Hp} {O O0 O1 O2 : OW} {P : AP} {n : Nat} {d : D} {v : V} {Q : QE} {Qh : VK} {R : QX} {W : WX}
theorem KE.mv (k : KE K mg io σ F O H Q Qh) (A : At K mg io F O H env σ1 F1 O1 H1) : KE K mg io σ F1 O1 H1 Q Qh := fun d n e F' O' H' v P B t => k d n e F' O' H' v P (A.trans B) (Tp.after A.mv t)
theorem KX.mv (k : KX K mg io F O H R W) (A : At K mg io F O H env σ1 F1 O1 H1) : KX K mg io F1 O1 H1 R W := fun x e σ F' O' H' c dx B => k x e σ F' O' H' c dx (A.trans B)
/-- a value without an address -/
theorem KE.leaf (k : KE K mg io σ F O H Q Qh) (A : At K mg io F O H env σ F1 O1 H1) {F'' : Hp} (hl : d.leaf = true) (r : Rep K mg F'' d v) (q : Q d 0 env) : Qh v H1 := k d 0 env F1 O1 H1 v P0 A Tp.none (leaf_rep (F' := F1) hl r) q
end
/-- two ways -/
def brB (b : Bool) (x y : Prop) : Prop := match b with | true => x | false => y
theorem brB_dec {p : Prop} [Decidable p] {x y : Prop} (h1 : p → x) (h2 : ¬ p → y) : brB (decide p) x y := by
  by_cases h : p
  · rw [decide_eq_true h]; exact h1 h
  · rw [decide_eq_false h]; exact h2 h
theorem brB_not {b : Bool} {x y : Prop} (h : brB b y x) : brB (!b) x y := by cases b <;> exact h
theorem brB_t {b : Bool} {x y : Prop} (e : b = true) (h : x) : brB b x y := by rw [e]; exact h
theorem brB_f {b : Bool} {x y : Prop} (e : b = false) (h : y) : brB b x y := by rw [e]; exact h
theorem brB_2 {b : Bool} {x y : Prop} (h1 : b = true → x) (h2 : b = false → y) : brB b x y := by cases b with | true => exact h1 rfl | false => exact h2 rfl
/-- what is without an address may be kept -/
def lf : D → Prop → Prop
  | .non, p => p | .bl _, p => p | .int _, p => p | .str _, p => p | _, _ => False
theorem lf_of {d : D} {p : Prop} (h : lf d p) : d.leaf = true ∧ p := by cases d <;> first | exact ⟨rfl, h⟩ | exact h.elim
end DL
set_option Elab.async false
set_option linter.all false
set_option maxRecDepth 100000
/-! DLc: the data layer, part c: expressions, their rules by operators on data. -/
namespace DL
open PySem L2

abbrev Qn := D → Nat → Prop
abbrev OT1 := D → Qn → Prop
abbrev OT2 := D → D → Qn → Prop
abbrev OTN := List D → Qn → Prop
abbrev OTM := D → List D → Qn → Prop
section
variable (K : PySem.W.Frag) (mg : MG)
/-- what a new container's object bears -/
def NewL (F : Hp) : D → HO → Prop
  | .lst ds, .lst vs => Reps K mg F ds vs
  | .dK ds, .dK vs => RepK K mg F ds vs
  | .dT ds, .dT vs => RepT K mg F ds vs
  | _, _ => False
/-- where an operator ends: at a value that the ground bears, at a new container, at a new tuple -/
structure Fin (F H : Hp) (Q : Qn) (Qh : VK) : Prop where
  old : ∀ z u, Rep K mg F z u → Q z 0 → Qh u H
  new : ∀ z o p, H p = none → NewL K mg F z o → Q z 1 → Qh (.ref p) (upd H p o)
  tup : ∀ ds vs p, H p = none → Reps K mg F ds vs → Q (.tup ds) 0 → Qh (.ref p) (upd H p (.tup vs))
end
section
variable {K : PySem.W.Frag} {mg : MG} {F F' H H' : Hp}
theorem NewL.mono (e : Same F F') {z : D} {o : HO} (h : NewL K mg F z o) : NewL K mg F' z o := by
  cases z <;> cases o <;> first | exact (show False from h).elim | skip
  · exact Reps.mono e (show Reps K mg F _ _ from h)
  · exact RepK.mono e (show RepK K mg F _ _ from h)
  · exact RepT.mono e (show RepT K mg F _ _ from h)
theorem NewL.rep {z : D} {o : HO} {p : Addr} (h : NewL K mg F z o) (e : F p = some o) : Rep K mg F z (.ref p) := by
  cases z <;> cases o <;> first | exact (show False from h).elim | skip
  · exact ⟨p, _, rfl, .inl e, h⟩
  · exact ⟨p, _, rfl, .inl e, h⟩
  · exact ⟨p, _, rfl, .inl e, h⟩
theorem NewL.own {z : D} {o : HO} {p : Addr} (h : NewL K mg F z o) (e : H p = some o) : RepO K mg F H 1 (fun b => b = p) z (.ref p) := by
  cases z <;> cases o <;> first | exact (show False from h).elim | skip
  · exact ⟨p, _, P0, rfl, e, rfl, fun x => x, fun _ x => x.elim, ROs.of (fun _ _ x => x) h⟩
  · exact ⟨p, _, P0, rfl, e, rfl, fun x => x, fun _ x => x.elim, (RepK.keys h).1, ROs.of (fun _ _ x => x) (RepK.keys h).2⟩
  · exact ⟨p, _, P0, rfl, e, rfl, fun x => x, fun _ x => x.elim, (RepT.keys h).1, ROs.of (fun _ _ x => x) (RepT.keys h).2⟩
theorem Fin.of {io : Nat → Option V} {env : DEnv} {σ : L2.St} {F1 H1 : Hp} {O O1 : OW} {Q : QE} {Qh : VK} (k : KE K mg io σ F O H Q Qh) (A : At K mg io F O H env σ F1 O1 H1) : Fin K mg F1 H1 (fun z n => Q z n env) Qh where
  old := fun z u r q => k z 0 env F1 O1 H1 u P0 A Tp.none r q
  new := fun z o p h r q => k z 1 env F1 O1 (upd H1 p o) (.ref p) (fun b => b = p) (A.ext (same_upd h)) (A.tp_new h) (r.own upd_same) q
  tup := fun ds vs p h r q => k (.tup ds) 0 env (upd F1 p (.tup vs)) O1 (upd H1 p (.tup vs)) (.ref p) P0 (A.tup h) Tp.none ⟨p, vs, rfl, upd_same, Reps.mono (same_upd (A.si.freeF h)) r⟩ q
theorem Fin.ofP {Q : D → Prop} {Qh : VK} (k : ∀ d v H', Same H H' → Rep K mg H' d v → Q d → Qh v H') {H1 : Hp} (e : Same H H1) : Fin K mg H1 H1 (fun z _ => Q z) Qh where
  old := fun z u r q => k z u H1 e r q
  new := fun z o p h r q => k z _ _ (e.trans (same_upd h)) ((r.mono (same_upd h)).rep upd_same) q
  tup := fun ds vs p h r q => k (.tup ds) _ _ (e.trans (same_upd h)) ⟨p, vs, rfl, upd_same, Reps.mono (same_upd h) r⟩ q
end

/-! ### names and constants -/
def gt : DEnv → Nat → Option Bd
  | [], _ => none
  | x :: _, 0 => x
  | _ :: r, i + 1 => gt r i
theorem gt_some : ∀ {env : DEnv} {i : Nat} {b : Bd}, gt env i = some b → env[i]? = some (some b)
  | [], _, _, h => nomatch h
  | x :: _, 0, b, h => congrArg some h
  | _ :: r, i + 1, b, h => gt_some (env := r) (i := i) h
def pVar (i : Nat) : PUT := fun env Q => match gt env i with | some b => Q b.d | none => False
def eVar (i : Nat) : ET := fun env Q _ => match gt env i with | some b => Q b.d 0 (env.set i (some { b with n := 0 })) | none => False
def pC (d : D) : PUT := fun _ Q => Q d
def eP (t : PUT) : ET := fun env Q _ => t env fun d => lf d (Q d 0 env)
/-- a written thing's value -/
def vlf : D → V
  | .non => .non | .bl b => .bl b | .int i => .int i | .str s => .str s | _ => .non
section
variable {X : Cx}
theorem pu_var (i : Nat) {x : Str} {pos : Pos} (hN : X.N[i]? = some x := by rfl) (hv : Vis X.env.scope x := by first | exact Or.inl rfl | exact Or.inr (Or.inl rfl) | exact Or.inr (Or.inr rfl)) (hd : (x == ("__debug__" : Str)) = false := by decide)
    (hcd : (x == ("__classdict__" : Str)) = false := by decide) : PU X (.Name x pos) (pVar i) := by
  refine peI (pe_var hN hv hd hcd) ?_
  rintro σ H Qh ⟨io, env, F, O, Q, I, h, k⟩
  unfold pVar at h
  cases e : gt env i with
  | none => rw [e] at h; exact h.elim
  | some b =>
    rw [e] at h
    obtain ⟨v, h1, h2, _⟩ := I.slot i b (gt_some e)
    exact ⟨v, h1, k _ _ _ (Same.refl _) (h2.rep I.sub) h⟩
theorem de_var (i : Nat) {x : Str} {pos : Pos} (hN : X.N[i]? = some x := by rfl) (hv : Vis X.env.scope x := by first | exact Or.inl rfl | exact Or.inr (Or.inl rfl) | exact Or.inr (Or.inr rfl)) (hd : (x == ("__debug__" : Str)) = false := by decide)
    (hcd : (x == ("__classdict__" : Str)) = false := by decide) : DE X (.Name x pos) (eVar i) := by
  intro W tk
  refine peI (pe_var hN hv hd hcd) ?_
  rintro σ H Qh ⟨io, env, F, O, Q, R, I, h, k, kx⟩
  unfold eVar at h
  cases e : gt env i with
  | none => rw [e] at h; exact h.elim
  | some b =>
    rw [e] at h
    obtain ⟨A, v, h1, h2⟩ := (At.start I).fzSlot (gt_some e)
    exact ⟨v, h1, k b.d 0 _ _ _ _ _ P0 A Tp.none h2 h⟩
theorem pu_c {e : Expr} {d : D} {v : V} (h : PE X e (tC v)) (r : ∀ H, Rep X.K X.mg H d v) : PU X e (pC d) :=
  peI h fun σ H Qh ⟨io, env, F, O, Q, I, q, k⟩ => k _ _ _ (Same.refl _) (r _) q
theorem pu_int {i j pos} : PU X (.Constant (.int i) j pos) (pC (.int i)) := pu_c pe_int fun _ => rfl
theorem pu_bl {i j pos} : PU X (.Constant (.bool i) j pos) (pC (.bl i)) := pu_c pe_bl fun _ => rfl
theorem pu_str {i j pos} : PU X (.Constant (.str i) j pos) (pC (.str i)) := pu_c pe_str fun _ => rfl
theorem pu_non {j pos} : PU X (.Constant .none j pos) (pC .non) := pu_c pe_non fun _ => rfl
/-- a constant of the module -/
theorem pu_glob {x : Str} {u : Value} {pos : Pos} (d : D) (hg : Gl X x) (hm : X.mg x = some u) (r : RelV (vlf d) u) (hl : d.leaf = true := by rfl) (hd : (x == ("__debug__" : Str)) = false := by decide) : PU X (.Name x pos) (pC d) :=
  pu_c (pe_glob hg hm r hd) fun H => by cases d <;> first | rfl | cases hl
/-- a def of the module, as a value -/
theorem pu_fn {x : Str} {f : Addr} {pos : Pos} (hg : Gl X x) (hm : X.mg x = some (.ref f)) (hd : (x == ("__debug__" : Str)) = false := by decide) : PU X (.Name x pos) (pC (.fn x)) :=
  pu_c (v := .ref f) (pe_glob hg hm rfl hd) fun H => ⟨f, rfl, hm⟩
theorem de_pu {e : Expr} {t : PUT} (h : PU X e t) : DE X e (eP t) := by
  intro W tk
  refine peI h ?_
  rintro σ H Qh ⟨io, env, F, O, Q, R, I, q, k, kx⟩
  refine ⟨io, env, F, O, _, I, q, fun d v H' e r z => ?_⟩
  obtain ⟨hl, z⟩ := lf_of z
  exact k.leaf ((At.start I).ext e) hl r z
end

/-! ### two operands, one operand, argument lists -/
def Ok1 (X : Cx) (r : V → Hp → VK → Prop) (od : OT1) : Prop := ∀ F H x v Q Qh, Same F H → Rep X.K X.mg F x v → od x Q → Fin X.K X.mg F H Q Qh → r v H Qh
def Ok2 (X : Cx) (r : R2) (od : OT2) : Prop := ∀ F H x y v w Q Qh, Same F H → Rep X.K X.mg F x v → Rep X.K X.mg F y w → od x y Q → Fin X.K X.mg F H Q Qh → r v w H Qh
def OkN (X : Cx) (r : List V → Hp → VK → Prop) (od : OTN) : Prop := ∀ F H xs vs Q Qh, Same F H → Reps X.K X.mg F xs vs → od xs Q → Fin X.K X.mg F H Q Qh → r vs H Qh
def tO1 (od : OT1) (ta : ET) : ET := fun env Q R => ta env (fun x _ env1 => od x fun z n => Q z n env1) R
def tO2 (od : OT2) (ta tb : ET) : ET := fun env Q R => ta env (fun x _ env1 => tb env1 (fun y _ env2 => od x y fun z n => Q z n env2) R) R
def tP1 (od : OT1) (ta : PUT) : PUT := fun env Q => ta env fun x => od x fun z _ => Q z
def tP2 (od : OT2) (ta tb : PUT) : PUT := fun env Q => ta env fun x => tb env fun y => od x y fun z _ => Q z
section
variable {X : Cx} {a b e : Expr} {ta tb : ET} {pa pb : PUT} {r : R2} {od : OT2} {r1 : V → Hp → VK → Prop} {od1 : OT1}
theorem de_bin (hp : ∀ ta tb, PE X a ta → PE X b tb → PE X e (tOp r ta tb)) (k : Ok2 X r od) (ha : DE X a ta) (hb : DE X b tb) : DE X e (tO2 od ta tb) := by
  intro W tk
  refine peI (hp _ _ (ha W tk) (hb W tk)) ?_
  rintro σ H Qh ⟨io, env, F, O, Q, R, I, h, kQ, kX⟩
  refine ⟨io, env, F, O, _, R, I, h, ?_, kX⟩
  intro x n env1 F1 O1 H1 v P A1 T1 r1 h1
  have A1' := A1.frz T1
  have r1' := A1.frz_rep r1
  refine ⟨io, env1, _, O1, _, R, A1'.si, h1, ?_, kX.mv A1'⟩
  intro y m env2 F2 O2 H2 w P2 A2 T2 r2 h2
  have A2' := A2.frz T2
  exact k _ _ x y v w _ _ A2'.si.sub (Rep.mono A2'.mv.ff r1') (A2.frz_rep r2) h2 (Fin.of kQ (A1'.trans A2'))
theorem pu_bin (hp : ∀ ta tb, PE X a ta → PE X b tb → PE X e (tOp r ta tb)) (k : Ok2 X r od) (ha : PU X a pa) (hb : PU X b pb) : PU X e (tP2 od pa pb) := by
  refine peI (hp _ _ ha hb) ?_
  rintro σ H Qh ⟨io, env, F, O, Q, I, h, kQ⟩
  refine ⟨io, env, F, O, _, I, h, fun x v H1 e1 r1 h1 => ⟨io, env, F, O, _, I.ext e1, h1, fun y w H2 e2 r2 h2 => ?_⟩⟩
  exact k H2 H2 x y v w _ _ (Same.refl _) (Rep.mono e2 r1) r2 h2 (Fin.ofP kQ (e1.trans e2))
theorem de_un1 (hp : ∀ ta, PE X a ta → PE X e (tUn r1 ta)) (k : Ok1 X r1 od1) (ha : DE X a ta) : DE X e (tO1 od1 ta) := by
  intro W tk
  refine peI (hp _ (ha W tk)) ?_
  rintro σ H Qh ⟨io, env, F, O, Q, R, I, h, kQ, kX⟩
  refine ⟨io, env, F, O, _, R, I, h, ?_, kX⟩
  intro x n env1 F1 O1 H1 v P A1 T1 r1 h1
  have A1' := A1.frz T1
  exact k _ _ x v _ _ A1'.si.sub (A1.frz_rep r1) h1 (Fin.of kQ A1')
theorem pu_un1 (hp : ∀ ta, PE X a ta → PE X e (tUn r1 ta)) (k : Ok1 X r1 od1) (ha : PU X a pa) : PU X e (tP1 od1 pa) := by
  refine peI (hp _ ha) ?_
  rintro σ H Qh ⟨io, env, F, O, Q, I, h, kQ⟩
  exact ⟨io, env, F, O, _, I, h, fun x v H1 e1 r1 h1 => k H1 H1 x v _ _ (Same.refl _) r1 h1 (Fin.ofP kQ e1)⟩
end
/-! argument lists -/
def aNil : AT := fun env Q _ => Q [] env
def aCons (ta : ET) (tr : AT) : AT := fun env Q R => ta env (fun x _ env1 => tr env1 (fun xs env2 => Q (x :: xs) env2) R) R
abbrev PAT := DEnv → (List D → Prop) → Prop
def apNil : PAT := fun _ Q => Q []
def apCons (ta : PUT) (tr : PAT) : PAT := fun env Q => ta env fun x => tr env fun xs => Q (x :: xs)
def rdPA (K : PySem.W.Frag) (mg : MG) (τ : PAT) : TA := fun σ H Qh => ∃ io env F O Q, SI K mg io env σ F O H ∧ τ env Q ∧ ∀ ds vs H', Same H H' → Reps K mg H' ds vs → Q ds → Qh vs H'
def PUA (X : Cx) (es : List Expr) (τ : PAT) : Prop := PA X es (rdPA X.K X.mg τ)
section
variable {X : Cx} {e : Expr} {es : List Expr} {te : ET} {t : AT} {pe : PUT} {pt : PAT}
theorem da_nil : DA X [] aNil := fun W tk => paI pa_nil fun σ H Qh ⟨io, env, F, O, Q, R, I, h, kQ, kX⟩ => kQ [] env F O H [] (At.start I) rfl h
theorem da_cons (ha : DE X e te) (hr : DA X es t) (hs : starEach (e :: es) X.env = (false, eval e X.env) :: starEach es X.env := by rfl) : DA X (e :: es) (aCons te t) := by
  intro W tk
  refine paI (pa_cons (ha W tk) (hr W tk) hs) ?_
  rintro σ H Qh ⟨io, env, F, O, Q, R, I, h, kQ, kX⟩
  refine ⟨io, env, F, O, _, R, I, h, ?_, kX⟩
  intro x n env1 F1 O1 H1 v P A1 T1 r1 h1
  have A1' := A1.frz T1
  have r1' := A1.frz_rep r1
  refine ⟨io, env1, _, O1, _, R, A1'.si, h1, ?_, kX.mv A1'⟩
  intro ys env2 F2 O2 H2 vs A2 r2 h2
  exact kQ (x :: ys) _ _ _ _ _ (A1'.trans A2) ⟨v, vs, rfl, Rep.mono A2.mv.ff r1', r2⟩ h2
theorem pua_nil : PUA X [] apNil := paI pa_nil fun σ H Qh ⟨io, env, F, O, Q, I, h, kQ⟩ => kQ [] [] H (Same.refl _) rfl h
theorem pua_cons (ha : PU X e pe) (hr : PUA X es pt) (hs : starEach (e :: es) X.env = (false, eval e X.env) :: starEach es X.env := by rfl) : PUA X (e :: es) (apCons pe pt) := by
  refine paI (pa_cons ha hr hs) ?_
  rintro σ H Qh ⟨io, env, F, O, Q, I, h, kQ⟩
  refine ⟨io, env, F, O, _, I, h, fun x v H1 e1 r1 h1 => ⟨io, env, F, O, _, I.ext e1, h1, fun ys vs H2 e2 r2 h2 => ?_⟩⟩
  exact kQ (x :: ys) _ _ (e1.trans e2) ⟨v, vs, rfl, Rep.mono e2 r1, r2⟩ h2
end
def tON (od : OTN) (t : AT) : ET := fun env Q R => t env (fun xs env1 => od xs fun z n => Q z n env1) R
def tPN (od : OTN) (t : PAT) : PUT := fun env Q => t env fun xs => od xs fun z _ => Q z
section
variable {X : Cx} {e : Expr} {es : List Expr} {t : AT} {pt : PAT} {r : List V → Hp → VK → Prop} {od : OTN}
theorem de_nary (hp : ∀ ta, PA X es ta → PE X e (tCB r ta)) (k : OkN X r od) (ha : DA X es t) : DE X e (tON od t) := by
  intro W tk
  refine peI (hp _ (ha W tk)) ?_
  rintro σ H Qh ⟨io, env, F, O, Q, R, I, h, kQ, kX⟩
  refine ⟨io, env, F, O, _, R, I, h, ?_, kX⟩
  intro xs env1 F1 O1 H1 vs A1 r1 h1
  exact k _ _ xs vs _ _ A1.si.sub r1 h1 (Fin.of kQ A1)
theorem pu_nary (hp : ∀ ta, PA X es ta → PE X e (tCB r ta)) (k : OkN X r od) (ha : PUA X es pt) : PU X e (tPN od pt) := by
  refine peI (hp _ ha) ?_
  rintro σ H Qh ⟨io, env, F, O, Q, I, h, kQ⟩
  exact ⟨io, env, F, O, _, I, h, fun xs vs H1 e1 r1 h1 => k H1 H1 xs vs _ _ (Same.refl _) r1 h1 (Fin.ofP kQ e1)⟩
end
/-! displays: their items stay as they are -/
def odTup : OTN := fun ds Q => ds.length ≤ sizeLine ∧ Q (.tup ds) 0
def odLst : OTN := fun ds Q => ds.length ≤ sizeLine ∧ Q (.lst ds) 1
section
variable {X : Cx} {es : List Expr} {t : AT} {pt : PAT} {pos : Pos}
def rTup : List V → Hp → VK → Prop := fun xs H1 Q => xs.length ≤ sizeLine ∧ ∀ p, H1 p = none → Q (.ref p) (upd H1 p (.tup xs))
def rLst : List V → Hp → VK → Prop := fun xs H1 Q => xs.length ≤ sizeLine ∧ ∀ p, H1 p = none → Q (.ref p) (upd H1 p (.lst xs))
theorem okTup : OkN X rTup odTup := fun F H xs vs Q Qh e r h k => ⟨by rw [r.length]; exact h.1, fun p hp => k.tup _ _ p hp r h.2⟩
theorem okLst : OkN X rLst odLst := fun F H xs vs Q Qh e r h k => ⟨by rw [r.length]; exact h.1, fun p hp => k.new (.lst xs) (.lst vs) p hp r h.2⟩
theorem de_tup {x1} (h : DA X es t) : DE X (.Tuple es x1 pos) (tON odTup t) := de_nary (fun _ h => pe_tup h) okTup h
theorem de_lst (h : DA X es t) : DE X (.List es pos) (tON odLst t) := de_nary (fun _ h => pe_lst h) okLst h
theorem pu_tup {x1} (h : PUA X es pt) : PU X (.Tuple es x1 pos) (tPN odTup pt) := pu_nary (fun _ h => pe_tup h) okTup h
theorem pu_lst (h : PUA X es pt) : PU X (.List es pos) (tPN odLst pt) := pu_nary (fun _ h => pe_lst h) okLst h
end

/-! ### tests -/
def ttB (t : ET) : TTd := fun env Q R => t env (fun d _ env1 => match d with | .bl b => Q b env1 | _ => False) R
def ttPB (t : PUT) : TTd := fun env Q _ => t env fun d => match d with | .bl b => Q b env | _ => False
/-- a value's truth -/
def tru : D → (Bool → Prop) → Prop
  | .non, Q => Q false
  | .bl b, Q => Q b
  | .int i, Q => Q (i != 0)
  | .str s, Q => s.length ≤ sizeLine ∧ Q ((s.length : Int) != 0)
  | .lst ds, Q => Q (!ds.isEmpty)
  | .tup ds, Q => Q (!ds.isEmpty)
  | .ktu ds, Q => Q (!ds.isEmpty)
  | .dK ds, Q => Q (!ds.isEmpty)
  | _, _ => False
def ttPT (t : PUT) : TTd := fun env Q _ => t env fun d => tru d fun b => Q b env
def ttT (t : ET) : TTd := fun env Q R => t env (fun d _ env1 => tru d fun b => Q b env1) R
def ttAnd (t u : TTd) : TTd := fun env Q R => t env (fun c env1 => brB c (u env1 Q R) (Q false env1)) R
def ttOr (t u : TTd) : TTd := fun env Q R => t env (fun c env1 => brB c (Q true env1) (u env1 Q R)) R
def ttNot (t : TTd) : TTd := fun env Q R => t env (fun c env1 => Q (!c) env1) R
/-- a chain of and, or -/
def DW (X : Cx) (e : Expr) (τ : TTd) : Prop := ∀ W, Takes X W → PW X e (rdT X.K X.mg τ W)
theorem bl_of {K : PySem.W.Frag} {mg : MG} {F H : Hp} {n : Nat} {P : AP} {b : Bool} {v : V} (h : RepO K mg F H n P (.bl b) v) : v = .bl b := by cases n <;> exact h
section
variable {X : Cx} {e a b : Expr} {rest : List Expr} {t : ET} {pt : PUT} {tA tB : TTd} {pos : Pos}
theorem dt_val (h : DE X e t) (he : ∀ whole, isTrue e X.env whole = (do let v ← whole; standAt e.pos; holding [v] (truthy v)) := by intro _; rfl) : DT X e (ttB t) := by
  intro W tk
  refine ptI (pt_val (h W tk) he) ?_
  rintro σ H Qh ⟨io, env, F, O, Q, R, I, h, kQ, kX⟩
  refine ⟨io, env, F, O, _, R, I, h, ?_, kX⟩
  intro d n env1 F1 O1 H1 v P A1 T1 r1 h1
  cases d with
  | bl b => exact ⟨b, bl_of r1, kQ b env1 F1 O1 H1 A1 h1⟩
  | _ => exact h1.elim
theorem dt_pu (h : PU X e pt) (he : ∀ whole, isTrue e X.env whole = (do let v ← whole; standAt e.pos; holding [v] (truthy v)) := by intro _; rfl) : DT X e (ttPB pt) := by
  intro W tk
  refine ptI (pt_val h he) ?_
  rintro σ H Qh ⟨io, env, F, O, Q, R, I, h, kQ, kX⟩
  refine ⟨io, env, F, O, _, I, h, fun d v H1 e1 r1 h1 => ?_⟩
  cases d with
  | bl b => exact ⟨b, r1, kQ b env F O H1 ((At.start I).ext e1) h1⟩
  | _ => exact h1.elim
theorem tru_of {K : PySem.W.Frag} {mg : MG} {H : Hp} {d : D} {v : V} {Q : Bool → Prop} (r : Rep K mg H d v) (hd : ∀ a o u, v = .ref a → H a ≠ some (.frz o (.dK u))) (h : tru d Q) : ∃ k, TruV K v H k ∧ Q k := by
  cases d with
  | non => cases (show v = .non from r); exact ⟨false, rfl, h⟩
  | bl b => cases (show v = .bl b from r); exact ⟨b, rfl, h⟩
  | int i => cases (show v = .int i from r); exact ⟨_, rfl, h⟩
  | str s => cases (show v = .str s from r); exact ⟨_, ⟨h.1, rfl⟩, h.2⟩
  | lst ds =>
    obtain ⟨a, vs, rfl, h1, h2⟩ := r
    refine ⟨!vs.isEmpty, .inl ⟨vs, .inl h1, rfl⟩, ?_⟩
    have e : vs.isEmpty = ds.isEmpty := by
      have := h2.length
      cases vs <;> cases ds <;> first | rfl | simp at this
    rw [e]
    exact h
  | tup ds =>
    obtain ⟨a, vs, rfl, h1, h2⟩ := r
    refine ⟨!vs.isEmpty, .inr (.inl ⟨vs, .inl (.inl h1), rfl⟩), ?_⟩
    have e : vs.isEmpty = ds.isEmpty := by
      have := h2.length
      cases vs <;> cases ds <;> first | rfl | simp at this
    rw [e]
    exact h
  | ktu ds =>
    obtain ⟨a, vs, rfl, h1, h2⟩ := r
    refine ⟨!vs.isEmpty, .inr (.inl ⟨vs, h1, rfl⟩), ?_⟩
    have e : vs.isEmpty = ds.isEmpty := by
      have := h2.length
      cases vs <;> cases ds <;> first | rfl | simp at this
    rw [e]
    exact h
  | dK ds =>
    obtain ⟨a, vs, rfl, h1, h2⟩ := r
    rcases h1 with h1 | ⟨o, h1⟩
    · refine ⟨!vs.isEmpty, .inr (.inr ⟨vs, h1, rfl⟩), ?_⟩
      have e : vs.isEmpty = ds.isEmpty := by
        have := congrArg List.length (RepK.keys h2).1
        cases vs <;> cases ds <;> first | rfl | simp at this
      rw [e]
      exact h
    · exact absurd h1 (hd _ _ _ rfl)
  | _ => exact (show False from h).elim
theorem dt_and1 (ha : DT X a tA) : DW X (.BoolOp .And [a] pos) tA := fun W tk => pw_and1 (ha W tk)
theorem dt_or1 (ha : DT X a tA) : DW X (.BoolOp .Or [a] pos) tA := fun W tk => pw_or1 (ha W tk)
theorem dt_and (ha : DT X a tA) (hb : DW X (.BoolOp .And (b :: rest) pos) tB) : DW X (.BoolOp .And (a :: b :: rest) pos) (ttAnd tA tB) := by
  intro W tk
  refine pwI (pw_and (ha W tk) (hb W tk)) ?_
  rintro σ H Qh ⟨io, env, F, O, Q, R, I, h, kQ, kX⟩
  refine ⟨io, env, F, O, _, R, I, h, ?_, kX⟩
  intro c env1 F1 O1 H1 A1 h1
  cases c with
  | true => exact iteT ⟨io, env1, F1, O1, Q, R, A1.si, h1, fun b env2 F2 O2 H2 A2 q => kQ b env2 F2 O2 H2 (A1.trans A2) q, kX.mv A1⟩
  | false => exact iteF (kQ false env1 F1 O1 H1 A1 h1)
theorem dt_or (ha : DT X a tA) (hb : DW X (.BoolOp .Or (b :: rest) pos) tB) : DW X (.BoolOp .Or (a :: b :: rest) pos) (ttOr tA tB) := by
  intro W tk
  refine pwI (pw_or (ha W tk) (hb W tk)) ?_
  rintro σ H Qh ⟨io, env, F, O, Q, R, I, h, kQ, kX⟩
  refine ⟨io, env, F, O, _, R, I, h, ?_, kX⟩
  intro c env1 F1 O1 H1 A1 h1
  cases c with
  | false => exact iteF ⟨io, env1, F1, O1, Q, R, A1.si, h1, fun b env2 F2 O2 H2 A2 q => kQ b env2 F2 O2 H2 (A1.trans A2) q, kX.mv A1⟩
  | true => exact iteT (kQ true env1 F1 O1 H1 A1 h1)
theorem DW.dt (h : DW X e tA) : DT X e tA := fun W tk => (h W tk).pt
theorem dt_not (ha : DT X a tA) : DT X (.UnaryOp .Not a pos) (ttNot tA) := by
  intro W tk
  refine ptI (pt_not (ha W tk)) ?_
  rintro σ H Qh ⟨io, env, F, O, Q, R, I, h, kQ, kX⟩
  exact ⟨io, env, F, O, _, R, I, h, fun c env1 F1 O1 H1 A1 h1 => kQ _ env1 F1 O1 H1 A1 h1, kX⟩
end
/-! and, or, not, if .. else as values -/
def eAnd (t u : ET) : ET := fun env Q R => t env (fun d _ env1 => match d with | .bl b => brB b (u env1 Q R) (Q (.bl false) 0 env1) | _ => False) R
def eOr (t u : ET) : ET := fun env Q R => t env (fun d _ env1 => match d with | .bl b => brB b (Q (.bl true) 0 env1) (u env1 Q R) | _ => False) R
def eNot (t : ET) : ET := fun env Q R => t env (fun d _ env1 => match d with | .bl b => Q (.bl (!b)) 0 env1 | _ => False) R
def eIf (c : TTd) (t u : ET) : ET := fun env Q R => c env (fun b env1 => brB b (t env1 Q R) (u env1 Q R)) R
def eNotT (c : TTd) : ET := fun env Q R => c env (fun b env1 => Q (.bl (!b)) 0 env1) R
section
variable {X : Cx} {e a b c : Expr} {rest : List Expr} {t u : ET} {tc : TTd} {pos : Pos} {op : BoolOp}
theorem de_one (h : DE X a t) : DE X (.BoolOp op [a] pos) t := fun W tk => pe_one (h W tk)
theorem de_and (ha : DE X a t) (hb : DE X (.BoolOp .And (b :: rest) pos) u) : DE X (.BoolOp .And (a :: b :: rest) pos) (eAnd t u) := by
  intro W tk
  refine peI (pe_and (ha W tk) (hb W tk)) ?_
  rintro σ H Qh ⟨io, env, F, O, Q, R, I, h, kQ, kX⟩
  refine ⟨io, env, F, O, _, R, I, h, ?_, kX⟩
  intro d n env1 F1 O1 H1 v P A1 T1 r1 h1
  cases d with
  | bl b =>
    refine ⟨b, bl_of r1, ?_⟩
    cases b with
    | true => exact iteT ⟨io, env1, F1, O1, Q, R, A1.si, h1, kQ.mv A1, kX.mv A1⟩
    | false => exact iteF (kQ.leaf (F'' := F1) (d := .bl _) A1 rfl rfl h1)
  | _ => exact h1.elim
theorem de_or (ha : DE X a t) (hb : DE X (.BoolOp .Or (b :: rest) pos) u) : DE X (.BoolOp .Or (a :: b :: rest) pos) (eOr t u) := by
  intro W tk
  refine peI (pe_or (ha W tk) (hb W tk)) ?_
  rintro σ H Qh ⟨io, env, F, O, Q, R, I, h, kQ, kX⟩
  refine ⟨io, env, F, O, _, R, I, h, ?_, kX⟩
  intro d n env1 F1 O1 H1 v P A1 T1 r1 h1
  cases d with
  | bl b =>
    refine ⟨b, bl_of r1, ?_⟩
    cases b with
    | false => exact iteF ⟨io, env1, F1, O1, Q, R, A1.si, h1, kQ.mv A1, kX.mv A1⟩
    | true => exact iteT (kQ.leaf (F'' := F1) (d := .bl _) A1 rfl rfl h1)
  | _ => exact h1.elim
theorem de_not (ha : DE X a t) : DE X (.UnaryOp .Not a pos) (eNot t) := by
  intro W tk
  refine peI (pe_not (ha W tk)) ?_
  rintro σ H Qh ⟨io, env, F, O, Q, R, I, h, kQ, kX⟩
  refine ⟨io, env, F, O, _, R, I, h, ?_, kX⟩
  intro d n env1 F1 O1 H1 v P A1 T1 r1 h1
  cases d with
  | bl b => exact ⟨b, bl_of r1, kQ.leaf (F'' := F1) (d := .bl _) A1 rfl rfl h1⟩
  | _ => exact h1.elim
theorem de_ifExp (hc : DT X c tc) (ha : DE X a t) (hb : DE X b u) : DE X (.IfExp c a b pos) (eIf tc t u) := by
  intro W tk
  refine peI (pe_ifExp (hc W tk) (ha W tk) (hb W tk)) ?_
  rintro σ H Qh ⟨io, env, F, O, Q, R, I, h, kQ, kX⟩
  refine ⟨io, env, F, O, _, R, I, h, ?_, kX⟩
  intro b env1 F1 O1 H1 A1 h1
  cases b with
  | true => exact iteT ⟨io, env1, F1, O1, Q, R, A1.si, h1, kQ.mv A1, kX.mv A1⟩
  | false => exact iteF ⟨io, env1, F1, O1, Q, R, A1.si, h1, kQ.mv A1, kX.mv A1⟩
end
end DL
set_option Elab.async false
set_option linter.all false
set_option maxRecDepth 100000
/-! DLd: the data layer, part d: targets, statements, loops, comprehensions, calls, defs. -/
namespace DL
open PySem L2

/-! ### targets -/
inductive Tg where
  | nm (i : Nat)
  | tu (ts : List Tg)
mutual
def Tg.slots : Tg → List Nat
  | .nm i => [i]
  | .tu ts => Tg.slotsL ts
def Tg.slotsL : List Tg → List Nat
  | [] => []
  | t :: ts => t.slots ++ Tg.slotsL ts
end
mutual
def bindT : Tg → D → DEnv → (DEnv → Prop) → Prop
  | .nm i, d, env, k => k (env.set i (some ⟨d, 0, false⟩))
  | .tu ts, .tup ds, env, k => bindTs ts ds env k
  | .tu _, _, _, _ => False
def bindTs : List Tg → List D → DEnv → (DEnv → Prop) → Prop
  | [], [], env, k => k env
  | t :: ts, d :: ds, env, k => bindT t d env fun env1 => bindTs ts ds env1 k
  | _, _, _, _ => False
end
mutual
theorem bindT_some : ∀ {t : Tg} {d : D} {env : DEnv} {k : DEnv → Prop}, bindT t d env k → ∃ e, k e
  | .nm i, d, env, k, h => ⟨_, h⟩
  | .tu ts, .tup ds, env, k, h => by
    obtain ⟨e, _, q⟩ := bindTs_some h
    exact ⟨e, q⟩
  | .tu _, .non, _, _, h => h.elim
  | .tu _, .bl _, _, _, h => h.elim
  | .tu _, .int _, _, _, h => h.elim
  | .tu _, .str _, _, _, h => h.elim
  | .tu _, .lst _, _, _, h => h.elim
  | .tu _, .dK _, _, _, h => h.elim
  | .tu _, .dT _, _, _, h => h.elim
  | .tu _, .obj _ _, _, _, h => h.elim
  | .tu _, .fn _, _, _, h => h.elim
  | .tu _, .ktu _, _, _, h => h.elim
  | .tu _, .hole, _, _, h => h.elim
theorem bindTs_some : ∀ {ts : List Tg} {ds : List D} {env : DEnv} {k : DEnv → Prop}, bindTs ts ds env k → ∃ e, ds.length = ts.length ∧ k e
  | [], [], env, k, h => ⟨_, rfl, h⟩
  | [], _ :: _, _, _, h => h.elim
  | _ :: _, [], _, _, h => h.elim
  | t :: ts, d :: ds, env, k, h => by
    obtain ⟨e, q⟩ := bindT_some (t := t) (d := d) h
    obtain ⟨e2, l, q2⟩ := bindTs_some q
    exact ⟨e2, by simp [l], q2⟩
end
/-- the slots S alone may differ -/
def Agr (S : List Nat) (σ σ' : L2.St) : Prop := ∀ vs : List Nat, (∀ i ∈ S, i ∈ vs) → wipe σ' vs = wipe σ vs
theorem wipe_set {σ : L2.St} {i : Nat} {w : Option V} : ∀ {vs : List Nat}, i ∈ vs → wipe (σ.set i w) vs = wipe σ vs
  | [], h => by cases h
  | v :: vs, h => by
    unfold wipe
    by_cases e : i ∈ vs
    · rw [wipe_set e]
    · have e2 : i = v := by rcases List.mem_cons.mp h with z | z; exact z; exact absurd z e
      subst e2
      have g : ∀ (vs : List Nat), i ∉ vs → wipe (σ.set i w) vs = (wipe σ vs).set i w := by
        intro vs
        induction vs with
        | nil => intro _; rfl
        | cons u us ih =>
          intro hn
          unfold wipe
          rw [ih fun z => hn (List.mem_cons_of_mem _ z), List.set_comm _ _ (fun z => hn (by rw [z]; exact List.mem_cons_self))]
      rw [g vs e, List.set_set]
section
variable (K : PySem.W.Frag) (mg : MG)
def rdG (g : Tg) : TG := fun v σ H Qσ => ∃ io env F O d Qd, SI K mg io env σ F O H ∧ Rep K mg F d v ∧ bindT g d env Qd ∧
  ∀ env' σ' O', At K mg io F O H env' σ' F O' H → Agr g.slots σ σ' → Qd env' → Qσ σ' H
def rdGs (gs : List Tg) : TGs := fun vs σ H Qσ => ∃ io env F O ds Qd, SI K mg io env σ F O H ∧ Reps K mg F ds vs ∧ bindTs gs ds env Qd ∧
  ∀ env' σ' O', At K mg io F O H env' σ' F O' H → Agr (Tg.slotsL gs) σ σ' → Qd env' → Qσ σ' H
end
def DGt (X : Cx) (e : Expr) (g : Tg) : Prop := PG X e (rdG X.K X.mg g)
def DGts (X : Cx) (es : List Expr) (gs : List Tg) : Prop := PGs X es (rdGs X.K X.mg gs)
section
variable {X : Cx} {e : Expr} {es : List Expr} {g : Tg} {gs : List Tg} {pos : Pos}
theorem pgI {t t' : TG} (h : PG X e t) (k : ∀ v σ H Q, t' v σ H Q → t v σ H Q) : PG X e t' := ⟨fun pins s σ H v u Q I r w => h.run pins s σ H v u Q I r (k v σ H Q w)⟩
theorem pgsI {t t' : TGs} (h : PGs X es t) (k : ∀ v σ H Q, t' v σ H Q → t v σ H Q) : PGs X es t' := ⟨fun pins s σ H v u Q I r w => h.run pins s σ H v u Q I r (k v σ H Q w)⟩
theorem dgt_nm (i : Nat) {x : Str} (hN : X.N.Nodup) (hi : X.N[i]? = some x := by rfl) (hx : Loc X.env.scope x := by first | exact Or.inl rfl | exact Or.inr rfl) (hf : X.fn x = true ∨ X.env.scope.names.lookup x = some .local := by first | exact .inl rfl | exact .inr rfl) :
    DGt X (.Name x pos) (.nm i) := by
  refine pgI (pg_name hN hi hx hf) ?_
  rintro v σ H Q ⟨io, env, F, O, d, Qd, I, r, h, k⟩
  exact k _ _ _ ((At.start I).set (n := 0) (P := P0) (i := i) Tp.none r) (fun vs hv => wipe_set (hv i (List.mem_cons_self))) h
theorem dgts_nil : DGts X [] [] := by
  refine pgsI pgs_nil ?_
  rintro v σ H Q ⟨io, env, F, O, ds, Qd, I, r, h, k⟩
  cases ds with
  | nil => exact ⟨r, k env σ O (At.start I) (fun vs _ => rfl) h⟩
  | cons _ _ => exact h.elim
theorem dgts_cons (h1 : DGt X e g) (h2 : DGts X es gs) (hs : (assignEach (e :: es) X.env).map (·.2) = assign e X.env :: (assignEach es X.env).map (·.2) := by rfl) : DGts X (e :: es) (g :: gs) := by
  refine pgsI (pgs_cons h1 h2 hs) ?_
  rintro vs σ H Q ⟨io, env, F, O, ds, Qd, I, r, h, k⟩
  cases ds with
  | nil => exact h.elim
  | cons d ds =>
    obtain ⟨v, rs, rfl, r1, r2⟩ := r
    refine ⟨v, rs, rfl, io, env, F, O, d, _, I, r1, h, ?_⟩
    intro env1 σ1 O1 A1 a1 h1
    exact ⟨io, env1, F, O1, ds, Qd, A1.si, r2, h1, fun env2 σ2 O2 A2 a2 h2 => k env2 σ2 O2 (A1.trans A2) (fun vs hv => (a2 vs fun i hi => hv i (List.mem_append_right _ hi)).trans (a1 vs fun i hi => hv i (List.mem_append_left _ hi))) h2⟩
theorem dgt_tu {k : Nat} (hc : X.calm = true) (h : DGts X es gs) (hn : (assignEach es X.env).length = gs.length := by rfl) (hst : (assignEach es X.env).findIdx? (·.1) = none := by rfl) : DGt X (.Tuple es k pos) (.tu gs) := by
  refine pgI (pg_tup hc h hn hst) ?_
  rintro v σ H Q ⟨io, env, F, O, d, Qd, I, r, h, k⟩
  cases d with
  | tup ds =>
    obtain ⟨a, vs, rfl, h1, h2⟩ := r
    obtain ⟨_, hl, _⟩ := bindTs_some h
    exact ⟨a, vs, rfl, .inl (.inl (I.sub _ _ h1)), by rw [h2.length]; exact hl, io, env, F, O, ds, Qd, I, h2, h, k⟩
  | _ => exact h.elim
end

/-! ### statements -/
def sdSeq (t u : SD) : SD := fun env D => t env { D with nx := fun env1 => u env1 D }
def sdNil : SD := fun env D => D.nx env
def sdBreak : SD := fun env D => D.bk env
def sdCont : SD := fun env D => D.ct env
def sdNever : SD := fun _ _ => False
def sdSet (i : Nat) (t : ET) : SD := fun env D => t env (fun d n env1 => D.nx (env1.set i (some ⟨d, n, false⟩))) D.ex
def sdAsg (g : Tg) (t : ET) : SD := fun env D => t env (fun d _ env1 => bindT g d env1 D.nx) D.ex
def sdDrop (t : ET) : SD := fun env D => t env (fun _ _ env1 => D.nx env1) D.ex
def sdRet (t : ET) : SD := fun env D => t env D.rt D.ex
def sdRetV (i : Nat) : SD := fun env D => match gt env i with | some b => D.rt b.d b.n (env.set i none) | none => False
def sdRetN : SD := fun env D => D.rt .non 0 env
def sdIf (c : TTd) (t u : SD) : SD := fun env D => c env (fun b env1 => brB b (t env1 D) (u env1 D)) D.ex
section
variable {K : PySem.W.Frag} {mg : MG} {io : Nat → Option V} {env env1 : DEnv} {σ : L2.St} {F F1 H H1 : Hp} {O O1 : OW}
theorem At.drop (A : At K mg io F O H env σ F1 O1 H1) (i : Nat) : At K mg io F O H (env.set i none) σ F1 (offO O1 i) H1 where
  mv := ⟨A.mv.ff, A.mv.fr, A.mv.fn, fun a j e => A.mv.on a j (offO_some.mp e).1⟩
  si := ⟨A.si.sub, fun a j e => A.si.own a j (offO_some.mp e).1, fun j c hc => by
      rcases getElem?_set_some hc with ⟨rfl, e, hl⟩ | ⟨ne, hc⟩
      · cases e
      · obtain ⟨w, g1, g2, g3⟩ := A.si.slot j c hc
        exact ⟨w, g1, g2.mono (fun _ _ x => x) (fun _ _ _ x => x) (fun a e => offO_some.mpr ⟨e, fun z => ne z.symm⟩), g3⟩, by rw [List.length_set]; exact A.si.len⟩
theorem At.tp_slot (A : At K mg io F O H env σ F1 O1 H1) (i : Nat) : Tp O H F1 (offO O1 i) H1 (fun a => O1 a = some i) := ⟨fun a e => by
  obtain ⟨h1, h2⟩ := A.si.own a i e
  refine ⟨h1, ?_, h2⟩
  unfold offO
  rw [if_pos e], fun a e => A.mv.on a i e⟩
end
section
variable {X : Cx} {s : Stmt} {rest body orelse : List Stmt} {t u : SD} {e : Expr} {te : ET} {tc : TTd} {pos : Pos}
theorem dss_nil : DSs X [] sdNil := fun W tk => pssI pss_nil fun Dn σ H ⟨io, env, F, O, D, I, h, k, _⟩ => k env σ F O H (At.start I) h
theorem dss_one (h : DS X s t) : DSs X [s] t := fun W tk => pss_one (h W tk)
theorem dss_cons (h1 : DS X s t) (h2 : DSs X rest u) : DSs X (s :: rest) (sdSeq t u) := by
  intro W tk
  refine pssI (pss_cons (h1 W tk) (h2 W tk)) ?_
  rintro Dn σ H ⟨io, env, F, O, D, I, h, k1, k2, k3, k4, k5⟩
  refine ⟨io, env, F, O, _, I, h, ?_, k2, k3, k4, k5⟩
  intro env1 σ1 F1 O1 H1 A1 h1
  exact ⟨io, env1, F1, O1, D, A1.si, h1, fun env2 σ2 F2 O2 H2 A2 => k1 _ _ _ _ _ (A1.trans A2), fun d n env2 σ2 F2 O2 H2 v P A2 T2 => k2 _ _ _ _ _ _ _ _ _ (A1.trans A2) (Tp.after A1.mv T2),
    fun env2 σ2 F2 O2 H2 A2 => k3 _ _ _ _ _ (A1.trans A2), fun env2 σ2 F2 O2 H2 A2 => k4 _ _ _ _ _ (A1.trans A2), k5.mv A1⟩
theorem ds_pass : DS X (.Pass pos) sdNil := fun W tk => psI ps_pass fun Dn σ H ⟨io, env, F, O, D, I, h, k, _⟩ => k env σ F O H (At.start I) h
theorem ds_break : DS X (.Break pos) sdBreak := fun W tk => psI ps_break fun Dn σ H ⟨io, env, F, O, D, I, h, _, _, k, _⟩ => k env σ F O H (At.start I) h
theorem ds_continue : DS X (.Continue pos) sdCont := fun W tk => psI ps_continue fun Dn σ H ⟨io, env, F, O, D, I, h, _, _, _, k, _⟩ => k env σ F O H (At.start I) h
theorem ds_never : DS X s sdNever := fun W tk => psI (ps_never (X := X)) fun Dn σ H ⟨io, env, F, O, D, I, h, _⟩ => h.elim
theorem ds_set {i : Nat} {x : Str} {pos' : Pos} (hN : X.N.Nodup) (he : DE X e te) (hi : X.N[i]? = some x := by rfl) (hx : Loc X.env.scope x := by first | exact Or.inl rfl | exact Or.inr rfl)
    (hs : swapsWith e (some (.Name x pos')) pos.line X.env = pure false := by rfl) (hf : X.fn x = true ∨ X.env.scope.names.lookup x = some .local := by first | exact .inl rfl | exact .inr rfl) :
    DS X (.Assign [.Name x pos'] e pos) (sdSet i te) := by
  intro W tk
  refine psI (ps_set hN hi hx (he W tk) hs hf) ?_
  rintro Dn σ H ⟨io, env, F, O, D, I, h, k1, k2, k3, k4, k5⟩
  refine ⟨io, env, F, O, _, _, I, h, ?_, k5⟩
  intro d n env1 F1 O1 H1 v P A1 T1 r1 h1
  exact k1 _ _ _ _ _ (A1.set T1 r1) h1
theorem ds_asg {tg : Expr} {g : Tg} (he : DE X e te) (hg : DGt X tg g) (hs : swapsWithSole [tg] e pos.line X.env = pure false := by rfl) (hw : swappedStores [tg] e X.env = pure none := by rfl) (h1 : List.map (fun x => x.snd) (assignEach [tg] X.env) = [assign tg X.env] := by rfl) : DS X (.Assign [tg] e pos) (sdAsg g te) := by
  intro W tk
  refine psI (ps_asg (he W tk) hg hs hw (h1 := h1)) ?_
  rintro Dn σ H ⟨io, env, F, O, D, I, h, k1, k2, k3, k4, k5⟩
  refine ⟨io, env, F, O, _, _, I, h, ?_, k5⟩
  intro d n env1 F1 O1 H1 v P A1 T1 r1 h1
  have A1' := A1.frz T1
  exact ⟨io, env1, _, O1, d, _, A1'.si, A1.frz_rep r1, h1, fun env2 σ2 O2 A2 _ h2 => k1 _ _ _ _ _ (A1'.trans A2) h2⟩
theorem ds_expr (he : DE X e te) (hs : swapsWith e none pos.line X.env = pure false := by rfl) : DS X (.Expr e pos) (sdDrop te) := by
  intro W tk
  refine psI (ps_expr (he W tk) hs) ?_
  rintro Dn σ H ⟨io, env, F, O, D, I, h, k1, k2, k3, k4, k5⟩
  refine ⟨io, env, F, O, _, _, I, h, ?_, k5⟩
  intro d n env1 F1 O1 H1 v P A1 T1 r1 h1
  exact k1 _ _ _ _ _ A1 h1
theorem ds_doc {x j pos pos'} : DS X (.Expr (.Constant (.str x) j pos) pos') sdNil := fun W tk => psI ps_doc fun Dn σ H ⟨io, env, F, O, D, I, h, k, _⟩ => k env σ F O H (At.start I) h
theorem ds_ret (he : DE X e te) : DS X (.Return (some e) pos) (sdRet te) := by
  intro W tk
  refine psI (ps_ret (he W tk)) ?_
  rintro Dn σ H ⟨io, env, F, O, D, I, h, k1, k2, k3, k4, k5⟩
  refine ⟨io, env, F, O, _, _, I, h, ?_, k5⟩
  intro d n env1 F1 O1 H1 v P A1 T1 r1 h1
  exact k2 d n env1 σ F1 O1 H1 v P A1 T1 r1 h1
/-- the local's own container goes out -/
theorem ds_retv (i : Nat) {x : Str} {pos' : Pos} (hN : X.N[i]? = some x := by rfl) (hv : Vis X.env.scope x := by first | exact Or.inl rfl | exact Or.inr (Or.inl rfl) | exact Or.inr (Or.inr rfl)) (hd : (x == ("__debug__" : Str)) = false := by decide)
    (hcd : (x == ("__classdict__" : Str)) = false := by decide) : DS X (.Return (some (.Name x pos')) pos) (sdRetV i) := by
  intro W tk
  refine psI (ps_ret (pe_var hN hv hd hcd)) ?_
  rintro Dn σ H ⟨io, env, F, O, D, I, h, k1, k2, k3, k4, k5⟩
  unfold sdRetV at h
  cases e : gt env i with
  | none => rw [e] at h; exact h.elim
  | some b =>
    rw [e] at h
    obtain ⟨v, h1, h2, _⟩ := I.slot i b (gt_some e)
    have A := At.start I
    exact ⟨v, h1, k2 b.d b.n _ σ F _ H v _ (A.drop i) (A.tp_slot i) h2 h⟩
theorem ds_retN : DS X (.Return none pos) sdRetN := fun W tk => psI ps_retN fun Dn σ H ⟨io, env, F, O, D, I, h, _, k2, _⟩ => k2 .non 0 env σ F O H .non P0 (At.start I) Tp.none rfl h
theorem ds_if {c : Expr} {a b : List Stmt} (hc : DT X c tc) (ha : DSs X a t) (hb : DSs X b u) : DS X (.If c a b pos) (sdIf tc t u) := by
  intro W tk
  refine psI (ps_if (hc W tk) (ha W tk) (hb W tk)) ?_
  rintro Dn σ H ⟨io, env, F, O, D, I, h, k1, k2, k3, k4, k5⟩
  refine ⟨io, env, F, O, _, _, I, h, ?_, k5⟩
  intro b env1 F1 O1 H1 A1 h1
  have go : ∀ {t : SD}, t env1 D → rdS X.K X.mg t W Dn σ H1 := fun {t} ht =>
    ⟨io, env1, F1, O1, D, A1.si, ht, fun env2 σ2 F2 O2 H2 A2 => k1 _ _ _ _ _ (A1.trans A2), fun d n env2 σ2 F2 O2 H2 v P A2 T2 => k2 _ _ _ _ _ _ _ _ _ (A1.trans A2) (Tp.after A1.mv T2),
      fun env2 σ2 F2 O2 H2 A2 => k3 _ _ _ _ _ (A1.trans A2), fun env2 σ2 F2 O2 H2 A2 => k4 _ _ _ _ _ (A1.trans A2), k5.mv A1⟩
  cases b with
  | true => exact iteT (go h1)
  | false => exact iteF (go h1)
end
/-! while -/
def whileN (c : TTd) (b : SD) : Nat → DEnv → DEnds → Prop
  | 0, _, _ => False
  | n + 1, env, D => c env (fun k env1 => brB k
    (b env1 { nx := fun e => whileN c b n e D, ct := fun e => whileN c b n e D, bk := D.nx, rt := D.rt, ex := D.ex })
    (D.nx env1)) D.ex
def sdWhile (c : TTd) (b : SD) : SD := fun env D => ∃ n, whileN c b n env D
section
variable {X : Cx} {c : Expr} {body : List Stmt} {t : SD} {tc : TTd} {pos : Pos}
theorem ds_while (hp : PassesOwn (model X.prog X.w) X.A X.env X.xe) (hc : DT X c tc) (hb : DSs X body t) : DS X (.While c body [] pos) (sdWhile tc t) := by
  intro W tk
  refine psI (ps_while hp (hc W tk) (hb W tk)) ?_
  rintro Dn σ H ⟨io, env, F, O, D, I, ⟨n, h⟩, k1, k2, k3, k4, k5⟩
  refine ⟨fun n σ' H' => ∃ env' F' O', At X.K X.mg io F O H env' σ' F' O' H' ∧ whileN tc t n env' D, ⟨n, env, F, O, At.start I, h⟩, ?_⟩
  rintro n σ1 H1 ⟨env1, F1, O1, A1, h1⟩
  cases n with
  | zero => exact h1.elim
  | succ n =>
    refine ⟨io, env1, F1, O1, _, _, A1.si, h1, ?_, k5.mv A1⟩
    intro b env2 F2 O2 H2 A2 h2
    have A2' := A1.trans A2
    cases b with
    | false => exact iteF (k1 _ _ _ _ _ A2' h2)
    | true =>
      refine iteT ⟨fun σ' H' => ∃ env' F' O', At X.K X.mg io F O H env' σ' F' O' H' ∧ whileN tc t n env' D, fun σ' H' q => ⟨n, Nat.lt_succ_self n, q⟩, ?_⟩
      exact ⟨io, env2, F2, O2, _, A2'.si, h2, fun env3 σ3 F3 O3 H3 A3 q => ⟨env3, F3, O3, A2'.trans A3, q⟩, fun d n env3 σ3 F3 O3 H3 v P A3 T3 => k2 _ _ _ _ _ _ _ _ _ (A2'.trans A3) (Tp.after A2'.mv T3),
        fun env3 σ3 F3 O3 H3 A3 q => k1 _ _ _ _ _ (A2'.trans A3) q, fun env3 σ3 F3 O3 H3 A3 q => ⟨env3, F3, O3, A2'.trans A3, q⟩, k5.mv A2'⟩
end
/-! for -/
abbrev ITd := DEnv → (List D → DEnv → Prop) → QX → Prop
structure ItOk (K : PySem.W.Frag) (mg : MG) (J : It) (items : List D) (F : Hp) : Prop where
  go : ∀ i H, Same F H → i < items.length → J.go i H
  stop : ∀ i H, Same F H → items.length ≤ i → J.stop i H
  yld : ∀ i H v H', Same F H → i < items.length → J.yld i H v H' → ∃ d, items[i]? = some d ∧ ((H' = H ∧ Rep K mg F d v) ∨ ∃ p ds vs, v = .ref p ∧ H p = none ∧ H' = upd H p (.tup vs) ∧ d = .tup ds ∧ Reps K mg F ds vs)
def rdI (K : PySem.W.Frag) (mg : MG) (τ : ITd) (W : WX) : TI := fun σ H R' => ∃ io env F O Q R, SI K mg io env σ F O H ∧ τ env Q R ∧
  (∀ items env' F' O' H' J, At K mg io F O H env' σ F' O' H' → ItOk K mg J items F' → Q items env' → R' J H') ∧ KX K mg io F O H R W
def DI (X : Cx) (tg iter : Expr) (τ : ITd) : Prop := ∀ W, Takes X W → PI X tg iter (rdI X.K X.mg τ W)
theorem piI {X : Cx} {tg iter : Expr} {t t' : TI} (h : PI X tg iter t) (k : ∀ σ H R, t' σ H R → t σ H R) : PI X tg iter t' := ⟨fun pins s σ H R I w => h.run pins s σ H R I (k σ H R w)⟩
def forD (g : Tg) (b : SD) : List D → DEnv → DEnds → Prop
  | [], env, D => D.nx env
  | x :: xs, env, D => bindT g x env fun env1 => b env1 { nx := fun e => forD g b xs e D, ct := fun e => forD g b xs e D, bk := D.nx, rt := D.rt, ex := D.ex }
def sdFor (i : ITd) (g : Tg) (b : SD) : SD := fun env D => i env (fun items env1 => forD g b items env1 D) D.ex
/-- what a turn hands over: into the ground -/
theorem ItOk.take {K : PySem.W.Frag} {mg : MG} {io : Nat → Option V} {env : DEnv} {σ : L2.St} {F0 F1 H1 H2 : Hp} {O1 : OW} {J : It} {items : List D} {i : Nat} {x : V} (T : ItOk K mg J items F0) (I : SI K mg io env σ F1 O1 H1) (e : Same F0 F1) (hi : i < items.length)
    (y : J.yld i H1 x H2) : ∃ d F2, items[i]? = some d ∧ At K mg io F1 O1 H1 env σ F2 O1 H2 ∧ Rep K mg F2 d x := by
  obtain ⟨d, hd, h | ⟨p, ds, vs, rfl, hp, rfl, rfl, r⟩⟩ := T.yld i H1 x H2 (e.trans I.sub) hi y
  · obtain ⟨rfl, r⟩ := h
    exact ⟨d, F1, hd, At.start I, Rep.mono e r⟩
  · exact ⟨.tup ds, _, hd, (At.start I).tup hp, p, vs, rfl, upd_same, Reps.mono (e.trans (same_upd (I.freeF hp))) r⟩
theorem drop_get {α : Type} {l : List α} {i : Nat} {x : α} (h : l[i]? = some x) : l.drop i = x :: l.drop (i + 1) := by
  obtain ⟨hl, e⟩ := List.getElem?_eq_some_iff.mp h
  rw [← e]
  exact List.drop_eq_getElem_cons hl
section
variable {X : Cx} {tg iter : Expr} {g : Tg} {body : List Stmt} {t : SD} {it : ITd} {pos : Pos}
theorem for_rest {X : Cx} {W : WX} {Dn : Ends} {io : Nat → Option V} {env1 : DEnv} {σ : L2.St} {F F1 H H1 : Hp} {O O1 : OW} {D : DEnds} {items : List DL.D} {J : It}
    (k1 : ∀ env' σ' F' O' H', At X.K X.mg io F O H env' σ' F' O' H' → D.nx env' → Dn.nx σ' H') (k2 : ∀ d n env' σ' F' O' H' v P, At X.K X.mg io F O H env' σ' F' O' H' → Tp O H F' O' H' P → RepO X.K X.mg F' H' n P d v → D.rt d n env' → Dn.rt v H') (k5 : KX X.K X.mg io F O H D.ex W)
    (A1 : At X.K X.mg io F O H env1 σ F1 O1 H1) (T : ItOk X.K X.mg J items F1) (h1 : forD g t items env1 D) : ∃ W' : Nat → Nat → L2.St → Hp → Prop, (∃ m, W' 0 m σ H1) ∧ ∀ i m σ H, W' i m σ H →
      (J.stop i H ∧ Dn.nx σ H) ∨ (J.go i H ∧ ∃ N : L2.St → Hp → Prop, (∀ σ' H', N σ' H' → ∃ m', m' < m ∧ W' (i + 1) m' σ' H') ∧ ∀ x H', J.yld i H x H' → rdG X.K X.mg g x σ H' fun σ2 H2 => rdS X.K X.mg t W { Dn with nx := N, ct := N, bk := Dn.nx } σ2 H2) := by
  refine ⟨fun i m σ' H' => m + i = items.length ∧ ∃ env' F' O', At X.K X.mg io F O H env' σ' F' O' H' ∧ Same F1 F' ∧ forD g t (items.drop i) env' D, ⟨items.length, by omega, env1, F1, O1, A1, Same.refl _, h1⟩, ?_⟩
  rintro i m σ2 H2 ⟨hm, env2, F2, O2, A2, e2, h2⟩
  by_cases hi : i < items.length
  · refine .inr ⟨T.go i H2 (e2.trans A2.si.sub) hi, fun σ' H' => ∃ env' F' O', At X.K X.mg io F O H env' σ' F' O' H' ∧ Same F1 F' ∧ forD g t (items.drop (i + 1)) env' D, fun σ' H' q => ⟨m - 1, by omega, by omega, q⟩, ?_⟩
    intro x H3 y
    obtain ⟨d, F3, hd, B3, r3⟩ := T.take A2.si e2 hi y
    have e3 := B3.mv.ff
    have A3 := A2.trans B3
    rw [drop_get hd] at h2
    refine ⟨io, env2, F3, O2, d, _, A3.si, r3, h2, ?_⟩
    intro env4 σ4 O4 A4 _ h4
    have A4' := A3.trans A4
    exact ⟨io, env4, F3, O4, _, A4'.si, h4, fun env5 σ5 F5 O5 H5 A5 q => ⟨env5, F5, O5, A4'.trans A5, (e2.trans e3).trans A5.mv.ff, q⟩, fun d n env5 σ5 F5 O5 H5 v P A5 T5 => k2 _ _ _ _ _ _ _ _ _ (A4'.trans A5) (Tp.after A4'.mv T5),
      fun env5 σ5 F5 O5 H5 A5 q => k1 _ _ _ _ _ (A4'.trans A5) q, fun env5 σ5 F5 O5 H5 A5 q => ⟨env5, F5, O5, A4'.trans A5, (e2.trans e3).trans A5.mv.ff, q⟩, k5.mv A4'⟩
  · refine .inl ⟨T.stop i H2 (e2.trans A2.si.sub) (by omega), ?_⟩
    rw [List.drop_of_length_le (by omega)] at h2
    exact k1 _ _ _ _ _ A2 h2
theorem ds_for (hp : PassesOwn (model X.prog X.w) X.A X.env X.xe) (hc : X.calm = true) (hi : DI X tg iter it) (hg : DGt X tg g) (hb : DSs X body t) (hs : ∀ x, foldedSetIterable iter X.env x = pure x := by intro _; rfl) :
    DS X (.For tg iter body [] pos) (sdFor it g t) := by
  intro W tk
  refine psI (ps_for hp hc (hi W tk) hg (hb W tk) hs) ?_
  rintro Dn σ H ⟨io, env, F, O, D, I, h, k1, k2, k3, k4, k5⟩
  refine ⟨io, env, F, O, _, _, I, h, ?_, k5⟩
  intro items env1 F1 O1 H1 J A1 T h1
  exact for_rest k1 k2 k5 A1 T h1
end
/-! comprehensions -/
def wipeD (env : DEnv) : List Nat → DEnv
  | [] => env
  | v :: vs => (wipeD env vs).set v none
def noX : QX := fun _ _ => False
def lcD (g : Tg) (tt : TTd) (te : ET) (vs : List Nat) : List D → List D → DEnv → QE → Prop
  | [], acc, env, Q => Q (.lst acc) 1 env
  | x :: xs, acc, env, Q => bindT g x env fun env1 => tt env1 (fun b env2 => brB b
    (te env2 (fun d _ env3 => acc.length < sizeLine ∧ lcD g tt te vs xs (acc ++ [d]) (wipeD env3 vs) Q) noX)
    (lcD g tt te vs xs acc (wipeD env2 vs) Q)) noX
def eLc (i : ITd) (g : Tg) (tt : TTd) (te : ET) (vs : List Nat) : ET := fun env Q R => i env (fun items env1 => lcD g tt te vs items [] (wipeD env1 vs) Q) R
def ttYes : TTd := fun env Q _ => Q true env
section
variable {K : PySem.W.Frag} {mg : MG} {io : Nat → Option V} {env env1 : DEnv} {σ : L2.St} {F F1 H H1 : Hp} {O O1 : OW}
theorem At.wipes (A : At K mg io F O H env σ F1 O1 H1) : ∀ vs : List Nat, ∃ O2, At K mg io F O H (wipeD env vs) (L2.wipe σ vs) F1 O2 H1 ∧ ∀ a i, O2 a = some i → O1 a = some i
  | [] => ⟨O1, A, fun _ _ h => h⟩
  | v :: vs => by
    obtain ⟨O2, A2, h2⟩ := At.wipes A vs
    exact ⟨_, A2.wipe v none, fun a i h => h2 a i (offO_some.mp h).1⟩
theorem wipeD_none : ∀ (vs : List Nat) (env : DEnv) (i : Nat) (b : Bd), (wipeD env vs)[i]? = some (some b) → env[i]? = some (some b) ∧ i ∉ vs
  | [], env, i, b, h => ⟨h, by simp⟩
  | v :: vs, env, i, b, h => by
    unfold wipeD at h
    rcases getElem?_set_some h with ⟨_, e, _⟩ | ⟨ne, h⟩
    · cases e
    · obtain ⟨h1, h2⟩ := wipeD_none vs env i b h
      exact ⟨h1, fun z => by rcases List.mem_cons.mp z with z | z; exact ne z.symm; exact h2 z⟩
theorem wipe_get : ∀ (vs : List Nat) (σ : L2.St) (i : Nat), i ∉ vs → (wipe σ vs)[i]? = σ[i]?
  | [], σ, i, _ => rfl
  | v :: vs, σ, i, h => by
    unfold wipe
    rw [List.getElem?_set_ne (fun z => h (by rw [z]; exact List.mem_cons_self)), wipe_get vs σ i fun z => h (List.mem_cons_of_mem _ z)]
theorem wipeD_len : ∀ (vs : List Nat) (env : DEnv), (wipeD env vs).length = env.length
  | [], _ => rfl
  | v :: vs, env => by unfold wipeD; rw [List.length_set, wipeD_len]
theorem SI.unwipe {vs : List Nat} (I : SI K mg io env (L2.wipe σ vs) F O H) (h : ∀ i b, env[i]? = some (some b) → i ∉ vs) : SI K mg io env σ F O H where
  sub := I.sub
  own := I.own
  slot := fun i b hb => by
    obtain ⟨v, g1, g2⟩ := I.slot i b hb
    exact ⟨v, by rw [← wipe_get vs σ i (h i b hb)]; exact g1, g2⟩
  len := by rw [I.len, wipe_length]
end
theorem upd_self {H : Hp} {a : Addr} {o : HO} (h : H a = some o) : upd H a o = H := by
  funext b
  unfold upd
  split
  · rename_i e; rw [e, h]
  · rfl
theorem wipe_in {σ : L2.St} {vs : List Nat} : ∀ {us : List Nat}, (∀ i ∈ us, i ∈ vs) → L2.wipe (L2.wipe σ us) vs = L2.wipe σ vs
  | [], _ => rfl
  | u :: us, h => by
    have e : L2.wipe σ (u :: us) = (L2.wipe σ us).set u none := rfl
    rw [e, wipe_set (h u List.mem_cons_self), wipe_in fun i hi => h i (List.mem_cons_of_mem _ hi)]
/-- tests of a comprehension -/
def DPTs (X : Cx) (ifs : List Expr) (τ : TTd) : Prop := ∀ W, Takes X W → PTs X ifs (rdT X.K X.mg τ W)
section
variable {X : Cx} {c : Expr} {t : TTd}
theorem dpts_nil : DPTs X [] ttYes := fun W tk => ⟨fun pins s σ H Q I h => pts_nil.run pins s σ H Q I (by
  obtain ⟨io, env, F, O, Qd, R, J, q, k, _⟩ := h
  exact k true env F O H (At.start J) q)⟩
theorem dpts_one (h : DT X c t) : DPTs X [c] t := fun W tk => pts_one (h W tk)
end
theorem takes00 {X : Cx} : Takes X (fun _ _ _ _ => False) := fun _ _ x => by
  obtain ⟨_, _, _, _, _, _, _, _, _, _, _, _, _, _, _, _, z⟩ := x
  exact z.elim
section
variable {X : Cx} {elt tg iter : Expr} {ifs : List Expr} {scope : Scope} {own : List (Str × Nat)} {g : Tg} {it : ITd} {tt : TTd} {te : ET} {pos : Pos} {W : WX}
theorem lc_rest {K : PySem.W.Frag} {mg : MG} {vs : List Nat} (hsl : ∀ i ∈ g.slots, i ∈ vs) {io : Nat → Option V} {env1 : DEnv} {σ : L2.St} {F F1 H H1 : Hp} {O O1 : OW} {Q : QE} {Qh : VK} {items : List D} {J : It}
    (kQ : KE K mg io σ F O H Q Qh) (A1 : At K mg io F O H env1 σ F1 O1 H1) (T : ItOk K mg J items F1) (h1 : lcD g tt te vs items [] (wipeD env1 vs) Q) (L : Addr) (hL : H1 L = none) : ∃ W : Nat → Nat → Hp → Prop, (∃ m, W 0 m (upd H1 L (.lst []))) ∧ ∀ i m H, W i m H →
      (J.stop i H ∧ Qh (.ref L) H) ∨ (J.go i H ∧ ∃ Nx : Hp → Prop, (∀ H', Nx H' → ∃ m', m' < m ∧ W (i + 1) m' H') ∧ ∀ x H', J.yld i H x H' → rdG K mg g x (L2.wipe σ vs) H' fun σ2 H2 => L2.wipe σ2 vs = L2.wipe σ vs ∧ rdT K mg tt (fun _ _ _ _ => False) σ2 H2 fun b H3 =>
        if b = true then rdE K mg te (fun _ _ _ _ => False) σ2 H3 fun y H4 => ∃ acc, H4 L = some (.lst acc) ∧ acc.length < sizeLine ∧ Nx (upd H4 L (.lst (acc ++ [y]))) else Nx H3) := by
  have A1e := A1.ext (same_upd (o := .lst []) hL)
  have kx0 : ∀ {F' H' : Hp} {O' : OW}, KX K mg io F' O' H' noX fun _ _ _ _ => False := fun {F' H' O'} x e σ' Fa Oa Ha c dx B r z => z
  obtain ⟨O1w, A1w, hO1⟩ := A1e.wipes vs
  have T1 : Tp O H F1 O1w (upd H1 L (.lst [])) (fun b => b = L) := ⟨fun b e => by
    subst e
    refine ⟨A1.si.freeF hL, ?_, _, upd_same⟩
    cases z : O1w b with
    | none => rfl
    | some i =>
      have q := hO1 b i z
      rw [A1.si.freeO hL] at q
      exact (nomatch q), fun b e => by subst e; exact A1.mv.back (.inl hL)⟩
  refine ⟨fun i m H' => m + i = items.length ∧ ∃ env' F' O' acc accV, At K mg io F O H env' (L2.wipe σ vs) F' O' H' ∧ (∀ j b, env'[j]? = some (some b) → j ∉ vs) ∧ Same F1 F' ∧ Tp O H F' O' H' (fun b => b = L) ∧
    H' L = some (.lst accV) ∧ Reps K mg F' acc accV ∧ lcD g tt te vs (items.drop i) acc env' Q,
    ⟨items.length, by omega, wipeD env1 vs, F1, O1w, [], [], A1w, fun j b hb => (wipeD_none vs env1 j b hb).2, Same.refl _, T1, upd_same, rfl, h1⟩, ?_⟩
  rintro i m H2 ⟨hm, env2, F2, O2, acc, accV, A2, hn2, e2, T2, hl2, r2, h2⟩
  by_cases hi : i < items.length
  · refine .inr ⟨T.go i H2 (e2.trans A2.si.sub) hi, fun H' => ∃ env' F' O' acc accV, At K mg io F O H env' (L2.wipe σ vs) F' O' H' ∧ (∀ j b, env'[j]? = some (some b) → j ∉ vs) ∧ Same F1 F' ∧ Tp O H F' O' H' (fun b => b = L) ∧
      H' L = some (.lst accV) ∧ Reps K mg F' acc accV ∧ lcD g tt te vs (items.drop (i + 1)) acc env' Q, fun H' q => ⟨m - 1, by omega, by omega, q⟩, ?_⟩
    intro x H3 y
    obtain ⟨d, F3, hd, B3, r3⟩ := T.take A2.si e2 hi y
    have A3 := A2.trans B3
    rw [drop_get hd] at h2
    -- a turn's end
    have again : ∀ {env5 : DEnv} {σ5 : L2.St} {F5 H5 : Hp} {O5 : OW} {acc' : List D} {accV' : List V}, At K mg io F3 O2 H3 env5 σ5 F5 O5 H5 → L2.wipe σ5 vs = L2.wipe σ vs → Reps K mg F5 acc' accV' →
        lcD g tt te vs (items.drop (i + 1)) acc' (wipeD env5 vs) Q → (H5 L = some (.lst accV) → (∃ env' F' O' acc accV, At K mg io F O H env' (L2.wipe σ vs) F' O' (upd H5 L (.lst accV')) ∧ (∀ j b, env'[j]? = some (some b) → j ∉ vs) ∧ Same F1 F' ∧
          Tp O H F' O' (upd H5 L (.lst accV')) (fun b => b = L) ∧ (upd H5 L (.lst accV')) L = some (.lst accV) ∧ Reps K mg F' acc accV ∧ lcD g tt te vs (items.drop (i + 1)) acc env' Q)) := by
      intro env5 σ5 F5 H5 O5 acc' accV' A5 hw r5 h5 hl5
      have A5' := A3.trans A5
      have T5 := T2.mv (B3.mv.trans A5.mv)
      obtain ⟨hF, hO, _⟩ := T5.t L rfl
      obtain ⟨O6, A6, hO6⟩ := A5'.wipes vs
      rw [hw] at A6
      have hO' : O6 L = none := by
        cases z : O6 L with
        | none => rfl
        | some i => have q := hO6 L i z; rw [hO] at q; exact (nomatch q)
      have neO : ∀ a i, O6 a = some i → a ≠ L := fun a i z e => by subst e; rw [hO'] at z; cases z
      refine ⟨wipeD env5 vs, F5, O6, acc', accV', ⟨⟨A6.mv.ff, fun a o z q => ?_, A6.mv.fn, A6.mv.on⟩, ⟨fun a o z => ?_, fun a i z => ?_, fun j b hb => ?_, A6.si.len⟩⟩, fun j b hb => (wipeD_none vs env5 j b hb).2, (e2.trans B3.mv.ff).trans A5.mv.ff,
        ⟨fun b e => by subst e; exact ⟨hF, hO', _, upd_same⟩, T5.nw⟩, upd_same, r5, h5⟩
      · have ne : a ≠ L := fun e => by
          subst e
          rcases T5.nw a rfl with z2 | ⟨k, z2⟩
          · rw [z] at z2; cases z2
          · rw [q] at z2; cases z2
        rw [upd_ne ne]
        exact A6.mv.fr a o z q
      · have ne : a ≠ L := fun e => by subst e; rw [hF] at z; cases z
        rw [upd_ne ne]
        exact A6.si.sub a o z
      · rw [upd_ne (neO a i z)]
        exact A6.si.own a i z
      · obtain ⟨w, g1, g2, g3⟩ := A6.si.slot j b hb
        exact ⟨w, g1, g2.mono (fun _ _ x => x) (fun a o p z => by rw [upd_ne (neO a j p)]; exact z) (fun _ x => x), g3⟩
    refine ⟨io, env2, F3, O2, d, _, A3.si, r3, h2, ?_⟩
    intro env4 σ4 O4 A4 hag h4
    have hw4 : L2.wipe σ4 vs = L2.wipe σ vs := (hag vs hsl).trans (wipe_in fun _ z => z)
    refine ⟨hw4, io, env4, F3, O4, _, noX, A4.si, h4, ?_, kx0⟩
    intro b env5 F5 O5 H5 A5 h5
    have A45 := A4.trans A5
    have T3 := T2.mv B3.mv
    have l3 : H3 L = some (.lst accV) := B3.mv.fr L _ hl2 (T2.t L rfl).2.1
    have l5 : H5 L = some (.lst accV) := A45.mv.fr L _ l3 (T3.t L rfl).2.1
    cases b with
    | false =>
      refine iteF ?_
      have z := again A45 hw4 (Reps.mono (B3.mv.ff.trans A45.mv.ff) r2) h5 l5
      rw [upd_self l5] at z
      exact z
    | true =>
      refine iteT ⟨io, env5, F5, O5, _, noX, A5.si, h5, ?_, kx0⟩
      intro y' n env6 F6 O6 H6 w P A6 T6 r6 h6
      have A6' := A6.frz T6
      have A46 := A45.trans A6'
      have l6 : H6 L = some (.lst accV) := A46.mv.fr L _ l3 (T3.t L rfl).2.1
      have r7 := Reps.mono (B3.mv.ff.trans A46.mv.ff) r2
      exact ⟨accV, l6, by rw [r2.length]; exact h6.1, again A46 hw4 (Reps.append r7 (Reps.one (A6.frz_rep r6))) h6.2 l6⟩
  · refine .inl ⟨T.stop i H2 (e2.trans A2.si.sub) (by omega), ?_⟩
    rw [List.drop_of_length_le (by omega)] at h2
    exact kQ (.lst acc) 1 env2 F2 O2 H2 (.ref L) (fun b => b = L) ⟨A2.mv, A2.si.unwipe hn2⟩ T2 (NewL.own (o := .lst accV) r2 hl2) h2
theorem lc_read {K : PySem.W.Frag} {mg : MG} {vs : List Nat} (hsl : ∀ i ∈ g.slots, i ∈ vs) : ∀ σ H Qh, rdE K mg (eLc it g tt te vs) W σ H Qh →
    tLc (rdI K mg it W) (rdG K mg g) (rdT K mg tt fun _ _ _ _ => False) (rdE K mg te fun _ _ _ _ => False) vs σ H Qh := by
  rintro σ H Qh ⟨io, env, F, O, Q, R, I, h, kQ, kX⟩
  refine ⟨io, env, F, O, _, _, I, h, ?_, kX⟩
  intro items env1 F1 O1 H1 J A1 T h1 L hL
  exact lc_rest hsl kQ A1 T h1 L hL
end
end DL
set_option Elab.async false
set_option linter.all false
set_option maxRecDepth 100000
/-! DLe: the data layer, part e: comprehensions' rules, promises on data, calls, defs. -/
namespace DL
open PySem L2 PySem.Spec PyProof.Rows

section
variable {X : Cx} {elt tg iter : Expr} {ifs : List Expr} {scope : Scope} {own : List (Str × Nat)} {vs : List Nat} {g : Tg} {it : ITd} {tt : TTd} {te : ET} {pos spos py : Pos} {i : Nat} {y : Str}
theorem de_lc (own : List (Str × Nat)) (hc : X.calm = true) (hN : X.N.Nodup) (hi : DI X tg iter it) (ok : BlkOk X.N X.env.scope scope own)
    (hg : ∀ (s : Shared) (H : Hp) (C : Addr) (cl : List (Str × Addr)) (fp : List Addr), DGt (X.blk s H scope (compEnvC scope cl C X.env) fp) tg g)
    (ht : ∀ (s : Shared) (H : Hp) (C : Addr) (cl : List (Str × Addr)) (fp : List Addr), DPTs (X.blk s H scope (compEnvC scope cl C X.env) fp) ifs tt)
    (he : ∀ (s : Shared) (H : Hp) (C : Addr) (cl : List (Str × Addr)) (fp : List Addr), DE (X.blk s H scope (compEnvC scope cl C X.env) fp) elt te)
    (hv : own.map (·.2) = vs := by rfl) (hsl : ∀ i ∈ g.slots, i ∈ vs := by decide) (hs : ∀ x, foldedSetIterable iter X.env x = pure x := by intro _; rfl) : DE X (.ListComp elt [⟨tg, iter, ifs, 0⟩] scope pos) (eLc it g tt te vs) := by
  subst hv
  exact fun W tk => peI (pe_lc (g := rdG X.K X.mg g) (tt := rdT X.K X.mg tt fun _ _ _ _ => False) (te := rdE X.K X.mg te fun _ _ _ _ => False) hc hN (hi W tk) ok hg (fun s H C cl fp => ht s H C cl fp _ takes00) (fun s H C cl fp => he s H C cl fp _ takes00) hs) (lc_read hsl)
theorem ds_setLc (own : List (Str × Nat)) (hc : X.calm = true) (hN : X.N.Nodup) (hi : DI X tg iter it) (ok : BlkOk X.N X.env.scope scope own)
    (hg : ∀ (s : Shared) (H : Hp) (C : Addr) (cl : List (Str × Addr)) (fp : List Addr), DGt (X.blk s H scope (compEnvC scope cl C X.env) fp) tg g)
    (ht : ∀ (s : Shared) (H : Hp) (C : Addr) (cl : List (Str × Addr)) (fp : List Addr), DPTs (X.blk s H scope (compEnvC scope cl C X.env) fp) ifs tt)
    (he : ∀ (s : Shared) (H : Hp) (C : Addr) (cl : List (Str × Addr)) (fp : List Addr), DE (X.blk s H scope (compEnvC scope cl C X.env) fp) elt te)
    (hsw : swapsWith (.ListComp elt [⟨tg, iter, ifs, 0⟩] scope pos) (some (.Name y py)) spos.line X.env = pure true) (hy : X.N[i]? = some y := by rfl) (hyl : X.env.scope.names.lookup y = some .local := by rfl)
    (hv : own.map (·.2) = vs := by rfl) (hsl : ∀ i ∈ g.slots, i ∈ vs := by decide) (hs : ∀ x, foldedSetIterable iter X.env x = pure x := by intro _; rfl) : DS X (.Assign [.Name y py] (.ListComp elt [⟨tg, iter, ifs, 0⟩] scope pos) spos) (sdSet i (eLc it g tt te vs)) := by
  subst hv
  intro W tk
  refine psI (ps_setLc (g := rdG X.K X.mg g) (tt := rdT X.K X.mg tt fun _ _ _ _ => False) (te := rdE X.K X.mg te fun _ _ _ _ => False) hc hN hy hyl hsw (hi W tk) ok hg (fun s H C cl fp => ht s H C cl fp _ takes00) (fun s H C cl fp => he s H C cl fp _ takes00) hs) ?_
  rintro Dn σ H ⟨io, env, F, O, D, I, h, k1, k2, k3, k4, k5⟩
  refine lc_read (W := W) hsl σ H _ ⟨io, env, F, O, _, _, I, h, ?_, k5⟩
  intro d n env1 F1 O1 H1 v P A1 T1 r1 h1
  exact k1 _ _ _ _ _ (A1.set T1 r1) h1
end

/-! ### promises on data -/
structure DPost where
  rt : D → Nat → List D → Prop
  ex : Exc → List D → Prop
/-- what a def does on data: its arguments' data, what is wanted behind it (result, depth owned, the turned arguments' data) -/
abbrev DSp := List D → DPost → Prop
/-- none: an argument that is read; some n: one that may be turned, owned to depth n -/
abbrev Ms := List (Option Nat)
section
variable (K : PySem.W.Frag) (mg : MG)
def ArgR (F H : Hp) (O : OW) : Ms → Nat → List D → List V → Prop
  | [], _, ds, vs => ds = [] ∧ vs = []
  | none :: ms, i, ds, vs => ∃ d r v t, ds = d :: r ∧ vs = v :: t ∧ Rep K mg F d v ∧ ArgR F H O ms (i + 1) r t
  | some n :: ms, i, ds, vs => ∃ d r v t, ds = d :: r ∧ vs = v :: t ∧ RepO K mg F H n (fun a => O a = some i) d v ∧ ArgR F H O ms (i + 1) r t
def OutR (F H : Hp) (O : OW) (vs : List V) : Ms → Nat → List D → Prop
  | [], _, ds => ds = []
  | none :: ms, i, ds => OutR F H O vs ms (i + 1) ds
  | some n :: ms, i, ds => ∃ d r v, ds = d :: r ∧ vs[i]? = some v ∧ RepO K mg F H n (fun a => O a = some i) d v ∧ OutR F H O vs ms (i + 1) r
def OwnOk (F : Hp) (O : OW) (H : Hp) : Prop := ∀ a i, O a = some i → F a = none ∧ ∃ o, H a = some o
def spOf (ms : Ms) (S : DSp) : Sp := fun vs H Q E => ∃ F O ds post, Same F H ∧ OwnOk F O H ∧ ArgR K mg F H O ms 0 ds vs ∧ S ds post ∧
  (∀ d n outs F' O' H' v P, Mv F O H F' O' H' → Same F' H' → OwnOk F' O' H' → OutR K mg F' H' O' vs ms 0 outs → Tp O H F' O' H' P → RepO K mg F' H' n P d v → post.rt d n outs → Q v H') ∧
  (∀ x outs F' O' H' cls dx, Mv F O H F' O' H' → Same F' H' → OwnOk F' O' H' → OutR K mg F' H' O' vs ms 0 outs → XR K mg F' x cls dx → post.ex x outs → E cls dx H')
end
def env0 : Ms → List D → Nat → DEnv
  | none :: ms, d :: ds, n + 1 => some ⟨d, 0, false⟩ :: env0 ms ds n
  | some m :: ms, d :: ds, n + 1 => some ⟨d, m, true⟩ :: env0 ms ds n
  | _, _, 0 => []
  | _, _, n + 1 => none :: env0 [] [] n
def outs : Ms → Nat → DEnv → (List D → Prop) → Prop
  | [], _, _, k => k []
  | none :: ms, j, env, k => outs ms (j + 1) env k
  | some m :: ms, j, env, k => match gt env j with
    | some b => match Nat.beq b.n m, b.io with
      | true, true => outs ms (j + 1) env fun ds => k (b.d :: ds)
      | _, _ => False
    | none => False
def endsOf (ms : Ms) (post : DPost) : DEnds where
  nx := fun env => outs ms 0 env (post.rt .non 0)
  rt := fun d n env => outs ms 0 env (post.rt d n)
  ex := fun x env => outs ms 0 env (post.ex x)
section
variable {K : PySem.W.Frag} {mg : MG} {F H : Hp} {O : OW}
theorem ArgR.len : ∀ {ms : Ms} {j : Nat} {ds : List D} {vs : List V}, ArgR K mg F H O ms j ds vs → vs.length = ms.length ∧ ds.length = ms.length
  | [], _, _, _, ⟨h1, h2⟩ => by subst h1; subst h2; exact ⟨rfl, rfl⟩
  | none :: ms, j, _, _, ⟨d, r, v, t, h1, h2, _, h⟩ => by subst h1; subst h2; simp [ArgR.len h]
  | some n :: ms, j, _, _, ⟨d, r, v, t, h1, h2, _, h⟩ => by subst h1; subst h2; simp [ArgR.len h]
theorem env0_len : ∀ (ms : Ms) (ds : List D) (n : Nat), (env0 ms ds n).length = n
  | none :: ms, d :: ds, n + 1 => by simp [env0, env0_len]
  | some m :: ms, d :: ds, n + 1 => by simp [env0, env0_len]
  | [], _, 0 => by simp [env0]
  | _ :: _, [], 0 => by simp [env0]
  | none :: _, _ :: _, 0 => by simp [env0]
  | some _ :: _, _ :: _, 0 => by simp [env0]
  | [], _, n + 1 => by simp [env0, env0_len [] [] n]
  | none :: _, [], n + 1 => by simp [env0, env0_len [] [] n]
  | some _ :: _, [], n + 1 => by simp [env0, env0_len [] [] n]
theorem env0_none : ∀ (n i : Nat) (b : Bd), (env0 [] [] n)[i]? ≠ some (some b)
  | 0, i, b => by simp [env0]
  | n + 1, 0, b => by simp [env0]
  | n + 1, i + 1, b => by simpa [env0] using env0_none n i b
theorem env0_get : ∀ {ms : Ms} {j n i : Nat} {ds : List D} {vs : List V} {b : Bd}, ArgR K mg F H O ms j ds vs → (env0 ms ds n)[i]? = some (some b) → ∃ v, vs[i]? = some v ∧ RepO K mg F H b.n (fun a => O a = some (j + i)) b.d v
  | [], j, n, i, _, _, b, ⟨h1, h2⟩, h => by subst h1; exact absurd h (env0_none n i b)
  | none :: ms, j, 0, i, _, _, b, ⟨d, r, v, t, h1, h2, h3, h4⟩, h => by subst h1; simp [env0] at h
  | some _ :: ms, j, 0, i, _, _, b, ⟨d, r, v, t, h1, h2, h3, h4⟩, h => by subst h1; simp [env0] at h
  | none :: ms, j, n + 1, 0, _, _, b, ⟨d, r, v, t, h1, h2, h3, h4⟩, h => by
    subst h1; subst h2
    have e : b = ⟨d, 0, false⟩ := by simpa [env0] using h.symm
    subst e
    exact ⟨v, rfl, h3⟩
  | some m :: ms, j, n + 1, 0, _, _, b, ⟨d, r, v, t, h1, h2, h3, h4⟩, h => by
    subst h1; subst h2
    have e : b = ⟨d, m, true⟩ := by simpa [env0] using h.symm
    subst e
    exact ⟨v, rfl, h3⟩
  | none :: ms, j, n + 1, i + 1, _, _, b, ⟨d, r, v, t, h1, h2, h3, h4⟩, h => by
    subst h1; subst h2
    obtain ⟨v', g1, g2⟩ := env0_get (i := i) (n := n) (b := b) h4 (by simpa [env0] using h)
    exact ⟨v', by simpa using g1, by rw [show j + (i + 1) = j + 1 + i by omega]; exact g2⟩
  | some m :: ms, j, n + 1, i + 1, _, _, b, ⟨d, r, v, t, h1, h2, h3, h4⟩, h => by
    subst h1; subst h2
    obtain ⟨v', g1, g2⟩ := env0_get (i := i) (n := n) (b := b) h4 (by simpa [env0] using h)
    exact ⟨v', by simpa using g1, by rw [show j + (i + 1) = j + 1 + i by omega]; exact g2⟩
theorem outs_get {σ : L2.St} {env : DEnv} {vs : List V} (I : SI K mg (fun i => vs[i]?) env σ F O H) : ∀ {ms : Ms} {j : Nat} {k : List D → Prop}, outs ms j env k → ∃ os, OutR K mg F H O vs ms j os ∧ k os
  | [], j, k, h => ⟨[], rfl, h⟩
  | none :: ms, j, k, h => outs_get I (ms := ms) h
  | some m :: ms, j, k, h => by
    unfold outs at h
    cases e : gt env j with
    | none => rw [e] at h; exact h.elim
    | some b =>
      rw [e] at h
      have h : (match Nat.beq b.n m, b.io with
        | true, true => outs ms (j + 1) env fun ds => k (b.d :: ds)
        | _, _ => False) := h
      cases e1 : Nat.beq b.n m with
      | false => rw [e1] at h; exact h.elim
      | true =>
        cases e2 : b.io with
        | false => rw [e1, e2] at h; exact h.elim
        | true =>
          rw [e1, e2] at h
          obtain ⟨os, g1, g2⟩ := outs_get I (ms := ms) h
          obtain ⟨v, s1, s2, s3⟩ := I.slot j b (gt_some e)
          have en := Nat.eq_of_beq_eq_true e1
          exact ⟨b.d :: os, ⟨b.d, os, v, rfl, s3 e2, en ▸ s2, g1⟩, g2⟩
end
section
variable {P : Program} {w : World} {K : PySem.W.Frag} {mg : MG} {base : Heap}
/-- THE RULE for a def: its body's transformer on data, and that the promise follows -/
theorem okD {x qual : Str} {st : Stmt} {f : Addr} {fd : FuncData} {N ps : List Str} {k : Nat} {ms : Ms} {S : DSp} {τ : SD} (Fu : Fun K x qual st f fd) (Sc : FnScope N ps (defScope st)) (hl : ms.length = ps.length)
    (hb : ∀ (cdv : Value) (A : Around) (outer : List Env) (s : Shared) (H : Hp) (E : XK), Room k (A.deeper (envOfC qual (defScope st) s.heap.objs.size f cdv)) →
      DSs (cxOf (L2.CX P w) P w K mg base N qual (defScope st) f cdv A outer s H E) (defBody st) τ)
    (hs : ∀ ds post, S ds post → ds.length = ms.length → τ (env0 ms ds N.length) (endsOf ms post)) : FnOk P w K mg base (L2.CX P w) (k + 1) f fd ps (spOf K mg ms S) := by
  refine Fu.okX Sc (fun vs H Q E ⟨F, O, ds, post, h1, h2, h3, h4, _⟩ => by rw [h3.len.1, hl]) (fun cdv A outer s H vs Q E hr h => ?_)
  obtain ⟨F, O, ds, post, h1, h2, h3, h4, k1, k2⟩ := h
  refine ⟨_, hb cdv A outer s H E hr (fun cls d _ H => E cls d H) (takes_of rfl rfl rfl rfl), ?_⟩
  have hpl : ps.length ≤ N.length := by
    have := congrArg List.length Sc.pre
    rw [List.length_take] at this
    omega
  have hvl : vs.length = ms.length := h3.len.1
  have I : SI K mg (fun i => vs[i]?) (env0 ms ds N.length) (L2.start N vs) F O H := ⟨h1, h2, fun i b hb => by
    obtain ⟨v, g1, g2⟩ := env0_get h3 hb
    refine ⟨v, ?_, by rw [Nat.zero_add] at g2; exact g2, fun _ => g1⟩
    unfold L2.start
    rw [List.getElem?_append_left (by rw [List.length_map]; exact (List.getElem?_eq_some_iff.mp g1).1), List.getElem?_map, g1]
    rfl, by
    rw [env0_len]
    unfold L2.start
    rw [List.length_append, List.length_map, List.length_replicate]
    omega⟩
  refine ⟨_, _, F, O, endsOf ms post, I, hs ds post h4 h3.len.2, fun env' σ' F' O' H' A q => ?_, fun d n env' σ' F' O' H' v P A T r q => ?_, fun _ _ _ _ _ _ q => q.elim, fun _ _ _ _ _ _ q => q.elim, fun x env' σ' F' O' H' cls dx A r q => ?_⟩
  · obtain ⟨os, g1, g2⟩ := outs_get A.si q
    exact k1 .non 0 os F' O' H' .non P0 A.mv A.si.sub A.si.own g1 Tp.none rfl g2
  · obtain ⟨os, g1, g2⟩ := outs_get A.si q
    exact k1 d n os F' O' H' v P A.mv A.si.sub A.si.own g1 T r g2
  · obtain ⟨os, g1, g2⟩ := outs_get A.si q
    exact k2 x os F' O' H' cls dx A.mv A.si.sub A.si.own g1 r g2
end

/-! ### calls -/
abbrev Ga := Sum D Nat
abbrev GAT := DEnv → (List Ga → DEnv → Prop) → QX → Prop
def gaNil : GAT := fun env Q _ => Q [] env
def gaVal (ta : ET) (tr : GAT) : GAT := fun env Q R => ta env (fun x _ env1 => tr env1 (fun xs env2 => Q (.inl x :: xs) env2) R) R
def gaIo (k : Nat) (tr : GAT) : GAT := fun env Q R => tr env (fun xs env2 => Q (.inr k :: xs) env2) R
/-- the arguments' values as they stand when all are reckoned -/
def GaR (K : PySem.W.Frag) (mg : MG) (F : Hp) (σ : L2.St) : List Ga → List V → Prop
  | [], vs => vs = []
  | .inl d :: gs, vs => ∃ v r, vs = v :: r ∧ Rep K mg F d v ∧ GaR K mg F σ gs r
  | .inr k :: gs, vs => ∃ v r, vs = v :: r ∧ σ[k]? = some (some v) ∧ GaR K mg F σ gs r
theorem GaR.mono {K : PySem.W.Frag} {mg : MG} {F F' : Hp} {σ : L2.St} (e : Same F F') : ∀ {gs : List Ga} {vs : List V}, GaR K mg F σ gs vs → GaR K mg F' σ gs vs
  | [], _, h => h
  | .inl d :: gs, _, ⟨v, r, h1, h2, h3⟩ => ⟨v, r, h1, Rep.mono e h2, GaR.mono e h3⟩
  | .inr k :: gs, _, ⟨v, r, h1, h2, h3⟩ => ⟨v, r, h1, h2, GaR.mono e h3⟩
theorem GaR.append {K : PySem.W.Frag} {mg : MG} {F : Hp} {σ : L2.St} : ∀ {gs : List Ga} {vs : List V} {ds : List D} {ws : List V}, GaR K mg F σ gs vs → Reps K mg F ds ws → GaR K mg F σ (gs ++ ds.map Sum.inl) (vs ++ ws)
  | [], _, [], _, h, g => by subst h; exact g
  | [], _, d :: ds, _, h, ⟨v, r, h1, h2, h3⟩ => by subst h; exact ⟨v, r, h1, h2, GaR.append (gs := []) (vs := []) rfl h3⟩
  | .inl d :: gs, _, _, ws, ⟨v, r, h1, h2, h3⟩, g => ⟨v, r ++ ws, by subst h1; rfl, h2, GaR.append h3 g⟩
  | .inr k :: gs, _, _, ws, ⟨v, r, h1, h2, h3⟩, g => ⟨v, r ++ ws, by subst h1; rfl, h2, GaR.append h3 g⟩
def rdGA (K : PySem.W.Frag) (mg : MG) (τ : GAT) (W : WX) : TA := fun σ H Qh => ∃ io env F O Q R, SI K mg io env σ F O H ∧ τ env Q R ∧ (∀ gs env' F' O' H' vs, At K mg io F O H env' σ F' O' H' → GaR K mg F' σ gs vs → Q gs env' → Qh vs H') ∧ KX K mg io F O H R W
def DGA (X : Cx) (es : List Expr) (τ : GAT) : Prop := ∀ W, Takes X W → PA X es (rdGA X.K X.mg τ W)
section
variable {X : Cx} {e : Expr} {es : List Expr} {te : ET} {t : GAT}
theorem dg_nil : DGA X [] gaNil := fun W tk => paI pa_nil fun σ H Qh ⟨io, env, F, O, Q, R, I, h, kQ, kX⟩ => kQ [] env F O H [] (At.start I) rfl h
theorem dg_val (ha : DE X e te) (hr : DGA X es t) (hs : starEach (e :: es) X.env = (false, eval e X.env) :: starEach es X.env := by rfl) : DGA X (e :: es) (gaVal te t) := by
  intro W tk
  refine paI (pa_cons (ha W tk) (hr W tk) hs) ?_
  rintro σ H Qh ⟨io, env, F, O, Q, R, I, h, kQ, kX⟩
  refine ⟨io, env, F, O, _, R, I, h, ?_, kX⟩
  intro x n env1 F1 O1 H1 v P A1 T1 r1 h1
  have A1' := A1.frz T1
  have r1' := A1.frz_rep r1
  refine ⟨io, env1, _, O1, _, R, A1'.si, h1, ?_, kX.mv A1'⟩
  intro ys env2 F2 O2 H2 vs A2 r2 h2
  exact kQ (.inl x :: ys) _ _ _ _ _ (A1'.trans A2) ⟨v, vs, rfl, Rep.mono A2.mv.ff r1', r2⟩ h2
/-- a local that the callee may turn -/
theorem dg_io (k : Nat) {x : Str} {pos : Pos} (hr : DGA X es t) (hs : starEach (.Name x pos :: es) X.env = (false, eval (.Name x pos) X.env) :: starEach es X.env := by rfl) (hN : X.N[k]? = some x := by rfl)
    (hv : Vis X.env.scope x := by first | exact Or.inl rfl | exact Or.inr (Or.inl rfl) | exact Or.inr (Or.inr rfl)) (hd : (x == ("__debug__" : Str)) = false := by decide) (hcd : (x == ("__classdict__" : Str)) = false := by decide)
    (hk : ∀ (env : DEnv) Q R, t env Q R → True := by intros; trivial) : DGA X (.Name x pos :: es) (fun env Q R => match gt env k with | some _ => gaIo k t env Q R | none => False) := by
  intro W tk
  refine paI (pa_cons (pe_var hN hv hd hcd) (hr W tk) hs) ?_
  rintro σ H Qh ⟨io, env, F, O, Q, R, I, h, kQ, kX⟩
  cases e : gt env k with
  | none => rw [e] at h; exact h.elim
  | some b =>
    rw [e] at h
    obtain ⟨v, h1, _, _⟩ := I.slot k b (gt_some e)
    refine ⟨v, h1, io, env, F, O, _, R, I, h, ?_, kX⟩
    intro ys env2 F2 O2 H2 vs A2 r2 h2
    exact kQ (.inr k :: ys) _ _ _ _ _ A2 ⟨v, vs, rfl, h1, r2⟩ h2
end
def argsD : Ms → List Ga → DEnv → (List D → List Nat → Prop) → Prop
  | [], [], _, k => k [] []
  | none :: ms, .inl d :: gs, env, k => argsD ms gs env fun ds ks => k (d :: ds) ks
  | some m :: ms, .inr j :: gs, env, k => match gt env j with
    | some b => match Nat.beq b.n m with
      | true => argsD ms gs env fun ds ks => k (b.d :: ds) (j :: ks)
      | false => False
    | none => False
  | _, _, _, _ => False
def hasN : List Nat → Nat → Bool
  | [], _ => false
  | x :: xs, n => Nat.beq x n || hasN xs n
def nodN : List Nat → Bool
  | [] => true
  | x :: xs => !hasN xs x && nodN xs
def putL : List Nat → List D → DEnv → DEnv
  | j :: js, d :: ds, env => putL js ds (match gt env j with | some b => env.set j (some { b with d := d }) | none => env)
  | _, _, env => env
def whenB : Bool → Prop → Prop
  | true, p => p
  | false, _ => False
def callD (ms : Ms) (S : DSp) (gs : List Ga) (env : DEnv) (Q : QE) (R : QX) : Prop :=
  argsD ms gs env fun ds ks => whenB (nodN ks) (S ds { rt := fun d n os => Q d n (putL ks os env), ex := fun x os => R x (putL ks os env) })
def eCall (ms : Ms) (S : DSp) (dd : List D) (t : GAT) : ET := fun env Q R => t env (fun gs env1 => callD ms S (gs ++ dd.map Sum.inl) env1 Q R) R
/-- the place of a slot among the arguments -/
def ixOf : List Ga → Nat → Nat → Option Nat
  | [], _, _ => none
  | .inl _ :: gs, j, k => ixOf gs (j + 1) k
  | .inr i :: gs, j, k => if i = k then some j else ixOf gs (j + 1) k
theorem ixOf_get : ∀ {gs : List Ga} {j k i : Nat}, ixOf gs j k = some i → ∃ n, i = j + n ∧ gs[n]? = some (.inr k)
  | [], _, _, _, h => nomatch h
  | .inl _ :: gs, j, k, i, h => by
    obtain ⟨n, h1, h2⟩ := ixOf_get (gs := gs) h
    exact ⟨n + 1, by omega, by simpa using h2⟩
  | .inr s :: gs, j, k, i, h => by
    unfold ixOf at h
    split at h
    · rename_i e
      subst e
      exact ⟨0, by have := Option.some.inj h; omega, rfl⟩
    · obtain ⟨n, h1, h2⟩ := ixOf_get (gs := gs) h
      exact ⟨n + 1, by omega, by simpa using h2⟩
theorem ixOf_none : ∀ {gs : List Ga} {j k : Nat}, ixOf gs j k = none → Sum.inr k ∉ gs
  | [], _, _, _ => by simp
  | .inl _ :: gs, j, k, h => by
    have := ixOf_none (gs := gs) h
    simp [this]
  | .inr s :: gs, j, k, h => by
    unfold ixOf at h
    split at h
    · cases h
    · rename_i e
      have := ixOf_none (gs := gs) h
      simp [this]
      intro q
      exact e q.symm
theorem hasN_mem : ∀ {l : List Nat} {n : Nat}, hasN l n = false → n ∉ l
  | [], _, _ => by simp
  | x :: xs, n, h => by
    have h : (Nat.beq x n || hasN xs n) = false := h
    rw [Bool.or_eq_false_iff] at h
    intro z
    rcases List.mem_cons.mp z with z | z
    · subst z; have := h.1; rw [Nat.beq_refl] at this; cases this
    · exact hasN_mem h.2 z
/-- the slots among the arguments, in order -/
def ksOf : List Ga → List Nat
  | [] => []
  | .inl _ :: gs => ksOf gs
  | .inr k :: gs => k :: ksOf gs
theorem mem_ksOf : ∀ {gs : List Ga} {k : Nat}, Sum.inr k ∈ gs ↔ k ∈ ksOf gs
  | [], _ => by simp [ksOf]
  | .inl _ :: gs, k => by simp [ksOf, mem_ksOf (gs := gs)]
  | .inr s :: gs, k => by simp [ksOf, mem_ksOf (gs := gs)]
section
variable {K : PySem.W.Frag} {mg : MG} {io : Nat → Option V} {env : DEnv} {σ : L2.St} {F H : Hp} {O : OW}
theorem argsD_get (I : SI K mg io env σ F O H) {Oc : OW} : ∀ {ms : Ms} {gs : List Ga} {j : Nat} {vs : List V} {k : List D → List Nat → Prop}, argsD ms gs env k → GaR K mg F σ gs vs → (∀ (i s : Nat) (a : Addr), gs[i]? = some (.inr s) → O a = some s → Oc a = some (j + i)) →
    ∃ ds, ArgR K mg F H Oc ms j ds vs ∧ k ds (ksOf gs) ∧ (∀ (i m : Nat), ms[i]? = some (some m) → ∃ (s : Nat) (b : Bd), gs[i]? = some (.inr s) ∧ gt env s = some b ∧ b.n = m)
  | [], [], j, vs, k, h, g, _ => ⟨[], ⟨rfl, g⟩, h, fun i m e => by simp at e⟩
  | none :: ms, .inl d :: gs, j, _, k, h, ⟨v, r, e, g1, g2⟩, hO => by
    subst e
    obtain ⟨ds, h1, h2, h3⟩ := argsD_get I (j := j + 1) (ms := ms) (gs := gs) h g2 (fun i s a hi => by
      have := hO (i + 1) s a (by simpa using hi)
      rw [show j + (i + 1) = j + 1 + i by omega] at this
      exact this)
    exact ⟨d :: ds, ⟨d, ds, v, r, rfl, rfl, g1, h1⟩, h2, fun i m e => by
      cases i with
      | zero => simp at e
      | succ i => simpa using h3 i m (by simpa using e)⟩
  | some m :: ms, .inr s :: gs, j, _, k, h, ⟨v, r, e, g1, g2⟩, hO => by
    subst e
    unfold argsD at h
    cases eb : gt env s with
    | none => rw [eb] at h; exact h.elim
    | some b =>
      rw [eb] at h
      have h : (match Nat.beq b.n m with
        | true => argsD ms gs env fun ds ks => k (b.d :: ds) (s :: ks)
        | false => False) := h
      cases en : Nat.beq b.n m with
      | false => rw [en] at h; exact h.elim
      | true =>
        rw [en] at h
        obtain ⟨ds, h1, h2, h3⟩ := argsD_get I (j := j + 1) (ms := ms) (gs := gs) h g2 (fun i s a hi => by
          have := hO (i + 1) s a (by simpa using hi)
          rw [show j + (i + 1) = j + 1 + i by omega] at this
          exact this)
        obtain ⟨w, s1, s2, s3⟩ := I.slot s b (gt_some eb)
        have ew : w = v := by rw [g1] at s1; exact (Option.some.inj (Option.some.inj s1)).symm
        subst ew
        have en' := Nat.eq_of_beq_eq_true en
        refine ⟨b.d :: ds, ⟨b.d, ds, w, r, rfl, rfl, ?_, h1⟩, h2, fun i m' e => ?_⟩
        · rw [← en']
          exact s2.mono (fun _ _ x => x) (fun _ _ _ x => x) fun a x => by simpa using hO 0 s a rfl x
        · cases i with
          | zero => exact ⟨s, b, rfl, eb, en'.trans (by simpa using e)⟩
          | succ i => simpa using h3 i m' (by simpa using e)
  | [], .inl _ :: _, _, _, _, h, _, _ => h.elim
  | [], .inr _ :: _, _, _, _, h, _, _ => h.elim
  | none :: _, [], _, _, _, h, _, _ => h.elim
  | some _ :: _, [], _, _, _, h, _, _ => h.elim
  | none :: _, .inr _ :: _, _, _, _, h, _, _ => h.elim
  | some _ :: _, .inl _ :: _, _, _, _, h, _, _ => h.elim
theorem gt_of : ∀ {env : DEnv} {i : Nat} {b : Bd}, env[i]? = some (some b) → gt env i = some b
  | [], _, _, h => by simp at h
  | x :: _, 0, b, h => by simpa [gt] using h
  | _ :: r, i + 1, b, h => gt_of (env := r) (i := i) (by simpa using h)
theorem putL_len : ∀ (ks : List Nat) (os : List D) (env : DEnv), (putL ks os env).length = env.length
  | [], _, _ => rfl
  | _ :: _, [], _ => rfl
  | j :: js, d :: ds, env => by
    unfold putL
    rw [putL_len js ds]
    split <;> simp
/-- what stands in a slot behind the call -/
theorem putL_get : ∀ {ks : List Nat} {os : List D} {env : DEnv} {s : Nat} {b : Bd}, ks.Nodup → os.length = ks.length → (putL ks os env)[s]? = some (some b) → (s ∉ ks ∧ env[s]? = some (some b)) ∨ (∃ (i : Nat) (d : D) (b0 : Bd), ks[i]? = some s ∧ os[i]? = some d ∧ env[s]? = some (some b0) ∧ b = { b0 with d := d })
  | [], [], env, s, b, _, _, h => .inl ⟨by simp, h⟩
  | j :: js, d :: ds, env, s, b, nd, hl, h => by
    unfold putL at h
    have nd' := List.nodup_cons.mp nd
    rcases putL_get (ks := js) (os := ds) nd'.2 (by simpa using hl) h with ⟨h1, h2⟩ | ⟨i, d', b0, h1, h2, h3, h4⟩
    · by_cases e : s = j
      · subst e
        cases eb : gt env s with
        | none =>
          rw [eb] at h2
          have := gt_of h2
          rw [eb] at this; cases this
        | some b1 =>
          rw [eb] at h2
          have hs : s < env.length := (List.getElem?_eq_some_iff.mp (gt_some eb)).1
          rw [List.getElem?_set_self hs] at h2
          exact .inr ⟨0, d, b1, rfl, rfl, gt_some eb, (Option.some.inj (Option.some.inj h2)).symm⟩
      · refine .inl ⟨by simp [e, h1], ?_⟩
        revert h2
        split
        · intro h2
          rw [List.getElem?_set_ne (fun z => e z.symm)] at h2
          exact h2
        · exact fun h2 => h2
    · have e : s ≠ j := fun e => by
        subst e
        exact nd'.1 (List.mem_of_getElem? h1)
      refine .inr ⟨i + 1, d', b0, by simpa using h1, by simpa using h2, ?_, h4⟩
      revert h3
      split
      · intro h3
        rw [List.getElem?_set_ne (fun z => e z.symm)] at h3
        exact h3
      · exact fun h3 => h3
  | [], _ :: _, _, _, _, _, hl, _ => by simp at hl
  | _ :: _, [], _, _, _, _, hl, _ => by simp at hl
theorem nodN_nodup : ∀ {l : List Nat}, nodN l = true → l.Nodup
  | [], _ => List.nodup_nil
  | x :: xs, h => by
    have h : (!hasN xs x && nodN xs) = true := h
    rw [Bool.and_eq_true, Bool.not_eq_true'] at h
    exact List.nodup_cons.mpr ⟨hasN_mem h.1, nodN_nodup h.2⟩
end
end DL
set_option Elab.async false
set_option linter.all false
set_option maxRecDepth 100000
/-! DLf: the data layer, part f: a call keeps what the caller owns. -/
namespace DL
open PySem L2 PySem.Spec PyProof.Rows

theorem OutR.len {K : PySem.W.Frag} {mg : MG} {F H : Hp} {O : OW} {vs : List V} : ∀ {ms : Ms} {j : Nat} {os : List D} {ks : List Nat} {gs : List Ga} {env : DEnv} {k : List D → List Nat → Prop}, OutR K mg F H O vs ms j os → argsD ms gs env k → os.length = (ksOf gs).length
  | [], _, _, _, [], _, _, h, _ => by rw [show _ = [] from h]; rfl
  | [], _, _, _, .inl _ :: _, _, _, _, h => h.elim
  | [], _, _, _, .inr _ :: _, _, _, _, h => h.elim
  | none :: ms, j, os, ks, .inl d :: gs, env, k, h, g => OutR.len (ks := ks) (ms := ms) (gs := gs) h g
  | some m :: ms, j, os, ks, .inr s :: gs, env, k, ⟨d, r, v, e1, e2, e3, e4⟩, g => by
    subst e1
    unfold argsD at g
    cases eb : gt env s with
    | none => rw [eb] at g; exact g.elim
    | some b =>
      rw [eb] at g
      have g : (match Nat.beq b.n m with
        | true => argsD ms gs env fun ds ks => k (b.d :: ds) (s :: ks)
        | false => False) := g
      cases en : Nat.beq b.n m with
      | false => rw [en] at g; exact g.elim
      | true =>
        rw [en] at g
        simp [ksOf, OutR.len (ks := ks) (ms := ms) (gs := gs) e4 g]
  | none :: _, _, _, _, [], _, _, _, h => h.elim
  | some _ :: _, _, _, _, [], _, _, _, h => h.elim
  | none :: _, _, _, _, .inr _ :: _, _, _, _, h => h.elim
  | some _ :: _, _, _, _, .inl _ :: _, _, _, _, h => h.elim
/-- the i-th turned argument's data, its place -/
theorem OutR.get {K : PySem.W.Frag} {mg : MG} {F H : Hp} {O : OW} {vs : List V} {σ : L2.St} : ∀ {ms : Ms} {j : Nat} {os : List D} {gs : List Ga} {env : DEnv} {k : List D → List Nat → Prop} {i s : Nat} {d : D}, OutR K mg F H O vs ms j os → argsD ms gs env k →
    (ksOf gs)[i]? = some s → os[i]? = some d → ∃ (n m : Nat) (v : V) (b : Bd), gs[n]? = some (.inr s) ∧ vs[j + n]? = some v ∧ RepO K mg F H m (fun a => O a = some (j + n)) d v ∧ gt env s = some b ∧ b.n = m
  | [], _, _, [], _, _, _, _, _, h, _, q, _ => by simp [ksOf] at q
  | [], _, _, .inl _ :: _, _, _, _, _, _, _, h, _, _ => h.elim
  | [], _, _, .inr _ :: _, _, _, _, _, _, _, h, _, _ => h.elim
  | none :: ms, j, os, .inl d0 :: gs, env, k, i, s, d, h, g, q, q2 => by
    obtain ⟨n, m, v, b, h1, h2, h3, h4⟩ := OutR.get (σ := σ) (ms := ms) (gs := gs) h g q q2
    exact ⟨n + 1, m, v, b, by simpa using h1, by rw [show j + (n + 1) = j + 1 + n by omega]; exact h2, by rw [show j + (n + 1) = j + 1 + n by omega]; exact h3, h4⟩
  | some m0 :: ms, j, os, .inr s0 :: gs, env, k, i, s, d, ⟨d0, r, v, e1, e2, e3, e4⟩, g, q, q2 => by
    subst e1
    unfold argsD at g
    cases eb : gt env s0 with
    | none => rw [eb] at g; exact g.elim
    | some b =>
      rw [eb] at g
      have g : (match Nat.beq b.n m0 with
        | true => argsD ms gs env fun ds ks => k (b.d :: ds) (s0 :: ks)
        | false => False) := g
      cases en : Nat.beq b.n m0 with
      | false => rw [en] at g; exact g.elim
      | true =>
        rw [en] at g
        cases i with
        | zero =>
          have es : s0 = s := by simpa [ksOf] using q
          have ed : d0 = d := by simpa using q2
          subst es; subst ed
          exact ⟨0, m0, v, b, rfl, e2, e3, eb, Nat.eq_of_beq_eq_true en⟩
        | succ i =>
          obtain ⟨n, m, v', b', h1, h2, h3, h4⟩ := OutR.get (σ := σ) (ms := ms) (gs := gs) (i := i) e4 g (by simpa [ksOf] using q) (by simpa using q2)
          exact ⟨n + 1, m, v', b', by simpa using h1, by rw [show j + (n + 1) = j + 1 + n by omega]; exact h2, by rw [show j + (n + 1) = j + 1 + n by omega]; exact h3, h4⟩
  | none :: _, _, _, [], _, _, _, _, _, _, h, _, _ => h.elim
  | some _ :: _, _, _, [], _, _, _, _, _, _, h, _, _ => h.elim
  | none :: _, _, _, .inr _ :: _, _, _, _, _, _, _, h, _, _ => h.elim
  | some _ :: _, _, _, .inl _ :: _, _, _, _, _, _, _, h, _, _ => h.elim
theorem GaR.get {K : PySem.W.Frag} {mg : MG} {F : Hp} {σ : L2.St} : ∀ {gs : List Ga} {vs : List V} {n s : Nat}, GaR K mg F σ gs vs → gs[n]? = some (.inr s) → ∃ v, vs[n]? = some v ∧ σ[s]? = some (some v)
  | [], _, _, _, _, e => by simp at e
  | .inl d :: gs, _, 0, _, _, e => by simp at e
  | .inr k :: gs, _, 0, s, ⟨v, r, h1, h2, h3⟩, e => by
    subst h1
    have e : k = s := by simpa using e
    subst e
    exact ⟨v, rfl, h2⟩
  | .inl d :: gs, _, n + 1, s, ⟨v, r, h1, h2, h3⟩, e => by subst h1; simpa using GaR.get (n := n) h3 (by simpa using e)
  | .inr k :: gs, _, n + 1, s, ⟨v, r, h1, h2, h3⟩, e => by subst h1; simpa using GaR.get (n := n) h3 (by simpa using e)
theorem ixOf_has : ∀ {gs : List Ga} {j k n : Nat}, (ksOf gs).Nodup → gs[n]? = some (.inr k) → ixOf gs j k = some (j + n)
  | [], _, _, _, _, e => by simp at e
  | .inl d :: gs, j, k, 0, _, e => by simp at e
  | .inl d :: gs, j, k, n + 1, nd, e => by
    have h := ixOf_has (j := j + 1) (n := n) (gs := gs) nd (by simpa using e)
    rw [show j + (n + 1) = j + 1 + n by omega]
    exact h
  | .inr s :: gs, j, k, 0, nd, e => by
    have e : s = k := by simpa using e
    unfold ixOf
    rw [if_pos e]
    rfl
  | .inr s :: gs, j, k, n + 1, nd, e => by
    have nd' := List.nodup_cons.mp (show (s :: ksOf gs).Nodup from nd)
    have e' : gs[n]? = some (.inr k) := by simpa using e
    unfold ixOf
    rw [if_neg (fun z => nd'.1 (by rw [z]; exact mem_ksOf.mp (List.mem_of_getElem? e'))), ixOf_has (n := n) nd'.2 e', show j + 1 + n = j + (n + 1) by omega]
/-- who owns what behind a call -/
def backO (gs : List Ga) (O1 O' : OW) : OW := fun a => match O' a with
  | some i => match gs[i]? with
    | some (.inr k) => some k
    | _ => none
  | none => match O1 a with
    | some k => match ixOf gs 0 k with
      | some _ => none
      | none => some k
    | none => none
theorem backO_some {gs : List Ga} {O1 O' : OW} {a : Addr} {k : Nat} (h : backO gs O1 O' a = some k) : (∃ i, O' a = some i ∧ gs[i]? = some (.inr k)) ∨ (O' a = none ∧ O1 a = some k ∧ ixOf gs 0 k = none) := by
  unfold backO at h
  cases e : O' a with
  | some i =>
    rw [e] at h
    have h : (match gs[i]? with
      | some (.inr k) => some k
      | _ => none) = some k := h
    split at h
    · rename_i k' eg
      have : k' = k := Option.some.inj h
      subst this
      exact .inl ⟨i, rfl, eg⟩
    · cases h
  | none =>
    rw [e] at h
    have h : (match O1 a with
      | some k => match ixOf gs 0 k with
        | some _ => none
        | none => some k
      | none => none) = some k := h
    cases e1 : O1 a with
    | none => rw [e1] at h; cases h
    | some k' =>
      rw [e1] at h
      have h : (match ixOf gs 0 k' with
        | some _ => none
        | none => some k') = some k := h
      cases e2 : ixOf gs 0 k' with
      | some _ => rw [e2] at h; cases h
      | none =>
        rw [e2] at h
        have : k' = k := Option.some.inj h
        subst this
        exact .inr ⟨rfl, rfl, e2⟩
theorem backO_in {gs : List Ga} {O1 O' : OW} {a : Addr} {i k : Nat} (h : O' a = some i) (g : gs[i]? = some (.inr k)) : backO gs O1 O' a = some k := by
  unfold backO
  rw [h]
  show (match gs[i]? with
      | some (.inr k) => some k
      | _ => none) = some k
  rw [g]
theorem backO_out {gs : List Ga} {O1 O' : OW} {a : Addr} {k : Nat} (h : O' a = none) (g : O1 a = some k) (e : ixOf gs 0 k = none) : backO gs O1 O' a = some k := by
  unfold backO
  rw [h, g]
  show (match ixOf gs 0 k with
        | some _ => none
        | none => some k) = some k
  rw [e]
section
variable {K : PySem.W.Frag} {mg : MG} {io : Nat → Option V} {env : DEnv} {σ : L2.St} {F F' H H' : Hp} {O O' : OW} {ms : Ms} {gs : List Ga} {vs : List V} {k : List D → List Nat → Prop} {os : List D}
/-- behind the callee: the caller's state -/
theorem call_back (I : SI K mg io env σ F O H) (hg : GaR K mg F σ gs vs) (ha : argsD ms gs env k) (nd : (ksOf gs).Nodup) (m : Mv F (fun a => (O a).bind (ixOf gs 0)) H F' O' H') (sub : Same F' H') (own : OwnOk F' O' H') (out : OutR K mg F' H' O' vs ms 0 os) :
    At K mg io F O H (putL (ksOf gs) os env) σ F' (backO gs O O') H' ∧ ∀ P, Tp (fun a => (O a).bind (ixOf gs 0)) H F' O' H' P → Tp O H F' (backO gs O O') H' P := by
  have oc : ∀ {a : Addr} {i : Nat}, (O a).bind (ixOf gs 0) = some i → ∃ k, O a = some k ∧ ixOf gs 0 k = some i := fun {a i} h => by
    cases e : O a with
    | none => rw [e] at h; cases h
    | some k => rw [e] at h; exact ⟨k, rfl, h⟩
  have oc0 : ∀ {a : Addr}, O a = none → (O a).bind (ixOf gs 0) = none := fun {a} e => by rw [e]; rfl
  have oc1 : ∀ {a : Addr} {k : Nat}, O a = some k → ixOf gs 0 k = none → (O a).bind (ixOf gs 0) = none := fun {a k} e q => by rw [e]; exact q
  have stay : ∀ {a : Addr} {k : Nat}, O a = some k → ixOf gs 0 k = none → O' a = none ∧ F' a = none ∧ ∀ o, H a = some o → H' a = some o := fun {a k} e q => by
    obtain ⟨f0, o, h0⟩ := I.own a k e
    refine ⟨?_, ?_, fun o h => m.fr a o h (oc1 e q)⟩
    · cases z : O' a with
      | none => rfl
      | some i =>
        rcases m.on a i z with z | ⟨j, z⟩
        · rw [h0] at z; cases z
        · rw [oc1 e q] at z; cases z
    · cases z : F' a with
      | none => rfl
      | some u =>
        rcases m.fn a u z with z | z | ⟨j, z⟩
        · rw [f0] at z; cases z
        · rw [h0] at z; cases z
        · rw [oc1 e q] at z; cases z
  have nw : ∀ {a : Addr}, (H a = none ∨ ∃ i, (O a).bind (ixOf gs 0) = some i) → H a = none ∨ ∃ i, O a = some i := fun {a} z => z.imp id fun ⟨i, z⟩ => let ⟨k, e, _⟩ := oc z; ⟨k, e⟩
  refine ⟨⟨⟨m.ff, fun a o h e => m.fr a o h (oc0 e), fun a o h => (m.fn a o h).imp id nw, fun a i h => ?_⟩, ⟨sub, fun a i h => ?_, fun s b hb => ?_, by rw [putL_len]; exact I.len⟩⟩, fun P T => ⟨fun a p => ?_, fun a p => nw (T.nw a p)⟩⟩
  · rcases backO_some h with ⟨j, h1, _⟩ | ⟨_, h1, _⟩
    · exact nw (m.on a j h1)
    · exact .inr ⟨i, h1⟩
  · rcases backO_some h with ⟨j, h1, _⟩ | ⟨_, h1, h2⟩
    · exact own a j h1
    · obtain ⟨_, s2, s3⟩ := stay h1 h2
      obtain ⟨_, o, h0⟩ := I.own a i h1
      exact ⟨s2, o, s3 o h0⟩
  · rcases putL_get nd (OutR.len (ks := []) out ha) hb with ⟨h1, h2⟩ | ⟨i, d, b0, h1, h2, h3, h4⟩
    · obtain ⟨v, s1, s2, s3⟩ := I.slot s b h2
      have hx : ixOf gs 0 s = none := by
        cases z : ixOf gs 0 s with
        | none => rfl
        | some i =>
          obtain ⟨n, _, z2⟩ := ixOf_get z
          exact absurd (mem_ksOf.mp (List.mem_of_getElem? z2)) h1
      exact ⟨v, s1, s2.mono m.ff (fun a o p q => (stay p hx).2.2 o q) fun a p => backO_out (stay p hx).1 p hx, s3⟩
    · obtain ⟨n, mm, v, b1, g1, g2, g3, g4, g5⟩ := OutR.get (σ := σ) out ha h1 h2
      rw [Nat.zero_add] at g2 g3
      obtain ⟨v', s1, s2⟩ := hg.get g1
      have ev : v' = v := by rw [g2] at s1; exact (Option.some.inj s1).symm
      subst ev
      have eb : b1 = b0 := by
        have := gt_of h3
        rw [g4] at this
        exact Option.some.inj this
      subst eb
      subst h4
      obtain ⟨w, t1, t2, t3⟩ := I.slot s b1 h3
      refine ⟨v', s2, ?_, fun z => ?_⟩
      · have g3' : RepO K mg F' H' b1.n (fun a => O' a = some n) d v' := by rw [g5]; exact g3
        exact g3'.mono (fun _ _ x => x) (fun _ _ _ x => x) fun a x => backO_in x g1
      · rw [s2] at t1
        have : v' = w := Option.some.inj (Option.some.inj t1)
        rw [this]
        exact t3 z
  · obtain ⟨t1, t2, t3⟩ := T.t a p
    refine ⟨t1, ?_, t3⟩
    cases z : backO gs O O' a with
    | none => rfl
    | some k =>
      rcases backO_some z with ⟨j, h1, _⟩ | ⟨_, h1, h2⟩
      · rw [t2] at h1; cases h1
      · rcases T.nw a p with q | ⟨j, q⟩
        · obtain ⟨_, o, h0⟩ := I.own a k h1
          rw [h0] at q; cases q
        · have q : (O a).bind (ixOf gs 0) = some j := q
          rw [oc1 h1 h2] at q; cases q
theorem argsD_ks : ∀ {ms : Ms} {gs : List Ga} {k : List D → List Nat → Prop}, argsD ms gs env k → ∃ ds, k ds (ksOf gs)
  | [], [], _, h => ⟨_, h⟩
  | none :: ms, .inl d :: gs, k, h => let ⟨ds, q⟩ := argsD_ks (ms := ms) (gs := gs) h; ⟨_, q⟩
  | some m :: ms, .inr s :: gs, k, h => by
    unfold argsD at h
    cases eb : gt env s with
    | none => rw [eb] at h; exact h.elim
    | some b =>
      rw [eb] at h
      have h : (match Nat.beq b.n m with
        | true => argsD ms gs env fun ds ks => k (b.d :: ds) (s :: ks)
        | false => False) := h
      cases en : Nat.beq b.n m with
      | false => rw [en] at h; exact h.elim
      | true =>
        rw [en] at h
        obtain ⟨ds, q⟩ := argsD_ks (ms := ms) (gs := gs) h
        exact ⟨_, q⟩
  | [], .inl _ :: _, _, h => h.elim
  | [], .inr _ :: _, _, h => h.elim
  | none :: _, [], _, h => h.elim
  | some _ :: _, [], _, h => h.elim
  | none :: _, .inr _ :: _, _, h => h.elim
  | some _ :: _, .inl _ :: _, _, h => h.elim
theorem call_read {S : DSp} {Q : QE} {R : QX} {Qh : VK} {W : WX} (I : SI K mg io env σ F O H) (hg : GaR K mg F σ gs vs) (h : callD ms S gs env Q R) (kQ : KE K mg io σ F O H Q Qh) (kX : KX K mg io F O H R W) : spOf K mg ms S vs H Qh (fun cls d H => W cls d σ H) := by
  unfold callD at h
  have nd0 : ∀ {ks : List Nat} {p : Prop}, whenB (nodN ks) p → ks.Nodup ∧ p := fun {ks p} w => by
    cases e : nodN ks with
    | false => rw [e] at w; exact w.elim
    | true => rw [e] at w; exact ⟨nodN_nodup e, w⟩
  have ndk : (ksOf gs).Nodup := let ⟨ds, w⟩ := argsD_ks h; (nd0 w).1
  have hx : ∀ (i s : Nat) (a : Addr), gs[i]? = some (.inr s) → O a = some s → (O a).bind (ixOf gs 0) = some (0 + i) := fun i s a e o => by
    rw [o]
    exact ixOf_has ndk e
  obtain ⟨ds, h1, h2, _⟩ := argsD_get (j := 0) (Oc := fun a => (O a).bind (ixOf gs 0)) I h hg hx
  refine ⟨F, fun a => (O a).bind (ixOf gs 0), ds, _, I.sub, fun a i z => ?_, h1, (nd0 h2).2, fun d n os F' O' H' v P m sub own out T r q => ?_, fun x os F' O' H' cls dx m sub own out r q => ?_⟩
  · have z : (O a).bind (ixOf gs 0) = some i := z
    cases e : O a with
    | none => rw [e] at z; cases z
    | some k => exact I.own a k e
  · obtain ⟨A, TT⟩ := call_back I hg h ndk m sub own out
    exact kQ d n _ F' _ H' v P A (TT P T) r q
  · obtain ⟨A, _⟩ := call_back I hg h ndk m sub own out
    exact kX x _ σ F' _ H' cls dx A r q
end
/-- default values without an address -/
def Dfl (dd : List D) (dvs : List V) : Prop := dd.all D.leaf = true ∧ dvs = dd.map vlf
theorem Dfl.reps {K : PySem.W.Frag} {mg : MG} {F : Hp} : ∀ {dd : List D} {dvs : List V}, Dfl dd dvs → Reps K mg F dd dvs
  | [], _, h => h.2
  | d :: dd, _, ⟨h1, h2⟩ => by
    subst h2
    have h1' : d.leaf = true ∧ dd.all D.leaf = true := by simpa using h1
    refine ⟨vlf d, dd.map vlf, rfl, ?_, Dfl.reps ⟨h1'.2, rfl⟩⟩
    have := h1'.1
    cases d <;> first | rfl | cases this
section
variable {X : Cx} {k : Nat} {f : Addr} {fd : FuncData} {ps : List Str} {ms : Ms} {S : DSp} {dd : List D} {dvs : List V} {ds : List Value} {x : Str} {p pos : Pos} {e : Expr} {es : List Expr} {t : GAT}
/-- f(e, ..), f a def of the module -/
theorem de_call (dd : List D) {dvs : List V} (Fn : FnOk X.prog X.w X.K X.mg X.base (L2.CX X.prog X.w) k f fd ps (spOf X.K X.mg ms S)) (hr : Room k X.A) (hm : X.mg x = some (.ref f)) (hk : PySem.W.keepIn X.K (.ref f) = true) (hb : Binds X.K fd ps ds) (hd : Vals dvs ds) (hdd : Dfl dd dvs)
    (ha : DGA X (e :: es) t) (hg : Gl X x := by rfl) (hdb : (x == ("__debug__" : Str)) = false := by decide) (he : starEach (e :: es) X.env = (false, eval e X.env) :: starEach es X.env := by rfl) (hpl : (backTo pos (starEach es X.env)).any (·.1) = false := by rfl) :
    DE X (.Call (.Name x p) (e :: es) [] pos) (eCall ms S dd t) := by
  intro W tk
  refine peI (pe_callSD (E := fun σ cls d H => W cls d σ H) Fn hr hg hm hk hb hd (fun σ => passAt tk σ) (ha W tk) hdb he hpl) ?_
  rintro σ H Qh ⟨io, env, F, O, Q, R, I, h, kQ, kX⟩
  refine ⟨io, env, F, O, _, R, I, h, ?_, kX⟩
  intro gs env1 F1 O1 H1 vs A1 r1 h1
  exact call_read A1.si (r1.append (hdd.reps)) h1 (kQ.mv A1) (kX.mv A1)
end
end DL
set_option Elab.async false
set_option linter.all false
set_option maxRecDepth 100000
/-! DLg: the data layer, part g: operators on data. -/
namespace DL
open PySem L2 PySem.Spec PyProof.Rows

theorem lstR {X : Cx} {pins : List (Addr × Obj)} {σ : L2.St} {H : Hp} {s : Shared} {a : Addr} {xs : List V} (I : Inv X pins σ H s) (h : Rd H a (.lst xs)) :
    ∃ (its : List Value) (n : Nat), Vals xs its ∧ xs.length ≤ sizeLine ∧ s.heap.get? a = some { cls := .type "list", data := .seq its.toArray n } := by
  obtain ⟨z, its, n, r, e⟩ := h.ok I.hok
  exact ⟨its, n, r, z, e⟩
/-! ### + -/
def rCatR : R2 := fun x y H Q => ∃ l b xs zs, x = .ref l ∧ y = .ref b ∧ Rd H l (.lst xs) ∧ Rd H b (.lst zs) ∧ xs.length + zs.length ≤ sizeLine ∧ ∀ p, H p = none → Q (.ref p) (upd H p (.lst (xs ++ zs)))
theorem op_catR {X : Cx} : OpR X (binaryOp .Add) rCatR := by
  intro pins s σ H x y v u Q I rx ry h
  obtain ⟨l, b, xs, zs, rfl, rfl, hH, hB, hz, q⟩ := h
  cases rx
  cases ry
  obtain ⟨its, n, r, z, e⟩ := lstR I hH
  obtain ⟨its2, n2, r2, z2, e2⟩ := lstR I hB
  have l1 := r.length
  have l2 := r2.length
  refine PySem.P.add_list e e2 ?_ (by rw [List.size_toArray, List.size_toArray]; omega)
  have ea : its.toArray ++ its2.toArray = (its ++ its2).toArray := by simp
  rw [ea]
  exact ⟨.ref _, _, I.lnew (t' := s.toks) (r.append r2) (by rw [List.length_append]; omega), rfl, q _ I.fresh⟩
def rAddD (K : PySem.W.Frag) : R2 := fun x y H Q => rI0 (fun i j => .int (i + j)) x y H Q ∨ (∃ i j, x = .str i ∧ y = .str j ∧ i.length + j.length ≤ sizeLine ∧ Q (.str (i ++ j)) H) ∨ rCatR x y H Q ∨ rCatA K x y H Q
theorem op_addD {X : Cx} : OpR X (binaryOp .Add) (rAddD X.K) := op_add.or (op_add_str.or (op_catR.or op_catA))
def odAdd : OT2
  | .int i, .int j, Q => Q (.int (i + j)) 0
  | .str s, .str t, Q => s.length + t.length ≤ sizeLine ∧ Q (.str (s ++ t)) 0
  | .lst a, .lst b, Q => a.length + b.length ≤ sizeLine ∧ Q (.lst (a ++ b)) 1
  | .tup a, .tup b, Q => a.length + b.length ≤ sizeLine ∧ Q (.tup (a ++ b)) 0
  | _, _, _ => False
theorem okAdd {X : Cx} : Ok2 X (rAddD X.K) odAdd := by
  intro F H x y v w Q Qh e r1 r2 h k
  cases x <;> cases y <;> first | exact (show False from h).elim | skip
  · cases (show v = _ from r1); cases (show w = _ from r2)
    exact .inl ⟨_, _, rfl, rfl, k.old (.int _) _ rfl h⟩
  · cases (show v = _ from r1); cases (show w = _ from r2)
    exact .inr (.inl ⟨_, _, rfl, rfl, h.1, k.old (.str _) _ rfl h.2⟩)
  · obtain ⟨a, vs, rfl, h1, h2⟩ := r1
    obtain ⟨b, ws, rfl, g1, g2⟩ := r2
    have e1 := h2.length
    have e2 := g2.length
    refine .inr (.inr (.inr ⟨a, b, vs, ws, rfl, rfl, .inl (.inl (e _ _ h1)), .inl (.inl (e _ _ g1)), by rw [e1, e2]; exact h.1, fun z => ?_, fun _ z => ?_, fun _ _ p hp => k.tup _ _ p hp (h2.append g2) h.2⟩))
    · subst z
      cases (show _ = [] from List.length_eq_zero_iff.mp e1.symm)
      exact k.old (.tup _) _ ⟨b, ws, rfl, g1, g2⟩ h.2
    · subst z
      cases (show _ = [] from List.length_eq_zero_iff.mp e2.symm)
      have q := h.2
      rw [List.append_nil] at q
      exact k.old (.tup _) _ ⟨a, vs, rfl, h1, h2⟩ q
  · obtain ⟨a, vs, rfl, h1, h2⟩ := r1
    obtain ⟨b, ws, rfl, g1, g2⟩ := r2
    have e1 := h2.length
    have e2 := g2.length
    exact .inr (.inr (.inl ⟨a, b, vs, ws, rfl, rfl, rd_mono e h1, rd_mono e g1, by rw [e1, e2]; exact h.1, fun p hp => k.new (.lst _) (.lst _) p hp (h2.append g2) h.2⟩))
/-! ### - * // % ** on ints -/
def odSub : OT2
  | .int i, .int j, Q => Q (.int (i - j)) 0
  | _, _, _ => False
theorem ok_rI {X : Cx} {C : Int → Int → Prop} {g : Int → Int → V} {od : OT2} (hf : ∀ x y Q, od x y Q → ∃ i j, x = .int i ∧ y = .int j ∧ C i j ∧ ∃ d : D, d.leaf = true ∧ g i j = vlf d ∧ Q d 0) : Ok2 X (rI C g) od := by
  intro F H x y v w Q Qh e r1 r2 h k
  obtain ⟨i, j, rfl, rfl, c, d, dl, eg, q⟩ := hf _ _ _ h
  cases (show v = _ from r1); cases (show w = _ from r2)
  exact ⟨i, j, rfl, rfl, c, k.old d _ (by rw [eg]; cases d <;> first | rfl | cases dl) q⟩
theorem okSub {X : Cx} : Ok2 X (rI (fun _ _ => True) fun i j => .int (i - j)) odSub := ok_rI fun x y Q h => by
  cases x <;> cases y <;> first | exact (show False from h).elim | skip
  exact ⟨_, _, rfl, rfl, trivial, .int _, rfl, rfl, h⟩
theorem op_subD {X : Cx} : OpR X (binaryOp .Sub) (rI (fun _ _ => True) fun i j => .int (i - j)) := fun pins s σ H x y v u Q I rx ry ⟨i, j, a, b, _, q⟩ => op_sub pins s σ H x y v u Q I rx ry ⟨i, j, a, b, q⟩
/-- one factor is small, or both together have less than a million bits -/
def MulOk (i j : Int) : Prop := CMul i j ∨ CMulW i j
theorem op_mulD {X : Cx} : OpR X (binaryOp .Mult) (rI MulOk fun i j => .int (i * j)) := fun pins s σ H x y v u Q I rx ry ⟨i, j, a, b, c, q⟩ => c.elim (fun c => op_mul pins s σ H x y v u Q I rx ry ⟨i, j, a, b, c, q⟩) fun c => op_mulW pins s σ H x y v u Q I rx ry ⟨i, j, a, b, c, q⟩
def rRepR : R2 := fun x y H Q => ∃ l k xs, x = .ref l ∧ y = .int k ∧ H l = some (.lst xs) ∧ -(2 ^ 63) ≤ k ∧ k < 2 ^ 63 ∧ xs.length * k.toNat ≤ sizeLine ∧ ∀ p, H p = none → Q (.ref p) (upd H p (.lst (List.replicate k.toNat xs).flatten))
def odMul : OT2
  | .int i, .int j, Q => MulOk i j ∧ Q (.int (i * j)) 0
  | _, _, _ => False
theorem okMul {X : Cx} : Ok2 X (rI MulOk fun i j => .int (i * j)) odMul := ok_rI fun x y Q h => by
  cases x <;> cases y <;> first | exact (show False from h).elim | skip
  exact ⟨_, _, rfl, rfl, h.1, .int _, rfl, rfl, h.2⟩
/-- // by a positive divisor below 10^40 -/
def odDiv : OT2
  | .int i, .int j, Q => (0 < j ∧ j < 10 ^ 40) ∧ Q (.int (i / j)) 0
  | _, _, _ => False
theorem okDiv {X : Cx} : Ok2 X (rI CDivW fun i j => .int (i / j)) odDiv := ok_rI fun x y Q h => by
  cases x <;> cases y <;> first | exact (show False from h).elim | skip
  obtain ⟨⟨h1, h2⟩, h⟩ := h
  refine ⟨_, _, rfl, rfl, wide_div (b := 200) h1 ?_ (by decide) (by decide), .int _, rfl, rfl, h⟩
  have e : (10 : Int) ^ 40 < 2 ^ 200 := by decide
  omega
def odMod : OT2
  | .int i, .int j, Q => 0 < j ∧ Q (.int (i % j)) 0
  | _, _, _ => False
theorem okMod {X : Cx} : Ok2 X (rI (fun _ j => 0 < j) fun i j => .int (i % j)) odMod := ok_rI fun x y Q h => by
  cases x <;> cases y <;> first | exact (show False from h).elim | skip
  exact ⟨_, _, rfl, rfl, h.1, .int _, rfl, rfl, h.2⟩
def odPow : OT2
  | .int i, .int j, Q => CPow i j ∧ Q (.int (i ^ j.toNat)) 0
  | _, _, _ => False
theorem okPow {X : Cx} : Ok2 X (rI CPow fun i j => .int (i ^ j.toNat)) odPow := ok_rI fun x y Q h => by
  cases x <;> cases y <;> first | exact (show False from h).elim | skip
  exact ⟨_, _, rfl, rfl, h.1, .int _, rfl, rfl, h.2⟩
def odNeg : OT1
  | .int i, Q => Q (.int (-i)) 0
  | _, _ => False
theorem okNeg {X : Cx} : Ok1 X (rU fun i => .int (-i)) odNeg := by
  intro F H x v Q Qh e r h k
  cases x <;> first | exact (show False from h).elim | skip
  cases (show v = _ from r)
  exact ⟨_, rfl, k.old (.int _) _ rfl h⟩
/-! ### order of ints, texts -/
def odCmp (p : Int → Int → Bool) (q : List Nat → List Nat → Bool) : OT2
  | .int i, .int j, Q => Q (.bl (p i j)) 0
  | .str s, .str t, Q => Q (.bl (q s.cps.toList t.cps.toList)) 0
  | _, _, _ => False
def rCmp (p : Int → Int → Bool) (q : List Nat → List Nat → Bool) : R2 := fun x y H Q => rI0 (fun i j => .bl (p i j)) x y H Q ∨ ∃ i j, x = .str i ∧ y = .str j ∧ Q (.bl (q i.cps.toList j.cps.toList)) H
theorem okCmp {X : Cx} {p : Int → Int → Bool} {q : List Nat → List Nat → Bool} : Ok2 X (rCmp p q) (odCmp p q) := by
  intro F H x y v w Q Qh e r1 r2 h k
  cases x <;> cases y <;> first | exact (show False from h).elim | skip
  · cases (show v = _ from r1); cases (show w = _ from r2)
    exact .inl ⟨_, _, rfl, rfl, k.old (.bl _) _ rfl h⟩
  · cases (show v = _ from r1); cases (show w = _ from r2)
    exact .inr ⟨_, _, rfl, rfl, k.old (.bl _) _ rfl h⟩
abbrev odLt : OT2 := odCmp (fun i j => decide (i < j)) fun s t => decide (s < t)
abbrev odLe : OT2 := odCmp (fun i j => decide (i ≤ j)) fun s t => !decide (t < s)
abbrev odGt : OT2 := odCmp (fun i j => decide (j < i)) fun s t => decide (t < s)
abbrev odGe : OT2 := odCmp (fun i j => decide (j ≤ i)) fun s t => !decide (s < t)
section
variable {X : Cx}
theorem op_ltD : OpR X (compareOp .Lt) (rCmp (fun i j => decide (i < j)) fun s t => decide (s < t)) := op_lt.or op_lt_str
theorem op_leD : OpR X (compareOp .LtE) (rCmp (fun i j => decide (i ≤ j)) fun s t => !decide (t < s)) := op_le.or op_le_str
theorem op_gtD : OpR X (compareOp .Gt) (rCmp (fun i j => decide (j < i)) fun s t => decide (t < s)) := op_gt.or op_gt_str
theorem op_geD : OpR X (compareOp .GtE) (rCmp (fun i j => decide (j ≤ i)) fun s t => !decide (s < t)) := op_ge.or op_ge_str
end
/-! ### == -/
mutual
def D.py : D → PyData
  | .non => .none
  | .bl b => .bool b
  | .int i => .int i
  | .str s => .str s
  | .tup ds => .tuple (D.pys ds)
  | .ktu ds => .tuple (D.pys ds)
  | .lst ds => .list (D.pys ds)
  | .dK _ => .dict []
  | .dT _ => .dict []
  | .obj _ _ => .dict []
  | .fn _ => .dict []
  | .hole => .dict []
def D.pys : List D → List PyData
  | [] => []
  | d :: ds => d.py :: D.pys ds
end
section
variable {K : PySem.W.Frag} {mg : MG} {H : Hp}
mutual
theorem dp_of : ∀ {d : D} {v : V}, Rep K mg H d v → d.py.canLay0 = true → Dp K H v d.py
  | .non, _, h, _ => by cases (show _ = V.non from h); exact .non
  | .bl b, _, h, _ => by cases (show _ = V.bl b from h); exact .bl b
  | .int i, _, h, _ => by cases (show _ = V.int i from h); exact .int i
  | .str s, _, h, _ => by cases (show _ = V.str s from h); exact .str s
  | .tup ds, _, ⟨a, vs, h1, h2, h3⟩, hc => by
    subst h1
    rw [D.py] at hc ⊢
    exact .tup (.inl (.inl h2)) (dps_of h3 (by simpa [PyData.canLay0] using hc))
  | .ktu ds, _, ⟨a, vs, h1, h2, h3⟩, hc => by
    subst h1
    rw [D.py] at hc ⊢
    exact .tup h2 (dps_of h3 (by simpa [PyData.canLay0] using hc))
  | .lst ds, _, ⟨a, vs, h1, h2, h3⟩, hc => by
    subst h1
    rw [D.py] at hc ⊢
    exact .lst (.inl h2) (dps_of h3 (by simpa [PyData.canLay0] using hc))
  | .dK _, _, _, hc => by simp [D.py, PyData.canLay0] at hc
  | .dT _, _, _, hc => by simp [D.py, PyData.canLay0] at hc
  | .obj _ _, _, _, hc => by simp [D.py, PyData.canLay0] at hc
  | .fn _, _, _, hc => by simp [D.py, PyData.canLay0] at hc
  | .hole, _, _, hc => by simp [D.py, PyData.canLay0] at hc
theorem dps_of : ∀ {ds : List D} {vs : List V}, Reps K mg H ds vs → PyData.canLayAll0 (D.pys ds) = true → DpAll K H vs (D.pys ds)
  | [], _, h, _ => by cases (show _ = ([] : List V) from h); exact .nil
  | d :: ds, _, ⟨v, r, h1, h2, h3⟩, hc => by
    subst h1
    have hc' : d.py.canLay0 = true ∧ PyData.canLayAll0 (D.pys ds) = true := by simpa [D.pys, PyData.canLayAll0] using hc
    exact .cons (dp_of h2 hc'.1) (dps_of h3 hc'.2)
end
end
/-- == of two things without an address, where it is plain -/
def leq : D → D → Option Bool
  | .non, .non => some true
  | .bl a, .bl b => some (decide (a = b))
  | .int i, .int j => some (decide (i = j))
  | .str s, .str t => some (decide (s = t))
  | .non, .int _ => some false | .int _, .non => some false | .non, .str _ => some false | .str _, .non => some false | .non, .bl _ => some false | .bl _, .non => some false
  | .int _, .str _ => some false | .str _, .int _ => some false | .bl _, .str _ => some false | .str _, .bl _ => some false
  | _, _ => none
def eqW (f : Bool → Bool) (x y : D) (Q : Qn) : Prop := match leq x y with
  | some b => Q (.bl (f b)) 0
  | none => SeqAt.shaped x.py = true ∧ SeqAt.shaped y.py = true ∧ Q (.bl (f (PyData.eqv x.py y.py))) 0
def odEq : OT2 := eqW fun b => b
def odNe : OT2 := eqW fun b => !b
theorem leq_scal {x y : D} {b : Bool} (h : leq x y = some b) : scal (vlf x) (vlf y) = true ∧ x.leaf = true ∧ y.leaf = true ∧ b = decide (vlf x = vlf y) := by
  cases x <;> cases y <;> first
    | cases h; done
    | (cases h; exact ⟨rfl, rfl, rfl, by simp [vlf]⟩)
theorem leaf_v {K : PySem.W.Frag} {mg : MG} {F : Hp} {d : D} {v : V} (hl : d.leaf = true) (r : Rep K mg F d v) : v = vlf d := by cases d <;> first | exact r | cases hl
section
variable {X : Cx}
def rEqA (K : PySem.W.Frag) : R2 := fun x y H Q => rEq x y H Q ∨ rEqD K x y H Q
def rNeA (K : PySem.W.Frag) : R2 := fun x y H Q => rNe x y H Q ∨ rNeD K x y H Q
theorem op_eqA (hu : X.A.units + 64 < cLine) : OpR X (compareOp .Eq) (rEqA X.K) := op_eq.or (op_eqD hu)
theorem op_neA (hu : X.A.units + 64 < cLine) : OpR X (compareOp .NotEq) (rNeA X.K) := op_ne.or (op_neD hu)
theorem okEq : Ok2 X (rEqA X.K) odEq := by
  intro F H x y v w Q Qh e r1 r2 h k
  unfold odEq eqW at h
  cases l : leq x y with
  | some b =>
    rw [l] at h
    obtain ⟨h1, h2, h3, h4⟩ := leq_scal l
    have e1 := leaf_v h2 r1
    have e2 := leaf_v h3 r2
    subst e1; subst e2; subst h4
    exact .inl ⟨h1, k.old (.bl _) _ rfl h⟩
  | none =>
    rw [l] at h
    obtain ⟨s1, s2, h⟩ := h
    exact .inr ⟨_, _, dp_of (Rep.mono e r1) (SeqAt.canLay_of_shaped s1), dp_of (Rep.mono e r2) (SeqAt.canLay_of_shaped s2), s1, s2, k.old (.bl _) _ rfl h⟩
theorem okNe : Ok2 X (rNeA X.K) odNe := by
  intro F H x y v w Q Qh e r1 r2 h k
  unfold odNe eqW at h
  cases l : leq x y with
  | some b =>
    rw [l] at h
    obtain ⟨h1, h2, h3, h4⟩ := leq_scal l
    have e1 := leaf_v h2 r1
    have e2 := leaf_v h3 r2
    subst e1; subst e2; subst h4
    exact .inl ⟨h1, k.old (.bl _) _ rfl h⟩
  | none =>
    rw [l] at h
    obtain ⟨s1, s2, h⟩ := h
    exact .inr ⟨_, _, dp_of (Rep.mono e r1) (SeqAt.canLay_of_shaped s1), dp_of (Rep.mono e r2) (SeqAt.canLay_of_shaped s2), s1, s2, k.old (.bl _) _ rfl h⟩
/-! is None -/
def D.isNon : D → Bool
  | .non => true
  | _ => false
def D.sound : D → Bool
  | .hole => false
  | _ => true
def odIsN : OT2
  | x, .non, Q => x.sound = true ∧ Q (.bl x.isNon) 0
  | _, _, _ => False
def odNotN : OT2
  | x, .non, Q => x.sound = true ∧ Q (.bl (!x.isNon)) 0
  | _, _, _ => False
theorem non_dec {K : PySem.W.Frag} {mg : MG} {F : Hp} {x : D} {v : V} (hs : x.sound = true) (r : Rep K mg F x v) : decide (v = .non) = x.isNon := by
  cases x with
  | hole => cases hs
  | non => cases (show v = _ from r); rfl
  | bl b => cases (show v = _ from r); rfl
  | int b => cases (show v = _ from r); rfl
  | str b => cases (show v = _ from r); rfl
  | tup b => obtain ⟨a, vs, rfl, _⟩ := r; rfl
  | lst b => obtain ⟨a, vs, rfl, _⟩ := r; rfl
  | dK b => obtain ⟨a, vs, rfl, _⟩ := r; rfl
  | dT b => obtain ⟨a, vs, rfl, _⟩ := r; rfl
  | obj c b => obtain ⟨a, C, dx, vs, rfl, _⟩ := r; rfl
  | fn b => obtain ⟨a, rfl, _⟩ := r; rfl
  | ktu b => obtain ⟨a, vs, rfl, _⟩ := r; rfl
theorem okIsN : Ok2 X (fun x y H Q => y = .non ∧ Q (.bl (decide (x = .non))) H) odIsN := by
  intro F H x y v w Q Qh e r1 r2 h k
  cases y <;> first | exact (show False from h).elim | skip
  cases (show w = _ from r2)
  refine ⟨rfl, ?_⟩
  rw [non_dec h.1 r1]
  exact k.old (.bl _) _ rfl h.2
theorem okNotN : Ok2 X (fun x y H Q => y = .non ∧ Q (.bl (!decide (x = .non))) H) odNotN := by
  intro F H x y v w Q Qh e r1 r2 h k
  cases y <;> first | exact (show False from h).elim | skip
  cases (show w = _ from r2)
  refine ⟨rfl, ?_⟩
  rw [non_dec h.1 r1]
  exact k.old (.bl _) _ rfl h.2
end
end DL
set_option Elab.async false
set_option linter.all false
set_option maxRecDepth 100000
/-! DLh: the data layer, part h: items, slices, in, len, isinstance, built-ins. -/
namespace DL
open PySem L2 PySem.Spec PyProof.Rows

/-! ### tables -/
def lookD {κ : Type} [DecidableEq κ] (kvs : List (κ × D)) (k : κ) : Option D := (kvs.find? fun kv => decide (kv.1 = k)).map (·.2)
def putD {κ : Type} [DecidableEq κ] (kvs : List (κ × D)) (k : κ) (v : D) : List (κ × D) :=
  if (kvs.any fun kv => decide (kv.1 = k)) = true then kvs.map (fun kv => if kv.1 = k then (kv.1, v) else kv) else kvs ++ [(k, v)]
theorem lookD_cons {κ : Type} [DecidableEq κ] {k k0 : κ} {d : D} {r : List (κ × D)} : lookD ((k0, d) :: r) k = if k0 = k then some d else lookD r k := by
  unfold lookD
  rw [List.find?_cons]
  by_cases e : k0 = k
  · simp [e]
  · simp [e]
section
variable {K : PySem.W.Frag} {mg : MG} {F : Hp}
theorem RepK.look : ∀ {kvs : List (Key × D)} {vs : List (Key × V)} (k : Key), RepK K mg F kvs vs → match lookD kvs k with | some d => ∃ v, valV vs k = some v ∧ Rep K mg F d v | none => valV vs k = none
  | [], _, k, h => by cases (show _ = ([] : List (Key × V)) from h); rfl
  | (k0, d) :: r, _, k, ⟨v, t, h1, h2, h3⟩ => by
    subst h1
    rw [lookD_cons]
    by_cases e : k0 = k
    · rw [if_pos e]
      exact ⟨v, valV_pos e, h2⟩
    · rw [if_neg e, valV_neg (p := (k0, v)) e]
      exact RepK.look k h3
theorem RepT.look : ∀ {kvs : List (List Key × D)} {vs : List (List Key × V)} (k : List Key), RepT K mg F kvs vs → match lookD kvs k with | some d => ∃ v, valV vs k = some v ∧ Rep K mg F d v | none => valV vs k = none
  | [], _, k, h => by cases (show _ = ([] : List (List Key × V)) from h); rfl
  | (k0, d) :: r, _, k, ⟨v, t, h1, h2, h3⟩ => by
    subst h1
    rw [lookD_cons]
    by_cases e : k0 = k
    · rw [if_pos e]
      exact ⟨v, valV_pos e, h2⟩
    · rw [if_neg e, valV_neg (p := (k0, v)) e]
      exact RepT.look k h3
end
def keyD : D → Option Key
  | .int i => some (.inl i)
  | .str s => some (.inr s)
  | _ => none
def keysD : List D → Option (List Key)
  | [] => some []
  | d :: ds => match keyD d, keysD ds with
    | some k, some ks => some (k :: ks)
    | _, _ => none
theorem keyD_v {K : PySem.W.Frag} {mg : MG} {F : Hp} {d : D} {k : Key} {v : V} (h : keyD d = some k) (r : Rep K mg F d v) : v = kV k := by
  cases d <;> first | cases h; done | skip
  · cases h; exact r
  · cases h; exact r
theorem keysD_v {K : PySem.W.Frag} {mg : MG} {F : Hp} : ∀ {ds : List D} {ks : List Key} {vs : List V}, keysD ds = some ks → Reps K mg F ds vs → vs = ks.map kV
  | [], ks, vs, h, r => by cases h; exact r
  | d :: ds, ks, vs, h, ⟨v, t, h1, h2, h3⟩ => by
    unfold keysD at h
    cases e1 : keyD d with
    | none => rw [e1] at h; cases h
    | some k =>
      cases e2 : keysD ds with
      | none => rw [e1, e2] at h; cases h
      | some ks' =>
        rw [e1, e2] at h
        cases h
        rw [h1, keyD_v e1 h2, keysD_v e2 h3]
        rfl

/-! ### items -/
/-- a place among n, by any sign -/
def ixI (n : Nat) : Int → Option Nat
  | .ofNat i => match Nat.blt i n with | true => some i | false => none
  | .negSucc i => match Nat.blt i n with | true => some (n - (i + 1)) | false => none
theorem ixI_eq (n : Nat) (i : Int) : ixI n i = ixN n i := by
  have hb : ∀ a b : Nat, Nat.blt a b = decide (a < b) := fun a b => by
    cases h : Nat.blt a b with
    | true => exact (decide_eq_true (Nat.blt_eq.mp h)).symm
    | false => exact (decide_eq_false (fun z => by rw [Nat.blt_eq.mpr z] at h; cases h)).symm
  cases i with
  | ofNat i =>
    show (match Nat.blt i n with | true => some i | false => none) = _
    unfold ixN
    rw [if_pos (by simp : (0 : Int) ≤ Int.ofNat i), hb]
    by_cases h : i < n
    · rw [decide_eq_true h, if_pos (by simpa using h)]; rfl
    · rw [decide_eq_false h, if_neg (by simpa using h)]
  | negSucc i =>
    show (match Nat.blt i n with | true => some (n - (i + 1)) | false => none) = _
    unfold ixN
    rw [if_neg (by have := Int.negSucc_lt_zero i; omega), hb]
    by_cases h : i < n
    · rw [decide_eq_true h, if_pos (by rw [Int.negSucc_eq]; omega)]
      show some (n - (i + 1)) = some _
      congr 1
      rw [Int.negSucc_eq]
      omega
    · rw [decide_eq_false h, if_neg (by rw [Int.negSucc_eq]; omega)]
def getI {α : Type} (xs : List α) (i : Int) : Option α := match ixI xs.length i with | some j => xs[j]? | none => none
theorem getI_eq {α : Type} (xs : List α) (i : Int) : getI xs i = L2.atI xs i := by
  unfold getI L2.atI
  rw [ixI_eq]
  cases ixN xs.length i <;> rfl
def someD (o : Option D) (Q : D → Prop) : Prop := match o with | some d => Q d | none => False
def odIx : OT2
  | .lst ds, .int i, Q => someD (getI ds i) fun d => Q d 0
  | .tup ds, .int i, Q => someD (getI ds i) fun d => Q d 0
  | .ktu ds, .int i, Q => someD (getI ds i) fun d => Q d 0
  | .str s, .int i, Q => s.length ≤ sizeLine ∧ match getI s.cps.toList i with | some c => Q (.str ⟨#[c]⟩) 0 | none => False
  | .dK kvs, k, Q => match keyD k with | some k => someD (lookD kvs k) fun d => Q d 0 | none => False
  | .dT kvs, .tup ks, Q => match keysD ks with | some k => someD (lookD kvs k) fun d => Q d 0 | none => False
  | _, _, _ => False
def rIxD : R2 := fun x y H Q => ∃ a v, x = .ref a ∧ DGet H a y (some v) ∧ Q v H
theorem ix_dict {X : Cx} (hu : X.A.units + 1 < cLine) : IxR X rIxD := by
  intro value slice pins s σ H x y v u Q I rx ry h hs
  obtain ⟨a, w, rfl, g, q⟩ := h
  cases rx
  have hT := dict_typeIs I g
  have h2 : wpAny (model X.prog X.w) X.A (getItem (.ref a) u) (EP X pins σ Q) X.xe s := d_getItem hu I g ry fun w' s3 I3 rw' => ⟨w, H, I3, rw', q⟩
  unfold subscriptTail
  refine wpAny_bind ?_
  rw [getitemInPython_of_ne hT.not_modules]
  refine wpAny_bind (wpAny_specialOf hT PySem.F.slot_dict_getitem.lookup ?_)
  have fin : wpAny (model X.prog X.w) X.A (subscripted slice false (.ref a) u) (fun r s₃ => wpAny (model X.prog X.w) X.A (letTemporaryGo value (.ref a) r >>= fun _ => pure r) (EP X pins σ Q) X.xe s₃) X.xe s := by
    rw [hs]
    exact wpAny_operating (wpAny_mono h2 (fun r s₃ h₃ => wpAny_bind (wpAny_letTemporaryGo (wpAny_pure h₃))) fun _ _ x => x)
  first
    | exact wpAny_pure (wpAny_bind fin)
    | exact wpAny_bind (wpAny_pure (wpAny_bind fin))
    | exact wpAny_bind fin
def rIxA (K : PySem.W.Frag) : R2 := fun x y H Q => rIx K x y H Q ∨ rIxD x y H Q
theorem ix_any {X : Cx} (hu : X.A.units + 1 < cLine) : IxR X (rIxA X.K) := ix_seq.or (ix_dict hu)
section
variable {K : PySem.W.Frag} {mg : MG} {F H : Hp}
theorem Reps.atI {ds : List D} {vs : List V} {i : Int} {d : D} (r : Reps K mg F ds vs) (h : L2.atI ds i = some d) : ∃ v, L2.atI vs i = some v ∧ Rep K mg F d v := by
  unfold L2.atI at h ⊢
  rw [r.length]
  cases e : ixN ds.length i with
  | none => rw [e] at h; cases h
  | some j => rw [e] at h; exact r.get h
theorem someD_of {o : Option D} {Q : D → Prop} (h : someD o Q) : ∃ d, o = some d ∧ Q d := by
  cases o with
  | none => exact h.elim
  | some d => exact ⟨d, rfl, h⟩
end
section
variable {K : PySem.W.Frag} {mg : MG} {F H : Hp} {n : Nat} {P : AP} {v : V}
theorem ROs.reps0 {P : AP} : ∀ {ds : List D} {vs : List V}, ROs (RepO K mg F H 0) P ds vs → Reps K mg F ds vs := fun h => ROs.reps (fun _ _ _ _ r => r) h
theorem sh_lst {ds : List D} (hn : n ≤ 1) (e : Same F H) (r : RepO K mg F H n P (.lst ds) v) : ∃ a vs, v = .ref a ∧ Rd H a (.lst vs) ∧ Reps K mg F ds vs := by
  match n, hn, r with
  | 0, _, ⟨a, vs, h1, h2, h3⟩ => exact ⟨a, vs, h1, rd_mono e h2, h3⟩
  | 1, _, ⟨a, vs, P', h1, h2, _, _, _, h6⟩ => exact ⟨a, vs, h1, .inl h2, h6.reps0⟩
theorem sh_dK {ds : List (Key × D)} (hn : n ≤ 1) (e : Same F H) (r : RepO K mg F H n P (.dK ds) v) : ∃ a vs, v = .ref a ∧ Rd H a (.dK vs) ∧ RepK K mg F ds vs := by
  match n, hn, r with
  | 0, _, ⟨a, vs, h1, h2, h3⟩ => exact ⟨a, vs, h1, rd_mono e h2, h3⟩
  | 1, _, ⟨a, vs, P', h1, h2, _, _, _, h6, h7⟩ => exact ⟨a, vs, h1, .inl h2, RepK.of h6 h7.reps0⟩
theorem sh_dT {ds : List (List Key × D)} (hn : n ≤ 1) (e : Same F H) (r : RepO K mg F H n P (.dT ds) v) : ∃ a vs, v = .ref a ∧ Rd H a (.dT vs) ∧ RepT K mg F ds vs := by
  match n, hn, r with
  | 0, _, ⟨a, vs, h1, h2, h3⟩ => exact ⟨a, vs, h1, rd_mono e h2, h3⟩
  | 1, _, ⟨a, vs, P', h1, h2, _, _, _, h6, h7⟩ => exact ⟨a, vs, h1, .inl h2, RepT.of h6 h7.reps0⟩
theorem sh_obj {c : Str} {ds : List (Str × D)} (hn : n ≤ 1) (e : Same F H) (r : RepO K mg F H n P (.obj c ds) v) : ∃ a C dx vs, v = .ref a ∧ H a = some (.ins C dx vs) ∧ mg c = some (.ref C) ∧ RepF K mg F ds vs := by
  match n, hn, r with
  | 0, _, ⟨a, C, dx, vs, h1, h2, h3, h4, h5⟩ => exact ⟨a, C, dx, vs, h1, e _ _ h2, h4, h5⟩
  | 1, _, ⟨a, C, dx, vs, P', h1, h2, _, hm, _, _, _, _, _, h6, h7⟩ => exact ⟨a, C, dx, vs, h1, h2, hm, RepF.of h6 h7.reps0⟩
theorem sh_tup {ds : List D} (r : RepO K mg F H n P (.tup ds) v) : Rep K mg F (.tup ds) v := by cases n <;> exact r
theorem sh_ktu {ds : List D} (r : RepO K mg F H n P (.ktu ds) v) : Rep K mg F (.ktu ds) v := by cases n <;> exact r
theorem sh_str {s : Str} (r : RepO K mg F H n P (.str s) v) : v = .str s := by cases n <;> exact r
end
theorem okIxO {K : PySem.W.Frag} {mg : MG} {F H : Hp} {x y : D} {v w : V} {n : Nat} {P : AP} {Q : Qn} {Qh : VK} (hn : n ≤ 1) (e : Same F H) (r1 : RepO K mg F H n P x v) (r2 : Rep K mg F y w) (h : odIx x y Q) (k : ∀ z u, Rep K mg F z u → Q z 0 → Qh u H) : rIxA K v w H Qh := by
  cases x with
  | lst ds =>
    cases y <;> first | exact (show False from h).elim | skip
    cases (show w = _ from r2)
    obtain ⟨a, vs, rfl, h1, h2⟩ := sh_lst hn e r1
    obtain ⟨d, hd, q⟩ := someD_of h
    rw [getI_eq] at hd
    obtain ⟨u, hu, ru⟩ := h2.atI hd
    exact .inl (.inl ⟨a, vs, _, u, rfl, rfl, .inl h1, hu, k d u ru q⟩)
  | tup ds =>
    cases y <;> first | exact (show False from h).elim | skip
    cases (show w = _ from r2)
    obtain ⟨a, vs, rfl, h1, h2⟩ := sh_tup r1
    obtain ⟨d, hd, q⟩ := someD_of h
    rw [getI_eq] at hd
    obtain ⟨u, hu, ru⟩ := h2.atI hd
    exact .inl (.inr (.inl ⟨a, vs, _, u, rfl, rfl, .inl (.inl (e _ _ h1)), hu, k d u ru q⟩))
  | ktu ds =>
    cases y <;> first | exact (show False from h).elim | skip
    cases (show w = _ from r2)
    obtain ⟨a, vs, rfl, h1, h2⟩ := sh_ktu r1
    obtain ⟨d, hd, q⟩ := someD_of h
    rw [getI_eq] at hd
    obtain ⟨u, hu, ru⟩ := h2.atI hd
    exact .inl (.inr (.inl ⟨a, vs, _, u, rfl, rfl, sqt_mono e h1, hu, k d u ru q⟩))
  | str s =>
    cases y <;> first | exact (show False from h).elim | skip
    cases (show w = _ from r2)
    cases (sh_str r1)
    obtain ⟨hl, h⟩ := h
    rename_i i
    rw [getI_eq] at h
    cases ec : L2.atI s.cps.toList i with
    | none => rw [ec] at h; exact h.elim
    | some c =>
      rw [ec] at h
      exact .inl (.inr (.inr ⟨s, i, c, rfl, rfl, hl, ec, k (.str _) _ rfl h⟩))
  | dK kvs =>
    obtain ⟨a, vs, rfl, h1, h2⟩ := sh_dK hn e r1
    have h : (match keyD y with | some k => someD (lookD kvs k) fun d => Q d 0 | none => False) := by cases y <;> exact h
    cases ek : keyD y with
    | none => rw [ek] at h; exact h.elim
    | some key =>
      rw [ek] at h
      obtain ⟨d, hd, q⟩ := someD_of h
      have l := RepK.look key h2
      rw [hd] at l
      obtain ⟨u, hu, ru⟩ := l
      have ew := keyD_v ek r2
      exact .inr ⟨a, u, rfl, .inl ⟨vs, key, h1, ew, hu.symm⟩, k d u ru q⟩
  | dT kvs =>
    cases y <;> first | exact (show False from h).elim | skip
    rename_i ks
    obtain ⟨a, vs, rfl, h1, h2⟩ := sh_dT hn e r1
    obtain ⟨b, ws, rfl, g1, g2⟩ := r2
    have h : (match keysD ks with | some k => someD (lookD kvs k) fun d => Q d 0 | none => False) := h
    cases ek : keysD ks with
    | none => rw [ek] at h; exact h.elim
    | some key =>
      rw [ek] at h
      obtain ⟨d, hd, q⟩ := someD_of h
      have l := RepT.look key h2
      rw [hd] at l
      obtain ⟨u, hu, ru⟩ := l
      have ew := keysD_v ek g2
      subst ew
      exact .inr ⟨a, u, rfl, .inr ⟨vs, key, b, h1, rfl, e _ _ g1, hu.symm⟩, k d u ru q⟩
  | _ => exact (show False from h).elim
theorem okIx {X : Cx} : Ok2 X (rIxA X.K) odIx := fun F H x y v w Q Qh e r1 r2 h k => okIxO (n := 0) (P := P0) (by decide) e r1 r2 h k.old
section
variable {X : Cx} {a b : Expr} {ta tb : ET} {pa pb : PUT} {pos : Pos}
theorem de_ix (hu : X.A.units + 1 < cLine) (ha : DE X a ta) (hb : DE X b tb) (hs : PlainIx b := by exact fun _ _ => rfl) : DE X (.Subscript a b pos) (tO2 odIx ta tb) := de_bin (fun _ _ x y => pe_ix (ix_any hu) x y hs) okIx ha hb
theorem pu_ix (hu : X.A.units + 1 < cLine) (ha : PU X a pa) (hb : PU X b pb) (hs : PlainIx b := by exact fun _ _ => rfl) : PU X (.Subscript a b pos) (tP2 odIx pa pb) := pu_bin (fun _ _ x y => pe_ix (ix_any hu) x y hs) okIx ha hb
/-- x[e], x a local: its data as they stand behind e; what is handed out stays -/
def eIxV (i : Nat) (tb : ET) : ET := fun env Q R => tb env (fun y _ env1 => match gt env1 i with
  | some b => odIx b.d y fun z _ => Q z 0 (env1.set i (some { b with n := min b.n 1 }))
  | none => False) R
end
/-- slot i's container alone stays owned, what is in it does not -/
theorem At.shallow {K : PySem.W.Frag} {mg : MG} {io : Nat → Option V} {env : DEnv} {σ : L2.St} {F F1 H H1 : Hp} {O O1 : OW} (A : At K mg io F O H env σ F1 O1 H1) {i : Nat} {b : Bd} (hb : env[i]? = some (some b)) :
    ∃ F2 O2, At K mg io F O H (env.set i (some { b with n := min b.n 1 })) σ F2 O2 H1 ∧ Same F1 F2 := by
  cases hn : b.n with
  | zero =>
    refine ⟨F1, O1, ⟨A.mv, A.si.sub, A.si.own, fun j c hc => ?_, by rw [List.length_set]; exact A.si.len⟩, Same.refl _⟩
    rcases getElem?_set_some hc with ⟨rfl, e, _⟩ | ⟨_, hc⟩
    · cases e
      obtain ⟨v, g1, g2, g3⟩ := A.si.slot i b hb
      rw [hn] at g2
      exact ⟨v, g1, g2, g3⟩
    · exact A.si.slot j c hc
  | succ n =>
    obtain ⟨v, g1, g2, g3⟩ := A.si.slot i b hb
    rw [hn] at g2
    obtain ⟨T, hT, one⟩ := g2.one
    let P : AP := fun a => O1 a = some i ∧ ¬ T a
    have sm : Same F1 (laid F1 P H1) := laid_same fun a o e _ => A.si.sub a o e
    classical
    refine ⟨laid F1 P H1, fun a => if P a then none else O1 a, ⟨⟨A.mv.ff.trans sm, A.mv.fr, fun a o e => ?_, fun a j e => ?_⟩, ⟨fun a o e => ?_, fun a j e => ?_, fun j c hc => ?_, by rw [List.length_set]; exact A.si.len⟩⟩, sm⟩
    · by_cases p : P a
      · exact .inr (A.mv.on a i p.1)
      · rw [laid_out p] at e; exact A.mv.fn a o e
    · by_cases p : P a
      · rw [if_pos p] at e; cases e
      · rw [if_neg p] at e; exact A.mv.on a j e
    · by_cases p : P a
      · rw [laid_in p] at e; exact e
      · rw [laid_out p] at e; exact A.si.sub a o e
    · by_cases p : P a
      · rw [if_pos p] at e; cases e
      · rw [if_neg p] at e
        rw [laid_out p]
        exact A.si.own a j e
    · rcases getElem?_set_some hc with ⟨rfl, e, _⟩ | ⟨ne, hc⟩
      · cases e
        refine ⟨v, g1, ?_, g3⟩
        have h1 : min (n + 1) 1 = 1 := by omega
        show RepO K mg (laid F1 P H1) H1 (min (n + 1) 1) _ b.d v
        rw [h1]
        refine (one (laid F1 P H1) sm fun a o p t e => by rw [laid_in ⟨p, t⟩]; exact e).mono (fun _ _ x => x) (fun _ _ _ x => x) fun a t => ?_
        show (if P a then none else O1 a) = some i
        rw [if_neg fun p : P a => p.2 t]
        exact hT a t
      · obtain ⟨w, q1, q2, q3⟩ := A.si.slot j c hc
        refine ⟨w, q1, q2.mono sm (fun _ _ _ x => x) (fun a x => ?_), q3⟩
        show (if P a then none else O1 a) = some j
        rw [if_neg fun p : P a => ne (by have := p.1; rw [x] at this; exact (Option.some.inj this).symm)]
        exact x
theorem de_ixv {X : Cx} {b : Expr} {tb : ET} {pos : Pos} (i : Nat) {x : Str} {pos' : Pos} (hu : X.A.units + 1 < cLine) (hb : DE X b tb) (hs : PlainIx b := by exact fun _ _ => rfl) (hN : X.N[i]? = some x := by rfl)
    (hv : Vis X.env.scope x := by first | exact Or.inl rfl | exact Or.inr (Or.inl rfl) | exact Or.inr (Or.inr rfl)) (hd : (x == ("__debug__" : Str)) = false := by decide) (hcd : (x == ("__classdict__" : Str)) = false := by decide) :
    DE X (.Subscript (.Name x pos') b pos) (fun env Q R => match gt env i with | some _ => eIxV i tb env Q R | none => False) := by
  intro W tk
  refine peI (pe_ix (ix_any hu) (pe_var hN hv hd hcd) (hb W tk) hs) ?_
  rintro σ H Qh ⟨io, env, F, O, Q, R, I, h, kQ, kX⟩
  cases e0 : gt env i with
  | none => rw [e0] at h; exact h.elim
  | some b0 =>
    rw [e0] at h
    obtain ⟨v, h1, _, _⟩ := I.slot i b0 (gt_some e0)
    refine ⟨v, h1, io, env, F, O, _, R, I, h, ?_, kX⟩
    intro y m env2 F2 O2 H2 w P2 A2 T2 r2 h2
    have A2' := A2.frz T2
    have ry := A2.frz_rep r2
    cases e : gt env2 i with
    | none => rw [e] at h2; exact h2.elim
    | some c =>
      rw [e] at h2
      have h2 : odIx c.d y fun z _ => Q z 0 (env2.set i (some { c with n := min c.n 1 })) := h2
      obtain ⟨v', g1, g2, _⟩ := A2'.si.slot i c (gt_some e)
      have ev : v' = v := by rw [h1] at g1; exact (Option.some.inj (Option.some.inj g1)).symm
      subst ev
      obtain ⟨F3, O3, A3, sm⟩ := A2'.shallow (gt_some e)
      obtain ⟨vv, s1, s2, _⟩ := A3.si.slot i { c with n := min c.n 1 } (by
        have hl : i < env2.length := (List.getElem?_eq_some_iff.mp (gt_some e)).1
        rw [List.getElem?_set_self hl])
      have evv : vv = v' := by rw [h1] at s1; exact (Option.some.inj (Option.some.inj s1)).symm
      subst evv
      exact okIxO (n := min c.n 1) (by omega) A3.si.sub s2 (Rep.mono sm ry) h2 fun z u r q => kQ z 0 _ F3 O3 H2 u P0 A3 Tp.none r q
end DL
set_option Elab.async false
set_option linter.all false
set_option maxRecDepth 100000
/-! DLi: the data layer, part i: in, len, slices, int, list, tuple, max, min; stores into lists and dicts; append. -/
namespace DL
open PySem L2 PySem.Spec PyProof.Rows

/-! ### in -/
def eqF : D → D → Bool
  | .non, .non => true
  | .bl a, .bl b => a == b
  | .bl a, .int b => (if a then 1 else 0) == b
  | .int a, .bl b => a == (if b then 1 else 0)
  | .int a, .int b => a == b
  | .str a, .str b => a == b
  | _, _ => false
def inF (x : D) (ds : List D) : Bool := ds.any fun y => eqF y x
def inSeq (f : Bool → Bool) (x : D) (ds : List D) (Q : Qn) : Prop := x.leaf = true ∧ ds.all D.leaf = true ∧ Q (.bl (f (inF x ds))) 0
def inW (f : Bool → Bool) : OT2
  | x, .lst ds, Q => inSeq f x ds Q
  | x, .tup ds, Q => inSeq f x ds Q
  | x, .ktu ds, Q => inSeq f x ds Q
  | .str s, .str z, Q => match s.cps with
    | ⟨[c]⟩ => Q (.bl (f (decide (c ∈ z.cps.toList)))) 0
    | _ => Q (.bl (f (!(Builtin.Str.occurrences z s 0 z.length 1).isEmpty))) 0
  | x, .dK kvs, Q => match keyD x with | some k => Q (.bl (f (lookD kvs k).isSome)) 0 | none => False
  | .tup ks, .dT kvs, Q => match keysD ks with | some k => Q (.bl (f (lookD kvs k).isSome)) 0 | none => False
  | _, _, _ => False
abbrev odIn : OT2 := inW fun b => b
abbrev odNotIn : OT2 := inW fun b => !b
theorem flat_leaf {K : PySem.W.Frag} {mg : MG} {F : Hp} {d : D} {v : V} (h : d.leaf = true) (r : Rep K mg F d v) : flatV v = true := by
  cases d <;> first | (cases (show v = _ from r); rfl) | cases h
theorem flat_all {K : PySem.W.Frag} {mg : MG} {F : Hp} : ∀ {ds : List D} {vs : List V}, ds.all D.leaf = true → Reps K mg F ds vs → vs.all flatV = true
  | [], _, _, h => by cases (show _ = ([] : List V) from h); rfl
  | d :: ds, _, hl, ⟨v, r, h1, h2, h3⟩ => by
    subst h1
    have hl' : d.leaf = true ∧ ds.all D.leaf = true := by simpa using hl
    rw [List.all_cons, flat_leaf hl'.1 h2, flat_all hl'.2 h3]
    rfl
theorem eqF_v {K : PySem.W.Frag} {mg : MG} {F : Hp} {d e : D} {v w : V} (hd : d.leaf = true) (he : e.leaf = true) (r : Rep K mg F d v) (q : Rep K mg F e w) : eqV v w = eqF d e := by
  cases leaf_v hd r
  cases leaf_v he q
  cases d <;> first | cases hd; done | (cases e <;> first | cases he; done | rfl)
theorem inF_v {K : PySem.W.Frag} {mg : MG} {F : Hp} {x : D} {v : V} (hx : x.leaf = true) (r : Rep K mg F x v) : ∀ {ds : List D} {vs : List V}, ds.all D.leaf = true → Reps K mg F ds vs → inV v vs = inF x ds
  | [], _, _, h => by cases (show _ = ([] : List V) from h); rfl
  | d :: ds, _, hl, ⟨w, t, h1, h2, h3⟩ => by
    subst h1
    have hl' : d.leaf = true ∧ ds.all D.leaf = true := by simpa using hl
    have ih := inF_v hx r hl'.2 h3
    unfold inV inF at ih ⊢
    rw [List.any_cons, List.any_cons, ih, eqF_v hl'.1 hx h2 r]
def rInA (K : PySem.W.Frag) : R2 := fun x y H Q => rIn K false x y H Q ∨ (∃ (c : Nat) (z : Str), x = .str ⟨#[c]⟩ ∧ y = .str z ∧ Q (.bl (decide (c ∈ z.cps.toList))) H) ∨
  (∃ i j, x = .str i ∧ y = .str j ∧ Q (.bl (!(Builtin.Str.occurrences j i 0 j.length 1).isEmpty)) H) ∨ ∃ a o, y = .ref a ∧ DGet H a x o ∧ Q (.bl o.isSome) H
def rNotInA (K : PySem.W.Frag) : R2 := fun x y H Q => rIn K true x y H Q ∨ (∃ (c : Nat) (z : Str), x = .str ⟨#[c]⟩ ∧ y = .str z ∧ Q (.bl (!decide (c ∈ z.cps.toList))) H) ∨
  (∃ i j, x = .str i ∧ y = .str j ∧ Q (.bl (!(!(Builtin.Str.occurrences j i 0 j.length 1).isEmpty))) H) ∨ ∃ a o, y = .ref a ∧ DGet H a x o ∧ Q (.bl (!o.isSome)) H
section
variable {X : Cx}
theorem op_inA (hu : X.A.units + 1 < cLine) : OpR X (compareOp .In) (rInA X.K) := op_in_seq.or (op_in_sign.or (op_in_str.or (fun pins s σ H x y v u Q I rx ry ⟨a, o, e, g, q⟩ => by
  subst e
  cases ry
  exact d_in hu I g rx fun s3 I3 => ⟨.bl o.isSome, H, I3, rfl, q⟩)))
theorem op_notInA (hu : X.A.units + 1 < cLine) : OpR X (compareOp .NotIn) (rNotInA X.K) := op_notIn_seq.or (op_notIn_sign.or (op_notin_str.or (fun pins s σ H x y v u Q I rx ry ⟨a, o, e, g, q⟩ => by
  subst e
  cases ry
  exact d_notIn hu I g rx fun s3 I3 => ⟨.bl (!o.isSome), H, I3, rfl, q⟩)))
theorem okInW {f : Bool → Bool} {r : R2} (h1 : ∀ {v w H Q}, (∃ p xs, w = .ref p ∧ (SqL X.K H p xs ∨ SqT X.K H p xs) ∧ flatV v = true ∧ xs.all flatV = true ∧ Q (.bl (f (inV v xs))) H) → r v w H Q)
    (h2 : ∀ {c : Nat} {z : Str} {H Q}, Q (.bl (f (decide (c ∈ z.cps.toList)))) H → r (.str ⟨#[c]⟩) (.str z) H Q) (h3 : ∀ {i j H Q}, Q (.bl (f (!(Builtin.Str.occurrences j i 0 j.length 1).isEmpty))) H → r (.str i) (.str j) H Q)
    (h4 : ∀ {x a o H Q}, DGet H a x o → Q (.bl (f o.isSome)) H → r x (.ref a) H Q) : Ok2 X r (inW f) := by
  intro F H x y v w Q Qh e r1 r2 h k
  have sq : ∀ {ds : List D} {vs : List V} {a : Addr}, Reps X.K X.mg F ds vs → (SqL X.K H a vs ∨ SqT X.K H a vs) → inSeq f x ds Q → r v (.ref a) H Qh := fun {ds vs a} rs hs ⟨l1, l2, q⟩ =>
    h1 ⟨a, vs, rfl, hs, flat_leaf l1 r1, flat_all l2 rs, by rw [inF_v l1 r1 l2 rs]; exact k.old (.bl _) _ rfl q⟩
  cases y with
  | lst ds =>
    obtain ⟨a, vs, rfl, g1, g2⟩ := r2
    exact sq g2 (.inl (.inl (rd_mono e g1))) (by cases x <;> exact h)
  | tup ds =>
    obtain ⟨a, vs, rfl, g1, g2⟩ := r2
    exact sq g2 (.inr (.inl (.inl (e _ _ g1)))) (by cases x <;> exact h)
  | ktu ds =>
    obtain ⟨a, vs, rfl, g1, g2⟩ := r2
    exact sq g2 (.inr (sqt_mono e g1)) (by cases x <;> exact h)
  | dK kvs =>
    obtain ⟨a, vs, rfl, g1, g2⟩ := r2
    have h : (match keyD x with | some k => Q (.bl (f (lookD kvs k).isSome)) 0 | none => False) := by cases x <;> exact h
    cases ek : keyD x with
    | none => rw [ek] at h; exact h.elim
    | some key =>
      rw [ek] at h
      have ev := keyD_v ek r1
      have l := RepK.look key g2
      have eo : (lookD kvs key).isSome = (valV vs key).isSome := by
        cases eq : lookD kvs key with
        | none => rw [eq] at l; rw [l]; rfl
        | some d => rw [eq] at l; obtain ⟨u, hu, _⟩ := l; rw [hu]; rfl
      have h : Q (.bl (f (lookD kvs key).isSome)) 0 := h
      rw [eo] at h
      exact h4 (o := valV vs key) (.inl ⟨vs, key, rd_mono e g1, ev, rfl⟩) (k.old (.bl _) _ rfl h)
  | dT kvs =>
    cases x <;> first | exact (show False from h).elim | skip
    rename_i ks
    obtain ⟨a, vs, rfl, g1, g2⟩ := r2
    obtain ⟨b, ws, rfl, t1, t2⟩ := r1
    have h : (match keysD ks with | some k => Q (.bl (f (lookD kvs k).isSome)) 0 | none => False) := h
    cases ek : keysD ks with
    | none => rw [ek] at h; exact h.elim
    | some key =>
      rw [ek] at h
      have ev := keysD_v ek t2
      subst ev
      have l := RepT.look key g2
      have eo : (lookD kvs key).isSome = (valV vs key).isSome := by
        cases eq : lookD kvs key with
        | none => rw [eq] at l; rw [l]; rfl
        | some d => rw [eq] at l; obtain ⟨u, hu, _⟩ := l; rw [hu]; rfl
      have h : Q (.bl (f (lookD kvs key).isSome)) 0 := h
      rw [eo] at h
      exact h4 (o := valV vs key) (.inr ⟨vs, key, b, rd_mono e g1, rfl, e _ _ t1, rfl⟩) (k.old (.bl _) _ rfl h)
  | str z =>
    cases x <;> first | exact (show False from h).elim | skip
    rename_i s
    cases (show v = _ from r1)
    cases (show w = _ from r2)
    obtain ⟨⟨l⟩⟩ := s
    match l, h with
    | [], h => exact h3 (k.old (.bl _) _ rfl h)
    | [c], h => exact h2 (k.old (.bl _) _ rfl h)
    | c :: c' :: l, h => exact h3 (k.old (.bl _) _ rfl h)
  | _ => cases x <;> exact (show False from h).elim
theorem okIn : Ok2 X (rInA X.K) odIn := okInW (fun h => .inl h) (fun q => .inr (.inl ⟨_, _, rfl, rfl, q⟩)) (fun q => .inr (.inr (.inl ⟨_, _, rfl, rfl, q⟩))) (fun g q => .inr (.inr (.inr ⟨_, _, rfl, g, q⟩)))
theorem okNotIn : Ok2 X (rNotInA X.K) odNotIn := okInW (fun h => .inl h) (fun q => .inr (.inl ⟨_, _, rfl, rfl, q⟩)) (fun q => .inr (.inr (.inl ⟨_, _, rfl, rfl, q⟩))) (fun g q => .inr (.inr (.inr ⟨_, _, rfl, g, q⟩)))
end
/-! ### len, int, max, min -/
def odLen : OTN
  | [.lst ds], Q => Q (.int ds.length) 0
  | [.tup ds], Q => Q (.int ds.length) 0
  | [.ktu ds], Q => Q (.int ds.length) 0
  | [.str s], Q => s.length ≤ sizeLine ∧ Q (.int s.length) 0
  | [.dK ds], Q => Q (.int ds.length) 0
  | _, _ => False
def rLenA (K : PySem.W.Frag) : List V → Hp → VK → Prop := fun xs H Q => (∃ x n, xs = [x] ∧ LenV K x H n ∧ Q (.int n) H) ∨ ∃ a kvs, xs = [V.ref a] ∧ Rd H a (.dK kvs) ∧ Q (.int kvs.length) H
section
variable {X : Cx}
theorem call_lenA : CallR X (.builtin "len") (rLenA X.K) := call_len.or (fun pins s σ H xs us Q I r h => by
  obtain ⟨a, kvs, rfl, ha, q⟩ := h
  obtain ⟨u, rfl, ru⟩ := vals1 r
  cases ru
  exact d_len I ha fun t s' I' => ⟨.int kvs.length, H, I', ⟨t, rfl⟩, q⟩)
theorem okLen : OkN X (rLenA X.K) odLen := by
  intro F H xs vs Q Qh e r h k
  match xs, h, r with
  | [], h, _ => exact (show False from h).elim
  | [x], h, r =>
    obtain ⟨v, _, rfl, r1, rfl⟩ := r
    cases x with
    | lst ds =>
      obtain ⟨a, ws, rfl, g1, g2⟩ := r1
      exact .inl ⟨_, ds.length, rfl, .inl ⟨ws, .inl (rd_mono e g1), g2.length.symm⟩, k.old (.int _) _ rfl h⟩
    | tup ds =>
      obtain ⟨a, ws, rfl, g1, g2⟩ := r1
      exact .inl ⟨_, ds.length, rfl, .inr ⟨ws, .inl (.inl (e _ _ g1)), g2.length.symm⟩, k.old (.int _) _ rfl h⟩
    | ktu ds =>
      obtain ⟨a, ws, rfl, g1, g2⟩ := r1
      exact .inl ⟨_, ds.length, rfl, .inr ⟨ws, sqt_mono e g1, g2.length.symm⟩, k.old (.int _) _ rfl h⟩
    | str s =>
      cases (show v = _ from r1)
      exact .inl ⟨_, s.length, rfl, ⟨h.1, rfl⟩, k.old (.int _) _ rfl h.2⟩
    | dK ds =>
      obtain ⟨a, ws, rfl, g1, g2⟩ := r1
      have el : ws.length = ds.length := by have := congrArg List.length (RepK.keys g2).1; simpa using this.symm
      exact .inr ⟨a, ws, rfl, rd_mono e g1, by rw [el]; exact k.old (.int _) _ rfl h⟩
    | _ => exact (show False from h).elim
  | x :: y :: l, h, _ => cases x <;> exact (show False from h).elim
def odInt : OTN
  | [.int i], Q => Q (.int i) 0
  | [.bl b], Q => Q (.int (if b then 1 else 0)) 0
  | _, _ => False
theorem okInt : OkN X (fun xs H Q => (∃ i, xs = [.int i] ∧ Q (.int i) H) ∨ ∃ k, xs = [.bl k] ∧ Q (.int (if k then 1 else 0)) H) odInt := by
  intro F H xs vs Q Qh e r h k
  match xs, h, r with
  | [], h, _ => exact (show False from h).elim
  | [x], h, r =>
    obtain ⟨v, _, rfl, r1, rfl⟩ := r
    cases x <;> first | exact (show False from h).elim | skip
    · cases (show v = _ from r1); exact .inr ⟨_, rfl, k.old (.int _) _ rfl h⟩
    · cases (show v = _ from r1); exact .inl ⟨_, rfl, k.old (.int _) _ rfl h⟩
  | x :: y :: l, h, _ => cases x <;> exact (show False from h).elim
def odMax2 : OTN
  | [.int i, .int j], Q => Q (.int (if j > i then j else i)) 0
  | _, _ => False
def odMin2 : OTN
  | [.int i, .int j], Q => Q (.int (if j < i then j else i)) 0
  | _, _ => False
theorem ok_int2 {g : Int → Int → Int} {od : OTN} (hf : ∀ xs Q, od xs Q → ∃ i j, xs = [.int i, .int j] ∧ Q (.int (g i j)) 0) : OkN X (fun xs H Q => ∃ i j, xs = [.int i, .int j] ∧ Q (.int (g i j)) H) od := by
  intro F H xs vs Q Qh e r h k
  obtain ⟨i, j, rfl, q⟩ := hf _ _ h
  obtain ⟨v, _, rfl, r1, w, _, rfl, r2, rfl⟩ := r
  cases (show v = _ from r1); cases (show w = _ from r2)
  exact ⟨i, j, rfl, k.old (.int _) _ rfl q⟩
theorem okMax2 : OkN X (fun xs H Q => ∃ i j, xs = [.int i, .int j] ∧ Q (.int (if j > i then j else i)) H) odMax2 := ok_int2 fun xs Q h => by
  match xs, h with
  | [.int i, .int j], h => exact ⟨i, j, rfl, h⟩
theorem okMin2 : OkN X (fun xs H Q => ∃ i j, xs = [.int i, .int j] ∧ Q (.int (if j < i then j else i)) H) odMin2 := ok_int2 fun xs Q h => by
  match xs, h with
  | [.int i, .int j], h => exact ⟨i, j, rfl, h⟩
/-! list(x), tuple(x) of lists and tuples, list of a dict -/
def odList : OTN
  | [.lst ds], Q => Q (.lst ds) 1
  | [.tup ds], Q => Q (.lst ds) 1
  | [.ktu ds], Q => Q (.lst ds) 1
  | [.dK kvs], Q => Q (.lst (kvs.map fun kv => match kv.1 with | .inl i => .int i | .inr s => .str s)) 1
  | _, _ => False
def odTuple : OTN
  | [.lst ds], Q => Q (.tup ds) 0
  | [.tup ds], Q => Q (.tup ds) 0
  | [.ktu ds], Q => Q (.ktu ds) 0
  | _, _ => False
def kD : Key → D
  | .inl i => .int i
  | .inr s => .str s
def rListA (K : PySem.W.Frag) : List V → Hp → VK → Prop := fun xs H Q => (∃ p ys, xs = [.ref p] ∧ (SqL K H p ys ∨ SqT K H p ys) ∧ ∀ l, H l = none → Q (.ref l) (upd H l (.lst ys))) ∨
  ∃ (a : Addr) (kvs : List (Key × V)), xs = [.ref a] ∧ Rd H a (.dK kvs) ∧ ∀ p, H p = none → Q (.ref p) (upd H p (.lst (kvs.map fun kv => kV kv.1)))
theorem call_listA (hc : X.calm = true) : CallR X (.type "list") (rListA X.K) := call_list_of.or (call_listD hc)
theorem reps_keys {K : PySem.W.Frag} {mg : MG} {F : Hp} : ∀ {kvs : List (Key × D)} {vs : List (Key × V)}, RepK K mg F kvs vs → Reps K mg F (kvs.map fun kv => match kv.1 with | .inl i => .int i | .inr s => .str s) (vs.map fun kv => kV kv.1)
  | [], _, h => by cases (show _ = ([] : List (Key × V)) from h); rfl
  | (.inl i, d) :: r, _, ⟨v, t, h1, h2, h3⟩ => by subst h1; exact ⟨_, _, rfl, rfl, reps_keys h3⟩
  | (.inr i, d) :: r, _, ⟨v, t, h1, h2, h3⟩ => by subst h1; exact ⟨_, _, rfl, rfl, reps_keys h3⟩
theorem okList : OkN X (rListA X.K) odList := by
  intro F H xs vs Q Qh e r h k
  match xs, h, r with
  | [], h, _ => exact (show False from h).elim
  | [x], h, r =>
    obtain ⟨v, _, rfl, r1, rfl⟩ := r
    cases x with
    | lst ds =>
      obtain ⟨a, ws, rfl, g1, g2⟩ := r1
      exact .inl ⟨a, ws, rfl, .inl (.inl (rd_mono e g1)), fun l hl => k.new (.lst _) (.lst _) l hl g2 h⟩
    | tup ds =>
      obtain ⟨a, ws, rfl, g1, g2⟩ := r1
      exact .inl ⟨a, ws, rfl, .inr (.inl (.inl (e _ _ g1))), fun l hl => k.new (.lst _) (.lst _) l hl g2 h⟩
    | ktu ds =>
      obtain ⟨a, ws, rfl, g1, g2⟩ := r1
      exact .inl ⟨a, ws, rfl, .inr (sqt_mono e g1), fun l hl => k.new (.lst _) (.lst _) l hl g2 h⟩
    | dK ds =>
      obtain ⟨a, ws, rfl, g1, g2⟩ := r1
      exact .inr ⟨a, ws, rfl, rd_mono e g1, fun l hl => k.new (.lst _) (.lst _) l hl (reps_keys g2) h⟩
    | _ => exact (show False from h).elim
  | x :: y :: l, h, _ => cases x <;> exact (show False from h).elim
theorem okTuple : OkN X (fun xs H Q => ∃ p ys, xs = [.ref p] ∧ ((SqL X.K H p ys ∧ ∀ l, H l = none → Q (.ref l) (upd H l (.tup ys))) ∨ (SqT X.K H p ys ∧ Q (.ref p) H))) odTuple := by
  intro F H xs vs Q Qh e r h k
  match xs, h, r with
  | [], h, _ => exact (show False from h).elim
  | [x], h, r =>
    obtain ⟨v, _, rfl, r1, rfl⟩ := r
    cases x with
    | lst ds =>
      obtain ⟨a, ws, rfl, g1, g2⟩ := r1
      exact ⟨a, ws, rfl, .inl ⟨.inl (rd_mono e g1), fun l hl => k.tup _ _ l hl g2 h⟩⟩
    | tup ds =>
      obtain ⟨a, ws, rfl, g1, g2⟩ := r1
      exact ⟨a, ws, rfl, .inr ⟨.inl (.inl (e _ _ g1)), k.old (.tup ds) _ ⟨a, ws, rfl, g1, g2⟩ h⟩⟩
    | ktu ds =>
      obtain ⟨a, ws, rfl, g1, g2⟩ := r1
      exact ⟨a, ws, rfl, .inr ⟨sqt_mono e g1, k.old (.ktu ds) _ ⟨a, ws, rfl, g1, g2⟩ h⟩⟩
    | _ => exact (show False from h).elim
  | x :: y :: l, h, _ => cases x <;> exact (show False from h).elim
end
/-! calls of built-ins by name -/
section
variable {X : Cx} {e : Expr} {es : List Expr} {t : AT} {pt : PAT} {r : List V → Hp → VK → Prop} {od : OTN} {id T : String} {x : Str} {p pos : Pos}
theorem de_blt (hc : CallR X (.builtin id) r) (k : OkN X r od) (hm : X.mg x = none) (hv : bootBuiltins x = some (.builtin id)) (ha : DA X (e :: es) t) (hg : Gl X x := by rfl) (hn : x ≠ "__name__" := by decide) (hdb : (x == ("__debug__" : Str)) = false := by decide)
    (he : starEach (e :: es) X.env = (false, eval e X.env) :: starEach es X.env := by rfl) (hpl : (backTo pos (starEach es X.env)).any (·.1) = false := by rfl) : DE X (.Call (.Name x p) (e :: es) [] pos) (tON od t) :=
  de_nary (fun _ h => pe_callB hc hg hm hv h hn hdb he hpl) k ha
theorem pu_blt (hc : CallR X (.builtin id) r) (k : OkN X r od) (hm : X.mg x = none) (hv : bootBuiltins x = some (.builtin id)) (ha : PUA X (e :: es) pt) (hg : Gl X x := by rfl) (hn : x ≠ "__name__" := by decide) (hdb : (x == ("__debug__" : Str)) = false := by decide)
    (he : starEach (e :: es) X.env = (false, eval e X.env) :: starEach es X.env := by rfl) (hpl : (backTo pos (starEach es X.env)).any (·.1) = false := by rfl) : PU X (.Call (.Name x p) (e :: es) [] pos) (tPN od pt) :=
  pu_nary (fun _ h => pe_callB hc hg hm hv h hn hdb he hpl) k ha
theorem de_ty (hc : CallR X (.type T) r) (k : OkN X r od) (hm : X.mg x = none) (hv : bootBuiltins x = some (.type T)) (ha : DA X (e :: es) t) (hg : Gl X x := by rfl) (hn : x ≠ "__name__" := by decide) (hdb : (x == ("__debug__" : Str)) = false := by decide)
    (he : starEach (e :: es) X.env = (false, eval e X.env) :: starEach es X.env := by rfl) (hpl : (backTo pos (starEach es X.env)).any (·.1) = false := by rfl) : DE X (.Call (.Name x p) (e :: es) [] pos) (tON od t) :=
  de_nary (fun _ h => pe_callTy hc hg hm hv h hn hdb he hpl) k ha
theorem pu_ty (hc : CallR X (.type T) r) (k : OkN X r od) (hm : X.mg x = none) (hv : bootBuiltins x = some (.type T)) (ha : PUA X (e :: es) pt) (hg : Gl X x := by rfl) (hn : x ≠ "__name__" := by decide) (hdb : (x == ("__debug__" : Str)) = false := by decide)
    (he : starEach (e :: es) X.env = (false, eval e X.env) :: starEach es X.env := by rfl) (hpl : (backTo pos (starEach es X.env)).any (·.1) = false := by rfl) : PU X (.Call (.Name x p) (e :: es) [] pos) (tPN od pt) :=
  pu_nary (fun _ h => pe_callTy hc hg hm hv h hn hdb he hpl) k ha
end
end DL
set_option Elab.async false
set_option linter.all false
set_option maxRecDepth 100000
/-! DLj: the data layer, part j: stores at a place. -/
namespace DL
open PySem L2 PySem.Spec PyProof.Rows

inductive Ac where
  | ix (i : Nat)
  | key (k : Key)
  | tky (k : List Key)
  | fld (f : Str)
def ixK {κ : Type} [DecidableEq κ] : List (κ × D) → κ → Option Nat
  | [], _ => none
  | (k0, _) :: r, k => if k0 = k then some 0 else match ixK r k with | some n => some (n + 1) | none => none
def at1 : Ac → D → Option D
  | .ix i, .lst ds => ds[i]?
  | .key k, .dK kvs => lookD kvs k
  | .tky k, .dT kvs => lookD kvs k
  | .fld f, .obj _ fs => lookD fs f
  | _, _ => none
def set1 : Ac → D → D → D
  | .ix i, x, .lst ds => .lst (ds.set i x)
  | .key k, x, .dK kvs => .dK (match ixK kvs k with | some n => kvs.set n (k, x) | none => kvs)
  | .tky k, x, .dT kvs => .dT (match ixK kvs k with | some n => kvs.set n (k, x) | none => kvs)
  | .fld f, x, .obj c fs => .obj c (match ixK fs f with | some n => fs.set n (f, x) | none => fs)
  | _, _, d => d
def getP : List Ac → D → Option D
  | [], d => some d
  | a :: p, d => match at1 a d with | some e => getP p e | none => none
def setP : List Ac → D → D → D
  | [], x, _ => x
  | a :: p, x, d => match at1 a d with | some e => set1 a (setP p x e) d | none => d
/-- the value at a place -/
def nodeV (H : Hp) : List Ac → V → V → Prop
  | [], v, u => u = v
  | .ix i :: p, v, u => ∃ a vs w, v = .ref a ∧ Rd H a (.lst vs) ∧ vs[i]? = some w ∧ nodeV H p w u
  | .key k :: p, v, u => ∃ a vs w, v = .ref a ∧ Rd H a (.dK vs) ∧ valV vs k = some w ∧ nodeV H p w u
  | .tky k :: p, v, u => ∃ a vs w, v = .ref a ∧ Rd H a (.dT vs) ∧ valV vs k = some w ∧ nodeV H p w u
  | .fld f :: p, v, u => ∃ a C dx vs w, v = .ref a ∧ H a = some (.ins C dx vs) ∧ vs.lookup f = some w ∧ nodeV H p w u
theorem rd_inj {H : Hp} {a : Addr} {u u' : HO} (h : Rd H a u) (h' : Rd H a u') (n : ∀ o x, u ≠ .frz o x) (n' : ∀ o x, u' ≠ .frz o x) : u = u' := by
  rcases h with h | ⟨o, h⟩ <;> rcases h' with h' | ⟨o', h'⟩
  · rw [h] at h'; exact Option.some.inj h'
  · rw [h] at h'; exact absurd (Option.some.inj h') (n _ _)
  · rw [h] at h'; exact absurd (Option.some.inj h').symm (n' _ _)
  · rw [h] at h'
    have := Option.some.inj h'
    injection this
theorem nodeV_inj {H : Hp} : ∀ {p : List Ac} {v u u' : V}, nodeV H p v u → nodeV H p v u' → u = u'
  | [], _, _, _, h, h' => h.trans (Eq.symm h')
  | .ix i :: p, v, u, u', ⟨a, vs, w, e1, h1, h2, h3⟩, ⟨a', vs', w', e1', h1', h2', h3'⟩ => by
    subst e1
    cases e1'
    have e := rd_inj h1 h1' (fun _ _ z => nomatch z) (fun _ _ z => nomatch z)
    injection e with e
    subst e
    rw [h2] at h2'
    cases h2'
    exact nodeV_inj h3 h3'
  | .key i :: p, v, u, u', ⟨a, vs, w, e1, h1, h2, h3⟩, ⟨a', vs', w', e1', h1', h2', h3'⟩ => by
    subst e1
    cases e1'
    have e := rd_inj h1 h1' (fun _ _ z => nomatch z) (fun _ _ z => nomatch z)
    injection e with e
    subst e
    rw [h2] at h2'
    cases h2'
    exact nodeV_inj h3 h3'
  | .tky i :: p, v, u, u', ⟨a, vs, w, e1, h1, h2, h3⟩, ⟨a', vs', w', e1', h1', h2', h3'⟩ => by
    subst e1
    cases e1'
    have e := rd_inj h1 h1' (fun _ _ z => nomatch z) (fun _ _ z => nomatch z)
    injection e with e
    subst e
    rw [h2] at h2'
    cases h2'
    exact nodeV_inj h3 h3'
  | .fld i :: p, v, u, u', ⟨a, C, dx, vs, w, e1, h1, h2, h3⟩, ⟨a', C', dx', vs', w', e1', h1', h2', h3'⟩ => by
    subst e1
    cases e1'
    rw [h1] at h1'
    cases h1'
    rw [h2] at h2'
    cases h2'
    exact nodeV_inj h3 h3'
theorem nodeV_mono {H H' : Hp} (e : Same H H') : ∀ {p : List Ac} {v u : V}, nodeV H p v u → nodeV H' p v u
  | [], _, _, h => h
  | .ix i :: p, v, u, ⟨a, vs, w, e1, h1, h2, h3⟩ => ⟨a, vs, w, e1, rd_mono e h1, h2, nodeV_mono e h3⟩
  | .key i :: p, v, u, ⟨a, vs, w, e1, h1, h2, h3⟩ => ⟨a, vs, w, e1, rd_mono e h1, h2, nodeV_mono e h3⟩
  | .tky i :: p, v, u, ⟨a, vs, w, e1, h1, h2, h3⟩ => ⟨a, vs, w, e1, rd_mono e h1, h2, nodeV_mono e h3⟩
  | .fld i :: p, v, u, ⟨a, C, dx, vs, w, e1, h1, h2, h3⟩ => ⟨a, C, dx, vs, w, e1, e _ _ h1, h2, nodeV_mono e h3⟩
theorem nodeV_snoc {H : Hp} : ∀ {p : List Ac} {ac : Ac} {v u w : V}, nodeV H p v u → nodeV H [ac] u w → nodeV H (p ++ [ac]) v w
  | [], _, _, _, _, h, g => by rw [show _ = _ from h] at g; exact g
  | .ix i :: p, ac, v, u, w, ⟨a, vs, z, e1, h1, h2, h3⟩, g => ⟨a, vs, z, e1, h1, h2, nodeV_snoc h3 g⟩
  | .key i :: p, ac, v, u, w, ⟨a, vs, z, e1, h1, h2, h3⟩, g => ⟨a, vs, z, e1, h1, h2, nodeV_snoc h3 g⟩
  | .tky i :: p, ac, v, u, w, ⟨a, vs, z, e1, h1, h2, h3⟩, g => ⟨a, vs, z, e1, h1, h2, nodeV_snoc h3 g⟩
  | .fld i :: p, ac, v, u, w, ⟨a, C, dx, vs, z, e1, h1, h2, h3⟩, g => ⟨a, C, dx, vs, z, e1, h1, h2, nodeV_snoc h3 g⟩
theorem getP_snoc : ∀ {p : List Ac} {ac : Ac} {d e x : D}, getP p d = some e → at1 ac e = some x → getP (p ++ [ac]) d = some x
  | [], ac, d, e, x, h, g => by
    cases h
    show (match at1 ac d with | some e => getP [] e | none => none) = some x
    rw [g]
    rfl
  | b :: p, ac, d, e, x, h, g => by
    show (match at1 b d with | some e => getP (p ++ [ac]) e | none => none) = some x
    have h : (match at1 b d with | some e => getP p e | none => none) = some e := h
    cases q : at1 b d with
    | none => rw [q] at h; cases h
    | some y =>
      rw [q] at h
      exact getP_snoc h g
theorem ROs.focus {R : AP → D → V → Prop} : ∀ {ds : List D} {P : AP} {vs : List V} {i : Nat} {d : D}, ROs R P ds vs → ds[i]? = some d → ∃ u P1, vs[i]? = some u ∧ (∀ a, P1 a → P a) ∧ R P1 d u ∧
    ∀ (R' : AP → D → V → Prop) d', (∀ Q e w, (∀ a, Q a → P a ∧ ¬ P1 a) → R Q e w → R' Q e w) → R' P1 d' u → ROs R' P (ds.set i d') vs
  | [], _, _, _, _, _, e => by simp at e
  | d0 :: ds, P, _, 0, d, ⟨v, r, P1, P2, h1, h2, h3, h4, h5, h6⟩, e => by
    subst h1
    have e : d0 = d := by simpa using e
    subst e
    refine ⟨v, P1, rfl, h2, h5, fun R' d' k r' => ⟨v, r, P1, P2, rfl, h2, h3, h4, r', ROs.imp (fun Q e w hq rr => k Q e w (fun a x => ⟨h3 a (hq a x), fun y => h4 a y (hq a x)⟩) rr) (fun _ x => x) h6⟩⟩
  | d0 :: ds, P, _, i + 1, d, ⟨v, r, P1, P2, h1, h2, h3, h4, h5, h6⟩, e => by
    subst h1
    obtain ⟨u, Q1, g1, g2, g3, g4⟩ := ROs.focus (i := i) h6 (by simpa using e)
    refine ⟨u, Q1, by simpa using g1, fun a x => h3 a (g2 a x), g3, fun R' d' k r' => ⟨v, r, P1, P2, rfl, h2, h3, h4, k P1 d0 v (fun a x => ⟨h2 a x, fun y => h4 a x (g2 a y)⟩) h5, ?_⟩⟩
    exact g4 R' d' (fun Q e w hq rr => k Q e w (fun a x => ⟨h3 a (hq a x).1, (hq a x).2⟩) rr) r'
theorem ixK_look {κ : Type} [DecidableEq κ] : ∀ {kvs : List (κ × D)} {k : κ} {d : D}, lookD kvs k = some d → ∃ n, ixK kvs k = some n ∧ kvs[n]? = some (k, d)
  | [], _, _, h => nomatch h
  | (k0, d0) :: r, k, d, h => by
    rw [lookD_cons] at h
    unfold ixK
    by_cases e : k0 = k
    · rw [if_pos e] at h ⊢
      cases h
      exact ⟨0, rfl, by rw [e]; rfl⟩
    · rw [if_neg e] at h ⊢
      obtain ⟨n, h1, h2⟩ := ixK_look h
      rw [h1]
      exact ⟨n + 1, rfl, by simpa using h2⟩
theorem ixK_val {κ : Type} [DecidableEq κ] : ∀ {kvs : List (κ × D)} {vs : List (κ × V)} {k : κ} {n : Nat} {u : V}, kvs.map (·.1) = vs.map (·.1) → ixK kvs k = some n → (vs.map (·.2))[n]? = some u → valV vs k = some u
  | [], _, _, _, _, _, h, _ => nomatch h
  | (k0, d0) :: r, [], _, _, _, hk, _, _ => by simp at hk
  | (k0, d0) :: r, (k1, v1) :: t, k, n, u, hk, h, g => by
    have hk' : k0 = k1 ∧ r.map (·.1) = t.map (·.1) := by simpa using hk
    unfold ixK at h
    by_cases e : k0 = k
    · rw [if_pos e] at h
      cases h
      rw [valV_pos (p := (k1, v1)) (hk'.1.symm.trans e)]
      simpa using g
    · rw [if_neg e] at h
      rw [valV_neg (p := (k1, v1)) (fun z => e (hk'.1.trans z))]
      cases q : ixK r k with
      | none => rw [q] at h; cases h
      | some m =>
        rw [q] at h
        cases h
        exact ixK_val hk'.2 q (by simpa using g)
theorem map_set1 {κ : Type} {kvs : List (κ × D)} {n : Nat} {k : κ} {d x : D} (h : kvs[n]? = some (k, d)) : (kvs.set n (k, x)).map (·.1) = kvs.map (·.1) ∧ (kvs.set n (k, x)).map (·.2) = (kvs.map (·.2)).set n x := by
  obtain ⟨hl, e⟩ := List.getElem?_eq_some_iff.mp h
  constructor
  · rw [List.map_set]
    have : (kvs.map (·.1))[n]'(by simpa using hl) = k := by simp [e]
    rw [show ((k, x) : κ × D).1 = (kvs.map (·.1))[n]'(by simpa using hl) from this.symm]
    exact List.set_getElem_self _
  · rw [List.map_set]
section
variable {K : PySem.W.Frag} {mg : MG} {F H : Hp}
/-- a node of what is owned, and putting another one in its place -/
theorem focus1 {n : Nat} {P : AP} {d : D} {v : V} {ac : Ac} {e : D} (r : RepO K mg F H (n + 1) P d v) (h : at1 ac d = some e) : ∃ u P1, nodeV H [ac] v u ∧ (∀ a, P1 a → P a) ∧ RepO K mg F H n P1 e u ∧
    ∀ F' H' e', Same F F' → (∀ a o, P a → ¬ P1 a → H a = some o → H' a = some o) → RepO K mg F' H' n P1 e' u → RepO K mg F' H' (n + 1) P (set1 ac e' d) v := by
  cases ac with
  | ix i =>
    cases d <;> first | cases h; done | skip
    obtain ⟨a, vs, P', h1, h2, h3, h4, h5, h6⟩ := r
    obtain ⟨u, P1, g1, g2, g3, g4⟩ := h6.focus h
    refine ⟨u, P1, ⟨a, vs, u, h1, .inl h2, g1, rfl⟩, fun a x => h5 a (g2 a x), g3, fun F' H' e' sm k r' => ⟨a, vs, P', h1, k a _ h3 (fun z => h4 (g2 a z)) h2, h3, h4, h5, ?_⟩⟩
    exact g4 _ e' (fun Q e w hq rr => rr.mono sm (fun a o q x => k a o (h5 a (hq a q).1) (hq a q).2 x) fun _ x => x) r'
  | key i =>
    cases d <;> first | cases h; done | skip
    obtain ⟨a, vs, P', h1, h2, h3, h4, h5, hk, h6⟩ := r
    obtain ⟨m, m1, m2⟩ := ixK_look (show lookD _ i = some e from h)
    obtain ⟨u, P1, g1, g2, g3, g4⟩ := h6.focus (i := m) (d := e) (by rw [List.getElem?_map, m2]; rfl)
    refine ⟨u, P1, ⟨a, vs, u, h1, .inl h2, ixK_val hk m1 g1, rfl⟩, fun a x => h5 a (g2 a x), g3, fun F' H' e' sm k r' => ?_⟩
    show RepO K mg F' H' (n + 1) P (.dK (match ixK _ i with | some n => _ | none => _)) v
    rw [m1]
    obtain ⟨q1, q2⟩ := map_set1 (x := e') m2
    refine ⟨a, vs, P', h1, k a _ h3 (fun z => h4 (g2 a z)) h2, h3, h4, h5, q1.trans hk, ?_⟩
    rw [q2]
    exact g4 _ e' (fun Q e w hq rr => rr.mono sm (fun a o q x => k a o (h5 a (hq a q).1) (hq a q).2 x) fun _ x => x) r'
  | tky i =>
    cases d <;> first | cases h; done | skip
    obtain ⟨a, vs, P', h1, h2, h3, h4, h5, hk, h6⟩ := r
    obtain ⟨m, m1, m2⟩ := ixK_look (show lookD _ i = some e from h)
    obtain ⟨u, P1, g1, g2, g3, g4⟩ := h6.focus (i := m) (d := e) (by rw [List.getElem?_map, m2]; rfl)
    refine ⟨u, P1, ⟨a, vs, u, h1, .inl h2, ixK_val hk m1 g1, rfl⟩, fun a x => h5 a (g2 a x), g3, fun F' H' e' sm k r' => ?_⟩
    show RepO K mg F' H' (n + 1) P (.dT (match ixK _ i with | some n => _ | none => _)) v
    rw [m1]
    obtain ⟨q1, q2⟩ := map_set1 (x := e') m2
    refine ⟨a, vs, P', h1, k a _ h3 (fun z => h4 (g2 a z)) h2, h3, h4, h5, q1.trans hk, ?_⟩
    rw [q2]
    exact g4 _ e' (fun Q e w hq rr => rr.mono sm (fun a o q x => k a o (h5 a (hq a q).1) (hq a q).2 x) fun _ x => x) r'
  | fld i =>
    cases d <;> first | cases h; done | skip
    obtain ⟨a, C, dx, vs, P', h1, h2, h2', hm, h3, h3', h4, h4', h5, hk, h6⟩ := r
    obtain ⟨m, m1, m2⟩ := ixK_look (show lookD _ i = some e from h)
    obtain ⟨u, P1, g1, g2, g3, g4⟩ := h6.focus (i := m) (d := e) (by rw [List.getElem?_map, m2]; rfl)
    have hl : vs.lookup i = some u := by
      have hv := ixK_val hk m1 g1
      have gen : ∀ (l : List (Str × V)), l.lookup i = valV l i := by
        intro l
        induction l with
        | nil => rfl
        | cons p t ih =>
          obtain ⟨k0, v0⟩ := p
          by_cases e : k0 = i
          · subst e; rw [valV_pos (p := (k0, v0)) rfl]; simp [List.lookup]
          · rw [valV_neg (p := (k0, v0)) e, ← ih]
            have : (i == k0) = false := beq_eq_false_iff_ne.mpr fun z => e z.symm
            simp [List.lookup, this]
      rw [gen]; exact hv
    refine ⟨u, P1, ⟨a, C, dx, vs, u, h1, h2, hl, rfl⟩, fun a x => h5 a (g2 a x), g3, fun F' H' e' sm k r' => ?_⟩
    show RepO K mg F' H' (n + 1) P (.obj _ (match ixK _ i with | some n => _ | none => _)) v
    rw [m1]
    obtain ⟨q1, q2⟩ := map_set1 (x := e') m2
    refine ⟨a, C, dx, vs, P', h1, k a _ h3 (fun z => h4 (g2 a z)) h2, k dx _ h3' (fun z => h4' (g2 dx z)) h2', hm, h3, h3', h4, h4', h5, q1.trans hk, ?_⟩
    rw [q2]
    exact g4 _ e' (fun Q e w hq rr => rr.mono sm (fun a o q x => k a o (h5 a (hq a q).1) (hq a q).2 x) fun _ x => x) r'
theorem nodeV_cons {ac : Ac} {p : List Ac} {v u w : V} (h : nodeV H [ac] v u) (g : nodeV H p u w) : nodeV H (ac :: p) v w := by
  cases ac with
  | ix i => obtain ⟨a, vs, z, h1, h2, h3, h4⟩ := h; rw [show u = z from h4] at g; exact ⟨a, vs, z, h1, h2, h3, g⟩
  | key i => obtain ⟨a, vs, z, h1, h2, h3, h4⟩ := h; rw [show u = z from h4] at g; exact ⟨a, vs, z, h1, h2, h3, g⟩
  | tky i => obtain ⟨a, vs, z, h1, h2, h3, h4⟩ := h; rw [show u = z from h4] at g; exact ⟨a, vs, z, h1, h2, h3, g⟩
  | fld i => obtain ⟨a, C, dx, vs, z, h1, h2, h3, h4⟩ := h; rw [show u = z from h4] at g; exact ⟨a, C, dx, vs, z, h1, h2, h3, g⟩
theorem focus : ∀ {p : List Ac} {m : Nat} {P : AP} {d : D} {v : V} {e : D}, RepO K mg F H (p.length + m) P d v → getP p d = some e → ∃ u P1, nodeV H p v u ∧ (∀ a, P1 a → P a) ∧ RepO K mg F H m P1 e u ∧
    ∀ F' H' e', Same F F' → (∀ a o, P a → ¬ P1 a → H a = some o → H' a = some o) → RepO K mg F' H' m P1 e' u → RepO K mg F' H' (p.length + m) P (setP p e' d) v
  | [], m, P, d, v, e, r, h => by
    cases h
    rw [show ([] : List Ac).length + m = m from Nat.zero_add m] at r ⊢
    exact ⟨v, P, rfl, fun _ x => x, r, fun F' H' e' _ _ r' => r'⟩
  | ac :: p, m, P, d, v, e, r, h => by
    have h : (match at1 ac d with | some e => getP p e | none => none) = some e := h
    cases q : at1 ac d with
    | none => rw [q] at h; cases h
    | some d1 =>
      rw [q] at h
      have en : (ac :: p).length + m = (p.length + m) + 1 := by simp; omega
      rw [en] at r ⊢
      obtain ⟨u, P1, g1, g2, g3, g4⟩ := focus1 r q
      obtain ⟨w, P2, k1, k2, k3, k4⟩ := focus (p := p) (m := m) g3 h
      refine ⟨w, P2, nodeV_cons g1 k1, fun a x => g2 a (k2 a x), k3, fun F' H' e' sm k r' => ?_⟩
      show RepO K mg F' H' (p.length + m + 1) P (match at1 ac d with | some e => set1 ac (setP p e' e) d | none => d) v
      rw [q]
      exact g4 F' H' _ sm (fun a o x y z => k a o x (fun z2 => y (k2 a z2)) z) (k4 F' H' e' sm (fun a o x y z => k a o (g2 a x) y z) r')
end
/-- the slot's node at p (its top alone owned) gets another object -/
theorem At.store {K : PySem.W.Frag} {mg : MG} {io : Nat → Option V} {env : DEnv} {σ : L2.St} {F F1 H H1 : Hp} {O O1 : OW} (A : At K mg io F O H env σ F1 O1 H1) {i : Nat} {b : Bd} {p : List Ac} {e : D} (hb : env[i]? = some (some b)) (hn : b.n = p.length + 1) (hp : getP p b.d = some e) :
    ∃ v u P1, σ[i]? = some (some v) ∧ nodeV H1 p v u ∧ RepO K mg F1 H1 1 P1 e u ∧ ∀ a o e', P1 a → RepO K mg F1 (upd H1 a o) 1 P1 e' u → At K mg io F O H (env.set i (some { b with d := setP p e' b.d })) σ F1 O1 (upd H1 a o) := by
  obtain ⟨v, s1, s2, s3⟩ := A.si.slot i b hb
  rw [hn] at s2
  obtain ⟨u, P1, g1, g2, g3, g4⟩ := focus s2 hp
  refine ⟨v, u, P1, s1, g1, g3, fun a o e' pa r' => ?_⟩
  have oa : O1 a = some i := g2 a pa
  obtain ⟨fa, ob, ha⟩ := A.si.own a i oa
  refine ⟨⟨A.mv.ff, fun c oc h q => ?_, A.mv.fn, A.mv.on⟩, ⟨fun c oc h => ?_, fun c j h => ?_, fun j c hc => ?_, by rw [List.length_set]; exact A.si.len⟩⟩
  · have ne : c ≠ a := fun z => by
      subst z
      rcases A.mv.on c i oa with z | ⟨k, z⟩
      · rw [h] at z; cases z
      · rw [q] at z; cases z
    rw [upd_ne ne]
    exact A.mv.fr c oc h q
  · have ne : c ≠ a := fun z => by subst z; rw [fa] at h; cases h
    rw [upd_ne ne]
    exact A.si.sub c oc h
  · obtain ⟨h1, o1, h2⟩ := A.si.own c j h
    refine ⟨h1, ?_⟩
    by_cases ne : c = a
    · subst ne; exact ⟨o, upd_same⟩
    · rw [upd_ne ne]; exact ⟨o1, h2⟩
  · rcases getElem?_set_some hc with ⟨rfl, ec, _⟩ | ⟨ne, hc⟩
    · cases ec
      refine ⟨v, s1, ?_, s3⟩
      show RepO K mg F1 (upd H1 a o) b.n _ (setP p e' b.d) v
      rw [hn]
      exact g4 F1 _ e' (Same.refl _) (fun c oc _ nc h => by rw [upd_ne fun z => nc (by rw [z]; exact pa)]; exact h) r'
    · obtain ⟨w, q1, q2, q3⟩ := A.si.slot j c hc
      exact ⟨w, q1, q2.mono (fun _ _ x => x) (fun x ox hx h => by rw [upd_ne fun z => by rw [z, oa] at hx; exact ne (Option.some.inj hx)]; exact h) (fun _ x => x), q3⟩

/-! ### places as expressions -/
abbrev PTh := DEnv → (Nat → List Ac → D → Prop) → Prop
def thVar (i : Nat) : PTh := fun env Q => match gt env i with | some b => Q i [] b.d | none => False
def thIx (tp : PTh) (ti : PUT) : PTh := fun env Q => tp env fun s p d => ti env fun ix => match d, ix with
  | .lst ds, .int k => match ixI ds.length k with | some j => someD (ds[j]?) fun e => Q s (p ++ [.ix j]) e | none => False
  | .dK kvs, k => match keyD k with | some k => someD (lookD kvs k) fun e => Q s (p ++ [.key k]) e | none => False
  | .dT kvs, .tup ks => match keysD ks with | some k => someD (lookD kvs k) fun e => Q s (p ++ [.tky k]) e | none => False
  | _, _ => False
def rdTh (K : PySem.W.Frag) (mg : MG) (τ : PTh) : TE := fun σ H Qh => ∃ io env F O Q, SI K mg io env σ F O H ∧ τ env Q ∧ ∀ s p d b v u H', Same H H' → gt env s = some b → σ[s]? = some (some v) → getP p b.d = some d → nodeV H' p v u → Rep K mg H' d u → Q s p d → Qh u H'
def DTh (X : Cx) (e : Expr) (τ : PTh) : Prop := PE X e (rdTh X.K X.mg τ)
section
variable {X : Cx}
theorem th_var (i : Nat) {x : Str} {pos : Pos} (hN : X.N[i]? = some x := by rfl) (hv : Vis X.env.scope x := by first | exact Or.inl rfl | exact Or.inr (Or.inl rfl) | exact Or.inr (Or.inr rfl)) (hd : (x == ("__debug__" : Str)) = false := by decide)
    (hcd : (x == ("__classdict__" : Str)) = false := by decide) : DTh X (.Name x pos) (thVar i) := by
  refine peI (pe_var hN hv hd hcd) ?_
  rintro σ H Qh ⟨io, env, F, O, Q, I, h, k⟩
  unfold thVar at h
  cases e : gt env i with
  | none => rw [e] at h; exact h.elim
  | some b =>
    rw [e] at h
    obtain ⟨v, h1, h2, _⟩ := I.slot i b (gt_some e)
    exact ⟨v, h1, k i [] b.d b v v H (Same.refl _) e h1 rfl rfl (h2.rep I.sub) h⟩
theorem th_ix {a b : Expr} {tp : PTh} {ti : PUT} {pos : Pos} (hu : X.A.units + 1 < cLine) (ha : DTh X a tp) (hb : PU X b ti) (hs : PlainIx b := by exact fun _ _ => rfl) : DTh X (.Subscript a b pos) (thIx tp ti) := by
  refine peI (pe_ix (ix_any hu) ha hb hs) ?_
  rintro σ H Qh ⟨io, env, F, O, Q, I, h, k⟩
  refine ⟨io, env, F, O, _, I, h, ?_⟩
  intro s p d c v u H1 e1 hc hv hp hn r1 h1
  refine ⟨io, env, F, O, _, I.ext e1, h1, ?_⟩
  intro y w H2 e2 r2 h2
  have hn2 := nodeV_mono e2 hn
  cases d with
  | lst ds =>
    cases y <;> first | exact (show False from h2).elim | skip
    cases (show w = _ from r2)
    rename_i kk
    obtain ⟨a, vs, rfl, g1, g2⟩ := Rep.mono e2 r1
    have h2 : (match ixI ds.length kk with | some j => someD (ds[j]?) fun e => Q s (p ++ [.ix j]) e | none => False) := h2
    rw [ixI_eq] at h2
    cases ej : ixN ds.length kk with
    | none => rw [ej] at h2; exact h2.elim
    | some j =>
      rw [ej] at h2
      obtain ⟨e, he, q⟩ := someD_of h2
      obtain ⟨z, hz, rz⟩ := g2.get he
      refine .inl (.inl ⟨a, vs, kk, z, rfl, rfl, .inl g1, ?_, k s _ e c v z H2 (e1.trans e2) hc hv (getP_snoc (ac := .ix j) hp he) (nodeV_snoc (ac := .ix j) hn2 ⟨a, vs, z, rfl, g1, hz, rfl⟩) rz q⟩)
      unfold L2.atI
      rw [g2.length, ej]
      exact hz
  | dK kvs =>
    obtain ⟨a, vs, rfl, g1, g2⟩ := Rep.mono e2 r1
    have h2 : (match keyD y with | some k => someD (lookD kvs k) fun e => Q s (p ++ [.key k]) e | none => False) := by cases y <;> exact h2
    cases ek : keyD y with
    | none => rw [ek] at h2; exact h2.elim
    | some key =>
      rw [ek] at h2
      obtain ⟨e, he, q⟩ := someD_of h2
      have l := RepK.look key g2
      rw [he] at l
      obtain ⟨z, hz, rz⟩ := l
      exact .inr ⟨a, z, rfl, .inl ⟨vs, key, g1, keyD_v ek r2, hz.symm⟩, k s _ e c v z H2 (e1.trans e2) hc hv (getP_snoc (ac := .key key) hp he) (nodeV_snoc (ac := .key key) hn2 ⟨a, vs, z, rfl, g1, hz, rfl⟩) rz q⟩
  | dT kvs =>
    cases y <;> first | exact (show False from h2).elim | skip
    rename_i ks
    obtain ⟨a, vs, rfl, g1, g2⟩ := Rep.mono e2 r1
    obtain ⟨b', ws, rfl, t1, t2⟩ := r2
    have h2 : (match keysD ks with | some k => someD (lookD kvs k) fun e => Q s (p ++ [.tky k]) e | none => False) := h2
    cases ek : keysD ks with
    | none => rw [ek] at h2; exact h2.elim
    | some key =>
      rw [ek] at h2
      obtain ⟨e, he, q⟩ := someD_of h2
      have l := RepT.look key g2
      rw [he] at l
      obtain ⟨z, hz, rz⟩ := l
      have ew := keysD_v ek t2
      subst ew
      exact .inr ⟨a, z, rfl, .inr ⟨vs, key, b', g1, rfl, t1, hz.symm⟩, k s _ e c v z H2 (e1.trans e2) hc hv (getP_snoc (ac := .tky key) hp he) (nodeV_snoc (ac := .tky key) hn2 ⟨a, vs, z, rfl, g1, hz, rfl⟩) rz q⟩
  | _ => exact (show False from h2).elim
end
end DL
set_option Elab.async false
set_option linter.all false
set_option maxRecDepth 100000
/-! DLk: the data layer, part k: append and x[i] = e at a place. -/
namespace DL
open PySem L2 PySem.Spec PyProof.Rows

section
variable {K : PySem.W.Frag} {mg : MG} {io : Nat → Option V} {env : DEnv} {σ : L2.St} {F F1 H H1 : Hp} {O O1 : OW} {P : AP}
/-- what a slot owned and was taken out of it goes back -/
theorem At.put (A : At K mg io F O H env σ F1 O1 H1) {i : Nat} {v : V} {b : Bd} (t : Tp O H F1 O1 H1 P) (r : RepO K mg F1 H1 b.n P b.d v) (hs : σ[i]? = some (some v)) (hio : b.io = true → io i = some v) :
    At K mg io F O H (env.set i (some b)) σ F1 (putO O1 i P) H1 where
  mv := ⟨A.mv.ff, A.mv.fr, A.mv.fn, fun a j e => by
    rcases putO_some.mp e with ⟨p, _⟩ | ⟨_, e, _⟩
    · exact t.nw a p
    · exact A.mv.on a j e⟩
  si := ⟨A.si.sub, fun a j e => by
    rcases putO_some.mp e with ⟨p, _⟩ | ⟨_, e, _⟩
    · exact ⟨(t.t a p).1, (t.t a p).2.2⟩
    · exact A.si.own a j e, fun j c hc => by
      rcases getElem?_set_some hc with ⟨rfl, e, hl⟩ | ⟨ne, hc⟩
      · cases e
        exact ⟨v, hs, r.mono (fun _ _ x => x) (fun _ _ _ x => x) (fun a p => putO_some.mpr (.inl ⟨p, rfl⟩)), hio⟩
      · obtain ⟨w, g1, g2, g3⟩ := A.si.slot j c hc
        refine ⟨w, g1, g2.mono (fun _ _ x => x) (fun _ _ _ x => x) (fun a e => ?_), g3⟩
        refine putO_some.mpr (.inr ⟨fun p => ?_, e, fun z => ne z.symm⟩)
        rw [(t.t a p).2.1] at e; exact (nomatch e), by rw [List.length_set]; exact A.si.len⟩
theorem set_gt {i : Nat} {b : Bd} (h : gt env i = some b) (c : Option Bd) : (env.set i c)[i]? = some c := by
  rw [List.getElem?_set_self ((List.getElem?_eq_some_iff.mp (gt_some h)).1)]
theorem ro_lst {ds : List D} {v : V} (r : RepO K mg F H 1 P (.lst ds) v) : ∃ a vs, v = .ref a ∧ H a = some (.lst vs) ∧ P a ∧ Reps K mg F ds vs := let ⟨a, vs, P', h1, h2, h3, _, _, h6⟩ := r; ⟨a, vs, h1, h2, h3, h6.reps0⟩
theorem ro_lst_mk {ds : List D} {vs : List V} {a : Addr} (h : H a = some (.lst vs)) (p : P a) (r : Reps K mg F ds vs) : RepO K mg F H 1 P (.lst ds) (.ref a) :=
  RepO.mono (P := fun b => b = a) (fun _ _ x => x) (fun _ _ _ x => x) (fun b e => by rw [show b = a from e]; exact p) (NewL.own (o := .lst vs) r h)
theorem ro_dK {ds : List (Key × D)} {v : V} (r : RepO K mg F H 1 P (.dK ds) v) : ∃ a vs, v = .ref a ∧ H a = some (.dK vs) ∧ P a ∧ RepK K mg F ds vs := let ⟨a, vs, P', h1, h2, h3, _, _, h6, h7⟩ := r; ⟨a, vs, h1, h2, h3, RepK.of h6 h7.reps0⟩
theorem ro_dK_mk {ds : List (Key × D)} {vs : List (Key × V)} {a : Addr} (h : H a = some (.dK vs)) (p : P a) (r : RepK K mg F ds vs) : RepO K mg F H 1 P (.dK ds) (.ref a) :=
  RepO.mono (P := fun b => b = a) (fun _ _ x => x) (fun _ _ _ x => x) (fun b e => by rw [show b = a from e]; exact p) (NewL.own (o := .dK vs) r h)
theorem ro_dT {ds : List (List Key × D)} {v : V} (r : RepO K mg F H 1 P (.dT ds) v) : ∃ a vs, v = .ref a ∧ H a = some (.dT vs) ∧ P a ∧ RepT K mg F ds vs := let ⟨a, vs, P', h1, h2, h3, _, _, h6, h7⟩ := r; ⟨a, vs, h1, h2, h3, RepT.of h6 h7.reps0⟩
theorem ro_dT_mk {ds : List (List Key × D)} {vs : List (List Key × V)} {a : Addr} (h : H a = some (.dT vs)) (p : P a) (r : RepT K mg F ds vs) : RepO K mg F H 1 P (.dT ds) (.ref a) :=
  RepO.mono (P := fun b => b = a) (fun _ _ x => x) (fun _ _ _ x => x) (fun b e => by rw [show b = a from e]; exact p) (NewL.own (o := .dT vs) r h)
end
/-! ### append -/
def appAt (s : Nat) (p : List Ac) (d : D) (x : D) (env : DEnv) (k : DEnv → Prop) : Prop := match d, gt env s with
  | .lst ds, some b => match Nat.beq b.n (p.length + 1) with
    | true => ds.length < sizeLine ∧ k (env.set s (some { b with d := setP p (.lst (ds ++ [x])) b.d }))
    | false => False
  | _, _ => False
def isLst : D → Prop → Prop
  | .lst _, p => p
  | _, _ => False
/-- place.append(e), e without an address -/
def sdAppP (tp : PTh) (te : PUT) : SD := fun env D => tp env fun s p d => isLst d (te env fun x => lf x (appAt s p d x env D.nx))
/-- x.append(e), x a local: its data as they stand behind e -/
def sdApp (i : Nat) (te : ET) : SD := fun env D => match gt env i with
  | some b0 => isLst b0.d (te env (fun x _ env1 => match gt env1 i with | some b => appAt i [] b.d x env1 D.nx | none => False) D.ex)
  | none => False
/-- place.append(e): the place's slot rests meanwhile -/
def sdAppD (tp : PTh) (te : ET) : SD := fun env D => tp env fun s p d => isLst d (match gt env s with
  | some b => te (env.set s none) (fun x _ env1 => appAt s p d x (env1.set s (some b)) D.nx) D.ex
  | none => False)
theorem isLst_of {d : D} {p : Prop} (h : isLst d p) : (∃ ds, d = .lst ds) ∧ p := by cases d <;> first | exact ⟨⟨_, rfl⟩, h⟩ | exact h.elim
section
variable {X : Cx} {o e : Expr} {tp : PTh} {te : ET} {pe : PUT} {apos cpos pos : Pos}
theorem app_end {K : PySem.W.Frag} {mg : MG} {io : Nat → Option V} {env : DEnv} {σ : L2.St} {F F1 H H1 : Hp} {O O1 : OW} {s : Nat} {p : List Ac} {d x : D} {k : DEnv → Prop} {b : Bd} {v u w : V} {Qh : VK}
    (A : At K mg io F O H env σ F1 O1 H1) (h : appAt s p d x env k) (hb : gt env s = some b) (hs : σ[s]? = some (some v)) (hp : getP p b.d = some d) (hn : nodeV H1 p v u) (rw_ : Rep K mg F1 x w)
    (kk : ∀ env' H', At K mg io F O H env' σ F1 O1 H' → k env' → Qh .non H') : rAppend u [w] H1 Qh := by
  cases d <;> first | exact (show False from h).elim | skip
  rename_i ds
  unfold appAt at h
  rw [hb] at h
  have h : (match Nat.beq b.n (p.length + 1) with
    | true => ds.length < sizeLine ∧ k (env.set s (some { b with d := setP p (.lst (ds ++ [x])) b.d }))
    | false => False) := h
  cases en : Nat.beq b.n (p.length + 1) with
  | false => rw [en] at h; exact h.elim
  | true =>
    rw [en] at h
    obtain ⟨v', u', P1, s1, g1, g2, g3⟩ := A.store (gt_some hb) (Nat.eq_of_beq_eq_true en) hp
    have ev : v' = v := by rw [hs] at s1; exact (Option.some.inj (Option.some.inj s1)).symm
    subst ev
    have eu := nodeV_inj hn g1
    subst eu
    obtain ⟨a, vs, rfl, k1, k2, k3⟩ := ro_lst g2
    exact ⟨a, vs, w, rfl, rfl, k1, by rw [k3.length]; exact h.1, kk _ _ (g3 a (.lst (vs ++ [w])) _ k2 (ro_lst_mk upd_same k2 (k3.append (Reps.one rw_)))) h.2⟩
theorem ds_appendP (ho : DTh X o tp) (he : PU X e pe) (hbase : attributeBase o "append" X.env (eval o X.env) = eval o X.env := by rfl)
    (hfew : ((backTo cpos (starEach [e] X.env)).all (fun x => !x.1) && (backToKw cpos (keywordEach [] X.env)).all (fun x => x.1.isSome)
      && decide (([e] : List Expr).length + ([] : List Keyword).length + (if ([] : List Keyword).isEmpty then 0 else 1) < 30)) = true := by rfl)
    (hline : (apos.endLine == cpos.line) = true := by rfl) (hs : starEach (e :: []) X.env = (false, eval e X.env) :: starEach [] X.env := by rfl) (hplain : (backTo cpos (starEach [] X.env)).any (·.1) = false := by rfl)
    (hsw : swapsWith (.Call (.Attribute o "append" apos) [e] [] cpos) none pos.line X.env = pure false := by rfl) : DS X (.Expr (.Call (.Attribute o "append" apos) [e] [] cpos) pos) (sdAppP tp pe) := by
  intro W tk
  refine psI (ps_expr (pe_bm PySem.F.plainAttrs_list PySem.F.slot_list_append PySem.F.type_list_append mt_append ho (pa_cons he pa_nil hs) hbase hfew hline hs hplain) hsw) ?_
  rintro Dn σ H ⟨io, env, F, O, D, I, h, k1, k2, k3, k4, k5⟩
  refine ⟨io, env, F, O, _, I, h, ?_⟩
  intro s p d b v u H1 e1 hb hv hp hn r1 h1
  obtain ⟨⟨ds, rfl⟩, h1⟩ := isLst_of h1
  have rl := r1
  obtain ⟨a, vs, rfl, g1, g2⟩ := rl
  refine ⟨.inl ⟨rfl, vs, .inl g1⟩, io, env, F, O, _, I.ext e1, h1, ?_⟩
  intro x w H2 e2 r2 h2
  obtain ⟨hl, h2⟩ := lf_of h2
  exact app_end (Qh := fun _ H' => Dn.nx σ H') ((At.start I).ext (e1.trans e2)) h2 hb hv hp (nodeV_mono e2 hn) (leaf_rep hl r2) fun env' H' A q => k1 _ _ _ _ _ A q
theorem ds_append (i : Nat) {x : Str} {pos' : Pos} (he : DE X e te) (hN : X.N[i]? = some x := by rfl) (hv : Vis X.env.scope x := by first | exact Or.inl rfl | exact Or.inr (Or.inl rfl) | exact Or.inr (Or.inr rfl)) (hd : (x == ("__debug__" : Str)) = false := by decide)
    (hcd : (x == ("__classdict__" : Str)) = false := by decide) (hbase : attributeBase (.Name x pos') "append" X.env (eval (.Name x pos') X.env) = eval (.Name x pos') X.env := by rfl)
    (hfew : ((backTo cpos (starEach [e] X.env)).all (fun x => !x.1) && (backToKw cpos (keywordEach [] X.env)).all (fun x => x.1.isSome)
      && decide (([e] : List Expr).length + ([] : List Keyword).length + (if ([] : List Keyword).isEmpty then 0 else 1) < 30)) = true := by rfl)
    (hline : (apos.endLine == cpos.line) = true := by rfl) (hs : starEach (e :: []) X.env = (false, eval e X.env) :: starEach [] X.env := by rfl) (hplain : (backTo cpos (starEach [] X.env)).any (·.1) = false := by rfl)
    (hsw : swapsWith (.Call (.Attribute (.Name x pos') "append" apos) [e] [] cpos) none pos.line X.env = pure false := by rfl) : DS X (.Expr (.Call (.Attribute (.Name x pos') "append" apos) [e] [] cpos) pos) (sdApp i te) := by
  intro W tk
  refine psI (ps_expr (pe_bm PySem.F.plainAttrs_list PySem.F.slot_list_append PySem.F.type_list_append mt_append (pe_var hN hv hd hcd) (pa_cons (he W tk) pa_nil hs) hbase hfew hline hs hplain) hsw) ?_
  rintro Dn σ H ⟨io, env, F, O, D, I, h, k1, k2, k3, k4, k5⟩
  unfold sdApp at h
  cases e0 : gt env i with
  | none => rw [e0] at h; exact h.elim
  | some b0 =>
    rw [e0] at h
    obtain ⟨⟨ds0, hd0⟩, h⟩ := isLst_of h
    obtain ⟨v, h1, h2, _⟩ := I.slot i b0 (gt_some e0)
    have rl := h2.rep I.sub
    rw [hd0] at rl
    obtain ⟨a, vs, rfl, g1, g2⟩ := rl
    refine ⟨.ref a, h1, .inl ⟨rfl, vs, .inl g1⟩, io, env, F, O, _, _, I, h, ?_, k5⟩
    intro x n env2 F2 O2 H2 w P2 A2 T2 r2 h2'
    have A2' := A2.frz T2
    cases e2 : gt env2 i with
    | none => rw [e2] at h2'; exact h2'.elim
    | some b =>
      rw [e2] at h2'
      exact app_end (Qh := fun _ H' => Dn.nx σ H') (p := []) A2' h2' e2 h1 rfl rfl (A2.frz_rep r2) fun env' H' A q => k1 _ _ _ _ _ A q
theorem ds_appendD (ho : DTh X o tp) (he : DE X e te) (hbase : attributeBase o "append" X.env (eval o X.env) = eval o X.env := by rfl)
    (hfew : ((backTo cpos (starEach [e] X.env)).all (fun x => !x.1) && (backToKw cpos (keywordEach [] X.env)).all (fun x => x.1.isSome)
      && decide (([e] : List Expr).length + ([] : List Keyword).length + (if ([] : List Keyword).isEmpty then 0 else 1) < 30)) = true := by rfl)
    (hline : (apos.endLine == cpos.line) = true := by rfl) (hs : starEach (e :: []) X.env = (false, eval e X.env) :: starEach [] X.env := by rfl) (hplain : (backTo cpos (starEach [] X.env)).any (·.1) = false := by rfl)
    (hsw : swapsWith (.Call (.Attribute o "append" apos) [e] [] cpos) none pos.line X.env = pure false := by rfl) : DS X (.Expr (.Call (.Attribute o "append" apos) [e] [] cpos) pos) (sdAppD tp te) := by
  intro W tk
  refine psI (ps_expr (pe_bm PySem.F.plainAttrs_list PySem.F.slot_list_append PySem.F.type_list_append mt_append ho (pa_cons (he W tk) pa_nil hs) hbase hfew hline hs hplain) hsw) ?_
  rintro Dn σ H ⟨io, env, F, O, D, I, h, k1, k2, k3, k4, k5⟩
  refine ⟨io, env, F, O, _, I, h, ?_⟩
  intro s p d b v u H1 e1 hb hv hp hn r1 h1
  obtain ⟨⟨ds, rfl⟩, h1⟩ := isLst_of h1
  rw [hb] at h1
  have rl := r1
  obtain ⟨a, vs, rfl, g1, g2⟩ := rl
  have A1 := (At.start I).ext e1
  obtain ⟨v', s1, s2, s3⟩ := A1.si.slot s b (gt_some hb)
  have ev : v' = v := by rw [hv] at s1; exact (Option.some.inj (Option.some.inj s1)).symm
  subst ev
  have A1d := A1.drop s
  have T1 := A1.tp_slot s
  refine ⟨.inl ⟨rfl, vs, .inl g1⟩, io, _, _, _, _, _, A1d.si, h1, ?_, k5.mv A1d⟩
  intro x n env2 F2 O2 H2 w P2 A2 T2 r2 h2
  have A2' := A2.frz T2
  have T1' := T1.mv A2'.mv
  have A3 := (A1d.trans A2').put (b := b) T1' (s2.mv T1 A2'.mv) hv s3
  -- the place bears the same object as before
  have nst : ∀ (q : List Ac) (m : Nat) (Pq : AP) (dq : DL.D) (vq uq : V), (∀ a, Pq a → O a = some s) → RepO X.K X.mg F H1 (List.length q + m) Pq dq vq → nodeV H1 q vq uq → getP q dq = some (.lst ds) → nodeV H2 q vq uq := by
    intro q
    induction q with
    | nil => intro m Pq dq vq uq _ _ hq _; exact hq
    | cons ac q ih =>
      intro m Pq dq vq uq hP rq hq hg
      have en : (ac :: q).length + m = (q.length + m) + 1 := by simp; omega
      rw [en] at rq
      have hg : (match at1 ac dq with | some e => getP q e | none => none) = some (.lst ds) := hg
      cases q1 : at1 ac dq with
      | none => rw [q1] at hg; cases hg
      | some d1 =>
        rw [q1] at hg
        obtain ⟨u1, P1, f1, f2, f3, f4⟩ := focus1 rq q1
        obtain ⟨w1, P2', c1, _⟩ := focus (p := q) (m := m) f3 hg
        have eq : nodeV H1 (ac :: q) vq w1 := nodeV_cons f1 c1
        have ew := nodeV_inj hq eq
        subst ew
        refine nodeV_cons ?_ (ih m P1 d1 u1 uq (fun a x => hP a (f2 a x)) f3 c1 hg)
        -- one step: the container is owned, so it stands
        cases ac with
        | ix j =>
          cases dq <;> first | cases q1; done | skip
          obtain ⟨a1, vs1, P', z1, z2, z3, _⟩ := rq
          obtain ⟨a2, vs2, w2, y1, y2, y3, y4⟩ := f1
          subst z1
          cases y1
          have ee := rd_inj y2 (.inl z2) (fun _ _ z => nomatch z) (fun _ _ z => nomatch z)
          injection ee with ee
          subst ee
          exact ⟨a1, vs2, w2, rfl, .inl (A2'.mv.fr _ _ z2 (T1.t _ (hP _ z3)).2.1), y3, y4⟩
        | key j =>
          cases dq <;> first | cases q1; done | skip
          obtain ⟨a1, vs1, P', z1, z2, z3, _⟩ := rq
          obtain ⟨a2, vs2, w2, y1, y2, y3, y4⟩ := f1
          subst z1
          cases y1
          have ee := rd_inj y2 (.inl z2) (fun _ _ z => nomatch z) (fun _ _ z => nomatch z)
          injection ee with ee
          subst ee
          exact ⟨a1, vs2, w2, rfl, .inl (A2'.mv.fr _ _ z2 (T1.t _ (hP _ z3)).2.1), y3, y4⟩
        | tky j =>
          cases dq <;> first | cases q1; done | skip
          obtain ⟨a1, vs1, P', z1, z2, z3, _⟩ := rq
          obtain ⟨a2, vs2, w2, y1, y2, y3, y4⟩ := f1
          subst z1
          cases y1
          have ee := rd_inj y2 (.inl z2) (fun _ _ z => nomatch z) (fun _ _ z => nomatch z)
          injection ee with ee
          subst ee
          exact ⟨a1, vs2, w2, rfl, .inl (A2'.mv.fr _ _ z2 (T1.t _ (hP _ z3)).2.1), y3, y4⟩
        | fld j =>
          cases dq <;> first | cases q1; done | skip
          obtain ⟨a1, C1, dx1, vs1, P', z1, z2, z2', zm, z3, _⟩ := rq
          obtain ⟨a2, C2, dx2, vs2, w2, y1, y2, y3, y4⟩ := f1
          subst z1
          cases y1
          rw [z2] at y2
          cases y2
          exact ⟨a1, C1, dx1, vs1, w2, rfl, A2'.mv.fr _ _ z2 (T1.t _ (hP _ z3)).2.1, y3, y4⟩
  have hb3 : gt (env2.set s (some b)) s = some b := gt_of (by
    have hl : s < env2.length := by
      have l1 := A2.si.len
      have l2 := (List.getElem?_eq_some_iff.mp hv).1
      omega
    rw [List.getElem?_set_self hl])
  have hlen : p.length + 1 = b.n := by
    unfold appAt at h2
    rw [hb3] at h2
    have h2 : (match Nat.beq b.n (p.length + 1) with
      | true => ds.length < sizeLine ∧ D.nx _
      | false => False) := h2
    cases en : Nat.beq b.n (p.length + 1) with
    | false => rw [en] at h2; exact h2.elim
    | true => exact (Nat.eq_of_beq_eq_true en).symm
  exact app_end (Qh := fun _ H' => Dn.nx σ H') A3 h2 hb3 hv hp (nst p 1 _ b.d v' _ (fun _ x => x) (by rw [hlen]; exact s2) hn hp) (A2.frz_rep r2) fun env' H' A q => k1 _ _ _ _ _ A q
end
/-! ### x[i] = e -/
def setD : D → D → D → (D → Prop) → Prop
  | .lst ds, .int k, x, Q => match ixI ds.length k with | some j => Q (.lst (ds.set j x)) | none => False
  | .dK kvs, k, x, Q => match keyD k with | some k => kvs.length < sizeLine ∧ Q (.dK (putD kvs k x)) | none => False
  | .dT kvs, .tup ks, x, Q => match keysD ks with | some k => kvs.length < sizeLine ∧ Q (.dT (putD kvs k x)) | none => False
  | _, _, _, _ => False
def setAt (s : Nat) (p : List Ac) (d ix x : D) (env : DEnv) (k : DEnv → Prop) : Prop := match gt env s with
  | some b => match Nat.beq b.n (p.length + 1) with
    | true => setD d ix x fun d' => k (env.set s (some { b with d := setP p d' b.d }))
    | false => False
  | none => False
/-- place[ix] = e, ix a pure peek -/
def sdSetP (tp : PTh) (ti : PUT) (te : ET) : SD := fun env D => te env (fun x _ env1 => tp env1 fun s p d => ti env1 fun ix => setAt s p d ix x env1 D.nx) D.ex
/-- x[ix] = e, x a local: its data as they stand behind both -/
def sdSetI (i : Nat) (ti te : ET) : SD := fun env D => te env (fun x _ env1 => match gt env1 i with
  | some _ => ti env1 (fun ix _ env2 => match gt env2 i with | some b => setAt i [] b.d ix x env2 D.nx | none => False) D.ex
  | none => False) D.ex
def rSetA : TSet := fun o i v H Q => rSetL o i v H Q ∨ ∃ a H', o = .ref a ∧ DPut H a i v H' ∧ Q H'
theorem set_any {X : Cx} (hu : X.A.units + 1 < cLine) : PSet X rSetA := by
  intro pins s σ H o i v ov iv u Q I r1 r2 r3 h
  rcases h with h | ⟨a, H', rfl, g, q⟩
  · exact set_list pins s σ H o i v ov iv u Q I r1 r2 r3 h
  · cases r1
    exact d_setItem hu I g r2 r3 fun s4 I4 => ⟨H', I4, q⟩
section
variable {K : PySem.W.Frag} {mg : MG} {F : Hp}
theorem keys_any {κ : Type} [DecidableEq κ] {k : κ} : ∀ {kvs : List (κ × D)} {vs : List (κ × V)}, kvs.map (·.1) = vs.map (·.1) → (kvs.any fun kv => decide (kv.1 = k)) = vs.any fun kv => decide (kv.1 = k)
  | [], [], _ => rfl
  | [], _ :: _, h => by simp at h
  | _ :: _, [], h => by simp at h
  | (a, b) :: r, (c, d) :: t, h => by
    have h' : a = c ∧ r.map (·.1) = t.map (·.1) := by simpa using h
    rw [List.any_cons, List.any_cons, keys_any h'.2]
    rw [show ((a, b) : κ × D).1 = ((c, d) : κ × V).1 from h'.1]
theorem RepK.append : ∀ {ds es : List (Key × D)} {vs ws : List (Key × V)}, RepK K mg F ds vs → RepK K mg F es ws → RepK K mg F (ds ++ es) (vs ++ ws)
  | [], _, _, _, h, g => by cases (show _ = ([] : List (Key × V)) from h); exact g
  | (k, d) :: _, _, _, ws, ⟨v, r, h1, h2, h3⟩, g => ⟨v, r ++ ws, by subst h1; rfl, h2, RepK.append h3 g⟩
theorem RepT.append : ∀ {ds es : List (List Key × D)} {vs ws : List (List Key × V)}, RepT K mg F ds vs → RepT K mg F es ws → RepT K mg F (ds ++ es) (vs ++ ws)
  | [], _, _, _, h, g => by cases (show _ = ([] : List (List Key × V)) from h); exact g
  | (k, d) :: _, _, _, ws, ⟨v, r, h1, h2, h3⟩, g => ⟨v, r ++ ws, by subst h1; rfl, h2, RepT.append h3 g⟩
theorem RepK.put {kvs : List (Key × D)} {vs : List (Key × V)} {k : Key} {x : D} {w : V} (r : RepK K mg F kvs vs) (rx : Rep K mg F x w) : RepK K mg F (putD kvs k x) (putK vs k w) := by
  unfold putD putK
  rw [keys_any (RepK.keys r).1]
  split
  · have go : ∀ {kvs : List (Key × D)} {vs : List (Key × V)}, RepK K mg F kvs vs → RepK K mg F (kvs.map fun kv => if kv.1 = k then (kv.1, x) else kv) (vs.map fun kv => if kv.1 = k then (kv.1, w) else kv) := by
      intro kvs
      induction kvs with
      | nil => intro vs h; cases (show _ = ([] : List (Key × V)) from h); rfl
      | cons p t ih =>
        rintro vs h
        obtain ⟨k0, d0⟩ := p
        obtain ⟨v, r, h1, h2, h3⟩ := h
        subst h1
        rw [List.map_cons, List.map_cons]
        by_cases e : k0 = k
        · rw [if_pos (show (k0, d0).1 = k from e), if_pos (show (k0, v).1 = k from e)]
          exact ⟨w, _, rfl, rx, ih h3⟩
        · rw [if_neg (show ¬ (k0, d0).1 = k from e), if_neg (show ¬ (k0, v).1 = k from e)]
          exact ⟨v, _, rfl, h2, ih h3⟩
    exact go r
  · exact r.append ⟨w, [], rfl, rx, rfl⟩
theorem RepT.put {kvs : List (List Key × D)} {vs : List (List Key × V)} {k : List Key} {x : D} {w : V} (r : RepT K mg F kvs vs) (rx : Rep K mg F x w) : RepT K mg F (putD kvs k x) (putK vs k w) := by
  unfold putD putK
  rw [keys_any (RepT.keys r).1]
  split
  · have go : ∀ {kvs : List (List Key × D)} {vs : List (List Key × V)}, RepT K mg F kvs vs → RepT K mg F (kvs.map fun kv => if kv.1 = k then (kv.1, x) else kv) (vs.map fun kv => if kv.1 = k then (kv.1, w) else kv) := by
      intro kvs
      induction kvs with
      | nil => intro vs h; cases (show _ = ([] : List (List Key × V)) from h); rfl
      | cons p t ih =>
        rintro vs h
        obtain ⟨k0, d0⟩ := p
        obtain ⟨v, r, h1, h2, h3⟩ := h
        subst h1
        rw [List.map_cons, List.map_cons]
        by_cases e : k0 = k
        · rw [if_pos (show (k0, d0).1 = k from e), if_pos (show (k0, v).1 = k from e)]
          exact ⟨w, _, rfl, rx, ih h3⟩
        · rw [if_neg (show ¬ (k0, d0).1 = k from e), if_neg (show ¬ (k0, v).1 = k from e)]
          exact ⟨v, _, rfl, h2, ih h3⟩
    exact go r
  · exact r.append ⟨w, [], rfl, rx, rfl⟩
end
theorem set_end {K : PySem.W.Frag} {mg : MG} {io : Nat → Option V} {env : DEnv} {σ : L2.St} {F F1 H H1 : Hp} {O O1 : OW} {s : Nat} {p : List Ac} {d x ix : D} {k : DEnv → Prop} {b : Bd} {v u w wi : V} {Qh : Hp → Prop} {H2 : Hp}
    (A : At K mg io F O H env σ F1 O1 H1) (h : setAt s p d ix x env k) (hb : gt env s = some b) (hs : σ[s]? = some (some v)) (hp : getP p b.d = some d) (hn : nodeV H1 p v u) (rw_ : Rep K mg F1 x w) (ri : Rep K mg H1 ix wi)
    (kk : ∀ env' H', At K mg io F O H env' σ F1 O1 H' → k env' → Qh H') : rSetA u wi w H1 Qh := by
  unfold setAt at h
  rw [hb] at h
  replace h : (match Nat.beq b.n (p.length + 1) with
    | true => setD d ix x fun d' => k (env.set s (some { b with d := setP p d' b.d }))
    | false => False) := h
  cases en : Nat.beq b.n (p.length + 1) with
  | false => rw [en] at h; exact h.elim
  | true =>
    rw [en] at h
    obtain ⟨v', u', P1, s1, g1, g2, g3⟩ := A.store (gt_some hb) (Nat.eq_of_beq_eq_true en) hp
    have ev : v' = v := by rw [hs] at s1; exact (Option.some.inj (Option.some.inj s1)).symm
    subst ev
    have eu := nodeV_inj hn g1
    subst eu
    cases d with
    | lst ds =>
      cases ix <;> first | exact (show False from h).elim | skip
      rename_i kk'
      cases (show wi = _ from ri)
      obtain ⟨a, vs, rfl, k1, k2, k3⟩ := ro_lst g2
      have h : (match ixI ds.length kk' with | some j => k (env.set s (some { b with d := setP p (.lst (ds.set j x)) b.d })) | none => False) := h
      rw [ixI_eq] at h
      cases ej : ixN ds.length kk' with
      | none => rw [ej] at h; exact h.elim
      | some j =>
        rw [ej] at h
        exact .inl ⟨a, vs, kk', j, rfl, rfl, k1, by rw [k3.length]; exact ej, kk _ _ (g3 a (.lst (vs.set j w)) _ k2 (ro_lst_mk upd_same k2 (k3.set j rw_))) h⟩
    | dK kvs =>
      obtain ⟨a, vs, rfl, k1, k2, k3⟩ := ro_dK g2
      have h : (match keyD ix with | some kx => kvs.length < sizeLine ∧ k (env.set s (some { b with d := setP p (.dK (putD kvs kx x)) b.d })) | none => False) := by cases ix <;> exact h
      cases ek : keyD ix with
      | none => rw [ek] at h; exact h.elim
      | some key =>
        rw [ek] at h
        have ew := keyD_v ek ri
        have el : vs.length = kvs.length := by have := congrArg List.length (RepK.keys k3).1; simpa using this.symm
        exact .inr ⟨a, _, rfl, .inl ⟨vs, key, k1, ew, by rw [el]; exact h.1, rfl⟩, kk _ _ (g3 a (.dK (putK vs key w)) _ k2 (ro_dK_mk upd_same k2 (k3.put rw_))) h.2⟩
    | dT kvs =>
      cases ix <;> first | exact (show False from h).elim | skip
      rename_i ks
      obtain ⟨b', ws, rfl, t1, t2⟩ := ri
      obtain ⟨a, vs, rfl, k1, k2, k3⟩ := ro_dT g2
      have h : (match keysD ks with | some kx => kvs.length < sizeLine ∧ k (env.set s (some { b with d := setP p (.dT (putD kvs kx x)) b.d })) | none => False) := h
      cases ek : keysD ks with
      | none => rw [ek] at h; exact h.elim
      | some key =>
        rw [ek] at h
        have ew := keysD_v ek t2
        subst ew
        have el : vs.length = kvs.length := by have := congrArg List.length (RepT.keys k3).1; simpa using this.symm
        exact .inr ⟨a, _, rfl, .inr ⟨vs, key, b', k1, rfl, t1, by rw [el]; exact h.1, rfl⟩, kk _ _ (g3 a (.dT (putK vs key w)) _ k2 (ro_dT_mk upd_same k2 (k3.put rw_))) h.2⟩
    | _ => exact (show False from h).elim
section
variable {X : Cx} {o i e : Expr} {tp : PTh} {ti te : ET} {pi : PUT} {pos pos' : Pos}
theorem ds_setP (hu : X.A.units + 1 < cLine) (he : DE X e te) (ho : DTh X o tp) (hi : PU X i pi)
    (ha : ∀ v, assign (.Subscript o i pos') X.env v = (do
      let ov ← holding [v] (eval o X.env)
      let iv ← holding [v, ov] (eval i X.env)
      standAt pos'
      holding [v, ov, iv] (setItem ov iv v)
      release [v, ov, iv] []) := by intro _; rfl)
    (hs : swapsWithSole [.Subscript o i pos'] e pos.line X.env = pure false := by rfl) (hw : swappedStores [.Subscript o i pos'] e X.env = pure none := by rfl) (h1 : List.map (fun x => x.snd) (assignEach [.Subscript o i pos'] X.env) = [assign (.Subscript o i pos') X.env] := by rfl) :
    DS X (.Assign [.Subscript o i pos'] e pos) (sdSetP tp pi te) := by
  intro W tk
  refine psI (ps_asg (he W tk) (pg_sub ho hi (set_any hu) ha) hs hw (h1 := h1)) ?_
  rintro Dn σ H ⟨io, env, F, O, D, I, h, k1, k2, k3, k4, k5⟩
  refine ⟨io, env, F, O, _, _, I, h, ?_, k5⟩
  intro x n env1 F1 O1 H1 w P A1 T1 r1 q1
  have A1' := A1.frz T1
  refine ⟨io, env1, _, O1, _, A1'.si, q1, ?_⟩
  intro s p d b v u H2 e2 hb hv hp hn rd q2
  refine ⟨io, env1, _, O1, _, A1'.si.ext e2, q2, ?_⟩
  intro ix wi H3 e3 ri q3
  exact set_end (H2 := H2) (A1'.ext (e2.trans e3)) q3 hb hv hp (nodeV_mono e3 hn) (A1.frz_rep r1) ri fun env' H' A q => k1 _ _ _ _ _ A q
theorem ds_setI (s : Nat) {x : Str} {posx : Pos} (hu : X.A.units + 1 < cLine) (he : DE X e te) (hi : DE X i ti) (hN : X.N[s]? = some x := by rfl) (hv : Vis X.env.scope x := by first | exact Or.inl rfl | exact Or.inr (Or.inl rfl) | exact Or.inr (Or.inr rfl))
    (hd : (x == ("__debug__" : Str)) = false := by decide) (hcd : (x == ("__classdict__" : Str)) = false := by decide)
    (ha : ∀ v, assign (.Subscript (.Name x posx) i pos') X.env v = (do
      let ov ← holding [v] (eval (.Name x posx) X.env)
      let iv ← holding [v, ov] (eval i X.env)
      standAt pos'
      holding [v, ov, iv] (setItem ov iv v)
      release [v, ov, iv] []) := by intro _; rfl)
    (hs : swapsWithSole [.Subscript (.Name x posx) i pos'] e pos.line X.env = pure false := by rfl) (hw : swappedStores [.Subscript (.Name x posx) i pos'] e X.env = pure none := by rfl)
    (h1 : List.map (fun x => x.snd) (assignEach [.Subscript (.Name x posx) i pos'] X.env) = [assign (.Subscript (.Name x posx) i pos') X.env] := by rfl) :
    DS X (.Assign [.Subscript (.Name x posx) i pos'] e pos) (sdSetI s ti te) := by
  intro W tk
  refine psI (ps_asg (he W tk) (pg_sub (pe_var hN hv hd hcd) (hi W tk) (set_any hu) ha) hs hw (h1 := h1)) ?_
  rintro Dn σ H ⟨io, env, F, O, D, I, h, k1, k2, k3, k4, k5⟩
  refine ⟨io, env, F, O, _, _, I, h, ?_, k5⟩
  intro x n env1 F1 O1 H1 w P A1 T1 r1 q1
  have A1' := A1.frz T1
  have r1' := A1.frz_rep r1
  cases e1 : gt env1 s with
  | none => rw [e1] at q1; exact q1.elim
  | some b1 =>
    rw [e1] at q1
    obtain ⟨v, g1, _, _⟩ := A1'.si.slot s b1 (gt_some e1)
    refine ⟨v, g1, io, env1, _, O1, _, _, A1'.si, q1, ?_, k5.mv A1'⟩
    intro ix m env2 F2 O2 H2 wi P2 A2 T2 r2 q2
    have A2' := A2.frz T2
    cases e2 : gt env2 s with
    | none => rw [e2] at q2; exact q2.elim
    | some b =>
      rw [e2] at q2
      exact set_end (H2 := H2) (p := []) (A1'.trans A2') q2 e2 g1 rfl rfl (Rep.mono A2'.mv.ff r1') ((A2.frz_rep r2).mono A2'.si.sub) fun env' H' A q => k1 _ _ _ _ _ A q
end
end DL
set_option Elab.async false
set_option linter.all false
set_option maxRecDepth 100000
/-! DLl: the data layer, part l: what a for walks; isinstance; slices; methods of texts; all, any, sum; range lists. -/
namespace DL
open PySem L2 PySem.Spec PyProof.Rows

/-! ### what a for walks -/
def seqD (d : D) (Q : List D → Prop) : Prop := match d with
  | .lst ds => Q ds
  | .tup ds => Q ds
  | .ktu ds => Q ds
  | .str s => Q (s.cps.toList.map fun c => .str ⟨#[c]⟩)
  | _ => False
def itSeq (t : ET) : ITd := fun env Q R => t env (fun d _ env1 => seqD d fun ds => Q ds env1) R
theorem pi_or {X : Cx} {tg iter : Expr} {t t' : TI} (h : PI X tg iter t) (h' : PI X tg iter t') : PI X tg iter (fun σ H R => t σ H R ∨ t' σ H R) := ⟨fun pins s σ H R I w => w.elim (h.run pins s σ H R I) (h'.run pins s σ H R I)⟩
section
variable {K : PySem.W.Frag} {mg : MG} {F : Hp}
theorem itok_list {a : Addr} {ds : List D} {vs : List V} (h1 : Rd F a (.lst vs)) (h2 : Reps K mg F ds vs) : ItOk K mg (Itl K a) ds F where
  go := fun i H e hi => by
    have hv : i < vs.length := by rw [h2.length]; exact hi
    exact ⟨vs, vs[i], .inl (rd_mono e h1), List.getElem?_eq_getElem hv⟩
  stop := fun i H e hi => ⟨vs, .inl (rd_mono e h1), by rw [h2.length]; exact hi⟩
  yld := fun i H v H' e _ ⟨e1, y⟩ => by
    obtain ⟨d, hd, r⟩ := h2.get' (y vs (.inl (rd_mono e h1)))
    exact ⟨d, hd, .inl ⟨e1, r⟩⟩
theorem itok_tup {a : Addr} {ds : List D} {vs : List V} (h1 : SqT K F a vs) (h2 : Reps K mg F ds vs) : ItOk K mg (Itt K a) ds F where
  go := fun i H e hi => by
    have hv : i < vs.length := by rw [h2.length]; exact hi
    exact ⟨vs, vs[i], sqt_mono e h1, List.getElem?_eq_getElem hv⟩
  stop := fun i H e hi => ⟨vs, sqt_mono e h1, by rw [h2.length]; exact hi⟩
  yld := fun i H v H' e _ ⟨e1, y⟩ => by
    obtain ⟨d, hd, r⟩ := h2.get' (y vs (sqt_mono e h1))
    exact ⟨d, hd, .inl ⟨e1, r⟩⟩
theorem itok_str {s : Str} : ItOk K mg (Its s) (s.cps.toList.map fun c => .str ⟨#[c]⟩) F where
  go := fun i H e hi => by
    rw [List.length_map, Array.length_toList] at hi
    exact hi
  stop := fun i H e hi => by
    rw [List.length_map, Array.length_toList] at hi
    exact hi
  yld := fun i H v H' e _ ⟨e1, c, hc, ev⟩ => ⟨.str ⟨#[c]⟩, by rw [List.getElem?_map, Array.getElem?_toList, hc]; rfl, .inl ⟨e1, ev⟩⟩
def rngD (lo : Int) (n : Nat) : List D := (List.range n).map fun (i : Nat) => D.int (lo + (i : Int))
def rngC (lo c : Int) (n : Nat) : List D := (List.range n).map fun (i : Nat) => D.int (lo + (i : Int) * c)
theorem rngD_len {lo : Int} {n : Nat} : (rngD lo n).length = n := by simp [rngD]
theorem rngC_len {lo c : Int} {n : Nat} : (rngC lo c n).length = n := by simp [rngC]
theorem rngD_get {lo : Int} {n i : Nat} (h : i < n) : (rngD lo n)[i]? = some (.int (lo + (i : Int))) := by simp [rngD, h]
theorem rngC_get {lo c : Int} {n i : Nat} (h : i < n) : (rngC lo c n)[i]? = some (.int (lo + (i : Int) * c)) := by simp [rngC, h]
theorem itok_rng {lo : Int} {n : Nat} : ItOk K mg (Itr lo n) (rngD lo n) F where
  go := fun i H e hi => by rw [rngD_len] at hi; exact hi
  stop := fun i H e hi => by rw [rngD_len] at hi; exact hi
  yld := fun i H v H' e hi ⟨e1, ev⟩ => ⟨.int (lo + i), rngD_get (by rw [rngD_len] at hi; exact hi), .inl ⟨e1, ev⟩⟩
theorem itok_rngC {lo c : Int} {n : Nat} : ItOk K mg (Itc lo c n) (rngC lo c n) F where
  go := fun i H e hi => by rw [rngC_len] at hi; exact hi
  stop := fun i H e hi => by rw [rngC_len] at hi; exact hi
  yld := fun i H v H' e hi ⟨e1, ev⟩ => ⟨.int (lo + i * c), rngC_get (by rw [rngC_len] at hi; exact hi), .inl ⟨e1, ev⟩⟩
/-- pairs of a number and an item -/
def enumD (ds : List D) : List D := (List.range ds.length).map fun (i : Nat) => D.tup [.int (i : Int), ds.getD i .non]
theorem enumD_len {ds : List D} : (enumD ds).length = ds.length := by simp [enumD]
theorem enumD_get {ds : List D} {i : Nat} {d : D} (h : ds[i]? = some d) : (enumD ds)[i]? = some (.tup [.int (i : Int), d]) := by
  have hl := (List.getElem?_eq_some_iff.mp h).1
  have hg := (List.getElem?_eq_some_iff.mp h).2
  simp [enumD, hl, hg]
theorem itok_enum {a : Addr} {ds : List D} {vs : List V} (h1 : Rd F a (.lst vs)) (h2 : Reps K mg F ds vs) : ItOk K mg (Ite K a) (enumD ds) F where
  go := fun i H e hi => by
    rw [enumD_len] at hi
    have hv : i < vs.length := by rw [h2.length]; exact hi
    exact ⟨vs, vs[i], .inl (rd_mono e h1), List.getElem?_eq_getElem hv⟩
  stop := fun i H e hi => ⟨vs, .inl (rd_mono e h1), by rw [enumD_len] at hi; rw [h2.length]; exact hi⟩
  yld := fun i H v H' e _ ⟨p, x, ev, hp, eh, y⟩ => by
    obtain ⟨d, hd, r⟩ := h2.get' (y vs (.inl (rd_mono e h1)))
    exact ⟨_, enumD_get hd, .inr ⟨p, _, _, ev, hp, eh, rfl, ⟨_, _, rfl, rfl, _, _, rfl, r, rfl⟩⟩⟩
def zipD : List D → List D → List D
  | x :: xs, y :: ys => .tup [x, y] :: zipD xs ys
  | _, _ => []
theorem zipD_get : ∀ {xs ys : List D} {i : Nat} {x y : D}, xs[i]? = some x → ys[i]? = some y → (zipD xs ys)[i]? = some (.tup [x, y])
  | a :: xs, b :: ys, 0, x, y, h, g => by
    have e1 : a = x := by simpa using h
    have e2 : b = y := by simpa using g
    subst e1; subst e2
    rfl
  | a :: xs, b :: ys, i + 1, x, y, h, g => by simpa [zipD] using zipD_get (xs := xs) (ys := ys) (i := i) (by simpa using h) (by simpa using g)
  | [], _, _, _, _, h, _ => by simp at h
  | _ :: _, [], _, _, _, _, g => by simp at g
theorem zipD_len : ∀ {xs ys : List D}, (zipD xs ys).length = min xs.length ys.length
  | [], _ => by simp [zipD]
  | _ :: _, [] => by simp [zipD]
  | a :: xs, b :: ys => by simp [zipD, zipD_len (xs := xs) (ys := ys)]
theorem itok_zip {a b : Addr} {ds es : List D} {vs ws : List V} (h1 : Rd F a (.lst vs)) (h2 : Reps K mg F ds vs) (g1 : Rd F b (.lst ws)) (g2 : Reps K mg F es ws) : ItOk K mg (Itz K a b) (zipD ds es) F where
  go := fun i H e hi => by
    rw [zipD_len] at hi
    have hv : i < vs.length := by rw [h2.length]; omega
    have hw : i < ws.length := by rw [g2.length]; omega
    exact ⟨vs, ws, vs[i], ws[i], .inl (rd_mono e h1), .inl (rd_mono e g1), List.getElem?_eq_getElem hv, List.getElem?_eq_getElem hw⟩
  stop := fun i H e hi => ⟨vs, ws, .inl (rd_mono e h1), .inl (rd_mono e g1), by rw [zipD_len] at hi; rw [h2.length, g2.length]; omega⟩
  yld := fun i H v H' e _ ⟨p, x, y, ev, hp, eh, y1, y2⟩ => by
    obtain ⟨d, hd, r⟩ := h2.get' (y1 vs (.inl (rd_mono e h1)))
    obtain ⟨d', hd', r'⟩ := g2.get' (y2 ws (.inl (rd_mono e g1)))
    exact ⟨_, zipD_get hd hd', .inr ⟨p, _, _, ev, hp, eh, rfl, ⟨_, _, rfl, r, _, _, rfl, r', rfl⟩⟩⟩
theorem itok_rev {a : Addr} {ds : List D} {vs : List V} (h1 : Rd F a (.lst vs)) (h2 : Reps K mg F ds vs) : ItOk K mg (Itv K a vs.length) ds.reverse F where
  go := fun i H e hi => by
    rw [List.length_reverse] at hi
    have hv : vs.length - 1 - i < vs.length := by rw [h2.length]; omega
    exact ⟨by rw [h2.length]; exact hi, vs, vs[vs.length - 1 - i], .inl (rd_mono e h1), List.getElem?_eq_getElem hv⟩
  stop := fun i H e hi => by
    rw [List.length_reverse] at hi
    show vs.length ≤ i
    rw [h2.length]; exact hi
  yld := fun i H v H' e hi ⟨e1, y⟩ => by
    rw [List.length_reverse] at hi
    obtain ⟨d, hd, r⟩ := h2.get' (y vs (.inl (rd_mono e h1)))
    refine ⟨d, ?_, .inl ⟨e1, r⟩⟩
    rw [List.getElem?_reverse hi, ← h2.length]
    exact hd
end
/-- any of a list, a tuple, a text -/
theorem pi_any {X : Cx} {tg l : Expr} {tl : TE} (hl : PE X l tl) : PI X tg l (fun σ H R => tl σ H fun x H1 => (∃ a, x = .ref a ∧ (∃ xs, SqL X.K H1 a xs) ∧ R (Itl X.K a) H1) ∨ (∃ a, x = .ref a ∧ (∃ xs, SqT X.K H1 a xs) ∧ R (Itt X.K a) H1) ∨ ∃ z, x = .str z ∧ R (Its z) H1) := by
  refine ⟨fun pins s σ H R I h => ?_⟩
  refine thn (hl.run pins s σ H _ I h) fun v s1 ⟨x, H1, I1, r1, q1⟩ => ?_
  rcases q1 with ⟨a, e, ⟨xs, hq⟩, q⟩ | ⟨a, e, ⟨xs, hq⟩, q⟩ | ⟨z, ez, q⟩
  · subst e
    cases r1
    obtain ⟨its, rv, p, hz⟩ := I1.list hq
    refine wpAny_pyIter_list p.isList ?_
    refine ⟨s1.heap.objs.size, [s1.heap.objs.size], _, _, H1, rfl, I1.kept (t' := s1.toks) fun b o e => Heap.get?_push_of_some _ e, turn_list a _, ⟨_, Heap.get?_push_size _ rfl, rfl, rfl⟩, fun b hb => ?_, q⟩
    have e : b = s1.heap.objs.size := by simpa using hb
    subst e
    exact I1.fpOk (Nat.le_refl _) (I1.hok.fresh (Nat.le_refl _))
  · subst e
    cases r1
    obtain ⟨its, rv, p, hz⟩ := I1.tuple hq
    refine wpAny_pyIter_tuple (show s1.heap.IsTuple a its.toArray from p) ?_
    refine ⟨s1.heap.objs.size, [s1.heap.objs.size], _, _, H1, rfl, I1.kept (t' := s1.toks) fun b o e => Heap.get?_push_of_some _ e, turn_tuple a _, ⟨_, Heap.get?_push_size _ rfl, rfl, rfl⟩, fun b hb => ?_, q⟩
    have e : b = s1.heap.objs.size := by simpa using hb
    subst e
    exact I1.fpOk (Nat.le_refl _) (I1.hok.fresh (Nat.le_refl _))
  · subst ez
    obtain ⟨t, rfl⟩ := r1
    cases ha : z.cps.all (· < 128)
    · exact wpAny_pyIter_wide ha (pi_one (tk := s1.toks) I1 _ (turn_str _ z t "str_iterator" (.inr rfl)) ⟨_, Heap.get?_push_size _ rfl, rfl, rfl⟩ q)
    · exact wpAny_pyIter_ascii ha (pi_one (tk := s1.toks) I1 _ (turn_str _ z t "str_ascii_iterator" (.inl rfl)) ⟨_, Heap.get?_push_size _ rfl, rfl, rfl⟩ q)
def itN (od : List D → (List D → Prop) → Prop) (t : AT) : ITd := fun env Q R => t env (fun xs env1 => od xs fun ds => Q ds env1) R
def odRng1 : List D → (List D → Prop) → Prop
  | [.int j], Q => (-(2 ^ 62) ≤ j ∧ j < 2 ^ 62) ∧ Q (rngD 0 j.toNat)
  | _, _ => False
def odRng2 : List D → (List D → Prop) → Prop
  | [.int i, .int j], Q => (-(2 ^ 62) ≤ i ∧ i < 2 ^ 62 ∧ -(2 ^ 62) ≤ j ∧ j < 2 ^ 62) ∧ Q (rngD i (j - i).toNat)
  | _, _ => False
/-- range(i, j, c): going down by one, or any step whose number of turns is told -/
def odRng3 : List D → (List D → Prop) → Prop
  | [.int i, .int j, .int c], Q => ∃ n, RgC i j c n ∧ Q (rngC i c n)
  | _, _ => False
def odEnum : List D → (List D → Prop) → Prop
  | [.lst ds], Q => Q (enumD ds)
  | _, _ => False
def odZip : List D → (List D → Prop) → Prop
  | [.lst ds, .lst es], Q => Q (zipD ds es)
  | _, _ => False
def odRev : List D → (List D → Prop) → Prop
  | [.lst ds], Q => Q ds.reverse
  | _, _ => False
section
variable {X : Cx} {tg e e2 e3 : Expr} {es : List Expr} {t : ET} {ta : AT} {p pos tpos : Pos} {elts : List Expr} {kk : Nat}
theorem di_seq (h : DE X e t) : DI X tg e (itSeq t) := by
  intro W tk
  refine piI (pi_any (h W tk)) ?_
  rintro σ H R' ⟨io, env, F, O, Q, R, I, q, k, kX⟩
  refine ⟨io, env, F, O, _, R, I, q, ?_, kX⟩
  intro d n env1 F1 O1 H1 v P A1 T1 r1 h1
  have A1' := A1.frz T1
  have r1' := A1.frz_rep r1
  cases d with
  | lst ds =>
    obtain ⟨a, vs, rfl, g1, g2⟩ := r1'
    exact .inl ⟨a, rfl, ⟨vs, .inl (rd_mono A1'.si.sub g1)⟩, k ds env1 _ O1 H1 _ A1' (itok_list g1 g2) h1⟩
  | tup ds =>
    obtain ⟨a, vs, rfl, g1, g2⟩ := r1'
    exact .inr (.inl ⟨a, rfl, ⟨vs, .inl (.inl (A1'.si.sub _ _ g1))⟩, k ds env1 _ O1 H1 _ A1' (itok_tup (.inl (.inl g1)) g2) h1⟩)
  | ktu ds =>
    obtain ⟨a, vs, rfl, g1, g2⟩ := r1'
    exact .inr (.inl ⟨a, rfl, ⟨vs, sqt_mono A1'.si.sub g1⟩, k ds env1 _ O1 H1 _ A1' (itok_tup g1 g2) h1⟩)
  | str s =>
    cases (show v = _ from r1')
    exact .inr (.inr ⟨s, rfl, k _ env1 _ O1 H1 _ A1' itok_str h1⟩)
  | _ => exact (show False from h1).elim
theorem di_rng1 (hm : X.mg "range" = none) (ha : DA X [e] ta) (hg : Gl X "range" := by rfl) (hs : starEach [e] X.env = [(false, eval e X.env)] := by rfl) : DI X tg (.Call (.Name "range" p) [e] [] pos) (itN odRng1 ta) := by
  intro W tk
  refine piI (pi_range1 hg hm (ha W tk) hs) ?_
  rintro σ H R' ⟨io, env, F, O, Q, R, I, q, k, kX⟩
  refine ⟨io, env, F, O, _, R, I, q, ?_, kX⟩
  intro xs env1 F1 O1 H1 vs A1 r1 h1
  match xs, h1, r1 with
  | [.int j], h1, r1 =>
    obtain ⟨v, _, rfl, rv, rfl⟩ := r1
    cases (show v = _ from rv)
    exact ⟨j, rfl, h1.1.1, h1.1.2, k _ env1 F1 O1 H1 _ A1 itok_rng h1.2⟩
theorem di_rng2 (hm : X.mg "range" = none) (ha : DA X [e, e2] ta) (hg : Gl X "range" := by rfl) (hs : starEach [e, e2] X.env = [(false, eval e X.env), (false, eval e2 X.env)] := by rfl) (hs2 : starEach [e2] X.env = [(false, eval e2 X.env)] := by rfl) :
    DI X tg (.Call (.Name "range" p) [e, e2] [] pos) (itN odRng2 ta) := by
  intro W tk
  refine piI (pi_range2 hg hm (ha W tk) hs hs2) ?_
  rintro σ H R' ⟨io, env, F, O, Q, R, I, q, k, kX⟩
  refine ⟨io, env, F, O, _, R, I, q, ?_, kX⟩
  intro xs env1 F1 O1 H1 vs A1 r1 h1
  match xs, h1, r1 with
  | [.int i, .int j], h1, r1 =>
    obtain ⟨v, _, rfl, rv, w, _, rfl, rw_, rfl⟩ := r1
    cases (show v = _ from rv)
    cases (show w = _ from rw_)
    exact ⟨i, j, rfl, h1.1, k _ env1 F1 O1 H1 _ A1 itok_rng h1.2⟩
theorem di_rng3 (hm : X.mg "range" = none) (ha : DA X [e, e2, e3] ta) (hg : Gl X "range" := by rfl) (hs : starEach [e, e2, e3] X.env = (false, eval e X.env) :: starEach [e2, e3] X.env := by rfl) (hpl : (backTo pos (starEach [e2, e3] X.env)).any (·.1) = false := by rfl) :
    DI X tg (.Call (.Name "range" p) [e, e2, e3] [] pos) (itN odRng3 ta) := by
  intro W tk
  refine piI (pi_range3 hg hm (ha W tk) hs hpl) ?_
  rintro σ H R' ⟨io, env, F, O, Q, R, I, q, k, kX⟩
  refine ⟨io, env, F, O, _, R, I, q, ?_, kX⟩
  intro xs env1 F1 O1 H1 vs A1 r1 h1
  match xs, h1, r1 with
  | [.int i, .int j, .int c], ⟨n, hn, h1⟩, r1 =>
    obtain ⟨v, _, rfl, rv, w, _, rfl, rw_, u, _, rfl, ru, rfl⟩ := r1
    cases (show v = _ from rv)
    cases (show w = _ from rw_)
    cases (show u = _ from ru)
    exact ⟨i, j, c, n, rfl, hn, k _ env1 F1 O1 H1 _ A1 itok_rngC h1⟩
theorem di_zip (hm : X.mg "zip" = none) (ha : DA X [e, e2] ta) (hg : Gl X "zip" := by rfl) (hs : starEach [e, e2] X.env = (false, eval e X.env) :: starEach [e2] X.env := by rfl) (hpl : (backTo pos (starEach [e2] X.env)).any (·.1) = false := by rfl) :
    DI X (.Tuple elts kk tpos) (.Call (.Name "zip" p) [e, e2] [] pos) (itN odZip ta) := by
  intro W tk
  refine piI (pi_zip hg hm (ha W tk) hs hpl) ?_
  rintro σ H R' ⟨io, env, F, O, Q, R, I, q, k, kX⟩
  refine ⟨io, env, F, O, _, R, I, q, ?_, kX⟩
  intro xs env1 F1 O1 H1 vs A1 r1 h1
  match xs, h1, r1 with
  | [.lst ds, .lst es], h1, r1 =>
    obtain ⟨v, _, rfl, ⟨a, vs, rfl, g1, g2⟩, w, _, rfl, ⟨b, ws, rfl, t1, t2⟩, rfl⟩ := r1
    exact ⟨a, b, vs, ws, rfl, .inl (rd_mono A1.si.sub g1), .inl (rd_mono A1.si.sub t1), k _ env1 F1 O1 H1 _ A1 (itok_zip g1 g2 t1 t2) h1⟩
theorem di_rev (hm : X.mg "reversed" = none) (ha : DA X [e] ta) (hg : Gl X "reversed" := by rfl) (hs : starEach [e] X.env = [(false, eval e X.env)] := by rfl) : DI X tg (.Call (.Name "reversed" p) [e] [] pos) (itN odRev ta) := by
  intro W tk
  refine piI (pi_reversed hg hm (ha W tk) hs) ?_
  rintro σ H R' ⟨io, env, F, O, Q, R, I, q, k, kX⟩
  refine ⟨io, env, F, O, _, R, I, q, ?_, kX⟩
  intro xs env1 F1 O1 H1 vs A1 r1 h1
  match xs, h1, r1 with
  | [.lst ds], h1, r1 =>
    obtain ⟨v, _, rfl, ⟨a, vs, rfl, g1, g2⟩, rfl⟩ := r1
    exact ⟨a, vs, rfl, .inl (rd_mono A1.si.sub g1), k _ env1 F1 O1 H1 _ A1 (itok_rev g1 g2) h1⟩
theorem di_enumL (hm : X.mg "enumerate" = none) (ha : DA X [e] ta) (hg : Gl X "enumerate" := by rfl) (hs : starEach [e] X.env = [(false, eval e X.env)] := by rfl) : DI X (.Tuple elts kk tpos) (.Call (.Name "enumerate" p) [e] [] pos) (itN odEnum ta) := by
  intro W tk
  refine piI (pi_enum hg hm (ha W tk) hs) ?_
  rintro σ H R' ⟨io, env, F, O, Q, R, I, q, k, kX⟩
  refine ⟨io, env, F, O, _, R, I, q, ?_, kX⟩
  intro xs env1 F1 O1 H1 vs A1 r1 h1
  match xs, h1, r1 with
  | [.lst ds], h1, r1 =>
    obtain ⟨v, _, rfl, ⟨a, vs, rfl, g1, g2⟩, rfl⟩ := r1
    exact ⟨a, vs, rfl, .inl (rd_mono A1.si.sub g1), k _ env1 F1 O1 H1 _ A1 (itok_enum g1 g2) h1⟩
end
/-! ### list(range(..)) -/
theorem reps_rg {K : PySem.W.Frag} {mg : MG} {F : Hp} (a b : Int) : Reps K mg F (rngD a (b - a).toNat) (rgV a b) := by
  have go : ∀ l : List Nat, Reps K mg F (l.map fun (i : Nat) => D.int (a + (i : Int))) (l.map fun (i : Nat) => V.int (a + (i : Int))) := by
    intro l
    induction l with
    | nil => rfl
    | cons x t ih => exact ⟨_, _, rfl, rfl, ih⟩
  exact go _
def eListRg (t : AT) : ET := fun env Q R => t env (fun xs env1 => match xs with
  | [.int j] => RgOk 0 j ∧ Q (.lst (rngD 0 j.toNat)) 1 env1
  | [.int i, .int j] => RgOk i j ∧ Q (.lst (rngD i (j - i).toNat)) 1 env1
  | _ => False) R
section
variable {X : Cx} {a b : Expr} {ta tb : ET} {p p2 pos pos2 : Pos}
theorem de_listRg2 (hc : X.calm = true) (hm : X.mg "list" = none) (hm2 : X.mg "range" = none) (ha : DE X a ta) (hb : DE X b tb) (hg : Gl X "list" := by rfl) (hg2 : Gl X "range" := by rfl)
    (na : starEach [a, b] X.env = (false, eval a X.env) :: starEach [b] X.env := by rfl) (nb : starEach [b] X.env = (false, eval b X.env) :: starEach [] X.env := by rfl) (hp : (backTo pos2 (starEach [b] X.env)).any (fun x => x.1) = false := by rfl)
    (ne : starEach [.Call (.Name "range" p2) [a, b] [] pos2] X.env = (false, eval (.Call (.Name "range" p2) [a, b] [] pos2) X.env) :: starEach [] X.env := by rfl) :
    DE X (.Call (.Name "list" p) [.Call (.Name "range" p2) [a, b] [] pos2] [] pos) (eListRg (aCons ta (aCons tb aNil))) := by
  intro W tk
  refine peI (pe_listRg hc hg hm (prg_2 hg2 hm2 (ha W tk) (hb W tk) na nb hp) ne) ?_
  rintro σ H Qh ⟨io, env, F, O, Q, R, I, h, kQ, kX⟩
  refine ⟨io, env, F, O, _, R, I, h, ?_, kX⟩
  intro x n env1 F1 O1 H1 v P A1 T1 r1 h1
  refine ⟨io, env1, F1, O1, _, R, A1.si, h1, ?_, kX.mv A1⟩
  intro y m env2 F2 O2 H2 w P2 A2 T2 r2 h2
  cases x <;> first | exact (show False from h2).elim | skip
  cases y <;> first | exact (show False from h2).elim | skip
  rename_i i j
  have ev : v = .int i := by cases n <;> exact r1
  have ew : w = .int j := by cases m <;> exact r2
  have A := A1.trans A2
  refine ⟨i, j, ev, ew, h2.1, fun q hq => ?_⟩
  exact (Fin.of kQ A).new (.lst _) (.lst _) q hq (reps_rg i j) h2.2
theorem de_listRg1 (hc : X.calm = true) (hm : X.mg "list" = none) (hm2 : X.mg "range" = none) (ha : DE X a ta) (hg : Gl X "list" := by rfl) (hg2 : Gl X "range" := by rfl)
    (na : starEach [a] X.env = (false, eval a X.env) :: starEach [] X.env := by rfl)
    (ne : starEach [.Call (.Name "range" p2) [a] [] pos2] X.env = (false, eval (.Call (.Name "range" p2) [a] [] pos2) X.env) :: starEach [] X.env := by rfl) :
    DE X (.Call (.Name "list" p) [.Call (.Name "range" p2) [a] [] pos2] [] pos) (eListRg (aCons ta aNil)) := by
  intro W tk
  refine peI (pe_listRg hc hg hm (prg_1 hg2 hm2 (ha W tk) na) ne) ?_
  rintro σ H Qh ⟨io, env, F, O, Q, R, I, h, kQ, kX⟩
  refine ⟨io, env, F, O, _, R, I, h, ?_, kX⟩
  intro x n env1 F1 O1 H1 v P A1 T1 r1 h2
  cases x <;> first | exact (show False from h2).elim | skip
  rename_i j
  have ev : v = .int j := by cases n <;> exact r1
  refine ⟨j, ev, h2.1, fun q hq => ?_⟩
  refine (Fin.of kQ A1).new (.lst (rngD 0 j.toNat)) (.lst _) q hq ?_ h2.2
  have := reps_rg (K := X.K) (mg := X.mg) (F := F1) 0 j
  rw [Int.sub_zero] at this
  exact this
end
end DL
set_option Elab.async false
set_option linter.all false
set_option maxRecDepth 100000
/-! DLm: the data layer, part m: isinstance, slices, methods of texts, all, any, sum, a, b = x, y. -/
namespace DL
open PySem L2 PySem.Spec PyProof.Rows

/-! ### isinstance by built-in classes -/
def tyS : D → Option String
  | .non => some "NoneType"
  | .bl _ => some "bool"
  | .int _ => some "int"
  | .str _ => some "str"
  | .tup _ => some "tuple"
  | .ktu _ => some "tuple"
  | .lst _ => some "list"
  | .dK _ => some "dict"
  | .dT _ => some "dict"
  | _ => none
/-- the classes that are asked -/
inductive Kd where
  | int | bool | str | list | tuple | dict
def Kd.s : Kd → String
  | .int => "int" | .bool => "bool" | .str => "str" | .list => "list" | .tuple => "tuple" | .dict => "dict"
def isK : D → Kd → Bool
  | .bl _, .int => true | .bl _, .bool => true | .int _, .int => true | .str _, .str => true | .tup _, .tuple => true | .ktu _, .tuple => true | .lst _, .list => true | .dK _, .dict => true | .dT _, .dict => true
  | _, _ => false
def isKs (d : D) : List Kd → Bool
  | [] => false
  | k :: ks => isK d k || isKs d ks
theorem kitB_is {d : D} {t : String} (h : tyS d = some t) (k : Kd) : kitB t k.s = some (isK d k) := by
  cases d <;> first | cases h; done | (cases h; cases k <;> first | (show _ = some true; decide +kernel) | (show _ = some false; decide +kernel))
def TyQ (K : PySem.W.Frag) (H : Hp) (v : V) (t : Value) : Prop := TyX K H v t ∨ ∃ a o kvs, v = .ref a ∧ H a = some (.frz o (.dT kvs)) ∧ t = .type "dict"
section
variable {X : Cx} {pins : List (Addr × Obj)} {σ : L2.St} {H : Hp} {s : Shared}
theorem kit_ofQ {x : V} {u t : Value} (I : Inv X pins σ H s) (rx : RelV x u) (ty : TyQ X.K H x t) : ∃ P : Heap → Prop, PySem.W.KitX X.K u t P ∧ P s.heap ∧ u ≠ .builtin "__main__.__loader__#opaque" := by
  rcases ty with ty | ⟨a, ob, kvs, rfl, ea, rfl⟩
  · exact kit_of I rx ty
  · cases (show u = Value.ref a from rx)
    obtain ⟨_, _, _, xs, _, o, es, ep, h1, h2, _⟩ := (show ObjOk X.prog X.w H s.heap a (.frz ob (.dT kvs)) from I.hok a _ ea)
    exact ⟨_, PySem.W.kitx_dict, ⟨o, h1, h2.1⟩, fun z => nomatch z⟩
end
theorem tyQ_of {K : PySem.W.Frag} {mg : MG} {H : Hp} {d : D} {v : V} {t : String} (h : tyS d = some t) (r : Rep K mg H d v) : TyQ K H v (.type t) := by
  cases d with
  | non => cases h; cases (show v = _ from r); exact .inl (.base .non)
  | bl b => cases h; cases (show v = _ from r); exact .inl (.base (.bl _))
  | int i => cases h; cases (show v = _ from r); exact .inl (.base (.int _))
  | str s => cases h; cases (show v = _ from r); exact .inl (.base (.str _))
  | tup ds => cases h; obtain ⟨a, vs, rfl, h1, _⟩ := r; exact .inl (.base (.tup h1))
  | ktu ds =>
    cases h
    obtain ⟨a, vs, rfl, h1, _⟩ := r
    rcases h1 with (h1 | ⟨o, h1⟩) | ⟨o, its, n, h1, h2, _⟩
    · exact .inl (.base (.tup h1))
    · exact .inl (.fTuple h1)
    · exact .inl (.kTuple h1 h2)
  | lst ds =>
    cases h
    obtain ⟨a, vs, rfl, h1, _⟩ := r
    rcases h1 with h1 | ⟨o, h1⟩
    · exact .inl (.base (.lst h1))
    · exact .inl (.base (.frz h1))
  | dK ds =>
    cases h
    obtain ⟨a, vs, rfl, h1, _⟩ := r
    rcases h1 with h1 | ⟨o, h1⟩
    · exact .inl (.base (.dK h1))
    · exact .inl (.fDict h1)
  | dT ds =>
    cases h
    obtain ⟨a, vs, rfl, h1, _⟩ := r
    rcases h1 with h1 | ⟨o, h1⟩
    · exact .inl (.base (.dT h1))
    · exact .inr ⟨a, o, vs, rfl, h1, rfl⟩
  | _ => cases h
def rIsiQ (K : PySem.W.Frag) : List V → Hp → VK → Prop := fun xs H Q => ∃ (x c : V) (t u : Value) (b : Bool), xs = [x, c] ∧ ClsV c u ∧ TyQ K H x t ∧ PySem.W.kitOne K t u = some b ∧ Q (.bl b) H
def rIsiTQ (K : PySem.W.Frag) : List V → Hp → VK → Prop := fun xs H Q => ∃ (x : V) (tp : Addr) (cs : List V) (t : Value) (us : List Value) (b : Bool), xs = [x, .ref tp] ∧ H tp = some (.tup cs) ∧ Paired ClsV cs us ∧ TyQ K H x t ∧ PySem.W.kitAny K t us = some b ∧ Q (.bl b) H
theorem call_isiQ {X : Cx} : CallR X (.builtin "isinstance") (rIsiQ X.K) := by
  intro pins s σ H xs us Q I r h
  obtain ⟨x, c, t, u, b, rfl, k, ty, e, q⟩ := h
  obtain ⟨u1, u2, rfl, r1, r2⟩ := vals2 r
  have e2 := k.eq r2
  subst e2
  obtain ⟨P, Z, p, hx⟩ := kit_ofQ I r1 ty
  exact PySem.W.kia_one Z I.kIn p e hx fun tk => ⟨.bl b, H, I.tok tk, rfl, q⟩
theorem call_isiTQ {X : Cx} : CallR X (.builtin "isinstance") (rIsiTQ X.K) := by
  intro pins s σ H xs us Q I r h
  obtain ⟨x, tp, cs, t, ws, b, rfl, hT, k, ty, e, q⟩ := h
  obtain ⟨u1, u2, rfl, r1, r2⟩ := vals2 r
  cases (show u2 = Value.ref tp from r2)
  obtain ⟨P, Z, p, hx⟩ := kit_ofQ I r1 ty
  obtain ⟨_, its, rv, o, h1, h2, n, h3⟩ := (show ObjOk X.prog X.w H s.heap tp (.tup cs) from I.hok tp _ hT)
  have e3 := ClsV.all k rv
  subst e3
  obtain ⟨oc, od, dt, sl⟩ := o
  simp only at h2 h3
  subst h2 h3
  exact PySem.W.kia_tup Z I.kIn p h1 e hx fun tk => ⟨.bl b, H, I.tok tk, rfl, q⟩
/-- isinstance(e, k), isinstance(e, (k, ..)) -/
def pIs (t : PUT) (ks : List Kd) : PUT := fun env Q => t env fun d => match tyS d with | some _ => Q (.bl (isKs d ks)) | none => False
/-- a built-in class's name -/
def PKd (X : Cx) (e : Expr) (k : Kd) : Prop := PE X e (tC (.ty k.s))
theorem pkd {X : Cx} {x : Str} {pos : Pos} (k : Kd) (hm : X.mg x = none) (hv : bootBuiltins x = some (.type k.s)) (hg : Gl X x := by rfl) (hn : x ≠ "__name__" := by decide) (hd : (x == ("__debug__" : Str)) = false := by decide) : PKd X (.Name x pos) k := pe_bltn hg hm hv rfl hn hd
section
variable {X : Cx} {e c : Expr} {t : PUT} {p pos tpos : Pos} {kk : Nat}
theorem pu_is {k : Kd} (he : PU X e t) (hc : PKd X c k) (hm : X.mg "isinstance" = none) (hv : bootBuiltins "isinstance" = some (.builtin "isinstance")) (hg : Gl X "isinstance" := by rfl)
    (hs2 : starEach [c] X.env = (false, eval c X.env) :: starEach [] X.env := by rfl) (hs : starEach (e :: [c]) X.env = (false, eval e X.env) :: starEach [c] X.env := by rfl) (hpl : (backTo pos (starEach [c] X.env)).any (·.1) = false := by rfl) : PU X (.Call (.Name "isinstance" p) [e, c] [] pos) (pIs t [k]) := by
  refine peI (pe_callB call_isiQ hg hm hv (pa_cons he (pa_cons hc pa_nil hs2) hs) (by decide) (by decide) hs hpl) ?_
  rintro σ H Qh ⟨io, env, F, O, Q, I, h, kQ⟩
  refine ⟨io, env, F, O, _, I, h, fun d v H1 e1 r1 h1 => ?_⟩
  cases ht : tyS d with
  | none => rw [ht] at h1; exact h1.elim
  | some t =>
    rw [ht] at h1
    have h1 : Q (.bl (isK d k || false)) := h1
    rw [Bool.or_false] at h1
    exact ⟨v, .ty k.s, _, _, _, rfl, .ty _, tyQ_of ht r1, kit_ty (kitB_is ht k), kQ (.bl _) _ H1 e1 rfl h1⟩
/-- names of built-in classes in a tuple -/
inductive PKds (X : Cx) : List Expr → List Kd → Prop where
  | nil : PKds X [] []
  | cons {e : Expr} {es : List Expr} {k : Kd} {ks : List Kd} (h : PKd X e k) (hr : PKds X es ks) (hs : starEach (e :: es) X.env = (false, eval e X.env) :: starEach es X.env) : PKds X (e :: es) (k :: ks)
def tKds (ks : List Kd) : TA := fun _ H Q => Q (ks.map fun k => .ty k.s) H
theorem PKds.pa : ∀ {es : List Expr} {ks : List Kd}, PKds X es ks → PA X es (tKds ks)
  | _, _, .nil => pa_nil
  | _, _, .cons h hr hs => paI (pa_cons h hr.pa hs) fun σ H Q q => q
theorem kitAny_is {K : PySem.W.Frag} {d : D} {t : String} (h : tyS d = some t) : ∀ ks : List Kd, PySem.W.kitAny K (.type t) (ks.map fun k => .type k.s) = some (isKs d ks)
  | [] => kitAny_nil
  | k :: ks => kitAny_cons (kit_ty (kitB_is h k)) (fun e => by rw [kitAny_is h ks]; show _ = some (isK d k || isKs d ks); rw [e]; rfl) (fun e => by show (isK d k || isKs d ks) = true; rw [e]; rfl)
theorem cls_pair : ∀ ks : List Kd, Paired ClsV (ks.map fun k => V.ty k.s) (ks.map fun k => Value.type k.s)
  | [] => .nil
  | k :: ks => .cons (.ty _) (cls_pair ks)
theorem pu_isT {es : List Expr} {ks : List Kd} (he : PU X e t) (hc : PKds X es ks) (hl : ks.length ≤ sizeLine) (hm : X.mg "isinstance" = none) (hv : bootBuiltins "isinstance" = some (.builtin "isinstance")) (hg : Gl X "isinstance" := by rfl)
    (hs2 : starEach [.Tuple es kk tpos] X.env = (false, eval (.Tuple es kk tpos) X.env) :: starEach [] X.env := by rfl) (hs : starEach (e :: [.Tuple es kk tpos]) X.env = (false, eval e X.env) :: starEach [.Tuple es kk tpos] X.env := by rfl)
    (hpl : (backTo pos (starEach [.Tuple es kk tpos] X.env)).any (·.1) = false := by rfl) : PU X (.Call (.Name "isinstance" p) [e, .Tuple es kk tpos] [] pos) (pIs t ks) := by
  refine peI (pe_callB call_isiTQ hg hm hv (pa_cons he (pa_cons (pe_tup hc.pa) pa_nil hs2) hs) (by decide) (by decide) hs hpl) ?_
  rintro σ H Qh ⟨io, env, F, O, Q, I, h, kQ⟩
  refine ⟨io, env, F, O, _, I, h, fun d v H1 e1 r1 h1 => ?_⟩
  cases ht : tyS d with
  | none => rw [ht] at h1; exact h1.elim
  | some t =>
    rw [ht] at h1
    refine ⟨by rw [List.length_map]; exact hl, fun q hq => ⟨v, q, _, _, _, _, rfl, upd_same, cls_pair ks, tyQ_of ht (Rep.mono (same_upd hq) r1), kitAny_is ht ks, kQ (.bl _) _ _ (e1.trans (same_upd hq)) rfl h1⟩⟩
end
/-! ### slices -/
def cutD (xs : List D) (lo hi : Option Int) : List D := (xs.drop (HT.sIx xs.length 0 lo)).take (HT.sIx xs.length xs.length hi - HT.sIx xs.length 0 lo)
def odSl : D → Option Int → Option Int → Qn → Prop
  | .lst ds, lo, hi, Q => Q (.lst (cutD ds lo hi)) 1
  | .tup ds, lo, hi, Q => Q (.tup (cutD ds lo hi)) 0
  | .str s, lo, hi, Q => s.length ≤ sizeLine ∧ Q (.str (cutS s lo hi)) 0
  | _, _, _, _ => False
abbrev OTt := DEnv → (Option Int → DEnv → Prop) → QX → Prop
abbrev OPt := DEnv → (Option Int → Prop) → Prop
def oNone : OTt := fun env Q _ => Q none env
def oSome (t : ET) : OTt := fun env Q R => t env (fun d _ env1 => match d with | .int i => Q (some i) env1 | _ => False) R
def opNone : OPt := fun _ Q => Q none
def opSome (t : PUT) : OPt := fun env Q => t env fun d => match d with | .int i => Q (some i) | _ => False
def rdO (K : PySem.W.Frag) (mg : MG) (τ : OTt) (W : WX) : TO := fun σ H Qh => ∃ io env F O Q R, SI K mg io env σ F O H ∧ τ env Q R ∧ (∀ o env' F' O' H', At K mg io F O H env' σ F' O' H' → Q o env' → Qh o H') ∧ KX K mg io F O H R W
def rdOP (K : PySem.W.Frag) (mg : MG) (τ : OPt) : TO := fun σ H Qh => ∃ io env F O Q, SI K mg io env σ F O H ∧ τ env Q ∧ ∀ o H', Same H H' → Q o → Qh o H'
def DO (X : Cx) (e : Option Expr) (τ : OTt) : Prop := ∀ W, Takes X W → PO X e (rdO X.K X.mg τ W)
def PUO (X : Cx) (e : Option Expr) (τ : OPt) : Prop := PO X e (rdOP X.K X.mg τ)
theorem poI {X : Cx} {e : Option Expr} {t t' : TO} (h : PO X e t) (k : ∀ σ H Q, t' σ H Q → t σ H Q) : PO X e t' := ⟨fun pins s σ H Q I x => h.run pins s σ H Q I (k σ H Q x)⟩
theorem reps_cut {K : PySem.W.Frag} {mg : MG} {F : Hp} {ds : List D} {vs : List V} {lo hi : Option Int} (r : Reps K mg F ds vs) : Reps K mg F (cutD ds lo hi) (cutV vs lo hi) := by
  unfold cutD cutV
  rw [r.length]
  exact (r.drop _).take _
def rSlA2 (K : PySem.W.Frag) : V → Option Int → Option Int → Hp → VK → Prop := fun x lo hi H Q => rSlL K x lo hi H Q ∨ rSlA K x lo hi H Q ∨ rSlS x lo hi H Q
theorem sl_any {X : Cx} : SlR X (rSlA2 X.K) := sl_list.or (sl_tupA.or sl_str)
theorem okSl {X : Cx} {F H : Hp} {x : D} {v : V} {lo hi : Option Int} {Q : Qn} {Qh : VK} (e : Same F H) (r : Rep X.K X.mg F x v) (h : odSl x lo hi Q) (k : Fin X.K X.mg F H Q Qh) : rSlA2 X.K v lo hi H Qh := by
  cases x with
  | lst ds =>
    obtain ⟨a, vs, rfl, h1, h2⟩ := r
    exact .inl ⟨a, vs, rfl, .inl (rd_mono e h1), fun p hp => k.new (.lst _) (.lst _) p hp (reps_cut h2) h⟩
  | tup ds =>
    obtain ⟨a, vs, rfl, h1, h2⟩ := r
    refine .inr (.inl ⟨a, vs, rfl, .inl (.inl (e _ _ h1)), fun z => ?_, fun _ p hp => k.tup _ _ p hp (reps_cut h2) h⟩)
    refine k.old (.tup _) _ ⟨a, vs, rfl, h1, ?_⟩ h
    have q := reps_cut (lo := lo) (hi := hi) h2
    have ev : cutV vs lo hi = vs := by
      unfold cutV
      rw [z.1, z.2]
      simp
    rw [ev] at q
    exact q
  | str s =>
    cases (show v = _ from r)
    exact .inr (.inr ⟨s, rfl, h.1, k.old (.str _) _ rfl h.2⟩)
  | _ => exact (show False from h).elim
def eSl (t : ET) (lo hi : OTt) : ET := fun env Q R => t env (fun d _ env1 => lo env1 (fun l env2 => hi env2 (fun h env3 => odSl d l h fun z n => Q z n env3) R) R) R
def pSl (t : PUT) (lo hi : OPt) : PUT := fun env Q => t env fun d => lo env fun l => hi env fun h => odSl d l h fun z _ => Q z
section
variable {X : Cx} {e : Expr} {lo hi : Option Expr} {t : ET} {pt : PUT} {tl th : OTt} {pl ph : OPt} {p2 pos : Pos}
theorem do_none : DO X none oNone := fun W tk => poI po_none fun σ H Qh ⟨io, env, F, O, Q, R, I, h, k, _⟩ => k none env F O H (At.start I) h
theorem do_some (h : DE X e t) : DO X (some e) (oSome t) := by
  intro W tk
  refine poI (po_some (h W tk)) ?_
  rintro σ H Qh ⟨io, env, F, O, Q, R, I, h, kQ, kX⟩
  refine ⟨io, env, F, O, _, R, I, h, ?_, kX⟩
  intro d n env1 F1 O1 H1 v P A1 T1 r1 h1
  cases d <;> first | exact h1.elim | skip
  exact ⟨_, (by cases n <;> exact r1), kQ _ env1 F1 O1 H1 A1 h1⟩
theorem puo_none : PUO X none opNone := poI po_none fun σ H Qh ⟨io, env, F, O, Q, I, h, k⟩ => k none H (Same.refl _) h
theorem puo_some (h : PU X e pt) : PUO X (some e) (opSome pt) := by
  refine poI (po_some h) ?_
  rintro σ H Qh ⟨io, env, F, O, Q, I, h, kQ⟩
  refine ⟨io, env, F, O, _, I, h, fun d v H1 e1 r1 h1 => ?_⟩
  cases d <;> first | exact h1.elim | skip
  exact ⟨_, r1, kQ _ H1 e1 h1⟩
theorem de_slice (he : DE X e t) (hl : DO X lo tl) (hh : DO X hi th) : DE X (.Subscript e (.Slice lo hi none p2) pos) (eSl t tl th) := by
  intro W tk
  refine peI (pe_slice sl_any (he W tk) (hl W tk) (hh W tk)) ?_
  rintro σ H Qh ⟨io, env, F, O, Q, R, I, h, kQ, kX⟩
  refine ⟨io, env, F, O, _, R, I, h, ?_, kX⟩
  intro d n env1 F1 O1 H1 v P A1 T1 r1 h1
  have A1' := A1.frz T1
  refine ⟨io, env1, _, O1, _, R, A1'.si, h1, ?_, kX.mv A1'⟩
  intro l env2 F2 O2 H2 A2 h2
  refine ⟨io, env2, F2, O2, _, R, A2.si, h2, ?_, (kX.mv A1').mv A2⟩
  intro u env3 F3 O3 H3 A3 h3
  exact okSl (X := X) A3.si.sub (Rep.mono (A2.mv.ff.trans A3.mv.ff) (A1.frz_rep r1)) h3 (Fin.of kQ (A1'.trans (A2.trans A3)))
theorem pu_slice (he : PU X e pt) (hl : PUO X lo pl) (hh : PUO X hi ph) : PU X (.Subscript e (.Slice lo hi none p2) pos) (pSl pt pl ph) := by
  refine peI (pe_slice sl_any he hl hh) ?_
  rintro σ H Qh ⟨io, env, F, O, Q, I, h, kQ⟩
  refine ⟨io, env, F, O, _, I, h, fun d v H1 e1 r1 h1 => ⟨io, env, F, O, _, I.ext e1, h1, fun l H2 e2 h2 => ⟨io, env, F, O, _, (I.ext e1).ext e2, h2, fun u H3 e3 h3 => ?_⟩⟩⟩
  exact okSl (X := X) (Same.refl _) (Rep.mono (e2.trans e3) r1) h3 (Fin.ofP kQ ((e1.trans e2).trans e3))
end
/-! ### methods of texts -/
def OkM (X : Cx) (r : V → List V → Hp → VK → Prop) (od : OTM) : Prop := ∀ F H x xs v vs Q Qh, Same F H → Rep X.K X.mg F x v → Reps X.K X.mg F xs vs → od x xs Q → Fin X.K X.mg F H Q Qh → r v vs H Qh
def isStr : D → Prop → Prop
  | .str _, p => p
  | _, _ => False
def eM (od : OTM) (to : ET) (t : AT) : ET := fun env Q R => to env (fun x _ env1 => isStr x (t env1 (fun xs env2 => od x xs fun z n => Q z n env2) R)) R
def eM0 (od : OTM) (to : ET) : ET := fun env Q R => to env (fun x _ env1 => isStr x (od x [] fun z n => Q z n env1)) R
def pM0 (od : OTM) (to : PUT) : PUT := fun env Q => to env fun x => isStr x (od x [] fun z _ => Q z)
section
variable {X : Cx} {o e : Expr} {es : List Expr} {to : ET} {po : PUT} {t : AT} {name : Str} {apos cpos : Pos} {id : String} {r : V → List V → Hp → VK → Prop} {od : OTM}
theorem de_strM (slot : Slot "str" name id) (hty : typeOf (.builtin id) = pure (.type "method_descriptor")) (hm : MtR X id r) (k : OkM X r od) (ho : DE X o to) (ha : DA X (e :: es) t)
    (hbase : attributeBase o name X.env (eval o X.env) = eval o X.env := by rfl)
    (hfew : ((backTo cpos (starEach (e :: es) X.env)).all (fun x => !x.1) && (backToKw cpos (keywordEach [] X.env)).all (fun x => x.1.isSome)
      && decide ((e :: es).length + ([] : List Keyword).length + (if ([] : List Keyword).isEmpty then 0 else 1) < 30)) = true := by rfl)
    (hline : (apos.endLine == cpos.line) = true := by rfl) (hs : starEach (e :: es) X.env = (false, eval e X.env) :: starEach es X.env := by rfl) (hplain : (backTo cpos (starEach es X.env)).any (·.1) = false := by rfl) :
    DE X (.Call (.Attribute o name apos) (e :: es) [] cpos) (eM od to t) := by
  intro W tk
  refine peI (pe_bm PySem.F.plainAttrs_str slot hty hm (ho W tk) (ha W tk) hbase hfew hline hs hplain) ?_
  rintro σ H Qh ⟨io, env, F, O, Q, R, I, h, kQ, kX⟩
  refine ⟨io, env, F, O, _, R, I, h, ?_, kX⟩
  intro d n env1 F1 O1 H1 v P A1 T1 r1 h1
  cases d <;> first | exact h1.elim | skip
  have ev := sh_str r1
  subst ev
  refine ⟨rfl, io, env1, F1, O1, _, R, A1.si, h1, ?_, kX.mv A1⟩
  intro xs env2 F2 O2 H2 vs A2 r2 h2
  exact k F2 H2 (.str _) xs _ vs _ _ A2.si.sub rfl r2 h2 (Fin.of kQ (A1.trans A2))
theorem de_strM0 (slot : Slot "str" name id) (hty : typeOf (.builtin id) = pure (.type "method_descriptor")) (hm : MtR X id r) (k : OkM X r od) (ho : DE X o to)
    (hbase : attributeBase o name X.env (eval o X.env) = eval o X.env := by rfl) (hline : (apos.endLine == cpos.line) = true := by rfl) : DE X (.Call (.Attribute o name apos) [] [] cpos) (eM0 od to) := by
  intro W tk
  refine peI (pe_bm0 PySem.F.plainAttrs_str slot hty hm (ho W tk) hbase hline) ?_
  rintro σ H Qh ⟨io, env, F, O, Q, R, I, h, kQ, kX⟩
  refine ⟨io, env, F, O, _, R, I, h, ?_, kX⟩
  intro d n env1 F1 O1 H1 v P A1 T1 r1 h1
  cases d <;> first | exact h1.elim | skip
  have ev := sh_str r1
  subst ev
  exact ⟨rfl, k F1 H1 (.str _) [] _ [] _ _ A1.si.sub rfl rfl h1 (Fin.of kQ A1)⟩
theorem pu_strM0 (slot : Slot "str" name id) (hty : typeOf (.builtin id) = pure (.type "method_descriptor")) (hm : MtR X id r) (k : OkM X r od) (ho : PU X o po)
    (hbase : attributeBase o name X.env (eval o X.env) = eval o X.env := by rfl) (hline : (apos.endLine == cpos.line) = true := by rfl) : PU X (.Call (.Attribute o name apos) [] [] cpos) (pM0 od po) := by
  refine peI (pe_bm0 PySem.F.plainAttrs_str slot hty hm ho hbase hline) ?_
  rintro σ H Qh ⟨io, env, F, O, Q, I, h, kQ⟩
  refine ⟨io, env, F, O, _, I, h, fun d v H1 e1 r1 h1 => ?_⟩
  cases d <;> first | exact h1.elim | skip
  cases (show v = _ from r1)
  exact ⟨rfl, k H1 H1 (.str _) [] _ [] _ _ (Same.refl _) rfl rfl h1 (Fin.ofP kQ e1)⟩
end
def strsD : List D → Option (List Str)
  | [] => some []
  | .str s :: r => match strsD r with | some ss => some (s :: ss) | none => none
  | _ :: _ => none
theorem strsD_v {K : PySem.W.Frag} {mg : MG} {F : Hp} : ∀ {ds : List D} {ss : List Str} {vs : List V}, strsD ds = some ss → Reps K mg F ds vs → vs = ss.map V.str
  | [], _, _, h, r => by cases h; exact r
  | .str s :: ds, ss, _, h, ⟨v, t, h1, h2, h3⟩ => by
    unfold strsD at h
    cases e : strsD ds with
    | none => rw [e] at h; cases h
    | some ss' =>
      rw [e] at h
      cases h
      rw [h1, show v = _ from h2, strsD_v e h3]
      rfl
  | .non :: _, _, _, h, _ => nomatch h
  | .bl _ :: _, _, _, h, _ => nomatch h
  | .int _ :: _, _, _, h, _ => nomatch h
  | .tup _ :: _, _, _, h, _ => nomatch h
  | .lst _ :: _, _, _, h, _ => nomatch h
  | .dK _ :: _, _, _, h, _ => nomatch h
  | .dT _ :: _, _, _, h, _ => nomatch h
  | .obj _ _ :: _, _, _, h, _ => nomatch h
  | .fn _ :: _, _, _, h, _ => nomatch h
  | .ktu _ :: _, _, _, h, _ => nomatch h
  | .hole :: _, _, _, h, _ => nomatch h
def odJoin : OTM
  | .str a, [.lst ds], Q => match strsD ds with | some ss => (ss.map (·.length)).sum + ss.length * a.length ≤ 16777216 ∧ Q (.str (Txt.join a ss)) 0 | none => False
  | _, _, _ => False
def odSplit : OTM
  | .str a, [.str b], Q => ((b.length == 0) = false ∧ a.length + 2 ≤ sizeLine) ∧ Q (.lst ((Txt.split a b).map .str)) 1
  | _, _, _ => False
def odIsdigit : OTM
  | .str a, [], Q => Q (.bl (Txt.isdigit a)) 0
  | _, _, _ => False
section
variable {X : Cx}
theorem reps_strs {K : PySem.W.Frag} {mg : MG} {F : Hp} : ∀ ss : List Str, Reps K mg F (ss.map .str) (ss.map V.str)
  | [] => rfl
  | s :: ss => ⟨_, _, rfl, rfl, reps_strs ss⟩
theorem okJoin : OkM X (fun x xs H Q => ∃ a p, ∃ ys : List Str, x = .str a ∧ xs = [.ref p] ∧ (SqL X.K H p (ys.map V.str) ∨ SqT X.K H p (ys.map V.str)) ∧ (ys.map (·.length)).sum + ys.length * a.length ≤ 16777216 ∧ Q (.str (Txt.join a ys)) H) odJoin := by
  intro F H x xs v vs Q Qh e r1 r2 h k
  cases x <;> first | exact (show False from h).elim | skip
  rename_i a
  cases (show v = _ from r1)
  match xs, h, r2 with
  | [.lst ds], h, r2 =>
    obtain ⟨v, _, rfl, ⟨p, ws, rfl, g1, g2⟩, rfl⟩ := r2
    have h : (match strsD ds with | some ss => (ss.map (·.length)).sum + ss.length * a.length ≤ 16777216 ∧ Q (.str (Txt.join a ss)) 0 | none => False) := h
    cases es : strsD ds with
    | none => rw [es] at h; exact h.elim
    | some ss =>
      rw [es] at h
      have ev := strsD_v es g2
      subst ev
      exact ⟨a, p, ss, rfl, rfl, .inl (.inl (rd_mono e g1)), h.1, k.old (.str _) _ rfl h.2⟩
theorem okSplit : OkM X (fun x xs H Q => ∃ a b, x = .str a ∧ xs = [.str b] ∧ (b.length == 0) = false ∧ a.length + 2 ≤ sizeLine ∧ rNewStrs (Txt.split a b) H Q) odSplit := by
  intro F H x xs v vs Q Qh e r1 r2 h k
  cases x <;> first | exact (show False from h).elim | skip
  cases (show v = _ from r1)
  match xs, h, r2 with
  | [.str b], h, r2 =>
    obtain ⟨v, _, rfl, rv, rfl⟩ := r2
    cases (show v = _ from rv)
    exact ⟨_, b, rfl, rfl, h.1.1, h.1.2, fun p hp => k.new (.lst _) (.lst _) p hp (reps_strs _) h.2⟩
theorem okIsdigit : OkM X (fun x xs H Q => ∃ a, x = .str a ∧ xs = [] ∧ True ∧ Q (.bl (Txt.isdigit a)) H) odIsdigit := by
  intro F H x xs v vs Q Qh e r1 r2 h k
  cases x <;> first | exact (show False from h).elim | skip
  cases (show v = _ from r1)
  match xs, h, r2 with
  | [], h, r2 => exact ⟨_, rfl, r2, trivial, k.old (.bl _) _ rfl h⟩
end
/-! ### all, any, sum of lists -/
def blsD : List D → Option (List Bool)
  | [] => some []
  | .bl s :: r => match blsD r with | some ss => some (s :: ss) | none => none
  | _ :: _ => none
theorem blsD_v {K : PySem.W.Frag} {mg : MG} {F : Hp} : ∀ {ds : List D} {ss : List Bool} {vs : List V}, blsD ds = some ss → Reps K mg F ds vs → vs = ss.map V.bl
  | [], _, _, h, r => by cases h; exact r
  | .bl s :: ds, ss, _, h, ⟨v, t, h1, h2, h3⟩ => by
    unfold blsD at h
    cases e : blsD ds with
    | none => rw [e] at h; cases h
    | some ss' =>
      rw [e] at h
      cases h
      rw [h1, show v = _ from h2, blsD_v e h3]
      rfl
  | .non :: _, _, _, h, _ => nomatch h
  | .str _ :: _, _, _, h, _ => nomatch h
  | .int _ :: _, _, _, h, _ => nomatch h
  | .tup _ :: _, _, _, h, _ => nomatch h
  | .lst _ :: _, _, _, h, _ => nomatch h
  | .dK _ :: _, _, _, h, _ => nomatch h
  | .dT _ :: _, _, _, h, _ => nomatch h
  | .obj _ _ :: _, _, _, h, _ => nomatch h
  | .fn _ :: _, _, _, h, _ => nomatch h
  | .ktu _ :: _, _, _, h, _ => nomatch h
  | .hole :: _, _, _, h, _ => nomatch h
def intsD : List D → Option (List Int)
  | [] => some []
  | .int s :: r => match intsD r with | some ss => some (s :: ss) | none => none
  | _ :: _ => none
theorem intsD_v {K : PySem.W.Frag} {mg : MG} {F : Hp} : ∀ {ds : List D} {ss : List Int} {vs : List V}, intsD ds = some ss → Reps K mg F ds vs → vs = ss.map V.int
  | [], _, _, h, r => by cases h; exact r
  | .int s :: ds, ss, _, h, ⟨v, t, h1, h2, h3⟩ => by
    unfold intsD at h
    cases e : intsD ds with
    | none => rw [e] at h; cases h
    | some ss' =>
      rw [e] at h
      cases h
      rw [h1, show v = _ from h2, intsD_v e h3]
      rfl
  | .non :: _, _, _, h, _ => nomatch h
  | .str _ :: _, _, _, h, _ => nomatch h
  | .bl _ :: _, _, _, h, _ => nomatch h
  | .tup _ :: _, _, _, h, _ => nomatch h
  | .lst _ :: _, _, _, h, _ => nomatch h
  | .dK _ :: _, _, _, h, _ => nomatch h
  | .dT _ :: _, _, _, h, _ => nomatch h
  | .obj _ _ :: _, _, _, h, _ => nomatch h
  | .fn _ :: _, _, _, h, _ => nomatch h
  | .ktu _ :: _, _, _, h, _ => nomatch h
  | .hole :: _, _, _, h, _ => nomatch h
def someO {α : Type} (o : Option α) (k : α → Prop) : Prop := match o with | some x => k x | none => False
theorem someO_of {α : Type} {o : Option α} {k : α → Prop} (h : someO o k) : ∃ x, o = some x ∧ k x := by
  cases o with
  | none => exact h.elim
  | some x => exact ⟨x, rfl, h⟩
def odAll : OTN
  | [.lst ds], Q => someO (blsD ds) fun bs => Q (.bl (bs.all id)) 0
  | _, _ => False
def odAny : OTN
  | [.lst ds], Q => someO (blsD ds) fun bs => Q (.bl (bs.any id)) 0
  | _, _ => False
def odSum : OTN
  | [.lst ds], Q => someO (intsD ds) fun ns => Q (.int ns.sum) 0
  | _, _ => False
section
variable {X : Cx}
theorem okAll : OkN X (rAll X.K) odAll := by
  intro F H xs vs Q Qh e r h k
  match xs, h, r with
  | [.lst ds], h, r =>
    obtain ⟨v, _, rfl, ⟨p, ws, rfl, g1, g2⟩, rfl⟩ := r
    obtain ⟨bs, eb, q⟩ := someO_of h
    have ev := blsD_v eb g2
    subst ev
    exact ⟨p, bs, rfl, .inl (rd_mono e g1), k.old (.bl _) _ rfl q⟩
theorem okAny : OkN X (rAny X.K) odAny := by
  intro F H xs vs Q Qh e r h k
  match xs, h, r with
  | [.lst ds], h, r =>
    obtain ⟨v, _, rfl, ⟨p, ws, rfl, g1, g2⟩, rfl⟩ := r
    obtain ⟨bs, eb, q⟩ := someO_of h
    have ev := blsD_v eb g2
    subst ev
    exact ⟨p, bs, rfl, .inl (rd_mono e g1), k.old (.bl _) _ rfl q⟩
theorem okSum : OkN X (rSum X.K) odSum := by
  intro F H xs vs Q Qh e r h k
  match xs, h, r with
  | [.lst ds], h, r =>
    obtain ⟨v, _, rfl, ⟨p, ws, rfl, g1, g2⟩, rfl⟩ := r
    obtain ⟨bs, eb, q⟩ := someO_of h
    have ev := intsD_v eb g2
    subst ev
    exact ⟨p, bs, rfl, .inl (rd_mono e g1), k.old (.int _) _ rfl q⟩
end
/-! ### a, b = x, y -/
section
variable {K : PySem.W.Frag} {mg : MG} {io : Nat → Option V} {env : DEnv} {σ : L2.St} {F F1 F2 H H1 H2 : Hp} {O O1 O2 : OW} {P1 P2 : AP} {i : Nat}
theorem Tp.putO (t : Tp O H F1 O1 H1 P1) (t2 : Tp O H F1 O1 H1 P2) (dj : ∀ a, P1 a → P2 a → False) : Tp O H F1 (DL.putO O1 i P1) H1 P2 := ⟨fun a p => by
  obtain ⟨h1, h2, h3⟩ := t2.t a p
  refine ⟨h1, ?_, h3⟩
  cases z : DL.putO O1 i P1 a with
  | none => rfl
  | some j =>
    rcases putO_some.mp z with ⟨q, _⟩ | ⟨_, q, _⟩
    · exact (dj a q p).elim
    · rw [h2] at q; exact (nomatch q), t2.nw⟩
theorem Tp.disj (t1 : Tp O H F1 O1 H1 P1) (t2 : Tp O1 H1 F2 O2 H2 P2) : ∀ a, P1 a → P2 a → False := fun a p q => by
  obtain ⟨_, h2, o, h3⟩ := t1.t a p
  rcases t2.nw a q with z | ⟨k, z⟩
  · rw [h3] at z; cases z
  · rw [h2] at z; cases z
end
def sdPar (i j : Nat) (ta tb : ET) : SD := fun env D => ta env (fun d n env1 => tb env1 (fun e m env2 => D.nx ((env2.set i (some ⟨d, n, false⟩)).set j (some ⟨e, m, false⟩))) D.ex) D.ex
def sdPar3 (i j l : Nat) (ta tb tc : ET) : SD := fun env D => ta env (fun d n env1 => tb env1 (fun e m env2 => tc env2 (fun f k env3 => D.nx (((env3.set i (some ⟨d, n, false⟩)).set j (some ⟨e, m, false⟩)).set l (some ⟨f, k, false⟩))) D.ex) D.ex) D.ex
section
variable {X : Cx} {i j l : Nat} {x y z : Str} {a b c : Expr} {ta tb tc : ET} {px py pz pt pos : Pos} {kt k2 : Nat} {pt2 : Pos}
theorem ds_par (hc : X.calm = true) (hN : X.N.Nodup) (ha : DE X a ta) (hb : DE X b tb) (hij : i ≠ j := by decide) (hi : X.N[i]? = some x := by rfl) (hj : X.N[j]? = some y := by rfl)
    (hx : X.env.scope.names.lookup x = some .local := by rfl) (hy : X.env.scope.names.lookup y = some .local := by rfl)
    (s1 : starEach [a, b] X.env = (false, eval a X.env) :: starEach [b] X.env := by rfl) (s2 : starEach [b] X.env = (false, eval b X.env) :: starEach [] X.env := by rfl)
    (hw : swappedStores [.Tuple [.Name x px, .Name y py] kt pt] (.Tuple [a, b] k2 pt2) X.env = pure (some [x, y]) := by rfl)
    (hs : swapsWithSole [.Tuple [.Name x px, .Name y py] kt pt] (.Tuple [a, b] k2 pt2) pos.line X.env = pure false := by rfl) :
    DS X (.Assign [.Tuple [.Name x px, .Name y py] kt pt] (.Tuple [a, b] k2 pt2) pos) (sdPar i j ta tb) := by
  intro W tk
  refine psI (ps_par hc hN hi hj hij hx hy (pa_cons (ha W tk) (pa_cons (hb W tk) pa_nil s2) s1) hw hs) ?_
  rintro Dn σ H ⟨io, env, F, O, D, I, h, k1, k2, k3, k4, k5⟩
  refine ⟨io, env, F, O, _, _, I, h, ?_, k5⟩
  intro d n env1 F1 O1 H1 v P A1 T1 r1 h1
  refine ⟨io, env1, F1, O1, _, _, A1.si, h1, ?_, k5.mv A1⟩
  intro e m env2 F2 O2 H2 w P2 A2 T2 r2 h2
  have A := A1.trans A2
  have T1' := T1.mv A2.mv
  exact ⟨v, w, rfl, k1 _ _ _ _ _ ((A.set (i := i) T1' (r1.mv T1 A2.mv)).set (i := j) (T1'.putO (Tp.after A1.mv T2) (T1.disj T2)) r2) h2⟩
theorem ds_par3 (hc : X.calm = true) (hN : X.N.Nodup) (ha : DE X a ta) (hb : DE X b tb) (hcc : DE X c tc) (hij : i ≠ j := by decide) (hil : i ≠ l := by decide) (hjl : j ≠ l := by decide) (hi : X.N[i]? = some x := by rfl) (hj : X.N[j]? = some y := by rfl) (hl : X.N[l]? = some z := by rfl)
    (hx : X.env.scope.names.lookup x = some .local := by rfl) (hy : X.env.scope.names.lookup y = some .local := by rfl) (hz : X.env.scope.names.lookup z = some .local := by rfl)
    (s1 : starEach [a, b, c] X.env = (false, eval a X.env) :: starEach [b, c] X.env := by rfl) (s2 : starEach [b, c] X.env = (false, eval b X.env) :: starEach [c] X.env := by rfl) (s3 : starEach [c] X.env = (false, eval c X.env) :: starEach [] X.env := by rfl)
    (hw : swappedStores [.Tuple [.Name x px, .Name y py, .Name z pz] kt pt] (.Tuple [a, b, c] k2 pt2) X.env = pure (some [x, y, z]) := by rfl)
    (hs : swapsWithSole [.Tuple [.Name x px, .Name y py, .Name z pz] kt pt] (.Tuple [a, b, c] k2 pt2) pos.line X.env = pure false := by rfl) :
    DS X (.Assign [.Tuple [.Name x px, .Name y py, .Name z pz] kt pt] (.Tuple [a, b, c] k2 pt2) pos) (sdPar3 i j l ta tb tc) := by
  intro W tk
  refine psI (ps_par3 hc hN hi hj hl hij hil hjl hx hy hz (pa_cons (ha W tk) (pa_cons (hb W tk) (pa_cons (hcc W tk) pa_nil s3) s2) s1) hw hs) ?_
  rintro Dn σ H ⟨io, env, F, O, D, I, h, k1, k2, k3, k4, k5⟩
  refine ⟨io, env, F, O, _, _, I, h, ?_, k5⟩
  intro d n env1 F1 O1 H1 v P A1 T1 r1 h1
  refine ⟨io, env1, F1, O1, _, _, A1.si, h1, ?_, k5.mv A1⟩
  intro e m env2 F2 O2 H2 w P2 A2 T2 r2 h2
  refine ⟨io, env2, F2, O2, _, _, A2.si, h2, ?_, (k5.mv A1).mv A2⟩
  intro f k env3 F3 O3 H3 u P3 A3 T3 r3 h3
  have A := (A1.trans A2).trans A3
  have T1a := T1.mv (A2.mv.trans A3.mv)
  have T2a := T2.mv A3.mv
  have T2b := Tp.after A1.mv T2a
  have T3b := Tp.after A1.mv (Tp.after A2.mv T3)
  have d12 := T1.disj T2
  have d13 : ∀ a, P a → P3 a → False := (T1.mv A2.mv).disj T3
  have d23 : ∀ a, P2 a → P3 a → False := T2.disj T3
  exact ⟨v, w, u, rfl, k1 _ _ _ _ _ (((A.set (i := i) T1a (r1.mv T1 (A2.mv.trans A3.mv))).set (i := j) (T1a.putO T2b d12) (r2.mv T2 A3.mv)).set (i := l) ((T1a.putO T2b d12).putO (T1a.putO T3b d13) d23) r3) h3⟩
end
end DL
set_option Elab.async false
set_option linter.all false
set_option maxRecDepth 100000
/-! DLn: the data layer, part n: enumerate of a tuple; chains of comparisons; dicts as they are made, walked, asked. -/
namespace DL
open PySem L2 PySem.Spec PyProof.Rows
open Sem (wp)

/-! ### enumerate(t), t a tuple -/
set_option maxHeartbeats 1000000 in
theorem meets_enumT {v : Value} {ob : Obj} {HP : Heap → Prop} (B : Begins v ob HP) :
    Meets (Builtin.«enumerate.__new__» ⟨[.type "enumerate", v], []⟩) (fun _ R s => HP s.heap ∧
      R (.ok (.ret (.ref (s.heap.push ob).objs.size))) { s with heap := (s.heap.push ob).push { cls := .type "enumerate", data := .fields #[.none, .bool false, .ref s.heap.objs.size, rawInt 0, .none, .none] } }) :=
  .of_wp fun prog w A R s h => by
    obtain ⟨hp, g, d, tk, os⟩ := s
    obtain ⟨h1, h⟩ := h
    have hsub := sub_enumerate
    have it1 : ∀ {A' : Around} {EE : Value → Shared → Prop} {QQ : Value → Shared → Prop}, QQ (.ref hp.objs.size) ⟨hp.push ob, g, d, tk, os⟩ → wpAny (model prog w) A' (pyIter v) QQ EE ⟨hp, g, d, tk, os⟩ :=
      fun q => B.iter prog w _ _ ⟨hp, g, d, tk, os⟩ _ h1 q
    wp_walk using it1
    refine wpAny_stack_any fun st => wpAny_pure ?_
    split
    · rename_i c _ _ _ _ _
      cases (c == Value.type "enumerate")
      · wp_walk using it1
        exact ⟨_, rfl, h⟩
      · wp_walk using it1
        exact ⟨_, rfl, h⟩
    · wp_walk using it1
      exact ⟨_, rfl, h⟩
theorem enum_at {prog : Program} {w : World} {A : Around} {E : Value → Shared → Prop} {s : Shared} {v : Value} {ob : Obj} {HP : Heap → Prop} {Q : Value → Shared → Prop} (B : Begins v ob HP) (h1 : HP s.heap)
    (h : ∀ h', IsEnum h' (s.heap.objs.size + 1) s.heap.objs.size 0 .none → h'.get? s.heap.objs.size = some ob → h'.objs.size = s.heap.objs.size + 2 → (∀ b o, s.heap.get? b = some o → h'.get? b = some o) → Q (.ref (s.heap.objs.size + 1)) { s with heap := h' }) :
    wpAny (model prog w) A (call (.type "enumerate") [v]) Q E s := by
  refine callType_new F.called_enumerate (by decide) (F.typeCall_enumerate_1 _) (F.newCall_enumerate_1 _) (fun obj => F.args_object_init_2 obj _) F.entry_enumerate_new (meets_enumT B) ⟨h1, ?_⟩
  have zz : (s.heap.push ob).objs.size = s.heap.objs.size + 1 := Heap.size_push ..
  show _ ∧ _
  rw [zz]
  have ie := Heap.get?_push_size (s.heap.push ob) (o := { cls := .type "enumerate", data := .fields #[.none, .bool false, .ref s.heap.objs.size, rawInt 0, .none, .none] }) rfl
  rw [zz] at ie
  exact ⟨⟨_, ie, rfl⟩, h _ ie (Heap.get?_push_of_some _ (Heap.get?_push_size _ B.free)) (by rw [Heap.size_push, zz]) fun b o x => Heap.get?_push_of_some _ (Heap.get?_push_of_some _ x)⟩
/-- the tuple at a as it stands, each item in a new pair -/
def Itet (K : PySem.W.Frag) (a : Addr) : It :=
  ⟨fun i H => ∃ (xs : List V) (x : V), SqT K H a xs ∧ xs[i]? = some x, fun i H v H' => ∃ p x, v = .ref p ∧ H p = none ∧ H' = upd H p (.tup [.int (i : Nat), x]) ∧ ∀ xs, SqT K H a xs → xs[i]? = some x, fun i H => ∃ xs : List V, SqT K H a xs ∧ xs.length ≤ i⟩
theorem turn_enumT {P : Program} {w : World} {K : PySem.W.Frag} {elts : List Expr} {kk : Nat} {tpos : Pos} (a e it : Addr) :
    Turn P w K (.Tuple elts kk tpos) (Itet K a) [e, it] e (fun i h => (∃ old, IsEnum h e it ((i : Nat) : Int) old) ∧ h.IsTupleIter it a i ∧ e ≠ it ∧ a ≠ it ∧ e ≠ a) where
  mem := by simp
  obj := fun i h st b hb => by
    obtain ⟨⟨old, he⟩, ⟨ob, ho, hc, hd⟩, _⟩ := st
    rcases (show b = e ∨ b = it by simpa using hb) with z | z
    · rw [z]; exact ⟨_, he, fun v q => nomatch q⟩
    · rw [z]; exact ⟨ob, ho, fun v q => by rw [hd] at q; cases q⟩
  keep := fun i h h' st k => by
    obtain ⟨⟨old, he⟩, hi, r⟩ := st
    exact ⟨⟨old, k e (by simp) _ he⟩, hi.at fun ob q => k it (by simp) ob q, r⟩
  item := by
    intro X hP hw hK hc i pins s σ H E I hf st hg
    subst hP hw hK
    obtain ⟨⟨old, he⟩, hit, hne, hai, hea⟩ := st
    obtain ⟨xs, x, hq, hx⟩ := hg
    obtain ⟨its, rv, p, hz⟩ := I.tuple hq
    obtain ⟨u, hu, ru⟩ := rv.get hx
    have hel : e < s.heap.objs.size := Heap.lt_size he
    have hil : it < s.heap.objs.size := by obtain ⟨_, q, _⟩ := hit; exact Heap.lt_size q
    have hul : i < its.toArray.size := by
      have := (List.getElem?_eq_some_iff.mp hu).1
      simpa using this
    refine wpAny_pyNext_enum_itemD (Draws.tuple (prog := X.prog) (w := X.w) (A := X.A.in1) (show X.A.in1.handled = none from I.ok.hd hc) it a hai its.toArray) he ⟨hit, p⟩ hul hne (by simp [hne, hea]) fun x' h' tk hx' ho ⟨hit', _⟩ hT hsz hk => ?_
    have exu : x' = u := by
      rw [show its.toArray[i]? = some u by simpa using hu] at hx'
      exact (Option.some.inj hx').symm
    subst exu
    refine ⟨_, rfl, wpAny_letOwnedTupleGo_enum (s := { s with heap := h', toks := tk + 1 }) ho fun h'' he' sb => ?_⟩
    have hT2 : h''.get? s.heap.objs.size = some { cls := .type "tuple", data := .seq #[.int i tk, x'] } := (sb.2 _ (Nat.ne_of_gt hel)).trans hT
    have nw : ObjOk X.prog X.w (upd H s.heap.objs.size (.tup [.int (i : Nat), x])) h'' s.heap.objs.size (.tup [.int (i : Nat), x]) :=
      ⟨by show 2 ≤ sizeLine; decide, [.int i tk, x'], .cons ⟨_, rfl⟩ (.cons ru .nil), ⟨_, hT2, rfl, _, rfl⟩⟩
    have I1 : Inv X pins σ (upd H s.heap.objs.size (.tup [.int (i : Nat), x])) { s with heap := h'', toks := tk + 1 } :=
      I.turnedNew (ch := [e, it]) (fun b ob hb q => (sb.2 b (fun z => hb (by simp [z]))).trans (hk b ob (fun z => hb (by simp [z])) (fun z => hb (by simp [z])) q)) hf (Nat.le_refl _) nw
    refine ⟨.ref s.heap.objs.size, _, I1, rfl, ⟨_, x, rfl, I.hok.fresh (Nat.le_refl _), rfl, fun ys hy => by rw [I.tuple_inj hy hq]; exact hx⟩, ⟨⟨x', ?_⟩, hit'.at fun ob q => (sb.2 it (Ne.symm hne)).trans q, hne, hai, hea⟩, fun b hb => ?_⟩
    · rw [show ((i + 1 : Nat) : Int) = (i : Int) + 1 by omega]
      exact he'
    · have bl : b < s.heap.objs.size := by
        rcases (show b = e ∨ b = it by simpa using hb) with z | z
        · rw [z]; exact hel
        · rw [z]; exact hil
      rw [upd_ne (Nat.ne_of_lt bl)]
      exact (hf b hb).1
  done := by
    intro X hP hw hK hc i pins s σ H E I hf st hg
    subst hP hw hK
    obtain ⟨⟨old, he⟩, hit, hne, hai, hea⟩ := st
    obtain ⟨xs, hq, hx⟩ := hg
    obtain ⟨its, rv, p, hz⟩ := I.tuple hq
    obtain ⟨f0, f1, f2, f3, f4, f5⟩ := hf it (by simp)
    have hl := rv.length
    have D : Draws X.prog X.w X.A.in1 it [it, a] 0 (fun _ _ => True) (fun _ h => h.IsTupleIter it a i ∧ h.IsTuple a its.toArray) :=
      ⟨fun _ _ st' => let ⟨ob, ho, _⟩ := st'.1; ⟨ob, ho⟩, fun _ _ _ st' hk => ⟨st'.1.at fun ob q => hk it (by simp) ob q, st'.2.at fun ob q => hk a (by simp) ob q⟩, fun j _ _ _ hj => absurd hj (Nat.not_lt_zero j),
        fun s' QQ EE st' kE => wpAny_nextOf_tuple_end (show X.A.in1.handled = none from I.ok.hd hc) st'.1 st'.2 (by simp; omega) kE⟩
    exact wpAny_pyNext_enum_endD D he ⟨hit, p⟩ fun h' eb => ⟨rfl, I.turned (t' := s.toks) (fun b ob hb q => eb b ob hb q) f0 f1 f3 f4 f5⟩
  self := fun A i s Q E st h => by
    obtain ⟨⟨_, he⟩, _⟩ := st
    exact wpAny_pyIter_enum he h

def iEnumA (K : PySem.W.Frag) (ta : TA) : TI := fun σ H R => ta σ H fun vs H1 => ∃ a, vs = [.ref a] ∧ ((∃ xs, SqL K H1 a xs ∧ R (Ite K a) H1) ∨ ∃ xs, SqT K H1 a xs ∧ R (Itet K a) H1)
section
variable {X : Cx} {e : Expr} {p pos tpos : Pos} {elts : List Expr} {kk : Nat}
theorem pi_enumA {ta : TA} (hg : Gl X "enumerate") (hm : X.mg "enumerate" = none) (ha : PA X [e] ta) (hs : starEach [e] X.env = [(false, eval e X.env)]) : PI X (.Tuple elts kk tpos) (.Call (.Name "enumerate" p) [e] [] pos) (iEnumA X.K ta) := by
  refine ⟨fun pins s σ H R I h => ?_⟩
  refine Call_ (ld_blt I hg hm boot_enumerate (PyProof.Rows.callWith_type1 (thn (ha.run pos pins s σ H _ I h) fun us s1 ⟨vs, H1, I1, r1, a, ex, hq⟩ => ?_) hs rfl))
  subst ex
  obtain ⟨u, rfl, ru⟩ := vals1 r1
  cases (show u = Value.ref a from ru)
  have fpk : ∀ b ∈ [s1.heap.objs.size + 1, s1.heap.objs.size], s1.heap.objs.size ≤ b := fun b hb => by
    rcases (show b = s1.heap.objs.size + 1 ∨ b = s1.heap.objs.size by simpa using hb) with z | z
    · rw [z]; exact Nat.le_add_right _ _
    · rw [z]; exact Nat.le_refl _
  rcases hq with ⟨xs, hq, q⟩ | ⟨xs, hq, q⟩
  · obtain ⟨its, rv, pl, hz⟩ := I1.list hq
    refine enum_at (begins_list a its.toArray) pl.isList fun h' he hit hsz hk => wpAny_pyIter_enum he ?_
    have I2 : Inv X pins σ H1 { s1 with heap := h' } := I1.kept (t' := s1.toks) hk
    exact ⟨s1.heap.objs.size + 1, [s1.heap.objs.size + 1, s1.heap.objs.size], _, _, H1, rfl, I2, turn_enum a (s1.heap.objs.size + 1) s1.heap.objs.size, ⟨⟨.none, he⟩, ⟨_, hit, rfl, rfl⟩, Nat.succ_ne_self _⟩, fun b hb => I1.fpOk (fpk b hb) (I1.hok.fresh (fpk b hb)), q⟩
  · obtain ⟨its, rv, pl, hz⟩ := I1.tuple hq
    have pl : s1.heap.IsTuple a its.toArray := pl
    have hal : a < s1.heap.objs.size := by obtain ⟨_, q, _⟩ := pl; exact Heap.lt_size q
    refine enum_at (begins_tuple a its.toArray) pl fun h' he hit hsz hk => wpAny_pyIter_enum he ?_
    have I2 : Inv X pins σ H1 { s1 with heap := h' } := I1.kept (t' := s1.toks) hk
    exact ⟨s1.heap.objs.size + 1, [s1.heap.objs.size + 1, s1.heap.objs.size], _, _, H1, rfl, I2, turn_enumT a (s1.heap.objs.size + 1) s1.heap.objs.size, ⟨⟨.none, he⟩, ⟨_, hit, rfl, rfl⟩, Nat.succ_ne_self _, Nat.ne_of_lt hal, Ne.symm (Nat.ne_of_lt (Nat.lt_succ_of_lt hal))⟩,
      fun b hb => I1.fpOk (fpk b hb) (I1.hok.fresh (fpk b hb)), q⟩
theorem itok_enumT {K : PySem.W.Frag} {mg : MG} {F : Hp} {a : Addr} {ds : List D} {vs : List V} (h1 : SqT K F a vs) (h2 : Reps K mg F ds vs) : ItOk K mg (Itet K a) (enumD ds) F where
  go := fun i H e hi => by
    rw [enumD_len] at hi
    have hv : i < vs.length := by rw [h2.length]; exact hi
    exact ⟨vs, vs[i], sqt_mono e h1, List.getElem?_eq_getElem hv⟩
  stop := fun i H e hi => ⟨vs, sqt_mono e h1, by rw [enumD_len] at hi; rw [h2.length]; exact hi⟩
  yld := fun i H v H' e _ ⟨p, x, ev, hp, eh, y⟩ => by
    obtain ⟨d, hd, r⟩ := h2.get' (y vs (sqt_mono e h1))
    exact ⟨_, enumD_get hd, .inr ⟨p, _, _, ev, hp, eh, rfl, ⟨_, _, rfl, rfl, _, _, rfl, r, rfl⟩⟩⟩
def odEnumA : List D → (List D → Prop) → Prop
  | [.lst ds], Q => Q (enumD ds)
  | [.tup ds], Q => Q (enumD ds)
  | [.ktu ds], Q => Q (enumD ds)
  | _, _ => False
/-- enumerate of a list or a tuple -/
theorem di_enum {ta : AT} (hm : X.mg "enumerate" = none) (ha : DA X [e] ta) (hg : Gl X "enumerate" := by rfl) (hs : starEach [e] X.env = [(false, eval e X.env)] := by rfl) : DI X (.Tuple elts kk tpos) (.Call (.Name "enumerate" p) [e] [] pos) (itN odEnumA ta) := by
  intro W tk
  refine piI (pi_enumA hg hm (ha W tk) hs) ?_
  rintro σ H R' ⟨io, env, F, O, Q, R, I, q, k, kX⟩
  refine ⟨io, env, F, O, _, R, I, q, ?_, kX⟩
  intro xs env1 F1 O1 H1 vs A1 r1 h1
  match xs, h1, r1 with
  | [.lst ds], h1, r1 =>
    obtain ⟨v, _, rfl, ⟨a, vs, rfl, g1, g2⟩, rfl⟩ := r1
    exact ⟨a, rfl, .inl ⟨vs, .inl (rd_mono A1.si.sub g1), k _ env1 F1 O1 H1 _ A1 (itok_enum g1 g2) h1⟩⟩
  | [.tup ds], h1, r1 =>
    obtain ⟨v, _, rfl, ⟨a, vs, rfl, g1, g2⟩, rfl⟩ := r1
    exact ⟨a, rfl, .inr ⟨vs, .inl (.inl (A1.si.sub _ _ g1)), k _ env1 F1 O1 H1 _ A1 (itok_enumT (.inl (.inl g1)) g2) h1⟩⟩
  | [.ktu ds], h1, r1 =>
    obtain ⟨v, _, rfl, ⟨a, vs, rfl, g1, g2⟩, rfl⟩ := r1
    exact ⟨a, rfl, .inr ⟨vs, sqt_mono A1.si.sub g1, k _ env1 F1 O1 H1 _ A1 (itok_enumT g1 g2) h1⟩⟩
end
/-! ### chains of comparisons, as peeks -/
def pChain (od od' : OT2) (pa pb pc : PUT) : PUT := fun env Q => pa env fun x => pb env fun y => od x y fun z _ => match z with
  | .bl b => brB b (pc env fun w => od' y w fun z' _ => Q z') (Q (.bl false))
  | _ => False
section
variable {X : Cx} {a b c : Expr} {pa pb pc : PUT} {op op' : CmpOp} {r r' : R2} {od od' : OT2} {pos : Pos}
theorem pu_chain (ho : OpR X (compareOp op) r) (ho' : OpR X (compareOp op') r') (k : Ok2 X r od) (k' : Ok2 X r' od') (ha : PU X a pa) (hb : PU X b pb) (hc : PU X c pc) (hm : lastMarks [op, op'] [b, c] = false := by with_unfolding_all rfl) :
    PU X (.Compare a [op, op'] [b, c] pos) (pChain od od' pa pb pc) := by
  refine peI (pe_chain ho ho' ha hb hc hm) ?_
  rintro σ H Qh ⟨io, env, F, O, Q, I, h, kQ⟩
  refine ⟨io, env, F, O, _, I, h, fun x v H1 e1 r1 h1 => ⟨io, env, F, O, _, I.ext e1, h1, fun y w H2 e2 r2 h2 => ?_⟩⟩
  refine k H2 H2 x y v w _ _ (Same.refl _) (Rep.mono e2 r1) r2 h2 ⟨fun z u rz q => ?_, fun z o p _ rz q => ?_, fun ds vs p _ _ q => q.elim⟩
  · cases z <;> first | exact (show False from q).elim | skip
    rename_i bb
    refine ⟨bb, rz, ?_⟩
    cases bb with
    | false => exact iteF (kQ (.bl false) _ H2 (e1.trans e2) rfl q)
    | true => exact iteT ⟨io, env, F, O, _, I.ext (e1.trans e2), q, fun w2 u2 H3 e3 r3 h3 => k' H3 H3 y w2 w u2 _ _ (Same.refl _) (Rep.mono e3 r2) r3 h3 (Fin.ofP kQ ((e1.trans e2).trans e3))⟩
  · cases z <;> first | exact (show False from q).elim | (cases o <;> exact (show False from rz).elim)
end
/-! ### a value's truth -/
def truN (d : D) (Q : Bool → Prop) : Prop := match d with
  | .dK _ => False
  | d => tru d Q
def ttTru (t : PUT) : TTd := fun env Q _ => t env fun d => truN d fun b => Q b env
def ttTruE (t : ET) : TTd := fun env Q R => t env (fun d _ env1 => truN d fun b => Q b env1) R
theorem truN_of {K : PySem.W.Frag} {mg : MG} {H : Hp} {d : D} {v : V} {Q : Bool → Prop} (r : Rep K mg H d v) (h : truN d Q) : ∃ k, TruV K v H k ∧ Q k := by
  cases d with
  | dK _ => exact (show False from h).elim
  | lst ds =>
    obtain ⟨a, vs, rfl, h1, h2⟩ := r
    exact tru_of (d := .lst ds) ⟨a, vs, rfl, h1, h2⟩ (fun a' o u e q => by
      cases e
      rcases h1 with h1 | ⟨o', h1⟩ <;> (rw [h1] at q; cases q)) h
  | tup ds =>
    obtain ⟨a, vs, rfl, h1, h2⟩ := r
    exact tru_of (d := .tup ds) ⟨a, vs, rfl, h1, h2⟩ (fun a' o u e q => by cases e; rw [h1] at q; cases q) h
  | non => exact tru_of r (fun a o u e => by cases (show v = _ from r); cases e) h
  | bl b => exact tru_of r (fun a o u e => by cases (show v = _ from r); cases e) h
  | int b => exact tru_of r (fun a o u e => by cases (show v = _ from r); cases e) h
  | str b => exact tru_of r (fun a o u e => by cases (show v = _ from r); cases e) h
  | ktu ds =>
    obtain ⟨a, vs, rfl, h1, h2⟩ := r
    refine ⟨!vs.isEmpty, .inr (.inl ⟨vs, h1, rfl⟩), ?_⟩
    have e : vs.isEmpty = ds.isEmpty := by
      have := h2.length
      cases vs <;> cases ds <;> first | rfl | simp at this
    rw [e]
    exact h
  | _ => exact (show False from h).elim
section
variable {X : Cx} {e : Expr} {t : ET} {pt : PUT}
theorem dt_tru (h : PU X e pt) (he : ∀ whole, isTrue e X.env whole = (do let v ← whole; standAt e.pos; holding [v] (truthy v)) := by intro _; rfl) : DT X e (ttTru pt) := by
  intro W tk
  refine ptI (pt_truth h he) ?_
  rintro σ H Qh ⟨io, env, F, O, Q, R, I, h, kQ, kX⟩
  refine ⟨io, env, F, O, _, I, h, fun d v H1 e1 r1 h1 => ?_⟩
  obtain ⟨k, tv, q⟩ := truN_of r1 h1
  exact ⟨k, tv, kQ k env F O H1 ((At.start I).ext e1) q⟩
theorem dt_truE (h : DE X e t) (he : ∀ whole, isTrue e X.env whole = (do let v ← whole; standAt e.pos; holding [v] (truthy v)) := by intro _; rfl) : DT X e (ttTruE t) := by
  intro W tk
  refine ptI (pt_truth (h W tk) he) ?_
  rintro σ H Qh ⟨io, env, F, O, Q, R, I, h, kQ, kX⟩
  refine ⟨io, env, F, O, _, R, I, h, ?_, kX⟩
  intro d n env1 F1 O1 H1 v P A1 T1 r1 h1
  have A1' := A1.frz T1
  obtain ⟨k, tv, q⟩ := truN_of ((A1.frz_rep r1).mono A1'.si.sub) h1
  exact ⟨k, tv, kQ k env1 _ O1 H1 A1' q⟩
end
/-! ### new containers, empty -/
def eNew (d : D) (n : Nat) : ET := fun env Q _ => Q d n env
section
variable {X : Cx} {pos : Pos}
theorem de_dK (n : Nat) : DE X (.Dict [] [] pos) (eNew (.dK []) n) := by
  intro W tk
  refine peI pe_dnewK ?_
  rintro σ H Qh ⟨io, env, F, O, Q, R, I, h, kQ, kX⟩ p hp
  have A := (At.start I).ext (same_upd (o := .dK []) hp)
  have T := (At.start I).tp_new (o := .dK []) hp
  cases n with
  | zero => exact kQ (.dK []) 0 _ _ _ _ _ _ (A.frz T) Tp.none ⟨p, [], rfl, .inl (by rw [laid_in (P := fun b => b = p) rfl]; exact upd_same), rfl⟩ h
  | succ n => exact kQ (.dK []) (n + 1) _ _ _ _ _ _ A T ⟨p, [], P0, rfl, upd_same, rfl, fun x => x, fun _ x => x.elim, rfl, rfl⟩ h
theorem de_dT (n : Nat) : DE X (.Dict [] [] pos) (eNew (.dT []) n) := by
  intro W tk
  refine peI pe_dnewT ?_
  rintro σ H Qh ⟨io, env, F, O, Q, R, I, h, kQ, kX⟩ p hp
  have A := (At.start I).ext (same_upd (o := .dT []) hp)
  have T := (At.start I).tp_new (o := .dT []) hp
  cases n with
  | zero => exact kQ (.dT []) 0 _ _ _ _ _ _ (A.frz T) Tp.none ⟨p, [], rfl, .inl (by rw [laid_in (P := fun b => b = p) rfl]; exact upd_same), rfl⟩ h
  | succ n => exact kQ (.dT []) (n + 1) _ _ _ _ _ _ A T ⟨p, [], P0, rfl, upd_same, rfl, fun x => x, fun _ x => x.elim, rfl, rfl⟩ h
theorem de_nil (n : Nat) : DE X (.List [] pos) (eNew (.lst []) n) := by
  intro W tk
  refine peI (pe_lst pa_nil) ?_
  rintro σ H Qh ⟨io, env, F, O, Q, R, I, h, kQ, kX⟩
  refine ⟨Nat.zero_le _, fun p hp => ?_⟩
  have A := (At.start I).ext (same_upd (o := .lst []) hp)
  have T := (At.start I).tp_new (o := .lst []) hp
  cases n with
  | zero => exact kQ (.lst []) 0 _ _ _ _ _ _ (A.frz T) Tp.none ⟨p, [], rfl, .inl (by rw [laid_in (P := fun b => b = p) rfl]; exact upd_same), rfl⟩ h
  | succ n => exact kQ (.lst []) (n + 1) _ _ _ _ _ _ A T ⟨p, [], P0, rfl, upd_same, rfl, fun x => x, fun _ x => x.elim, rfl⟩ h
end
end DL
set_option Elab.async false
set_option linter.all false
set_option maxRecDepth 100000
/-! DLo: the data layer, part o: lists of owned lists; taking an owned item out; putting an owned thing in; walks of dicts. -/
namespace DL
open PySem L2 PySem.Spec PyProof.Rows

/-! ### comprehensions whose items stay owned -/
def lcO (m : Nat) (g : Tg) (tt : TTd) (te : ET) (vs : List Nat) : List D → List D → DEnv → QE → Prop
  | [], acc, env, Q => Q (.lst acc) (m + 1) env
  | x :: xs, acc, env, Q => bindT g x env fun env1 => tt env1 (fun b env2 => brB b
    (te env2 (fun d n env3 => n = m ∧ acc.length < sizeLine ∧ lcO m g tt te vs xs (acc ++ [d]) (wipeD env3 vs) Q) noX)
    (lcO m g tt te vs xs acc (wipeD env2 vs) Q)) noX
def eLcO (m : Nat) (i : ITd) (g : Tg) (tt : TTd) (te : ET) (vs : List Nat) : ET := fun env Q R => i env (fun items env1 => lcO m g tt te vs items [] (wipeD env1 vs) Q) R
theorem ROs.append1 {R : AP → D → V → Prop} (hm : ∀ P P' d v, (∀ a, P a → P' a) → R P d v → R P' d v) : ∀ {ds : List D} {P P1 P2 : AP} {vs : List V} {d : D} {v : V}, ROs R P1 ds vs → R P2 d v → (∀ a, P1 a → P a) → (∀ a, P2 a → P a) → (∀ a, P1 a → P2 a → False) → ROs R P (ds ++ [d]) (vs ++ [v])
  | [], P, P1, P2, vs, d, v, h, r, s1, s2, dj => by
    cases (show vs = [] from h)
    exact ⟨v, [], P2, P0, rfl, s2, fun _ x => x.elim, fun _ _ x => x.elim, r, rfl⟩
  | d0 :: ds, P, P1, P2, vs, d, v, ⟨w, t, Q1, Q2, h1, h2, h3, h4, h5, h6⟩, r, s1, s2, dj => by
    subst h1
    refine ⟨w, t ++ [v], Q1, fun a => Q2 a ∨ P2 a, rfl, fun a x => s1 a (h2 a x), fun a x => x.elim (fun x => s1 a (h3 a x)) (s2 a), fun a x y => y.elim (h4 a x) (dj a (h2 a x)), h5, ?_⟩
    exact ROs.append1 hm h6 r (fun a x => .inl x) (fun a x => .inr x) fun a x y => dj a (h3 a x) y
section
variable {X : Cx} {elt tg iter : Expr} {ifs : List Expr} {scope : Scope} {own : List (Str × Nat)} {g : Tg} {it : ITd} {tt : TTd} {te : ET} {pos : Pos} {W : WX}
theorem lcO_rest {K : PySem.W.Frag} {mg : MG} {vs : List Nat} {mm : Nat} (hsl : ∀ i ∈ g.slots, i ∈ vs) {io : Nat → Option V} {env1 : DEnv} {σ : L2.St} {F F1 H H1 : Hp} {O O1 : OW} {Q : QE} {Qh : VK} {items : List D} {J : It}
    (kQ : KE K mg io σ F O H Q Qh) (A1 : At K mg io F O H env1 σ F1 O1 H1) (T : ItOk K mg J items F1) (h1 : lcO mm g tt te vs items [] (wipeD env1 vs) Q) (L : Addr) (hL : H1 L = none) : ∃ W : Nat → Nat → Hp → Prop, (∃ m, W 0 m (upd H1 L (.lst []))) ∧ ∀ i m H, W i m H →
      (J.stop i H ∧ Qh (.ref L) H) ∨ (J.go i H ∧ ∃ Nx : Hp → Prop, (∀ H', Nx H' → ∃ m', m' < m ∧ W (i + 1) m' H') ∧ ∀ x H', J.yld i H x H' → rdG K mg g x (L2.wipe σ vs) H' fun σ2 H2 => L2.wipe σ2 vs = L2.wipe σ vs ∧ rdT K mg tt (fun _ _ _ _ => False) σ2 H2 fun b H3 =>
        if b = true then rdE K mg te (fun _ _ _ _ => False) σ2 H3 fun y H4 => ∃ acc, H4 L = some (.lst acc) ∧ acc.length < sizeLine ∧ Nx (upd H4 L (.lst (acc ++ [y]))) else Nx H3) := by
  have A1e := A1.ext (same_upd (o := .lst []) hL)
  have kx0 : ∀ {F' H' : Hp} {O' : OW}, KX K mg io F' O' H' noX fun _ _ _ _ => False := fun {F' H' O'} x e σ' Fa Oa Ha c dx B r z => z
  obtain ⟨O1w, A1w, hO1⟩ := A1e.wipes vs
  have T1 : Tp O H F1 O1w (upd H1 L (.lst [])) (fun b => b = L) := ⟨fun b e => by
    subst e
    refine ⟨A1.si.freeF hL, ?_, _, upd_same⟩
    cases z : O1w b with
    | none => rfl
    | some i =>
      have q := hO1 b i z
      rw [A1.si.freeO hL] at q
      exact (nomatch q), fun b e => by subst e; exact A1.mv.back (.inl hL)⟩
  -- what stands at each turn: the list, its items' owners P beside it
  let ST : Nat → Hp → Prop := fun i H' => ∃ env' F' O' acc accV P, At K mg io F O H env' (L2.wipe σ vs) F' O' H' ∧ (∀ j b, env'[j]? = some (some b) → j ∉ vs) ∧ Same F1 F' ∧ Tp O H F' O' H' (fun b => b = L ∨ P b) ∧ ¬ P L ∧
    H' L = some (.lst accV) ∧ ROs (RepO K mg F' H' mm) P acc accV ∧ lcO mm g tt te vs (items.drop i) acc env' Q
  refine ⟨fun i m H' => m + i = items.length ∧ ST i H', ⟨items.length, by omega, wipeD env1 vs, F1, O1w, [], [], P0, A1w, fun j b hb => (wipeD_none vs env1 j b hb).2, Same.refl _, ⟨fun b e => T1.t b (e.elim id fun z => z.elim), fun b e => T1.nw b (e.elim id fun z => z.elim)⟩, fun z => z, upd_same, rfl, h1⟩, ?_⟩
  rintro i m H2 ⟨hm, env2, F2, O2, acc, accV, P2, A2, hn2, e2, T2, hP2, hl2, r2, h2⟩
  by_cases hi : i < items.length
  · refine .inr ⟨T.go i H2 (e2.trans A2.si.sub) hi, ST (i + 1), fun H' q => ⟨m - 1, by omega, by omega, q⟩, ?_⟩
    intro x H3 y
    obtain ⟨d, F3, hd, B3, r3⟩ := T.take A2.si e2 hi y
    have A3 := A2.trans B3
    rw [drop_get hd] at h2
    -- a turn's end
    have again : ∀ {env5 : DEnv} {σ5 : L2.St} {F5 H5 : Hp} {O5 : OW} {acc' : List D} {accV' : List V} {P5 P6 : AP}, At K mg io F3 O2 H3 env5 σ5 F5 O5 H5 → L2.wipe σ5 vs = L2.wipe σ vs → Tp O H F5 O5 H5 P5 → (∀ b, P6 b → P2 b ∨ P5 b) → ¬ P6 L → ROs (RepO K mg F5 H5 mm) P6 acc' accV' →
        lcO mm g tt te vs (items.drop (i + 1)) acc' (wipeD env5 vs) Q → H5 L = some (.lst accV) → ST (i + 1) (upd H5 L (.lst accV')) := by
      intro env5 σ5 F5 H5 O5 acc' accV' P5 P6 A5 hw T6 s6 hP6 r5 h5 hl5
      have A5' := A3.trans A5
      have T5 := T2.mv (B3.mv.trans A5.mv)
      obtain ⟨hF, hO, _⟩ := T5.t L (.inl rfl)
      obtain ⟨O6, A6, hO6⟩ := A5'.wipes vs
      rw [hw] at A6
      have offw : ∀ b, O5 b = none → O6 b = none := fun b z => by
        cases q : O6 b with
        | none => rfl
        | some k => rw [hO6 b k q] at z; cases z
      have hO' : O6 L = none := offw L hO
      have neO : ∀ a i, O6 a = some i → a ≠ L := fun a i z e => by subst e; rw [hO'] at z; cases z
      refine ⟨wipeD env5 vs, F5, O6, acc', accV', P6, ⟨⟨A6.mv.ff, fun a o z q => ?_, A6.mv.fn, A6.mv.on⟩, ⟨fun a o z => ?_, fun a i z => ?_, fun j b hb => ?_, A6.si.len⟩⟩, fun j b hb => (wipeD_none vs env5 j b hb).2, (e2.trans B3.mv.ff).trans A5.mv.ff,
        ⟨fun b e => ?_, fun b e => ?_⟩, hP6, upd_same, r5.imp (fun Q0 d0 w0 hq rr => rr.mono (fun _ _ x => x) (fun a o pa z => by rw [upd_ne (show a ≠ L from fun zz => hP6 (by rw [← zz]; exact hq a pa))]; exact z) (fun _ x => x)) (fun _ x => x), h5⟩
      · have ne : a ≠ L := fun e => by
          subst e
          rcases T5.nw a (.inl rfl) with z2 | ⟨k, z2⟩
          · rw [z] at z2; cases z2
          · rw [q] at z2; cases z2
        rw [upd_ne ne]
        exact A6.mv.fr a o z q
      · have ne : a ≠ L := fun e => by subst e; rw [hF] at z; cases z
        rw [upd_ne ne]
        exact A6.si.sub a o z
      · rw [upd_ne (neO a i z)]
        exact A6.si.own a i z
      · obtain ⟨w, g1, g2, g3⟩ := A6.si.slot j b hb
        exact ⟨w, g1, g2.mono (fun _ _ x => x) (fun a o p z => by rw [upd_ne (neO a j p)]; exact z) (fun _ x => x), g3⟩
      · have key : F5 b = none ∧ O5 b = none ∧ ∃ o, H5 b = some o := by
          rcases e with e | e
          · exact T5.t b (.inl e)
          · rcases s6 b e with q | q
            · exact T5.t b (.inr q)
            · exact T6.t b q
        obtain ⟨k1, k2, o, k3⟩ := key
        refine ⟨k1, offw b k2, ?_⟩
        by_cases z : b = L
        · subst z; exact ⟨_, upd_same⟩
        · exact ⟨o, by rw [upd_ne z]; exact k3⟩
      · rcases e with e | e
        · exact T5.nw b (.inl e)
        · rcases s6 b e with q | q
          · exact T5.nw b (.inr q)
          · exact T6.nw b q
    refine ⟨io, env2, F3, O2, d, _, A3.si, r3, h2, ?_⟩
    intro env4 σ4 O4 A4 hag h4
    have hw4 : L2.wipe σ4 vs = L2.wipe σ vs := (hag vs hsl).trans (wipe_in fun _ z => z)
    refine ⟨hw4, io, env4, F3, O4, _, noX, A4.si, h4, ?_, kx0⟩
    intro b env5 F5 O5 H5 A5 h5
    have A45 := A4.trans A5
    have T3 := T2.mv B3.mv
    have l3 : H3 L = some (.lst accV) := B3.mv.fr L _ hl2 (T2.t L (.inl rfl)).2.1
    have l5 : H5 L = some (.lst accV) := A45.mv.fr L _ l3 (T3.t L (.inl rfl)).2.1
    have up : ∀ {F5 H5 : Hp} {O5 : OW}, Mv F3 O2 H3 F5 O5 H5 → ROs (RepO K mg F5 H5 mm) P2 acc accV := fun {F5 H5 O5} mv =>
      r2.imp (fun Q0 d0 w0 hq rr => rr.mono (B3.mv.ff.trans mv.ff) (fun a o pa z => mv.fr a o (B3.mv.fr a o z (T2.t a (.inr (hq a pa))).2.1) (T3.t a (.inr (hq a pa))).2.1) fun _ x => x) fun _ x => x
    cases b with
    | false =>
      refine iteF ?_
      have z := again (P5 := P0) A45 hw4 Tp.none (fun b x => .inl x) hP2 (up A45.mv) h5 l5
      rw [upd_self l5] at z
      exact z
    | true =>
      refine iteT ⟨io, env5, F5, O5, _, noX, A5.si, h5, ?_, kx0⟩
      intro y' n env6 F6 O6 H6 w P A6 T6 r6 h6
      obtain ⟨hnm, hsz, h6⟩ := h6
      subst hnm
      have A46 := A45.trans A6
      have l6 : H6 L = some (.lst accV) := A46.mv.fr L _ l3 (T3.t L (.inl rfl)).2.1
      have T6' : Tp O H F6 O6 H6 P := Tp.after (A3.mv.trans A45.mv) T6
      -- what is new is apart from what was at hand
      have dj : ∀ a, (a = L ∨ P2 a) → P a → False := (T3.mv A45.mv).disj T6
      have r7 := up A46.mv
      have r8 := ROs.append1 (R := RepO K mg F6 H6 n) (P := fun b => P2 b ∨ P b) (fun P P' d v s r => r.mono (fun _ _ x => x) (fun _ _ _ x => x) s) r7 r6 (fun _ x => .inl x) (fun _ x => .inr x) fun a x y => dj a (.inr x) y
      refine ⟨accV, l6, by rw [show accV.length = acc.length from (ROs.reps (K := K) (mg := mg) (F := H6) (fun P1 d v _ r => r.rep A46.si.sub) r7).length]; exact hsz, again A46 hw4 T6' (fun b x => x) (fun z => z.elim hP2 fun z => dj L (.inl rfl) z) r8 h6 l6⟩
  · refine .inl ⟨T.stop i H2 (e2.trans A2.si.sub) (by omega), ?_⟩
    rw [List.drop_of_length_le (by omega)] at h2
    exact kQ (.lst acc) (mm + 1) env2 F2 O2 H2 (.ref L) (fun b => b = L ∨ P2 b) ⟨A2.mv, A2.si.unwipe hn2⟩ T2 ⟨L, accV, P2, rfl, hl2, .inl rfl, hP2, fun _ x => .inr x, r2⟩ h2
theorem lcO_read {K : PySem.W.Frag} {mg : MG} {vs : List Nat} {mm : Nat} (hsl : ∀ i ∈ g.slots, i ∈ vs) : ∀ σ H Qh, rdE K mg (eLcO mm it g tt te vs) W σ H Qh →
    tLc (rdI K mg it W) (rdG K mg g) (rdT K mg tt fun _ _ _ _ => False) (rdE K mg te fun _ _ _ _ => False) vs σ H Qh := by
  rintro σ H Qh ⟨io, env, F, O, Q, R, I, h, kQ, kX⟩
  refine ⟨io, env, F, O, _, _, I, h, ?_, kX⟩
  intro items env1 F1 O1 H1 J A1 T h1 L hL
  exact lcO_rest hsl kQ A1 T h1 L hL
end
section
variable {X : Cx} {elt tg iter : Expr} {ifs : List Expr} {scope : Scope} {vs : List Nat} {g : Tg} {it : ITd} {tt : TTd} {te : ET} {pos spos py : Pos} {i : Nat} {y : Str}
theorem de_lcO (mm : Nat) (own : List (Str × Nat)) (hc : X.calm = true) (hN : X.N.Nodup) (hi : DI X tg iter it) (ok : BlkOk X.N X.env.scope scope own)
    (hg : ∀ (s : Shared) (H : Hp) (C : Addr) (cl : List (Str × Addr)) (fp : List Addr), DGt (X.blk s H scope (compEnvC scope cl C X.env) fp) tg g)
    (ht : ∀ (s : Shared) (H : Hp) (C : Addr) (cl : List (Str × Addr)) (fp : List Addr), DPTs (X.blk s H scope (compEnvC scope cl C X.env) fp) ifs tt)
    (he : ∀ (s : Shared) (H : Hp) (C : Addr) (cl : List (Str × Addr)) (fp : List Addr), DE (X.blk s H scope (compEnvC scope cl C X.env) fp) elt te)
    (hv : own.map (·.2) = vs := by rfl) (hsl : ∀ i ∈ g.slots, i ∈ vs := by decide) (hs : ∀ x, foldedSetIterable iter X.env x = pure x := by intro _; rfl) : DE X (.ListComp elt [⟨tg, iter, ifs, 0⟩] scope pos) (eLcO mm it g tt te vs) := by
  subst hv
  exact fun W tk => peI (pe_lc (g := rdG X.K X.mg g) (tt := rdT X.K X.mg tt fun _ _ _ _ => False) (te := rdE X.K X.mg te fun _ _ _ _ => False) hc hN (hi W tk) ok hg (fun s H C cl fp => ht s H C cl fp _ takes00) (fun s H C cl fp => he s H C cl fp _ takes00) hs) (lcO_read hsl)
theorem ds_setLcO (mm : Nat) (own : List (Str × Nat)) (hc : X.calm = true) (hN : X.N.Nodup) (hi : DI X tg iter it) (ok : BlkOk X.N X.env.scope scope own)
    (hg : ∀ (s : Shared) (H : Hp) (C : Addr) (cl : List (Str × Addr)) (fp : List Addr), DGt (X.blk s H scope (compEnvC scope cl C X.env) fp) tg g)
    (ht : ∀ (s : Shared) (H : Hp) (C : Addr) (cl : List (Str × Addr)) (fp : List Addr), DPTs (X.blk s H scope (compEnvC scope cl C X.env) fp) ifs tt)
    (he : ∀ (s : Shared) (H : Hp) (C : Addr) (cl : List (Str × Addr)) (fp : List Addr), DE (X.blk s H scope (compEnvC scope cl C X.env) fp) elt te)
    (hsw : swapsWith (.ListComp elt [⟨tg, iter, ifs, 0⟩] scope pos) (some (.Name y py)) spos.line X.env = pure true) (hy : X.N[i]? = some y := by rfl) (hyl : X.env.scope.names.lookup y = some .local := by rfl)
    (hv : own.map (·.2) = vs := by rfl) (hsl : ∀ i ∈ g.slots, i ∈ vs := by decide) (hs : ∀ x, foldedSetIterable iter X.env x = pure x := by intro _; rfl) : DS X (.Assign [.Name y py] (.ListComp elt [⟨tg, iter, ifs, 0⟩] scope pos) spos) (sdSet i (eLcO mm it g tt te vs)) := by
  subst hv
  intro W tk
  refine psI (ps_setLc (g := rdG X.K X.mg g) (tt := rdT X.K X.mg tt fun _ _ _ _ => False) (te := rdE X.K X.mg te fun _ _ _ _ => False) hc hN hy hyl hsw (hi W tk) ok hg (fun s H C cl fp => ht s H C cl fp _ takes00) (fun s H C cl fp => he s H C cl fp _ takes00) hs) ?_
  rintro Dn σ H ⟨io, env, F, O, D, I, h, k1, k2, k3, k4, k5⟩
  refine lcO_read (W := W) hsl σ H _ ⟨io, env, F, O, _, _, I, h, ?_, k5⟩
  intro d n env1 F1 O1 H1 v P A1 T1 r1 h1
  exact k1 _ _ _ _ _ (A1.set T1 r1) h1
end
end DL
set_option Elab.async false
set_option linter.all false
set_option maxRecDepth 100000
/-! DLp: the data layer, part p: taking an owned item out of a list, putting an owned thing in. -/
namespace DL
open PySem L2 PySem.Spec PyProof.Rows

theorem ROs.take {R : AP → D → V → Prop} (hh : ∀ w, R P0 .hole w) : ∀ {ds : List D} {P : AP} {vs : List V} {i : Nat} {d : D}, ROs R P ds vs → ds[i]? = some d → ∃ u P1, vs[i]? = some u ∧ (∀ a, P1 a → P a) ∧ R P1 d u ∧ ROs R (fun a => P a ∧ ¬ P1 a) (ds.set i .hole) vs
  | [], _, _, _, _, _, e => by simp at e
  | d0 :: ds, P, _, 0, d, ⟨v, r, P1, P2, h1, h2, h3, h4, h5, h6⟩, e => by
    subst h1
    have e : d0 = d := by simpa using e
    subst e
    exact ⟨v, P1, rfl, h2, h5, v, r, P0, P2, rfl, fun _ x => x.elim, fun a x => ⟨h3 a x, fun y => h4 a y x⟩, fun _ x => x.elim, hh v, h6⟩
  | d0 :: ds, P, _, i + 1, d, ⟨v, r, P1, P2, h1, h2, h3, h4, h5, h6⟩, e => by
    subst h1
    obtain ⟨u, Q1, g1, g2, g3, g4⟩ := ROs.take (i := i) hh h6 (by simpa using e)
    exact ⟨u, Q1, by simpa using g1, fun a x => h3 a (g2 a x), g3, v, r, P1, fun a => P2 a ∧ ¬ Q1 a, rfl, fun a x => ⟨h2 a x, fun y => h4 a x (g2 a y)⟩, fun a x => ⟨h3 a x.1, x.2⟩, fun a x y => h4 a x y.1, h5, g4⟩
theorem ROs.set1 {R : AP → D → V → Prop} : ∀ {ds : List D} {P P1 P2 : AP} {vs : List V} (i : Nat) {d : D} {v : V}, ROs R P1 ds vs → R P2 d v → (∀ a, P1 a → P a) → (∀ a, P2 a → P a) → (∀ a, P1 a → P2 a → False) → ROs R P (ds.set i d) (vs.set i v)
  | [], P, _, _, vs, i, d, v, h, _, _, _, _ => by
    cases (show vs = [] from h)
    exact rfl
  | d0 :: ds, P, P1, P2, vs, 0, d, v, ⟨w, t, Q1, Q2, h1, h2, h3, h4, h5, h6⟩, r, s1, s2, dj => by
    subst h1
    exact ⟨v, t, P2, Q2, rfl, s2, fun a x => s1 a (h3 a x), fun a x y => dj a (h3 a y) x, r, h6⟩
  | d0 :: ds, P, P1, P2, vs, i + 1, d, v, ⟨w, t, Q1, Q2, h1, h2, h3, h4, h5, h6⟩, r, s1, s2, dj => by
    subst h1
    exact ⟨w, t.set i v, Q1, fun a => Q2 a ∨ P2 a, rfl, fun a x => s1 a (h2 a x), fun a x => x.elim (fun x => s1 a (h3 a x)) (s2 a), fun a x y => y.elim (h4 a x) (dj a (h2 a x)), h5,
      ROs.set1 i h6 r (fun a x => .inl x) (fun a x => .inr x) fun a x y => dj a (h3 a x) y⟩
section
variable {K : PySem.W.Frag} {mg : MG} {io : Nat → Option V} {env : DEnv} {σ : L2.St} {F F1 H H1 : Hp} {O O1 : OW} {P : AP} {n : Nat}
theorem hole_ro {w : V} : RepO K mg F H n P0 .hole w := by cases n <;> exact trivial
theorem ro_mono {P P' : AP} {d : D} {v : V} (s : ∀ a, P a → P' a) (r : RepO K mg F H n P d v) : RepO K mg F H n P' d v := r.mono (fun _ _ x => x) (fun _ _ _ x => x) s
/-- the j-th item of slot i's list goes to hand -/
theorem At.take (A : At K mg io F O H env σ F1 O1 H1) {i j : Nat} {b : Bd} {ds : List D} {d : D} (hb : env[i]? = some (some b)) (hd : b.d = .lst ds) (hn : b.n = n + 1) (hj : ds[j]? = some d) :
    ∃ a vs u P1 O2, σ[i]? = some (some (.ref a)) ∧ H1 a = some (.lst vs) ∧ vs[j]? = some u ∧ RepO K mg F1 H1 n P1 d u ∧ Tp O H F1 O2 H1 P1 ∧ At K mg io F O H (env.set i (some { b with d := .lst (ds.set j .hole) })) σ F1 O2 H1 := by
  obtain ⟨v, s1, s2, s3⟩ := A.si.slot i b hb
  rw [hn, hd] at s2
  obtain ⟨a, vs, P', rfl, h2, h3, h4, h5, h6⟩ := s2
  obtain ⟨u, P1, g1, g2, g3, g4⟩ := h6.take (fun w => hole_ro) hj
  classical
  have own1 : ∀ x, P1 x → O1 x = some i := fun x p => h5 x (g2 x p)
  have off : ∀ {x k}, (if P1 x then none else O1 x) = some k → ¬ P1 x ∧ O1 x = some k := fun {x k} e => by
    by_cases p : P1 x
    · rw [if_pos p] at e; cases e
    · rw [if_neg p] at e; exact ⟨p, e⟩
  refine ⟨a, vs, u, P1, fun x => if P1 x then none else O1 x, s1, h2, g1, g3, ⟨fun x p => ⟨(A.si.own x i (own1 x p)).1, if_pos p, (A.si.own x i (own1 x p)).2⟩, fun x p => A.mv.on x i (own1 x p)⟩,
    ⟨⟨A.mv.ff, A.mv.fr, A.mv.fn, fun x k e => A.mv.on x k (off e).2⟩, ⟨A.si.sub, fun x k e => A.si.own x k (off e).2, fun k c hc => ?_, by rw [List.length_set]; exact A.si.len⟩⟩⟩
  rcases getElem?_set_some hc with ⟨rfl, e, _⟩ | ⟨ne, hc⟩
  · cases e
    refine ⟨.ref a, s1, ?_, s3⟩
    show RepO K mg F1 H1 b.n _ (.lst (ds.set j .hole)) (.ref a)
    rw [hn]
    refine ⟨a, vs, fun x => P' x ∧ ¬ P1 x, rfl, h2, ?_, fun z => h4 z.1, fun x p => ?_, g4⟩
    · show (if P1 a then none else O1 a) = some i
      rw [if_neg fun p => h4 (g2 a p)]
      exact h3
    · show (if P1 x then none else O1 x) = some i
      rw [if_neg p.2]
      exact h5 x p.1
  · obtain ⟨w, q1, q2, q3⟩ := A.si.slot k c hc
    refine ⟨w, q1, ro_mono (fun x e => ?_) q2, q3⟩
    show (if P1 x then none else O1 x) = some k
    rw [if_neg fun p => ne (by have := own1 x p; rw [e] at this; exact (Option.some.inj this).symm)]
    exact e
/-- slot i's container is written, what is at hand goes into it -/
theorem At.give (A : At K mg io F O H env σ F1 O1 H1) {i : Nat} {b : Bd} {a : Addr} {o : HO} {d' : D} {v : V} (t : Tp O H F1 O1 H1 P) (hb : env[i]? = some (some b)) (hs : σ[i]? = some (some v)) (ha : O1 a = some i)
    (r : RepO K mg F1 (upd H1 a o) b.n (fun x => O1 x = some i ∨ P x) d' v) : ∃ O2, At K mg io F O H (env.set i (some { b with d := d' })) σ F1 O2 (upd H1 a o) := by
  classical
  obtain ⟨fa, ob, hoa⟩ := A.si.own a i ha
  obtain ⟨v', s1, s2, s3⟩ := A.si.slot i b hb
  have ev : v' = v := by rw [hs] at s1; exact (Option.some.inj (Option.some.inj s1)).symm
  subst ev
  have on2 : ∀ {x k}, (if P x then some i else O1 x) = some k → (P x ∧ k = i) ∨ (¬ P x ∧ O1 x = some k) := fun {x k} e => by
    by_cases p : P x
    · rw [if_pos p] at e; cases e; exact .inl ⟨p, rfl⟩
    · rw [if_neg p] at e; exact .inr ⟨p, e⟩
  have stands : ∀ {x o'}, H1 x = some o' → ∃ o2, upd H1 a o x = some o2 := fun {x o'} e => by
    by_cases z : x = a
    · subst z; exact ⟨_, upd_same⟩
    · exact ⟨o', by rw [upd_ne z]; exact e⟩
  refine ⟨fun x => if P x then some i else O1 x, ⟨A.mv.ff, fun c oc h q => ?_, A.mv.fn, fun x k e => ?_⟩, ⟨fun c oc h => ?_, fun x k e => ?_, fun k c hc => ?_, by rw [List.length_set]; exact A.si.len⟩⟩
  · have ne : c ≠ a := fun z => by
      subst z
      rcases A.mv.on c i ha with z | ⟨k, z⟩
      · rw [h] at z; cases z
      · rw [q] at z; cases z
    rw [upd_ne ne]
    exact A.mv.fr c oc h q
  · rcases on2 e with ⟨p, _⟩ | ⟨_, e⟩
    · exact t.nw x p
    · exact A.mv.on x k e
  · have ne : c ≠ a := fun z => by subst z; rw [fa] at h; cases h
    rw [upd_ne ne]
    exact A.si.sub c oc h
  · rcases on2 e with ⟨p, _⟩ | ⟨_, e⟩
    · obtain ⟨h1, _, o1, h2⟩ := t.t x p
      exact ⟨h1, stands h2⟩
    · obtain ⟨h1, o1, h2⟩ := A.si.own x k e
      exact ⟨h1, stands h2⟩
  · rcases getElem?_set_some hc with ⟨rfl, e, _⟩ | ⟨ne, hc⟩
    · cases e
      refine ⟨v', s1, ro_mono (fun x e => ?_) r, s3⟩
      show (if P x then some i else O1 x) = some i
      by_cases p : P x
      · rw [if_pos p]
      · rw [if_neg p]; exact e.elim id fun z => absurd z p
    · obtain ⟨w, q1, q2, q3⟩ := A.si.slot k c hc
      refine ⟨w, q1, q2.mono (fun _ _ x => x) (fun x ox hx h => by rw [upd_ne fun z => by rw [z, ha] at hx; exact ne (Option.some.inj hx)]; exact h) (fun x e => ?_), q3⟩
      show (if P x then some i else O1 x) = some k
      rw [if_neg fun p => by rw [(t.t x p).2.1] at e; cases e]
      exact e
end
/-! ### x[e] taken out -/
def eMv (i : Nat) (ti : PUT) : ET := fun env Q _ => match gt env i with
  | some b => match b.d, b.n with
    | .lst ds, n + 1 => ti env fun ix => match ix with
      | .int k => match ixI ds.length k with | some j => someD (ds[j]?) fun d => Q d n (env.set i (some { b with d := .lst (ds.set j .hole) })) | none => False
      | _ => False
    | _, _ => False
  | none => False
theorem de_mv {X : Cx} {b : Expr} {ti : PUT} {pos : Pos} (i : Nat) {x : Str} {pos' : Pos} (hu : X.A.units + 1 < cLine) (hb : PU X b ti) (hs : PlainIx b := by exact fun _ _ => rfl) (hN : X.N[i]? = some x := by rfl)
    (hv : Vis X.env.scope x := by first | exact Or.inl rfl | exact Or.inr (Or.inl rfl) | exact Or.inr (Or.inr rfl)) (hd : (x == ("__debug__" : Str)) = false := by decide) (hcd : (x == ("__classdict__" : Str)) = false := by decide) :
    DE X (.Subscript (.Name x pos') b pos) (eMv i ti) := by
  intro W tk
  refine peI (pe_ix (ix_any hu) (pe_var hN hv hd hcd) hb hs) ?_
  rintro σ H Qh ⟨io, env, F, O, Q, R, I, h, kQ, kX⟩
  unfold eMv at h
  cases e0 : gt env i with
  | none => rw [e0] at h; exact h.elim
  | some b0 =>
    rw [e0] at h
    obtain ⟨d0, n0, io0⟩ := b0
    cases d0 <;> first | exact (show False from h).elim | skip
    rename_i ds
    cases n0 with
    | zero => exact (show False from h).elim
    | succ n =>
      obtain ⟨v, h1, h2, _⟩ := I.slot i _ (gt_some e0)
      refine ⟨v, h1, io, env, F, O, _, I, h, ?_⟩
      intro ix w H2 e2 r2 q
      cases ix <;> first | exact (show False from q).elim | skip
      rename_i k
      cases (show w = _ from r2)
      have q : (match ixI ds.length k with | some j => someD (ds[j]?) fun d => Q d n (env.set i (some ⟨.lst (ds.set j .hole), n + 1, io0⟩)) | none => False) := q
      rw [ixI_eq] at q
      cases ej : ixN ds.length k with
      | none => rw [ej] at q; exact q.elim
      | some j =>
        rw [ej] at q
        obtain ⟨d, hd2, q⟩ := someD_of q
        have A2 := (At.start I).ext e2
        obtain ⟨a, vs, u, P1, O2, t1, t2, t3, t4, t5, t6⟩ := A2.take (gt_some e0) rfl rfl hd2
        have ev : v = .ref a := by rw [h1] at t1; exact Option.some.inj (Option.some.inj t1)
        subst ev
        have lv : vs.length = ds.length := by
          obtain ⟨a', vs', P', e1, g2, _, _, _, g6⟩ := h2
          cases e1
          rw [e2 _ _ g2] at t2
          cases t2
          exact (ROs.reps (K := X.K) (mg := X.mg) (F := H) (fun P1 d v _ r => r.rep I.sub) g6).length
        refine .inl (.inl ⟨a, vs, k, u, rfl, rfl, .inl (.inl t2), ?_, kQ d n _ _ _ _ u P1 t6 t5 t4 q⟩)
        unfold L2.atI
        rw [lv, ej]
        exact t3
/-! ### x[k] = e, x.append(e), e owned -/
/-- what x, a local, is behind an owned thing is put in -/
def setO1 (d ix x : D) (k : D → Prop) : Prop := match d, ix with
  | .lst ds, .int j => match ixI ds.length j with | some j => k (.lst (ds.set j x)) | none => False
  | .dK kvs, ix => match keyD ix with | some key => (lookD kvs key).isSome = false ∧ kvs.length < sizeLine ∧ k (.dK (kvs ++ [(key, x)])) | none => False
  | _, _ => False
def setO (i : Nat) (ix x : D) (m : Nat) (env : DEnv) (k : DEnv → Prop) : Prop := match gt env i with
  | some b => match Nat.beq b.n (m + 1) with
    | true => setO1 b.d ix x fun d' => k (env.set i (some { b with d := d' }))
    | false => False
  | none => False
/-- x[ix] = e, ix a peek -/
def sdSetO (i : Nat) (ti : PUT) (te : ET) : SD := fun env D => te env (fun x m env1 => match gt env1 i with | some _ => ti env1 fun ix => setO i ix x m env1 D.nx | none => False) D.ex
theorem look_none {κ : Type} [DecidableEq κ] {k : κ} : ∀ {kvs : List (κ × D)}, (lookD kvs k).isSome = false → (kvs.any fun kv => decide (kv.1 = k)) = false
  | [], _ => rfl
  | (k0, d0) :: r, h => by
    rw [lookD_cons] at h
    by_cases e : k0 = k
    · rw [if_pos e] at h; cases h
    · rw [if_neg e] at h
      rw [List.any_cons, look_none h, decide_eq_false (show ¬ (k0, d0).1 = k from e)]
      rfl
section
variable {X : Cx} {i e : Expr} {te : ET} {pi : PUT} {pos pos' : Pos}
theorem ds_setO (s : Nat) {x : Str} {posx : Pos} (hu : X.A.units + 1 < cLine) (he : DE X e te) (hi : PU X i pi) (hN : X.N[s]? = some x := by rfl) (hv : Vis X.env.scope x := by first | exact Or.inl rfl | exact Or.inr (Or.inl rfl) | exact Or.inr (Or.inr rfl))
    (hd : (x == ("__debug__" : Str)) = false := by decide) (hcd : (x == ("__classdict__" : Str)) = false := by decide)
    (ha : ∀ v, assign (.Subscript (.Name x posx) i pos') X.env v = (do
      let ov ← holding [v] (eval (.Name x posx) X.env)
      let iv ← holding [v, ov] (eval i X.env)
      standAt pos'
      holding [v, ov, iv] (setItem ov iv v)
      release [v, ov, iv] []) := by intro _; rfl)
    (hs : swapsWithSole [.Subscript (.Name x posx) i pos'] e pos.line X.env = pure false := by rfl) (hw : swappedStores [.Subscript (.Name x posx) i pos'] e X.env = pure none := by rfl)
    (h1 : List.map (fun x => x.snd) (assignEach [.Subscript (.Name x posx) i pos'] X.env) = [assign (.Subscript (.Name x posx) i pos') X.env] := by rfl) :
    DS X (.Assign [.Subscript (.Name x posx) i pos'] e pos) (sdSetO s pi te) := by
  intro W tk
  refine psI (ps_asg (he W tk) (pg_sub (pe_var hN hv hd hcd) hi (set_any hu) ha) hs hw (h1 := h1)) ?_
  rintro Dn σ H ⟨io, env, F, O, D, I, h, k1, k2, k3, k4, k5⟩
  refine ⟨io, env, F, O, _, _, I, h, ?_, k5⟩
  intro x m env1 F1 O1 H1 w P A1 T1 r1 q1
  cases e1 : gt env1 s with
  | none => rw [e1] at q1; exact q1.elim
  | some b =>
    rw [e1] at q1
    obtain ⟨v, g1, g2, g3⟩ := A1.si.slot s b (gt_some e1)
    refine ⟨v, g1, io, env1, F1, O1, _, A1.si, q1, ?_⟩
    intro ix wi H3 e3 ri q3
    have A3 := A1.ext e3
    have T3 : Tp O H F1 O1 H3 P := ⟨fun a p => let ⟨t1, t2, o, t3⟩ := T1.t a p; ⟨t1, t2, o, e3 _ _ t3⟩, T1.nw⟩
    have r3 : RepO X.K X.mg F1 H3 m P x w := r1.mono (fun _ _ x => x) (fun a o _ z => e3 a o z) fun _ x => x
    unfold setO at q3
    rw [e1] at q3
    replace q3 : (match Nat.beq b.n (m + 1) with
      | true => setO1 b.d ix x fun d' => D.nx (env1.set s (some { b with d := d' }))
      | false => False) := q3
    cases en : Nat.beq b.n (m + 1) with
    | false => rw [en] at q3; exact q3.elim
    | true =>
      rw [en] at q3
      have hn := Nat.eq_of_beq_eq_true en
      obtain ⟨v', s1, s2, s3⟩ := A3.si.slot s b (gt_some e1)
      have ev : v' = v := by rw [g1] at s1; exact (Option.some.inj (Option.some.inj s1)).symm
      subst ev
      rw [hn] at s2
      have apart : ∀ c, O1 c = some s → P c → False := fun c z p => by rw [(T3.t c p).2.1] at z; cases z
      cases hbd : b.d with
      | lst ds =>
        rw [hbd] at q3 s2
        obtain ⟨j0, rfl⟩ : ∃ j0, ix = .int j0 := by cases ix <;> first | exact ⟨_, rfl⟩ | exact (show False from q3).elim
        cases (show wi = _ from ri)
        have q3 : (match ixI ds.length j0 with | some j => D.nx (env1.set s (some { b with d := .lst (ds.set j x) })) | none => False) := q3
        rw [ixI_eq] at q3
        cases ej : ixN ds.length j0 with
        | none => rw [ej] at q3; exact q3.elim
        | some j =>
          rw [ej] at q3
          obtain ⟨a, vs, P', rfl, t2, t3, t4, t5, t6⟩ := s2
          have np : ∀ c, (P' c ∨ P c) → c ≠ a := fun c z zz => by subst zz; exact z.elim t4 fun z => apart c t3 z
          have lv : vs.length = ds.length := (ROs.reps (K := X.K) (mg := X.mg) (F := H3) (fun P1 d v _ r => r.rep A3.si.sub) t6).length
          obtain ⟨O4, A4⟩ := A3.give (a := a) (o := .lst (vs.set j w)) (d' := .lst (ds.set j x)) T3 (gt_some e1) s1 t3 (by
            rw [hn]
            refine ⟨a, vs.set j w, fun c => P' c ∨ P c, rfl, upd_same, .inl t3, fun z => np a z rfl, fun c z => z.elim (fun z => .inl (t5 c z)) .inr, ?_⟩
            exact (ROs.set1 (P := fun c => P' c ∨ P c) j t6 r3 (fun _ z => .inl z) (fun _ z => .inr z) fun c z p => apart c (t5 c z) p).imp (fun Q0 d0 w0 hq rr => rr.mono (fun _ _ x => x) (fun c o pc z => by rw [upd_ne (np c (hq c pc))]; exact z) fun _ x => x) fun _ x => x)
          exact .inl ⟨a, vs, j0, j, rfl, rfl, t2, by rw [lv]; exact ej, k1 _ _ _ _ _ A4 q3⟩
      | dK kvs =>
        rw [hbd] at q3 s2
        have q3 : (match keyD ix with | some key => (lookD kvs key).isSome = false ∧ kvs.length < sizeLine ∧ D.nx (env1.set s (some { b with d := .dK (kvs ++ [(key, x)]) })) | none => False) := by cases ix <;> exact q3
        cases ek : keyD ix with
        | none => rw [ek] at q3; exact q3.elim
        | some key =>
          rw [ek] at q3
          obtain ⟨q4, q5, q6⟩ := q3
          have ew := keyD_v ek ri
          obtain ⟨a, vs, P', rfl, t2, t3, t4, t5, tk, t6⟩ := s2
          have np : ∀ c, (P' c ∨ P c) → c ≠ a := fun c z zz => by subst zz; exact z.elim t4 fun z => apart c t3 z
          have lv : vs.length = kvs.length := by have := congrArg List.length tk; simpa using this.symm
          have fresh : (vs.any fun kv => decide (kv.1 = key)) = false := by rw [← keys_any tk]; exact look_none q4
          have pk : putK vs key w = vs ++ [(key, w)] := by unfold putK; rw [fresh]; rfl
          obtain ⟨O4, A4⟩ := A3.give (a := a) (o := .dK (vs ++ [(key, w)])) (d' := .dK (kvs ++ [(key, x)])) T3 (gt_some e1) s1 t3 (by
            rw [hn]
            refine ⟨a, vs ++ [(key, w)], fun c => P' c ∨ P c, rfl, upd_same, .inl t3, fun z => np a z rfl, fun c z => z.elim (fun z => .inl (t5 c z)) .inr, by rw [List.map_append, List.map_append, tk]; rfl, ?_⟩
            rw [List.map_append, List.map_append]
            exact (ROs.append1 (R := RepO X.K X.mg F1 H3 m) (P := fun c => P' c ∨ P c) (fun P P' d v s r => ro_mono s r) t6 r3 (fun _ z => .inl z) (fun _ z => .inr z) fun c z p => apart c (t5 c z) p).imp (fun Q0 d0 w0 hq rr => rr.mono (fun _ _ x => x) (fun c o pc z => by rw [upd_ne (np c (hq c pc))]; exact z) fun _ x => x) fun _ x => x)
          exact .inr ⟨a, _, rfl, .inl ⟨vs, key, t2, ew, by rw [lv]; exact q5, by rw [pk]⟩, k1 _ _ _ _ _ A4 q6⟩
      | _ => rw [hbd] at q3; exact (show False from q3).elim
end
end DL
set_option Elab.async false
set_option linter.all false
set_option maxRecDepth 100000
/-! DLq: the data layer, part q: comprehensions over a dict's keys; calls with keywords; one-pair displays; appending an owned thing. -/
namespace DL
open PySem L2 PySem.Spec PyProof.Rows

/-! ### a dict is locked, unlocked -/
def isDk : HO → Bool
  | .dK _ => true | .dT _ => true | .frz _ (.dK _) => true | .frz _ (.dT _) => true | _ => false
def isD0 : HO → Bool
  | .dK _ => true | .dT _ => true | _ => false
/-- all but how dicts stand -/
structure Sees (F F' : Hp) : Prop where
  st : ∀ a o, isDk o = false → F a = some o → F' a = some o
  rd : ∀ a o, isD0 o = true → Rd F a o → Rd F' a o
theorem Sees.of {F F' : Hp} (e : Same F F') : Sees F F' := ⟨fun a o _ h => e a o h, fun a o _ h => rd_mono e h⟩
section
variable {K : PySem.W.Frag} {mg : MG} {F F' H H' : Hp}
theorem Sees.lst (e : Sees F F') {a : Addr} {xs : List V} (h : Rd F a (.lst xs)) : Rd F' a (.lst xs) := by
  rcases h with h | ⟨o, h⟩
  · exact .inl (e.st _ _ rfl h)
  · exact .inr ⟨o, e.st _ _ rfl h⟩
theorem Sees.sqt (e : Sees F F') {a : Addr} {xs : List V} (h : SqT K F a xs) : SqT K F' a xs := by
  rcases h with (h | ⟨o, h⟩) | h
  · exact .inl (.inl (e.st _ _ rfl h))
  · exact .inl (.inr ⟨o, e.st _ _ rfl h⟩)
  · exact .inr h
mutual
theorem Rep.sees (e : Sees F F') : ∀ {d : D} {v : V}, Rep K mg F d v → Rep K mg F' d v
  | .non, _, h => h
  | .bl _, _, h => h
  | .int _, _, h => h
  | .str _, _, h => h
  | .tup _, _, ⟨a, vs, h1, h2, h3⟩ => ⟨a, vs, h1, e.st _ _ rfl h2, Reps.sees e h3⟩
  | .lst _, _, ⟨a, vs, h1, h2, h3⟩ => ⟨a, vs, h1, e.lst h2, Reps.sees e h3⟩
  | .dK _, _, ⟨a, vs, h1, h2, h3⟩ => ⟨a, vs, h1, e.rd _ _ rfl h2, RepK.sees e h3⟩
  | .dT _, _, ⟨a, vs, h1, h2, h3⟩ => ⟨a, vs, h1, e.rd _ _ rfl h2, RepT.sees e h3⟩
  | .obj _ _, _, ⟨a, C, dx, vs, h1, h2, h3, h4, h5⟩ => ⟨a, C, dx, vs, h1, e.st _ _ rfl h2, e.st _ _ rfl h3, h4, RepF.sees e h5⟩
  | .fn _, _, h => h
  | .ktu _, _, ⟨a, vs, h1, h2, h3⟩ => ⟨a, vs, h1, e.sqt h2, Reps.sees e h3⟩
  | .hole, _, h => h
theorem Reps.sees (e : Sees F F') : ∀ {ds : List D} {vs : List V}, Reps K mg F ds vs → Reps K mg F' ds vs
  | [], _, h => h
  | _ :: _, _, ⟨v, r, h1, h2, h3⟩ => ⟨v, r, h1, Rep.sees e h2, Reps.sees e h3⟩
theorem RepK.sees (e : Sees F F') : ∀ {ds : List (Key × D)} {vs : List (Key × V)}, RepK K mg F ds vs → RepK K mg F' ds vs
  | [], _, h => h
  | (_, _) :: _, _, ⟨v, r, h1, h2, h3⟩ => ⟨v, r, h1, Rep.sees e h2, RepK.sees e h3⟩
theorem RepT.sees (e : Sees F F') : ∀ {ds : List (List Key × D)} {vs : List (List Key × V)}, RepT K mg F ds vs → RepT K mg F' ds vs
  | [], _, h => h
  | (_, _) :: _, _, ⟨v, r, h1, h2, h3⟩ => ⟨v, r, h1, Rep.sees e h2, RepT.sees e h3⟩
theorem RepF.sees (e : Sees F F') : ∀ {ds : List (Str × D)} {vs : List (Str × V)}, RepF K mg F ds vs → RepF K mg F' ds vs
  | [], _, h => h
  | (_, _) :: _, _, ⟨v, r, h1, h2, h3⟩ => ⟨v, r, h1, Rep.sees e h2, RepF.sees e h3⟩
end
theorem RepO.sees : ∀ {n : Nat} {P : AP} {d : D} {v : V}, Sees F F' → (∀ a o, P a → H a = some o → H' a = some o) → RepO K mg F H n P d v → RepO K mg F' H' n P d v
  | 0, _, _, _, e, _, h => Rep.sees e h
  | n + 1, P, .lst ds, v, e, k, ⟨a, vs, P1, h1, h2, h3, h4, h5, h6⟩ => ⟨a, vs, P1, h1, k _ _ h3 h2, h3, h4, h5, h6.imp (fun Q d w hq r => RepO.sees e (fun a o x => k a o (h5 _ (hq _ x))) r) fun _ x => x⟩
  | n + 1, P, .dK ds, v, e, k, ⟨a, vs, P1, h1, h2, h3, h4, h5, h6, h7⟩ => ⟨a, vs, P1, h1, k _ _ h3 h2, h3, h4, h5, h6, h7.imp (fun Q d w hq r => RepO.sees e (fun a o x => k a o (h5 _ (hq _ x))) r) fun _ x => x⟩
  | n + 1, P, .dT ds, v, e, k, ⟨a, vs, P1, h1, h2, h3, h4, h5, h6, h7⟩ => ⟨a, vs, P1, h1, k _ _ h3 h2, h3, h4, h5, h6, h7.imp (fun Q d w hq r => RepO.sees e (fun a o x => k a o (h5 _ (hq _ x))) r) fun _ x => x⟩
  | n + 1, P, .obj c ds, v, e, k, ⟨a, C, dx, vs, P1, h1, h2, h2', hm, h3, h3', h4, h4', h5, h6, h7⟩ =>
    ⟨a, C, dx, vs, P1, h1, k _ _ h3 h2, k _ _ h3' h2', hm, h3, h3', h4, h4', h5, h6, h7.imp (fun Q d w hq r => RepO.sees e (fun a o x => k a o (h5 _ (hq _ x))) r) fun _ x => x⟩
  | n + 1, _, .non, _, _, _, h => h
  | n + 1, _, .bl _, _, _, _, h => h
  | n + 1, _, .int _, _, _, _, h => h
  | n + 1, _, .str _, _, _, _, h => h
  | n + 1, _, .tup _, _, e, _, h => Rep.sees (d := .tup _) e h
  | n + 1, _, .fn _, _, _, _, h => h
  | n + 1, _, .ktu _, _, e, _, h => Rep.sees (d := .ktu _) e h
  | n + 1, _, .hole, _, _, _, h => h
theorem sees_lock {F : Hp} {d : Addr} {u : HO} {od : Obj} (h : F d = some u) (hu : isD0 u = true) : Sees F (upd F d (.frz od u)) := ⟨fun a o ho e => by
  have ne : a ≠ d := fun z => by subst z; rw [h] at e; cases e; cases u <;> first | cases ho; done | cases hu
  rw [upd_ne ne]; exact e, fun a o ho r => by
  by_cases z : a = d
  · subst z
    rcases r with r | ⟨o', r⟩
    · rw [h] at r; cases r; exact .inr ⟨od, upd_same⟩
    · rw [h] at r; cases r; cases hu
  · rcases r with r | ⟨o', r⟩
    · exact .inl (by rw [upd_ne z]; exact r)
    · exact .inr ⟨o', by rw [upd_ne z]; exact r⟩⟩
theorem sees_unlock {F : Hp} {d : Addr} {u : HO} {od : Obj} (h : F d = some (.frz od u)) (hu : isD0 u = true) : Sees F (upd F d u) := ⟨fun a o ho e => by
  have ne : a ≠ d := fun z => by subst z; rw [h] at e; cases e; cases u <;> first | cases ho; done | cases hu
  rw [upd_ne ne]; exact e, fun a o ho r => by
  by_cases z : a = d
  · subst z
    rcases r with r | ⟨o', r⟩
    · rw [h] at r; cases r; cases ho
    · rw [h] at r; cases r; exact .inl upd_same
  · rcases r with r | ⟨o', r⟩
    · exact .inl (by rw [upd_ne z]; exact r)
    · exact .inr ⟨o', by rw [upd_ne z]; exact r⟩⟩
end
section
variable {K : PySem.W.Frag} {mg : MG} {io : Nat → Option V} {env env1 : DEnv} {σ σ1 : L2.St} {F F1 H H1 : Hp} {O O1 : OW} {P : AP} {n : Nat} {d : Addr} {u : HO} {od : Obj}
theorem SI.lock (I : SI K mg io env σ F O H) (h : F d = some u) (hu : isD0 u = true) : SI K mg io env σ (upd F d (.frz od u)) O (upd H d (.frz od u)) where
  sub := fun a o e => by
    by_cases z : a = d
    · subst z; rw [upd_same] at e ⊢; exact e
    · rw [upd_ne z] at e ⊢; exact I.sub a o e
  own := fun a i e => by
    obtain ⟨h1, o, h2⟩ := I.own a i e
    have z : a ≠ d := fun z => by subst z; rw [h] at h1; cases h1
    rw [upd_ne z, upd_ne z]
    exact ⟨h1, o, h2⟩
  slot := fun i b hb => by
    obtain ⟨v, h1, h2, h3⟩ := I.slot i b hb
    refine ⟨v, h1, h2.sees (sees_lock h hu) (fun a o e x => ?_), h3⟩
    have z : a ≠ d := fun z => by have q := (I.own a i e).1; rw [z, h] at q; cases q
    rw [upd_ne z]; exact x
  len := I.len
theorem At.unlock (I : SI K mg io env σ F O H) (h : F d = some u) (hu : isD0 u = true) (A : At K mg io (upd F d (.frz od u)) O (upd H d (.frz od u)) env1 σ1 F1 O1 H1) :
    F1 d = some (.frz od u) ∧ H1 d = some (.frz od u) ∧ At K mg io F O H env1 σ1 (upd F1 d u) O1 (upd H1 d u) ∧ ∀ P, Tp O (upd H d (.frz od u)) F1 O1 H1 P → Tp O H (upd F1 d u) O1 (upd H1 d u) P ∧ ∀ n d' v, RepO K mg F1 H1 n P d' v → RepO K mg (upd F1 d u) (upd H1 d u) n P d' v := by
  have f1 := A.mv.ff d _ upd_same
  have h1 := A.si.sub d _ f1
  have hd := I.sub d u h
  have back : ∀ {a}, (upd H d (.frz od u) a = none ∨ ∃ i, O a = some i) → H a = none ∨ ∃ i, O a = some i := fun {a} z => z.imp (fun z => by
    have ne : a ≠ d := fun q => by subst q; rw [upd_same] at z; cases z
    rw [upd_ne ne] at z; exact z) id
  refine ⟨f1, h1, ⟨⟨fun a o e => ?_, fun a o e q => ?_, fun a o e => ?_, fun a i e => back (A.mv.on a i e)⟩, ⟨fun a o e => ?_, fun a i e => ?_, fun i b hb => ?_, A.si.len⟩⟩, fun P T => ⟨⟨fun a p => ?_, fun a p => back (T.nw a p)⟩, fun n d' v r => ?_⟩⟩
  · by_cases z : a = d
    · subst z; rw [h] at e; cases e; exact upd_same
    · rw [upd_ne z]; exact A.mv.ff a o (by rw [upd_ne z]; exact e)
  · by_cases z : a = d
    · subst z; rw [hd] at e; cases e; exact upd_same
    · rw [upd_ne z]; exact A.mv.fr a o (by rw [upd_ne z]; exact e) q
  · by_cases z : a = d
    · subst z; rw [upd_same] at e; cases e; exact .inl h
    · rw [upd_ne z] at e
      rcases A.mv.fn a o e with q | q
      · rw [upd_ne z] at q; exact .inl q
      · exact .inr (back q)
  · by_cases z : a = d
    · subst z; rw [upd_same] at e ⊢; exact e
    · rw [upd_ne z] at e ⊢; exact A.si.sub a o e
  · obtain ⟨g1, o, g2⟩ := A.si.own a i e
    have z : a ≠ d := fun z => by subst z; rw [f1] at g1; cases g1
    rw [upd_ne z, upd_ne z]
    exact ⟨g1, o, g2⟩
  · obtain ⟨v, g1, g2, g3⟩ := A.si.slot i b hb
    refine ⟨v, g1, g2.sees (sees_unlock f1 hu) (fun a o e x => ?_), g3⟩
    have z : a ≠ d := fun z => by have q := (A.si.own a i e).1; rw [z, f1] at q; cases q
    rw [upd_ne z]; exact x
  · obtain ⟨g1, g2, o, g3⟩ := T.t a p
    have z : a ≠ d := fun z => by subst z; rw [f1] at g1; cases g1
    rw [upd_ne z, upd_ne z]
    exact ⟨g1, g2, o, g3⟩
  · refine r.sees (sees_unlock f1 hu) fun a o p x => ?_
    have z : a ≠ d := fun z => by have q := (T.t a p).1; rw [z, f1] at q; cases q
    rw [upd_ne z]; exact x
theorem KE.lock {Q : QE} {Qh : VK} (I : SI K mg io env σ F O H) (h : F d = some u) (hu : isD0 u = true) (k : KE K mg io σ F O H Q Qh) : KE K mg io σ (upd F d (.frz od u)) O (upd H d (.frz od u)) Q (fun v H' => H' d = some (.frz od u) ∧ Qh v (upd H' d u)) := by
  intro d' n env1 F1 O1 H1 v P A T r q
  obtain ⟨_, h1, A', tt⟩ := At.unlock I h hu A
  obtain ⟨T', rr⟩ := tt P T
  exact ⟨h1, k d' n env1 _ O1 _ v P A' T' (rr n d' v r) q⟩
end
theorem mut_d0 {u : HO} (h : isD0 u = true) : Mut (some u) := by cases u <;> first | exact True.intro | cases h
theorem itok_keys {K : PySem.W.Frag} {mg : MG} {F : Hp} {d : Addr} {o : Obj} {kvs : List (Key × D)} {vs : List (Key × V)} (h1 : F d = some (.frz o (.dK vs))) (h2 : RepK K mg F kvs vs) : ItOk K mg (Itk d o vs) (kvs.map fun kv => kD kv.1) F := by
  have hl : vs.length = kvs.length := by have := congrArg List.length (RepK.keys h2).1; simpa using this.symm
  refine ⟨fun i H e hi => ⟨e _ _ h1, by rw [List.length_map] at hi; omega⟩, fun i H e hi => ⟨e _ _ h1, by rw [List.length_map] at hi; omega⟩, ?_⟩
  rintro i H v H' e hi ⟨rfl, k, w, hk, rfl⟩
  have hm := (RepK.keys h2).1
  have e1 : (kvs.map (·.1))[i]? = some k := by rw [hm, List.getElem?_map, hk]; rfl
  rw [List.getElem?_map] at e1
  cases ek : kvs[i]? with
  | none => rw [ek] at e1; cases e1
  | some p =>
    rw [ek] at e1
    have e1 : p.1 = k := Option.some.inj e1
    refine ⟨kD k, by rw [List.getElem?_map, ek, ← e1]; rfl, .inl ⟨rfl, ?_⟩⟩
    cases k <;> exact rfl
theorem pe_either {X : Cx} {e : Expr} {t t' : TE} (h : PE X e t) (h' : PE X e t') : PE X e (fun σ H Q => t σ H Q ∨ t' σ H Q) := ⟨fun pins s σ H Q I w => w.elim (h.run pins s σ H Q I) (h'.run pins s σ H Q I)⟩
def keysOf (d : D) (k : List D → Prop) : Prop := match d with
  | .dK kvs => k (kvs.map fun kv => kD kv.1)
  | _ => False
/-- [e for x in d if ..], d a local that bears a dict -/
def eLcK (i : Nat) (g : Tg) (tt : TTd) (te : ET) (vs : List Nat) : ET := fun env Q _ => match gt env i with
  | some b => keysOf b.d fun items => lcD g tt te vs items [] (wipeD (env.set i (some { b with n := 0 })) vs) Q
  | none => False
theorem keysOf_of {d : D} {k : List D → Prop} (h : keysOf d k) : ∃ kvs, d = .dK kvs ∧ k (kvs.map fun kv => kD kv.1) := by cases d <;> first | exact ⟨_, rfl, h⟩ | exact h.elim
section
variable {X : Cx} {elt tg : Expr} {ifs : List Expr} {scope : Scope} {vs : List Nat} {g : Tg} {tt : TTd} {te : ET} {pos px : Pos} {x : Str}
theorem de_lcK (i : Nat) (own : List (Str × Nat)) (hc : X.calm = true) (hN : X.N.Nodup) (ok : BlkOk X.N X.env.scope scope own)
    (hg : ∀ (s : Shared) (H : Hp) (C : Addr) (cl : List (Str × Addr)) (fp : List Addr), DGt (X.blk s H scope (compEnvC scope cl C X.env) fp) tg g)
    (ht : ∀ (s : Shared) (H : Hp) (C : Addr) (cl : List (Str × Addr)) (fp : List Addr), DPTs (X.blk s H scope (compEnvC scope cl C X.env) fp) ifs tt)
    (he : ∀ (s : Shared) (H : Hp) (C : Addr) (cl : List (Str × Addr)) (fp : List Addr), DE (X.blk s H scope (compEnvC scope cl C X.env) fp) elt te)
    (hv : own.map (·.2) = vs := by rfl) (hsl : ∀ i ∈ g.slots, i ∈ vs := by decide) (hs : ∀ z, foldedSetIterable (.Name x px) X.env z = pure z := by intro _; rfl) (hNi : X.N[i]? = some x := by rfl)
    (hvi : Vis X.env.scope x := by first | exact Or.inl rfl | exact Or.inr (Or.inl rfl) | exact Or.inr (Or.inr rfl)) (hd : (x == ("__debug__" : Str)) = false := by decide) (hcd : (x == ("__classdict__" : Str)) = false := by decide) :
    DE X (.ListComp elt [⟨tg, .Name x px, ifs, 0⟩] scope pos) (eLcK i g tt te vs) := by
  subst hv
  intro W tk
  have base := pe_lc (pos := pos) (g := rdG X.K X.mg g) (tt := rdT X.K X.mg tt fun _ _ _ _ => False) (te := rdE X.K X.mg te fun _ _ _ _ => False) hc hN (pi_keys (tg := tg) (pe_var hNi hvi hd hcd)) ok hg (fun s H C cl fp => ht s H C cl fp _ takes00) (fun s H C cl fp => he s H C cl fp _ takes00) hs
  refine peI (pe_either (pe_lock base) base) ?_
  rintro σ H Qh ⟨io, env, F, O, Q, R, I, h, kQ, kX⟩
  unfold eLcK at h
  cases eb : gt env i with
  | none => rw [eb] at h; exact h.elim
  | some b =>
    rw [eb] at h
    obtain ⟨kvs, hd', h⟩ := keysOf_of h
    obtain ⟨A0, v, h1, r⟩ := (At.start I).fzSlot (gt_some eb)
    rw [hd'] at r
    obtain ⟨a, ws, rfl, rr, rk⟩ := r
    have kQ0 := kQ.mv A0
    rcases rr with rr | ⟨o, rr⟩
    · refine .inl ⟨a, .dK ws, A0.si.sub _ _ rr, True.intro, fun od => ?_⟩
      have I1 := A0.si.lock (od := od) rr rfl
      refine ⟨.ref a, h1, a, od, rfl, .inl ⟨ws, upd_same, ?_⟩⟩
      intro L hL
      exact lc_rest hsl (KE.lock A0.si rr rfl kQ0) (At.start I1) (itok_keys upd_same (RepK.sees (sees_lock rr rfl) rk)) h L hL
    · refine .inr ⟨.ref a, h1, a, o, rfl, .inl ⟨ws, A0.si.sub _ _ rr, ?_⟩⟩
      intro L hL
      exact lc_rest hsl kQ0 (At.start A0.si) (itok_keys rr rk) h L hL
end
/-! ### x.append(e), e stays owned -/
def appO1 (d x : D) (k : D → Prop) : Prop := match d with
  | .lst ds => ds.length < sizeLine ∧ k (.lst (ds ++ [x]))
  | _ => False
def sdAppO (i : Nat) (te : ET) : SD := fun env D => match gt env i with
  | some b0 => isLst b0.d (te env (fun x m env1 => match gt env1 i with
    | some b => match Nat.beq b.n (m + 1) with
      | true => appO1 b.d x fun d' => D.nx (env1.set i (some { b with d := d' }))
      | false => False
    | none => False) D.ex)
  | none => False
section
variable {X : Cx} {e : Expr} {te : ET} {apos cpos pos : Pos}
theorem ds_appendO (i : Nat) {x : Str} {pos' : Pos} (he : DE X e te) (hN : X.N[i]? = some x := by rfl) (hv : Vis X.env.scope x := by first | exact Or.inl rfl | exact Or.inr (Or.inl rfl) | exact Or.inr (Or.inr rfl)) (hd : (x == ("__debug__" : Str)) = false := by decide)
    (hcd : (x == ("__classdict__" : Str)) = false := by decide) (hbase : attributeBase (.Name x pos') "append" X.env (eval (.Name x pos') X.env) = eval (.Name x pos') X.env := by rfl)
    (hfew : ((backTo cpos (starEach [e] X.env)).all (fun x => !x.1) && (backToKw cpos (keywordEach [] X.env)).all (fun x => x.1.isSome)
      && decide (([e] : List Expr).length + ([] : List Keyword).length + (if ([] : List Keyword).isEmpty then 0 else 1) < 30)) = true := by rfl)
    (hline : (apos.endLine == cpos.line) = true := by rfl) (hs : starEach (e :: []) X.env = (false, eval e X.env) :: starEach [] X.env := by rfl) (hplain : (backTo cpos (starEach [] X.env)).any (·.1) = false := by rfl)
    (hsw : swapsWith (.Call (.Attribute (.Name x pos') "append" apos) [e] [] cpos) none pos.line X.env = pure false := by rfl) : DS X (.Expr (.Call (.Attribute (.Name x pos') "append" apos) [e] [] cpos) pos) (sdAppO i te) := by
  intro W tk
  refine psI (ps_expr (pe_bm PySem.F.plainAttrs_list PySem.F.slot_list_append PySem.F.type_list_append mt_append (pe_var hN hv hd hcd) (pa_cons (he W tk) pa_nil hs) hbase hfew hline hs hplain) hsw) ?_
  rintro Dn σ H ⟨io, env, F, O, D, I, h, k1, k2, k3, k4, k5⟩
  unfold sdAppO at h
  cases e0 : gt env i with
  | none => rw [e0] at h; exact h.elim
  | some b0 =>
    rw [e0] at h
    obtain ⟨⟨ds0, hd0⟩, h⟩ := isLst_of h
    obtain ⟨v, h1, h2, _⟩ := I.slot i b0 (gt_some e0)
    have rl := h2.rep I.sub
    rw [hd0] at rl
    obtain ⟨a, vs, rfl, g1, g2⟩ := rl
    refine ⟨.ref a, h1, .inl ⟨rfl, vs, .inl g1⟩, io, env, F, O, _, _, I, h, ?_, k5⟩
    intro x m env2 F2 O2 H2 w P2 A2 T2 r2 q
    cases e2 : gt env2 i with
    | none => rw [e2] at q; exact q.elim
    | some b =>
      rw [e2] at q
      obtain ⟨bd, bn, bio⟩ := b
      replace q : (match Nat.beq bn (m + 1) with
        | true => appO1 bd x fun d' => D.nx (env2.set i (some ⟨d', bn, bio⟩))
        | false => False) := q
      cases en : Nat.beq bn (m + 1) with
      | false => rw [en] at q; exact q.elim
      | true =>
        rw [en] at q
        have hn := Nat.eq_of_beq_eq_true en
        subst hn
        obtain ⟨ds, rfl⟩ : ∃ ds, bd = .lst ds := by cases bd <;> first | exact ⟨_, rfl⟩ | exact (show False from q).elim
        replace q : ds.length < sizeLine ∧ D.nx (env2.set i (some ⟨.lst (ds ++ [x]), m + 1, bio⟩)) := q
        obtain ⟨v', s1, s2, s3⟩ := A2.si.slot i _ (gt_some e2)
        have ev : v' = .ref a := by rw [h1] at s1; exact (Option.some.inj (Option.some.inj s1)).symm
        subst ev
        obtain ⟨a', vs', P', ea, t2, t3, t4, t5, t6⟩ := s2
        cases ea
        have apart : ∀ c, O2 c = some i → P2 c → False := fun c z p => by rw [(T2.t c p).2.1] at z; cases z
        have np : ∀ c, (P' c ∨ P2 c) → c ≠ a := fun c z zz => by subst zz; exact z.elim t4 fun z => apart c t3 z
        have lv : vs'.length = ds.length := (ROs.reps (K := X.K) (mg := X.mg) (F := H2) (fun P1 d v _ r => r.rep A2.si.sub) t6).length
        obtain ⟨O4, A4⟩ := A2.give (a := a) (o := .lst (vs' ++ [w])) (d' := .lst (ds ++ [x])) T2 (gt_some e2) s1 t3 (by
          refine ⟨a, vs' ++ [w], fun c => P' c ∨ P2 c, rfl, upd_same, .inl t3, fun z => np a z rfl, fun c z => z.elim (fun z => .inl (t5 c z)) .inr, ?_⟩
          exact (ROs.append1 (R := RepO X.K X.mg F2 H2 m) (P := fun c => P' c ∨ P2 c) (fun P P' d v s r => ro_mono s r) t6 r2 (fun _ z => .inl z) (fun _ z => .inr z) fun c z p => apart c (t5 c z) p).imp (fun Q0 d0 w0 hq rr => rr.mono (fun _ _ x => x) (fun c o pc z => by rw [upd_ne (np c (hq c pc))]; exact z) fun _ x => x) fun _ x => x)
        exact ⟨a, vs', w, rfl, rfl, t2, by rw [lv]; exact q.1, k1 _ _ _ _ _ A4 q.2⟩
end
end DL
set_option Elab.async false
set_option linter.all false
set_option maxRecDepth 100000
/-! DLr: the data layer, part r: calls with keywords, displays of one pair, walks of a dict by for. -/
namespace DL
open PySem L2 PySem.Spec PyProof.Rows

section
variable {K : PySem.W.Frag} {mg : MG} {io : Nat → Option V} {env : DEnv} {σ : L2.St} {F F1 H H1 : Hp} {O O1 : OW} {P : AP}
/-- an object at hand is written -/
theorem At.hand (A : At K mg io F O H env σ F1 O1 H1) (T : Tp O H F1 O1 H1 P) {p : Addr} {o : HO} (hp : P p) : At K mg io F O H env σ F1 O1 (upd H1 p o) ∧ Tp O H F1 O1 (upd H1 p o) P := by
  obtain ⟨f0, o0, ob, h0⟩ := T.t p hp
  refine ⟨⟨⟨A.mv.ff, fun a u e q => ?_, A.mv.fn, A.mv.on⟩, ⟨fun a u e => ?_, fun a i e => ?_, fun i b hb => ?_, A.si.len⟩⟩, ⟨fun a h => ?_, T.nw⟩⟩
  · have ne : a ≠ p := fun z => by
      subst z
      rcases T.nw a hp with z | ⟨k, z⟩
      · rw [e] at z; cases z
      · rw [q] at z; cases z
    rw [upd_ne ne]
    exact A.mv.fr a u e q
  · rw [upd_ne fun z => by rw [z, f0] at e; cases e]
    exact A.si.sub a u e
  · rw [upd_ne fun z => by rw [z, o0] at e; cases e]
    exact A.si.own a i e
  · obtain ⟨v, g1, g2, g3⟩ := A.si.slot i b hb
    exact ⟨v, g1, g2.mono (fun _ _ x => x) (fun a u e x => by rw [upd_ne fun z => by rw [z, o0] at e; cases e]; exact x) (fun _ x => x), g3⟩
  · obtain ⟨t1, t2, u, t3⟩ := T.t a h
    refine ⟨t1, t2, ?_⟩
    by_cases z : a = p
    · subst z; exact ⟨_, upd_same⟩
    · exact ⟨u, by rw [upd_ne z]; exact t3⟩
end
/-! ### {k: v} -/
def eDisp1 (tk tv : ET) : ET := fun env Q R => tk env (fun k _ env1 => tv env1 (fun v _ env2 => match keyD k with | some key => Q (.dK [(key, v)]) 1 env2 | none => False) R) R
theorem de_disp1 {X : Cx} {k v : Expr} {tk tv : ET} {pos : Pos} (hk : DE X k tk) (hv : DE X v tv) : DE X (.Dict [some k] [v] pos) (eDisp1 tk tv) := by
  intro W tt
  refine peI (pe_disp (pps_cons (hk W tt) (hv W tt) pps_nil) rfl rfl (fun z => nomatch z) (show 1 ≤ 15 by decide)) ?_
  rintro σ H Qh ⟨io, env, F, O, Q, R, I, h, kQ, kX⟩ p hp
  have A0 := (At.start I).ext (same_upd (o := .dK []) hp)
  have T0 : Tp O H F O (upd H p (.dK [])) (fun b => b = p) := (At.start I).tp_new (o := .dK []) hp
  refine ⟨io, env, F, O, _, R, A0.si, h, ?_, kX.mv A0⟩
  intro x n env1 F1 O1 H1 xv P1 A1 T1 r1 h1
  have A1' := A1.frz T1
  refine ⟨io, env1, _, O1, _, R, A1'.si, h1, ?_, (kX.mv A0).mv A1'⟩
  intro y m env2 F2 O2 H2 yv P2 A2 T2 r2 h2
  have A2' := A2.frz T2
  have A := (A0.trans A1').trans A2'
  have T := (T0.mv A1'.mv).mv A2'.mv
  cases ek : keyD x with
  | none => rw [ek] at h2; exact h2.elim
  | some key =>
    rw [ek] at h2
    have ex := keyD_v ek (A1.frz_rep r1)
    obtain ⟨A3, T3⟩ := A.hand T (p := p) (o := .dK (mergeK [] [(key, yv)])) rfl
    refine ⟨?_, [(key, yv)], by rw [ex]; rfl, show 1 ≤ 15 by decide, ?_⟩
    · exact A2'.mv.fr p _ (A1'.mv.fr p _ upd_same (T0.t p rfl).2.1) ((T0.mv A1'.mv).t p rfl).2.1
    · exact kQ (.dK [(key, y)]) 1 env2 _ O2 _ (.ref p) (fun b => b = p) A3 T3 (NewL.own (z := .dK [(key, y)]) (o := .dK [(key, yv)]) ⟨yv, [], rfl, A2.frz_rep r2, rfl⟩ upd_same) h2
/-! ### f(k = a, l = b), the parameters in the other order -/
def swp {α : Type} : List α → List α
  | [a, b] => [b, a]
  | l => l
theorem swp_vals {vs : List V} {us : List Value} (h : Vals vs us) : Vals (swp vs) (swp us) := by
  cases h with
  | nil => exact .nil
  | cons h1 t =>
    cases t with
    | nil => exact .cons h1 .nil
    | cons h2 t =>
      cases t with
      | nil => exact .cons h2 (.cons h1 .nil)
      | cons h3 t => exact .cons h1 (.cons h2 (.cons h3 t))
theorem kswap {K : PySem.W.Frag} {x qual : Str} {st : Stmt} {f : Addr} {fd : FuncData} {ps : List Str} (k1 k2 : Str) (Fu : Fun K x qual st f fd)
    (h : ∀ (kV doc pm : Value) (an : Option Addr) (cdv ct a b : Value), bindArgs (PySem.W.fnOf x qual (defArgs st) (defBody st) (defScope st) .none kV doc pm an cdv ct) ⟨[], [(k1, a), (k2, b)]⟩ = pure (ps.zip [b, a])) :
    KBn K fd ps 0 [k1, k2] (fun _ ws => swp ws) (fun _ zs => swp zs) := by
  obtain ⟨oc, od, kV, doc, pm, an, cdv, ct, osl, rfl, lk, hcd⟩ := Fu.ex
  refine ⟨fun s us ws _ l1 l2 => ?_, fun _ r => swp_vals r⟩
  match us, l1, ws, l2 with
  | [], _, [a, b], _ => exact .of_eq (h kV doc pm an cdv ct a b)
def DGK (X : Cx) (kws : List Keyword) (τ : GAT) : Prop := ∀ W, Takes X W → PK X kws (rdGA X.K X.mg τ W)
theorem pkI {X : Cx} {kws : List Keyword} {t t' : TA} (h : PK X kws t) (k : ∀ σ H Q, t' σ H Q → t σ H Q) : PK X kws t' := ⟨fun pos pins s σ H Q I x => h.run pos pins s σ H Q I (k σ H Q x)⟩
section
variable {X : Cx} {e : Expr} {kws : List Keyword} {te : ET} {t : GAT} {nm : Option Str} {kpos : Pos}
theorem dgk_nil : DGK X [] gaNil := fun W tk => pkI pk_nil fun σ H Qh ⟨io, env, F, O, Q, R, I, h, kQ, kX⟩ => kQ [] env F O H [] (At.start I) rfl h
theorem dgk_val (ha : DE X e te) (hr : DGK X kws t) : DGK X (⟨nm, e, kpos⟩ :: kws) (gaVal te t) := by
  intro W tk
  refine pkI (pk_cons (ha W tk) (hr W tk)) ?_
  rintro σ H Qh ⟨io, env, F, O, Q, R, I, h, kQ, kX⟩
  refine ⟨io, env, F, O, _, R, I, h, ?_, kX⟩
  intro x n env1 F1 O1 H1 v P A1 T1 r1 h1
  have A1' := A1.frz T1
  have r1' := A1.frz_rep r1
  refine ⟨io, env1, _, O1, _, R, A1'.si, h1, ?_, kX.mv A1'⟩
  intro ys env2 F2 O2 H2 vs A2 r2 h2
  exact kQ (.inl x :: ys) _ _ _ _ _ (A1'.trans A2) ⟨v, vs, rfl, Rep.mono A2.mv.ff r1', r2⟩ h2
end
def eCallSw (ms : Ms) (S : DSp) (t : GAT) : ET := fun env Q R => t env (fun gs env1 => callD ms S (swp gs) env1 Q R) R
theorem GaR.swap {K : PySem.W.Frag} {mg : MG} {F : Hp} {σ : L2.St} {gs : List Ga} {vs : List V} (h : GaR K mg F σ gs vs) : GaR K mg F σ (swp gs) (swp vs) := by
  have cons : ∀ {g : Ga} {gs : List Ga} {vs : List V}, GaR K mg F σ (g :: gs) vs → ∃ v r, vs = v :: r ∧ GaR K mg F σ [g] [v] ∧ GaR K mg F σ gs r := by
    intro g gs vs h
    cases g with
    | inl d => obtain ⟨v, r, h1, h2, h3⟩ := h; exact ⟨v, r, h1, ⟨v, [], rfl, h2, rfl⟩, h3⟩
    | inr k => obtain ⟨v, r, h1, h2, h3⟩ := h; exact ⟨v, r, h1, ⟨v, [], rfl, h2, rfl⟩, h3⟩
  have join : ∀ {g : Ga} {gs : List Ga} {v : V} {vs : List V}, GaR K mg F σ [g] [v] → GaR K mg F σ gs vs → GaR K mg F σ (g :: gs) (v :: vs) := by
    intro g gs v vs h1 h2
    cases g with
    | inl d => obtain ⟨w, r, e, h, _⟩ := h1; cases e; exact ⟨v, vs, rfl, h, h2⟩
    | inr k => obtain ⟨w, r, e, h, _⟩ := h1; cases e; exact ⟨v, vs, rfl, h, h2⟩
  match gs, h with
  | [], h => rw [show vs = [] from h]; exact rfl
  | [a], h => obtain ⟨v, r, e, h1, h2⟩ := cons h; rw [e, show r = [] from h2]; exact h1
  | [a, b], h =>
    obtain ⟨v, r, e, h1, h2⟩ := cons h
    obtain ⟨w, r', e', h3, h4⟩ := cons h2
    rw [e, e', show r' = [] from h4]
    exact join h3 h1
  | a :: b :: c :: l, h =>
    obtain ⟨v, r, e, h1, h2⟩ := cons h
    obtain ⟨w, r', e', h3, h4⟩ := cons h2
    obtain ⟨z, r'', e'', h5, h6⟩ := cons h4
    rw [e, e', e''] at h ⊢
    exact h
section
variable {X : Cx} {k : Nat} {f : Addr} {fd : FuncData} {ps ks : List Str} {ms : Ms} {S : DSp} {x : Str} {p pos : Pos} {kws : List Keyword} {t : GAT}
def tKw (sp : Sp) (E : L2.St → XK) (tk : TA) : TE := fun σ H Q => tk σ H fun zs H2 => zs.length = 2 ∧ sp (swp zs) H2 Q (E σ)
theorem pe_kw2 {sp : Sp} {E : L2.St → XK} {tk : TA} {k1 k2 : Str} (Fn : FnOk X.prog X.w X.K X.mg X.base (L2.CX X.prog X.w) k f fd ps sp) (hr : Room k X.A) (hg : Gl X x) (hm : X.mg x = some (.ref f)) (hk : PySem.W.keepIn X.K (.ref f) = true)
    (hb : KBn X.K fd ps 0 [k1, k2] (fun _ ws => swp ws) (fun _ zs => swp zs)) (hx : ∀ σ, PassesAt (L2.CX X.prog X.w) X σ (E σ)) (hkw : PK X kws tk) (hall : (backToKw pos (keywordEach kws X.env)).all (·.1.isSome) = true) (hks : (backToKw pos (keywordEach kws X.env)).filterMap (·.1) = [k1, k2])
    (hdb : (x == ("__debug__" : Str)) = false) (hpl : ((backTo pos (starEach [] X.env)).any (·.1) || (backToKw pos (keywordEach kws X.env)).any (·.1.isNone)) = false) : PE X (.Call (.Name x p) [] kws pos) (tKw sp E tk) := by
  refine ⟨fun pins s σ H Q I h => ?_⟩
  refine wpAny_Call_Name_kw (ld_glob I hg hm ?_ hdb)
  refine PySem.W.callWith_KW0 (h₀ := X.base) I.ok.mod.kin hk hall ?_ hpl
  refine thn (hkw.run pos pins s σ H _ I h) fun ws s2 ⟨zs, H2, I2, rz, l2, q2⟩ => ⟨I2.kIn, ?_⟩
  rw [hks]
  have r2 : Vals (swp zs) (swp ws) := swp_vals rz
  refine wpAny_call (codeAny_mono (Fn.run X.A X.stack s2 H2 ⟨[], [k1, k2].zip ws⟩ (swp ws) (swp zs) Q (E σ) hr I2.env0 (hb.to s2 [] ws I2.kIn rfl (rz.length.symm.trans l2)) r2 q2) fun r s' hq => ?_)
  cases r with
  | error e => exact hx σ pins H2 s2 e s' I2 hq
  | ok fl =>
    cases fl with
    | ret u => exact I2.after hq
    | next => exact False.elim hq
    | brk => exact False.elim hq
    | cont => exact False.elim hq
/-- f(k1 = a, k2 = b), the parameters being k2, k1 -/
theorem de_callSw {k1 k2 : Str} (Fn : FnOk X.prog X.w X.K X.mg X.base (L2.CX X.prog X.w) k f fd ps (spOf X.K X.mg ms S)) (hr : Room k X.A) (hm : X.mg x = some (.ref f)) (hk : PySem.W.keepIn X.K (.ref f) = true)
    (hb : KBn X.K fd ps 0 [k1, k2] (fun _ ws => swp ws) (fun _ zs => swp zs)) (hkw : DGK X kws t) (hlen : ms.length = 2) (hg : Gl X x := by rfl) (hall : (backToKw pos (keywordEach kws X.env)).all (·.1.isSome) = true := by rfl) (hks : (backToKw pos (keywordEach kws X.env)).filterMap (·.1) = [k1, k2] := by rfl)
    (hdb : (x == ("__debug__" : Str)) = false := by decide) (hpl : ((backTo pos (starEach [] X.env)).any (·.1) || (backToKw pos (keywordEach kws X.env)).any (·.1.isNone)) = false := by rfl) :
    DE X (.Call (.Name x p) [] kws pos) (eCallSw ms S t) := by
  intro W tk
  refine peI (pe_kw2 (E := fun σ cls d H => W cls d σ H) Fn hr hg hm hk hb (fun σ => passAt tk σ) (hkw W tk) hall hks hdb hpl) ?_
  rintro σ H Qh ⟨io, env, F, O, Q, R, I, h, kQ, kX⟩
  refine ⟨io, env, F, O, _, R, I, h, ?_, kX⟩
  intro gs env1 F1 O1 H1 vs A1 r1 h1
  have z := call_read A1.si r1.swap h1 (kQ.mv A1) (kX.mv A1)
  refine ⟨?_, z⟩
  obtain ⟨F0, O0, ds, post, _, _, ar, _⟩ := z
  have l := ar.len.1
  rw [hlen] at l
  match vs, l with
  | [], l => exact l
  | [a], l => exact l
  | [a, b], _ => rfl
  | a :: b :: c :: r, l => exact l
end
end DL
set_option Elab.async false
set_option linter.all false
set_option maxRecDepth 100000
/-! DLs: the data layer, part s: what the printed derivations call: facts of the module, defs by name, operators by name. -/
namespace DL
open PySem L2 PySem.Spec PyProof.Rows

/-- the built-in names that the module leaves free -/
structure Blt (mg : MG) : Prop where
  len : mg "len" = none
  range : mg "range" = none
  list : mg "list" = none
  tuple : mg "tuple" = none
  int : mg "int" = none
  bool : mg "bool" = none
  str : mg "str" = none
  dict : mg "dict" = none
  isinstance : mg "isinstance" = none
  all : mg "all" = none
  any : mg "any" = none
  sum : mg "sum" = none
  max : mg "max" = none
  min : mg "min" = none
  enumerate : mg "enumerate" = none
  zip : mg "zip" = none
  reversed : mg "reversed" = none
  sorted : mg "sorted" = none
  set : mg "set" = none
/-- a constant of the module -/
def GlD (mg : MG) (x : Str) (d : D) : Prop := (∃ u, mg x = some u ∧ RelV (vlf d) u) ∧ d.leaf = true
/-- a def of the module -/
def FunAt (K : PySem.W.Frag) (mg : MG) (x : Str) (st : Stmt) : Prop := ∃ f fd, Fun K x x st f fd ∧ mg x = some (.ref f)
/-- a def of the module keeps a promise -/
def Cal (P : Program) (w : World) (K : PySem.W.Frag) (mg : MG) (base : Heap) (x : Str) (st : Stmt) (k : Nat) (ps : List Str) (ms : Ms) (S : DSp) : Prop :=
  ∃ f fd, Fun K x x st f fd ∧ mg x = some (.ref f) ∧ Binds K fd ps [] ∧ FnOk P w K mg base (L2.CX P w) k f fd ps (spOf K mg ms S)
section
variable {P : Program} {w : World} {K : PySem.W.Frag} {mg : MG} {base : Heap} {x : Str} {st : Stmt} {j k : Nat} {ps N : List Str} {ms : Ms} {S S' : DSp}
theorem Cal.up (h : Cal P w K mg base x st j ps ms S) (l : j ≤ k) : Cal P w K mg base x st k ps ms S := by
  obtain ⟨f, fd, h1, h2, h3, h4⟩ := h
  exact ⟨f, fd, h1, h2, h3, h4.mono l⟩
/-- the promise of the stronger -/
theorem Cal.imp (h : Cal P w K mg base x st k ps ms S) (i : ∀ ds post, S' ds post → S ds post) : Cal P w K mg base x st k ps ms S' := by
  obtain ⟨f, fd, h1, h2, h3, h4⟩ := h
  refine ⟨f, fd, h1, h2, h3, h4.imp fun vs H Q E q => ?_⟩
  obtain ⟨F, O, ds, post, a, b, c, d, e⟩ := q
  exact ⟨F, O, ds, post, a, b, c, i ds post d, e⟩
theorem cal_mk {τ : SD} (Fu : FunAt K mg x st) (Sc : FnScope N ps (defScope st)) (hl : ms.length = ps.length)
    (hbi : ∀ (kV doc pm : Value) (an : Option Addr) (cdv ct : Value) (us : List Value), us.length = ps.length → bindArgs (PySem.W.fnOf x x (defArgs st) (defBody st) (defScope st) .none kV doc pm an cdv ct) ⟨us, []⟩ = pure (ps.zip us))
    (hb : ∀ (f : Addr) (cdv : Value) (A : Around) (outer : List Env) (s : Shared) (H : Hp) (E : XK), Room k (A.deeper (envOfC x (defScope st) s.heap.objs.size f cdv)) → DSs (cxOf (L2.CX P w) P w K mg base N x (defScope st) f cdv A outer s H E) (defBody st) τ)
    (hs : ∀ ds post, S ds post → ds.length = ms.length → τ (env0 ms ds N.length) (endsOf ms post)) : Cal P w K mg base x st (k + 1) ps ms S := by
  obtain ⟨f, fd, h1, h2⟩ := Fu
  exact ⟨f, fd, h1, h2, h1.binds hbi, okD h1 Sc hl (hb f) hs⟩
end
section
variable {X : Cx} {k : Nat} {ps : List Str} {ms : Ms} {S : DSp} {x : Str} {st : Stmt} {p pos : Pos} {e : Expr} {es : List Expr} {kws : List Keyword} {t : GAT}
theorem dc_call (C : Cal X.prog X.w X.K X.mg X.base x st k ps ms S) (hr : Room k X.A) (ha : DGA X (e :: es) t) (hg : Gl X x := by rfl) (hdb : (x == ("__debug__" : Str)) = false := by decide)
    (he : starEach (e :: es) X.env = (false, eval e X.env) :: starEach es X.env := by rfl) (hpl : (backTo pos (starEach es X.env)).any (·.1) = false := by rfl) : DE X (.Call (.Name x p) (e :: es) [] pos) (eCall ms S [] t) := by
  obtain ⟨f, fd, h1, h2, h3, h4⟩ := C
  exact de_call [] h4 hr h2 h1.kp h3 .nil ⟨rfl, rfl⟩ ha hg hdb he hpl
theorem dc_sw {k1 k2 : Str} (C : Cal X.prog X.w X.K X.mg X.base x st k ps ms S) (hr : Room k X.A) (hkw : DGK X kws t)
    (h : ∀ (kV doc pm : Value) (an : Option Addr) (cdv ct a b : Value), bindArgs (PySem.W.fnOf x x (defArgs st) (defBody st) (defScope st) .none kV doc pm an cdv ct) ⟨[], [(k1, a), (k2, b)]⟩ = pure (ps.zip [b, a])) (hlen : ms.length = 2) (hg : Gl X x := by rfl)
    (hall : (backToKw pos (keywordEach kws X.env)).all (·.1.isSome) = true := by rfl) (hks : (backToKw pos (keywordEach kws X.env)).filterMap (·.1) = [k1, k2] := by rfl)
    (hdb : (x == ("__debug__" : Str)) = false := by decide) (hpl : ((backTo pos (starEach [] X.env)).any (·.1) || (backToKw pos (keywordEach kws X.env)).any (·.1.isNone)) = false := by rfl) :
    DE X (.Call (.Name x p) [] kws pos) (eCallSw ms S t) := by
  obtain ⟨f, fd, h1, h2, h3, h4⟩ := C
  exact de_callSw h4 hr h2 h1.kp (kswap k1 k2 h1 h) hkw hlen hg hall hks hdb hpl
end
/-! ### peeks by operator -/
section
variable {X : Cx} {a b c e : Expr} {es : List Expr} {pa pb pc : PUT} {ta tb : ET} {t : AT} {pt : PAT} {pos p : Pos} {x : Str} {d : D} {r r' : R2} {od od' : OT2} {op op' : CmpOp}
theorem pu_gd (h : GlD X.mg x d) (hg : Gl X x := by rfl) (hd : (x == ("__debug__" : Str)) = false := by decide) : PU X (.Name x p) (pC d) := by
  obtain ⟨⟨u, h1, h2⟩, hl⟩ := h
  exact pu_glob d hg h1 h2 hl hd
theorem pu_add (ha : PU X a pa) (hb : PU X b pb) : PU X (.BinOp a .Add b pos) (tP2 odAdd pa pb) := pu_bin (fun _ _ x y => pe_op op_addD x y) okAdd ha hb
theorem pu_sub (ha : PU X a pa) (hb : PU X b pb) : PU X (.BinOp a .Sub b pos) (tP2 odSub pa pb) := pu_bin (fun _ _ x y => pe_op op_subD x y) okSub ha hb
theorem pu_mul (ha : PU X a pa) (hb : PU X b pb) : PU X (.BinOp a .Mult b pos) (tP2 odMul pa pb) := pu_bin (fun _ _ x y => pe_op op_mulD x y) okMul ha hb
theorem pu_div (ha : PU X a pa) (hb : PU X b pb) : PU X (.BinOp a .FloorDiv b pos) (tP2 odDiv pa pb) := pu_bin (fun _ _ x y => pe_op op_fdivW x y) okDiv ha hb
theorem pu_mod (ha : PU X a pa) (hb : PU X b pb) : PU X (.BinOp a .Mod b pos) (tP2 odMod pa pb) := pu_bin (fun _ _ x y => pe_op op_mod x y) okMod ha hb
theorem pu_pow (ha : PU X a pa) (hb : PU X b pb) : PU X (.BinOp a .Pow b pos) (tP2 odPow pa pb) := pu_bin (fun _ _ x y => pe_op op_pow x y) okPow ha hb
theorem pu_neg (ha : PU X a pa) : PU X (.UnaryOp .USub a pos) (tP1 odNeg pa) := pu_un1 (fun _ x => pe_un un_neg x) okNeg ha
theorem de_add (ha : DE X a ta) (hb : DE X b tb) : DE X (.BinOp a .Add b pos) (tO2 odAdd ta tb) := de_bin (fun _ _ x y => pe_op op_addD x y) okAdd ha hb
theorem de_sub (ha : DE X a ta) (hb : DE X b tb) : DE X (.BinOp a .Sub b pos) (tO2 odSub ta tb) := de_bin (fun _ _ x y => pe_op op_subD x y) okSub ha hb
theorem de_mul (ha : DE X a ta) (hb : DE X b tb) : DE X (.BinOp a .Mult b pos) (tO2 odMul ta tb) := de_bin (fun _ _ x y => pe_op op_mulD x y) okMul ha hb
theorem de_div (ha : DE X a ta) (hb : DE X b tb) : DE X (.BinOp a .FloorDiv b pos) (tO2 odDiv ta tb) := de_bin (fun _ _ x y => pe_op op_fdivW x y) okDiv ha hb
theorem de_mod (ha : DE X a ta) (hb : DE X b tb) : DE X (.BinOp a .Mod b pos) (tO2 odMod ta tb) := de_bin (fun _ _ x y => pe_op op_mod x y) okMod ha hb
theorem pu_cmp (ho : OpR X (compareOp op) r) (k : Ok2 X r od) (ha : PU X a pa) (hb : PU X b pb) (hm : behindInMarks op b = false) : PU X (.Compare a [op] [b] pos) (tP2 od pa pb) := pu_bin (fun _ _ x y => pe_cmpR ho x y hm) k ha hb
theorem de_cmp (ho : OpR X (compareOp op) r) (k : Ok2 X r od) (ha : DE X a ta) (hb : DE X b tb) (hm : behindInMarks op b = false) : DE X (.Compare a [op] [b] pos) (tO2 od ta tb) := de_bin (fun _ _ x y => pe_cmpR ho x y hm) k ha hb
end
section
variable {X : Cx} {e e2 : Expr} {es : List Expr} {te : ET} {pe pe2 : PUT} {t : AT} {pos p : Pos}
theorem pu_len (B : Blt X.mg) (ha : PU X e pe) (hg : Gl X "len" := by rfl) (he : starEach [e] X.env = (false, eval e X.env) :: starEach [] X.env := by rfl) : PU X (.Call (.Name "len" p) [e] [] pos) (tPN odLen (apCons pe apNil)) :=
  pu_blt call_lenA okLen B.len boot_len (pua_cons ha pua_nil he) hg (by decide) (by decide) he rfl
theorem pu_int1 (B : Blt X.mg) (ha : PU X e pe) (hg : Gl X "int" := by rfl) (he : starEach [e] X.env = (false, eval e X.env) :: starEach [] X.env := by rfl) : PU X (.Call (.Name "int" p) [e] [] pos) (tPN odInt (apCons pe apNil)) :=
  pu_ty call_int1 okInt B.int boot_int (pua_cons ha pua_nil he) hg (by decide) (by decide) he rfl
theorem pu_max (hc : X.calm = true) (B : Blt X.mg) (ha : PU X e pe) (hb : PU X e2 pe2) (hg : Gl X "max" := by rfl) (he : starEach [e, e2] X.env = (false, eval e X.env) :: starEach [e2] X.env := by rfl) (he2 : starEach [e2] X.env = (false, eval e2 X.env) :: starEach [] X.env := by rfl)
    (hpl : (backTo pos (starEach [e2] X.env)).any (·.1) = false := by rfl) : PU X (.Call (.Name "max" p) [e, e2] [] pos) (tPN odMax2 (apCons pe (apCons pe2 apNil))) :=
  pu_blt (call_max2 hc) okMax2 B.max (by decide +kernel) (pua_cons ha (pua_cons hb pua_nil he2) he) hg (by decide) (by decide) he hpl
theorem pu_min (hc : X.calm = true) (B : Blt X.mg) (ha : PU X e pe) (hb : PU X e2 pe2) (hg : Gl X "min" := by rfl) (he : starEach [e, e2] X.env = (false, eval e X.env) :: starEach [e2] X.env := by rfl) (he2 : starEach [e2] X.env = (false, eval e2 X.env) :: starEach [] X.env := by rfl)
    (hpl : (backTo pos (starEach [e2] X.env)).any (·.1) = false := by rfl) : PU X (.Call (.Name "min" p) [e, e2] [] pos) (tPN odMin2 (apCons pe (apCons pe2 apNil))) :=
  pu_blt (call_min2 hc) okMin2 B.min (by decide +kernel) (pua_cons ha (pua_cons hb pua_nil he2) he) hg (by decide) (by decide) he hpl
theorem de_list (hc : X.calm = true) (B : Blt X.mg) (ha : DE X e te) (hg : Gl X "list" := by rfl) (he : starEach [e] X.env = (false, eval e X.env) :: starEach [] X.env := by rfl) : DE X (.Call (.Name "list" p) [e] [] pos) (tON odList (aCons te aNil)) :=
  de_ty (call_listA hc) okList B.list boot_list (da_cons ha da_nil he) hg (by decide) (by decide) he rfl
theorem de_tuple (B : Blt X.mg) (ha : DE X e te) (hg : Gl X "tuple" := by rfl) (he : starEach [e] X.env = (false, eval e X.env) :: starEach [] X.env := by rfl) : DE X (.Call (.Name "tuple" p) [e] [] pos) (tON odTuple (aCons te aNil)) :=
  de_ty call_tuple_of okTuple B.tuple boot_tuple (da_cons ha da_nil he) hg (by decide) (by decide) he rfl
theorem de_allc (hc : X.calm = true) (B : Blt X.mg) (ha : DE X e te) (hg : Gl X "all" := by rfl) (he : starEach [e] X.env = (false, eval e X.env) :: starEach [] X.env := by rfl) : DE X (.Call (.Name "all" p) [e] [] pos) (tON odAll (aCons te aNil)) :=
  de_blt (cr_all hc) okAll B.all (by decide +kernel) (da_cons ha da_nil he) hg (by decide) (by decide) he rfl
theorem de_anyc (hc : X.calm = true) (B : Blt X.mg) (ha : DE X e te) (hg : Gl X "any" := by rfl) (he : starEach [e] X.env = (false, eval e X.env) :: starEach [] X.env := by rfl) : DE X (.Call (.Name "any" p) [e] [] pos) (tON odAny (aCons te aNil)) :=
  de_blt (cr_any hc) okAny B.any (by decide +kernel) (da_cons ha da_nil he) hg (by decide) (by decide) he rfl
theorem de_sumc (hc : X.calm = true) (B : Blt X.mg) (ha : DE X e te) (hg : Gl X "sum" := by rfl) (he : starEach [e] X.env = (false, eval e X.env) :: starEach [] X.env := by rfl) : DE X (.Call (.Name "sum" p) [e] [] pos) (tON odSum (aCons te aNil)) :=
  de_blt (cr_sum hc) okSum B.sum (by decide +kernel) (da_cons ha da_nil he) hg (by decide) (by decide) he rfl
end
/-! ### built-in classes by name -/
section
variable {X : Cx} {pos : Pos}
theorem kd_int (B : Blt X.mg) (hg : Gl X "int" := by rfl) : PKd X (.Name "int" pos) .int := pkd .int B.int boot_int hg
theorem kd_bool (B : Blt X.mg) (hg : Gl X "bool" := by rfl) : PKd X (.Name "bool" pos) .bool := pkd .bool B.bool boot_bool hg
theorem kd_str (B : Blt X.mg) (hg : Gl X "str" := by rfl) : PKd X (.Name "str" pos) .str := pkd .str B.str boot_str hg
theorem kd_list (B : Blt X.mg) (hg : Gl X "list" := by rfl) : PKd X (.Name "list" pos) .list := pkd .list B.list boot_list hg
theorem kd_tuple (B : Blt X.mg) (hg : Gl X "tuple" := by rfl) : PKd X (.Name "tuple" pos) .tuple := pkd .tuple B.tuple boot_tuple hg
theorem kd_dict (B : Blt X.mg) (hg : Gl X "dict" := by rfl) : PKd X (.Name "dict" pos) .dict := pkd .dict B.dict boot_dict hg
end
/-- x[e], x a local -/
def eIxL (i : Nat) (tb : ET) : ET := fun env Q R => match gt env i with
  | some _ => eIxV i tb env Q R
  | none => False
theorem de_ixl {X : Cx} {b : Expr} {tb : ET} {pos : Pos} (i : Nat) {x : Str} {pos' : Pos} (hu : X.A.units + 1 < cLine) (hb : DE X b tb) (hs : PlainIx b := by exact fun _ _ => rfl) (hN : X.N[i]? = some x := by rfl)
    (hv : Vis X.env.scope x := by first | exact Or.inl rfl | exact Or.inr (Or.inl rfl) | exact Or.inr (Or.inr rfl)) (hd : (x == ("__debug__" : Str)) = false := by decide) (hcd : (x == ("__classdict__" : Str)) = false := by decide) :
    DE X (.Subscript (.Name x pos') b pos) (eIxL i tb) := de_ixv i hu hb hs hN hv hd hcd
/-- a local that the callee may turn, as an argument -/
def gaIoL (k : Nat) (t : GAT) : GAT := fun env Q R => match gt env k with
  | some _ => gaIo k t env Q R
  | none => False
theorem dg_iol {X : Cx} {es : List Expr} {t : GAT} (k : Nat) {x : Str} {pos : Pos} (hr : DGA X es t) (hs : starEach (.Name x pos :: es) X.env = (false, eval (.Name x pos) X.env) :: starEach es X.env := by rfl) (hN : X.N[k]? = some x := by rfl)
    (hv : Vis X.env.scope x := by first | exact Or.inl rfl | exact Or.inr (Or.inl rfl) | exact Or.inr (Or.inr rfl)) (hd : (x == ("__debug__" : Str)) = false := by decide) (hcd : (x == ("__classdict__" : Str)) = false := by decide) :
    DGA X (.Name x pos :: es) (gaIoL k t) := dg_io k hr hs hN hv hd hcd
end DL
set_option Elab.async false
set_option linter.all false
set_option maxRecDepth 100000
/-! DLt: the data layer, part t: == of dicts one of which is empty; list(x) of a local that stays owned. -/
namespace DL
open PySem L2 PySem.Spec PyProof.Rows

def rEqE0 : R2 := fun x y H Q => ∃ (a b : Addr) (ka kb : List (Key × V)), x = .ref a ∧ y = .ref b ∧ Rd H a (.dK ka) ∧ Rd H b (.dK kb) ∧ (ka.length = 0 ∨ ka.length ≠ kb.length) ∧ Q (.bl (ka.length == kb.length)) H
theorem op_eqE0 {X : Cx} (hu : X.A.units + 64 < cLine) : OpR X (compareOp .Eq) rEqE0 := by
  intro pins s σ H x y v u Q I rx ry h
  obtain ⟨a, b, ka, kb, rfl, rfl, h1, h2, hl, q⟩ := h
  cases rx
  cases ry
  obtain ⟨z1, lo1, vs1, rel1, dd1⟩ := dk_rd I.hok h1
  obtain ⟨z2, lo2, vs2, rel2, dd2⟩ := dk_rd I.hok h2
  have l1 := rel1.length
  have l2 := rel2.length
  refine PySem.W.rcP_dicts (r := true) lo1 lo2 dd1 dd2 (by omega) (fun e => ?_) _ _ ?_
  · rcases hl with hl | hl
    · rw [List.length_eq_zero_iff.mp (l1.symm.trans hl)]
      exact .nil
    · exact absurd (l1.trans (e.trans l2.symm)) hl
  · rw [Bool.and_true, ← l1, ← l2]
    exact ⟨.bl _, H, I, rfl, q⟩
def rEqE (K : PySem.W.Frag) : R2 := fun x y H Q => rEqA K x y H Q ∨ rEqE0 x y H Q
def odEqE : OT2
  | .dK ka, .dK kb, Q => (ka.length = 0 ∨ ka.length ≠ kb.length) ∧ Q (.bl (ka.length == kb.length)) 0
  | x, y, Q => odEq x y Q
section
variable {X : Cx}
theorem op_eqE (hu : X.A.units + 64 < cLine) : OpR X (compareOp .Eq) (rEqE X.K) := (op_eqA hu).or (op_eqE0 hu)
theorem okEqE : Ok2 X (rEqE X.K) odEqE := by
  intro F H x y v w Q Qh e r1 r2 h k
  have old : odEq x y Q → rEqE X.K v w H Qh := fun h => .inl (okEq F H x y v w Q Qh e r1 r2 h k)
  cases x with
  | dK ka =>
    cases y with
    | dK kb =>
      obtain ⟨a, vs, rfl, g1, g2⟩ := r1
      obtain ⟨b, ws, rfl, t1, t2⟩ := r2
      have l1 : vs.length = ka.length := by have := congrArg List.length (RepK.keys g2).1; simpa using this.symm
      have l2 : ws.length = kb.length := by have := congrArg List.length (RepK.keys t2).1; simpa using this.symm
      exact .inr ⟨a, b, vs, ws, rfl, rfl, rd_mono e g1, rd_mono e t1, by rw [l1, l2]; exact h.1, by rw [l1, l2]; exact k.old (.bl _) _ rfl h.2⟩
    | _ => exact old h
  | _ => exact old h
end
/-- list(x), x a local: what is in it has no address -/
def leavesOf (d : D) (k : List D → Prop) : Prop := match d with
  | .lst ds => ds.all D.leaf = true ∧ k ds
  | .dK kvs => k (kvs.map fun kv => match kv.1 with | .inl i => .int i | .inr s => .str s)
  | _ => False
def eListL (i : Nat) : ET := fun env Q _ => match gt env i with
  | some b => leavesOf b.d fun ds => Q (.lst ds) 1 env
  | none => False
theorem reps_leaf {K : PySem.W.Frag} {mg : MG} {F F' : Hp} : ∀ {ds : List D} {vs : List V}, ds.all D.leaf = true → Reps K mg F ds vs → Reps K mg F' ds vs
  | [], _, _, h => h
  | d :: ds, _, hl, ⟨v, r, h1, h2, h3⟩ => by
    have hl' : d.leaf = true ∧ ds.all D.leaf = true := by simpa using hl
    exact ⟨v, r, h1, leaf_rep hl'.1 h2, reps_leaf hl'.2 h3⟩
theorem keys_leaf : ∀ kvs : List (Key × D), (kvs.map fun kv => (match kv.1 with | .inl i => D.int i | .inr s => D.str s)).all D.leaf = true
  | [] => rfl
  | (.inl i, d) :: r => by rw [List.map_cons, List.all_cons, keys_leaf r]; rfl
  | (.inr i, d) :: r => by rw [List.map_cons, List.all_cons, keys_leaf r]; rfl
theorem de_listL {X : Cx} {p pos px : Pos} {x : Str} (i : Nat) (hc : X.calm = true) (B : Blt X.mg) (hg : Gl X "list" := by rfl) (he : starEach [.Name x px] X.env = (false, eval (.Name x px) X.env) :: starEach [] X.env := by rfl) (hN : X.N[i]? = some x := by rfl)
    (hv : Vis X.env.scope x := by first | exact Or.inl rfl | exact Or.inr (Or.inl rfl) | exact Or.inr (Or.inr rfl)) (hd : (x == ("__debug__" : Str)) = false := by decide) (hcd : (x == ("__classdict__" : Str)) = false := by decide) :
    DE X (.Call (.Name "list" p) [.Name x px] [] pos) (eListL i) := by
  intro W tk
  refine peI (pe_callTy (call_listA hc) hg B.list boot_list (pa_cons (pe_var hN hv hd hcd) pa_nil he) (by decide) (by decide) he rfl) ?_
  rintro σ H Qh ⟨io, env, F, O, Q, R, I, h, kQ, kX⟩
  unfold eListL at h
  cases e0 : gt env i with
  | none => rw [e0] at h; exact h.elim
  | some b =>
    rw [e0] at h
    replace h : leavesOf b.d fun ds => Q (.lst ds) 1 env := h
    obtain ⟨v, h1, h2, _⟩ := I.slot i b (gt_some e0)
    refine ⟨v, h1, ?_⟩
    have r := h2.rep I.sub
    have fin := Fin.of kQ (At.start I)
    cases hd : b.d with
    | lst ds =>
      rw [hd] at h r
      obtain ⟨a, vs, rfl, g1, g2⟩ := r
      exact .inl ⟨a, vs, rfl, .inl (.inl g1), fun l hl => fin.new (.lst ds) (.lst vs) l hl (reps_leaf h.1 g2) h.2⟩
    | dK kvs =>
      rw [hd] at h r
      obtain ⟨a, vs, rfl, g1, g2⟩ := r
      exact .inr ⟨a, vs, rfl, g1, fun l hl => fin.new (.lst _) (.lst _) l hl (reps_leaf (keys_leaf kvs) (reps_keys g2)) h⟩
    | _ => rw [hd] at h; exact (show False from h).elim
/-! ### comparisons as tests -/
section
variable {X : Cx} {a b c e : Expr} {pa pb pc : PUT} {ta tb : ET} {r r' : R2} {od od' : OT2} {op op' : CmpOp} {pos : Pos} {W : WX}
theorem bin_read (k : Ok2 X r od) : ∀ σ H Qh, rdP X.K X.mg (tP2 od pa pb) σ H Qh → tOp r (rdP X.K X.mg pa) (rdP X.K X.mg pb) σ H Qh := by
  rintro σ H Qh ⟨io, env, F, O, Q, I, h, kQ⟩
  refine ⟨io, env, F, O, _, I, h, fun x v H1 e1 r1 h1 => ⟨io, env, F, O, _, I.ext e1, h1, fun y w H2 e2 r2 h2 => ?_⟩⟩
  exact k H2 H2 x y v w _ _ (Same.refl _) (Rep.mono e2 r1) r2 h2 (Fin.ofP kQ (e1.trans e2))
theorem binE_read (k : Ok2 X r od) : ∀ σ H Qh, rdE X.K X.mg (tO2 od ta tb) W σ H Qh → tOp r (rdE X.K X.mg ta W) (rdE X.K X.mg tb W) σ H Qh := by
  rintro σ H Qh ⟨io, env, F, O, Q, R, I, h, kQ, kX⟩
  refine ⟨io, env, F, O, _, R, I, h, ?_, kX⟩
  intro x n env1 F1 O1 H1 v P A1 T1 r1 h1
  have A1' := A1.frz T1
  have r1' := A1.frz_rep r1
  refine ⟨io, env1, _, O1, _, R, A1'.si, h1, ?_, kX.mv A1'⟩
  intro y m env2 F2 O2 H2 w P2 A2 T2 r2 h2
  have A2' := A2.frz T2
  exact k _ _ x y v w _ _ A2'.si.sub (Rep.mono A2'.mv.ff r1') (A2.frz_rep r2) h2 (Fin.of kQ (A1'.trans A2'))
theorem chain_read (k : Ok2 X r od) (k' : Ok2 X r' od') : ∀ σ H Qh, rdP X.K X.mg (pChain od od' pa pb pc) σ H Qh → tChain r r' (rdP X.K X.mg pa) (rdP X.K X.mg pb) (rdP X.K X.mg pc) σ H Qh := by
  rintro σ H Qh ⟨io, env, F, O, Q, I, h, kQ⟩
  refine ⟨io, env, F, O, _, I, h, fun x v H1 e1 r1 h1 => ⟨io, env, F, O, _, I.ext e1, h1, fun y w H2 e2 r2 h2 => ?_⟩⟩
  refine k H2 H2 x y v w _ _ (Same.refl _) (Rep.mono e2 r1) r2 h2 ⟨fun z u rz q => ?_, fun z o p _ rz q => ?_, fun ds vs p _ _ q => q.elim⟩
  · cases z <;> first | exact (show False from q).elim | skip
    rename_i bb
    refine ⟨bb, rz, ?_⟩
    cases bb with
    | false => exact iteF (kQ (.bl false) _ H2 (e1.trans e2) rfl q)
    | true => exact iteT ⟨io, env, F, O, _, I.ext (e1.trans e2), q, fun w2 u2 H3 e3 r3 h3 => k' H3 H3 y w2 w u2 _ _ (Same.refl _) (Rep.mono e3 r2) r3 h3 (Fin.ofP kQ ((e1.trans e2).trans e3))⟩
  · cases z <;> first | exact (show False from q).elim | (cases o <;> exact (show False from rz).elim)
theorem dt_testP {T : TE} {τ : PUT} (h : PT X e (tTest T)) (hr : ∀ σ H Qh, rdP X.K X.mg τ σ H Qh → T σ H Qh) : DT X e (ttPB τ) := by
  intro W tk
  refine ptI h ?_
  rintro σ H Qh ⟨io, env, F, O, Q, R, I, h, kQ, kX⟩
  refine hr σ H _ ⟨io, env, F, O, _, I, h, fun d v H1 e1 r1 h1 => ?_⟩
  cases d with
  | bl b => exact ⟨b, r1, kQ b env F O H1 ((At.start I).ext e1) h1⟩
  | _ => exact h1.elim
theorem dt_cmp (ho : OpR X (compareOp op) r) (k : Ok2 X r od) (ha : PU X a pa) (hb : PU X b pb) (hm : behindInMarks op b = false) : DT X (.Compare a [op] [b] pos) (ttPB (tP2 od pa pb)) := dt_testP (pt_cmpR ho ha hb hm) (bin_read k)
theorem dt_chain (ho : OpR X (compareOp op) r) (ho' : OpR X (compareOp op') r') (k : Ok2 X r od) (k' : Ok2 X r' od') (ha : PU X a pa) (hb : PU X b pb) (hc : PU X c pc) (hm : lastMarks [op, op'] [b, c] = false := by with_unfolding_all rfl) :
    DT X (.Compare a [op, op'] [b, c] pos) (ttPB (pChain od od' pa pb pc)) := dt_testP (pt_chain ho ho' ha hb hc hm) (chain_read k k')
theorem dt_cmpE (ho : OpR X (compareOp op) r) (k : Ok2 X r od) (ha : DE X a ta) (hb : DE X b tb) (hm : behindInMarks op b = false) : DT X (.Compare a [op] [b] pos) (ttB (tO2 od ta tb)) := by
  intro W tk
  refine ptI (pt_cmpR ho (ha W tk) (hb W tk) hm) ?_
  rintro σ H Qh ⟨io, env, F, O, Q, R, I, h, kQ, kX⟩
  refine binE_read k σ H _ ⟨io, env, F, O, _, R, I, h, ?_, kX⟩
  intro d n env1 F1 O1 H1 v P A1 T1 r1 h1
  cases d with
  | bl b => exact ⟨b, bl_of r1, kQ b env1 F1 O1 H1 A1 h1⟩
  | _ => exact h1.elim
end
end DL
set_option Elab.async false
set_option linter.all false
set_option maxRecDepth 100000
/-! DLv: the data layer, part v: plain lemmas on data for the laws. -/
namespace DL
open PySem L2 PySem.Spec PyProof.Rows

theorem someD_mk {o : Option D} {d : D} {Q : D → Prop} (h : o = some d) (q : Q d) : someD o Q := by rw [h]; exact q
theorem getI_nat {α : Type} {xs : List α} {i : Nat} {x : α} (h : xs[i]? = some x) : getI xs (i : Int) = some x := by
  have hl : i < xs.length := (List.getElem?_eq_some_iff.mp h).1
  show (match (match Nat.blt i xs.length with | true => some i | false => none) with | some j => xs[j]? | none => none) = some x
  rw [Nat.blt_eq.mpr hl]
  exact h
theorem getI_int {α : Type} {xs : List α} {k : Int} {x : α} (h0 : 0 ≤ k) (h : xs[k.toNat]? = some x) : getI xs k = some x := by
  have e : ((k.toNat : Nat) : Int) = k := Int.toNat_of_nonneg h0
  rw [← e]
  exact getI_nat h
theorem ixI_nat {n i : Nat} (h : i < n) : ixI n (i : Int) = some i := by
  show (match Nat.blt i n with | true => some i | false => none) = some i
  rw [Nat.blt_eq.mpr h]
theorem ixI_int {n : Nat} {k : Int} (h0 : 0 ≤ k) (h : k.toNat < n) : ixI n k = some k.toNat := by
  have e : ((k.toNat : Nat) : Int) = k := Int.toNat_of_nonneg h0
  have := ixI_nat h
  rw [e] at this
  exact this
theorem mul_small {i j : Int} (h0 : -(2 ^ 64) < i) (h1 : i < 2 ^ 64) : MulOk i j := .inl (.inl ⟨h0, h1⟩)
theorem ms_le {a : Nat} (h : a ≤ 1000) : a ≤ sizeLine := Nat.le_trans h (by decide)
theorem ms_lt {a : Nat} (h : a ≤ 1000) : a < sizeLine := Nat.lt_of_le_of_lt h (by decide)
theorem ms_r {a : Nat} (h : Nat.ble a 1000 = true) : a ≤ sizeLine := ms_le (Nat.le_of_ble_eq_true h)
theorem le_r {a b : Nat} (h : Nat.ble a b = true) : a ≤ b := Nat.le_of_ble_eq_true h
/-! ### == -/
def Flat : Nat → D → Prop
  | _, .non => True
  | _, .bl _ => True
  | _, .int _ => True
  | _, .str s => (PyData.str s).canLay0 = true
  | n + 1, .lst ds => ∀ d ∈ ds, Flat n d
  | n + 1, .tup ds => ∀ d ∈ ds, Flat n d
  | n + 1, .ktu ds => ∀ d ∈ ds, Flat n d
  | _, _ => False
theorem pys_flat {n : Nat} (ih : ∀ d, Flat n d → d.py.canLay0 = true ∧ d.py.depth ≤ n) : ∀ ds : List D, (∀ d ∈ ds, Flat n d) → PyData.canLayAll0 (D.pys ds) = true ∧ PyData.depthAll (D.pys ds) ≤ n
  | [], _ => ⟨rfl, Nat.zero_le _⟩
  | d :: ds, h => by
    obtain ⟨a1, a2⟩ := ih d (h d List.mem_cons_self)
    obtain ⟨b1, b2⟩ := pys_flat ih ds fun e he => h e (List.mem_cons_of_mem _ he)
    constructor
    · show (d.py.canLay0 && PyData.canLayAll0 (D.pys ds)) = true
      rw [a1, b1]; rfl
    · show max d.py.depth (PyData.depthAll (D.pys ds)) ≤ n
      omega
theorem flat_py : ∀ (n : Nat) (d : D), Flat n d → d.py.canLay0 = true ∧ d.py.depth ≤ n
  | 0, .non, _ => ⟨rfl, Nat.zero_le _⟩
  | 0, .bl _, _ => ⟨rfl, Nat.zero_le _⟩
  | 0, .int _, _ => ⟨rfl, Nat.zero_le _⟩
  | 0, .str _, h => ⟨h, Nat.zero_le _⟩
  | _ + 1, .non, _ => ⟨rfl, Nat.zero_le _⟩
  | _ + 1, .bl _, _ => ⟨rfl, Nat.zero_le _⟩
  | _ + 1, .int _, _ => ⟨rfl, Nat.zero_le _⟩
  | _ + 1, .str _, h => ⟨h, Nat.zero_le _⟩
  | n + 1, .lst ds, h => by
    obtain ⟨b1, b2⟩ := pys_flat (flat_py n) ds h
    exact ⟨b1, Nat.succ_le_succ b2⟩
  | n + 1, .tup ds, h => by
    obtain ⟨b1, b2⟩ := pys_flat (flat_py n) ds h
    exact ⟨b1, Nat.succ_le_succ b2⟩
  | n + 1, .ktu ds, h => by
    obtain ⟨b1, b2⟩ := pys_flat (flat_py n) ds h
    exact ⟨b1, Nat.succ_le_succ b2⟩
  | 0, .lst _, h => h.elim
  | 0, .tup _, h => h.elim
  | 0, .ktu _, h => h.elim
  | 0, .dK _, h => h.elim
  | 0, .dT _, h => h.elim
  | 0, .obj _ _, h => h.elim
  | 0, .fn _, h => h.elim
  | 0, .hole, h => h.elim
  | _ + 1, .dK _, h => h.elim
  | _ + 1, .dT _, h => h.elim
  | _ + 1, .obj _ _, h => h.elim
  | _ + 1, .fn _, h => h.elim
  | _ + 1, .hole, h => h.elim
theorem shaped_flat {n : Nat} {d : D} (h : Flat n d) (hn : n ≤ 64) : SeqAt.shaped d.py = true := by
  obtain ⟨a, b⟩ := flat_py n d h
  show (d.py.canLay0 && decide (d.py.depth ≤ 64)) = true
  rw [a, decide_eq_true (by omega : d.py.depth ≤ 64)]
  rfl
theorem shaped_nil : SeqAt.shaped (D.lst []).py = true := shaped_flat (n := 1) (d := .lst []) (fun _ h => nomatch h) (by decide)
section
variable {n : Nat} {xs : List D} {Q : Qn}
theorem eqv_nil (xs : List D) : PyData.eqv (D.lst xs).py (D.lst []).py = xs.isEmpty := by
  cases xs with
  | nil => rfl
  | cons x xs => rfl
theorem neNil (hf : Flat n (.lst xs)) (hn : n ≤ 64) (k : Q (.bl (!xs.isEmpty)) 0) : odNe (.lst xs) (.lst []) Q := by
  refine ⟨shaped_flat hf hn, shaped_nil, ?_⟩
  rw [eqv_nil]
  exact k
theorem eqNil (hf : Flat n (.lst xs)) (hn : n ≤ 64) (k : Q (.bl xs.isEmpty) 0) : odEq (.lst xs) (.lst []) Q := by
  refine ⟨shaped_flat hf hn, shaped_nil, ?_⟩
  rw [eqv_nil]
  exact k
theorem neSelf (hf : Flat n (.lst xs)) (hn : n ≤ 64) (k : Q (.bl false) 0) : odNe (.lst xs) (.lst xs) Q := by
  refine ⟨shaped_flat hf hn, shaped_flat hf hn, ?_⟩
  rw [SeqAt.eqv_refl _ (flat_py n _ hf).1]
  exact k
theorem neSelfT (hf : Flat n (.tup xs)) (hn : n ≤ 64) (k : Q (.bl false) 0) : odNe (.tup xs) (.tup xs) Q := by
  refine ⟨shaped_flat hf hn, shaped_flat hf hn, ?_⟩
  rw [SeqAt.eqv_refl _ (flat_py n _ hf).1]
  exact k
theorem eqSelf (hf : Flat n (.lst xs)) (hn : n ≤ 64) (k : Q (.bl true) 0) : odEq (.lst xs) (.lst xs) Q := by
  refine ⟨shaped_flat hf hn, shaped_flat hf hn, ?_⟩
  rw [SeqAt.eqv_refl _ (flat_py n _ hf).1]
  exact k
theorem eqv_ints : ∀ as bs : List Int, PyData.eqvAll (D.pys (as.map .int)) (D.pys (bs.map .int)) = decide (as = bs)
  | [], [] => rfl
  | [], _ :: _ => rfl
  | _ :: _, [] => rfl
  | a :: as, b :: bs => by
    show (decide (a = b) && PyData.eqvAll (D.pys (as.map .int)) (D.pys (bs.map .int))) = _
    rw [eqv_ints as bs]
    by_cases h : a = b <;> by_cases h' : as = bs <;> simp [h, h']
theorem flat_ints (as : List Int) : Flat 1 (.lst (as.map .int)) := fun d hd => by
  obtain ⟨i, _, rfl⟩ := List.mem_map.mp hd
  exact trivial
theorem neInts (as bs : List Int) (k : Q (.bl (!decide (as = bs))) 0) : odNe (.lst (as.map .int)) (.lst (bs.map .int)) Q := by
  refine ⟨shaped_flat (flat_ints as) (by decide), shaped_flat (flat_ints bs) (by decide), ?_⟩
  show Q (.bl (!PyData.eqvAll (D.pys (as.map .int)) (D.pys (bs.map .int)))) 0
  rw [eqv_ints]
  exact k
end
/-! ### stores -/
theorem setAt_lst {i j : Nat} {ds : List D} {w : Int} {x : D} {env : DEnv} {k : DEnv → Prop} {io : Bool} (hb : gt env i = some ⟨.lst ds, 1, io⟩) (hj : ixI ds.length w = some j) (q : k (env.set i (some ⟨.lst (ds.set j x), 1, io⟩))) : setAt i [] (.lst ds) (.int w) x env k := by
  unfold setAt
  rw [hb]
  show (match ixI ds.length w with | some j => k (env.set i (some ⟨.lst (ds.set j x), 1, io⟩)) | none => False)
  rw [hj]
  exact q
/-- place[ix] as a place of a list -/
theorem thIx_lst {tp : PTh} {ti : PUT} {env : DEnv} {Q : Nat → List Ac → D → Prop} {s : Nat} {p : List Ac} {ds : List D} {w : Int} {j : Nat} {e : D} (h : ∀ Q', Q' s p (.lst ds) → tp env Q') (hi : ∀ Q', Q' (.int w) → ti env Q') (hj : ixI ds.length w = some j) (he : ds[j]? = some e) (q : Q s (p ++ [.ix j]) e) : thIx tp ti env Q := by
  refine h _ (hi _ ?_)
  show (match ixI ds.length w with | some j => someD (ds[j]?) fun e => Q s (p ++ [.ix j]) e | none => False)
  rw [hj]
  exact someD_mk he q
end DL
set_option Elab.async false
set_option linter.all false
set_option maxRecDepth 100000
/-! DLx: the data layer, part x: comprehensions and loops by one turn. -/
namespace DL
open PySem L2 PySem.Spec PyProof.Rows

/-- a comprehension whose turn leaves the slots as they were: one turn, whatever follows -/
theorem lc_pure {α : Type} {g : Tg} {tt : TTd} {te : ET} {vs : List Nat} {E : DEnv} (inj : α → D) (p : α → Bool) (f : α → D) {Q : QE} : ∀ (xs : List α) (acc : List D), xs.length + acc.length ≤ 1000 →
    (∀ x ∈ xs, ∀ (A : D → DEnv → Prop) (B : DEnv → Prop), (p x = true → A (f x) E) → (p x = false → B E) →
      bindT g (inj x) E fun env1 => tt env1 (fun b env2 => brB b (te env2 (fun d _ env3 => A d (wipeD env3 vs)) noX) (B (wipeD env2 vs))) noX) →
    Q (.lst (acc ++ (xs.filter p).map f)) 1 E → lcD g tt te vs (xs.map inj) acc E Q
  | [], acc, _, _, k => by
    rw [List.filter_nil, List.map_nil, List.append_nil] at k
    exact k
  | x :: xs, acc, hl, hs, k => by
    have hl' : xs.length + acc.length + 1 ≤ 1000 := by simp at hl; omega
    have ih := lc_pure (g := g) (tt := tt) (te := te) (vs := vs) (E := E) inj p f (Q := Q) xs
    refine hs x List.mem_cons_self (fun d e => acc.length < sizeLine ∧ lcD g tt te vs (xs.map inj) (acc ++ [d]) e Q) (fun e => lcD g tt te vs (xs.map inj) acc e Q) (fun h => ⟨ms_lt (by omega), ?_⟩) (fun h => ?_)
    · refine ih (acc ++ [f x]) (by simp; omega) (fun y hy => hs y (List.mem_cons_of_mem _ hy)) ?_
      rw [List.filter_cons_of_pos h, List.map_cons] at k
      rw [List.append_assoc]
      exact k
    · refine ih acc (by omega) (fun y hy => hs y (List.mem_cons_of_mem _ hy)) ?_
      rw [List.filter_cons_of_neg (by rw [h]; exact Bool.false_ne_true)] at k
      exact k
/-- .. without a test -/
theorem lc_map {α : Type} {g : Tg} {te : ET} {vs : List Nat} {E : DEnv} (inj : α → D) (f : α → D) {Q : QE} (xs : List α) (acc : List D) (hl : xs.length + acc.length ≤ 1000)
    (hs : ∀ x ∈ xs, ∀ (A : D → DEnv → Prop), A (f x) E → bindT g (inj x) E fun env1 => te env1 (fun d _ env3 => A d (wipeD env3 vs)) noX)
    (k : Q (.lst (acc ++ xs.map f)) 1 E) : lcD g ttYes te vs (xs.map inj) acc E Q :=
  lc_pure (tt := ttYes) inj (fun _ => true) f xs acc hl (fun x hx A B h1 _ => hs x hx A (h1 rfl)) (by rw [List.filter_eq_self.mpr (fun _ _ => rfl)]; exact k)
/-- a comprehension whose turn changes the slots: s is what they hold; P says what is known of it and of what was made -/
theorem lc_inv {σ : Type} {g : Tg} {tt : TTd} {te : ET} {vs : List Nat} (E : σ → DEnv) {items : List D} (P : Nat → σ → List D → Prop) {Q : QE} (hl : items.length ≤ 1000)
    (step : ∀ i x s acc, items[i]? = some x → P i s acc → ∀ (A : D → DEnv → Prop) (B : DEnv → Prop), (∀ d s', P (i + 1) s' (acc ++ [d]) → A d (E s')) → (∀ s', P (i + 1) s' acc → B (E s')) →
      bindT g x (E s) fun env1 => tt env1 (fun b env2 => brB b (te env2 (fun d _ env3 => A d (wipeD env3 vs)) noX) (B (wipeD env2 vs))) noX)
    (fin : ∀ s acc, P items.length s acc → Q (.lst acc) 1 (E s)) : ∀ (s : σ), P 0 s [] → lcD g tt te vs items [] (E s) Q := by
  have go : ∀ (m i : Nat) (s : σ) (acc : List D), i + m = items.length → acc.length ≤ i → P i s acc → lcD g tt te vs (items.drop i) acc (E s) Q := by
    intro m
    induction m with
    | zero =>
      intro i s acc h _ p
      rw [List.drop_of_length_le (by omega)]
      have : i = items.length := by omega
      subst this
      exact fin s acc p
    | succ m ih =>
      intro i s acc h ha p
      have hi : i < items.length := by omega
      rw [List.drop_eq_getElem_cons hi]
      refine step i _ s acc (List.getElem?_eq_getElem hi) p (fun d e => acc.length < sizeLine ∧ lcD g tt te vs (items.drop (i + 1)) (acc ++ [d]) e Q) (fun e => lcD g tt te vs (items.drop (i + 1)) acc e Q) (fun d s' q => ⟨ms_lt (by omega), ?_⟩) (fun s' q => ?_)
      · exact ih (i + 1) s' (acc ++ [d]) (by omega) (by simp; omega) q
      · exact ih (i + 1) s' acc (by omega) (by omega) q
  intro s p
  exact go items.length 0 s [] (by omega) (by simp) p
/-- a loop by what its slots hold: one turn, whatever follows -/
theorem for_inv {σ : Type} {g : Tg} {b : SD} {items : List D} {Dn : DEnds} (E : σ → DEnv) (P : Nat → σ → Prop)
    (step : ∀ i x s, items[i]? = some x → P i s → ∀ K : DEnv → Prop, (∀ s', P (i + 1) s' → K (E s')) → bindT g x (E s) fun env1 => b env1 { nx := K, ct := K, bk := Dn.nx, rt := Dn.rt, ex := Dn.ex })
    (fin : ∀ s, P items.length s → Dn.nx (E s)) : ∀ s, P 0 s → forD g b items (E s) Dn := by
  have go : ∀ (m i : Nat) (s : σ), i + m = items.length → P i s → forD g b (items.drop i) (E s) Dn := by
    intro m
    induction m with
    | zero =>
      intro i s h p
      rw [List.drop_of_length_le (by omega)]
      have : i = items.length := by omega
      subst this
      exact fin s p
    | succ m ih =>
      intro i s h p
      have hi : i < items.length := by omega
      rw [List.drop_eq_getElem_cons hi]
      exact step i _ s (List.getElem?_eq_getElem hi) p (fun e => forD g b (items.drop (i + 1)) e Dn) (fun s' q => ih (i + 1) s' (by omega) q)
  intro s p
  exact go items.length 0 s (by omega) p
theorem get_map {α β : Type} {f : α → β} {xs : List α} {i : Nat} {y : β} (h : (xs.map f)[i]? = some y) : ∃ x, xs[i]? = some x ∧ y = f x := by
  rw [List.getElem?_map] at h
  cases e : xs[i]? with
  | none => rw [e] at h; cases h
  | some x => rw [e] at h; exact ⟨x, rfl, (Option.some.inj h).symm⟩
end DL
set_option Elab.async false
set_option linter.all false
set_option maxRecDepth 100000
/-! DLy: the data layer, part y: a call that is peeked at: nothing that is owned is frozen by it. -/
namespace DL
open PySem L2 PySem.Spec PyProof.Rows

def noneArgs : Ms → List D → Prop → Prop
  | [], [], p => p
  | none :: ms, _ :: ds, p => noneArgs ms ds p
  | _, _, _ => False
theorem noneArgs_ok {K : PySem.W.Frag} {mg : MG} {F H : Hp} {O : OW} : ∀ {ms : Ms} {j : Nat} {ds : List D} {vs : List V} {p : Prop}, noneArgs ms ds p → Reps K mg F ds vs → p ∧ ArgR K mg F H O ms j ds vs
  | [], j, [], vs, p, h, r => ⟨h, rfl, r⟩
  | none :: ms, j, d :: ds, _, p, h, ⟨v, t, e, r1, r2⟩ => by
    obtain ⟨h1, h2⟩ := noneArgs_ok (j := j + 1) (H := H) (O := O) (show noneArgs ms ds p from h) r2
    exact ⟨h1, d, ds, v, t, rfl, e, r1, h2⟩
  | [], _, _ :: _, _, _, h, _ => h.elim
  | none :: _, _, [], _, _, h, _ => h.elim
  | some _ :: _, _, _, _, _, h, _ => h.elim
theorem outs_none {K : PySem.W.Frag} {mg : MG} {F H : Hp} {O : OW} {vs : List V} : ∀ {ms : Ms} {j : Nat} {ds os : List D} {p : Prop}, noneArgs ms ds p → OutR K mg F H O vs ms j os → os = []
  | [], _, [], _, _, _, h => h
  | none :: ms, j, d :: ds, os, p, h, o => outs_none (ms := ms) (j := j + 1) (ds := ds) (p := p) h o
  | [], _, _ :: _, _, _, h, _ => h.elim
  | none :: _, _, [], _, _, h, _ => h.elim
  | some _ :: _, _, _, _, _, h, _ => h.elim
def pCall (ms : Ms) (S : DSp) (pt : PAT) : PUT := fun env Q => pt env fun ds => noneArgs ms ds (S ds { rt := fun d _ _ => Q d, ex := fun _ _ => False })
theorem passF {X : Cx} {σ : L2.St} : PassesAt (L2.CX X.prog X.w) X σ (fun _ _ _ => False) := fun pins H s e s' I h => by
  obtain ⟨a, B, H', cls, d, _, _, _, _, _, _, _, h⟩ := h
  exact h.elim
section
variable {X : Cx} {k : Nat} {ps ks : List Str} {ms : Ms} {S : DSp} {x : Str} {st : Stmt} {p pos : Pos} {e : Expr} {es : List Expr} {pt : PAT}
theorem pu_call (C : Cal X.prog X.w X.K X.mg X.base x st k ps ms S) (hr : Room k X.A) (ha : PUA X (e :: es) pt) (hg : Gl X x := by rfl) (hdb : (x == ("__debug__" : Str)) = false := by decide)
    (he : starEach (e :: es) X.env = (false, eval e X.env) :: starEach es X.env := by rfl) (hpl : (backTo pos (starEach es X.env)).any (·.1) = false := by rfl) : PU X (.Call (.Name x p) (e :: es) [] pos) (pCall ms S pt) := by
  obtain ⟨f, fd, h1, h2, h3, h4⟩ := C
  refine peI (pe_callSD (E := fun σ _ _ _ => False) h4 hr hg h2 h1.kp h3 .nil (fun σ => passF) ha hdb he hpl) ?_
  rintro σ H Qh ⟨io, env, F, O, Q, I, q, k⟩
  refine ⟨io, env, F, O, _, I, q, fun ds vs H1 e1 r1 q1 => ?_⟩
  obtain ⟨q2, ar⟩ := noneArgs_ok (j := 0) (H := H1) (O := fun _ => none) q1 r1
  rw [List.append_nil]
  refine ⟨H1, fun _ => none, ds, _, Same.refl _, (fun a i h => by cases h), ar, q2, fun d n outs F' O' H' v P m sub own out T r z => ?_, fun x outs F' O' H' cls dx m sub own out r z => z⟩
  exact k d v H' (e1.trans fun a o h => m.fr a o h rfl) (r.fz sub fun a o hp h => h) z
end
end DL
set_option Elab.async false
set_option linter.all false
set_option maxRecDepth 100000
/-! DLw: the data layer, part w: the head's facts as facts of the layer, the law's end. -/
namespace DL
open PySem L2 PySem.Spec PyProof.Rows

section
variable {P : Program} {w : World} {K : PySem.W.Frag} {mg : MG} {base : Heap} {x : Str} {st : Stmt} {k : Nat} {ps N : List Str} {ms : Ms} {S : DSp}
theorem dss_false {X : Cx} {ss : List Stmt} : DSs X ss (fun _ _ => False) := fun W tk => ⟨fun pins s σ H Q I ⟨io, env, F, O, D, I', h, _⟩ => h.elim⟩
/-- a promise that speaks of no call -/
theorem cal_zero (Fu : FunAt K mg x st) (Sc : FnScope N ps (defScope st)) (hl : ms.length = ps.length)
    (hbi : ∀ (kV doc pm : Value) (an : Option Addr) (cdv ct : Value) (us : List Value), us.length = ps.length → bindArgs (PySem.W.fnOf x x (defArgs st) (defBody st) (defScope st) .none kV doc pm an cdv ct) ⟨us, []⟩ = pure (ps.zip us))
    (hs : ∀ ds post, S ds post → False) : Cal P w K mg base x st (k + 1) ps ms S :=
  cal_mk (τ := fun _ _ => False) Fu Sc hl hbi (fun _ _ _ _ _ _ _ _ => dss_false) fun ds post h _ => hs ds post h
theorem Cal.fix {f : Addr} {fd : FuncData} (C : Cal P w K mg base x st k ps ms S) (F : Fun K x x st f fd) (hm : mg x = some (.ref f)) : FnOk P w K mg base (L2.CX P w) k f fd ps (spOf K mg ms S) := by
  obtain ⟨f', fd', h1, h2, h3, h4⟩ := C
  rw [hm] at h2
  cases h2
  obtain ⟨oc, od, kV, doc, pm, an, cdv, ct, osl, e1, l1, c1⟩ := F.ex
  obtain ⟨oc', od', kV', doc', pm', an', cdv', ct', osl', e1', l1', c1'⟩ := h1.ex
  rw [l1] at l1'
  have e : fd = fd' := by injection l1' with z; injection z with _ _ z; injection z
  rw [e]
  exact h4
theorem CX_none {H : Hp} {s : Shared} {e : Value} {s' : Shared} (h : L2.CX P w [] H s (fun _ _ _ => False) e s') : False := by
  obtain ⟨a, B, H', cls, d, _, _, _, _, _, _, _, h⟩ := h
  exact h
end
/-! ### the part of the heap that the facts are read off: no list stands in it -/
def isSeqL (o : Obj) : Bool := match o with
  | ⟨.type c, _, .seq _ _, _⟩ => decide (c = "list")
  | _ => false
def noL (K : PySem.W.Frag) : PySem.W.Frag := K.filter fun p => !isSeqL p.2
def NoLst (K : PySem.W.Frag) : Prop := ∀ a o, K.lookup a = some o → isSeqL o = false
theorem lookup_mem {K : PySem.W.Frag} {a : Addr} {o : Obj} (h : K.lookup a = some o) : (a, o) ∈ K := by
  induction K with
  | nil => cases h
  | cons p t ih =>
    obtain ⟨b, x⟩ := p
    rw [List.lookup_cons] at h
    split at h
    · rename_i q
      cases h
      rw [beq_iff_eq.mp q]
      exact List.mem_cons_self
    · exact List.mem_cons_of_mem _ (ih h)
theorem noL_no {K : PySem.W.Frag} : NoLst (noL K) := fun a o h => by
  have := (List.mem_filter.mp (lookup_mem h)).2
  simpa using this
theorem noL_in {as : List Addr} {h : Heap} : (noL (He.frG h.get? as)).In h := fun a o e => by
  have m := (List.mem_filter.mp (lookup_mem e)).1
  unfold He.frG at m
  obtain ⟨b, _, hb⟩ := List.mem_filterMap.mp m
  cases q : h.get? b with
  | none => rw [q] at hb; cases hb
  | some x => rw [q] at hb; cases hb; exact q
theorem NoLst.sql {K : PySem.W.Frag} (n : NoLst K) {H : Hp} {a : Addr} {xs : List V} (h : SqL K H a xs) : Rd H a (.lst xs) := by
  rcases h with h | ⟨o, its, m, h1, h2, h3, h4, _⟩
  · exact h
  · have := n _ _ h1
    obtain ⟨c, d, dt, sl⟩ := o
    cases h2
    cases h4
    cases this
def obsL (n : Nat) (fa : List He.Fa) (fn : List He.DefD) (g : Addr → Option Obj) : He.AlD := He.obsD fa fn (noL (He.frG g (He.asD g n)))
def hookL (n : Nat) (fa : List He.Fa) (fn : List He.DefD) : PySem.W.Hook where
  α := He.AlD
  obs := fun s => obsL n fa fn s.heap.get?
  val := fun _ => He.valD fn
  says := fun _ h => ∃ K : PySem.W.Frag, K.In h ∧ NoLst K ∧ He.SaysD fa fn K
  of := fun _ _ e => ⟨_, noL_in, noL_no, e⟩
  keeps := fun _ _ _ ⟨K, hK, n, c⟩ k => ⟨K, PySem.W.Frag.In.keeps hK k, n, c⟩
theorem obsL_eq {n : Nat} {fa : List He.Fa} {fn : List He.DefD} {g : Addr → Option Obj} {s : Shared} (h : ∀ a, g a = s.heap.get? a) : obsL n fa fn g = (hookL n fa fn).obs s := by
  have e : g = s.heap.get? := funext h
  rw [e] <;> rfl
theorem fun_at {fa : List He.Fa} {fn : List He.DefD} {K : PySem.W.Frag} {h : Heap} {mg : MG} (X : K.In h) (G : h.Ns mainGlobals mg) (c : He.SaysD fa fn K) {x : Str} {st : Stmt} (i j : Nat)
    (hi : fn[i]? = some ⟨(x, none), x, x, defArgs st, defBody st, defScope st, [], []⟩) (hj : fa[j]? = some (.glo x)) : FunAt K mg x st := by
  obtain ⟨fd, F⟩ := c.def_ i hi
  exact ⟨_, fd, He5.fun_of F, He.glo_ok X G (c.fact j hj)⟩
theorem gl_int {fa : List He.Fa} {fn : List He.DefD} {K : PySem.W.Frag} {h : Heap} {mg : MG} (X : K.In h) (G : h.Ns mainGlobals mg) (c : He.SaysD fa fn K) {x : Str} {i : Int} (j : Nat) (hj : fa[j]? = some (.int x i)) : GlD mg x (.int i) := by
  obtain ⟨t, e⟩ := He.int_ok X G (c.fact j hj)
  exact ⟨⟨_, e, ⟨t, rfl⟩⟩, rfl⟩
theorem gl_str {fa : List He.Fa} {fn : List He.DefD} {K : PySem.W.Frag} {h : Heap} {mg : MG} (X : K.In h) (G : h.Ns mainGlobals mg) (c : He.SaysD fa fn K) {x z : Str} (j : Nat) (hj : fa[j]? = some (.str x z)) : GlD mg x (.str z) := by
  obtain ⟨t, e⟩ := He.str_ok X G (c.fact j hj)
  exact ⟨⟨_, e, ⟨t, rfl⟩⟩, rfl⟩
/-- a law: F gives the promise over every base -/
theorem walk_ofD {l : PySem.W.OpenLaw} {n k : Nat} {q : Program} {loose : List Str} {XP : (Str → Option Value) → Heap → Prop} {YP : World → Heap → Prop} {d : DefRec} {x : Str}
    (hn : l.most = some n) (hn2 : n ≤ sizeLine) (hdf : d.params.defaults = []) (hr : Room k callerA)
    (F : ∀ (w : World) (mg : Str → Option Value) (fa : Addr) (h : Heap), YP w h → h.Ns mainGlobals mg → mg d.name = some (.ref fa) →
      ∃ (K : PySem.W.Frag) (fd : FuncData) (sp : Sp), K.In h ∧ (∀ (s : Shared) (u : Value), BindsTo s fd ⟨[u], []⟩ [(x, u)]) ∧
        (∀ (H : Hp) (a : Addr) (ns : List Int), ns.length ≤ n → Only H → SqL K H a (ns.map V.int) → sp [.ref a] H (fun v _ => v = .bl true) fun _ _ _ => False) ∧
        ∀ base : Heap, K.In base → base.Ns mainGlobals mg → FnOk l.prog w K mg base (L2.CX l.prog w) k fa fd [x] sp) :
    PySem.W.WalkO q loose XP YP l.row.toRowW d [] (fun f vs => PySem.call f vs) := by
  refine Att.attach_call hn hdf fun w s₀ s₁ mg mb fa o pm cd doc a vs ns G Y ho hd hcd hmg hobj hints hlen hg => ?_
  obtain ⟨K, fd, sp, KX, hb, hsp, hF⟩ := F w mg fa _ Y G.T.g hmg
  exact law_call KX G.T.g G.T.b G.T.builtins G.T.nolimit hg hobj hints (Nat.le_trans hlen hn2) hr hF hb (fun H hO hS => hsp H a ns hlen hO hS) fun H e s' => CX_none
/-- the script's list as data: it stays in the ground -/
theorem rep_ints {K : PySem.W.Frag} {mg : MG} {H : Hp} : ∀ ns : List Int, Reps K mg H (ns.map D.int) (ns.map V.int)
  | [] => rfl
  | n :: ns => ⟨.int n, _, rfl, rfl, rep_ints ns⟩
/-- the end, from the law's def as the layer has it -/
theorem law_end {P : Program} {w : World} {K : PySem.W.Frag} {mg : MG} {st : Stmt} {k : Nat} {ms : Ms} {S : DSp} {f : Addr} (nl : NoLst K) (Fu : FunAt K mg "law" st) (hf : mg "law" = some (.ref f)) (hms : ms = [none])
    (hbi : ∀ (kV doc pm : Value) (an : Option Addr) (cdv ct : Value) (us : List Value), us.length = ["script"].length → bindArgs (PySem.W.fnOf "law" "law" (defArgs st) (defBody st) (defScope st) .none kV doc pm an cdv ct) ⟨us, []⟩ = pure ((["script"] : List Str).zip us))
    (C : ∀ base : Heap, Cal P w K mg base "law" st k ["script"] ms S) (hS : ∀ ns : List Int, ∀ post : DPost, post.rt (.bl true) 0 [] → ns.length ≤ 63 → S [.lst (ns.map .int)] post) :
    ∃ (fd : FuncData) (sp : Sp), (∀ (s : Shared) (u : Value), BindsTo s fd ⟨[u], []⟩ [("script", u)]) ∧
        (∀ (H : Hp) (a : Addr) (ns : List Int), ns.length ≤ 63 → Only H → SqL K H a (ns.map V.int) → sp [.ref a] H (fun v _ => v = .bl true) fun _ _ _ => False) ∧
        ∀ base : Heap, K.In base → base.Ns mainGlobals mg → FnOk P w K mg base (L2.CX P w) k f fd ["script"] sp := by
  obtain ⟨f', fd, F, hf'⟩ := Fu
  rw [hf] at hf'
  cases hf'
  refine ⟨fd, spOf K mg ms S, fun s u => ?_, fun H a ns hl _ hs => ?_, fun base _ _ => (C base).fix F hf⟩
  · obtain ⟨oc, od, kV, doc, pm, an, cdv, ct, osl, rfl, _, _⟩ := F.ex
    exact .of_eq (hbi kV doc pm an cdv ct [u] rfl)
  · subst hms
    refine ⟨H, fun _ => none, [.lst (ns.map .int)], { rt := fun d n os => d = .bl true ∧ n = 0, ex := fun _ _ => False }, Same.refl _, (fun a i h => by cases h), ⟨_, [], _, [], rfl, rfl, ⟨a, ns.map V.int, rfl, nl.sql hs, rep_ints ns⟩, rfl, rfl⟩, hS ns _ ⟨rfl, rfl⟩ hl, ?_, ?_⟩
    · intro d n os F' O' H' v P _ _ _ _ _ r q
      obtain ⟨rfl, rfl⟩ := q
      exact r
    · intro x os F' O' H' cls dx _ _ _ _ _ q
      exact q
end DL
set_option Elab.async false
set_option linter.all false
set_option maxRecDepth 100000
/-! DLz: the data layer, part z: small things. -/
namespace DL
open PySem L2 PySem.Spec PyProof.Rows
/-! ### == told as it unfolds -/
theorem eqv_self {n : Nat} {d : D} (hf : Flat n d) : PyData.eqv d.py d.py = true := SeqAt.eqv_refl _ (flat_py n _ hf).1
theorem nev_self {n : Nat} {d : D} (hf : Flat n d) : (!PyData.eqv d.py d.py) = false := by rw [eqv_self hf]; rfl
end DL
set_option Elab.async false
set_option linter.all false
set_option maxRecDepth 100000
/-! DM1: the data layer: dict comprehensions; calls with keywords in the reverse order of the parameters. -/
namespace DL
open PySem L2 PySem.Spec PyProof.Rows
def dcD (g : Tg) (tt : TTd) (tk tv : ET) (vs : List Nat) : List D → List (Key × D) → DEnv → QE → Prop
  | [], acc, env, Q => Q (.dK acc) 1 env
  | x :: xs, acc, env, Q => bindT g x env fun env1 => tt env1 (fun b env2 => brB b
    (tk env2 (fun k _ env3 => tv env3 (fun v _ env4 => match keyD k with | some key => acc.length < sizeLine ∧ dcD g tt tk tv vs xs (putD acc key v) (wipeD env4 vs) Q | none => False) noX) noX)
    (dcD g tt tk tv vs xs acc (wipeD env2 vs) Q)) noX
def eDc (i : ITd) (g : Tg) (tt : TTd) (tk tv : ET) (vs : List Nat) : ET := fun env Q R => i env (fun items env1 => dcD g tt tk tv vs items [] (wipeD env1 vs) Q) R
section
variable {X : Cx} {kx vx tg iter : Expr} {ifs : List Expr} {scope : Scope} {own : List (Str × Nat)} {g : Tg} {it : ITd} {tt : TTd} {tk tv : ET} {pos : Pos} {W : WX} {vs : List Nat}
theorem dc_rest {K : PySem.W.Frag} {mg : MG} {vs : List Nat} (hsl : ∀ i ∈ g.slots, i ∈ vs) {io : Nat → Option V} {env1 : DEnv} {σ : L2.St} {F F1 H H1 : Hp} {O O1 : OW} {Q : QE} {Qh : VK} {items : List D} {J : It}
    (kQ : KE K mg io σ F O H Q Qh) (A1 : At K mg io F O H env1 σ F1 O1 H1) (T : ItOk K mg J items F1) (h1 : dcD g tt tk tv vs items [] (wipeD env1 vs) Q) (L : Addr) (hL : H1 L = none) : ∃ W : Nat → Nat → Hp → Prop, (∃ m, W 0 m (upd H1 L (.dK []))) ∧ ∀ i m H, W i m H →
      (J.stop i H ∧ Qh (.ref L) H) ∨ (J.go i H ∧ ∃ Nx : Hp → Prop, (∀ H', Nx H' → ∃ m', m' < m ∧ W (i + 1) m' H') ∧ ∀ x H', J.yld i H x H' → rdG K mg g x (L2.wipe σ vs) H' fun σ2 H2 => L2.wipe σ2 vs = L2.wipe σ vs ∧ rdT K mg tt (fun _ _ _ _ => False) σ2 H2 fun b H3 =>
        if b = true then rdE K mg tk (fun _ _ _ _ => False) σ2 H3 fun y H4 => rdE K mg tv (fun _ _ _ _ => False) σ2 H4 fun z H5 => ∃ kvs k, y = kV k ∧ H5 L = some (.dK kvs) ∧ kvs.length < sizeLine ∧ Nx (upd H5 L (.dK (putK kvs k z))) else Nx H3) := by
  have A1e := A1.ext (same_upd (o := .dK []) hL)
  have kx0 : ∀ {F' H' : Hp} {O' : OW}, KX K mg io F' O' H' noX fun _ _ _ _ => False := fun {F' H' O'} x e σ' Fa Oa Ha c dx B r z => z
  obtain ⟨O1w, A1w, hO1⟩ := A1e.wipes vs
  have T1 : Tp O H F1 O1w (upd H1 L (.dK [])) (fun b => b = L) := ⟨fun b e => by
    subst e
    refine ⟨A1.si.freeF hL, ?_, _, upd_same⟩
    cases z : O1w b with
    | none => rfl
    | some i =>
      have q := hO1 b i z
      rw [A1.si.freeO hL] at q
      exact (nomatch q), fun b e => by subst e; exact A1.mv.back (.inl hL)⟩
  refine ⟨fun i m H' => m + i = items.length ∧ ∃ env' F' O' acc accV, At K mg io F O H env' (L2.wipe σ vs) F' O' H' ∧ (∀ j b, env'[j]? = some (some b) → j ∉ vs) ∧ Same F1 F' ∧ Tp O H F' O' H' (fun b => b = L) ∧
    H' L = some (.dK accV) ∧ RepK K mg F' acc accV ∧ dcD g tt tk tv vs (items.drop i) acc env' Q,
    ⟨items.length, by omega, wipeD env1 vs, F1, O1w, [], [], A1w, fun j b hb => (wipeD_none vs env1 j b hb).2, Same.refl _, T1, upd_same, rfl, h1⟩, ?_⟩
  rintro i m H2 ⟨hm, env2, F2, O2, acc, accV, A2, hn2, e2, T2, hl2, r2, h2⟩
  by_cases hi : i < items.length
  · refine .inr ⟨T.go i H2 (e2.trans A2.si.sub) hi, fun H' => ∃ env' F' O' acc accV, At K mg io F O H env' (L2.wipe σ vs) F' O' H' ∧ (∀ j b, env'[j]? = some (some b) → j ∉ vs) ∧ Same F1 F' ∧ Tp O H F' O' H' (fun b => b = L) ∧
      H' L = some (.dK accV) ∧ RepK K mg F' acc accV ∧ dcD g tt tk tv vs (items.drop (i + 1)) acc env' Q, fun H' q => ⟨m - 1, by omega, by omega, q⟩, ?_⟩
    intro x H3 y
    obtain ⟨d, F3, hd, B3, r3⟩ := T.take A2.si e2 hi y
    have A3 := A2.trans B3
    rw [drop_get hd] at h2
    -- a turn's end
    have again : ∀ {env5 : DEnv} {σ5 : L2.St} {F5 H5 : Hp} {O5 : OW} {acc' : List (Key × D)} {accV' : List (Key × V)}, At K mg io F3 O2 H3 env5 σ5 F5 O5 H5 → L2.wipe σ5 vs = L2.wipe σ vs → RepK K mg F5 acc' accV' →
        dcD g tt tk tv vs (items.drop (i + 1)) acc' (wipeD env5 vs) Q → (H5 L = some (.dK accV) → (∃ env' F' O' acc accV, At K mg io F O H env' (L2.wipe σ vs) F' O' (upd H5 L (.dK accV')) ∧ (∀ j b, env'[j]? = some (some b) → j ∉ vs) ∧ Same F1 F' ∧
          Tp O H F' O' (upd H5 L (.dK accV')) (fun b => b = L) ∧ (upd H5 L (.dK accV')) L = some (.dK accV) ∧ RepK K mg F' acc accV ∧ dcD g tt tk tv vs (items.drop (i + 1)) acc env' Q)) := by
      intro env5 σ5 F5 H5 O5 acc' accV' A5 hw r5 h5 hl5
      have A5' := A3.trans A5
      have T5 := T2.mv (B3.mv.trans A5.mv)
      obtain ⟨hF, hO, _⟩ := T5.t L rfl
      obtain ⟨O6, A6, hO6⟩ := A5'.wipes vs
      rw [hw] at A6
      have hO' : O6 L = none := by
        cases z : O6 L with
        | none => rfl
        | some i => have q := hO6 L i z; rw [hO] at q; exact (nomatch q)
      have neO : ∀ a i, O6 a = some i → a ≠ L := fun a i z e => by subst e; rw [hO'] at z; cases z
      refine ⟨wipeD env5 vs, F5, O6, acc', accV', ⟨⟨A6.mv.ff, fun a o z q => ?_, A6.mv.fn, A6.mv.on⟩, ⟨fun a o z => ?_, fun a i z => ?_, fun j b hb => ?_, A6.si.len⟩⟩, fun j b hb => (wipeD_none vs env5 j b hb).2, (e2.trans B3.mv.ff).trans A5.mv.ff,
        ⟨fun b e => by subst e; exact ⟨hF, hO', _, upd_same⟩, T5.nw⟩, upd_same, r5, h5⟩
      · have ne : a ≠ L := fun e => by
          subst e
          rcases T5.nw a rfl with z2 | ⟨k, z2⟩
          · rw [z] at z2; cases z2
          · rw [q] at z2; cases z2
        rw [upd_ne ne]
        exact A6.mv.fr a o z q
      · have ne : a ≠ L := fun e => by subst e; rw [hF] at z; cases z
        rw [upd_ne ne]
        exact A6.si.sub a o z
      · rw [upd_ne (neO a i z)]
        exact A6.si.own a i z
      · obtain ⟨w, g1, g2, g3⟩ := A6.si.slot j b hb
        exact ⟨w, g1, g2.mono (fun _ _ x => x) (fun a o p z => by rw [upd_ne (neO a j p)]; exact z) (fun _ x => x), g3⟩
    refine ⟨io, env2, F3, O2, d, _, A3.si, r3, h2, ?_⟩
    intro env4 σ4 O4 A4 hag h4
    have hw4 : L2.wipe σ4 vs = L2.wipe σ vs := (hag vs hsl).trans (wipe_in fun _ z => z)
    refine ⟨hw4, io, env4, F3, O4, _, noX, A4.si, h4, ?_, kx0⟩
    intro b env5 F5 O5 H5 A5 h5
    have A45 := A4.trans A5
    have T3 := T2.mv B3.mv
    have l3 : H3 L = some (.dK accV) := B3.mv.fr L _ hl2 (T2.t L rfl).2.1
    have l5 : H5 L = some (.dK accV) := A45.mv.fr L _ l3 (T3.t L rfl).2.1
    cases b with
    | false =>
      refine iteF ?_
      have z := again A45 hw4 (RepK.mono (B3.mv.ff.trans A45.mv.ff) r2) h5 l5
      rw [upd_self l5] at z
      exact z
    | true =>
      refine iteT ⟨io, env5, F5, O5, _, noX, A5.si, h5, ?_, kx0⟩
      intro y' n env6 F6 O6 H6 w P A6 T6 r6 h6
      have A6' := A6.frz T6
      have A46 := A45.trans A6'
      have r6' := A6.frz_rep r6
      refine ⟨io, env6, _, O6, _, noX, A6'.si, h6, ?_, kx0⟩
      intro z' n' env7 F7 O7 H7 wv P7 A7 T7 r7 h7
      have A7' := A7.frz T7
      have A47 := A46.trans A7'
      have l7 : H7 L = some (.dK accV) := A47.mv.fr L _ l3 (T3.t L rfl).2.1
      have r8 := RepK.mono (B3.mv.ff.trans A47.mv.ff) r2
      cases ek : keyD y' with
      | none => rw [ek] at h7; exact h7.elim
      | some key =>
        rw [ek] at h7
        have el : accV.length = acc.length := by
          have := congrArg List.length (RepK.keys r2).1
          rw [List.length_map, List.length_map] at this
          exact this.symm
        exact ⟨accV, key, keyD_v ek r6', l7, by rw [el]; exact h7.1, again A47 hw4 (r8.put (A7.frz_rep r7)) h7.2 l7⟩
  · refine .inl ⟨T.stop i H2 (e2.trans A2.si.sub) (by omega), ?_⟩
    rw [List.drop_of_length_le (by omega)] at h2
    exact kQ (.dK acc) 1 env2 F2 O2 H2 (.ref L) (fun b => b = L) ⟨A2.mv, A2.si.unwipe hn2⟩ T2 (NewL.own (o := .dK accV) r2 hl2) h2
theorem dc_read {K : PySem.W.Frag} {mg : MG} {vs : List Nat} (hsl : ∀ i ∈ g.slots, i ∈ vs) : ∀ σ H Qh, rdE K mg (eDc it g tt tk tv vs) W σ H Qh →
    tDc (rdI K mg it W) (rdG K mg g) (rdT K mg tt fun _ _ _ _ => False) (rdE K mg tk fun _ _ _ _ => False) (rdE K mg tv fun _ _ _ _ => False) vs σ H Qh := by
  rintro σ H Qh ⟨io, env, F, O, Q, R, I, h, kQ, kX⟩
  refine ⟨io, env, F, O, _, _, I, h, ?_, kX⟩
  intro items env1 F1 O1 H1 J A1 T h1 L hL
  exact dc_rest hsl kQ A1 T h1 L hL
theorem de_dc (own : List (Str × Nat)) (hc : X.calm = true) (hN : X.N.Nodup) (hi : DI X tg iter it) (ok : BlkOk X.N X.env.scope scope own)
    (hg : ∀ (s : Shared) (H : Hp) (C : Addr) (cl : List (Str × Addr)) (fp : List Addr), DGt (X.blk s H scope (compEnvC scope cl C X.env) fp) tg g)
    (ht : ∀ (s : Shared) (H : Hp) (C : Addr) (cl : List (Str × Addr)) (fp : List Addr), DPTs (X.blk s H scope (compEnvC scope cl C X.env) fp) ifs tt)
    (hk : ∀ (s : Shared) (H : Hp) (C : Addr) (cl : List (Str × Addr)) (fp : List Addr), DE (X.blk s H scope (compEnvC scope cl C X.env) fp) kx tk)
    (he : ∀ (s : Shared) (H : Hp) (C : Addr) (cl : List (Str × Addr)) (fp : List Addr), DE (X.blk s H scope (compEnvC scope cl C X.env) fp) vx tv)
    (hv : own.map (·.2) = vs := by rfl) (hsl : ∀ i ∈ g.slots, i ∈ vs := by decide) (hs : ∀ x, foldedSetIterable iter X.env x = pure x := by intro _; rfl) : DE X (.DictComp kx vx [⟨tg, iter, ifs, 0⟩] scope pos) (eDc it g tt tk tv vs) := by
  subst hv
  exact fun W tks => peI (pe_dc (g := rdG X.K X.mg g) (tt := rdT X.K X.mg tt fun _ _ _ _ => False) (tk := rdE X.K X.mg tk fun _ _ _ _ => False) (tv := rdE X.K X.mg tv fun _ _ _ _ => False) hc hN (hi W tks) ok hg (fun s H C cl fp => ht s H C cl fp _ takes00) (fun s H C cl fp => hk s H C cl fp _ takes00) (fun s H C cl fp => he s H C cl fp _ takes00) hs) (dc_read hsl)
end
/-! ### f(c = .., b = .., a = ..), the parameters being a, b, c -/
theorem krev {K : PySem.W.Frag} {x qual : Str} {st : Stmt} {f : Addr} {fd : FuncData} {ps : List Str} (ks : List Str) (Fu : Fun K x qual st f fd)
    (h : ∀ (kV doc pm : Value) (an : Option Addr) (cdv ct : Value) (ws : List Value), ws.length = ks.length → bindArgs (PySem.W.fnOf x qual (defArgs st) (defBody st) (defScope st) .none kV doc pm an cdv ct) ⟨[], ks.zip ws⟩ = pure (ps.zip ws.reverse)) :
    KBn K fd ps 0 ks (fun _ ws => ws.reverse) (fun _ zs => zs.reverse) := by
  obtain ⟨oc, od, kV, doc, pm, an, cdv, ct, osl, rfl, lk, hcd⟩ := Fu.ex
  refine ⟨fun s us ws _ l1 l2 => ?_, fun _ r => r.reverse⟩
  match us, l1 with
  | [], _ => exact .of_eq (h kV doc pm an cdv ct ws l2)
def eCallRv (ms : Ms) (S : DSp) (t : GAT) : ET := fun env Q R => t env (fun gs env1 => callD ms S gs.reverse env1 Q R) R
theorem GaR.app {K : PySem.W.Frag} {mg : MG} {F : Hp} {σ : L2.St} : ∀ {gs hs : List Ga} {vs ws : List V}, GaR K mg F σ gs vs → GaR K mg F σ hs ws → GaR K mg F σ (gs ++ hs) (vs ++ ws)
  | [], _, _, _, h, g => by rw [show _ = [] from h]; exact g
  | .inl d :: gs, _, _, ws, ⟨v, r, h1, h2, h3⟩, g => ⟨v, r ++ ws, by subst h1; rfl, h2, GaR.app h3 g⟩
  | .inr k :: gs, _, _, ws, ⟨v, r, h1, h2, h3⟩, g => ⟨v, r ++ ws, by subst h1; rfl, h2, GaR.app h3 g⟩
theorem GaR.rev {K : PySem.W.Frag} {mg : MG} {F : Hp} {σ : L2.St} : ∀ {gs : List Ga} {vs : List V}, GaR K mg F σ gs vs → GaR K mg F σ gs.reverse vs.reverse
  | [], _, h => by rw [show _ = [] from h]; exact rfl
  | .inl d :: gs, _, ⟨v, r, h1, h2, h3⟩ => by
    subst h1
    rw [List.reverse_cons, List.reverse_cons]
    exact GaR.app (GaR.rev h3) ⟨v, [], rfl, h2, rfl⟩
  | .inr k :: gs, _, ⟨v, r, h1, h2, h3⟩ => by
    subst h1
    rw [List.reverse_cons, List.reverse_cons]
    exact GaR.app (GaR.rev h3) ⟨v, [], rfl, h2, rfl⟩
section
variable {X : Cx} {k : Nat} {f : Addr} {fd : FuncData} {ps ks : List Str} {ms : Ms} {S : DSp} {x : Str} {st : Stmt} {p pos : Pos} {kws : List Keyword} {t : GAT}
def tKwR (n : Nat) (sp : Sp) (E : L2.St → XK) (tk : TA) : TE := fun σ H Q => tk σ H fun zs H2 => zs.length = n ∧ sp zs.reverse H2 Q (E σ)
theorem pe_kwR {sp : Sp} {E : L2.St → XK} {tk : TA} (Fn : FnOk X.prog X.w X.K X.mg X.base (L2.CX X.prog X.w) k f fd ps sp) (hr : Room k X.A) (hg : Gl X x) (hm : X.mg x = some (.ref f)) (hk : PySem.W.keepIn X.K (.ref f) = true)
    (hb : KBn X.K fd ps 0 ks (fun _ ws => ws.reverse) (fun _ zs => zs.reverse)) (hx : ∀ σ, PassesAt (L2.CX X.prog X.w) X σ (E σ)) (hkw : PK X kws tk) (hall : (backToKw pos (keywordEach kws X.env)).all (·.1.isSome) = true) (hks : (backToKw pos (keywordEach kws X.env)).filterMap (·.1) = ks)
    (hdb : (x == ("__debug__" : Str)) = false) (hpl : ((backTo pos (starEach [] X.env)).any (·.1) || (backToKw pos (keywordEach kws X.env)).any (·.1.isNone)) = false) : PE X (.Call (.Name x p) [] kws pos) (tKwR ks.length sp E tk) := by
  refine ⟨fun pins s σ H Q I h => ?_⟩
  refine wpAny_Call_Name_kw (ld_glob I hg hm ?_ hdb)
  refine PySem.W.callWith_KW0 (h₀ := X.base) I.ok.mod.kin hk hall ?_ hpl
  refine thn (hkw.run pos pins s σ H _ I h) fun ws s2 ⟨zs, H2, I2, rz, l2, q2⟩ => ⟨I2.kIn, ?_⟩
  rw [hks]
  have r2 : Vals zs.reverse ws.reverse := rz.reverse
  refine wpAny_call (codeAny_mono (Fn.run X.A X.stack s2 H2 ⟨[], ks.zip ws⟩ ws.reverse zs.reverse Q (E σ) hr I2.env0 (hb.to s2 [] ws I2.kIn rfl (rz.length.symm.trans l2)) r2 q2) fun r s' hq => ?_)
  cases r with
  | error e => exact hx σ pins H2 s2 e s' I2 hq
  | ok fl =>
    cases fl with
    | ret u => exact I2.after hq
    | next => exact False.elim hq
    | brk => exact False.elim hq
    | cont => exact False.elim hq
theorem dc_rv (ks : List Str) (C : Cal X.prog X.w X.K X.mg X.base x st k ps ms S) (hr : Room k X.A) (hkw : DGK X kws t)
    (h : ∀ (kV doc pm : Value) (an : Option Addr) (cdv ct : Value) (ws : List Value), ws.length = ks.length → bindArgs (PySem.W.fnOf x x (defArgs st) (defBody st) (defScope st) .none kV doc pm an cdv ct) ⟨[], ks.zip ws⟩ = pure (ps.zip ws.reverse)) (hlen : ms.length = ks.length) (hg : Gl X x := by rfl)
    (hall : (backToKw pos (keywordEach kws X.env)).all (·.1.isSome) = true := by rfl) (hks : (backToKw pos (keywordEach kws X.env)).filterMap (·.1) = ks := by rfl)
    (hdb : (x == ("__debug__" : Str)) = false := by decide) (hpl : ((backTo pos (starEach [] X.env)).any (·.1) || (backToKw pos (keywordEach kws X.env)).any (·.1.isNone)) = false := by rfl) :
    DE X (.Call (.Name x p) [] kws pos) (eCallRv ms S t) := by
  obtain ⟨f, fd, h1, h2, h3, h4⟩ := C
  intro W tk
  refine peI (pe_kwR (E := fun σ cls d H => W cls d σ H) h4 hr hg h2 h1.kp (krev ks h1 h) (fun σ => passAt tk σ) (hkw W tk) hall hks hdb hpl) ?_
  rintro σ H Qh ⟨io, env, F, O, Q, R, I, h, kQ, kX⟩
  refine ⟨io, env, F, O, _, R, I, h, ?_, kX⟩
  intro gs env1 F1 O1 H1 vs A1 r1 h1
  have z := call_read A1.si r1.rev h1 (kQ.mv A1) (kX.mv A1)
  refine ⟨?_, z⟩
  obtain ⟨F0, O0, ds, post, _, _, ar, _⟩ := z
  have l := ar.len.1
  rw [List.length_reverse] at l
  rw [l, hlen]
end
/-! ### an expression that is run with all that stands frozen: what is owned stays owned, the outcome bears no address -/
def fz1 : Option Bd → Option Bd
  | none => none
  | some b => some { b with n := 0 }
def frzEnv (env : DEnv) : DEnv := env.map fz1
theorem frzEnv_len (env : DEnv) : (frzEnv env).length = env.length := List.length_map ..
theorem frzEnv_get {env : DEnv} {i : Nat} {b : Bd} (h : (frzEnv env)[i]? = some (some b)) : ∃ b', env[i]? = some (some b') ∧ b = { b' with n := 0 } := by
  unfold frzEnv at h
  rw [List.getElem?_map] at h
  cases e : env[i]? with
  | none => rw [e] at h; cases h
  | some o =>
    rw [e] at h
    cases o with
    | none => cases h
    | some c => exact ⟨c, rfl, by cases h; rfl⟩
/-- what may be handed out -/
def outFz (d : D) (n : Nat) (Q : Qn) : Prop := match d, n with
  | .non, _ => Q .non 0
  | .bl b, _ => Q (.bl b) 0
  | .int i, _ => Q (.int i) 0
  | .str s, _ => Q (.str s) 0
  | .lst ds, _ + 1 => ds.all D.leaf = true ∧ Q (.lst ds) 1
  | .dK kvs, _ + 1 => (kvs.all fun kv => kv.2.leaf) = true ∧ Q (.dK kvs) 1
  | _, _ => False
def eFz (t : ET) : ET := fun env Q _ => t (frzEnv env) (fun d n _ => outFz d n fun d n => Q d n env) noX
section
variable {K : PySem.W.Frag} {mg : MG} {F F' H : Hp}
theorem leafO {n : Nat} {P : AP} {d : D} {v : V} (hl : d.leaf = true) (h : RepO K mg F' H n P d v) : Rep K mg F' d v := by
  cases n <;> (cases d <;> first | exact h | cases hl)
theorem ros_leaf {n : Nat} : ∀ {ds : List D} {P : AP} {vs : List V}, ds.all D.leaf = true → ROs (RepO K mg F' H n) P ds vs → ROs (RepO K mg F H 0) P ds vs
  | [], _, _, _, h => h
  | d :: ds, P, _, hl, ⟨v, r, P1, P2, h1, h2, h3, h4, h5, h6⟩ => by
    obtain ⟨l1, l2⟩ : d.leaf = true ∧ ds.all D.leaf = true := by simpa using hl
    refine ⟨v, r, P1, P2, h1, h2, h3, h4, ?_, ros_leaf l2 h6⟩
    have := leafO (n := n) l1 h5
    exact leaf_rep (F := F') l1 this
end
theorem fz_read {K : PySem.W.Frag} {mg : MG} {t : ET} {W : WX} : ∀ σ H Qh, rdE K mg (eFz t) W σ H Qh → rdE K mg t W σ H Qh := by
  rintro σ H Qh ⟨io, env, F, O, Q, R, I, q, k, kx⟩
  have I2 : SI K mg io (frzEnv env) σ H (fun _ => none) H := ⟨Same.refl _, (fun a i z => by cases z), fun i b hb => by
    obtain ⟨b', h1, h2⟩ := frzEnv_get hb
    obtain ⟨v, g1, g2, g3⟩ := I.slot i b' h1
    subst h2
    exact ⟨v, g1, g2.rep I.sub, g3⟩, by rw [frzEnv_len]; exact I.len⟩
  refine ⟨io, frzEnv env, H, fun _ => none, _, noX, I2, q, ?_, fun x env' σ' F' O' H' cls dx A r z => z.elim⟩
  intro d n env' F' O' H' v P A T r z
  have sm : Same H H' := fun a o e => A.mv.fr a o e rfl
  have A0 := (At.start I).ext sm
  have T0 : Tp O H F O H' P := ⟨fun a p => by
    have hn : H a = none := by
      rcases T.nw a p with z | ⟨i, z⟩
      · exact z
      · cases z
    exact ⟨I.freeF hn, I.freeO hn, (T.t a p).2.2⟩, fun a p => by
      rcases T.nw a p with z | ⟨i, z⟩
      · exact .inl z
      · cases z⟩
  have lf : ∀ d : D, d.leaf = true → RepO K mg F' H' n P d v → Q d 0 env → Qh v H' := fun d hl r q => k d 0 env F O H' v P0 A0 Tp.none (leaf_rep (F := F') hl (leafO hl r)) q
  cases d with
  | non => exact lf .non rfl r z
  | bl b => exact lf (.bl b) rfl r z
  | int i => exact lf (.int i) rfl r z
  | str s => exact lf (.str s) rfl r z
  | lst ds =>
    cases n with
    | zero => exact z.elim
    | succ n =>
      obtain ⟨a, vs, P', h1, h2, h3, h4, h5, h6⟩ := r
      exact k (.lst ds) 1 env F O H' v P A0 T0 ⟨a, vs, P', h1, h2, h3, h4, h5, ros_leaf z.1 h6⟩ z.2
  | dK kvs =>
    cases n with
    | zero => exact z.elim
    | succ n =>
      obtain ⟨a, vs, P', h1, h2, h3, h4, h5, h6, h7⟩ := r
      have z1 : (kvs.map (·.2)).all D.leaf = true := by rw [List.all_map]; exact z.1
      exact k (.dK kvs) 1 env F O H' v P A0 T0 ⟨a, vs, P', h1, h2, h3, h4, h5, h6, ros_leaf z1 h7⟩ z.2
  | _ => cases n <;> exact z.elim
theorem de_fz {X : Cx} {e : Expr} {t : ET} (h : DE X e t) : DE X e (eFz t) := fun W tk => peI (h W tk) fz_read
/-! ### x = {k: v for ..}, x = [..] run with all frozen -/
section
variable {X : Cx}
theorem ps_setDc {i : Nat} {y : Str} {py : Pos} {kx vx tg iter : Expr} {ifs : List Expr} {scope : Scope} {own : List (Str × Nat)} {pos spos : Pos} {wi : TI} {g : TG} {tt : TT} {tk tv : TE} (hc : X.calm = true) (hN : X.N.Nodup) (hy : X.N[i]? = some y) (hyl : X.env.scope.names.lookup y = some .local)
    (hsw : swapsWith (.DictComp kx vx [⟨tg, iter, ifs, 0⟩] scope pos) (some (.Name y py)) spos.line X.env = pure true) (hi : PI X tg iter wi) (ok : BlkOk X.N X.env.scope scope own)
    (hg : ∀ (s : Shared) (H : Hp) (C : Addr) (cl : List (Str × Addr)) (fp : List Addr), PG (X.blk s H scope (compEnvC scope cl C X.env) fp) tg g) (ht : ∀ (s : Shared) (H : Hp) (C : Addr) (cl : List (Str × Addr)) (fp : List Addr), PTs (X.blk s H scope (compEnvC scope cl C X.env) fp) ifs tt)
    (hk : ∀ (s : Shared) (H : Hp) (C : Addr) (cl : List (Str × Addr)) (fp : List Addr), PE (X.blk s H scope (compEnvC scope cl C X.env) fp) kx tk)
    (he : ∀ (s : Shared) (H : Hp) (C : Addr) (cl : List (Str × Addr)) (fp : List Addr), PE (X.blk s H scope (compEnvC scope cl C X.env) fp) vx tv) (hs : ∀ x, foldedSetIterable iter X.env x = pure x := by intro _; rfl) :
    PS X (.Assign [.Name y py] (.DictComp kx vx [⟨tg, iter, ifs, 0⟩] scope pos) spos) (tAsg (tDc wi g tt tk tv (own.map (·.2))) (gName i)) := by
  refine ⟨fun pins s σ H D I h => ?_⟩
  rw [exec_Assign_Name_used _ _ _ _ hsw]
  refine wpAny_bind (wpAny_standAt (wpAny_bind ?_))
  show wpAny _ X.A (do let _ ← comprehension (.DictComp kx vx [⟨tg, iter, ifs, 0⟩] scope pos) scope X.env (firstIterPos [⟨tg, iter, ifs, 0⟩] pos) newDict false (eval iter X.env) (some (assign (.Name y py) X.env))) _ _ s
  have h : tDc wi g tt tk tv (own.map (·.2)) σ H (fun x H1 => gName i x σ H1 D.nx) := h
  refine wpAny_bind (thn (dc_core (Qf := fun _ s' => SP X pins D .next s') hc hN I hi ok hg ht hk he hs h fun L C s' m H' I' q hn f => ?_) fun _ s' hq => wpAny_pure (wpAny_pure hq))
  show wpAny _ _ (assign (.Name y py) X.env (.ref L)) _ _ _
  refine wpAny_assign_Name (store_ok2 (v := V.ref L) I' hN hy (.inl hyl) rfl (fun s2 I2 ⟨a, sb, ha⟩ => ?_) (.inr hyl))
  obtain ⟨f0, f1, f2, f3, f4, f5⟩ := f
  have haC : C ≠ a := by
    rcases ha with z | z
    · rw [z]; exact f1
    · exact fun e => f4 y a z e.symm
  refine ⟨m, hn.sameBut sb haC, fun h3 sb3 => ?_⟩
  exact ⟨_, H', I2.turned (t' := s2.toks) (fun b o hb e => (sb3.2 b hb).trans e) f0 f1 f3 f4 f5, q⟩
variable {elt kx vx tg iter : Expr} {ifs : List Expr} {scope : Scope} {vs : List Nat} {g : Tg} {it : ITd} {tt : TTd} {te tk tv : ET} {pos spos py : Pos} {i : Nat} {y : Str}
theorem set_ke {K : PySem.W.Frag} {mg : MG} {io : Nat → Option V} {σ : L2.St} {F H : Hp} {O : OW} {D : DEnds} {Dn : Ends} (k1 : ∀ env' σ' F' O' H', At K mg io F O H env' σ' F' O' H' → D.nx env' → Dn.nx σ' H') (i : Nat) :
    KE K mg io σ F O H (fun d n env1 => D.nx (env1.set i (some ⟨d, n, false⟩))) (fun x H1 => gName i x σ H1 Dn.nx) := by
  intro d n env1 F1 O1 H1 v P A1 T1 r1 h1
  exact k1 _ _ _ _ _ (A1.set T1 r1) h1
theorem ds_setDc (own : List (Str × Nat)) (hc : X.calm = true) (hN : X.N.Nodup) (hi : DI X tg iter it) (ok : BlkOk X.N X.env.scope scope own)
    (hg : ∀ (s : Shared) (H : Hp) (C : Addr) (cl : List (Str × Addr)) (fp : List Addr), DGt (X.blk s H scope (compEnvC scope cl C X.env) fp) tg g)
    (ht : ∀ (s : Shared) (H : Hp) (C : Addr) (cl : List (Str × Addr)) (fp : List Addr), DPTs (X.blk s H scope (compEnvC scope cl C X.env) fp) ifs tt)
    (hk : ∀ (s : Shared) (H : Hp) (C : Addr) (cl : List (Str × Addr)) (fp : List Addr), DE (X.blk s H scope (compEnvC scope cl C X.env) fp) kx tk)
    (he : ∀ (s : Shared) (H : Hp) (C : Addr) (cl : List (Str × Addr)) (fp : List Addr), DE (X.blk s H scope (compEnvC scope cl C X.env) fp) vx tv)
    (hsw : swapsWith (.DictComp kx vx [⟨tg, iter, ifs, 0⟩] scope pos) (some (.Name y py)) spos.line X.env = pure true) (hy : X.N[i]? = some y := by rfl) (hyl : X.env.scope.names.lookup y = some .local := by rfl)
    (hv : own.map (·.2) = vs := by rfl) (hsl : ∀ i ∈ g.slots, i ∈ vs := by decide) (hs : ∀ x, foldedSetIterable iter X.env x = pure x := by intro _; rfl) : DS X (.Assign [.Name y py] (.DictComp kx vx [⟨tg, iter, ifs, 0⟩] scope pos) spos) (sdSet i (eDc it g tt tk tv vs)) := by
  subst hv
  intro W tks
  refine psI (ps_setDc (g := rdG X.K X.mg g) (tt := rdT X.K X.mg tt fun _ _ _ _ => False) (tk := rdE X.K X.mg tk fun _ _ _ _ => False) (tv := rdE X.K X.mg tv fun _ _ _ _ => False) hc hN hy hyl hsw (hi W tks) ok hg (fun s H C cl fp => ht s H C cl fp _ takes00) (fun s H C cl fp => hk s H C cl fp _ takes00) (fun s H C cl fp => he s H C cl fp _ takes00) hs) ?_
  rintro Dn σ H ⟨io, env, F, O, D, I, h, k1, k2, k3, k4, k5⟩
  exact dc_read (W := W) hsl σ H _ ⟨io, env, F, O, _, _, I, h, set_ke k1 i, k5⟩
theorem ds_setDcF (own : List (Str × Nat)) (hc : X.calm = true) (hN : X.N.Nodup) (hi : DI X tg iter it) (ok : BlkOk X.N X.env.scope scope own)
    (hg : ∀ (s : Shared) (H : Hp) (C : Addr) (cl : List (Str × Addr)) (fp : List Addr), DGt (X.blk s H scope (compEnvC scope cl C X.env) fp) tg g)
    (ht : ∀ (s : Shared) (H : Hp) (C : Addr) (cl : List (Str × Addr)) (fp : List Addr), DPTs (X.blk s H scope (compEnvC scope cl C X.env) fp) ifs tt)
    (hk : ∀ (s : Shared) (H : Hp) (C : Addr) (cl : List (Str × Addr)) (fp : List Addr), DE (X.blk s H scope (compEnvC scope cl C X.env) fp) kx tk)
    (he : ∀ (s : Shared) (H : Hp) (C : Addr) (cl : List (Str × Addr)) (fp : List Addr), DE (X.blk s H scope (compEnvC scope cl C X.env) fp) vx tv)
    (hsw : swapsWith (.DictComp kx vx [⟨tg, iter, ifs, 0⟩] scope pos) (some (.Name y py)) spos.line X.env = pure true) (hy : X.N[i]? = some y := by rfl) (hyl : X.env.scope.names.lookup y = some .local := by rfl)
    (hv : own.map (·.2) = vs := by rfl) (hsl : ∀ i ∈ g.slots, i ∈ vs := by decide) (hs : ∀ x, foldedSetIterable iter X.env x = pure x := by intro _; rfl) : DS X (.Assign [.Name y py] (.DictComp kx vx [⟨tg, iter, ifs, 0⟩] scope pos) spos) (sdSet i (eFz (eDc it g tt tk tv vs))) := by
  subst hv
  intro W tks
  refine psI (ps_setDc (g := rdG X.K X.mg g) (tt := rdT X.K X.mg tt fun _ _ _ _ => False) (tk := rdE X.K X.mg tk fun _ _ _ _ => False) (tv := rdE X.K X.mg tv fun _ _ _ _ => False) hc hN hy hyl hsw (hi W tks) ok hg (fun s H C cl fp => ht s H C cl fp _ takes00) (fun s H C cl fp => hk s H C cl fp _ takes00) (fun s H C cl fp => he s H C cl fp _ takes00) hs) ?_
  rintro Dn σ H ⟨io, env, F, O, D, I, h, k1, k2, k3, k4, k5⟩
  exact dc_read (W := W) hsl σ H _ (fz_read σ H _ ⟨io, env, F, O, _, _, I, h, set_ke k1 i, k5⟩)
theorem ds_setLcF (own : List (Str × Nat)) (hc : X.calm = true) (hN : X.N.Nodup) (hi : DI X tg iter it) (ok : BlkOk X.N X.env.scope scope own)
    (hg : ∀ (s : Shared) (H : Hp) (C : Addr) (cl : List (Str × Addr)) (fp : List Addr), DGt (X.blk s H scope (compEnvC scope cl C X.env) fp) tg g)
    (ht : ∀ (s : Shared) (H : Hp) (C : Addr) (cl : List (Str × Addr)) (fp : List Addr), DPTs (X.blk s H scope (compEnvC scope cl C X.env) fp) ifs tt)
    (he : ∀ (s : Shared) (H : Hp) (C : Addr) (cl : List (Str × Addr)) (fp : List Addr), DE (X.blk s H scope (compEnvC scope cl C X.env) fp) elt te)
    (hsw : swapsWith (.ListComp elt [⟨tg, iter, ifs, 0⟩] scope pos) (some (.Name y py)) spos.line X.env = pure true) (hy : X.N[i]? = some y := by rfl) (hyl : X.env.scope.names.lookup y = some .local := by rfl)
    (hv : own.map (·.2) = vs := by rfl) (hsl : ∀ i ∈ g.slots, i ∈ vs := by decide) (hs : ∀ x, foldedSetIterable iter X.env x = pure x := by intro _; rfl) : DS X (.Assign [.Name y py] (.ListComp elt [⟨tg, iter, ifs, 0⟩] scope pos) spos) (sdSet i (eFz (eLc it g tt te vs))) := by
  subst hv
  intro W tk
  refine psI (ps_setLc (g := rdG X.K X.mg g) (tt := rdT X.K X.mg tt fun _ _ _ _ => False) (te := rdE X.K X.mg te fun _ _ _ _ => False) hc hN hy hyl hsw (hi W tk) ok hg (fun s H C cl fp => ht s H C cl fp _ takes00) (fun s H C cl fp => he s H C cl fp _ takes00) hs) ?_
  rintro Dn σ H ⟨io, env, F, O, D, I, h, k1, k2, k3, k4, k5⟩
  exact lc_read (W := W) hsl σ H _ (fz_read σ H _ ⟨io, env, F, O, _, _, I, h, set_ke k1 i, k5⟩)
end
end DL
set_option Elab.async false
set_option linter.all false
set_option maxRecDepth 100000
/-! DM2: the data layer: != of dicts one of which is empty or of another length; small things on dicts. -/
namespace DL
open PySem L2 PySem.Spec PyProof.Rows
def rNeE0 : R2 := fun x y H Q => ∃ (a b : Addr) (ka kb : List (Key × V)), x = .ref a ∧ y = .ref b ∧ Rd H a (.dK ka) ∧ Rd H b (.dK kb) ∧ (ka.length = 0 ∨ ka.length ≠ kb.length) ∧ Q (.bl (!(ka.length == kb.length))) H
theorem op_neE0 {X : Cx} (hu : X.A.units + 64 < cLine) : OpR X (compareOp .NotEq) rNeE0 := by
  intro pins s σ H x y v u Q I rx ry h
  obtain ⟨a, b, ka, kb, rfl, rfl, h1, h2, hl, q⟩ := h
  cases rx
  cases ry
  obtain ⟨z1, lo1, vs1, rel1, dd1⟩ := dk_rd I.hok h1
  obtain ⟨z2, lo2, vs2, rel2, dd2⟩ := dk_rd I.hok h2
  have l1 := rel1.length
  have l2 := rel2.length
  refine PySem.W.keq_ne (r := true) lo1 lo2 dd1 dd2 (by omega) (fun e => ?_) (fin_bl I q (by simp [l1, l2]))
  rcases hl with hl | hl
  · rw [List.length_eq_zero_iff.mp (l1.symm.trans hl)]
    exact .nil
  · exact absurd (l1.trans (e.trans l2.symm)) hl
def rNeE (K : PySem.W.Frag) : R2 := fun x y H Q => rNeA K x y H Q ∨ rNeE0 x y H Q
def odNeE : OT2
  | .dK ka, .dK kb, Q => (ka.length = 0 ∨ ka.length ≠ kb.length) ∧ Q (.bl (!(ka.length == kb.length))) 0
  | x, y, Q => odNe x y Q
section
variable {X : Cx}
theorem op_neE (hu : X.A.units + 64 < cLine) : OpR X (compareOp .NotEq) (rNeE X.K) := (op_neA hu).or (op_neE0 hu)
theorem okNeE : Ok2 X (rNeE X.K) odNeE := by
  intro F H x y v w Q Qh e r1 r2 h k
  have old : odNe x y Q → rNeE X.K v w H Qh := fun h => .inl (okNe F H x y v w Q Qh e r1 r2 h k)
  cases x with
  | dK ka =>
    cases y with
    | dK kb =>
      obtain ⟨a, vs, rfl, g1, g2⟩ := r1
      obtain ⟨b, ws, rfl, t1, t2⟩ := r2
      have l1 : vs.length = ka.length := by have := congrArg List.length (RepK.keys g2).1; simpa using this.symm
      have l2 : ws.length = kb.length := by have := congrArg List.length (RepK.keys t2).1; simpa using this.symm
      exact .inr ⟨a, b, vs, ws, rfl, rfl, rd_mono e g1, rd_mono e t1, by rw [l1, l2]; exact h.1, by rw [l1, l2]; exact k.old (.bl _) _ rfl h.2⟩
    | _ => exact old h
  | _ => exact old h
end
/-! ### dicts made over a list of names -/
theorem look_over {α : Type} (n : α → Int) (g : α → D) {l : List α} {x : α} (hx : x ∈ l) (hd : l.Pairwise fun a b => n a ≠ n b) : lookD (l.map fun y => ((.inl (n y) : Key), g y)) (.inl (n x)) = some (g x) := by
  induction l with
  | nil => cases hx
  | cons y l ih =>
    obtain ⟨h1, h2⟩ := List.pairwise_cons.mp hd
    rw [List.map_cons, lookD_cons]
    rcases List.mem_cons.mp hx with z | z
    · subst z
      rw [if_pos rfl]
    · rw [if_neg (fun w => h1 x z (by injection w)), ih z h2]
theorem look_not {α : Type} (n : α → Int) (g : α → D) (i : Int) : ∀ {l : List α}, (∀ y ∈ l, n y ≠ i) → lookD (l.map fun y => ((.inl (n y) : Key), g y)) (.inl i) = none
  | [], _ => rfl
  | y :: l, h => by
    rw [List.map_cons, lookD_cons, if_neg (fun w => h y List.mem_cons_self (by injection w)), look_not n g i fun z hz => h z (List.mem_cons_of_mem _ hz)]
theorem look_some_over {α : Type} (n : α → Int) (g : α → D) (i : Int) {l : List α} : (lookD (l.map fun y => ((.inl (n y) : Key), g y)) (.inl i)).isSome = l.any fun y => decide (n y = i) := by
  induction l with
  | nil => rfl
  | cons y l ih =>
    rw [List.map_cons, lookD_cons, List.any_cons]
    by_cases h : n y = i
    · rw [h, if_pos rfl, decide_eq_true rfl]; rfl
    · rw [if_neg (fun w => h (by injection w)), ih, decide_eq_false h, Bool.false_or]
/-- a store at a key that stands -/
theorem put_over {α : Type} (n : α → Int) (g : α → D) (i : Int) (v : D) {l : List α} (h : ∃ y ∈ l, n y = i) : putD (l.map fun y => ((.inl (n y) : Key), g y)) (.inl i) v = l.map fun y => ((.inl (n y) : Key), if n y = i then v else g y) := by
  unfold putD
  have ha : ((l.map fun y => ((.inl (n y) : Key), g y)).any fun kv => decide (kv.1 = .inl i)) = true := by
    obtain ⟨y, hy, e⟩ := h
    rw [List.any_eq_true]
    exact ⟨_, List.mem_map.mpr ⟨y, hy, rfl⟩, by rw [e]; exact decide_eq_true rfl⟩
  rw [ha]
  show (l.map fun y => ((.inl (n y) : Key), g y)).map _ = _
  rw [List.map_map]
  refine List.map_congr_left fun y _ => ?_
  by_cases h : n y = i
  · simp [h]
  · have : ¬ (Sum.inl (n y) : Key) = .inl i := fun w => h (by injection w)
    simp [h]
/-- a store at a new key -/
theorem put_new {α : Type} (n : α → Int) (g : α → D) {l : List α} {x : α} (h : ∀ y ∈ l, n y ≠ n x) : putD (l.map fun y => ((.inl (n y) : Key), g y)) (.inl (n x)) (g x) = (l ++ [x]).map fun y => ((.inl (n y) : Key), g y) := by
  unfold putD
  have ha : ((l.map fun y => ((.inl (n y) : Key), g y)).any fun kv => decide (kv.1 = .inl (n x))) = false := by
    rw [List.any_eq_false]
    intro kv hk
    obtain ⟨y, hy, rfl⟩ := List.mem_map.mp hk
    have : ¬ (Sum.inl (n y) : Key) = .inl (n x) := fun w => h y hy (by injection w)
    simp [this]
  rw [ha, List.map_append]
  rfl
/-- a dict comprehension with keys that are all unlike -/
theorem dc_new {α : Type} {g : Tg} {tk tv : ET} {vs : List Nat} {E : DEnv} (inj : α → D) (n : α → Int) (f : α → D) {Q : QE} : ∀ (xs done : List α), xs.length + done.length ≤ 1000 → (done ++ xs).Pairwise (fun a b => n a ≠ n b) →
    (∀ x ∈ xs, ∀ (A : Key → D → DEnv → Prop), A (.inl (n x)) (f x) E →
      bindT g (inj x) E fun env1 => tk env1 (fun k _ env3 => tv env3 (fun v _ env4 => match keyD k with | some key => A key v (wipeD env4 vs) | none => False) noX) noX) →
    Q (.dK ((done ++ xs).map fun y => ((.inl (n y) : Key), f y))) 1 E → dcD g ttYes tk tv vs (xs.map inj) (done.map fun y => ((.inl (n y) : Key), f y)) E Q
  | [], done, _, _, _, k => by
    rw [List.append_nil] at k
    exact k
  | x :: xs, done, hl, hp, hs, k => by
    have hl' : xs.length + done.length + 1 ≤ 1000 := by simp at hl; omega
    have fresh : ∀ y ∈ done, n y ≠ n x := fun y hy => (List.pairwise_append.mp hp).2.2 y hy x List.mem_cons_self
    refine hs x List.mem_cons_self (fun key v e => (done.map fun y => ((.inl (n y) : Key), f y)).length < sizeLine ∧ dcD g ttYes tk tv vs (xs.map inj) (putD (done.map fun y => ((.inl (n y) : Key), f y)) key v) e Q) ⟨ms_lt (by rw [List.length_map]; omega), ?_⟩
    rw [put_new n f fresh]
    refine dc_new inj n f xs (done ++ [x]) (by simp; omega) (by rw [List.append_assoc]; exact hp) (fun y hy => hs y (List.mem_cons_of_mem _ hy)) ?_
    rw [List.append_assoc]
    exact k
theorem look_mem {κ : Type} [DecidableEq κ] (k : κ) : ∀ kvs : List (κ × D), (lookD kvs k).isSome = decide (k ∈ kvs.map (·.1))
  | [] => rfl
  | (k0, d) :: r => by
    rw [lookD_cons, List.map_cons]
    by_cases h : k0 = k
    · rw [if_pos h, h]; simp
    · rw [if_neg h, look_mem k r]
      simp [show ¬ k = k0 from fun z => h z.symm]
theorem enum_get {ds : List D} {i : Nat} {x : D} (h : (enumD ds)[i]? = some x) : i < ds.length ∧ x = .tup [.int (i : Int), ds.getD i .non] := by
  unfold enumD at h
  obtain ⟨j, hj, rfl⟩ := get_map h
  obtain ⟨h1, h2⟩ := List.getElem?_eq_some_iff.mp hj
  rw [List.length_range] at h1
  rw [List.getElem_range] at h2
  subst h2
  exact ⟨h1, rfl⟩
end DL
set_option Elab.async false
set_option linter.all false
set_option maxRecDepth 100000
set_option maxHeartbeats 4000000
/-! what gen.py has printed of the text: slots, transformers, derivations -/
namespace K77
open PySem L2 PySem.Spec PyProof.Rows DL
def top (i : Nat) : Stmt := PySem.Challenge.pw_sparehouses_k77_falls.main.body.getD i (.Pass ⟨0, 0, 0, 0⟩)
abbrev s_is_integer : Stmt := top 9
abbrev ms_is_integer : Ms := [none]
abbrev s_is_within : Stmt := top 10
abbrev ms_is_within : Ms := [none, none, none]
abbrev s_is_row : Stmt := top 11
abbrev ms_is_row : Ms := [none]
abbrev s_is_text : Stmt := top 12
abbrev ms_is_text : Ms := [none]
abbrev s_is_label : Stmt := top 13
abbrev ms_is_label : Ms := [none]
abbrev s_is_tag : Stmt := top 14
abbrev ms_is_tag : Ms := [none]
abbrev s_is_moment : Stmt := top 15
abbrev ms_is_moment : Ms := [none]
abbrev s_is_entry : Stmt := top 23
abbrev ms_is_entry : Ms := [none]
abbrev s_checked_entries : Stmt := top 24
abbrev ms_checked_entries : Ms := [none]
abbrev s_is_keeping_rule : Stmt := top 25
abbrev ms_is_keeping_rule : Ms := [none]
abbrev s_checked_rules : Stmt := top 26
abbrev ms_checked_rules : Ms := [none]
abbrev s_newest_of_periods : Stmt := top 27
abbrev ms_newest_of_periods : Ms := [none, none, none]
abbrev s_places_kept : Stmt := top 28
abbrev ms_places_kept : Ms := [none, none]
abbrev s_reasons_in : Stmt := top 29
abbrev ms_reasons_in : Ms := [none, none]
abbrev s_left_behind : Stmt := top 32
abbrev ms_left_behind : Ms := [none, none]
abbrev s_checked_later : Stmt := top 33
abbrev ms_checked_later : Ms := [none, none]
abbrev s_falls : Stmt := top 34
abbrev ms_falls : Ms := [none, none, none]
abbrev s__law_taken : Stmt := top 36
abbrev ms__law_taken : Ms := [some 1, none]
abbrev s__law_pick : Stmt := top 37
abbrev ms__law_pick : Ms := [some 1, none]
abbrev s__law_by : Stmt := top 38
abbrev ms__law_by : Ms := [none, none]
abbrev s__law_due : Stmt := top 39
abbrev ms__law_due : Ms := [none, none]
abbrev s__law_step : Stmt := top 40
abbrev ms__law_step : Ms := [some 1]
abbrev s__law_label : Stmt := top 41
abbrev ms__law_label : Ms := [some 1]
abbrev s__law_entries : Stmt := top 42
abbrev ms__law_entries : Ms := [some 1, none, none]
abbrev s__law_rule : Stmt := top 43
abbrev ms__law_rule : Ms := [some 1, none, none, none]
abbrev s__law_rules : Stmt := top 44
abbrev ms__law_rules : Ms := [some 1, none, none, none]
abbrev s__law_alike : Stmt := top 45
abbrev ms__law_alike : Ms := [none, none]
abbrev s__law_later : Stmt := top 46
abbrev ms__law_later : Ms := [some 1, none, none]
abbrev s__law_falls : Stmt := top 47
abbrev ms__law_falls : Ms := [none, none, none]
abbrev s_law : Stmt := top 48
abbrev ms_law : Ms := [none]
abbrev N_is_integer : List Str := ["thing"]
theorem sc_is_integer : FnScope N_is_integer ["thing"] (defScope s_is_integer) := ⟨rfl, rfl, rfl, by decide +kernel, rfl, by decide +kernel, by decide +kernel⟩
def t_is_integer : SD :=
    sdRet (eAnd (eP (pIs (pVar 0) [.int])) (eNot (eP (pIs (pVar 0) [.bool]))))
theorem d_is_integer {P : Program} {w : World} {K : PySem.W.Frag} {mg : MG} {base : Heap} {k : Nat} (B : Blt mg) (f : Addr) (cdv : Value) (A : Around) (outer : List Env) (s : Shared) (H : Hp) (E : XK) (hr : Room k (A.deeper (envOfC "is_integer" (defScope s_is_integer) s.heap.objs.size f cdv))) :
    DSs (cxOf (L2.CX P w) P w K mg base N_is_integer "is_integer" (defScope s_is_integer) f cdv A outer s H E) (defBody s_is_integer) (t_is_integer) :=
  have hu := hu_of hr
  dss_one (ds_ret (de_and (de_pu (pu_is (pu_var 0) (kd_int B) B.isinstance boot_isinstance)) (de_one (de_not (de_pu (pu_is (pu_var 0) (kd_bool B) B.isinstance boot_isinstance))))))
theorem c_is_integer {P : Program} {w : World} {K : PySem.W.Frag} {mg : MG} {base : Heap} {k : Nat} {S : DSp} (Fu : FunAt K mg "is_integer" s_is_integer) (B : Blt mg) (hs : ∀ ds post, S ds post → ds.length = ms_is_integer.length → t_is_integer (env0 ms_is_integer ds N_is_integer.length) (endsOf ms_is_integer post)) : Cal P w K mg base "is_integer" s_is_integer (k + 1) ["thing"] ms_is_integer S :=
  cal_mk Fu sc_is_integer rfl (fun _ _ _ _ _ _ us hl => match us, hl with | [_], _ => rfl) (d_is_integer B) hs
abbrev N_is_within : List Str := ["thing", "least", "most"]
theorem sc_is_within : FnScope N_is_within ["thing", "least", "most"] (defScope s_is_within) := ⟨rfl, rfl, rfl, by decide +kernel, rfl, by decide +kernel, by decide +kernel⟩
def t_is_within (S_is_integer : DSp) : SD :=
    sdRet (eAnd (eCall ms_is_integer S_is_integer [] (gaVal (eVar 0) (gaNil))) (eP (pChain odLe odLe (pVar 1) (pVar 0) (pVar 2))))
theorem d_is_within {P : Program} {w : World} {K : PySem.W.Frag} {mg : MG} {base : Heap} {k : Nat} {S_is_integer : DSp} (B : Blt mg) (C_is_integer : Cal P w K mg base "is_integer" s_is_integer k ["thing"] ms_is_integer S_is_integer) (f : Addr) (cdv : Value) (A : Around) (outer : List Env) (s : Shared) (H : Hp) (E : XK) (hr : Room k (A.deeper (envOfC "is_within" (defScope s_is_within) s.heap.objs.size f cdv))) :
    DSs (cxOf (L2.CX P w) P w K mg base N_is_within "is_within" (defScope s_is_within) f cdv A outer s H E) (defBody s_is_within) (t_is_within S_is_integer) :=
  have hu := hu_of hr
  dss_one (ds_ret (de_and (dc_call C_is_integer hr (dg_val (de_var 0) (dg_nil))) (de_one (de_pu (pu_chain (op_leD) (op_leD) okCmp okCmp (pu_var 1) (pu_var 0) (pu_var 2))))))
theorem c_is_within {P : Program} {w : World} {K : PySem.W.Frag} {mg : MG} {base : Heap} {k : Nat} {S_is_integer : DSp} {S : DSp} (Fu : FunAt K mg "is_within" s_is_within) (B : Blt mg) (C_is_integer : Cal P w K mg base "is_integer" s_is_integer k ["thing"] ms_is_integer S_is_integer) (hs : ∀ ds post, S ds post → ds.length = ms_is_within.length → t_is_within S_is_integer (env0 ms_is_within ds N_is_within.length) (endsOf ms_is_within post)) : Cal P w K mg base "is_within" s_is_within (k + 1) ["thing", "least", "most"] ms_is_within S :=
  cal_mk Fu sc_is_within rfl (fun _ _ _ _ _ _ us hl => match us, hl with | [_, _, _], _ => rfl) (d_is_within B C_is_integer) hs
abbrev N_is_row : List Str := ["thing"]
theorem sc_is_row : FnScope N_is_row ["thing"] (defScope s_is_row) := ⟨rfl, rfl, rfl, by decide +kernel, rfl, by decide +kernel, by decide +kernel⟩
def t_is_row : SD :=
    sdRet (eP (pIs (pVar 0) [.list, .tuple]))
theorem d_is_row {P : Program} {w : World} {K : PySem.W.Frag} {mg : MG} {base : Heap} {k : Nat} (B : Blt mg) (f : Addr) (cdv : Value) (A : Around) (outer : List Env) (s : Shared) (H : Hp) (E : XK) (hr : Room k (A.deeper (envOfC "is_row" (defScope s_is_row) s.heap.objs.size f cdv))) :
    DSs (cxOf (L2.CX P w) P w K mg base N_is_row "is_row" (defScope s_is_row) f cdv A outer s H E) (defBody s_is_row) (t_is_row) :=
  have hu := hu_of hr
  dss_one (ds_ret (de_pu (pu_isT (pu_var 0) (.cons (kd_list B) (.cons (kd_tuple B) (.nil) rfl) rfl) (show 2 ≤ sizeLine by decide) B.isinstance boot_isinstance)))
theorem c_is_row {P : Program} {w : World} {K : PySem.W.Frag} {mg : MG} {base : Heap} {k : Nat} {S : DSp} (Fu : FunAt K mg "is_row" s_is_row) (B : Blt mg) (hs : ∀ ds post, S ds post → ds.length = ms_is_row.length → t_is_row (env0 ms_is_row ds N_is_row.length) (endsOf ms_is_row post)) : Cal P w K mg base "is_row" s_is_row (k + 1) ["thing"] ms_is_row S :=
  cal_mk Fu sc_is_row rfl (fun _ _ _ _ _ _ us hl => match us, hl with | [_], _ => rfl) (d_is_row B) hs
abbrev N_is_text : List Str := ["thing", "sign"]
theorem sc_is_text : FnScope N_is_text ["thing"] (defScope s_is_text) := ⟨rfl, rfl, rfl, by decide +kernel, rfl, by decide +kernel, by decide +kernel⟩
def e_is_text_1 : ET :=
    eP (tP2 odIn (pVar 1) (pC (.str (" !\"#$&'()*+,-./0123456789:;<=>?@ABCDEFGHIJKLMNOPQRSTUVWXYZ[\\]^_`abcdefghijklmnopqrstuvwxyz{|}~" : Str))))
def t_is_text : SD :=
    sdRet (eAnd (eP (pIs (pVar 0) [.str])) (tON odAll (aCons (eLc (itSeq (eVar 0)) (.nm 1) (ttYes) (e_is_text_1) [1]) aNil)))
theorem d_is_text {P : Program} {w : World} {K : PySem.W.Frag} {mg : MG} {base : Heap} {k : Nat} (B : Blt mg) (G_SIGNS : GlD mg "SIGNS" (.str (" !\"#$&'()*+,-./0123456789:;<=>?@ABCDEFGHIJKLMNOPQRSTUVWXYZ[\\]^_`abcdefghijklmnopqrstuvwxyz{|}~" : Str))) (f : Addr) (cdv : Value) (A : Around) (outer : List Env) (s : Shared) (H : Hp) (E : XK) (hr : Room k (A.deeper (envOfC "is_text" (defScope s_is_text) s.heap.objs.size f cdv))) :
    DSs (cxOf (L2.CX P w) P w K mg base N_is_text "is_text" (defScope s_is_text) f cdv A outer s H E) (defBody s_is_text) (t_is_text) :=
  have hu := hu_of hr
  dss_one (ds_ret (de_and (de_pu (pu_is (pu_var 0) (kd_str B) B.isinstance boot_isinstance)) (de_one (de_allc rfl B (de_lc [(("sign" : Str), 1)] rfl sc_is_text.nd (di_seq (de_var 0)) (blkOk_by (N := N_is_text) (sc := defScope s_is_text) (by decide +kernel)) (fun _ _ _ _ _ => dgt_nm 1 sc_is_text.nd) (fun _ _ _ _ _ => dpts_nil) (fun _ _ _ _ _ => de_pu (pu_cmp (op_inA hu) okIn (pu_var 1) (pu_gd G_SIGNS) (by with_unfolding_all rfl))))))))
theorem c_is_text {P : Program} {w : World} {K : PySem.W.Frag} {mg : MG} {base : Heap} {k : Nat} {S : DSp} (Fu : FunAt K mg "is_text" s_is_text) (B : Blt mg) (G_SIGNS : GlD mg "SIGNS" (.str (" !\"#$&'()*+,-./0123456789:;<=>?@ABCDEFGHIJKLMNOPQRSTUVWXYZ[\\]^_`abcdefghijklmnopqrstuvwxyz{|}~" : Str))) (hs : ∀ ds post, S ds post → ds.length = ms_is_text.length → t_is_text (env0 ms_is_text ds N_is_text.length) (endsOf ms_is_text post)) : Cal P w K mg base "is_text" s_is_text (k + 1) ["thing"] ms_is_text S :=
  cal_mk Fu sc_is_text rfl (fun _ _ _ _ _ _ us hl => match us, hl with | [_], _ => rfl) (d_is_text B G_SIGNS) hs
abbrev N_is_label : List Str := ["thing"]
theorem sc_is_label : FnScope N_is_label ["thing"] (defScope s_is_label) := ⟨rfl, rfl, rfl, by decide +kernel, rfl, by decide +kernel, by decide +kernel⟩
def t_is_label (S_is_text : DSp) : SD :=
    sdRet (eAnd (eCall ms_is_text S_is_text [] (gaVal (eVar 0) (gaNil))) (eP (tP2 odLe (tPN odLen (apCons (pVar 0) apNil)) (pC (.int 20)))))
theorem d_is_label {P : Program} {w : World} {K : PySem.W.Frag} {mg : MG} {base : Heap} {k : Nat} {S_is_text : DSp} (B : Blt mg) (G_MOST_LABEL : GlD mg "MOST_LABEL" (.int 20)) (C_is_text : Cal P w K mg base "is_text" s_is_text k ["thing"] ms_is_text S_is_text) (f : Addr) (cdv : Value) (A : Around) (outer : List Env) (s : Shared) (H : Hp) (E : XK) (hr : Room k (A.deeper (envOfC "is_label" (defScope s_is_label) s.heap.objs.size f cdv))) :
    DSs (cxOf (L2.CX P w) P w K mg base N_is_label "is_label" (defScope s_is_label) f cdv A outer s H E) (defBody s_is_label) (t_is_label S_is_text) :=
  have hu := hu_of hr
  dss_one (ds_ret (de_and (dc_call C_is_text hr (dg_val (de_var 0) (dg_nil))) (de_one (de_pu (pu_cmp (op_leD) okCmp (pu_len B (pu_var 0)) (pu_gd G_MOST_LABEL) (nomark _))))))
theorem c_is_label {P : Program} {w : World} {K : PySem.W.Frag} {mg : MG} {base : Heap} {k : Nat} {S_is_text : DSp} {S : DSp} (Fu : FunAt K mg "is_label" s_is_label) (B : Blt mg) (G_MOST_LABEL : GlD mg "MOST_LABEL" (.int 20)) (C_is_text : Cal P w K mg base "is_text" s_is_text k ["thing"] ms_is_text S_is_text) (hs : ∀ ds post, S ds post → ds.length = ms_is_label.length → t_is_label S_is_text (env0 ms_is_label ds N_is_label.length) (endsOf ms_is_label post)) : Cal P w K mg base "is_label" s_is_label (k + 1) ["thing"] ms_is_label S :=
  cal_mk Fu sc_is_label rfl (fun _ _ _ _ _ _ us hl => match us, hl with | [_], _ => rfl) (d_is_label B G_MOST_LABEL C_is_text) hs
abbrev N_is_tag : List Str := ["thing"]
theorem sc_is_tag : FnScope N_is_tag ["thing"] (defScope s_is_tag) := ⟨rfl, rfl, rfl, by decide +kernel, rfl, by decide +kernel, by decide +kernel⟩
def t_is_tag (S_is_label : DSp) : SD :=
    sdRet (eAnd (eCall ms_is_label S_is_label [] (gaVal (eVar 0) (gaNil))) (eP (tP2 odNe (pVar 0) (pC (.str ("" : Str))))))
theorem d_is_tag {P : Program} {w : World} {K : PySem.W.Frag} {mg : MG} {base : Heap} {k : Nat} {S_is_label : DSp} (B : Blt mg) (C_is_label : Cal P w K mg base "is_label" s_is_label k ["thing"] ms_is_label S_is_label) (f : Addr) (cdv : Value) (A : Around) (outer : List Env) (s : Shared) (H : Hp) (E : XK) (hr : Room k (A.deeper (envOfC "is_tag" (defScope s_is_tag) s.heap.objs.size f cdv))) :
    DSs (cxOf (L2.CX P w) P w K mg base N_is_tag "is_tag" (defScope s_is_tag) f cdv A outer s H E) (defBody s_is_tag) (t_is_tag S_is_label) :=
  have hu := hu_of hr
  dss_one (ds_ret (de_and (dc_call C_is_label hr (dg_val (de_var 0) (dg_nil))) (de_one (de_pu (pu_cmp (op_neA hr.units) okNe (pu_var 0) (pu_str) (nomark _))))))
theorem c_is_tag {P : Program} {w : World} {K : PySem.W.Frag} {mg : MG} {base : Heap} {k : Nat} {S_is_label : DSp} {S : DSp} (Fu : FunAt K mg "is_tag" s_is_tag) (B : Blt mg) (C_is_label : Cal P w K mg base "is_label" s_is_label k ["thing"] ms_is_label S_is_label) (hs : ∀ ds post, S ds post → ds.length = ms_is_tag.length → t_is_tag S_is_label (env0 ms_is_tag ds N_is_tag.length) (endsOf ms_is_tag post)) : Cal P w K mg base "is_tag" s_is_tag (k + 1) ["thing"] ms_is_tag S :=
  cal_mk Fu sc_is_tag rfl (fun _ _ _ _ _ _ us hl => match us, hl with | [_], _ => rfl) (d_is_tag B C_is_label) hs
abbrev N_is_moment : List Str := ["thing"]
theorem sc_is_moment : FnScope N_is_moment ["thing"] (defScope s_is_moment) := ⟨rfl, rfl, rfl, by decide +kernel, rfl, by decide +kernel, by decide +kernel⟩
def t_is_moment (S_is_within : DSp) : SD :=
    sdRet (eCall ms_is_within S_is_within [] (gaVal (eVar 0) (gaVal (eP (pC (.int 0))) (gaVal (eP (pC (.int 1000000000000))) (gaNil)))))
theorem d_is_moment {P : Program} {w : World} {K : PySem.W.Frag} {mg : MG} {base : Heap} {k : Nat} {S_is_within : DSp} (B : Blt mg) (G_MOST_MOMENT : GlD mg "MOST_MOMENT" (.int 1000000000000)) (C_is_within : Cal P w K mg base "is_within" s_is_within k ["thing", "least", "most"] ms_is_within S_is_within) (f : Addr) (cdv : Value) (A : Around) (outer : List Env) (s : Shared) (H : Hp) (E : XK) (hr : Room k (A.deeper (envOfC "is_moment" (defScope s_is_moment) s.heap.objs.size f cdv))) :
    DSs (cxOf (L2.CX P w) P w K mg base N_is_moment "is_moment" (defScope s_is_moment) f cdv A outer s H E) (defBody s_is_moment) (t_is_moment S_is_within) :=
  have hu := hu_of hr
  dss_one (ds_ret (dc_call C_is_within hr (dg_val (de_var 0) (dg_val (de_pu (pu_int)) (dg_val (de_pu (pu_gd G_MOST_MOMENT)) (dg_nil))))))
theorem c_is_moment {P : Program} {w : World} {K : PySem.W.Frag} {mg : MG} {base : Heap} {k : Nat} {S_is_within : DSp} {S : DSp} (Fu : FunAt K mg "is_moment" s_is_moment) (B : Blt mg) (G_MOST_MOMENT : GlD mg "MOST_MOMENT" (.int 1000000000000)) (C_is_within : Cal P w K mg base "is_within" s_is_within k ["thing", "least", "most"] ms_is_within S_is_within) (hs : ∀ ds post, S ds post → ds.length = ms_is_moment.length → t_is_moment S_is_within (env0 ms_is_moment ds N_is_moment.length) (endsOf ms_is_moment post)) : Cal P w K mg base "is_moment" s_is_moment (k + 1) ["thing"] ms_is_moment S :=
  cal_mk Fu sc_is_moment rfl (fun _ _ _ _ _ _ us hl => match us, hl with | [_], _ => rfl) (d_is_moment B G_MOST_MOMENT C_is_within) hs
abbrev N_is_entry : List Str := ["thing", "number", "moment", "tags", "tag"]
theorem sc_is_entry : FnScope N_is_entry ["thing"] (defScope s_is_entry) := ⟨rfl, rfl, rfl, by decide +kernel, rfl, by decide +kernel, by decide +kernel⟩
def e_is_entry_1 (S_is_within : DSp) (S_is_moment : DSp) (S_is_row : DSp) (S_is_label : DSp) : ET :=
    eCall ms_is_label S_is_label [] (gaVal (eVar 4) (gaNil))
def t_is_entry (S_is_within : DSp) (S_is_moment : DSp) (S_is_row : DSp) (S_is_label : DSp) : SD :=
    sdSeq (sdIf (ttOr (ttNot (ttPB (pIs (pVar 0) [.tuple]))) (ttPB (tP2 odNe (tPN odLen (apCons (pVar 0) apNil)) (pC (.int 3)))))
    (sdRet (eP (pC (.bl false))))
    (sdNil))
    (sdSeq (sdAsg (.tu [.nm 1, .nm 2, .nm 3]) (eVar 0))
    (sdSeq (sdIf (ttOr (ttNot (ttB (eCall ms_is_within S_is_within [] (gaVal (eVar 1) (gaVal (eP (pC (.int 0))) (gaVal (eP (pC (.int 1000000000))) (gaNil))))))) (ttNot (ttB (eCall ms_is_moment S_is_moment [] (gaVal (eVar 2) (gaNil))))))
    (sdRet (eP (pC (.bl false))))
    (sdNil))
    (sdRet (eAnd (eCall ms_is_row S_is_row [] (gaVal (eVar 3) (gaNil))) (tON odAll (aCons (eLc (itSeq (eVar 3)) (.nm 4) (ttYes) (e_is_entry_1 S_is_within S_is_moment S_is_row S_is_label) [4]) aNil))))))
theorem d_is_entry {P : Program} {w : World} {K : PySem.W.Frag} {mg : MG} {base : Heap} {k : Nat} {S_is_within : DSp} {S_is_moment : DSp} {S_is_row : DSp} {S_is_label : DSp} (B : Blt mg) (G_MOST_ENTRY : GlD mg "MOST_ENTRY" (.int 1000000000)) (C_is_within : Cal P w K mg base "is_within" s_is_within k ["thing", "least", "most"] ms_is_within S_is_within) (C_is_moment : Cal P w K mg base "is_moment" s_is_moment k ["thing"] ms_is_moment S_is_moment) (C_is_row : Cal P w K mg base "is_row" s_is_row k ["thing"] ms_is_row S_is_row) (C_is_label : Cal P w K mg base "is_label" s_is_label k ["thing"] ms_is_label S_is_label) (f : Addr) (cdv : Value) (A : Around) (outer : List Env) (s : Shared) (H : Hp) (E : XK) (hr : Room k (A.deeper (envOfC "is_entry" (defScope s_is_entry) s.heap.objs.size f cdv))) :
    DSs (cxOf (L2.CX P w) P w K mg base N_is_entry "is_entry" (defScope s_is_entry) f cdv A outer s H E) (defBody s_is_entry) (t_is_entry S_is_within S_is_moment S_is_row S_is_label) :=
  have hu := hu_of hr
  dss_cons (ds_if ((dt_or (dt_not (dt_pu (pu_is (pu_var 0) (kd_tuple B) B.isinstance boot_isinstance))) (dt_or1 (dt_cmp (op_neA hr.units) okNe (pu_len B (pu_var 0)) (pu_int) (nomark _)))).dt)
    (dss_one (ds_ret (de_pu (pu_bl))))
    (dss_nil))
    (dss_cons (ds_asg (de_var 0) (dgt_tu rfl (dgts_cons (dgt_nm 1 sc_is_entry.nd) (dgts_cons (dgt_nm 2 sc_is_entry.nd) (dgts_cons (dgt_nm 3 sc_is_entry.nd) (dgts_nil))))))
    (dss_cons (ds_if ((dt_or (dt_not (dt_val (dc_call C_is_within hr (dg_val (de_var 1) (dg_val (de_pu (pu_int)) (dg_val (de_pu (pu_gd G_MOST_ENTRY)) (dg_nil))))))) (dt_or1 (dt_not (dt_val (dc_call C_is_moment hr (dg_val (de_var 2) (dg_nil))))))).dt)
    (dss_one (ds_ret (de_pu (pu_bl))))
    (dss_nil))
    (dss_one (ds_ret (de_and (dc_call C_is_row hr (dg_val (de_var 3) (dg_nil))) (de_one (de_allc rfl B (de_lc [(("tag" : Str), 4)] rfl sc_is_entry.nd (di_seq (de_var 3)) (blkOk_by (N := N_is_entry) (sc := defScope s_is_entry) (by decide +kernel)) (fun _ _ _ _ _ => dgt_nm 4 sc_is_entry.nd) (fun _ _ _ _ _ => dpts_nil) (fun _ _ _ _ _ => dc_call C_is_label hr (dg_val (de_var 4) (dg_nil)))))))))))
theorem c_is_entry {P : Program} {w : World} {K : PySem.W.Frag} {mg : MG} {base : Heap} {k : Nat} {S_is_within : DSp} {S_is_moment : DSp} {S_is_row : DSp} {S_is_label : DSp} {S : DSp} (Fu : FunAt K mg "is_entry" s_is_entry) (B : Blt mg) (G_MOST_ENTRY : GlD mg "MOST_ENTRY" (.int 1000000000)) (C_is_within : Cal P w K mg base "is_within" s_is_within k ["thing", "least", "most"] ms_is_within S_is_within) (C_is_moment : Cal P w K mg base "is_moment" s_is_moment k ["thing"] ms_is_moment S_is_moment) (C_is_row : Cal P w K mg base "is_row" s_is_row k ["thing"] ms_is_row S_is_row) (C_is_label : Cal P w K mg base "is_label" s_is_label k ["thing"] ms_is_label S_is_label) (hs : ∀ ds post, S ds post → ds.length = ms_is_entry.length → t_is_entry S_is_within S_is_moment S_is_row S_is_label (env0 ms_is_entry ds N_is_entry.length) (endsOf ms_is_entry post)) : Cal P w K mg base "is_entry" s_is_entry (k + 1) ["thing"] ms_is_entry S :=
  cal_mk Fu sc_is_entry rfl (fun _ _ _ _ _ _ us hl => match us, hl with | [_], _ => rfl) (d_is_entry B G_MOST_ENTRY C_is_within C_is_moment C_is_row C_is_label) hs
abbrev N_checked_entries : List Str := ["entries", "index", "entry"]
theorem sc_checked_entries : FnScope N_checked_entries ["entries"] (defScope s_checked_entries) := ⟨rfl, rfl, rfl, by decide +kernel, rfl, by decide +kernel, by decide +kernel⟩
def b_checked_entries_1 (S_is_row : DSp) (S_is_entry : DSp) : SD :=
    sdSeq (sdIf (ttNot (ttB (eCall ms_is_entry S_is_entry [] (gaVal (eVar 2) (gaNil)))))
    (sdNever)
    (sdNil))
    (sdIf (ttAnd (ttPB (tP2 odGt (pVar 1) (pC (.int 0)))) (ttOr (ttPB (tP2 odLe (tP2 odIx (pVar 2) (pC (.int 0))) (tP2 odIx (tP2 odIx (pVar 0) (tP2 odSub (pVar 1) (pC (.int 1)))) (pC (.int 0))))) (ttPB (tP2 odLe (tP2 odIx (pVar 2) (pC (.int 1))) (tP2 odIx (tP2 odIx (pVar 0) (tP2 odSub (pVar 1) (pC (.int 1)))) (pC (.int 1)))))))
    (sdNever)
    (sdNil))
def t_checked_entries (S_is_row : DSp) (S_is_entry : DSp) : SD :=
    sdSeq (sdIf (ttOr (ttNot (ttB (eCall ms_is_row S_is_row [] (gaVal (eVar 0) (gaNil))))) (ttPB (tP2 odGt (tPN odLen (apCons (pVar 0) apNil)) (pC (.int 60)))))
    (sdNever)
    (sdNil))
    (sdSeq (sdFor (itN odEnumA (aCons (eVar 0) (aNil))) (.tu [.nm 1, .nm 2])
    (b_checked_entries_1 S_is_row S_is_entry))
    (sdRet (tON odList (aCons (eVar 0) aNil))))
theorem d_checked_entries {P : Program} {w : World} {K : PySem.W.Frag} {mg : MG} {base : Heap} {k : Nat} {S_is_row : DSp} {S_is_entry : DSp} (B : Blt mg) (G_MOST_ENTRIES : GlD mg "MOST_ENTRIES" (.int 60)) (C_is_row : Cal P w K mg base "is_row" s_is_row k ["thing"] ms_is_row S_is_row) (C_is_entry : Cal P w K mg base "is_entry" s_is_entry k ["thing"] ms_is_entry S_is_entry) (f : Addr) (cdv : Value) (A : Around) (outer : List Env) (s : Shared) (H : Hp) (E : XK) (hr : Room k (A.deeper (envOfC "checked_entries" (defScope s_checked_entries) s.heap.objs.size f cdv))) :
    DSs (cxOf (L2.CX P w) P w K mg base N_checked_entries "checked_entries" (defScope s_checked_entries) f cdv A outer s H E) (defBody s_checked_entries) (t_checked_entries S_is_row S_is_entry) :=
  have hu := hu_of hr
  dss_cons (ds_if ((dt_or (dt_not (dt_val (dc_call C_is_row hr (dg_val (de_var 0) (dg_nil))))) (dt_or1 (dt_cmp (op_gtD) okCmp (pu_len B (pu_var 0)) (pu_gd G_MOST_ENTRIES) (nomark _)))).dt)
    (dss_one (ds_never))
    (dss_nil))
    (dss_cons (ds_for (passes_of rfl) rfl (di_enum B.enumerate (da_cons (de_var 0) (da_nil))) (dgt_tu rfl (dgts_cons (dgt_nm 1 sc_checked_entries.nd) (dgts_cons (dgt_nm 2 sc_checked_entries.nd) (dgts_nil))))
    (dss_cons (ds_if (dt_not (dt_val (dc_call C_is_entry hr (dg_val (de_var 2) (dg_nil)))))
    (dss_one (ds_never))
    (dss_nil))
    (dss_one (ds_if ((dt_and (dt_cmp (op_gtD) okCmp (pu_var 1) (pu_int) (nomark _)) (dt_and1 ((dt_or (dt_cmp (op_leD) okCmp (pu_ix hu (pu_var 2) (pu_int)) (pu_ix hu (pu_ix hu (pu_var 0) (pu_sub (pu_var 1) (pu_int))) (pu_int)) (nomark _)) (dt_or1 (dt_cmp (op_leD) okCmp (pu_ix hu (pu_var 2) (pu_int)) (pu_ix hu (pu_ix hu (pu_var 0) (pu_sub (pu_var 1) (pu_int))) (pu_int)) (nomark _)))).dt))).dt)
    (dss_one (ds_never))
    (dss_nil)))))
    (dss_one (ds_ret (de_list rfl B (de_var 0)))))
theorem c_checked_entries {P : Program} {w : World} {K : PySem.W.Frag} {mg : MG} {base : Heap} {k : Nat} {S_is_row : DSp} {S_is_entry : DSp} {S : DSp} (Fu : FunAt K mg "checked_entries" s_checked_entries) (B : Blt mg) (G_MOST_ENTRIES : GlD mg "MOST_ENTRIES" (.int 60)) (C_is_row : Cal P w K mg base "is_row" s_is_row k ["thing"] ms_is_row S_is_row) (C_is_entry : Cal P w K mg base "is_entry" s_is_entry k ["thing"] ms_is_entry S_is_entry) (hs : ∀ ds post, S ds post → ds.length = ms_checked_entries.length → t_checked_entries S_is_row S_is_entry (env0 ms_checked_entries ds N_checked_entries.length) (endsOf ms_checked_entries post)) : Cal P w K mg base "checked_entries" s_checked_entries (k + 1) ["entries"] ms_checked_entries S :=
  cal_mk Fu sc_checked_entries rfl (fun _ _ _ _ _ _ us hl => match us, hl with | [_], _ => rfl) (d_checked_entries B G_MOST_ENTRIES C_is_row C_is_entry) hs
abbrev N_is_keeping_rule : List Str := ["thing"]
theorem sc_is_keeping_rule : FnScope N_is_keeping_rule ["thing"] (defScope s_is_keeping_rule) := ⟨rfl, rfl, rfl, by decide +kernel, rfl, by decide +kernel, by decide +kernel⟩
def t_is_keeping_rule (S_is_within : DSp) (S_is_tag : DSp) : SD :=
    sdSeq (sdIf (ttOr (ttNot (ttPB (pIs (pVar 0) [.tuple]))) (ttOr (ttPB (tP2 odNotIn (tPN odLen (apCons (pVar 0) apNil)) (tPN odTup (apCons (pC (.int 2)) (apCons (pC (.int 3)) (apNil)))))) (ttNot (ttPB (pIs (tP2 odIx (pVar 0) (pC (.int 0))) [.str])))))
    (sdRet (eP (pC (.bl false))))
    (sdNil))
    (sdSeq (sdIf (ttPB (tP2 odEq (tP2 odIx (pVar 0) (pC (.int 0))) (pC (.str ("each" : Str)))))
    (sdRet (eAnd (eP (tP2 odEq (tPN odLen (apCons (pVar 0) apNil)) (pC (.int 3)))) (eAnd (eCall ms_is_within S_is_within [] (gaVal (eIxL 0 (eP (pC (.int 1)))) (gaVal (eP (pC (.int 1))) (gaVal (eP (pC (.int 1000000000))) (gaNil))))) (eCall ms_is_within S_is_within [] (gaVal (eIxL 0 (eP (pC (.int 2)))) (gaVal (eP (pC (.int 1))) (gaVal (eP (pC (.int 60))) (gaNil))))))))
    (sdNil))
    (sdSeq (sdIf (ttPB (tP2 odNe (tPN odLen (apCons (pVar 0) apNil)) (pC (.int 2))))
    (sdRet (eP (pC (.bl false))))
    (sdNil))
    (sdSeq (sdIf (ttPB (tP2 odEq (tP2 odIx (pVar 0) (pC (.int 0))) (pC (.str ("last" : Str)))))
    (sdRet (eCall ms_is_within S_is_within [] (gaVal (eIxL 0 (eP (pC (.int 1)))) (gaVal (eP (pC (.int 1))) (gaVal (eP (pC (.int 60))) (gaNil))))))
    (sdNil))
    (sdSeq (sdIf (ttPB (tP2 odEq (tP2 odIx (pVar 0) (pC (.int 0))) (pC (.str ("tag" : Str)))))
    (sdRet (eCall ms_is_tag S_is_tag [] (gaVal (eIxL 0 (eP (pC (.int 1)))) (gaNil))))
    (sdNil))
    (sdSeq (sdIf (ttPB (tP2 odEq (tP2 odIx (pVar 0) (pC (.int 0))) (pC (.str ("within" : Str)))))
    (sdRet (eCall ms_is_within S_is_within [] (gaVal (eIxL 0 (eP (pC (.int 1)))) (gaVal (eP (pC (.int 0))) (gaVal (eP (pC (.int 1000000000000))) (gaNil))))))
    (sdNil))
    (sdRet (eAnd (eP (tP2 odEq (tP2 odIx (pVar 0) (pC (.int 0))) (pC (.str ("number" : Str))))) (eCall ms_is_within S_is_within [] (gaVal (eIxL 0 (eP (pC (.int 1)))) (gaVal (eP (pC (.int 0))) (gaVal (eP (pC (.int 1000000000))) (gaNil))))))))))))
theorem d_is_keeping_rule {P : Program} {w : World} {K : PySem.W.Frag} {mg : MG} {base : Heap} {k : Nat} {S_is_within : DSp} {S_is_tag : DSp} (B : Blt mg) (G_MOST_PERIOD : GlD mg "MOST_PERIOD" (.int 1000000000)) (G_MOST_KEPT : GlD mg "MOST_KEPT" (.int 60)) (G_MOST_SPAN : GlD mg "MOST_SPAN" (.int 1000000000000)) (G_MOST_ENTRY : GlD mg "MOST_ENTRY" (.int 1000000000)) (C_is_within : Cal P w K mg base "is_within" s_is_within k ["thing", "least", "most"] ms_is_within S_is_within) (C_is_tag : Cal P w K mg base "is_tag" s_is_tag k ["thing"] ms_is_tag S_is_tag) (f : Addr) (cdv : Value) (A : Around) (outer : List Env) (s : Shared) (H : Hp) (E : XK) (hr : Room k (A.deeper (envOfC "is_keeping_rule" (defScope s_is_keeping_rule) s.heap.objs.size f cdv))) :
    DSs (cxOf (L2.CX P w) P w K mg base N_is_keeping_rule "is_keeping_rule" (defScope s_is_keeping_rule) f cdv A outer s H E) (defBody s_is_keeping_rule) (t_is_keeping_rule S_is_within S_is_tag) :=
  have hu := hu_of hr
  dss_cons (ds_if ((dt_or (dt_not (dt_pu (pu_is (pu_var 0) (kd_tuple B) B.isinstance boot_isinstance))) (dt_or (dt_cmp (op_notInA hu) okNotIn (pu_len B (pu_var 0)) (pu_tup (pua_cons (pu_int) (pua_cons (pu_int) (pua_nil)))) (by with_unfolding_all rfl)) (dt_or1 (dt_not (dt_pu (pu_is (pu_ix hu (pu_var 0) (pu_int)) (kd_str B) B.isinstance boot_isinstance)))))).dt)
    (dss_one (ds_ret (de_pu (pu_bl))))
    (dss_nil))
    (dss_cons (ds_if (dt_cmp (op_eqA hr.units) okEq (pu_ix hu (pu_var 0) (pu_int)) (pu_str) (nomark _))
    (dss_one (ds_ret (de_and (de_pu (pu_cmp (op_eqA hr.units) okEq (pu_len B (pu_var 0)) (pu_int) (nomark _))) (de_and (dc_call C_is_within hr (dg_val (de_ixl 0 hu (de_pu (pu_int))) (dg_val (de_pu (pu_int)) (dg_val (de_pu (pu_gd G_MOST_PERIOD)) (dg_nil))))) (de_one (dc_call C_is_within hr (dg_val (de_ixl 0 hu (de_pu (pu_int))) (dg_val (de_pu (pu_int)) (dg_val (de_pu (pu_gd G_MOST_KEPT)) (dg_nil))))))))))
    (dss_nil))
    (dss_cons (ds_if (dt_cmp (op_neA hr.units) okNe (pu_len B (pu_var 0)) (pu_int) (nomark _))
    (dss_one (ds_ret (de_pu (pu_bl))))
    (dss_nil))
    (dss_cons (ds_if (dt_cmp (op_eqA hr.units) okEq (pu_ix hu (pu_var 0) (pu_int)) (pu_str) (nomark _))
    (dss_one (ds_ret (dc_call C_is_within hr (dg_val (de_ixl 0 hu (de_pu (pu_int))) (dg_val (de_pu (pu_int)) (dg_val (de_pu (pu_gd G_MOST_KEPT)) (dg_nil)))))))
    (dss_nil))
    (dss_cons (ds_if (dt_cmp (op_eqA hr.units) okEq (pu_ix hu (pu_var 0) (pu_int)) (pu_str) (nomark _))
    (dss_one (ds_ret (dc_call C_is_tag hr (dg_val (de_ixl 0 hu (de_pu (pu_int))) (dg_nil)))))
    (dss_nil))
    (dss_cons (ds_if (dt_cmp (op_eqA hr.units) okEq (pu_ix hu (pu_var 0) (pu_int)) (pu_str) (nomark _))
    (dss_one (ds_ret (dc_call C_is_within hr (dg_val (de_ixl 0 hu (de_pu (pu_int))) (dg_val (de_pu (pu_int)) (dg_val (de_pu (pu_gd G_MOST_SPAN)) (dg_nil)))))))
    (dss_nil))
    (dss_one (ds_ret (de_and (de_pu (pu_cmp (op_eqA hr.units) okEq (pu_ix hu (pu_var 0) (pu_int)) (pu_str) (nomark _))) (de_one (dc_call C_is_within hr (dg_val (de_ixl 0 hu (de_pu (pu_int))) (dg_val (de_pu (pu_int)) (dg_val (de_pu (pu_gd G_MOST_ENTRY)) (dg_nil))))))))))))))
theorem c_is_keeping_rule {P : Program} {w : World} {K : PySem.W.Frag} {mg : MG} {base : Heap} {k : Nat} {S_is_within : DSp} {S_is_tag : DSp} {S : DSp} (Fu : FunAt K mg "is_keeping_rule" s_is_keeping_rule) (B : Blt mg) (G_MOST_PERIOD : GlD mg "MOST_PERIOD" (.int 1000000000)) (G_MOST_KEPT : GlD mg "MOST_KEPT" (.int 60)) (G_MOST_SPAN : GlD mg "MOST_SPAN" (.int 1000000000000)) (G_MOST_ENTRY : GlD mg "MOST_ENTRY" (.int 1000000000)) (C_is_within : Cal P w K mg base "is_within" s_is_within k ["thing", "least", "most"] ms_is_within S_is_within) (C_is_tag : Cal P w K mg base "is_tag" s_is_tag k ["thing"] ms_is_tag S_is_tag) (hs : ∀ ds post, S ds post → ds.length = ms_is_keeping_rule.length → t_is_keeping_rule S_is_within S_is_tag (env0 ms_is_keeping_rule ds N_is_keeping_rule.length) (endsOf ms_is_keeping_rule post)) : Cal P w K mg base "is_keeping_rule" s_is_keeping_rule (k + 1) ["thing"] ms_is_keeping_rule S :=
  cal_mk Fu sc_is_keeping_rule rfl (fun _ _ _ _ _ _ us hl => match us, hl with | [_], _ => rfl) (d_is_keeping_rule B G_MOST_PERIOD G_MOST_KEPT G_MOST_SPAN G_MOST_ENTRY C_is_within C_is_tag) hs
abbrev N_checked_rules : List Str := ["rules", "index", "rule"]
theorem sc_checked_rules : FnScope N_checked_rules ["rules"] (defScope s_checked_rules) := ⟨rfl, rfl, rfl, by decide +kernel, rfl, by decide +kernel, by decide +kernel⟩
def b_checked_rules_1 (S_is_row : DSp) (S_is_keeping_rule : DSp) : SD :=
    sdIf (ttNot (ttB (eCall ms_is_keeping_rule S_is_keeping_rule [] (gaVal (eVar 2) (gaNil)))))
    (sdNever)
    (sdNil)
def t_checked_rules (S_is_row : DSp) (S_is_keeping_rule : DSp) : SD :=
    sdSeq (sdIf (ttOr (ttNot (ttB (eCall ms_is_row S_is_row [] (gaVal (eVar 0) (gaNil))))) (ttPB (tP2 odGt (tPN odLen (apCons (pVar 0) apNil)) (pC (.int 12)))))
    (sdNever)
    (sdNil))
    (sdSeq (sdFor (itN odEnumA (aCons (eVar 0) (aNil))) (.tu [.nm 1, .nm 2])
    (b_checked_rules_1 S_is_row S_is_keeping_rule))
    (sdRet (tON odList (aCons (eVar 0) aNil))))
theorem d_checked_rules {P : Program} {w : World} {K : PySem.W.Frag} {mg : MG} {base : Heap} {k : Nat} {S_is_row : DSp} {S_is_keeping_rule : DSp} (B : Blt mg) (G_MOST_RULES : GlD mg "MOST_RULES" (.int 12)) (C_is_row : Cal P w K mg base "is_row" s_is_row k ["thing"] ms_is_row S_is_row) (C_is_keeping_rule : Cal P w K mg base "is_keeping_rule" s_is_keeping_rule k ["thing"] ms_is_keeping_rule S_is_keeping_rule) (f : Addr) (cdv : Value) (A : Around) (outer : List Env) (s : Shared) (H : Hp) (E : XK) (hr : Room k (A.deeper (envOfC "checked_rules" (defScope s_checked_rules) s.heap.objs.size f cdv))) :
    DSs (cxOf (L2.CX P w) P w K mg base N_checked_rules "checked_rules" (defScope s_checked_rules) f cdv A outer s H E) (defBody s_checked_rules) (t_checked_rules S_is_row S_is_keeping_rule) :=
  have hu := hu_of hr
  dss_cons (ds_if ((dt_or (dt_not (dt_val (dc_call C_is_row hr (dg_val (de_var 0) (dg_nil))))) (dt_or1 (dt_cmp (op_gtD) okCmp (pu_len B (pu_var 0)) (pu_gd G_MOST_RULES) (nomark _)))).dt)
    (dss_one (ds_never))
    (dss_nil))
    (dss_cons (ds_for (passes_of rfl) rfl (di_enum B.enumerate (da_cons (de_var 0) (da_nil))) (dgt_tu rfl (dgts_cons (dgt_nm 1 sc_checked_rules.nd) (dgts_cons (dgt_nm 2 sc_checked_rules.nd) (dgts_nil))))
    (dss_one (ds_if (dt_not (dt_val (dc_call C_is_keeping_rule hr (dg_val (de_var 2) (dg_nil)))))
    (dss_one (ds_never))
    (dss_nil))))
    (dss_one (ds_ret (de_list rfl B (de_var 0)))))
theorem c_checked_rules {P : Program} {w : World} {K : PySem.W.Frag} {mg : MG} {base : Heap} {k : Nat} {S_is_row : DSp} {S_is_keeping_rule : DSp} {S : DSp} (Fu : FunAt K mg "checked_rules" s_checked_rules) (B : Blt mg) (G_MOST_RULES : GlD mg "MOST_RULES" (.int 12)) (C_is_row : Cal P w K mg base "is_row" s_is_row k ["thing"] ms_is_row S_is_row) (C_is_keeping_rule : Cal P w K mg base "is_keeping_rule" s_is_keeping_rule k ["thing"] ms_is_keeping_rule S_is_keeping_rule) (hs : ∀ ds post, S ds post → ds.length = ms_checked_rules.length → t_checked_rules S_is_row S_is_keeping_rule (env0 ms_checked_rules ds N_checked_rules.length) (endsOf ms_checked_rules post)) : Cal P w K mg base "checked_rules" s_checked_rules (k + 1) ["rules"] ms_checked_rules S :=
  cal_mk Fu sc_checked_rules rfl (fun _ _ _ _ _ _ us hl => match us, hl with | [_], _ => rfl) (d_checked_rules B G_MOST_RULES C_is_row C_is_keeping_rule) hs
abbrev N_newest_of_periods : List Str := ["entries", "period", "many", "found", "before", "place", "here"]
theorem sc_newest_of_periods : FnScope N_newest_of_periods ["entries", "period", "many"] (defScope s_newest_of_periods) := ⟨rfl, rfl, rfl, by decide +kernel, rfl, by decide +kernel, by decide +kernel⟩
def b_newest_of_periods_1 : SD :=
    sdSeq (sdSet 6 (eP (tP2 odDiv (tP2 odIx (tP2 odIx (pVar 0) (pVar 5)) (pC (.int 1))) (pVar 1))))
    (sdSeq (sdIf (ttAnd (ttPB (tP2 odNe (pVar 6) (pVar 4))) (ttPB (tP2 odLt (tPN odLen (apCons (pVar 3) apNil)) (pVar 2))))
    (sdApp 3 (eVar 5))
    (sdNil))
    (sdSet 4 (eVar 6)))
def t_newest_of_periods : SD :=
    sdSeq (sdSet 3 (eNew (.lst []) 1))
    (sdSeq (sdSet 4 (eP (pC .non)))
    (sdSeq (sdFor (itN odRng3 (aCons (eP (tP2 odSub (tPN odLen (apCons (pVar 0) apNil)) (pC (.int 1)))) (aCons (eP (tP1 odNeg (pC (.int 1)))) (aCons (eP (tP1 odNeg (pC (.int 1)))) (aNil))))) (.nm 5)
    (b_newest_of_periods_1))
    (sdRetV 3)))
theorem d_newest_of_periods {P : Program} {w : World} {K : PySem.W.Frag} {mg : MG} {base : Heap} {k : Nat} (B : Blt mg) (f : Addr) (cdv : Value) (A : Around) (outer : List Env) (s : Shared) (H : Hp) (E : XK) (hr : Room k (A.deeper (envOfC "newest_of_periods" (defScope s_newest_of_periods) s.heap.objs.size f cdv))) :
    DSs (cxOf (L2.CX P w) P w K mg base N_newest_of_periods "newest_of_periods" (defScope s_newest_of_periods) f cdv A outer s H E) (defBody s_newest_of_periods) (t_newest_of_periods) :=
  have hu := hu_of hr
  dss_cons (ds_set sc_newest_of_periods.nd (de_nil 1))
    (dss_cons (ds_set sc_newest_of_periods.nd (de_pu (pu_non)))
    (dss_cons (ds_for (passes_of rfl) rfl (di_rng3 B.range (da_cons (de_pu (pu_sub (pu_len B (pu_var 0)) (pu_int))) (da_cons (de_pu (pu_neg (pu_int))) (da_cons (de_pu (pu_neg (pu_int))) (da_nil))))) (dgt_nm 5 sc_newest_of_periods.nd)
    (dss_cons (ds_set sc_newest_of_periods.nd (de_pu (pu_div (pu_ix hu (pu_ix hu (pu_var 0) (pu_var 5)) (pu_int)) (pu_var 1))))
    (dss_cons (ds_if ((dt_and (dt_cmp (op_neA hr.units) okNe (pu_var 6) (pu_var 4) (nomark _)) (dt_and1 (dt_cmp (op_ltD) okCmp (pu_len B (pu_var 3)) (pu_var 2) (nomark _)))).dt)
    (dss_one (ds_append 3 (de_var 5)))
    (dss_nil))
    (dss_one (ds_set sc_newest_of_periods.nd (de_var 6))))))
    (dss_one (ds_retv 3))))
theorem c_newest_of_periods {P : Program} {w : World} {K : PySem.W.Frag} {mg : MG} {base : Heap} {k : Nat} {S : DSp} (Fu : FunAt K mg "newest_of_periods" s_newest_of_periods) (B : Blt mg) (hs : ∀ ds post, S ds post → ds.length = ms_newest_of_periods.length → t_newest_of_periods (env0 ms_newest_of_periods ds N_newest_of_periods.length) (endsOf ms_newest_of_periods post)) : Cal P w K mg base "newest_of_periods" s_newest_of_periods (k + 1) ["entries", "period", "many"] ms_newest_of_periods S :=
  cal_mk Fu sc_newest_of_periods rfl (fun _ _ _ _ _ _ us hl => match us, hl with | [_, _, _], _ => rfl) (d_newest_of_periods B) hs
abbrev N_places_kept : List Str := ["entries", "rule", "word", "many", "place"]
theorem sc_places_kept : FnScope N_places_kept ["entries", "rule"] (defScope s_places_kept) := ⟨rfl, rfl, rfl, by decide +kernel, rfl, by decide +kernel, by decide +kernel⟩
def q_places_kept_1 (S_newest_of_periods : DSp) : TTd :=
    ttPB (tP2 odIn (tP2 odIx (pVar 1) (pC (.int 1))) (tP2 odIx (tP2 odIx (pVar 0) (pVar 4)) (pC (.int 2))))
def q_places_kept_2 (S_newest_of_periods : DSp) : TTd :=
    ttPB (tP2 odGe (tP2 odIx (tP2 odIx (pVar 0) (pVar 4)) (pC (.int 1))) (tP2 odSub (tP2 odIx (tP2 odIx (pVar 0) (tP1 odNeg (pC (.int 1)))) (pC (.int 1))) (tP2 odIx (pVar 1) (pC (.int 1)))))
def q_places_kept_3 (S_newest_of_periods : DSp) : TTd :=
    ttPB (tP2 odEq (tP2 odIx (tP2 odIx (pVar 0) (pVar 4)) (pC (.int 0))) (tP2 odIx (pVar 1) (pC (.int 1))))
def t_places_kept (S_newest_of_periods : DSp) : SD :=
    sdSeq (sdSet 2 (eIxL 1 (eP (pC (.int 0)))))
    (sdSeq (sdSet 3 (eP (tPN odLen (apCons (pVar 0) apNil))))
    (sdSeq (sdIf (ttPB (tP2 odEq (pVar 2) (pC (.str ("last" : Str)))))
    (sdRet (eListRg (aCons (eP (tPN odMax2 (apCons (pC (.int 0)) (apCons (tP2 odSub (pVar 3) (tP2 odIx (pVar 1) (pC (.int 1)))) apNil)))) (aCons (eVar 3) (aNil)))))
    (sdNil))
    (sdSeq (sdIf (ttPB (tP2 odEq (pVar 2) (pC (.str ("each" : Str)))))
    (sdRet (eCall ms_newest_of_periods S_newest_of_periods [] (gaVal (eVar 0) (gaVal (eIxL 1 (eP (pC (.int 1)))) (gaVal (eIxL 1 (eP (pC (.int 2)))) (gaNil))))))
    (sdNil))
    (sdSeq (sdIf (ttPB (tP2 odEq (pVar 2) (pC (.str ("tag" : Str)))))
    (sdRet (eLc (itN odRng1 (aCons (eVar 3) (aNil))) (.nm 4) (q_places_kept_1 S_newest_of_periods) (eVar 4) [4]))
    (sdNil))
    (sdSeq (sdIf (ttPB (tP2 odEq (pVar 2) (pC (.str ("within" : Str)))))
    (sdRet (eLc (itN odRng1 (aCons (eVar 3) (aNil))) (.nm 4) (q_places_kept_2 S_newest_of_periods) (eVar 4) [4]))
    (sdNil))
    (sdRet (eLc (itN odRng1 (aCons (eVar 3) (aNil))) (.nm 4) (q_places_kept_3 S_newest_of_periods) (eVar 4) [4])))))))
theorem d_places_kept {P : Program} {w : World} {K : PySem.W.Frag} {mg : MG} {base : Heap} {k : Nat} {S_newest_of_periods : DSp} (B : Blt mg) (C_newest_of_periods : Cal P w K mg base "newest_of_periods" s_newest_of_periods k ["entries", "period", "many"] ms_newest_of_periods S_newest_of_periods) (f : Addr) (cdv : Value) (A : Around) (outer : List Env) (s : Shared) (H : Hp) (E : XK) (hr : Room k (A.deeper (envOfC "places_kept" (defScope s_places_kept) s.heap.objs.size f cdv))) :
    DSs (cxOf (L2.CX P w) P w K mg base N_places_kept "places_kept" (defScope s_places_kept) f cdv A outer s H E) (defBody s_places_kept) (t_places_kept S_newest_of_periods) :=
  have hu := hu_of hr
  dss_cons (ds_set sc_places_kept.nd (de_ixl 1 hu (de_pu (pu_int))))
    (dss_cons (ds_set sc_places_kept.nd (de_pu (pu_len B (pu_var 0))))
    (dss_cons (ds_if (dt_cmp (op_eqA hr.units) okEq (pu_var 2) (pu_str) (nomark _))
    (dss_one (ds_ret (de_listRg2 rfl B.list B.range (de_pu (pu_max rfl B (pu_int) (pu_sub (pu_var 3) (pu_ix hu (pu_var 1) (pu_int))))) (de_var 3))))
    (dss_nil))
    (dss_cons (ds_if (dt_cmp (op_eqA hr.units) okEq (pu_var 2) (pu_str) (nomark _))
    (dss_one (ds_ret (dc_call C_newest_of_periods hr (dg_val (de_var 0) (dg_val (de_ixl 1 hu (de_pu (pu_int))) (dg_val (de_ixl 1 hu (de_pu (pu_int))) (dg_nil)))))))
    (dss_nil))
    (dss_cons (ds_if (dt_cmp (op_eqA hr.units) okEq (pu_var 2) (pu_str) (nomark _))
    (dss_one (ds_ret (de_lc [(("place" : Str), 4)] rfl sc_places_kept.nd (di_rng1 B.range (da_cons (de_var 3) (da_nil))) (blkOk_by (N := N_places_kept) (sc := defScope s_places_kept) (by decide +kernel)) (fun _ _ _ _ _ => dgt_nm 4 sc_places_kept.nd) (fun _ _ _ _ _ => dpts_one (dt_cmp (op_inA hu) okIn (pu_ix hu (pu_var 1) (pu_int)) (pu_ix hu (pu_ix hu (pu_var 0) (pu_var 4)) (pu_int)) (by with_unfolding_all rfl))) (fun _ _ _ _ _ => de_var 4))))
    (dss_nil))
    (dss_cons (ds_if (dt_cmp (op_eqA hr.units) okEq (pu_var 2) (pu_str) (nomark _))
    (dss_one (ds_ret (de_lc [(("place" : Str), 4)] rfl sc_places_kept.nd (di_rng1 B.range (da_cons (de_var 3) (da_nil))) (blkOk_by (N := N_places_kept) (sc := defScope s_places_kept) (by decide +kernel)) (fun _ _ _ _ _ => dgt_nm 4 sc_places_kept.nd) (fun _ _ _ _ _ => dpts_one (dt_cmp (op_geD) okCmp (pu_ix hu (pu_ix hu (pu_var 0) (pu_var 4)) (pu_int)) (pu_sub (pu_ix hu (pu_ix hu (pu_var 0) (pu_neg (pu_int))) (pu_int)) (pu_ix hu (pu_var 1) (pu_int))) (nomark _))) (fun _ _ _ _ _ => de_var 4))))
    (dss_nil))
    (dss_one (ds_ret (de_lc [(("place" : Str), 4)] rfl sc_places_kept.nd (di_rng1 B.range (da_cons (de_var 3) (da_nil))) (blkOk_by (N := N_places_kept) (sc := defScope s_places_kept) (by decide +kernel)) (fun _ _ _ _ _ => dgt_nm 4 sc_places_kept.nd) (fun _ _ _ _ _ => dpts_one (dt_cmp (op_eqA hr.units) okEq (pu_ix hu (pu_ix hu (pu_var 0) (pu_var 4)) (pu_int)) (pu_ix hu (pu_var 1) (pu_int)) (nomark _))) (fun _ _ _ _ _ => de_var 4)))))))))
theorem c_places_kept {P : Program} {w : World} {K : PySem.W.Frag} {mg : MG} {base : Heap} {k : Nat} {S_newest_of_periods : DSp} {S : DSp} (Fu : FunAt K mg "places_kept" s_places_kept) (B : Blt mg) (C_newest_of_periods : Cal P w K mg base "newest_of_periods" s_newest_of_periods k ["entries", "period", "many"] ms_newest_of_periods S_newest_of_periods) (hs : ∀ ds post, S ds post → ds.length = ms_places_kept.length → t_places_kept S_newest_of_periods (env0 ms_places_kept ds N_places_kept.length) (endsOf ms_places_kept post)) : Cal P w K mg base "places_kept" s_places_kept (k + 1) ["entries", "rule"] ms_places_kept S :=
  cal_mk Fu sc_places_kept rfl (fun _ _ _ _ _ _ us hl => match us, hl with | [_, _], _ => rfl) (d_places_kept B C_newest_of_periods) hs
abbrev N_reasons_in : List Str := ["entries", "rules", "keepers", "entry", "index", "rule", "place", "found"]
theorem sc_reasons_in : FnScope N_reasons_in ["entries", "rules"] (defScope s_reasons_in) := ⟨rfl, rfl, rfl, by decide +kernel, rfl, by decide +kernel, by decide +kernel⟩
def e_reasons_in_1 (S_places_kept : DSp) : ET :=
    eNew (.lst []) 1
def b_reasons_in_1 (S_places_kept : DSp) : SD :=
    sdAppP (thIx (thVar 2) (pVar 6)) (pVar 4)
def b_reasons_in_2 (S_places_kept : DSp) : SD :=
    sdFor (itSeq (eCall ms_places_kept S_places_kept [] (gaVal (eVar 0) (gaVal (eVar 5) (gaNil))))) (.nm 6)
    (b_reasons_in_1 S_places_kept)
def b_reasons_in_3 (S_places_kept : DSp) : SD :=
    sdIf (ttOr (ttTru (tP2 odIx (pVar 2) (pVar 6))) (ttPB (tP2 odEq (pVar 6) (tP2 odSub (tPN odLen (apCons (pVar 0) apNil)) (pC (.int 1))))))
    (sdSetO 7 (tP2 odIx (pVar 3) (pC (.int 0))) (eMv 2 (pVar 6)))
    (sdNil)
def t_reasons_in (S_places_kept : DSp) : SD :=
    sdSeq (sdSet 2 (eLcO 1 (itSeq (eVar 0)) (.nm 3) (ttYes) (e_reasons_in_1 S_places_kept) [3]))
    (sdSeq (sdFor (itN odEnumA (aCons (eVar 1) (aNil))) (.tu [.nm 4, .nm 5])
    (b_reasons_in_2 S_places_kept))
    (sdSeq (sdSet 7 (eNew (.dK []) 2))
    (sdSeq (sdFor (itN odEnumA (aCons (eVar 0) (aNil))) (.tu [.nm 6, .nm 3])
    (b_reasons_in_3 S_places_kept))
    (sdRetV 7))))
theorem d_reasons_in {P : Program} {w : World} {K : PySem.W.Frag} {mg : MG} {base : Heap} {k : Nat} {S_places_kept : DSp} (B : Blt mg) (C_places_kept : Cal P w K mg base "places_kept" s_places_kept k ["entries", "rule"] ms_places_kept S_places_kept) (f : Addr) (cdv : Value) (A : Around) (outer : List Env) (s : Shared) (H : Hp) (E : XK) (hr : Room k (A.deeper (envOfC "reasons_in" (defScope s_reasons_in) s.heap.objs.size f cdv))) :
    DSs (cxOf (L2.CX P w) P w K mg base N_reasons_in "reasons_in" (defScope s_reasons_in) f cdv A outer s H E) (defBody s_reasons_in) (t_reasons_in S_places_kept) :=
  have hu := hu_of hr
  dss_cons (ds_setLcO 1 [(("entry" : Str), 3)] rfl sc_reasons_in.nd (di_seq (de_var 0)) (blkOk_by (N := N_reasons_in) (sc := defScope s_reasons_in) (by decide +kernel)) (fun _ _ _ _ _ => dgt_nm 3 sc_reasons_in.nd) (fun _ _ _ _ _ => dpts_nil) (fun _ _ _ _ _ => de_nil 1) rfl)
    (dss_cons (ds_for (passes_of rfl) rfl (di_enum B.enumerate (da_cons (de_var 1) (da_nil))) (dgt_tu rfl (dgts_cons (dgt_nm 4 sc_reasons_in.nd) (dgts_cons (dgt_nm 5 sc_reasons_in.nd) (dgts_nil))))
    (dss_one (ds_for (passes_of rfl) rfl (di_seq (dc_call C_places_kept hr (dg_val (de_var 0) (dg_val (de_var 5) (dg_nil))))) (dgt_nm 6 sc_reasons_in.nd)
    (dss_one (ds_appendP (th_ix hu (th_var 2) (pu_var 6)) (pu_var 4))))))
    (dss_cons (ds_set sc_reasons_in.nd (de_dK 2))
    (dss_cons (ds_for (passes_of rfl) rfl (di_enum B.enumerate (da_cons (de_var 0) (da_nil))) (dgt_tu rfl (dgts_cons (dgt_nm 6 sc_reasons_in.nd) (dgts_cons (dgt_nm 3 sc_reasons_in.nd) (dgts_nil))))
    (dss_one (ds_if ((dt_or (dt_tru (pu_ix hu (pu_var 2) (pu_var 6))) (dt_or1 (dt_cmp (op_eqA hr.units) okEq (pu_var 6) (pu_sub (pu_len B (pu_var 0)) (pu_int)) (nomark _)))).dt)
    (dss_one (ds_setO 7 hu (de_mv 2 hu (pu_var 6)) (pu_ix hu (pu_var 3) (pu_int))))
    (dss_nil))))
    (dss_one (ds_retv 7)))))
theorem c_reasons_in {P : Program} {w : World} {K : PySem.W.Frag} {mg : MG} {base : Heap} {k : Nat} {S_places_kept : DSp} {S : DSp} (Fu : FunAt K mg "reasons_in" s_reasons_in) (B : Blt mg) (C_places_kept : Cal P w K mg base "places_kept" s_places_kept k ["entries", "rule"] ms_places_kept S_places_kept) (hs : ∀ ds post, S ds post → ds.length = ms_reasons_in.length → t_reasons_in S_places_kept (env0 ms_reasons_in ds N_reasons_in.length) (endsOf ms_reasons_in post)) : Cal P w K mg base "reasons_in" s_reasons_in (k + 1) ["entries", "rules"] ms_reasons_in S :=
  cal_mk Fu sc_reasons_in rfl (fun _ _ _ _ _ _ us hl => match us, hl with | [_, _], _ => rfl) (d_reasons_in B C_places_kept) hs
abbrev N_left_behind : List Str := ["entries", "rules", "stays", "entry"]
theorem sc_left_behind : FnScope N_left_behind ["entries", "rules"] (defScope s_left_behind) := ⟨rfl, rfl, rfl, by decide +kernel, rfl, by decide +kernel, by decide +kernel⟩
def q_left_behind_1 (S_reasons_in : DSp) : TTd :=
    ttPB (tP2 odIn (tP2 odIx (pVar 3) (pC (.int 0))) (pVar 2))
def t_left_behind (S_reasons_in : DSp) : SD :=
    sdSeq (sdSet 2 (eCall ms_reasons_in S_reasons_in [] (gaVal (eVar 0) (gaVal (eVar 1) (gaNil)))))
    (sdRet (eLc (itSeq (eVar 0)) (.nm 3) (q_left_behind_1 S_reasons_in) (eVar 3) [3]))
theorem d_left_behind {P : Program} {w : World} {K : PySem.W.Frag} {mg : MG} {base : Heap} {k : Nat} {S_reasons_in : DSp} (B : Blt mg) (C_reasons_in : Cal P w K mg base "reasons_in" s_reasons_in k ["entries", "rules"] ms_reasons_in S_reasons_in) (f : Addr) (cdv : Value) (A : Around) (outer : List Env) (s : Shared) (H : Hp) (E : XK) (hr : Room k (A.deeper (envOfC "left_behind" (defScope s_left_behind) s.heap.objs.size f cdv))) :
    DSs (cxOf (L2.CX P w) P w K mg base N_left_behind "left_behind" (defScope s_left_behind) f cdv A outer s H E) (defBody s_left_behind) (t_left_behind S_reasons_in) :=
  have hu := hu_of hr
  dss_cons (ds_set sc_left_behind.nd (dc_call C_reasons_in hr (dg_val (de_var 0) (dg_val (de_var 1) (dg_nil)))))
    (dss_one (ds_ret (de_lc [(("entry" : Str), 3)] rfl sc_left_behind.nd (di_seq (de_var 0)) (blkOk_by (N := N_left_behind) (sc := defScope s_left_behind) (by decide +kernel)) (fun _ _ _ _ _ => dgt_nm 3 sc_left_behind.nd) (fun _ _ _ _ _ => dpts_one (dt_cmp (op_inA hu) okIn (pu_ix hu (pu_var 3) (pu_int)) (pu_var 2) (by with_unfolding_all rfl))) (fun _ _ _ _ _ => de_var 3))))
theorem c_left_behind {P : Program} {w : World} {K : PySem.W.Frag} {mg : MG} {base : Heap} {k : Nat} {S_reasons_in : DSp} {S : DSp} (Fu : FunAt K mg "left_behind" s_left_behind) (B : Blt mg) (C_reasons_in : Cal P w K mg base "reasons_in" s_reasons_in k ["entries", "rules"] ms_reasons_in S_reasons_in) (hs : ∀ ds post, S ds post → ds.length = ms_left_behind.length → t_left_behind S_reasons_in (env0 ms_left_behind ds N_left_behind.length) (endsOf ms_left_behind post)) : Cal P w K mg base "left_behind" s_left_behind (k + 1) ["entries", "rules"] ms_left_behind S :=
  cal_mk Fu sc_left_behind rfl (fun _ _ _ _ _ _ us hl => match us, hl with | [_, _], _ => rfl) (d_left_behind B C_reasons_in) hs
abbrev N_checked_later : List Str := ["entries", "moments", "before", "index", "moment"]
theorem sc_checked_later : FnScope N_checked_later ["entries", "moments"] (defScope s_checked_later) := ⟨rfl, rfl, rfl, by decide +kernel, rfl, by decide +kernel, by decide +kernel⟩
def b_checked_later_1 (S_is_row : DSp) (S_is_moment : DSp) : SD :=
    sdSeq (sdIf (ttOr (ttNot (ttB (eCall ms_is_moment S_is_moment [] (gaVal (eVar 4) (gaNil))))) (ttPB (tP2 odLe (pVar 4) (pVar 2))))
    (sdNever)
    (sdNil))
    (sdSet 2 (eVar 4))
def t_checked_later (S_is_row : DSp) (S_is_moment : DSp) : SD :=
    sdSeq (sdIf (ttOr (ttNot (ttB (eCall ms_is_row S_is_row [] (gaVal (eVar 1) (gaNil))))) (ttPB (tP2 odGt (tPN odLen (apCons (pVar 1) apNil)) (pC (.int 60)))))
    (sdNever)
    (sdNil))
    (sdSeq (sdSet 2 (eIf (ttTru (pVar 0)) (tO2 odIx (eIxL 0 (eP (tP1 odNeg (pC (.int 1))))) (eP (pC (.int 1)))) (eP (tP1 odNeg (pC (.int 1))))))
    (sdSeq (sdFor (itN odEnumA (aCons (eVar 1) (aNil))) (.tu [.nm 3, .nm 4])
    (b_checked_later_1 S_is_row S_is_moment))
    (sdRet (tON odList (aCons (eVar 1) aNil)))))
theorem d_checked_later {P : Program} {w : World} {K : PySem.W.Frag} {mg : MG} {base : Heap} {k : Nat} {S_is_row : DSp} {S_is_moment : DSp} (B : Blt mg) (G_MOST_MOMENTS : GlD mg "MOST_MOMENTS" (.int 60)) (C_is_row : Cal P w K mg base "is_row" s_is_row k ["thing"] ms_is_row S_is_row) (C_is_moment : Cal P w K mg base "is_moment" s_is_moment k ["thing"] ms_is_moment S_is_moment) (f : Addr) (cdv : Value) (A : Around) (outer : List Env) (s : Shared) (H : Hp) (E : XK) (hr : Room k (A.deeper (envOfC "checked_later" (defScope s_checked_later) s.heap.objs.size f cdv))) :
    DSs (cxOf (L2.CX P w) P w K mg base N_checked_later "checked_later" (defScope s_checked_later) f cdv A outer s H E) (defBody s_checked_later) (t_checked_later S_is_row S_is_moment) :=
  have hu := hu_of hr
  dss_cons (ds_if ((dt_or (dt_not (dt_val (dc_call C_is_row hr (dg_val (de_var 1) (dg_nil))))) (dt_or1 (dt_cmp (op_gtD) okCmp (pu_len B (pu_var 1)) (pu_gd G_MOST_MOMENTS) (nomark _)))).dt)
    (dss_one (ds_never))
    (dss_nil))
    (dss_cons (ds_set sc_checked_later.nd (de_ifExp (dt_tru (pu_var 0)) (de_ix hu (de_ixl 0 hu (de_pu (pu_neg (pu_int)))) (de_pu (pu_int))) (de_pu (pu_neg (pu_int)))))
    (dss_cons (ds_for (passes_of rfl) rfl (di_enum B.enumerate (da_cons (de_var 1) (da_nil))) (dgt_tu rfl (dgts_cons (dgt_nm 3 sc_checked_later.nd) (dgts_cons (dgt_nm 4 sc_checked_later.nd) (dgts_nil))))
    (dss_cons (ds_if ((dt_or (dt_not (dt_val (dc_call C_is_moment hr (dg_val (de_var 4) (dg_nil))))) (dt_or1 (dt_cmp (op_leD) okCmp (pu_var 4) (pu_var 2) (nomark _)))).dt)
    (dss_one (ds_never))
    (dss_nil))
    (dss_one (ds_set sc_checked_later.nd (de_var 4)))))
    (dss_one (ds_ret (de_list rfl B (de_var 1))))))
theorem c_checked_later {P : Program} {w : World} {K : PySem.W.Frag} {mg : MG} {base : Heap} {k : Nat} {S_is_row : DSp} {S_is_moment : DSp} {S : DSp} (Fu : FunAt K mg "checked_later" s_checked_later) (B : Blt mg) (G_MOST_MOMENTS : GlD mg "MOST_MOMENTS" (.int 60)) (C_is_row : Cal P w K mg base "is_row" s_is_row k ["thing"] ms_is_row S_is_row) (C_is_moment : Cal P w K mg base "is_moment" s_is_moment k ["thing"] ms_is_moment S_is_moment) (hs : ∀ ds post, S ds post → ds.length = ms_checked_later.length → t_checked_later S_is_row S_is_moment (env0 ms_checked_later ds N_checked_later.length) (endsOf ms_checked_later post)) : Cal P w K mg base "checked_later" s_checked_later (k + 1) ["entries", "moments"] ms_checked_later S :=
  cal_mk Fu sc_checked_later rfl (fun _ _ _ _ _ _ us hl => match us, hl with | [_, _], _ => rfl) (d_checked_later B G_MOST_MOMENTS C_is_row C_is_moment) hs
abbrev N_falls : List Str := ["entries", "rules", "moments", "told", "known", "later", "left", "found", "entry", "number", "index", "moment", "stays"]
theorem sc_falls : FnScope N_falls ["entries", "rules", "moments"] (defScope s_falls) := ⟨rfl, rfl, rfl, by decide +kernel, rfl, by decide +kernel, by decide +kernel⟩
def b_falls_1 (S_checked_entries : DSp) (S_checked_rules : DSp) (S_checked_later : DSp) (S_left_behind : DSp) (S_reasons_in : DSp) : SD :=
    sdIf (ttAnd (ttPB (tP2 odIn (tP2 odIx (pVar 8) (pC (.int 0))) (pVar 7))) (ttPB (tP2 odNotIn (tP2 odIx (pVar 8) (pC (.int 0))) (pVar 12))))
    (sdSetI 7 (eIxL 8 (eP (pC (.int 0)))) (eVar 10))
    (sdNil)
def q_falls_1 (S_checked_entries : DSp) (S_checked_rules : DSp) (S_checked_later : DSp) (S_left_behind : DSp) (S_reasons_in : DSp) : TTd :=
    ttPB (tP2 odIn (tP2 odIx (pVar 8) (pC (.int 0))) (pVar 12))
def b_falls_2 (S_checked_entries : DSp) (S_checked_rules : DSp) (S_checked_later : DSp) (S_left_behind : DSp) (S_reasons_in : DSp) : SD :=
    sdSeq (sdApp 6 (tON odTup (aCons (eP (tP2 odAdd (tP2 odAdd (pVar 9) (pC (.int 1))) (pVar 10))) (aCons (eVar 11) (aCons (tON odTup (aNil)) (aNil))))))
    (sdSeq (sdSet 12 (eCall ms_reasons_in S_reasons_in [] (gaVal (eVar 6) (gaVal (eVar 4) (gaNil)))))
    (sdSeq (sdFor (itSeq (eVar 6)) (.nm 8)
    (b_falls_1 S_checked_entries S_checked_rules S_checked_later S_left_behind S_reasons_in))
    (sdSet 6 (eLc (itSeq (eVar 6)) (.nm 8) (q_falls_1 S_checked_entries S_checked_rules S_checked_later S_left_behind S_reasons_in) (eVar 8) [8]))))
def k_falls_1 (S_checked_entries : DSp) (S_checked_rules : DSp) (S_checked_later : DSp) (S_left_behind : DSp) (S_reasons_in : DSp) : SD :=
    sdRetV 7
def k_falls_2 (S_checked_entries : DSp) (S_checked_rules : DSp) (S_checked_later : DSp) (S_left_behind : DSp) (S_reasons_in : DSp) : SD :=
    sdSeq (sdFor (itN odEnumA (aCons (eVar 5) (aNil))) (.tu [.nm 10, .nm 11])
    (b_falls_2 S_checked_entries S_checked_rules S_checked_later S_left_behind S_reasons_in))
    (k_falls_1 S_checked_entries S_checked_rules S_checked_later S_left_behind S_reasons_in)
def k_falls_3 (S_checked_entries : DSp) (S_checked_rules : DSp) (S_checked_later : DSp) (S_left_behind : DSp) (S_reasons_in : DSp) : SD :=
    sdSeq (sdSet 9 (eIf (ttTru (pVar 3)) (tO2 odIx (eIxL 3 (eP (tP1 odNeg (pC (.int 1))))) (eP (pC (.int 0)))) (eP (tP1 odNeg (pC (.int 1))))))
    (k_falls_2 S_checked_entries S_checked_rules S_checked_later S_left_behind S_reasons_in)
def k_falls_4 (S_checked_entries : DSp) (S_checked_rules : DSp) (S_checked_later : DSp) (S_left_behind : DSp) (S_reasons_in : DSp) : SD :=
    sdSeq (sdSet 7 (eFz (eDc (itSeq (eVar 6)) (.nm 8) (ttYes) (eIxL 8 (eP (pC (.int 0)))) (eP (pC .non)) [8])))
    (k_falls_3 S_checked_entries S_checked_rules S_checked_later S_left_behind S_reasons_in)
def k_falls_5 (S_checked_entries : DSp) (S_checked_rules : DSp) (S_checked_later : DSp) (S_left_behind : DSp) (S_reasons_in : DSp) : SD :=
    sdSeq (sdSet 6 (eCall ms_left_behind S_left_behind [] (gaVal (eVar 3) (gaVal (eVar 4) (gaNil)))))
    (k_falls_4 S_checked_entries S_checked_rules S_checked_later S_left_behind S_reasons_in)
def k_falls_6 (S_checked_entries : DSp) (S_checked_rules : DSp) (S_checked_later : DSp) (S_left_behind : DSp) (S_reasons_in : DSp) : SD :=
    sdSeq (sdSet 5 (eCall ms_checked_later S_checked_later [] (gaVal (eVar 3) (gaVal (eVar 2) (gaNil)))))
    (k_falls_5 S_checked_entries S_checked_rules S_checked_later S_left_behind S_reasons_in)
def k_falls_7 (S_checked_entries : DSp) (S_checked_rules : DSp) (S_checked_later : DSp) (S_left_behind : DSp) (S_reasons_in : DSp) : SD :=
    sdSeq (sdSet 4 (eCall ms_checked_rules S_checked_rules [] (gaVal (eVar 1) (gaNil))))
    (k_falls_6 S_checked_entries S_checked_rules S_checked_later S_left_behind S_reasons_in)
def t_falls (S_checked_entries : DSp) (S_checked_rules : DSp) (S_checked_later : DSp) (S_left_behind : DSp) (S_reasons_in : DSp) : SD :=
    sdSeq (sdSet 3 (eCall ms_checked_entries S_checked_entries [] (gaVal (eVar 0) (gaNil))))
    (k_falls_7 S_checked_entries S_checked_rules S_checked_later S_left_behind S_reasons_in)
theorem d_falls {P : Program} {w : World} {K : PySem.W.Frag} {mg : MG} {base : Heap} {k : Nat} {S_checked_entries : DSp} {S_checked_rules : DSp} {S_checked_later : DSp} {S_left_behind : DSp} {S_reasons_in : DSp} (B : Blt mg) (C_checked_entries : Cal P w K mg base "checked_entries" s_checked_entries k ["entries"] ms_checked_entries S_checked_entries) (C_checked_rules : Cal P w K mg base "checked_rules" s_checked_rules k ["rules"] ms_checked_rules S_checked_rules) (C_checked_later : Cal P w K mg base "checked_later" s_checked_later k ["entries", "moments"] ms_checked_later S_checked_later) (C_left_behind : Cal P w K mg base "left_behind" s_left_behind k ["entries", "rules"] ms_left_behind S_left_behind) (C_reasons_in : Cal P w K mg base "reasons_in" s_reasons_in k ["entries", "rules"] ms_reasons_in S_reasons_in) (f : Addr) (cdv : Value) (A : Around) (outer : List Env) (s : Shared) (H : Hp) (E : XK) (hr : Room k (A.deeper (envOfC "falls" (defScope s_falls) s.heap.objs.size f cdv))) :
    DSs (cxOf (L2.CX P w) P w K mg base N_falls "falls" (defScope s_falls) f cdv A outer s H E) (defBody s_falls) (t_falls S_checked_entries S_checked_rules S_checked_later S_left_behind S_reasons_in) :=
  have hu := hu_of hr
  dss_cons (ds_set sc_falls.nd (dc_call C_checked_entries hr (dg_val (de_var 0) (dg_nil))))
    (dss_cons (ds_set sc_falls.nd (dc_call C_checked_rules hr (dg_val (de_var 1) (dg_nil))))
    (dss_cons (ds_set sc_falls.nd (dc_call C_checked_later hr (dg_val (de_var 3) (dg_val (de_var 2) (dg_nil)))))
    (dss_cons (ds_set sc_falls.nd (dc_call C_left_behind hr (dg_val (de_var 3) (dg_val (de_var 4) (dg_nil)))))
    (dss_cons (ds_setDcF [(("entry" : Str), 8)] rfl sc_falls.nd (di_seq (de_var 6)) (blkOk_by (N := N_falls) (sc := defScope s_falls) (by decide +kernel)) (fun _ _ _ _ _ => dgt_nm 8 sc_falls.nd) (fun _ _ _ _ _ => dpts_nil) (fun _ _ _ _ _ => de_ixl 8 hu (de_pu (pu_int))) (fun _ _ _ _ _ => de_pu (pu_non)) rfl)
    (dss_cons (ds_set sc_falls.nd (de_ifExp (dt_tru (pu_var 3)) (de_ix hu (de_ixl 3 hu (de_pu (pu_neg (pu_int)))) (de_pu (pu_int))) (de_pu (pu_neg (pu_int)))))
    (dss_cons (ds_for (passes_of rfl) rfl (di_enum B.enumerate (da_cons (de_var 5) (da_nil))) (dgt_tu rfl (dgts_cons (dgt_nm 10 sc_falls.nd) (dgts_cons (dgt_nm 11 sc_falls.nd) (dgts_nil))))
    (dss_cons (ds_append 6 (de_tup (da_cons (de_pu (pu_add (pu_add (pu_var 9) (pu_int)) (pu_var 10))) (da_cons (de_var 11) (da_cons (de_tup (da_nil)) (da_nil))))))
    (dss_cons (ds_set sc_falls.nd (dc_call C_reasons_in hr (dg_val (de_var 6) (dg_val (de_var 4) (dg_nil)))))
    (dss_cons (ds_for (passes_of rfl) rfl (di_seq (de_var 6)) (dgt_nm 8 sc_falls.nd)
    (dss_one (ds_if ((dt_and (dt_cmp (op_inA hu) okIn (pu_ix hu (pu_var 8) (pu_int)) (pu_var 7) (by with_unfolding_all rfl)) (dt_and1 (dt_cmp (op_notInA hu) okNotIn (pu_ix hu (pu_var 8) (pu_int)) (pu_var 12) (by with_unfolding_all rfl)))).dt)
    (dss_one (ds_setI 7 hu (de_var 10) (de_ixl 8 hu (de_pu (pu_int)))))
    (dss_nil))))
    (dss_one (ds_setLc [(("entry" : Str), 8)] rfl sc_falls.nd (di_seq (de_var 6)) (blkOk_by (N := N_falls) (sc := defScope s_falls) (by decide +kernel)) (fun _ _ _ _ _ => dgt_nm 8 sc_falls.nd) (fun _ _ _ _ _ => dpts_one (dt_cmp (op_inA hu) okIn (pu_ix hu (pu_var 8) (pu_int)) (pu_var 12) (by with_unfolding_all rfl))) (fun _ _ _ _ _ => de_var 8) rfl))))))
    (dss_one (ds_retv 7))))))))
theorem c_falls {P : Program} {w : World} {K : PySem.W.Frag} {mg : MG} {base : Heap} {k : Nat} {S_checked_entries : DSp} {S_checked_rules : DSp} {S_checked_later : DSp} {S_left_behind : DSp} {S_reasons_in : DSp} {S : DSp} (Fu : FunAt K mg "falls" s_falls) (B : Blt mg) (C_checked_entries : Cal P w K mg base "checked_entries" s_checked_entries k ["entries"] ms_checked_entries S_checked_entries) (C_checked_rules : Cal P w K mg base "checked_rules" s_checked_rules k ["rules"] ms_checked_rules S_checked_rules) (C_checked_later : Cal P w K mg base "checked_later" s_checked_later k ["entries", "moments"] ms_checked_later S_checked_later) (C_left_behind : Cal P w K mg base "left_behind" s_left_behind k ["entries", "rules"] ms_left_behind S_left_behind) (C_reasons_in : Cal P w K mg base "reasons_in" s_reasons_in k ["entries", "rules"] ms_reasons_in S_reasons_in) (hs : ∀ ds post, S ds post → ds.length = ms_falls.length → t_falls S_checked_entries S_checked_rules S_checked_later S_left_behind S_reasons_in (env0 ms_falls ds N_falls.length) (endsOf ms_falls post)) : Cal P w K mg base "falls" s_falls (k + 1) ["entries", "rules", "moments"] ms_falls S :=
  cal_mk Fu sc_falls rfl (fun _ _ _ _ _ _ us hl => match us, hl with | [_, _, _], _ => rfl) (d_falls B C_checked_entries C_checked_rules C_checked_later C_left_behind C_reasons_in) hs
abbrev N__law_taken : List Str := ["row", "many", "found", "cell"]
theorem sc__law_taken : FnScope N__law_taken ["row", "many"] (defScope s__law_taken) := ⟨rfl, rfl, rfl, by decide +kernel, rfl, by decide +kernel, by decide +kernel⟩
def t__law_taken : SD :=
    sdSeq (sdIf (ttPB (tP2 odGt (tP2 odIx (pVar 0) (pC (.int 3))) (pC (.int 0))))
    (sdSeq (sdSet 2 (eP (tP2 odMod (tPN odInt (apCons (tP2 odIx (pVar 0) (pC (.int 3))) apNil)) (pVar 1))))
    (sdSeq (sdSetI 0 (eP (pC (.int 3))) (eP (tP2 odDiv (tP2 odIx (pVar 0) (pC (.int 3))) (pVar 1))))
    (sdRetV 2)))
    (sdNil))
    (sdSeq (sdSetI 0 (eP (pC (.int 1))) (eP (tP2 odAdd (tP2 odIx (pVar 0) (pC (.int 1))) (pC (.int 1)))))
    (sdSeq (sdIf (ttPB (tP2 odGt (tP2 odIx (pVar 0) (pC (.int 1))) (tPN odLen (apCons (tP2 odIx (pVar 0) (pC (.int 0))) apNil))))
    (sdSeq (sdSetI 0 (eP (pC (.int 2))) (eP (tP2 odMod (tPN odInt (apCons (tP2 odAdd (tP2 odMul (tP2 odIx (pVar 0) (pC (.int 2))) (pC (.int 48271))) (pC (.int 11))) apNil)) (pC (.int 2147483647)))))
    (sdRet (eP (tP2 odMod (tPN odInt (apCons (tP2 odDiv (tP2 odIx (pVar 0) (pC (.int 2))) (pC (.int 7))) apNil)) (pVar 1)))))
    (sdNil))
    (sdSeq (sdSet 3 (tO2 odIx (eIxL 0 (eP (pC (.int 0)))) (eP (tP2 odSub (tP2 odIx (pVar 0) (pC (.int 1))) (pC (.int 1))))))
    (sdSeq (sdSetI 0 (eP (pC (.int 2))) (eP (tP2 odMod (tPN odInt (apCons (tP2 odAdd (tP2 odAdd (tP2 odMul (tP2 odIx (pVar 0) (pC (.int 2))) (pC (.int 48271))) (pVar 3)) (pC (.int 11))) apNil)) (pC (.int 2147483647)))))
    (sdSeq (sdIf (ttPB (tP2 odGe (pVar 3) (tP2 odPow (pC (.int 10)) (pC (.int 18)))))
    (sdSetI 0 (eP (pC (.int 3))) (eP (tP2 odDiv (pVar 3) (pVar 1))))
    (sdNil))
    (sdRet (eP (tP2 odMod (tPN odInt (apCons (pVar 3) apNil)) (pVar 1)))))))))
theorem d__law_taken {P : Program} {w : World} {K : PySem.W.Frag} {mg : MG} {base : Heap} {k : Nat} (B : Blt mg) (f : Addr) (cdv : Value) (A : Around) (outer : List Env) (s : Shared) (H : Hp) (E : XK) (hr : Room k (A.deeper (envOfC "_law_taken" (defScope s__law_taken) s.heap.objs.size f cdv))) :
    DSs (cxOf (L2.CX P w) P w K mg base N__law_taken "_law_taken" (defScope s__law_taken) f cdv A outer s H E) (defBody s__law_taken) (t__law_taken) :=
  have hu := hu_of hr
  dss_cons (ds_if (dt_cmp (op_gtD) okCmp (pu_ix hu (pu_var 0) (pu_int)) (pu_int) (nomark _))
    (dss_cons (ds_set sc__law_taken.nd (de_pu (pu_mod (pu_int1 B (pu_ix hu (pu_var 0) (pu_int))) (pu_var 1))))
    (dss_cons (ds_setI 0 hu (de_pu (pu_div (pu_ix hu (pu_var 0) (pu_int)) (pu_var 1))) (de_pu (pu_int)))
    (dss_one (ds_retv 2))))
    (dss_nil))
    (dss_cons (ds_setI 0 hu (de_pu (pu_add (pu_ix hu (pu_var 0) (pu_int)) (pu_int))) (de_pu (pu_int)))
    (dss_cons (ds_if (dt_cmp (op_gtD) okCmp (pu_ix hu (pu_var 0) (pu_int)) (pu_len B (pu_ix hu (pu_var 0) (pu_int))) (nomark _))
    (dss_cons (ds_setI 0 hu (de_pu (pu_mod (pu_int1 B (pu_add (pu_mul (pu_ix hu (pu_var 0) (pu_int)) (pu_int)) (pu_int))) (pu_int))) (de_pu (pu_int)))
    (dss_one (ds_ret (de_pu (pu_mod (pu_int1 B (pu_div (pu_ix hu (pu_var 0) (pu_int)) (pu_int))) (pu_var 1))))))
    (dss_nil))
    (dss_cons (ds_set sc__law_taken.nd (de_ix hu (de_ixl 0 hu (de_pu (pu_int))) (de_pu (pu_sub (pu_ix hu (pu_var 0) (pu_int)) (pu_int)))))
    (dss_cons (ds_setI 0 hu (de_pu (pu_mod (pu_int1 B (pu_add (pu_add (pu_mul (pu_ix hu (pu_var 0) (pu_int)) (pu_int)) (pu_var 3)) (pu_int))) (pu_int))) (de_pu (pu_int)))
    (dss_cons (ds_if (dt_cmp (op_geD) okCmp (pu_var 3) (pu_pow (pu_int) (pu_int)) (nomark _))
    (dss_one (ds_setI 0 hu (de_pu (pu_div (pu_var 3) (pu_var 1))) (de_pu (pu_int))))
    (dss_nil))
    (dss_one (ds_ret (de_pu (pu_mod (pu_int1 B (pu_var 3)) (pu_var 1))))))))))
theorem c__law_taken {P : Program} {w : World} {K : PySem.W.Frag} {mg : MG} {base : Heap} {k : Nat} {S : DSp} (Fu : FunAt K mg "_law_taken" s__law_taken) (B : Blt mg) (hs : ∀ ds post, S ds post → ds.length = ms__law_taken.length → t__law_taken (env0 ms__law_taken ds N__law_taken.length) (endsOf ms__law_taken post)) : Cal P w K mg base "_law_taken" s__law_taken (k + 1) ["row", "many"] ms__law_taken S :=
  cal_mk Fu sc__law_taken rfl (fun _ _ _ _ _ _ us hl => match us, hl with | [_, _], _ => rfl) (d__law_taken B) hs
abbrev N__law_pick : List Str := ["row", "some"]
theorem sc__law_pick : FnScope N__law_pick ["row", "some"] (defScope s__law_pick) := ⟨rfl, rfl, rfl, by decide +kernel, rfl, by decide +kernel, by decide +kernel⟩
def t__law_pick (S__law_taken : DSp) : SD :=
    sdRet (eIxL 1 (eCall ms__law_taken S__law_taken [] (gaIoL 0 (gaVal (eP (tPN odLen (apCons (pVar 1) apNil))) (gaNil)))))
theorem d__law_pick {P : Program} {w : World} {K : PySem.W.Frag} {mg : MG} {base : Heap} {k : Nat} {S__law_taken : DSp} (B : Blt mg) (C__law_taken : Cal P w K mg base "_law_taken" s__law_taken k ["row", "many"] ms__law_taken S__law_taken) (f : Addr) (cdv : Value) (A : Around) (outer : List Env) (s : Shared) (H : Hp) (E : XK) (hr : Room k (A.deeper (envOfC "_law_pick" (defScope s__law_pick) s.heap.objs.size f cdv))) :
    DSs (cxOf (L2.CX P w) P w K mg base N__law_pick "_law_pick" (defScope s__law_pick) f cdv A outer s H E) (defBody s__law_pick) (t__law_pick S__law_taken) :=
  have hu := hu_of hr
  dss_one (ds_ret (de_ixl 1 hu (dc_call C__law_taken hr (dg_iol 0 (dg_val (de_pu (pu_len B (pu_var 1))) (dg_nil))))))
theorem c__law_pick {P : Program} {w : World} {K : PySem.W.Frag} {mg : MG} {base : Heap} {k : Nat} {S__law_taken : DSp} {S : DSp} (Fu : FunAt K mg "_law_pick" s__law_pick) (B : Blt mg) (C__law_taken : Cal P w K mg base "_law_taken" s__law_taken k ["row", "many"] ms__law_taken S__law_taken) (hs : ∀ ds post, S ds post → ds.length = ms__law_pick.length → t__law_pick S__law_taken (env0 ms__law_pick ds N__law_pick.length) (endsOf ms__law_pick post)) : Cal P w K mg base "_law_pick" s__law_pick (k + 1) ["row", "some"] ms__law_pick S :=
  cal_mk Fu sc__law_pick rfl (fun _ _ _ _ _ _ us hl => match us, hl with | [_, _], _ => rfl) (d__law_pick B C__law_taken) hs
abbrev N__law_by : List Str := ["entries", "rule", "many", "found", "periods", "back", "at", "number", "moment", "tags", "stays", "fresh"]
theorem sc__law_by : FnScope N__law_by ["entries", "rule"] (defScope s__law_by) := ⟨rfl, rfl, rfl, by decide +kernel, rfl, by decide +kernel, by decide +kernel⟩
def b__law_by_1 : SD :=
    sdSeq (sdSet 6 (eP (tP2 odSub (tP2 odSub (pVar 2) (pC (.int 1))) (pVar 5))))
    (sdSeq (sdAsg (.tu [.nm 7, .nm 8, .nm 9]) (eIxL 0 (eVar 6)))
    (sdSeq (sdSet 10 (eP (tP2 odEq (pVar 7) (tP2 odIx (pVar 1) (pC (.int 1))))))
    (sdSeq (sdIf (ttPB (tP2 odEq (tP2 odIx (pVar 1) (pC (.int 0))) (pC (.str ("last" : Str)))))
    (sdSet 10 (eP (tP2 odLt (pVar 5) (tP2 odIx (pVar 1) (pC (.int 1))))))
    (sdIf (ttPB (tP2 odEq (tP2 odIx (pVar 1) (pC (.int 0))) (pC (.str ("each" : Str)))))
    (sdSeq (sdSet 11 (eP (tP2 odNe (pSl (pVar 4) (opSome (tP1 odNeg (pC (.int 1)))) (opNone)) (tPN odLst (apCons (tP2 odDiv (pVar 8) (tP2 odIx (pVar 1) (pC (.int 1)))) (apNil))))))
    (sdSeq (sdSet 10 (eAnd (eVar 11) (eP (tP2 odLt (tPN odLen (apCons (pVar 4) apNil)) (tP2 odIx (pVar 1) (pC (.int 2)))))))
    (sdSet 4 (tO2 odAdd (eVar 4) (eIf (ttTru (pVar 11)) (tON odLst (aCons (eP (tP2 odDiv (pVar 8) (tP2 odIx (pVar 1) (pC (.int 1))))) (aNil))) (eNew (.lst []) 1))))))
    (sdIf (ttPB (tP2 odEq (tP2 odIx (pVar 1) (pC (.int 0))) (pC (.str ("tag" : Str)))))
    (sdSet 10 (tO2 odIn (eIxL 1 (eP (pC (.int 1)))) (tON odList (aCons (eVar 9) aNil))))
    (sdIf (ttPB (tP2 odEq (tP2 odIx (pVar 1) (pC (.int 0))) (pC (.str ("within" : Str)))))
    (sdSet 10 (eP (tP2 odGe (tP2 odAdd (pVar 8) (tP2 odIx (pVar 1) (pC (.int 1)))) (tP2 odIx (tP2 odIx (pVar 0) (tP2 odSub (pVar 2) (pC (.int 1)))) (pC (.int 1))))))
    (sdNil)))))
    (sdIf (ttTru (pVar 10))
    (sdApp 3 (eVar 6))
    (sdNil)))))
def t__law_by : SD :=
    sdSeq (sdPar3 2 3 4 (eP (tPN odLen (apCons (pVar 0) apNil))) (eNew (.lst []) 1) (eNew (.lst []) 1))
    (sdSeq (sdFor (itN odRng1 (aCons (eVar 2) (aNil))) (.nm 5)
    (b__law_by_1))
    (sdRetV 3))
theorem d__law_by {P : Program} {w : World} {K : PySem.W.Frag} {mg : MG} {base : Heap} {k : Nat} (B : Blt mg) (f : Addr) (cdv : Value) (A : Around) (outer : List Env) (s : Shared) (H : Hp) (E : XK) (hr : Room k (A.deeper (envOfC "_law_by" (defScope s__law_by) s.heap.objs.size f cdv))) :
    DSs (cxOf (L2.CX P w) P w K mg base N__law_by "_law_by" (defScope s__law_by) f cdv A outer s H E) (defBody s__law_by) (t__law_by) :=
  have hu := hu_of hr
  dss_cons (ds_par3 (i := 2) (j := 3) (l := 4) rfl sc__law_by.nd (de_pu (pu_len B (pu_var 0))) (de_nil 1) (de_nil 1))
    (dss_cons (ds_for (passes_of rfl) rfl (di_rng1 B.range (da_cons (de_var 2) (da_nil))) (dgt_nm 5 sc__law_by.nd)
    (dss_cons (ds_set sc__law_by.nd (de_pu (pu_sub (pu_sub (pu_var 2) (pu_int)) (pu_var 5))))
    (dss_cons (ds_asg (de_ixl 0 hu (de_var 6)) (dgt_tu rfl (dgts_cons (dgt_nm 7 sc__law_by.nd) (dgts_cons (dgt_nm 8 sc__law_by.nd) (dgts_cons (dgt_nm 9 sc__law_by.nd) (dgts_nil))))))
    (dss_cons (ds_set sc__law_by.nd (de_pu (pu_cmp (op_eqA hr.units) okEq (pu_var 7) (pu_ix hu (pu_var 1) (pu_int)) (nomark _))))
    (dss_cons (ds_if (dt_cmp (op_eqA hr.units) okEq (pu_ix hu (pu_var 1) (pu_int)) (pu_str) (nomark _))
    (dss_one (ds_set sc__law_by.nd (de_pu (pu_cmp (op_ltD) okCmp (pu_var 5) (pu_ix hu (pu_var 1) (pu_int)) (nomark _)))))
    (dss_one (ds_if (dt_cmp (op_eqA hr.units) okEq (pu_ix hu (pu_var 1) (pu_int)) (pu_str) (nomark _))
    (dss_cons (ds_set sc__law_by.nd (de_pu (pu_cmp (op_neA hr.units) okNe (pu_slice (pu_var 4) (puo_some (pu_neg (pu_int))) (puo_none)) (pu_lst (pua_cons (pu_div (pu_var 8) (pu_ix hu (pu_var 1) (pu_int))) (pua_nil))) (nomark _))))
    (dss_cons (ds_set sc__law_by.nd (de_and (de_var 11) (de_one (de_pu (pu_cmp (op_ltD) okCmp (pu_len B (pu_var 4)) (pu_ix hu (pu_var 1) (pu_int)) (nomark _))))))
    (dss_one (ds_set sc__law_by.nd (de_add (de_var 4) (de_ifExp (dt_tru (pu_var 11)) (de_lst (da_cons (de_pu (pu_div (pu_var 8) (pu_ix hu (pu_var 1) (pu_int)))) (da_nil))) (de_nil 1)))))))
    (dss_one (ds_if (dt_cmp (op_eqA hr.units) okEq (pu_ix hu (pu_var 1) (pu_int)) (pu_str) (nomark _))
    (dss_one (ds_set sc__law_by.nd (de_cmp (op_inA hu) okIn (de_ixl 1 hu (de_pu (pu_int))) (de_list rfl B (de_var 9)) (by with_unfolding_all rfl))))
    (dss_one (ds_if (dt_cmp (op_eqA hr.units) okEq (pu_ix hu (pu_var 1) (pu_int)) (pu_str) (nomark _))
    (dss_one (ds_set sc__law_by.nd (de_pu (pu_cmp (op_geD) okCmp (pu_add (pu_var 8) (pu_ix hu (pu_var 1) (pu_int))) (pu_ix hu (pu_ix hu (pu_var 0) (pu_sub (pu_var 2) (pu_int))) (pu_int)) (nomark _)))))
    (dss_nil))))))))
    (dss_one (ds_if (dt_tru (pu_var 10))
    (dss_one (ds_append 3 (de_var 6)))
    (dss_nil))))))))
    (dss_one (ds_retv 3)))
theorem c__law_by {P : Program} {w : World} {K : PySem.W.Frag} {mg : MG} {base : Heap} {k : Nat} {S : DSp} (Fu : FunAt K mg "_law_by" s__law_by) (B : Blt mg) (hs : ∀ ds post, S ds post → ds.length = ms__law_by.length → t__law_by (env0 ms__law_by ds N__law_by.length) (endsOf ms__law_by post)) : Cal P w K mg base "_law_by" s__law_by (k + 1) ["entries", "rule"] ms__law_by S :=
  cal_mk Fu sc__law_by rfl (fun _ _ _ _ _ _ us hl => match us, hl with | [_, _], _ => rfl) (d__law_by B) hs
abbrev N__law_due : List Str := ["entries", "rules", "told", "due", "entry", "k", "at"]
theorem sc__law_due : FnScope N__law_due ["entries", "rules"] (defScope s__law_due) := ⟨rfl, rfl, rfl, by decide +kernel, rfl, by decide +kernel, by decide +kernel⟩
def e__law_due_1 (S__law_by : DSp) : ET :=
    eNew (.lst []) 1
def b__law_due_1 (S__law_by : DSp) : SD :=
    sdAppP (thIx (thVar 2) (pVar 6)) (pVar 5)
def b__law_due_2 (S__law_by : DSp) : SD :=
    sdFor (itSeq (eCall ms__law_by S__law_by [] (gaVal (eVar 0) (gaVal (eIxL 1 (eVar 5)) (gaNil))))) (.nm 6)
    (b__law_due_1 S__law_by)
def b__law_due_3 (S__law_by : DSp) : SD :=
    sdIf (ttOr (ttPB (tP2 odNe (tP2 odIx (pVar 2) (pVar 6)) (tPN odLst (apNil)))) (ttPB (tP2 odEq (pVar 6) (tP2 odSub (tPN odLen (apCons (pVar 0) apNil)) (pC (.int 1))))))
    (sdSetI 3 (tO2 odIx (eIxL 0 (eVar 6)) (eP (pC (.int 0)))) (eIxL 2 (eVar 6)))
    (sdNil)
def t__law_due (S__law_by : DSp) : SD :=
    sdSeq (sdPar 2 3 (eLcO 1 (itSeq (eVar 0)) (.nm 4) (ttYes) (e__law_due_1 S__law_by) [4]) (eNew (.dK []) 1))
    (sdSeq (sdFor (itN odRng1 (aCons (eP (tPN odLen (apCons (pVar 1) apNil))) (aNil))) (.nm 5)
    (b__law_due_2 S__law_by))
    (sdSeq (sdFor (itN odRng1 (aCons (eP (tPN odLen (apCons (pVar 0) apNil))) (aNil))) (.nm 6)
    (b__law_due_3 S__law_by))
    (sdRetV 3)))
theorem d__law_due {P : Program} {w : World} {K : PySem.W.Frag} {mg : MG} {base : Heap} {k : Nat} {S__law_by : DSp} (B : Blt mg) (C__law_by : Cal P w K mg base "_law_by" s__law_by k ["entries", "rule"] ms__law_by S__law_by) (f : Addr) (cdv : Value) (A : Around) (outer : List Env) (s : Shared) (H : Hp) (E : XK) (hr : Room k (A.deeper (envOfC "_law_due" (defScope s__law_due) s.heap.objs.size f cdv))) :
    DSs (cxOf (L2.CX P w) P w K mg base N__law_due "_law_due" (defScope s__law_due) f cdv A outer s H E) (defBody s__law_due) (t__law_due S__law_by) :=
  have hu := hu_of hr
  dss_cons (ds_par (i := 2) (j := 3) rfl sc__law_due.nd (de_lcO 1 [(("entry" : Str), 4)] rfl sc__law_due.nd (di_seq (de_var 0)) (blkOk_by (N := N__law_due) (sc := defScope s__law_due) (by decide +kernel)) (fun _ _ _ _ _ => dgt_nm 4 sc__law_due.nd) (fun _ _ _ _ _ => dpts_nil) (fun _ _ _ _ _ => de_nil 1)) (de_dK 1))
    (dss_cons (ds_for (passes_of rfl) rfl (di_rng1 B.range (da_cons (de_pu (pu_len B (pu_var 1))) (da_nil))) (dgt_nm 5 sc__law_due.nd)
    (dss_one (ds_for (passes_of rfl) rfl (di_seq (dc_call C__law_by hr (dg_val (de_var 0) (dg_val (de_ixl 1 hu (de_var 5)) (dg_nil))))) (dgt_nm 6 sc__law_due.nd)
    (dss_one (ds_appendP (th_ix hu (th_var 2) (pu_var 6)) (pu_var 5))))))
    (dss_cons (ds_for (passes_of rfl) rfl (di_rng1 B.range (da_cons (de_pu (pu_len B (pu_var 0))) (da_nil))) (dgt_nm 6 sc__law_due.nd)
    (dss_one (ds_if ((dt_or (dt_cmp (op_neA hr.units) okNe (pu_ix hu (pu_var 2) (pu_var 6)) (pu_lst (pua_nil)) (nomark _)) (dt_or1 (dt_cmp (op_eqA hr.units) okEq (pu_var 6) (pu_sub (pu_len B (pu_var 0)) (pu_int)) (nomark _)))).dt)
    (dss_one (ds_setI 3 hu (de_ixl 2 hu (de_var 6)) (de_ix hu (de_ixl 0 hu (de_var 6)) (de_pu (pu_int)))))
    (dss_nil))))
    (dss_one (ds_retv 3))))
theorem c__law_due {P : Program} {w : World} {K : PySem.W.Frag} {mg : MG} {base : Heap} {k : Nat} {S__law_by : DSp} {S : DSp} (Fu : FunAt K mg "_law_due" s__law_due) (B : Blt mg) (C__law_by : Cal P w K mg base "_law_by" s__law_by k ["entries", "rule"] ms__law_by S__law_by) (hs : ∀ ds post, S ds post → ds.length = ms__law_due.length → t__law_due S__law_by (env0 ms__law_due ds N__law_due.length) (endsOf ms__law_due post)) : Cal P w K mg base "_law_due" s__law_due (k + 1) ["entries", "rules"] ms__law_due S :=
  cal_mk Fu sc__law_due rfl (fun _ _ _ _ _ _ us hl => match us, hl with | [_, _], _ => rfl) (d__law_due B C__law_by) hs
abbrev N__law_step : List Str := ["row"]
theorem sc__law_step : FnScope N__law_step ["row"] (defScope s__law_step) := ⟨rfl, rfl, rfl, by decide +kernel, rfl, by decide +kernel, by decide +kernel⟩
def t__law_step (S__law_pick : DSp) : SD :=
    sdRet (eCall ms__law_pick S__law_pick [] (gaIoL 0 (gaVal (tON odLst (aCons (eP (pC (.int 1))) (aCons (eP (pC (.int 2))) (aCons (eP (pC (.int 7))) (aCons (eP (pC (.int 7))) (aCons (eP (pC (.int 40))) (aCons (eP (pC (.int 40))) (aCons (eP (pC (.int 1000))) (aCons (eP (tP2 odPow (pC (.int 10)) (pC (.int 9)))) (aNil)))))))))) (gaNil))))
theorem d__law_step {P : Program} {w : World} {K : PySem.W.Frag} {mg : MG} {base : Heap} {k : Nat} {S__law_pick : DSp} (B : Blt mg) (C__law_pick : Cal P w K mg base "_law_pick" s__law_pick k ["row", "some"] ms__law_pick S__law_pick) (f : Addr) (cdv : Value) (A : Around) (outer : List Env) (s : Shared) (H : Hp) (E : XK) (hr : Room k (A.deeper (envOfC "_law_step" (defScope s__law_step) s.heap.objs.size f cdv))) :
    DSs (cxOf (L2.CX P w) P w K mg base N__law_step "_law_step" (defScope s__law_step) f cdv A outer s H E) (defBody s__law_step) (t__law_step S__law_pick) :=
  have hu := hu_of hr
  dss_one (ds_ret (dc_call C__law_pick hr (dg_iol 0 (dg_val (de_lst (da_cons (de_pu (pu_int)) (da_cons (de_pu (pu_int)) (da_cons (de_pu (pu_int)) (da_cons (de_pu (pu_int)) (da_cons (de_pu (pu_int)) (da_cons (de_pu (pu_int)) (da_cons (de_pu (pu_int)) (da_cons (de_pu (pu_pow (pu_int) (pu_int))) (da_nil)))))))))) (dg_nil)))))
theorem c__law_step {P : Program} {w : World} {K : PySem.W.Frag} {mg : MG} {base : Heap} {k : Nat} {S__law_pick : DSp} {S : DSp} (Fu : FunAt K mg "_law_step" s__law_step) (B : Blt mg) (C__law_pick : Cal P w K mg base "_law_pick" s__law_pick k ["row", "some"] ms__law_pick S__law_pick) (hs : ∀ ds post, S ds post → ds.length = ms__law_step.length → t__law_step S__law_pick (env0 ms__law_step ds N__law_step.length) (endsOf ms__law_step post)) : Cal P w K mg base "_law_step" s__law_step (k + 1) ["row"] ms__law_step S :=
  cal_mk Fu sc__law_step rfl (fun _ _ _ _ _ _ us hl => match us, hl with | [_], _ => rfl) (d__law_step B C__law_pick) hs
abbrev N__law_label : List Str := ["row", "signs", "many", "k"]
theorem sc__law_label : FnScope N__law_label ["row"] (defScope s__law_label) := ⟨rfl, rfl, rfl, by decide +kernel, rfl, by decide +kernel, by decide +kernel⟩
def e__law_label_1 (S__law_taken : DSp) : ET :=
    eIxL 1 (eCall ms__law_taken S__law_taken [] (gaIoL 0 (gaVal (eP (pC (.int 94))) (gaNil))))
def t__law_label (S__law_taken : DSp) : SD :=
    sdSeq (sdSet 1 (eP (pC (.str (" !\"#$&'()*+,-./0123456789:;<=>?@ABCDEFGHIJKLMNOPQRSTUVWXYZ[\\]^_`abcdefghijklmnopqrstuvwxyz{|}~" : Str)))))
    (sdSeq (sdSet 2 (tO2 odIx (tON odLst (aCons (eP (pC (.int 1))) (aCons (eP (pC (.int 1))) (aCons (eP (pC (.int 2))) (aCons (eP (pC (.int 3))) (aCons (eP (pC (.int 6))) (aCons (eP (pC (.int 20))) (aNil)))))))) (eCall ms__law_taken S__law_taken [] (gaIoL 0 (gaVal (eP (pC (.int 6))) (gaNil))))))
    (sdRet (eM odJoin (eP (pC (.str ("" : Str)))) (aCons (eLc (itN odRng1 (aCons (eVar 2) (aNil))) (.nm 3) (ttYes) (e__law_label_1 S__law_taken) [3]) (aNil)))))
theorem d__law_label {P : Program} {w : World} {K : PySem.W.Frag} {mg : MG} {base : Heap} {k : Nat} {S__law_taken : DSp} (B : Blt mg) (C__law_taken : Cal P w K mg base "_law_taken" s__law_taken k ["row", "many"] ms__law_taken S__law_taken) (f : Addr) (cdv : Value) (A : Around) (outer : List Env) (s : Shared) (H : Hp) (E : XK) (hr : Room k (A.deeper (envOfC "_law_label" (defScope s__law_label) s.heap.objs.size f cdv))) :
    DSs (cxOf (L2.CX P w) P w K mg base N__law_label "_law_label" (defScope s__law_label) f cdv A outer s H E) (defBody s__law_label) (t__law_label S__law_taken) :=
  have hu := hu_of hr
  dss_cons (ds_set sc__law_label.nd (de_pu (pu_str)))
    (dss_cons (ds_set sc__law_label.nd (de_ix hu (de_lst (da_cons (de_pu (pu_int)) (da_cons (de_pu (pu_int)) (da_cons (de_pu (pu_int)) (da_cons (de_pu (pu_int)) (da_cons (de_pu (pu_int)) (da_cons (de_pu (pu_int)) (da_nil)))))))) (dc_call C__law_taken hr (dg_iol 0 (dg_val (de_pu (pu_int)) (dg_nil))))))
    (dss_one (ds_ret (de_strM PySem.F.slot_str_join PySem.F.type_str_join mt_join okJoin (de_pu (pu_str)) (da_cons (de_lc [(("k" : Str), 3)] rfl sc__law_label.nd (di_rng1 B.range (da_cons (de_var 2) (da_nil))) (blkOk_by (N := N__law_label) (sc := defScope s__law_label) (by decide +kernel)) (fun _ _ _ _ _ => dgt_nm 3 sc__law_label.nd) (fun _ _ _ _ _ => dpts_nil) (fun _ _ _ _ _ => de_ixl 1 hu (dc_call C__law_taken hr (dg_iol 0 (dg_val (de_pu (pu_int)) (dg_nil)))))) (da_nil))))))
theorem c__law_label {P : Program} {w : World} {K : PySem.W.Frag} {mg : MG} {base : Heap} {k : Nat} {S__law_taken : DSp} {S : DSp} (Fu : FunAt K mg "_law_label" s__law_label) (B : Blt mg) (C__law_taken : Cal P w K mg base "_law_taken" s__law_taken k ["row", "many"] ms__law_taken S__law_taken) (hs : ∀ ds post, S ds post → ds.length = ms__law_label.length → t__law_label S__law_taken (env0 ms__law_label ds N__law_label.length) (endsOf ms__law_label post)) : Cal P w K mg base "_law_label" s__law_label (k + 1) ["row"] ms__law_label S :=
  cal_mk Fu sc__law_label rfl (fun _ _ _ _ _ _ us hl => match us, hl with | [_], _ => rfl) (d__law_label B C__law_taken) hs
abbrev N__law_entries : List Str := ["row", "pool", "step", "many", "number", "wide", "moment", "found", "k", "tags", "j"]
theorem sc__law_entries : FnScope N__law_entries ["row", "pool", "step"] (defScope s__law_entries) := ⟨rfl, rfl, rfl, by decide +kernel, rfl, by decide +kernel, by decide +kernel⟩
def e__law_entries_1 (S__law_pick : DSp) (S__law_taken : DSp) : ET :=
    eCall ms__law_pick S__law_pick [] (gaIoL 0 (gaVal (tO2 odAdd (eVar 1) (tON odLst (aCons (eP (pC (.str ("" : Str)))) (aNil)))) (gaNil)))
def b__law_entries_1 (S__law_pick : DSp) (S__law_taken : DSp) : SD :=
    sdSeq (sdSet 9 (eLc (itN odRng1 (aCons (eCall ms__law_pick S__law_pick [] (gaIoL 0 (gaVal (tON odLst (aCons (eP (pC (.int 0))) (aCons (eP (pC (.int 0))) (aCons (eP (pC (.int 1))) (aCons (eP (pC (.int 2))) (aNil)))))) (gaNil)))) (aNil))) (.nm 10) (ttYes) (e__law_entries_1 S__law_pick S__law_taken) [10]))
    (sdSeq (sdApp 7 (tON odTup (aCons (eVar 4) (aCons (eVar 6) (aCons (eIf (ttB (tO2 odEq (eCall ms__law_taken S__law_taken [] (gaIoL 0 (gaVal (eP (pC (.int 2))) (gaNil)))) (eP (pC (.int 0))))) (eVar 9) (tON odTuple (aCons (eVar 9) aNil))) (aNil))))))
    (sdPar 4 6 (tO2 odAdd (eP (tP2 odAdd (pVar 4) (pC (.int 1)))) (eCall ms__law_taken S__law_taken [] (gaIoL 0 (gaVal (eVar 5) (gaNil))))) (tO2 odAdd (eP (tP2 odAdd (pVar 6) (pC (.int 1)))) (eCall ms__law_taken S__law_taken [] (gaIoL 0 (gaVal (eVar 2) (gaNil)))))))
def t__law_entries (S__law_pick : DSp) (S__law_taken : DSp) : SD :=
    sdSeq (sdSet 3 (eCall ms__law_pick S__law_pick [] (gaIoL 0 (gaVal (tON odLst (aCons (eP (pC (.int 0))) (aCons (eP (pC (.int 1))) (aCons (eP (pC (.int 2))) (aCons (eP (pC (.int 3))) (aCons (eP (pC (.int 4))) (aCons (eP (pC (.int 5))) (aCons (eP (pC (.int 6))) (aCons (eP (pC (.int 7))) (aCons (eP (pC (.int 8))) (aCons (eP (pC (.int 11))) (aCons (eP (pC (.int 15))) (aCons (eP (pC (.int 60))) (aNil)))))))))))))) (gaNil)))))
    (sdSeq (sdPar 4 5 (eCall ms__law_pick S__law_pick [] (gaIoL 0 (gaVal (tON odLst (aCons (eP (pC (.int 0))) (aCons (eP (pC (.int 0))) (aCons (eP (pC (.int 5))) (aCons (eP (tP2 odSub (tP2 odPow (pC (.int 10)) (pC (.int 9))) (pC (.int 240)))) (aNil)))))) (gaNil)))) (tO2 odAdd (eP (pC (.int 1))) (eCall ms__law_taken S__law_taken [] (gaIoL 0 (gaVal (eP (pC (.int 4))) (gaNil))))))
    (sdSeq (sdPar 6 7 (eCall ms__law_pick S__law_pick [] (gaIoL 0 (gaVal (tON odLst (aCons (eP (pC (.int 0))) (aCons (eP (pC (.int 3))) (aCons (eP (tP2 odSub (tP2 odPow (pC (.int 10)) (pC (.int 12))) (tP2 odMul (pC (.int 61)) (pVar 2)))) (aNil))))) (gaNil)))) (eNew (.lst []) 1))
    (sdSeq (sdFor (itN odRng1 (aCons (eVar 3) (aNil))) (.nm 8)
    (b__law_entries_1 S__law_pick S__law_taken))
    (sdRetV 7))))
theorem d__law_entries {P : Program} {w : World} {K : PySem.W.Frag} {mg : MG} {base : Heap} {k : Nat} {S__law_pick : DSp} {S__law_taken : DSp} (B : Blt mg) (C__law_pick : Cal P w K mg base "_law_pick" s__law_pick k ["row", "some"] ms__law_pick S__law_pick) (C__law_taken : Cal P w K mg base "_law_taken" s__law_taken k ["row", "many"] ms__law_taken S__law_taken) (f : Addr) (cdv : Value) (A : Around) (outer : List Env) (s : Shared) (H : Hp) (E : XK) (hr : Room k (A.deeper (envOfC "_law_entries" (defScope s__law_entries) s.heap.objs.size f cdv))) :
    DSs (cxOf (L2.CX P w) P w K mg base N__law_entries "_law_entries" (defScope s__law_entries) f cdv A outer s H E) (defBody s__law_entries) (t__law_entries S__law_pick S__law_taken) :=
  have hu := hu_of hr
  dss_cons (ds_set sc__law_entries.nd (dc_call C__law_pick hr (dg_iol 0 (dg_val (de_lst (da_cons (de_pu (pu_int)) (da_cons (de_pu (pu_int)) (da_cons (de_pu (pu_int)) (da_cons (de_pu (pu_int)) (da_cons (de_pu (pu_int)) (da_cons (de_pu (pu_int)) (da_cons (de_pu (pu_int)) (da_cons (de_pu (pu_int)) (da_cons (de_pu (pu_int)) (da_cons (de_pu (pu_int)) (da_cons (de_pu (pu_int)) (da_cons (de_pu (pu_int)) (da_nil)))))))))))))) (dg_nil)))))
    (dss_cons (ds_par (i := 4) (j := 5) rfl sc__law_entries.nd (dc_call C__law_pick hr (dg_iol 0 (dg_val (de_lst (da_cons (de_pu (pu_int)) (da_cons (de_pu (pu_int)) (da_cons (de_pu (pu_int)) (da_cons (de_pu (pu_sub (pu_pow (pu_int) (pu_int)) (pu_int))) (da_nil)))))) (dg_nil)))) (de_add (de_pu (pu_int)) (dc_call C__law_taken hr (dg_iol 0 (dg_val (de_pu (pu_int)) (dg_nil))))))
    (dss_cons (ds_par (i := 6) (j := 7) rfl sc__law_entries.nd (dc_call C__law_pick hr (dg_iol 0 (dg_val (de_lst (da_cons (de_pu (pu_int)) (da_cons (de_pu (pu_int)) (da_cons (de_pu (pu_sub (pu_pow (pu_int) (pu_int)) (pu_mul (pu_int) (pu_var 2)))) (da_nil))))) (dg_nil)))) (de_nil 1))
    (dss_cons (ds_for (passes_of rfl) rfl (di_rng1 B.range (da_cons (de_var 3) (da_nil))) (dgt_nm 8 sc__law_entries.nd)
    (dss_cons (ds_setLc [(("j" : Str), 10)] rfl sc__law_entries.nd (di_rng1 B.range (da_cons (dc_call C__law_pick hr (dg_iol 0 (dg_val (de_lst (da_cons (de_pu (pu_int)) (da_cons (de_pu (pu_int)) (da_cons (de_pu (pu_int)) (da_cons (de_pu (pu_int)) (da_nil)))))) (dg_nil)))) (da_nil))) (blkOk_by (N := N__law_entries) (sc := defScope s__law_entries) (by decide +kernel)) (fun _ _ _ _ _ => dgt_nm 10 sc__law_entries.nd) (fun _ _ _ _ _ => dpts_nil) (fun _ _ _ _ _ => dc_call C__law_pick hr (dg_iol 0 (dg_val (de_add (de_var 1) (de_lst (da_cons (de_pu (pu_str)) (da_nil)))) (dg_nil)))) rfl)
    (dss_cons (ds_append 7 (de_tup (da_cons (de_var 4) (da_cons (de_var 6) (da_cons (de_ifExp (dt_cmpE (op_eqA hr.units) okEq (dc_call C__law_taken hr (dg_iol 0 (dg_val (de_pu (pu_int)) (dg_nil)))) (de_pu (pu_int)) (nomark _)) (de_var 9) (de_tuple B (de_var 9))) (da_nil))))))
    (dss_one (ds_par (i := 4) (j := 6) rfl sc__law_entries.nd (de_add (de_pu (pu_add (pu_var 4) (pu_int))) (dc_call C__law_taken hr (dg_iol 0 (dg_val (de_var 5) (dg_nil))))) (de_add (de_pu (pu_add (pu_var 6) (pu_int))) (dc_call C__law_taken hr (dg_iol 0 (dg_val (de_var 2) (dg_nil))))))))))
    (dss_one (ds_retv 7)))))
theorem c__law_entries {P : Program} {w : World} {K : PySem.W.Frag} {mg : MG} {base : Heap} {k : Nat} {S__law_pick : DSp} {S__law_taken : DSp} {S : DSp} (Fu : FunAt K mg "_law_entries" s__law_entries) (B : Blt mg) (C__law_pick : Cal P w K mg base "_law_pick" s__law_pick k ["row", "some"] ms__law_pick S__law_pick) (C__law_taken : Cal P w K mg base "_law_taken" s__law_taken k ["row", "many"] ms__law_taken S__law_taken) (hs : ∀ ds post, S ds post → ds.length = ms__law_entries.length → t__law_entries S__law_pick S__law_taken (env0 ms__law_entries ds N__law_entries.length) (endsOf ms__law_entries post)) : Cal P w K mg base "_law_entries" s__law_entries (k + 1) ["row", "pool", "step"] ms__law_entries S :=
  cal_mk Fu sc__law_entries rfl (fun _ _ _ _ _ _ us hl => match us, hl with | [_, _, _], _ => rfl) (d__law_entries B C__law_pick C__law_taken) hs
abbrev N__law_rule : List Str := ["row", "pool", "entries", "step", "kind", "many", "period", "numbers", "entry"]
theorem sc__law_rule : FnScope N__law_rule ["row", "pool", "entries", "step"] (defScope s__law_rule) := ⟨rfl, rfl, rfl, by decide +kernel, rfl, by decide +kernel, by decide +kernel⟩
def e__law_rule_1 (S__law_taken : DSp) (S__law_pick : DSp) : ET :=
    eIxL 8 (eP (pC (.int 0)))
def t__law_rule (S__law_taken : DSp) (S__law_pick : DSp) : SD :=
    sdSeq (sdPar 4 5 (eCall ms__law_taken S__law_taken [] (gaIoL 0 (gaVal (eP (pC (.int 5))) (gaNil)))) (eCall ms__law_pick S__law_pick [] (gaIoL 0 (gaVal (tON odLst (aCons (eP (pC (.int 1))) (aCons (eP (pC (.int 1))) (aCons (eP (pC (.int 2))) (aCons (eP (pC (.int 3))) (aCons (eP (pC (.int 60))) (aCons (tO2 odAdd (eP (pC (.int 1))) (eCall ms__law_taken S__law_taken [] (gaIoL 0 (gaVal (eP (pC (.int 60))) (gaNil))))) (aNil)))))))) (gaNil)))))
    (sdSeq (sdIf (ttPB (tP2 odEq (pVar 4) (pC (.int 0))))
    (sdRet (tON odTup (aCons (eP (pC (.str ("last" : Str)))) (aCons (eVar 5) (aNil)))))
    (sdNil))
    (sdSeq (sdIf (ttPB (tP2 odEq (pVar 4) (pC (.int 1))))
    (sdSeq (sdSet 6 (eCall ms__law_pick S__law_pick [] (gaIoL 0 (gaVal (tON odLst (aCons (eP (pC (.int 1))) (aCons (eP (pC (.int 2))) (aCons (eVar 3) (aCons (tO2 odAdd (eP (pC (.int 1))) (eCall ms__law_taken S__law_taken [] (gaIoL 0 (gaVal (eP (tP2 odMul (pC (.int 3)) (pVar 3))) (gaNil))))) (aCons (eP (tP2 odMul (pC (.int 2)) (pVar 3))) (aCons (eP (tP2 odPow (pC (.int 10)) (pC (.int 9)))) (aNil)))))))) (gaNil)))))
    (sdRet (tON odTup (aCons (eP (pC (.str ("each" : Str)))) (aCons (eP (tPN odMin2 (apCons (tP2 odPow (pC (.int 10)) (pC (.int 9))) (apCons (pVar 6) apNil)))) (aCons (eVar 5) (aNil)))))))
    (sdNil))
    (sdSeq (sdIf (ttPB (tP2 odEq (pVar 4) (pC (.int 2))))
    (sdRet (tON odTup (aCons (eP (pC (.str ("tag" : Str)))) (aCons (eCall ms__law_pick S__law_pick [] (gaIoL 0 (gaVal (eVar 1) (gaNil)))) (aNil)))))
    (sdNil))
    (sdSeq (sdIf (ttPB (tP2 odEq (pVar 4) (pC (.int 3))))
    (sdRet (tON odTup (aCons (eP (pC (.str ("within" : Str)))) (aCons (eCall ms__law_pick S__law_pick [] (gaIoL 0 (gaVal (tON odLst (aCons (eP (pC (.int 0))) (aCons (eP (pC (.int 1))) (aCons (eCall ms__law_taken S__law_taken [] (gaIoL 0 (gaVal (eP (tP2 odAdd (tP2 odMul (pC (.int 4)) (pVar 3)) (pC (.int 1)))) (gaNil)))) (aCons (eVar 3) (aCons (eP (tP2 odPow (pC (.int 10)) (pC (.int 12)))) (aNil))))))) (gaNil)))) (aNil)))))
    (sdNil))
    (sdSeq (sdSet 7 (eLc (itSeq (eVar 2)) (.nm 8) (ttYes) (e__law_rule_1 S__law_taken S__law_pick) [8]))
    (sdRet (tON odTup (aCons (eP (pC (.str ("number" : Str)))) (aCons (eCall ms__law_pick S__law_pick [] (gaIoL 0 (gaVal (tO2 odAdd (eVar 7) (tON odLst (aCons (eP (pC (.int 0))) (aCons (eP (tP2 odPow (pC (.int 10)) (pC (.int 9)))) (aCons (eCall ms__law_taken S__law_taken [] (gaIoL 0 (gaVal (eP (pC (.int 1000))) (gaNil)))) (aNil)))))) (gaNil)))) (aNil))))))))))
theorem d__law_rule {P : Program} {w : World} {K : PySem.W.Frag} {mg : MG} {base : Heap} {k : Nat} {S__law_taken : DSp} {S__law_pick : DSp} (B : Blt mg) (C__law_taken : Cal P w K mg base "_law_taken" s__law_taken k ["row", "many"] ms__law_taken S__law_taken) (C__law_pick : Cal P w K mg base "_law_pick" s__law_pick k ["row", "some"] ms__law_pick S__law_pick) (f : Addr) (cdv : Value) (A : Around) (outer : List Env) (s : Shared) (H : Hp) (E : XK) (hr : Room k (A.deeper (envOfC "_law_rule" (defScope s__law_rule) s.heap.objs.size f cdv))) :
    DSs (cxOf (L2.CX P w) P w K mg base N__law_rule "_law_rule" (defScope s__law_rule) f cdv A outer s H E) (defBody s__law_rule) (t__law_rule S__law_taken S__law_pick) :=
  have hu := hu_of hr
  dss_cons (ds_par (i := 4) (j := 5) rfl sc__law_rule.nd (dc_call C__law_taken hr (dg_iol 0 (dg_val (de_pu (pu_int)) (dg_nil)))) (dc_call C__law_pick hr (dg_iol 0 (dg_val (de_lst (da_cons (de_pu (pu_int)) (da_cons (de_pu (pu_int)) (da_cons (de_pu (pu_int)) (da_cons (de_pu (pu_int)) (da_cons (de_pu (pu_int)) (da_cons (de_add (de_pu (pu_int)) (dc_call C__law_taken hr (dg_iol 0 (dg_val (de_pu (pu_int)) (dg_nil))))) (da_nil)))))))) (dg_nil)))))
    (dss_cons (ds_if (dt_cmp (op_eqA hr.units) okEq (pu_var 4) (pu_int) (nomark _))
    (dss_one (ds_ret (de_tup (da_cons (de_pu (pu_str)) (da_cons (de_var 5) (da_nil))))))
    (dss_nil))
    (dss_cons (ds_if (dt_cmp (op_eqA hr.units) okEq (pu_var 4) (pu_int) (nomark _))
    (dss_cons (ds_set sc__law_rule.nd (dc_call C__law_pick hr (dg_iol 0 (dg_val (de_lst (da_cons (de_pu (pu_int)) (da_cons (de_pu (pu_int)) (da_cons (de_var 3) (da_cons (de_add (de_pu (pu_int)) (dc_call C__law_taken hr (dg_iol 0 (dg_val (de_pu (pu_mul (pu_int) (pu_var 3))) (dg_nil))))) (da_cons (de_pu (pu_mul (pu_int) (pu_var 3))) (da_cons (de_pu (pu_pow (pu_int) (pu_int))) (da_nil)))))))) (dg_nil)))))
    (dss_one (ds_ret (de_tup (da_cons (de_pu (pu_str)) (da_cons (de_pu (pu_min rfl B (pu_pow (pu_int) (pu_int)) (pu_var 6))) (da_cons (de_var 5) (da_nil))))))))
    (dss_nil))
    (dss_cons (ds_if (dt_cmp (op_eqA hr.units) okEq (pu_var 4) (pu_int) (nomark _))
    (dss_one (ds_ret (de_tup (da_cons (de_pu (pu_str)) (da_cons (dc_call C__law_pick hr (dg_iol 0 (dg_val (de_var 1) (dg_nil)))) (da_nil))))))
    (dss_nil))
    (dss_cons (ds_if (dt_cmp (op_eqA hr.units) okEq (pu_var 4) (pu_int) (nomark _))
    (dss_one (ds_ret (de_tup (da_cons (de_pu (pu_str)) (da_cons (dc_call C__law_pick hr (dg_iol 0 (dg_val (de_lst (da_cons (de_pu (pu_int)) (da_cons (de_pu (pu_int)) (da_cons (dc_call C__law_taken hr (dg_iol 0 (dg_val (de_pu (pu_add (pu_mul (pu_int) (pu_var 3)) (pu_int))) (dg_nil)))) (da_cons (de_var 3) (da_cons (de_pu (pu_pow (pu_int) (pu_int))) (da_nil))))))) (dg_nil)))) (da_nil))))))
    (dss_nil))
    (dss_cons (ds_setLc [(("entry" : Str), 8)] rfl sc__law_rule.nd (di_seq (de_var 2)) (blkOk_by (N := N__law_rule) (sc := defScope s__law_rule) (by decide +kernel)) (fun _ _ _ _ _ => dgt_nm 8 sc__law_rule.nd) (fun _ _ _ _ _ => dpts_nil) (fun _ _ _ _ _ => de_ixl 8 hu (de_pu (pu_int))) rfl)
    (dss_one (ds_ret (de_tup (da_cons (de_pu (pu_str)) (da_cons (dc_call C__law_pick hr (dg_iol 0 (dg_val (de_add (de_var 7) (de_lst (da_cons (de_pu (pu_int)) (da_cons (de_pu (pu_pow (pu_int) (pu_int))) (da_cons (dc_call C__law_taken hr (dg_iol 0 (dg_val (de_pu (pu_int)) (dg_nil)))) (da_nil)))))) (dg_nil)))) (da_nil)))))))))))
theorem c__law_rule {P : Program} {w : World} {K : PySem.W.Frag} {mg : MG} {base : Heap} {k : Nat} {S__law_taken : DSp} {S__law_pick : DSp} {S : DSp} (Fu : FunAt K mg "_law_rule" s__law_rule) (B : Blt mg) (C__law_taken : Cal P w K mg base "_law_taken" s__law_taken k ["row", "many"] ms__law_taken S__law_taken) (C__law_pick : Cal P w K mg base "_law_pick" s__law_pick k ["row", "some"] ms__law_pick S__law_pick) (hs : ∀ ds post, S ds post → ds.length = ms__law_rule.length → t__law_rule S__law_taken S__law_pick (env0 ms__law_rule ds N__law_rule.length) (endsOf ms__law_rule post)) : Cal P w K mg base "_law_rule" s__law_rule (k + 1) ["row", "pool", "entries", "step"] ms__law_rule S :=
  cal_mk Fu sc__law_rule rfl (fun _ _ _ _ _ _ us hl => match us, hl with | [_, _, _, _], _ => rfl) (d__law_rule B C__law_taken C__law_pick) hs
abbrev N__law_rules : List Str := ["row", "pool", "entries", "step", "found", "k"]
theorem sc__law_rules : FnScope N__law_rules ["row", "pool", "entries", "step"] (defScope s__law_rules) := ⟨rfl, rfl, rfl, by decide +kernel, rfl, by decide +kernel, by decide +kernel⟩
def e__law_rules_1 (S__law_pick : DSp) (S__law_rule : DSp) (S__law_taken : DSp) : ET :=
    eCall ms__law_rule S__law_rule [] (gaIoL 0 (gaVal (eVar 1) (gaVal (eVar 2) (gaVal (eVar 3) (gaNil)))))
def t__law_rules (S__law_pick : DSp) (S__law_rule : DSp) (S__law_taken : DSp) : SD :=
    sdSeq (sdSet 4 (eLc (itN odRng1 (aCons (eCall ms__law_pick S__law_pick [] (gaIoL 0 (gaVal (tON odLst (aCons (eP (pC (.int 1))) (aCons (eP (pC (.int 2))) (aCons (eP (pC (.int 3))) (aCons (eP (pC (.int 0))) (aCons (eP (pC (.int 4))) (aCons (eP (pC (.int 1))) (aCons (eP (pC (.int 2))) (aCons (eP (pC (.int 12))) (aNil)))))))))) (gaNil)))) (aNil))) (.nm 5) (ttYes) (e__law_rules_1 S__law_pick S__law_rule S__law_taken) [5]))
    (sdSeq (sdIf (ttAnd (ttPB (tP2 odNe (pVar 4) (tPN odLst (apNil)))) (ttB (tO2 odEq (eCall ms__law_taken S__law_taken [] (gaIoL 0 (gaVal (eP (pC (.int 6))) (gaNil)))) (eP (pC (.int 0))))))
    (sdSetI 4 (eCall ms__law_taken S__law_taken [] (gaIoL 0 (gaVal (eP (tPN odLen (apCons (pVar 4) apNil))) (gaNil)))) (eIxL 4 (eP (pC (.int 0)))))
    (sdNil))
    (sdRetV 4))
theorem d__law_rules {P : Program} {w : World} {K : PySem.W.Frag} {mg : MG} {base : Heap} {k : Nat} {S__law_pick : DSp} {S__law_rule : DSp} {S__law_taken : DSp} (B : Blt mg) (C__law_pick : Cal P w K mg base "_law_pick" s__law_pick k ["row", "some"] ms__law_pick S__law_pick) (C__law_rule : Cal P w K mg base "_law_rule" s__law_rule k ["row", "pool", "entries", "step"] ms__law_rule S__law_rule) (C__law_taken : Cal P w K mg base "_law_taken" s__law_taken k ["row", "many"] ms__law_taken S__law_taken) (f : Addr) (cdv : Value) (A : Around) (outer : List Env) (s : Shared) (H : Hp) (E : XK) (hr : Room k (A.deeper (envOfC "_law_rules" (defScope s__law_rules) s.heap.objs.size f cdv))) :
    DSs (cxOf (L2.CX P w) P w K mg base N__law_rules "_law_rules" (defScope s__law_rules) f cdv A outer s H E) (defBody s__law_rules) (t__law_rules S__law_pick S__law_rule S__law_taken) :=
  have hu := hu_of hr
  dss_cons (ds_setLc [(("k" : Str), 5)] rfl sc__law_rules.nd (di_rng1 B.range (da_cons (dc_call C__law_pick hr (dg_iol 0 (dg_val (de_lst (da_cons (de_pu (pu_int)) (da_cons (de_pu (pu_int)) (da_cons (de_pu (pu_int)) (da_cons (de_pu (pu_int)) (da_cons (de_pu (pu_int)) (da_cons (de_pu (pu_int)) (da_cons (de_pu (pu_int)) (da_cons (de_pu (pu_int)) (da_nil)))))))))) (dg_nil)))) (da_nil))) (blkOk_by (N := N__law_rules) (sc := defScope s__law_rules) (by decide +kernel)) (fun _ _ _ _ _ => dgt_nm 5 sc__law_rules.nd) (fun _ _ _ _ _ => dpts_nil) (fun _ _ _ _ _ => dc_call C__law_rule hr (dg_iol 0 (dg_val (de_var 1) (dg_val (de_var 2) (dg_val (de_var 3) (dg_nil)))))) rfl)
    (dss_cons (ds_if ((dt_and (dt_cmp (op_neA hr.units) okNe (pu_var 4) (pu_lst (pua_nil)) (nomark _)) (dt_and1 (dt_cmpE (op_eqA hr.units) okEq (dc_call C__law_taken hr (dg_iol 0 (dg_val (de_pu (pu_int)) (dg_nil)))) (de_pu (pu_int)) (nomark _)))).dt)
    (dss_one (ds_setI 4 hu (de_ixl 4 hu (de_pu (pu_int))) (dc_call C__law_taken hr (dg_iol 0 (dg_val (de_pu (pu_len B (pu_var 4))) (dg_nil))))))
    (dss_nil))
    (dss_one (ds_retv 4)))
theorem c__law_rules {P : Program} {w : World} {K : PySem.W.Frag} {mg : MG} {base : Heap} {k : Nat} {S__law_pick : DSp} {S__law_rule : DSp} {S__law_taken : DSp} {S : DSp} (Fu : FunAt K mg "_law_rules" s__law_rules) (B : Blt mg) (C__law_pick : Cal P w K mg base "_law_pick" s__law_pick k ["row", "some"] ms__law_pick S__law_pick) (C__law_rule : Cal P w K mg base "_law_rule" s__law_rule k ["row", "pool", "entries", "step"] ms__law_rule S__law_rule) (C__law_taken : Cal P w K mg base "_law_taken" s__law_taken k ["row", "many"] ms__law_taken S__law_taken) (hs : ∀ ds post, S ds post → ds.length = ms__law_rules.length → t__law_rules S__law_pick S__law_rule S__law_taken (env0 ms__law_rules ds N__law_rules.length) (endsOf ms__law_rules post)) : Cal P w K mg base "_law_rules" s__law_rules (k + 1) ["row", "pool", "entries", "step"] ms__law_rules S :=
  cal_mk Fu sc__law_rules rfl (fun _ _ _ _ _ _ us hl => match us, hl with | [_, _, _, _], _ => rfl) (d__law_rules B C__law_pick C__law_rule C__law_taken) hs
abbrev N__law_alike : List Str := ["found", "due", "k", "key"]
theorem sc__law_alike : FnScope N__law_alike ["found", "due"] (defScope s__law_alike) := ⟨rfl, rfl, rfl, by decide +kernel, rfl, by decide +kernel, by decide +kernel⟩
def q__law_alike_1 (S__law_alike : DSp) : TTd :=
    ttNot (ttB (eCall ms__law_alike S__law_alike [] (gaVal (eIxL 0 (eVar 2)) (gaVal (eIxL 1 (eVar 2)) (gaNil)))))
def q__law_alike_2 (S__law_alike : DSp) : TTd :=
    ttNot (ttB (eCall ms__law_alike S__law_alike [] (gaVal (eIxL 0 (eVar 3)) (gaVal (eIxL 1 (eVar 3)) (gaNil)))))
def t__law_alike (S__law_alike : DSp) : SD :=
    sdSeq (sdIf (ttPB (pIs (pVar 1) [.tuple, .list]))
    (sdSeq (sdIf (ttOr (ttNot (ttPB (pIs (pVar 0) [.tuple, .list]))) (ttPB (tP2 odNe (pIs (pVar 0) [.list]) (pIs (pVar 1) [.list]))))
    (sdRet (eP (pC (.bl false))))
    (sdNil))
    (sdSeq (sdIf (ttPB (tP2 odNe (tPN odLen (apCons (pVar 0) apNil)) (tPN odLen (apCons (pVar 1) apNil))))
    (sdRet (eP (pC (.bl false))))
    (sdNil))
    (sdRet (tO2 odEq (eLc (itN odRng1 (aCons (eP (tPN odLen (apCons (pVar 1) apNil))) (aNil))) (.nm 2) (q__law_alike_1 S__law_alike) (eVar 2) [2]) (eNew (.lst []) 1)))))
    (sdNil))
    (sdSeq (sdIf (ttPB (pIs (pVar 1) [.dict]))
    (sdSeq (sdIf (ttOr (ttNot (ttPB (pIs (pVar 0) [.dict]))) (ttB (tO2 odNe (tON odList (aCons (eVar 0) aNil)) (tON odList (aCons (eVar 1) aNil)))))
    (sdRet (eP (pC (.bl false))))
    (sdNil))
    (sdRet (tO2 odEq (eLcK 1 (.nm 3) (q__law_alike_2 S__law_alike) (eVar 3) [3]) (eNew (.lst []) 1))))
    (sdNil))
    (sdSeq (sdIf (ttOr (ttPB (tP2 odIsN (pVar 1) (pC .non))) (ttPB (pIs (pVar 1) [.str])))
    (sdRet (eAnd (eP (tP2 odEq (pVar 0) (pVar 1))) (eP (tP2 odEq (pIs (pVar 0) [.str]) (pIs (pVar 1) [.str])))))
    (sdNil))
    (sdRet (eAnd (eP (pIs (pVar 0) [.int])) (eAnd (eP (tP2 odEq (pIs (pVar 0) [.bool]) (pIs (pVar 1) [.bool]))) (eP (tP2 odEq (pVar 0) (pVar 1))))))))
theorem d__law_alike {P : Program} {w : World} {K : PySem.W.Frag} {mg : MG} {base : Heap} {k : Nat} {S__law_alike : DSp} (B : Blt mg) (C__law_alike : Cal P w K mg base "_law_alike" s__law_alike k ["found", "due"] ms__law_alike S__law_alike) (f : Addr) (cdv : Value) (A : Around) (outer : List Env) (s : Shared) (H : Hp) (E : XK) (hr : Room k (A.deeper (envOfC "_law_alike" (defScope s__law_alike) s.heap.objs.size f cdv))) :
    DSs (cxOf (L2.CX P w) P w K mg base N__law_alike "_law_alike" (defScope s__law_alike) f cdv A outer s H E) (defBody s__law_alike) (t__law_alike S__law_alike) :=
  have hu := hu_of hr
  dss_cons (ds_if (dt_pu (pu_isT (pu_var 1) (.cons (kd_tuple B) (.cons (kd_list B) (.nil) rfl) rfl) (show 2 ≤ sizeLine by decide) B.isinstance boot_isinstance))
    (dss_cons (ds_if ((dt_or (dt_not (dt_pu (pu_isT (pu_var 0) (.cons (kd_tuple B) (.cons (kd_list B) (.nil) rfl) rfl) (show 2 ≤ sizeLine by decide) B.isinstance boot_isinstance))) (dt_or1 (dt_cmp (op_neA hr.units) okNe (pu_is (pu_var 0) (kd_list B) B.isinstance boot_isinstance) (pu_is (pu_var 1) (kd_list B) B.isinstance boot_isinstance) (nomark _)))).dt)
    (dss_one (ds_ret (de_pu (pu_bl))))
    (dss_nil))
    (dss_cons (ds_if (dt_cmp (op_neA hr.units) okNe (pu_len B (pu_var 0)) (pu_len B (pu_var 1)) (nomark _))
    (dss_one (ds_ret (de_pu (pu_bl))))
    (dss_nil))
    (dss_one (ds_ret (de_cmp (op_eqA hr.units) okEq (de_lc [(("k" : Str), 2)] rfl sc__law_alike.nd (di_rng1 B.range (da_cons (de_pu (pu_len B (pu_var 1))) (da_nil))) (blkOk_by (N := N__law_alike) (sc := defScope s__law_alike) (by decide +kernel)) (fun _ _ _ _ _ => dgt_nm 2 sc__law_alike.nd) (fun _ _ _ _ _ => dpts_one (dt_not (dt_val (dc_call C__law_alike hr (dg_val (de_ixl 0 hu (de_var 2)) (dg_val (de_ixl 1 hu (de_var 2)) (dg_nil))))))) (fun _ _ _ _ _ => de_var 2)) (de_nil 1) (nomark _))))))
    (dss_nil))
    (dss_cons (ds_if (dt_pu (pu_is (pu_var 1) (kd_dict B) B.isinstance boot_isinstance))
    (dss_cons (ds_if ((dt_or (dt_not (dt_pu (pu_is (pu_var 0) (kd_dict B) B.isinstance boot_isinstance))) (dt_or1 (dt_cmpE (op_neA hr.units) okNe (de_list rfl B (de_var 0)) (de_list rfl B (de_var 1)) (nomark _)))).dt)
    (dss_one (ds_ret (de_pu (pu_bl))))
    (dss_nil))
    (dss_one (ds_ret (de_cmp (op_eqA hr.units) okEq (de_lcK 1 [(("key" : Str), 3)] rfl sc__law_alike.nd (blkOk_by (N := N__law_alike) (sc := defScope s__law_alike) (by decide +kernel)) (fun _ _ _ _ _ => dgt_nm 3 sc__law_alike.nd) (fun _ _ _ _ _ => dpts_one (dt_not (dt_val (dc_call C__law_alike hr (dg_val (de_ixl 0 hu (de_var 3)) (dg_val (de_ixl 1 hu (de_var 3)) (dg_nil))))))) (fun _ _ _ _ _ => de_var 3)) (de_nil 1) (nomark _)))))
    (dss_nil))
    (dss_cons (ds_if ((dt_or (dt_cmp (op_isN) okIsN (pu_var 1) (pu_non) (nomark _)) (dt_or1 (dt_pu (pu_is (pu_var 1) (kd_str B) B.isinstance boot_isinstance)))).dt)
    (dss_one (ds_ret (de_and (de_pu (pu_cmp (op_eqA hr.units) okEq (pu_var 0) (pu_var 1) (nomark _))) (de_one (de_pu (pu_cmp (op_eqA hr.units) okEq (pu_is (pu_var 0) (kd_str B) B.isinstance boot_isinstance) (pu_is (pu_var 1) (kd_str B) B.isinstance boot_isinstance) (nomark _)))))))
    (dss_nil))
    (dss_one (ds_ret (de_and (de_pu (pu_is (pu_var 0) (kd_int B) B.isinstance boot_isinstance)) (de_and (de_pu (pu_cmp (op_eqA hr.units) okEq (pu_is (pu_var 0) (kd_bool B) B.isinstance boot_isinstance) (pu_is (pu_var 1) (kd_bool B) B.isinstance boot_isinstance) (nomark _))) (de_one (de_pu (pu_cmp (op_eqA hr.units) okEq (pu_var 0) (pu_var 1) (nomark _))))))))))
theorem c__law_alike {P : Program} {w : World} {K : PySem.W.Frag} {mg : MG} {base : Heap} {k : Nat} {S__law_alike : DSp} {S : DSp} (Fu : FunAt K mg "_law_alike" s__law_alike) (B : Blt mg) (C__law_alike : Cal P w K mg base "_law_alike" s__law_alike k ["found", "due"] ms__law_alike S__law_alike) (hs : ∀ ds post, S ds post → ds.length = ms__law_alike.length → t__law_alike S__law_alike (env0 ms__law_alike ds N__law_alike.length) (endsOf ms__law_alike post)) : Cal P w K mg base "_law_alike" s__law_alike (k + 1) ["found", "due"] ms__law_alike S :=
  cal_mk Fu sc__law_alike rfl (fun _ _ _ _ _ _ us hl => match us, hl with | [_, _], _ => rfl) (d__law_alike B C__law_alike) hs
abbrev N__law_later : List Str := ["row", "entries", "step", "many", "moment", "found", "k"]
theorem sc__law_later : FnScope N__law_later ["row", "entries", "step"] (defScope s__law_later) := ⟨rfl, rfl, rfl, by decide +kernel, rfl, by decide +kernel, by decide +kernel⟩
def b__law_later_1 (S__law_pick : DSp) (S__law_taken : DSp) : SD :=
    sdSeq (sdSet 4 (tO2 odAdd (eP (tP2 odAdd (pVar 4) (pC (.int 1)))) (eCall ms__law_taken S__law_taken [] (gaIoL 0 (gaVal (eCall ms__law_pick S__law_pick [] (gaIoL 0 (gaVal (tON odLst (aCons (eP (pC (.int 1))) (aCons (eVar 2) (aCons (eVar 2) (aCons (eP (tP2 odMul (pC (.int 2)) (pVar 2))) (aNil)))))) (gaNil)))) (gaNil))))))
    (sdIf (ttPB (tP2 odLe (pVar 4) (tP2 odPow (pC (.int 10)) (pC (.int 12)))))
    (sdApp 5 (eVar 4))
    (sdNil))
def t__law_later (S__law_pick : DSp) (S__law_taken : DSp) : SD :=
    sdSeq (sdPar 3 4 (eCall ms__law_pick S__law_pick [] (gaIoL 0 (gaVal (tON odLst (aCons (eP (pC (.int 0))) (aCons (eP (pC (.int 1))) (aCons (eP (pC (.int 2))) (aCons (eP (pC (.int 3))) (aCons (eP (pC (.int 4))) (aCons (eP (pC (.int 5))) (aCons (eP (pC (.int 6))) (aCons (eP (pC (.int 8))) (aCons (eP (pC (.int 12))) (aCons (eP (pC (.int 60))) (aNil)))))))))))) (gaNil)))) (eIf (ttPB (tP2 odNe (pVar 1) (tPN odLst (apNil)))) (tO2 odIx (eIxL 1 (eP (tP1 odNeg (pC (.int 1))))) (eP (pC (.int 1)))) (eP (tP1 odNeg (pC (.int 1))))))
    (sdSeq (sdSet 5 (eNew (.lst []) 1))
    (sdSeq (sdFor (itN odRng1 (aCons (eVar 3) (aNil))) (.nm 6)
    (b__law_later_1 S__law_pick S__law_taken))
    (sdSeq (sdIf (ttAnd (ttB (tO2 odEq (eCall ms__law_taken S__law_taken [] (gaIoL 0 (gaVal (eP (pC (.int 8))) (gaNil)))) (eP (pC (.int 0))))) (ttAnd (ttPB (tP2 odLt (tPN odLen (apCons (pVar 5) apNil)) (pC (.int 60)))) (ttPB (tP2 odLt (tP2 odIx (tP2 odAdd (pVar 5) (tPN odLst (apCons (pVar 4) (apNil)))) (tP1 odNeg (pC (.int 1)))) (tP2 odPow (pC (.int 10)) (pC (.int 12)))))))
    (sdApp 5 (eP (tP2 odPow (pC (.int 10)) (pC (.int 12)))))
    (sdNil))
    (sdRetV 5))))
theorem d__law_later {P : Program} {w : World} {K : PySem.W.Frag} {mg : MG} {base : Heap} {k : Nat} {S__law_pick : DSp} {S__law_taken : DSp} (B : Blt mg) (C__law_pick : Cal P w K mg base "_law_pick" s__law_pick k ["row", "some"] ms__law_pick S__law_pick) (C__law_taken : Cal P w K mg base "_law_taken" s__law_taken k ["row", "many"] ms__law_taken S__law_taken) (f : Addr) (cdv : Value) (A : Around) (outer : List Env) (s : Shared) (H : Hp) (E : XK) (hr : Room k (A.deeper (envOfC "_law_later" (defScope s__law_later) s.heap.objs.size f cdv))) :
    DSs (cxOf (L2.CX P w) P w K mg base N__law_later "_law_later" (defScope s__law_later) f cdv A outer s H E) (defBody s__law_later) (t__law_later S__law_pick S__law_taken) :=
  have hu := hu_of hr
  dss_cons (ds_par (i := 3) (j := 4) rfl sc__law_later.nd (dc_call C__law_pick hr (dg_iol 0 (dg_val (de_lst (da_cons (de_pu (pu_int)) (da_cons (de_pu (pu_int)) (da_cons (de_pu (pu_int)) (da_cons (de_pu (pu_int)) (da_cons (de_pu (pu_int)) (da_cons (de_pu (pu_int)) (da_cons (de_pu (pu_int)) (da_cons (de_pu (pu_int)) (da_cons (de_pu (pu_int)) (da_cons (de_pu (pu_int)) (da_nil)))))))))))) (dg_nil)))) (de_ifExp (dt_cmp (op_neA hr.units) okNe (pu_var 1) (pu_lst (pua_nil)) (nomark _)) (de_ix hu (de_ixl 1 hu (de_pu (pu_neg (pu_int)))) (de_pu (pu_int))) (de_pu (pu_neg (pu_int)))))
    (dss_cons (ds_set sc__law_later.nd (de_nil 1))
    (dss_cons (ds_for (passes_of rfl) rfl (di_rng1 B.range (da_cons (de_var 3) (da_nil))) (dgt_nm 6 sc__law_later.nd)
    (dss_cons (ds_set sc__law_later.nd (de_add (de_pu (pu_add (pu_var 4) (pu_int))) (dc_call C__law_taken hr (dg_iol 0 (dg_val (dc_call C__law_pick hr (dg_iol 0 (dg_val (de_lst (da_cons (de_pu (pu_int)) (da_cons (de_var 2) (da_cons (de_var 2) (da_cons (de_pu (pu_mul (pu_int) (pu_var 2))) (da_nil)))))) (dg_nil)))) (dg_nil))))))
    (dss_one (ds_if (dt_cmp (op_leD) okCmp (pu_var 4) (pu_pow (pu_int) (pu_int)) (nomark _))
    (dss_one (ds_append 5 (de_var 4)))
    (dss_nil)))))
    (dss_cons (ds_if ((dt_and (dt_cmpE (op_eqA hr.units) okEq (dc_call C__law_taken hr (dg_iol 0 (dg_val (de_pu (pu_int)) (dg_nil)))) (de_pu (pu_int)) (nomark _)) (dt_and (dt_cmp (op_ltD) okCmp (pu_len B (pu_var 5)) (pu_int) (nomark _)) (dt_and1 (dt_cmp (op_ltD) okCmp (pu_ix hu (pu_add (pu_var 5) (pu_lst (pua_cons (pu_var 4) (pua_nil)))) (pu_neg (pu_int))) (pu_pow (pu_int) (pu_int)) (nomark _))))).dt)
    (dss_one (ds_append 5 (de_pu (pu_pow (pu_int) (pu_int)))))
    (dss_nil))
    (dss_one (ds_retv 5)))))
theorem c__law_later {P : Program} {w : World} {K : PySem.W.Frag} {mg : MG} {base : Heap} {k : Nat} {S__law_pick : DSp} {S__law_taken : DSp} {S : DSp} (Fu : FunAt K mg "_law_later" s__law_later) (B : Blt mg) (C__law_pick : Cal P w K mg base "_law_pick" s__law_pick k ["row", "some"] ms__law_pick S__law_pick) (C__law_taken : Cal P w K mg base "_law_taken" s__law_taken k ["row", "many"] ms__law_taken S__law_taken) (hs : ∀ ds post, S ds post → ds.length = ms__law_later.length → t__law_later S__law_pick S__law_taken (env0 ms__law_later ds N__law_later.length) (endsOf ms__law_later post)) : Cal P w K mg base "_law_later" s__law_later (k + 1) ["row", "entries", "step"] ms__law_later S :=
  cal_mk Fu sc__law_later rfl (fun _ _ _ _ _ _ us hl => match us, hl with | [_, _, _], _ => rfl) (d__law_later B C__law_pick C__law_taken) hs
abbrev N__law_falls : List Str := ["entries", "rules", "later", "now", "number", "due", "one", "k", "told", "j", "stays"]
theorem sc__law_falls : FnScope N__law_falls ["entries", "rules", "later"] (defScope s__law_falls) := ⟨rfl, rfl, rfl, by decide +kernel, rfl, by decide +kernel, by decide +kernel⟩
def b__law_falls_1 (S__law_due : DSp) : SD :=
    sdSetI 5 (eVar 6) (eP (pC .non))
def e__law_falls_1 (S__law_due : DSp) : ET :=
    tON odTup (aCons (eP (tP2 odAdd (tP2 odAdd (pVar 4) (pC (.int 1))) (pVar 9))) (aCons (eIxL 2 (eVar 9)) (aCons (tON odTup (aNil)) (aNil))))
def b__law_falls_2 (S__law_due : DSp) : SD :=
    sdIf (ttAnd (ttPB (tP2 odIsN (tP2 odIx (pVar 5) (pVar 6)) (pC .non))) (ttPB (tP2 odNotIn (pVar 6) (pVar 10))))
    (sdSetI 5 (eVar 6) (eVar 7))
    (sdNil)
def b__law_falls_3 (S__law_due : DSp) : SD :=
    sdSeq (sdSet 8 (tO2 odAdd (eVar 0) (eLc (itN odRng1 (aCons (eP (tP2 odAdd (pVar 7) (pC (.int 1)))) (aNil))) (.nm 9) (ttYes) (e__law_falls_1 S__law_due) [9])))
    (sdSeq (sdSet 10 (eCall ms__law_due S__law_due [] (gaVal (eVar 8) (gaVal (eVar 1) (gaNil)))))
    (sdFor (itSeq (tON odList (aCons (eVar 3) aNil))) (.nm 6)
    (b__law_falls_2 S__law_due)))
def t__law_falls (S__law_due : DSp) : SD :=
    sdSeq (sdAsg (.tu [.nm 3, .nm 4]) (tON odTup (aCons (eCall ms__law_due S__law_due [] (gaVal (eVar 0) (gaVal (eVar 1) (gaNil)))) (aCons (eIf (ttPB (tP2 odNe (pVar 0) (tPN odLst (apNil)))) (tO2 odIx (eIxL 0 (eP (tP1 odNeg (pC (.int 1))))) (eP (pC (.int 0)))) (eP (pC (.int 0)))) (aNil)))))
    (sdSeq (sdSet 5 (eNew (.dK []) 1))
    (sdSeq (sdFor (itSeq (tON odList (aCons (eVar 3) aNil))) (.nm 6)
    (b__law_falls_1 S__law_due))
    (sdSeq (sdFor (itN odRng1 (aCons (eP (tPN odLen (apCons (pVar 2) apNil))) (aNil))) (.nm 7)
    (b__law_falls_3 S__law_due))
    (sdRetV 5))))
theorem d__law_falls {P : Program} {w : World} {K : PySem.W.Frag} {mg : MG} {base : Heap} {k : Nat} {S__law_due : DSp} (B : Blt mg) (C__law_due : Cal P w K mg base "_law_due" s__law_due k ["entries", "rules"] ms__law_due S__law_due) (f : Addr) (cdv : Value) (A : Around) (outer : List Env) (s : Shared) (H : Hp) (E : XK) (hr : Room k (A.deeper (envOfC "_law_falls" (defScope s__law_falls) s.heap.objs.size f cdv))) :
    DSs (cxOf (L2.CX P w) P w K mg base N__law_falls "_law_falls" (defScope s__law_falls) f cdv A outer s H E) (defBody s__law_falls) (t__law_falls S__law_due) :=
  have hu := hu_of hr
  dss_cons (ds_asg (de_tup (da_cons (dc_call C__law_due hr (dg_val (de_var 0) (dg_val (de_var 1) (dg_nil)))) (da_cons (de_ifExp (dt_cmp (op_neA hr.units) okNe (pu_var 0) (pu_lst (pua_nil)) (nomark _)) (de_ix hu (de_ixl 0 hu (de_pu (pu_neg (pu_int)))) (de_pu (pu_int))) (de_pu (pu_int))) (da_nil)))) (dgt_tu rfl (dgts_cons (dgt_nm 3 sc__law_falls.nd) (dgts_cons (dgt_nm 4 sc__law_falls.nd) (dgts_nil)))))
    (dss_cons (ds_set sc__law_falls.nd (de_dK 1))
    (dss_cons (ds_for (passes_of rfl) rfl (di_seq (de_list rfl B (de_var 3))) (dgt_nm 6 sc__law_falls.nd)
    (dss_one (ds_setI 5 hu (de_pu (pu_non)) (de_var 6))))
    (dss_cons (ds_for (passes_of rfl) rfl (di_rng1 B.range (da_cons (de_pu (pu_len B (pu_var 2))) (da_nil))) (dgt_nm 7 sc__law_falls.nd)
    (dss_cons (ds_set sc__law_falls.nd (de_add (de_var 0) (de_lc [(("j" : Str), 9)] rfl sc__law_falls.nd (di_rng1 B.range (da_cons (de_pu (pu_add (pu_var 7) (pu_int))) (da_nil))) (blkOk_by (N := N__law_falls) (sc := defScope s__law_falls) (by decide +kernel)) (fun _ _ _ _ _ => dgt_nm 9 sc__law_falls.nd) (fun _ _ _ _ _ => dpts_nil) (fun _ _ _ _ _ => de_tup (da_cons (de_pu (pu_add (pu_add (pu_var 4) (pu_int)) (pu_var 9))) (da_cons (de_ixl 2 hu (de_var 9)) (da_cons (de_tup (da_nil)) (da_nil))))))))
    (dss_cons (ds_set sc__law_falls.nd (dc_call C__law_due hr (dg_val (de_var 8) (dg_val (de_var 1) (dg_nil)))))
    (dss_one (ds_for (passes_of rfl) rfl (di_seq (de_list rfl B (de_var 3))) (dgt_nm 6 sc__law_falls.nd)
    (dss_one (ds_if ((dt_and (dt_cmp (op_isN) okIsN (pu_ix hu (pu_var 5) (pu_var 6)) (pu_non) (nomark _)) (dt_and1 (dt_cmp (op_notInA hu) okNotIn (pu_var 6) (pu_var 10) (by with_unfolding_all rfl)))).dt)
    (dss_one (ds_setI 5 hu (de_var 7) (de_var 6)))
    (dss_nil))))))))
    (dss_one (ds_retv 5)))))
theorem c__law_falls {P : Program} {w : World} {K : PySem.W.Frag} {mg : MG} {base : Heap} {k : Nat} {S__law_due : DSp} {S : DSp} (Fu : FunAt K mg "_law_falls" s__law_falls) (B : Blt mg) (C__law_due : Cal P w K mg base "_law_due" s__law_due k ["entries", "rules"] ms__law_due S__law_due) (hs : ∀ ds post, S ds post → ds.length = ms__law_falls.length → t__law_falls S__law_due (env0 ms__law_falls ds N__law_falls.length) (endsOf ms__law_falls post)) : Cal P w K mg base "_law_falls" s__law_falls (k + 1) ["entries", "rules", "later"] ms__law_falls S :=
  cal_mk Fu sc__law_falls rfl (fun _ _ _ _ _ _ us hl => match us, hl with | [_, _, _], _ => rfl) (d__law_falls B C__law_due) hs
abbrev N_law : List Str := ["script", "row", "step", "pool", "k", "entries", "rules", "later", "held", "number", "moment", "tags", "due", "copy", "found", "some"]
theorem sc_law : FnScope N_law ["script"] (defScope s_law) := ⟨rfl, rfl, rfl, by decide +kernel, rfl, by decide +kernel, by decide +kernel⟩
def e_law_1 (S__law_step : DSp) (S__law_taken : DSp) (S__law_label : DSp) (S__law_entries : DSp) (S__law_rules : DSp) (S__law_later : DSp) (S__law_falls : DSp) (S_falls : DSp) (S__law_alike : DSp) : ET :=
    eCall ms__law_label S__law_label [] (gaIoL 1 (gaNil))
def e_law_2 (S__law_step : DSp) (S__law_taken : DSp) (S__law_label : DSp) (S__law_entries : DSp) (S__law_rules : DSp) (S__law_later : DSp) (S__law_falls : DSp) (S_falls : DSp) (S__law_alike : DSp) : ET :=
    tON odTup (aCons (eVar 9) (aCons (eVar 10) (aCons (tON odTuple (aCons (eVar 11) aNil)) (aNil))))
def e_law_3 (S__law_step : DSp) (S__law_taken : DSp) (S__law_label : DSp) (S__law_entries : DSp) (S__law_rules : DSp) (S__law_later : DSp) (S__law_falls : DSp) (S_falls : DSp) (S__law_alike : DSp) : ET :=
    tON odTup (aCons (eVar 9) (aCons (eVar 10) (aCons (tON odTuple (aCons (eVar 11) aNil)) (aNil))))
def k_law_1 (S__law_step : DSp) (S__law_taken : DSp) (S__law_label : DSp) (S__law_entries : DSp) (S__law_rules : DSp) (S__law_later : DSp) (S__law_falls : DSp) (S_falls : DSp) (S__law_alike : DSp) : SD :=
    sdRet (eCall ms__law_alike S__law_alike [] (gaVal (eCall ms_falls S_falls [] (gaVal (eVar 5) (gaVal (eNew (.lst []) 1) (gaVal (eVar 7) (gaNil))))) (gaVal (eCall ms__law_falls S__law_falls [] (gaVal (eVar 8) (gaVal (eNew (.lst []) 1) (gaVal (eVar 7) (gaNil))))) (gaNil))))
def k_law_2 (S__law_step : DSp) (S__law_taken : DSp) (S__law_label : DSp) (S__law_entries : DSp) (S__law_rules : DSp) (S__law_later : DSp) (S__law_falls : DSp) (S_falls : DSp) (S__law_alike : DSp) : SD :=
    sdSeq (sdIf (ttAnd (ttPB (tP2 odEq (pVar 8) (tPN odLst (apNil)))) (ttB (tO2 odNeE (eCall ms_falls S_falls [] (gaVal (eNew (.lst []) 1) (gaVal (eVar 6) (gaVal (tON odLst (aCons (eP (pC (.int 0))) (aNil))) (gaNil))))) (eNew (.dK []) 1))))
    (sdRet (eP (pC (.bl false))))
    (sdNil))
    (k_law_1 S__law_step S__law_taken S__law_label S__law_entries S__law_rules S__law_later S__law_falls S_falls S__law_alike)
def k_law_3 (S__law_step : DSp) (S__law_taken : DSp) (S__law_label : DSp) (S__law_entries : DSp) (S__law_rules : DSp) (S__law_later : DSp) (S__law_falls : DSp) (S_falls : DSp) (S__law_alike : DSp) : SD :=
    sdSeq (sdIf (ttNot (ttB (eCall ms__law_alike S__law_alike [] (gaVal (eCall ms_falls S_falls [] (gaVal (eVar 5) (gaVal (eVar 6) (gaVal (eVar 15) (gaNil))))) (gaVal (eCall ms__law_falls S__law_falls [] (gaVal (eVar 8) (gaVal (eVar 6) (gaVal (eVar 15) (gaNil))))) (gaNil))))))
    (sdRet (eP (pC (.bl false))))
    (sdNil))
    (k_law_2 S__law_step S__law_taken S__law_label S__law_entries S__law_rules S__law_later S__law_falls S_falls S__law_alike)
def k_law_4 (S__law_step : DSp) (S__law_taken : DSp) (S__law_label : DSp) (S__law_entries : DSp) (S__law_rules : DSp) (S__law_later : DSp) (S__law_falls : DSp) (S_falls : DSp) (S__law_alike : DSp) : SD :=
    sdSeq (sdSet 15 (eSl (eVar 7) (oNone) (oSome (eCall ms__law_taken S__law_taken [] (gaIoL 1 (gaVal (eP (tP2 odAdd (tPN odLen (apCons (pVar 7) apNil)) (pC (.int 1)))) (gaNil)))))))
    (k_law_3 S__law_step S__law_taken S__law_label S__law_entries S__law_rules S__law_later S__law_falls S_falls S__law_alike)
def k_law_5 (S__law_step : DSp) (S__law_taken : DSp) (S__law_label : DSp) (S__law_entries : DSp) (S__law_rules : DSp) (S__law_later : DSp) (S__law_falls : DSp) (S_falls : DSp) (S__law_alike : DSp) : SD :=
    sdSeq (sdIf (ttB (tO2 odNe (eLc (itSeq (eVar 5)) (.tu [.nm 9, .nm 10, .nm 11]) (ttYes) (e_law_3 S__law_step S__law_taken S__law_label S__law_entries S__law_rules S__law_later S__law_falls S_falls S__law_alike) [9, 10, 11]) (eVar 8)))
    (sdRet (eP (pC (.bl false))))
    (sdNil))
    (k_law_4 S__law_step S__law_taken S__law_label S__law_entries S__law_rules S__law_later S__law_falls S_falls S__law_alike)
def k_law_6 (S__law_step : DSp) (S__law_taken : DSp) (S__law_label : DSp) (S__law_entries : DSp) (S__law_rules : DSp) (S__law_later : DSp) (S__law_falls : DSp) (S_falls : DSp) (S__law_alike : DSp) : SD :=
    sdSeq (sdIf (ttNot (ttB (eCall ms__law_alike S__law_alike [] (gaVal (eCallRv ms_falls S_falls (gaVal (tON odTuple (aCons (eVar 7) aNil)) (gaVal (tON odTuple (aCons (eVar 6) aNil)) (gaVal (tON odTuple (aCons (eVar 5) aNil)) (gaNil))))) (gaVal (eVar 12) (gaNil))))))
    (sdRet (eP (pC (.bl false))))
    (sdNil))
    (k_law_5 S__law_step S__law_taken S__law_label S__law_entries S__law_rules S__law_later S__law_falls S_falls S__law_alike)
def k_law_7 (S__law_step : DSp) (S__law_taken : DSp) (S__law_label : DSp) (S__law_entries : DSp) (S__law_rules : DSp) (S__law_later : DSp) (S__law_falls : DSp) (S_falls : DSp) (S__law_alike : DSp) : SD :=
    sdSeq (sdSetI 14 (eP (tP1 odNeg (pC (.int 1)))) (eP (pC (.int 5))))
    (k_law_6 S__law_step S__law_taken S__law_label S__law_entries S__law_rules S__law_later S__law_falls S_falls S__law_alike)
def k_law_8 (S__law_step : DSp) (S__law_taken : DSp) (S__law_label : DSp) (S__law_entries : DSp) (S__law_rules : DSp) (S__law_later : DSp) (S__law_falls : DSp) (S_falls : DSp) (S__law_alike : DSp) : SD :=
    sdSeq (sdIf (ttOr (ttNot (ttPB (pCall ms__law_alike S__law_alike (apCons (pVar 14) (apCons (pVar 12) (apNil)))))) (ttPB (tP2 odNe (pVar 7) (pVar 13))))
    (sdRet (eP (pC (.bl false))))
    (sdNil))
    (k_law_7 S__law_step S__law_taken S__law_label S__law_entries S__law_rules S__law_later S__law_falls S_falls S__law_alike)
def k_law_9 (S__law_step : DSp) (S__law_taken : DSp) (S__law_label : DSp) (S__law_entries : DSp) (S__law_rules : DSp) (S__law_later : DSp) (S__law_falls : DSp) (S_falls : DSp) (S__law_alike : DSp) : SD :=
    sdSeq (sdSet 14 (eCall ms_falls S_falls [] (gaVal (eVar 5) (gaVal (eVar 6) (gaVal (eVar 7) (gaNil))))))
    (k_law_8 S__law_step S__law_taken S__law_label S__law_entries S__law_rules S__law_later S__law_falls S_falls S__law_alike)
def k_law_10 (S__law_step : DSp) (S__law_taken : DSp) (S__law_label : DSp) (S__law_entries : DSp) (S__law_rules : DSp) (S__law_later : DSp) (S__law_falls : DSp) (S_falls : DSp) (S__law_alike : DSp) : SD :=
    sdSeq (sdSet 13 (tON odList (aCons (eVar 7) aNil)))
    (k_law_9 S__law_step S__law_taken S__law_label S__law_entries S__law_rules S__law_later S__law_falls S_falls S__law_alike)
def k_law_11 (S__law_step : DSp) (S__law_taken : DSp) (S__law_label : DSp) (S__law_entries : DSp) (S__law_rules : DSp) (S__law_later : DSp) (S__law_falls : DSp) (S_falls : DSp) (S__law_alike : DSp) : SD :=
    sdSeq (sdSet 12 (eCall ms__law_falls S__law_falls [] (gaVal (eVar 8) (gaVal (eVar 6) (gaVal (eVar 7) (gaNil))))))
    (k_law_10 S__law_step S__law_taken S__law_label S__law_entries S__law_rules S__law_later S__law_falls S_falls S__law_alike)
def k_law_12 (S__law_step : DSp) (S__law_taken : DSp) (S__law_label : DSp) (S__law_entries : DSp) (S__law_rules : DSp) (S__law_later : DSp) (S__law_falls : DSp) (S_falls : DSp) (S__law_alike : DSp) : SD :=
    sdSeq (sdSet 8 (eLc (itSeq (eVar 5)) (.tu [.nm 9, .nm 10, .nm 11]) (ttYes) (e_law_2 S__law_step S__law_taken S__law_label S__law_entries S__law_rules S__law_later S__law_falls S_falls S__law_alike) [9, 10, 11]))
    (k_law_11 S__law_step S__law_taken S__law_label S__law_entries S__law_rules S__law_later S__law_falls S_falls S__law_alike)
def k_law_13 (S__law_step : DSp) (S__law_taken : DSp) (S__law_label : DSp) (S__law_entries : DSp) (S__law_rules : DSp) (S__law_later : DSp) (S__law_falls : DSp) (S_falls : DSp) (S__law_alike : DSp) : SD :=
    sdSeq (sdIf (ttAnd (ttPB (tP2 odGt (tPN odLen (apCons (pVar 7) apNil)) (pC (.int 12)))) (ttPB (tP2 odGt (tP2 odMul (tPN odLen (apCons (pVar 5) apNil)) (tPN odLen (apCons (pVar 6) apNil))) (pC (.int 60)))))
    (sdSet 6 (eSl (eVar 6) (oNone) (oSome (eP (pC (.int 2))))))
    (sdNil))
    (k_law_12 S__law_step S__law_taken S__law_label S__law_entries S__law_rules S__law_later S__law_falls S_falls S__law_alike)
def k_law_14 (S__law_step : DSp) (S__law_taken : DSp) (S__law_label : DSp) (S__law_entries : DSp) (S__law_rules : DSp) (S__law_later : DSp) (S__law_falls : DSp) (S_falls : DSp) (S__law_alike : DSp) : SD :=
    sdSeq (sdSet 7 (eCall ms__law_later S__law_later [] (gaIoL 1 (gaVal (eVar 5) (gaVal (eVar 2) (gaNil))))))
    (k_law_13 S__law_step S__law_taken S__law_label S__law_entries S__law_rules S__law_later S__law_falls S_falls S__law_alike)
def k_law_15 (S__law_step : DSp) (S__law_taken : DSp) (S__law_label : DSp) (S__law_entries : DSp) (S__law_rules : DSp) (S__law_later : DSp) (S__law_falls : DSp) (S_falls : DSp) (S__law_alike : DSp) : SD :=
    sdSeq (sdSet 6 (eCall ms__law_rules S__law_rules [] (gaIoL 1 (gaVal (eVar 3) (gaVal (eVar 5) (gaVal (eVar 2) (gaNil)))))))
    (k_law_14 S__law_step S__law_taken S__law_label S__law_entries S__law_rules S__law_later S__law_falls S_falls S__law_alike)
def k_law_16 (S__law_step : DSp) (S__law_taken : DSp) (S__law_label : DSp) (S__law_entries : DSp) (S__law_rules : DSp) (S__law_later : DSp) (S__law_falls : DSp) (S_falls : DSp) (S__law_alike : DSp) : SD :=
    sdSeq (sdSet 5 (eCall ms__law_entries S__law_entries [] (gaIoL 1 (gaVal (eVar 3) (gaVal (eVar 2) (gaNil))))))
    (k_law_15 S__law_step S__law_taken S__law_label S__law_entries S__law_rules S__law_later S__law_falls S_falls S__law_alike)
def k_law_17 (S__law_step : DSp) (S__law_taken : DSp) (S__law_label : DSp) (S__law_entries : DSp) (S__law_rules : DSp) (S__law_later : DSp) (S__law_falls : DSp) (S_falls : DSp) (S__law_alike : DSp) : SD :=
    sdSeq (sdSet 3 (eLc (itN odRng1 (aCons (tO2 odAdd (eP (pC (.int 1))) (eCall ms__law_taken S__law_taken [] (gaIoL 1 (gaVal (eP (pC (.int 3))) (gaNil))))) (aNil))) (.nm 4) (ttYes) (e_law_1 S__law_step S__law_taken S__law_label S__law_entries S__law_rules S__law_later S__law_falls S_falls S__law_alike) [4]))
    (k_law_16 S__law_step S__law_taken S__law_label S__law_entries S__law_rules S__law_later S__law_falls S_falls S__law_alike)
def k_law_18 (S__law_step : DSp) (S__law_taken : DSp) (S__law_label : DSp) (S__law_entries : DSp) (S__law_rules : DSp) (S__law_later : DSp) (S__law_falls : DSp) (S_falls : DSp) (S__law_alike : DSp) : SD :=
    sdSeq (sdSet 2 (eCall ms__law_step S__law_step [] (gaIoL 1 (gaNil))))
    (k_law_17 S__law_step S__law_taken S__law_label S__law_entries S__law_rules S__law_later S__law_falls S_falls S__law_alike)
def t_law (S__law_step : DSp) (S__law_taken : DSp) (S__law_label : DSp) (S__law_entries : DSp) (S__law_rules : DSp) (S__law_later : DSp) (S__law_falls : DSp) (S_falls : DSp) (S__law_alike : DSp) : SD :=
    sdSeq (sdSet 1 (tON odLst (aCons (eVar 0) (aCons (eP (pC (.int 0))) (aCons (eP (pC (.int 15963077))) (aCons (eP (pC (.int 0))) (aNil)))))))
    (k_law_18 S__law_step S__law_taken S__law_label S__law_entries S__law_rules S__law_later S__law_falls S_falls S__law_alike)
theorem d_law {P : Program} {w : World} {K : PySem.W.Frag} {mg : MG} {base : Heap} {k : Nat} {S__law_step : DSp} {S__law_taken : DSp} {S__law_label : DSp} {S__law_entries : DSp} {S__law_rules : DSp} {S__law_later : DSp} {S__law_falls : DSp} {S_falls : DSp} {S__law_alike : DSp} (B : Blt mg) (C__law_step : Cal P w K mg base "_law_step" s__law_step k ["row"] ms__law_step S__law_step) (C__law_taken : Cal P w K mg base "_law_taken" s__law_taken k ["row", "many"] ms__law_taken S__law_taken) (C__law_label : Cal P w K mg base "_law_label" s__law_label k ["row"] ms__law_label S__law_label) (C__law_entries : Cal P w K mg base "_law_entries" s__law_entries k ["row", "pool", "step"] ms__law_entries S__law_entries) (C__law_rules : Cal P w K mg base "_law_rules" s__law_rules k ["row", "pool", "entries", "step"] ms__law_rules S__law_rules) (C__law_later : Cal P w K mg base "_law_later" s__law_later k ["row", "entries", "step"] ms__law_later S__law_later) (C__law_falls : Cal P w K mg base "_law_falls" s__law_falls k ["entries", "rules", "later"] ms__law_falls S__law_falls) (C_falls : Cal P w K mg base "falls" s_falls k ["entries", "rules", "moments"] ms_falls S_falls) (C__law_alike : Cal P w K mg base "_law_alike" s__law_alike k ["found", "due"] ms__law_alike S__law_alike) (f : Addr) (cdv : Value) (A : Around) (outer : List Env) (s : Shared) (H : Hp) (E : XK) (hr : Room k (A.deeper (envOfC "law" (defScope s_law) s.heap.objs.size f cdv))) :
    DSs (cxOf (L2.CX P w) P w K mg base N_law "law" (defScope s_law) f cdv A outer s H E) (defBody s_law) (t_law S__law_step S__law_taken S__law_label S__law_entries S__law_rules S__law_later S__law_falls S_falls S__law_alike) :=
  have hu := hu_of hr
  dss_cons (ds_set sc_law.nd (de_lst (da_cons (de_var 0) (da_cons (de_pu (pu_int)) (da_cons (de_pu (pu_int)) (da_cons (de_pu (pu_int)) (da_nil)))))))
    (dss_cons (ds_set sc_law.nd (dc_call C__law_step hr (dg_iol 1 (dg_nil))))
    (dss_cons (ds_setLc [(("k" : Str), 4)] rfl sc_law.nd (di_rng1 B.range (da_cons (de_add (de_pu (pu_int)) (dc_call C__law_taken hr (dg_iol 1 (dg_val (de_pu (pu_int)) (dg_nil))))) (da_nil))) (blkOk_by (N := N_law) (sc := defScope s_law) (by decide +kernel)) (fun _ _ _ _ _ => dgt_nm 4 sc_law.nd) (fun _ _ _ _ _ => dpts_nil) (fun _ _ _ _ _ => dc_call C__law_label hr (dg_iol 1 (dg_nil))) rfl)
    (dss_cons (ds_set sc_law.nd (dc_call C__law_entries hr (dg_iol 1 (dg_val (de_var 3) (dg_val (de_var 2) (dg_nil))))))
    (dss_cons (ds_set sc_law.nd (dc_call C__law_rules hr (dg_iol 1 (dg_val (de_var 3) (dg_val (de_var 5) (dg_val (de_var 2) (dg_nil)))))))
    (dss_cons (ds_set sc_law.nd (dc_call C__law_later hr (dg_iol 1 (dg_val (de_var 5) (dg_val (de_var 2) (dg_nil))))))
    (dss_cons (ds_if ((dt_and (dt_cmp (op_gtD) okCmp (pu_len B (pu_var 7)) (pu_int) (nomark _)) (dt_and1 (dt_cmp (op_gtD) okCmp (pu_mul (pu_len B (pu_var 5)) (pu_len B (pu_var 6))) (pu_int) (nomark _)))).dt)
    (dss_one (ds_set sc_law.nd (de_slice (de_var 6) (do_none) (do_some (de_pu (pu_int))))))
    (dss_nil))
    (dss_cons (ds_setLc [(("number" : Str), 9), (("moment" : Str), 10), (("tags" : Str), 11)] rfl sc_law.nd (di_seq (de_var 5)) (blkOk_by (N := N_law) (sc := defScope s_law) (by decide +kernel)) (fun _ _ _ _ _ => dgt_tu rfl (dgts_cons (dgt_nm 9 sc_law.nd) (dgts_cons (dgt_nm 10 sc_law.nd) (dgts_cons (dgt_nm 11 sc_law.nd) (dgts_nil))))) (fun _ _ _ _ _ => dpts_nil) (fun _ _ _ _ _ => de_tup (da_cons (de_var 9) (da_cons (de_var 10) (da_cons (de_tuple B (de_var 11)) (da_nil))))) rfl)
    (dss_cons (ds_set sc_law.nd (dc_call C__law_falls hr (dg_val (de_var 8) (dg_val (de_var 6) (dg_val (de_var 7) (dg_nil))))))
    (dss_cons (ds_set sc_law.nd (de_list rfl B (de_var 7)))
    (dss_cons (ds_set sc_law.nd (dc_call C_falls hr (dg_val (de_var 5) (dg_val (de_var 6) (dg_val (de_var 7) (dg_nil))))))
    (dss_cons (ds_if ((dt_or (dt_not (dt_pu (pu_call C__law_alike hr (pua_cons (pu_var 14) (pua_cons (pu_var 12) (pua_nil)))))) (dt_or1 (dt_cmp (op_neA hr.units) okNe (pu_var 7) (pu_var 13) (nomark _)))).dt)
    (dss_one (ds_ret (de_pu (pu_bl))))
    (dss_nil))
    (dss_cons (ds_setI 14 hu (de_pu (pu_int)) (de_pu (pu_neg (pu_int))))
    (dss_cons (ds_if (dt_not (dt_val (dc_call C__law_alike hr (dg_val (dc_rv [("moments" : Str), ("rules" : Str), ("entries" : Str)] C_falls hr (dgk_val (de_tuple B (de_var 7)) (dgk_val (de_tuple B (de_var 6)) (dgk_val (de_tuple B (de_var 5)) (dgk_nil)))) (fun _ _ _ _ _ _ ws hl => match ws, hl with | [_, _, _], _ => rfl) rfl) (dg_val (de_var 12) (dg_nil))))))
    (dss_one (ds_ret (de_pu (pu_bl))))
    (dss_nil))
    (dss_cons (ds_if (dt_cmpE (op_neA hr.units) okNe (de_lc [(("number" : Str), 9), (("moment" : Str), 10), (("tags" : Str), 11)] rfl sc_law.nd (di_seq (de_var 5)) (blkOk_by (N := N_law) (sc := defScope s_law) (by decide +kernel)) (fun _ _ _ _ _ => dgt_tu rfl (dgts_cons (dgt_nm 9 sc_law.nd) (dgts_cons (dgt_nm 10 sc_law.nd) (dgts_cons (dgt_nm 11 sc_law.nd) (dgts_nil))))) (fun _ _ _ _ _ => dpts_nil) (fun _ _ _ _ _ => de_tup (da_cons (de_var 9) (da_cons (de_var 10) (da_cons (de_tuple B (de_var 11)) (da_nil)))))) (de_var 8) (nomark _))
    (dss_one (ds_ret (de_pu (pu_bl))))
    (dss_nil))
    (dss_cons (ds_set sc_law.nd (de_slice (de_var 7) (do_none) (do_some (dc_call C__law_taken hr (dg_iol 1 (dg_val (de_pu (pu_add (pu_len B (pu_var 7)) (pu_int))) (dg_nil)))))))
    (dss_cons (ds_if (dt_not (dt_val (dc_call C__law_alike hr (dg_val (dc_call C_falls hr (dg_val (de_var 5) (dg_val (de_var 6) (dg_val (de_var 15) (dg_nil))))) (dg_val (dc_call C__law_falls hr (dg_val (de_var 8) (dg_val (de_var 6) (dg_val (de_var 15) (dg_nil))))) (dg_nil))))))
    (dss_one (ds_ret (de_pu (pu_bl))))
    (dss_nil))
    (dss_cons (ds_if ((dt_and (dt_cmp (op_eqA hr.units) okEq (pu_var 8) (pu_lst (pua_nil)) (nomark _)) (dt_and1 (dt_cmpE (op_neE hr.units) okNeE (dc_call C_falls hr (dg_val (de_nil 1) (dg_val (de_var 6) (dg_val (de_lst (da_cons (de_pu (pu_int)) (da_nil))) (dg_nil))))) (de_dK 1) (nomark _)))).dt)
    (dss_one (ds_ret (de_pu (pu_bl))))
    (dss_nil))
    (dss_one (ds_ret (dc_call C__law_alike hr (dg_val (dc_call C_falls hr (dg_val (de_var 5) (dg_val (de_nil 1) (dg_val (de_var 7) (dg_nil))))) (dg_val (dc_call C__law_falls hr (dg_val (de_var 8) (dg_val (de_nil 1) (dg_val (de_var 7) (dg_nil))))) (dg_nil)))))))))))))))))))))))
theorem c_law {P : Program} {w : World} {K : PySem.W.Frag} {mg : MG} {base : Heap} {k : Nat} {S__law_step : DSp} {S__law_taken : DSp} {S__law_label : DSp} {S__law_entries : DSp} {S__law_rules : DSp} {S__law_later : DSp} {S__law_falls : DSp} {S_falls : DSp} {S__law_alike : DSp} {S : DSp} (Fu : FunAt K mg "law" s_law) (B : Blt mg) (C__law_step : Cal P w K mg base "_law_step" s__law_step k ["row"] ms__law_step S__law_step) (C__law_taken : Cal P w K mg base "_law_taken" s__law_taken k ["row", "many"] ms__law_taken S__law_taken) (C__law_label : Cal P w K mg base "_law_label" s__law_label k ["row"] ms__law_label S__law_label) (C__law_entries : Cal P w K mg base "_law_entries" s__law_entries k ["row", "pool", "step"] ms__law_entries S__law_entries) (C__law_rules : Cal P w K mg base "_law_rules" s__law_rules k ["row", "pool", "entries", "step"] ms__law_rules S__law_rules) (C__law_later : Cal P w K mg base "_law_later" s__law_later k ["row", "entries", "step"] ms__law_later S__law_later) (C__law_falls : Cal P w K mg base "_law_falls" s__law_falls k ["entries", "rules", "later"] ms__law_falls S__law_falls) (C_falls : Cal P w K mg base "falls" s_falls k ["entries", "rules", "moments"] ms_falls S_falls) (C__law_alike : Cal P w K mg base "_law_alike" s__law_alike k ["found", "due"] ms__law_alike S__law_alike) (hs : ∀ ds post, S ds post → ds.length = ms_law.length → t_law S__law_step S__law_taken S__law_label S__law_entries S__law_rules S__law_later S__law_falls S_falls S__law_alike (env0 ms_law ds N_law.length) (endsOf ms_law post)) : Cal P w K mg base "law" s_law (k + 1) ["script"] ms_law S :=
  cal_mk Fu sc_law rfl (fun _ _ _ _ _ _ us hl => match us, hl with | [_], _ => rfl) (d_law B C__law_step C__law_taken C__law_label C__law_entries C__law_rules C__law_later C__law_falls C_falls C__law_alike) hs
end K77
set_option Elab.async false
set_option linter.all false
set_option maxRecDepth 100000
/-! k77, part a: data, the plain checks. -/
namespace K77
open PySem L2 PySem.Spec PyProof.Rows DL
/-! ### the row that the numbers are taken of -/
def Row (d : D) : Prop := ∃ (ns : List Int) (i s c : Int), d = .lst [.lst (ns.map .int), .int i, .int s, .int c] ∧ 0 ≤ i ∧ 0 ≤ s ∧ s < 2147483647
def S__law_taken : DSp := fun ds post => ∃ r m, ds = [r, .int m] ∧ Row r ∧ 0 < m ∧ m < 10 ^ 40 ∧ ∀ v r', 0 ≤ v → v < m → Row r' → post.rt (.int v) 0 [r']
theorem p_taken (ds : List D) (post : DPost) (h : S__law_taken ds post) (_ : ds.length = ms__law_taken.length) : t__law_taken (env0 ms__law_taken ds N__law_taken.length) (endsOf ms__law_taken post) := by
  obtain ⟨r, m, rfl, ⟨ns, i, s, c, rfl, hi, hs0, hs1⟩, hm0, hm1, k⟩ := h
  have mo : MulOk s 48271 := mul_small (by omega) (by omega)
  have big : ∀ a : Int, 0 ≤ a % 2147483647 ∧ a % 2147483647 < 2147483647 := fun a => ⟨Int.emod_nonneg _ (by decide), Int.emod_lt_of_pos _ (by decide)⟩
  refine brB_dec (p := 0 < c) (fun h => ?_) (fun h => ?_)
  · refine And.intro hm0 ?_
    refine And.intro ⟨hm0, hm1⟩ ?_
    exact k _ _ (Int.emod_nonneg _ (by omega)) (Int.emod_lt_of_pos _ hm0) ⟨ns, i, s, _, rfl, hi, hs0, hs1⟩
  · refine brB_dec (p := (((ns.map D.int).length : Int) < i + 1)) (fun h2 => ?_) (fun h2 => ?_)
    · refine And.intro mo ?_
      refine And.intro (by decide) ?_
      refine And.intro (by decide) ?_
      refine And.intro hm0 ?_
      exact k _ _ (Int.emod_nonneg _ (by omega)) (Int.emod_lt_of_pos _ hm0) ⟨ns, i + 1, _, c, rfl, by omega, (big _).1, (big _).2⟩
    · have hl : i.toNat < ns.length := by rw [List.length_map] at h2; omega
      have hg : getI (ns.map D.int) (i + 1 - 1) = some (.int ns[i.toNat]) := getI_int (by omega) (by rw [show i + 1 - 1 = i by omega, List.getElem?_map, List.getElem?_eq_getElem hl]; rfl)
      refine someD_mk hg ?_
      refine And.intro mo ?_
      refine And.intro (by decide) ?_
      refine And.intro ⟨by decide, by decide, by decide⟩ ?_
      refine brB_dec (p := 10 ^ (18 : Nat) ≤ ns[i.toNat]) (fun h3 => ?_) (fun h3 => ?_)
      · refine And.intro ⟨hm0, hm1⟩ ?_
        refine And.intro hm0 ?_
        exact k _ _ (Int.emod_nonneg _ (by omega)) (Int.emod_lt_of_pos _ hm0) ⟨ns, i + 1, _, _, rfl, by omega, (big _).1, (big _).2⟩
      · refine And.intro hm0 ?_
        exact k _ _ (Int.emod_nonneg _ (by omega)) (Int.emod_lt_of_pos _ hm0) ⟨ns, i + 1, _, c, rfl, by omega, (big _).1, (big _).2⟩
def S__law_pick : DSp := fun ds post => ∃ r xs, ds = [r, .lst xs] ∧ Row r ∧ xs ≠ [] ∧ xs.length ≤ 1000 ∧ ∀ x r', x ∈ xs → Row r' → post.rt x 0 [r']
theorem p_pick (ds : List D) (post : DPost) (h : S__law_pick ds post) (_ : ds.length = ms__law_pick.length) : t__law_pick S__law_taken (env0 ms__law_pick ds N__law_pick.length) (endsOf ms__law_pick post) := by
  obtain ⟨r, xs, rfl, hr, hx, hl, k⟩ := h
  have h0 : 0 < xs.length := List.length_pos_iff.mpr hx
  have e40 : (1000 : Int) < 10 ^ 40 := by decide
  have q : S__law_taken [r, .int xs.length] { rt := fun d n os => (eIxV 1 (fun env Q R => Q d n (putL [0] os env)) (env0 ms__law_pick [r, .lst xs] 2) (fun d n env => (endsOf ms__law_pick post).rt d n env) (endsOf ms__law_pick post).ex), ex := fun _ _ => False } := by
    refine ⟨r, _, rfl, hr, by omega, by omega, fun v r' v0 v1 hr' => ?_⟩
    have hg : v.toNat < xs.length := by omega
    refine someD_mk (getI_int v0 (List.getElem?_eq_getElem hg)) ?_
    exact k _ _ (List.getElem_mem hg) hr'
  obtain ⟨r0, m0, e, a, b, c, d⟩ := q
  exact ⟨r0, m0, e, a, b, c, d⟩
end K77
set_option Elab.async false
set_option linter.all false
set_option maxRecDepth 100000
/-! k77, part b: what is drawn. -/
namespace K77
open PySem L2 PySem.Spec PyProof.Rows DL
theorem mk_taken {post : DPost} {r : D} {m : Int} (hr : Row r) (h0 : 0 < m) (h1 : m < 10 ^ 40) (k : ∀ v r', 0 ≤ v → v < m → Row r' → post.rt (.int v) 0 [r']) : S__law_taken [r, .int m] post := ⟨r, m, rfl, hr, h0, h1, k⟩
theorem mk_pick {post : DPost} {r : D} {xs : List D} (hr : Row r) (h0 : xs ≠ []) (h1 : xs.length ≤ 1000) (k : ∀ x r', x ∈ xs → Row r' → post.rt x 0 [r']) : S__law_pick [r, .lst xs] post := ⟨r, xs, rfl, hr, h0, h1, k⟩
def S__law_step : DSp := fun ds post => ∃ r, ds = [r] ∧ Row r ∧ ∀ (v : Int) r', 1 ≤ v → v ≤ 10 ^ 9 → Row r' → post.rt (.int v) 0 [r']
theorem mk_step {post : DPost} {r : D} (hr : Row r) (k : ∀ (v : Int) r', 1 ≤ v → v ≤ 10 ^ 9 → Row r' → post.rt (.int v) 0 [r']) : S__law_step [r] post := ⟨r, rfl, hr, k⟩
theorem p_step (ds : List D) (post : DPost) (h : S__law_step ds post) (_ : ds.length = ms__law_step.length) : t__law_step S__law_pick (env0 ms__law_step ds N__law_step.length) (endsOf ms__law_step post) := by
  obtain ⟨r, rfl, hr, k⟩ := h
  refine And.intro ⟨by decide, by decide, by decide⟩ ?_
  refine And.intro (ms_le (by decide)) ?_
  refine mk_pick hr (fun z => nomatch z) (by decide) (fun x r' hx hr' => ?_)
  have e : ∃ v : Int, x = .int v ∧ 1 ≤ v ∧ v ≤ 10 ^ 9 := by
    simp only [List.mem_cons, List.not_mem_nil, or_false] at hx
    rcases hx with rfl | rfl | rfl | rfl | rfl | rfl | rfl | rfl <;> exact ⟨_, rfl, by decide, by decide⟩
  obtain ⟨v, rfl, v0, v1⟩ := e
  exact k v r' v0 v1 hr'
/-! ### labels -/
abbrev SG : Str := (" !\"#$&'()*+,-./0123456789:;<=>?@ABCDEFGHIJKLMNOPQRSTUVWXYZ[\\]^_`abcdefghijklmnopqrstuvwxyz{|}~" : Str)
theorem sg_len : SG.length = 94 := by decide +kernel
def Lab (s : Str) : Prop := s.length ≤ 20 ∧ ∀ c ∈ s.cps.toList, c ∈ SG.cps.toList
/-- texts of one sign each -/
def One (ds : List D) (cs : List Nat) : Prop := ds = cs.map fun c => D.str ⟨#[c]⟩
def S__law_label : DSp := fun ds post => ∃ r, ds = [r] ∧ Row r ∧ ∀ s r', Lab s → s ≠ ("" : Str) → Row r' → post.rt (.str s) 0 [r']
def someC {α : Type} (o : Option α) (k : α → Prop) : Prop := match o with
  | some c => k c
  | none => False
theorem someC_mk {α : Type} {o : Option α} {c : α} {k : α → Prop} (h : o = some c) (q : k c) : someC o k := by rw [h]; exact q
abbrev E_label (r : D) (m : Int) : DEnv := [some ⟨r, 1, true⟩, some ⟨.str SG, 0, false⟩, some ⟨.int m, 0, false⟩, none]
theorem label_loop (m : Int) : ∀ (items : List D) (r : D) (cs : List Nat), Row r → (∀ c ∈ cs, c ∈ SG.cps.toList) → items.length + cs.length ≤ 1000 → ∀ Q : QE, (∀ (cs' : List Nat) r', cs'.length = cs.length + items.length → (∀ c ∈ cs', c ∈ SG.cps.toList) → Row r' → Q (.lst (cs'.map fun c => D.str ⟨#[c]⟩)) 1 (E_label r' m)) →
    lcD (.nm 3) ttYes (eIxL 1 (eCall ms__law_taken S__law_taken [] (gaIoL 0 (gaVal (eP (pC (.int 94))) (gaNil))))) [3] items (cs.map fun c => D.str ⟨#[c]⟩) (E_label r m) Q
  | [], r, cs, hr, hc, hl, Q, k => k cs r rfl hc hr
  | x :: items, r, cs, hr, hc, hl, Q, k => by
    refine mk_taken hr (by decide) (by decide) (fun v r' v0 v1 hr' => ?_)
    have hz : SG.cps.toList.length = 94 := by rw [Array.length_toList]; exact sg_len
    have hlt : v.toNat < SG.cps.toList.length := by omega
    refine And.intro (ms_le (by rw [sg_len]; decide)) ?_
    rw [getI_int v0 (List.getElem?_eq_getElem hlt)]
    refine And.intro (by rw [List.length_map]; exact Nat.lt_of_le_of_lt (show cs.length ≤ 1000 by omega) (by decide)) ?_
    have := label_loop m items r' (cs ++ [SG.cps.toList[v.toNat]]) hr' (fun c hx => by
      rcases List.mem_append.mp hx with hx | hx
      · exact hc c hx
      · rw [List.mem_singleton.mp hx]; exact List.getElem_mem hlt) (by simp at hl ⊢; omega) Q (fun cs' r'' h1 h2 h3 => k cs' r'' (by rw [h1]; simp; omega) h2 h3)
    rw [List.map_append] at this
    exact this
theorem strs_one : ∀ cs : List Nat, strsD (cs.map fun c => D.str ⟨#[c]⟩) = some (cs.map fun c => (⟨#[c]⟩ : Str))
  | [] => rfl
  | c :: cs => by
    show (match strsD (cs.map fun c => D.str ⟨#[c]⟩) with | some ss => some ((⟨#[c]⟩ : Str) :: ss) | none => none) = _
    rw [strs_one cs]
    rfl
theorem p_label (ds : List D) (post : DPost) (h : S__law_label ds post) (_ : ds.length = ms__law_label.length) : t__law_label S__law_taken (env0 ms__law_label ds N__law_label.length) (endsOf ms__law_label post) := by
  obtain ⟨r, rfl, hr, k⟩ := h
  refine And.intro (ms_le (by decide)) ?_
  refine mk_taken hr (by decide) (by decide) (fun v r' v0 v1 hr' => ?_)
  have hv : ∃ m : Int, 1 ≤ m ∧ m ≤ 20 ∧ getI [D.int 1, .int 1, .int 2, .int 3, .int 6, .int 20] v = some (.int m) := by
    have : v = 0 ∨ v = 1 ∨ v = 2 ∨ v = 3 ∨ v = 4 ∨ v = 5 := by omega
    rcases this with rfl | rfl | rfl | rfl | rfl | rfl <;> exact ⟨_, by decide, by decide, rfl⟩
  obtain ⟨m, m0, m1, hm⟩ := hv
  refine someD_mk hm ?_
  refine And.intro ⟨by omega, by omega⟩ ?_
  refine label_loop m (rngD 0 m.toNat) r' [] hr' (fun c hc => nomatch hc) (by rw [rngD_len]; simp; omega) _ (fun cs r'' h1 h2 hr'' => ?_)
  rw [rngD_len] at h1
  simp only [aNil, odJoin, strs_one]
  have hlen : cs.length = m.toNat := by rw [h1]; simp
  have join1 : ∀ l : List Nat, TL.joinL [] (l.map fun c => [c]) = l := by
    intro l
    induction l with
    | nil => rfl
    | cons c l ih =>
      cases l with
      | nil => rfl
      | cons d l =>
        show [c] ++ ([] ++ TL.joinL [] ([d] :: l.map fun c => [c])) = c :: d :: l
        rw [List.nil_append, show ([d] :: l.map fun c => [c]) = (d :: l).map fun c => [c] from rfl, ih]
        rfl
  have e : Txt.join ("" : Str) (cs.map fun c => (⟨#[c]⟩ : Str)) = SX.S cs := by
    have h := SX.join_S [] (cs.map fun c => [c])
    rw [join1, List.map_map] at h
    exact h
  have sl : (cs.map fun c => (⟨#[c]⟩ : Str)).map (·.length) = cs.map fun _ => 1 := by rw [List.map_map]; rfl
  have sm : ∀ l : List Nat, (l.map fun _ => 1).sum = l.length := by
    intro l
    induction l with
    | nil => rfl
    | cons a l ih => rw [List.map_cons, List.sum_cons, ih, List.length_cons]; omega
  refine And.intro ?_ ?_
  · rw [sl, sm, List.length_map, show ("" : Str).length = 0 from rfl]
    omega
  · rw [e]
    refine k (SX.S cs) r'' ⟨?_, ?_⟩ (fun z => ?_) hr''
    · show cs.toArray.size ≤ 20
      rw [List.size_toArray]
      omega
    · intro c hc
      exact h2 c (by simpa using hc)
    · have : (SX.S cs).cps.size = ("" : Str).cps.size := by rw [z]
      rw [show (SX.S cs).cps.size = cs.length by simp [SX.S], show ("" : Str).cps.size = 0 from rfl] at this
      omega
end K77
set_option Elab.async false
set_option linter.all false
set_option maxRecDepth 100000
set_option maxHeartbeats 2000000
/-! k77, part c: entries as they are drawn. -/
namespace K77
open PySem L2 PySem.Spec PyProof.Rows DL
structure Ent where
  n : Int
  t : Int
  tags : List Str
  l : Bool
def sq (b : Bool) (ds : List D) : D := match b with
  | true => .lst ds
  | false => .tup ds
def eD (e : Ent) : D := .tup [.int e.n, .int e.t, sq e.l (e.tags.map .str)]
structure EntOk (e : Ent) : Prop where
  n0 : 0 ≤ e.n
  n1 : e.n ≤ 10 ^ 9
  t0 : 0 ≤ e.t
  t1 : e.t ≤ 10 ^ 12
  tl : e.tags.length ≤ 2
  tg : ∀ s ∈ e.tags, Lab s
structure EsOk (es : List Ent) : Prop where
  len : es.length ≤ 60
  ok : ∀ e ∈ es, EntOk e
  asc : es.Pairwise fun a b => a.n < b.n ∧ a.t < b.t
theorem labE : Lab ("" : Str) := ⟨by decide, fun c hc => by cases hc⟩
abbrev Pool (pool : List Str) : Prop := pool ≠ [] ∧ pool.length ≤ 10 ∧ ∀ s ∈ pool, Lab s ∧ s ≠ ("" : Str)
def S__law_entries : DSp := fun ds post => ∃ r pool step, ds = [r, .lst (pool.map .str), .int step] ∧ Row r ∧ Pool pool ∧ 1 ≤ step ∧ step ≤ 10 ^ 9 ∧ ∀ es r', EsOk es → Row r' → post.rt (.lst (es.map eD)) 1 [r']
theorem mk_entries {post : DPost} {r : D} {pool : List Str} {step : Int} (hr : Row r) (hp : Pool pool) (h0 : 1 ≤ step) (h1 : step ≤ 10 ^ 9) (k : ∀ es r', EsOk es → Row r' → post.rt (.lst (es.map eD)) 1 [r']) : S__law_entries [r, .lst (pool.map .str), .int step] post := ⟨r, pool, step, rfl, hr, hp, h0, h1, k⟩
abbrev E_en (r : D) (pool : List Str) (step many number wide moment : Int) (es : List Ent) (kk tt : Option Bd) : DEnv :=
  [some ⟨r, 1, true⟩, some ⟨.lst (pool.map .str), 0, false⟩, some ⟨.int step, 0, false⟩, some ⟨.int many, 0, false⟩, some ⟨.int number, 0, false⟩, some ⟨.int wide, 0, false⟩, some ⟨.int moment, 0, false⟩, some ⟨.lst (es.map eD), 1, false⟩, kk, tt, none]
theorem tags_loop (pool : List Str) (hp : Pool pool) (step many number wide moment : Int) (es : List Ent) (kk tt : Option Bd) : ∀ (items : List D) (r : D) (ts : List Str), Row r → (∀ s ∈ ts, Lab s) → items.length + ts.length ≤ 2 → ∀ Q : QE,
    (∀ (ts' : List Str) r', ts'.length ≤ 2 → (∀ s ∈ ts', Lab s) → Row r' → Q (.lst (ts'.map .str)) 1 (E_en r' pool step many number wide moment es kk tt)) →
    lcD (.nm 10) ttYes (e__law_entries_1 S__law_pick S__law_taken) [10] items (ts.map .str) (E_en r pool step many number wide moment es kk tt) Q
  | [], r, ts, hr, ht, hl, Q, k => k ts r (by simpa using hl) ht hr
  | x :: items, r, ts, hr, ht, hl, Q, k => by
    have hp2 := hp.2.1
    refine And.intro (ms_r rfl) ?_
    refine And.intro (ms_le (by rw [List.length_map]; simp; omega)) ?_
    refine mk_pick hr (by simp) (by simp; omega) (fun y r' hy hr' => ?_)
    have hs : ∃ s, y = .str s ∧ Lab s := by
      rcases List.mem_append.mp hy with hy | hy
      · obtain ⟨s, hs, rfl⟩ := List.mem_map.mp hy
        exact ⟨s, rfl, (hp.2.2 s hs).1⟩
      · rw [List.mem_singleton.mp hy]
        exact ⟨_, rfl, labE⟩
    obtain ⟨s, rfl, hls⟩ := hs
    refine And.intro (by rw [List.length_map]; exact Nat.lt_of_le_of_lt (show ts.length ≤ 2 by simp at hl; omega) (by decide)) ?_
    have := tags_loop pool hp step many number wide moment es kk tt items r' (ts ++ [s]) hr' (fun u hu => by
      rcases List.mem_append.mp hu with hu | hu
      · exact ht u hu
      · rw [List.mem_singleton.mp hu]; exact hls) (by simp at hl ⊢; omega) Q k
    rw [List.map_append] at this
    exact this
/-- what holds ahead of the next entry -/
structure EnInv (step wide number moment : Int) (es : List Ent) : Prop where
  ok : EsOk es
  n0 : 0 ≤ number
  n1 : number ≤ 10 ^ 9 - 240 + 4 * es.length
  t0 : 0 ≤ moment
  t1 : moment ≤ 3 + step * es.length ∨ moment ≤ 10 ^ 12 - 61 * step + step * es.length
  nx : ∀ e ∈ es, e.n < number ∧ e.t < moment
theorem EnInv.next {step wide number moment : Int} {es : List Ent} (h : EnInv step wide number moment es) (h0 : 1 ≤ step) (h1 : step ≤ 10 ^ 9) (hl : es.length < 60) {ts : List Str} (hts : ts.length ≤ 2) (htl : ∀ s ∈ ts, Lab s) (b : Bool) {v u : Int} (v0 : 0 ≤ v) (v1 : v < wide) (hw : wide ≤ 4) (u0 : 0 ≤ u) (u1 : u < step) :
    EnInv step wide (number + 1 + v) (moment + 1 + u) (es ++ [⟨number, moment, ts, b⟩]) := by
  have hle : ((es ++ [(⟨number, moment, ts, b⟩ : Ent)]).length : Int) = es.length + 1 := by simp
  have hm : step * (es.length : Int) ≤ step * 59 := Int.mul_le_mul_of_nonneg_left (by omega) (by omega)
  have hd : step * ((es.length : Int) + 1) = step * es.length + step := by rw [Int.mul_add, Int.mul_one]
  have tm : moment ≤ 10 ^ 12 := by rcases h.t1 with z | z <;> omega
  refine ⟨⟨by simp; omega, fun e he => ?_, ?_⟩, by have := h.n0; omega, by rw [hle]; have := h.n1; omega, by have := h.t0; omega, ?_, fun e he => ?_⟩
  · rcases List.mem_append.mp he with he | he
    · exact h.ok.ok e he
    · rw [List.mem_singleton.mp he]
      exact ⟨h.n0, by have := h.n1; show number ≤ _; omega, h.t0, tm, hts, htl⟩
  · rw [List.pairwise_append]
    exact ⟨h.ok.asc, List.pairwise_singleton _ _, fun a ha b hb => by rw [List.mem_singleton.mp hb]; exact h.nx a ha⟩
  · rw [hle, hd]
    rcases h.t1 with z | z
    · left; omega
    · right; omega
  · rcases List.mem_append.mp he with he | he
    · have := h.nx e he; omega
    · rw [List.mem_singleton.mp he]
      show number < _ ∧ moment < _
      omega
theorem entries_loop (pool : List Str) (hp : Pool pool) (step many wide : Int) (h0 : 1 ≤ step) (h1 : step ≤ 10 ^ 9) (hw0 : 1 ≤ wide) (hw : wide ≤ 4) : ∀ (items : List D) (r : D) (number moment : Int) (es : List Ent) (kk tt : Option Bd), Row r → EnInv step wide number moment es → items.length + es.length ≤ 60 → ∀ Dn : DEnds,
    (∀ r' number' moment' es' kk' tt', Row r' → EsOk es' → Dn.nx (E_en r' pool step many number' wide moment' es' kk' tt')) → forD (.nm 8) (b__law_entries_1 S__law_pick S__law_taken) items (E_en r pool step many number wide moment es kk tt) Dn
  | [], r, number, moment, es, kk, tt, hr, hi, hl, Dn, k => k r number moment es kk tt hr hi.ok
  | x :: items, r, number, moment, es, kk, tt, hr, hi, hl, Dn, k => by
    have hl' : es.length < 60 := by simp at hl; omega
    -- tags
    refine And.intro (ms_r rfl) ?_
    refine mk_pick hr (fun z => nomatch z) (Nat.le_of_ble_eq_true rfl) (fun y r1 hy hr1 => ?_)
    have hj : ∃ j : Int, y = .int j ∧ 0 ≤ j ∧ j ≤ 2 := by
      simp only [List.mem_cons, List.not_mem_nil, or_false] at hy
      rcases hy with rfl | rfl | rfl | rfl <;> exact ⟨_, rfl, by decide, by decide⟩
    obtain ⟨j, rfl, j0, j1⟩ := hj
    refine And.intro ⟨by omega, by omega⟩ ?_
    refine tags_loop pool hp step many number wide moment es (some ⟨x, 0, false⟩) tt (rngD 0 j.toNat) r1 [] hr1 (fun s hs => nomatch hs) (by rw [rngD_len]; simp; omega) _ (fun ts r2 hts htl hr2 => ?_)
    -- found.append((number, moment, tags or its tuple))
    refine mk_taken hr2 (by decide) (by decide) (fun v r3 v0 v1 hr3 => ?_)
    have e40 : (10 : Int) ^ 9 < 10 ^ 40 := by decide
    have fin : ∀ (b : Bool) (r3 : D), Row r3 → ∀ v2 r4, 0 ≤ v2 → v2 < wide → Row r4 → ∀ u r5, 0 ≤ u → u < step → Row r5 → ∀ kk tt, forD (.nm 8) (b__law_entries_1 S__law_pick S__law_taken) items
        [some ⟨r5, 1, true⟩, some ⟨.lst (pool.map .str), 0, false⟩, some ⟨.int step, 0, false⟩, some ⟨.int many, 0, false⟩, some ⟨.int (number + 1 + v2), 0, false⟩, some ⟨.int wide, 0, false⟩, some ⟨.int (moment + 1 + u), 0, false⟩, some ⟨.lst (es.map eD ++ [.tup [.int number, .int moment, sq b (ts.map .str)]]), 1, false⟩, kk, tt, none] Dn := by
      intro b r3 hr3 v2 r4 v20 v21 hr4 u r5 u0 u1 hr5 kk tt
      have := entries_loop pool hp step many wide h0 h1 hw0 hw items r5 (number + 1 + v2) (moment + 1 + u) (es ++ [⟨number, moment, ts, b⟩]) kk tt hr5 (hi.next h0 h1 hl' hts htl b v20 v21 hw u0 u1) (by simp at hl ⊢; omega) Dn k
      unfold E_en at this
      rw [List.map_append] at this
      exact this
    have sz : (es.map eD).length < sizeLine := Nat.lt_of_le_of_lt (show (es.map eD).length ≤ 1000 by rw [List.length_map]; omega) (by decide)
    refine brB_dec (p := v = 0) (fun _ => ?_) (fun _ => ?_)
    · refine And.intro (ms_r rfl) ?_
      refine And.intro sz ?_
      refine mk_taken hr3 (by omega) (by omega) (fun v2 r4 v20 v21 hr4 => ?_)
      refine mk_taken hr4 (by omega) (by omega) (fun u r5 u0 u1 hr5 => ?_)
      exact fin true r3 hr3 v2 r4 v20 v21 hr4 u r5 u0 u1 hr5 _ _
    · refine And.intro (ms_r rfl) ?_
      refine And.intro sz ?_
      refine mk_taken hr3 (by omega) (by omega) (fun v2 r4 v20 v21 hr4 => ?_)
      refine mk_taken hr4 (by omega) (by omega) (fun u r5 u0 u1 hr5 => ?_)
      exact fin false r3 hr3 v2 r4 v20 v21 hr4 u r5 u0 u1 hr5 _ _
theorem p_entries (ds : List D) (post : DPost) (h : S__law_entries ds post) (_ : ds.length = ms__law_entries.length) : t__law_entries S__law_pick S__law_taken (env0 ms__law_entries ds N__law_entries.length) (endsOf ms__law_entries post) := by
  obtain ⟨r, pool, step, rfl, hr, hp, h0, h1, k⟩ := h
  refine And.intro (ms_r rfl) ?_
  refine mk_pick hr (fun z => nomatch z) (Nat.le_of_ble_eq_true rfl) (fun y r1 hy hr1 => ?_)
  have hj : ∃ j : Int, y = .int j ∧ 0 ≤ j ∧ j ≤ 60 := by
    simp only [List.mem_cons, List.not_mem_nil, or_false] at hy
    rcases hy with rfl | rfl | rfl | rfl | rfl | rfl | rfl | rfl | rfl | rfl | rfl | rfl <;> exact ⟨_, rfl, by decide, by decide⟩
  obtain ⟨many, rfl, m0, m1⟩ := hj
  refine And.intro ⟨by decide, by decide, by decide⟩ ?_
  refine And.intro (ms_r rfl) ?_
  refine mk_pick hr1 (fun z => nomatch z) (Nat.le_of_ble_eq_true rfl) (fun y r2 hy hr2 => ?_)
  have hj : ∃ j : Int, y = .int j ∧ 0 ≤ j ∧ j ≤ 10 ^ 9 - 240 := by
    simp only [List.mem_cons, List.not_mem_nil, or_false] at hy
    rcases hy with rfl | rfl | rfl | rfl <;> exact ⟨_, rfl, by decide, by decide⟩
  obtain ⟨number, rfl, n0, n1⟩ := hj
  refine mk_taken hr2 (by decide) (by decide) (fun v r3 v0 v1 hr3 => ?_)
  refine And.intro ⟨by decide, by decide, by decide⟩ ?_
  refine And.intro (mul_small (by decide) (by decide)) ?_
  refine And.intro (ms_r rfl) ?_
  refine mk_pick hr3 (fun z => nomatch z) (Nat.le_of_ble_eq_true rfl) (fun y r4 hy hr4 => ?_)
  have hj : ∃ j : Int, y = .int j ∧ 0 ≤ j ∧ (j ≤ 3 ∨ j ≤ 10 ^ 12 - 61 * step) := by
    simp only [List.mem_cons, List.not_mem_nil, or_false] at hy
    rcases hy with rfl | rfl | rfl
    · exact ⟨_, rfl, by decide, .inl (by decide)⟩
    · exact ⟨_, rfl, by decide, .inl (by decide)⟩
    · exact ⟨_, rfl, by show (0 : Int) ≤ 10 ^ 12 - 61 * step; omega, .inr (Int.le_refl _)⟩
  obtain ⟨moment, rfl, t0, t1⟩ := hj
  refine And.intro ⟨by omega, by omega⟩ ?_
  refine entries_loop pool hp step many (1 + v) h0 h1 (by omega) (by omega) (rngD 0 many.toNat) r4 number moment [] none none hr4 ⟨⟨by decide, (fun e he => nomatch he), List.Pairwise.nil⟩, n0, by simpa using n1, t0, by simpa using t1, (fun e he => nomatch he)⟩ (by rw [rngD_len]; simp; omega) _ (fun r' number' moment' es' kk' tt' hr' hes' => ?_)
  exact k es' r' hes' hr'
end K77
set_option Elab.async false
set_option linter.all false
set_option maxRecDepth 100000
set_option maxHeartbeats 2000000
/-! k77, part d: rules as they are drawn. -/
namespace K77
open PySem L2 PySem.Spec PyProof.Rows DL
inductive Rl where
  | last (k : Int) | each (p k : Int) | tag (s : Str) | within (k : Int) | number (k : Int)
def rD : Rl → D
  | .last k => .tup [.str ("last" : Str), .int k]
  | .each p k => .tup [.str ("each" : Str), .int p, .int k]
  | .tag s => .tup [.str ("tag" : Str), .str s]
  | .within k => .tup [.str ("within" : Str), .int k]
  | .number k => .tup [.str ("number" : Str), .int k]
def RlOk : Rl → Prop
  | .last k => 1 ≤ k ∧ k ≤ 60
  | .each p k => 1 ≤ p ∧ p ≤ 10 ^ 9 ∧ 1 ≤ k ∧ k ≤ 60
  | .tag s => Lab s ∧ s ≠ ("" : Str)
  | .within k => 0 ≤ k ∧ k ≤ 10 ^ 12
  | .number k => 0 ≤ k ∧ k ≤ 10 ^ 9
structure RsOk (rs : List Rl) : Prop where
  len : rs.length ≤ 12
  ok : ∀ r ∈ rs, RlOk r
def S__law_rule : DSp := fun ds post => ∃ r pool es step, ds = [r, .lst (pool.map .str), .lst (es.map eD), .int step] ∧ Row r ∧ Pool pool ∧ EsOk es ∧ 1 ≤ step ∧ step ≤ 10 ^ 9 ∧ ∀ ru r', RlOk ru → Row r' → post.rt (rD ru) 0 [r']
theorem mk_rule {post : DPost} {r : D} {pool : List Str} {es : List Ent} {step : Int} (hr : Row r) (hp : Pool pool) (he : EsOk es) (h0 : 1 ≤ step) (h1 : step ≤ 10 ^ 9) (k : ∀ ru r', RlOk ru → Row r' → post.rt (rD ru) 0 [r']) :
    S__law_rule [r, .lst (pool.map .str), .lst (es.map eD), .int step] post := ⟨r, pool, es, step, rfl, hr, hp, he, h0, h1, k⟩
abbrev E_ru (r : D) (pool : List Str) (es : List D) (step kind many : Int) : DEnv := [some ⟨r, 1, true⟩, some ⟨.lst (pool.map .str), 0, false⟩, some ⟨.lst es, 0, false⟩, some ⟨.int step, 0, false⟩, some ⟨.int kind, 0, false⟩, some ⟨.int many, 0, false⟩, none, none, none]
theorem nums_loop (r : D) (pool : List Str) (all : List D) (step kind many : Int) : ∀ (es : List Ent) (acc : List D), es.length + acc.length ≤ 1000 → ∀ Q : QE, Q (.lst (acc ++ es.map fun e => .int e.n)) 1 (E_ru r pool all step kind many) →
    lcD (.nm 8) ttYes (e__law_rule_1 S__law_taken S__law_pick) [8] (es.map eD) acc (E_ru r pool all step kind many) Q
  | [], acc, _, Q, k => by
    rw [List.map_nil, List.append_nil] at k
    exact k
  | e :: es, acc, hl, Q, k => by
    refine And.intro (Nat.lt_of_le_of_lt (show acc.length ≤ 1000 by omega) (by decide)) ?_
    refine nums_loop r pool all step kind many es (acc ++ [.int e.n]) (by simp at hl ⊢; omega) Q ?_
    rw [List.append_assoc]
    exact k
theorem p_rule (ds : List D) (post : DPost) (h : S__law_rule ds post) (_ : ds.length = ms__law_rule.length) : t__law_rule S__law_taken S__law_pick (env0 ms__law_rule ds N__law_rule.length) (endsOf ms__law_rule post) := by
  obtain ⟨r, pool, es, step, rfl, hr, hp, he, h0, h1, k⟩ := h
  refine mk_taken hr (by decide) (by decide) (fun kind r1 k0 k1 hr1 => ?_)
  refine mk_taken hr1 (by decide) (by decide) (fun v r2 v0 v1 hr2 => ?_)
  refine And.intro (ms_r rfl) ?_
  refine mk_pick hr2 (fun z => nomatch z) (Nat.le_of_ble_eq_true rfl) (fun y r3 hy hr3 => ?_)
  have hj : ∃ j : Int, y = .int j ∧ 1 ≤ j ∧ j ≤ 60 := by
    simp only [List.mem_cons, List.not_mem_nil, or_false] at hy
    rcases hy with rfl | rfl | rfl | rfl | rfl | rfl
    · exact ⟨_, rfl, by decide, by decide⟩
    · exact ⟨_, rfl, by decide, by decide⟩
    · exact ⟨_, rfl, by decide, by decide⟩
    · exact ⟨_, rfl, by decide, by decide⟩
    · exact ⟨_, rfl, by decide, by decide⟩
    · exact ⟨_, rfl, by omega, by omega⟩
  obtain ⟨many, rfl, m0, m1⟩ := hj
  refine brB_dec (p := kind = 0) (fun _ => ?_) (fun q0 => ?_)
  · refine And.intro (ms_r rfl) ?_
    exact k (.last many) r3 ⟨m0, m1⟩ hr3
  refine brB_dec (p := kind = 1) (fun _ => ?_) (fun q1 => ?_)
  · refine And.intro (mul_small (by decide) (by decide)) ?_
    refine mk_taken hr3 (by omega) (by omega) (fun v2 r4 v20 v21 hr4 => ?_)
    refine And.intro (mul_small (by decide) (by decide)) ?_
    refine And.intro ⟨by decide, by decide, by decide⟩ ?_
    refine And.intro (ms_r rfl) ?_
    refine mk_pick hr4 (fun z => nomatch z) (Nat.le_of_ble_eq_true rfl) (fun y r5 hy hr5 => ?_)
    have hj : ∃ j : Int, y = .int j ∧ 1 ≤ j := by
      simp only [List.mem_cons, List.not_mem_nil, or_false] at hy
      rcases hy with rfl | rfl | rfl | rfl | rfl | rfl
      · exact ⟨_, rfl, by decide⟩
      · exact ⟨_, rfl, by decide⟩
      · exact ⟨_, rfl, h0⟩
      · exact ⟨_, rfl, by omega⟩
      · exact ⟨_, rfl, by omega⟩
      · exact ⟨_, rfl, by decide⟩
    obtain ⟨p, rfl, p0⟩ := hj
    refine And.intro ⟨by decide, by decide, by decide⟩ ?_
    refine And.intro (ms_r rfl) ?_
    exact k (.each (if p < 10 ^ 9 then p else 10 ^ 9) many) r5 (by
      show 1 ≤ (if p < 10 ^ 9 then p else 10 ^ 9) ∧ (if p < 10 ^ 9 then p else 10 ^ 9) ≤ 10 ^ 9 ∧ 1 ≤ many ∧ many ≤ 60
      split <;> exact ⟨by omega, by omega, m0, m1⟩) hr5
  refine brB_dec (p := kind = 2) (fun _ => ?_) (fun q2 => ?_)
  · refine mk_pick hr3 (by simpa using hp.1) (by rw [List.length_map]; exact Nat.le_trans hp.2.1 (by decide)) (fun y r4 hy hr4 => ?_)
    obtain ⟨s, hs, rfl⟩ := List.mem_map.mp hy
    refine And.intro (ms_r rfl) ?_
    exact k (.tag s) r4 (hp.2.2 s hs) hr4
  refine brB_dec (p := kind = 3) (fun _ => ?_) (fun q3 => ?_)
  · refine And.intro (mul_small (by decide) (by decide)) ?_
    refine mk_taken hr3 (by omega) (by omega) (fun v2 r4 v20 v21 hr4 => ?_)
    refine And.intro ⟨by decide, by decide, by decide⟩ ?_
    refine And.intro (ms_r rfl) ?_
    refine mk_pick hr4 (fun z => nomatch z) (Nat.le_of_ble_eq_true rfl) (fun y r5 hy hr5 => ?_)
    have hj : ∃ j : Int, y = .int j ∧ 0 ≤ j ∧ j ≤ 10 ^ 12 := by
      simp only [List.mem_cons, List.not_mem_nil, or_false] at hy
      rcases hy with rfl | rfl | rfl | rfl | rfl
      · exact ⟨_, rfl, by decide, by decide⟩
      · exact ⟨_, rfl, by decide, by decide⟩
      · exact ⟨_, rfl, by omega, by omega⟩
      · exact ⟨_, rfl, by omega, by omega⟩
      · exact ⟨_, rfl, by decide, by decide⟩
    obtain ⟨w, rfl, w0, w1⟩ := hj
    refine And.intro (ms_r rfl) ?_
    exact k (.within w) r5 ⟨w0, w1⟩ hr5
  refine nums_loop r3 pool (es.map eD) step kind many es [] (by have := he.len; simp; omega) _ ?_
  refine And.intro ⟨by decide, by decide, by decide⟩ ?_
  refine mk_taken hr3 (by decide) (by decide) (fun v2 r4 v20 v21 hr4 => ?_)
  refine And.intro (ms_r rfl) ?_
  refine And.intro (ms_le (by have := he.len; simp; omega)) ?_
  refine mk_pick hr4 (by simp) (by have := he.len; simp; omega) (fun y r5 hy hr5 => ?_)
  have hj : ∃ j : Int, y = .int j ∧ 0 ≤ j ∧ j ≤ 10 ^ 9 := by
    rcases List.mem_append.mp hy with hy | hy
    · rw [List.nil_append] at hy
      obtain ⟨e, hm, rfl⟩ := List.mem_map.mp hy
      exact ⟨e.n, rfl, (he.ok e hm).n0, (he.ok e hm).n1⟩
    · simp only [List.mem_cons, List.not_mem_nil, or_false] at hy
      rcases hy with rfl | rfl | rfl
      · exact ⟨_, rfl, by decide, by decide⟩
      · exact ⟨_, rfl, by decide, by decide⟩
      · exact ⟨_, rfl, v20, by omega⟩
  obtain ⟨w, rfl, w0, w1⟩ := hj
  refine And.intro (ms_r rfl) ?_
  exact k (.number w) r5 ⟨w0, w1⟩ hr5
end K77
set_option Elab.async false
set_option linter.all false
set_option maxRecDepth 100000
set_option maxHeartbeats 2000000
/-! k77, part e: the rules, drawn. -/
namespace K77
open PySem L2 PySem.Spec PyProof.Rows DL
theorem lab_ok {s : Str} (h : Lab s) : (PyData.str s).canLay0 = true := by
  show (s.cps.all (· < 0x110000)) = true
  rw [← Array.all_toList, List.all_eq_true]
  intro c hc
  have h1 := h.2 c hc
  have h2 : SG.cps.toList.all (· < 0x110000) = true := by decide +kernel
  exact List.all_eq_true.mp h2 c h1
theorem rD_flat {r : Rl} (h : RlOk r) : Flat 1 (rD r) := by
  have c : ∀ s : Str, s = "last" ∨ s = "each" ∨ s = "tag" ∨ s = "within" ∨ s = "number" → (PyData.str s).canLay0 = true := by
    rintro s (rfl | rfl | rfl | rfl | rfl) <;> decide +kernel
  cases r with
  | last k => intro d hd; simp only [List.mem_cons, List.not_mem_nil, or_false] at hd; rcases hd with rfl | rfl; exact c _ (by simp); exact trivial
  | each p k => intro d hd; simp only [List.mem_cons, List.not_mem_nil, or_false] at hd; rcases hd with rfl | rfl | rfl; exact c _ (by simp); exact trivial; exact trivial
  | tag s => intro d hd; simp only [List.mem_cons, List.not_mem_nil, or_false] at hd; rcases hd with rfl | rfl; exact c _ (by simp); exact lab_ok h.1
  | within k => intro d hd; simp only [List.mem_cons, List.not_mem_nil, or_false] at hd; rcases hd with rfl | rfl; exact c _ (by simp); exact trivial
  | number k => intro d hd; simp only [List.mem_cons, List.not_mem_nil, or_false] at hd; rcases hd with rfl | rfl; exact c _ (by simp); exact trivial
theorem rs_flat {rs : List Rl} (h : ∀ r ∈ rs, RlOk r) : Flat 2 (.lst (rs.map rD)) := fun d hd => by
  obtain ⟨r, hr, rfl⟩ := List.mem_map.mp hd
  exact rD_flat (h r hr)
def S__law_rules : DSp := fun ds post => ∃ r pool es step, ds = [r, .lst (pool.map .str), .lst (es.map eD), .int step] ∧ Row r ∧ Pool pool ∧ EsOk es ∧ 1 ≤ step ∧ step ≤ 10 ^ 9 ∧ ∀ rs r', RsOk rs → Row r' → post.rt (.lst (rs.map rD)) 1 [r']
theorem mk_rules {post : DPost} {r : D} {pool : List Str} {es : List Ent} {step : Int} (hr : Row r) (hp : Pool pool) (he : EsOk es) (h0 : 1 ≤ step) (h1 : step ≤ 10 ^ 9) (k : ∀ rs r', RsOk rs → Row r' → post.rt (.lst (rs.map rD)) 1 [r']) :
    S__law_rules [r, .lst (pool.map .str), .lst (es.map eD), .int step] post := ⟨r, pool, es, step, rfl, hr, hp, he, h0, h1, k⟩
abbrev E_rs (r : D) (pool : List Str) (es : List Ent) (step : Int) : DEnv := [some ⟨r, 1, true⟩, some ⟨.lst (pool.map .str), 0, false⟩, some ⟨.lst (es.map eD), 0, false⟩, some ⟨.int step, 0, false⟩, none, none]
theorem rules_loop (pool : List Str) (es : List Ent) (step : Int) (hp : Pool pool) (he : EsOk es) (h0 : 1 ≤ step) (h1 : step ≤ 10 ^ 9) : ∀ (items : List D) (r : D) (rs : List Rl), Row r → (∀ x ∈ rs, RlOk x) → items.length + rs.length ≤ 12 → ∀ Q : QE,
    (∀ (rs' : List Rl) r', rs'.length ≤ 12 → (∀ x ∈ rs', RlOk x) → Row r' → Q (.lst (rs'.map rD)) 1 (E_rs r' pool es step)) →
    lcD (.nm 5) ttYes (e__law_rules_1 S__law_pick S__law_rule S__law_taken) [5] items (rs.map rD) (E_rs r pool es step) Q
  | [], r, rs, hr, hx, hl, Q, k => k rs r (by simpa using hl) hx hr
  | y :: items, r, rs, hr, hx, hl, Q, k => by
    refine mk_rule hr hp he h0 h1 (fun ru r' hru hr' => ?_)
    refine And.intro (ms_lt (by simp at hl ⊢; omega)) ?_
    have := rules_loop pool es step hp he h0 h1 items r' (rs ++ [ru]) hr' (fun x hx' => by
      rcases List.mem_append.mp hx' with z | z
      · exact hx x z
      · rw [List.mem_singleton.mp z]; exact hru) (by simp at hl ⊢; omega) Q k
    rw [List.map_append] at this
    exact this
theorem p_rules (ds : List D) (post : DPost) (h : S__law_rules ds post) (_ : ds.length = ms__law_rules.length) : t__law_rules S__law_pick S__law_rule S__law_taken (env0 ms__law_rules ds N__law_rules.length) (endsOf ms__law_rules post) := by
  obtain ⟨r, pool, es, step, rfl, hr, hp, he, h0, h1, k⟩ := h
  refine And.intro (ms_r rfl) ?_
  refine mk_pick hr (fun z => nomatch z) (le_r rfl) (fun y r1 hy hr1 => ?_)
  have hj : ∃ j : Int, y = .int j ∧ 0 ≤ j ∧ j ≤ 12 := by
    simp only [List.mem_cons, List.not_mem_nil, or_false] at hy
    rcases hy with rfl | rfl | rfl | rfl | rfl | rfl | rfl | rfl <;> exact ⟨_, rfl, by decide, by decide⟩
  obtain ⟨many, rfl, m0, m1⟩ := hj
  refine And.intro ⟨by omega, by omega⟩ ?_
  refine rules_loop pool es step hp he h0 h1 (rngD 0 many.toNat) r1 [] hr1 (fun x hx => nomatch hx) (by rw [rngD_len]; simp; omega) _ (fun rs r2 hl hrs hr2 => ?_)
  -- if found != [] and ..: found[..] = found[0]
  refine And.intro (ms_r rfl) ?_
  refine neNil (rs_flat hrs) (by decide) ?_
  cases rs with
  | nil => exact k [] r2 ⟨hl, hrs⟩ hr2
  | cons x rs =>
    refine mk_taken hr2 (by decide) (by decide) (fun v r3 v0 v1 hr3 => ?_)
    refine brB_dec (p := v = 0) (fun _ => ?_) (fun _ => ?_)
    · refine mk_taken hr3 (by show (0 : Int) < ((x :: rs).map rD).length; simp only [List.length_map, List.length_cons]; omega) (by show (((x :: rs).map rD).length : Int) < 10 ^ 40; rw [List.length_map]; omega) (fun w r4 w0 w1 hr4 => ?_)
      have hw : w.toNat < ((x :: rs).map rD).length := by omega
      conv => whnf
      rw [ixI_int w0 hw]
      have := k ((x :: rs).set w.toNat x) r4 ⟨by rw [List.length_set]; exact hl, fun y hy => by
        rcases List.mem_or_eq_of_mem_set hy with z | z
        · exact hrs y z
        · rw [z]; exact hrs x List.mem_cons_self⟩ hr4
      rw [List.map_set] at this
      exact this
    · exact k (x :: rs) r3 ⟨hl, hrs⟩ hr3
end K77
set_option Elab.async false
set_option linter.all false
set_option maxRecDepth 100000
set_option maxHeartbeats 2000000
/-! k77, part f: the program's checks, of good things. -/
namespace K77
open PySem L2 PySem.Spec PyProof.Rows DL
def S_is_integer : DSp := fun ds post => ∃ i : Int, ds = [.int i] ∧ post.rt (.bl true) 0 []
theorem mk_is_integer {post : DPost} {i : Int} (k : post.rt (.bl true) 0 []) : S_is_integer [.int i] post := ⟨i, rfl, k⟩
theorem p_is_integer (ds : List D) (post : DPost) (h : S_is_integer ds post) (_ : ds.length = ms_is_integer.length) : t_is_integer (env0 ms_is_integer ds N_is_integer.length) (endsOf ms_is_integer post) := by
  obtain ⟨i, rfl, k⟩ := h
  exact k
def S_is_within : DSp := fun ds post => ∃ a lo hi : Int, ds = [.int a, .int lo, .int hi] ∧ lo ≤ a ∧ a ≤ hi ∧ post.rt (.bl true) 0 []
theorem mk_is_within {post : DPost} {a lo hi : Int} (h0 : lo ≤ a) (h1 : a ≤ hi) (k : post.rt (.bl true) 0 []) : S_is_within [.int a, .int lo, .int hi] post := ⟨a, lo, hi, rfl, h0, h1, k⟩
theorem p_is_within (ds : List D) (post : DPost) (h : S_is_within ds post) (_ : ds.length = ms_is_within.length) : t_is_within S_is_integer (env0 ms_is_within ds N_is_within.length) (endsOf ms_is_within post) := by
  obtain ⟨a, lo, hi, rfl, h0, h1, k⟩ := h
  refine mk_is_integer ?_
  refine brB_dec (p := lo ≤ a) (fun _ => ?_) (fun z => absurd h0 z)
  show post.rt (.bl (decide (a ≤ hi))) 0 []
  rw [decide_eq_true h1]
  exact k
def S_is_row : DSp := fun ds post => ∃ b xs, ds = [sq b xs] ∧ post.rt (.bl true) 0 []
theorem mk_is_row {post : DPost} (b : Bool) {xs : List D} (k : post.rt (.bl true) 0 []) : S_is_row [sq b xs] post := ⟨b, xs, rfl, k⟩
theorem p_is_row (ds : List D) (post : DPost) (h : S_is_row ds post) (_ : ds.length = ms_is_row.length) : t_is_row (env0 ms_is_row ds N_is_row.length) (endsOf ms_is_row post) := by
  obtain ⟨b, xs, rfl, k⟩ := h
  cases b <;> exact k
def S_is_text : DSp := fun ds post => ∃ s : Str, ds = [.str s] ∧ s.length ≤ 1000 ∧ (∀ c ∈ s.cps.toList, c ∈ SG.cps.toList) ∧ post.rt (.bl true) 0 []
theorem mk_is_text {post : DPost} {s : Str} (h0 : s.length ≤ 1000) (h : ∀ c ∈ s.cps.toList, c ∈ SG.cps.toList) (k : post.rt (.bl true) 0 []) : S_is_text [.str s] post := ⟨s, rfl, h0, h, k⟩
theorem text_loop (s : Str) : ∀ (cs : List Nat) (acc : List Bool), (∀ c ∈ cs, c ∈ SG.cps.toList) → (∀ b ∈ acc, b = true) → cs.length + acc.length ≤ 1000 → ∀ Q : QE, (∀ bs : List Bool, (∀ b ∈ bs, b = true) → Q (.lst (bs.map .bl)) 1 [some ⟨.str s, 0, false⟩, none]) →
    lcD (.nm 1) ttYes e_is_text_1 [1] (cs.map fun c => .str ⟨#[c]⟩) (acc.map .bl) [some ⟨.str s, 0, false⟩, none] Q
  | [], acc, _, ha, _, Q, k => k acc ha
  | c :: cs, acc, hc, ha, hl, Q, k => by
    refine And.intro (ms_lt (by rw [List.length_map]; simp at hl; omega)) ?_
    have h := text_loop s cs (acc ++ [true]) (fun d hd => hc d (List.mem_cons_of_mem _ hd)) (fun b hb => by
      rcases List.mem_append.mp hb with z | z
      · exact ha b z
      · exact List.mem_singleton.mp z) (by simp at hl ⊢; omega) Q k
    rw [List.map_append] at h
    have e : decide (c ∈ SG.cps.toList) = true := decide_eq_true (hc c List.mem_cons_self)
    show lcD (.nm 1) ttYes e_is_text_1 [1] (cs.map fun c => .str ⟨#[c]⟩) (acc.map D.bl ++ [.bl (decide (c ∈ SG.cps.toList))]) [some ⟨.str s, 0, false⟩, none] Q
    rw [e]
    exact h
theorem bls_all : ∀ bs : List Bool, blsD (bs.map .bl) = some bs
  | [] => rfl
  | b :: bs => by
    show (match blsD (bs.map .bl) with | some ss => some (b :: ss) | none => none) = _
    rw [bls_all bs]
theorem all_yes {bs : List Bool} (h : ∀ b ∈ bs, b = true) {Q : Qn} (k : Q (.bl true) 0) : odAll [.lst (bs.map .bl)] Q := by
  show someO (blsD (bs.map .bl)) fun bs => Q (.bl (bs.all id)) 0
  rw [bls_all]
  show Q (.bl (bs.all id)) 0
  have e : bs.all id = true := List.all_eq_true.mpr h
  rw [e]
  exact k
theorem p_is_text (ds : List D) (post : DPost) (h : S_is_text ds post) (_ : ds.length = ms_is_text.length) : t_is_text (env0 ms_is_text ds N_is_text.length) (endsOf ms_is_text post) := by
  obtain ⟨s, rfl, h0, h1, k⟩ := h
  refine text_loop s s.cps.toList [] h1 (fun b hb => nomatch hb) (by rw [Array.length_toList]; exact h0) _ (fun bs hb => ?_)
  show odAll [.lst (bs.map D.bl)] fun z n => (endsOf ms_is_text post).rt z n _
  refine all_yes hb ?_
  exact k
def S_is_label : DSp := fun ds post => ∃ s : Str, ds = [.str s] ∧ Lab s ∧ post.rt (.bl true) 0 []
theorem mk_is_label {post : DPost} {s : Str} (h : Lab s) (k : post.rt (.bl true) 0 []) : S_is_label [.str s] post := ⟨s, rfl, h, k⟩
theorem p_is_label (ds : List D) (post : DPost) (h : S_is_label ds post) (_ : ds.length = ms_is_label.length) : t_is_label S_is_text (env0 ms_is_label ds N_is_label.length) (endsOf ms_is_label post) := by
  obtain ⟨s, rfl, h, k⟩ := h
  refine mk_is_text (Nat.le_trans h.1 (by decide)) h.2 ?_
  refine And.intro (ms_le (Nat.le_trans h.1 (by decide))) ?_
  show post.rt (.bl (decide ((s.length : Int) ≤ 20))) 0 []
  rw [decide_eq_true (by have := h.1; omega)]
  exact k
def S_is_tag : DSp := fun ds post => ∃ s : Str, ds = [.str s] ∧ Lab s ∧ s ≠ ("" : Str) ∧ post.rt (.bl true) 0 []
theorem mk_is_tag {post : DPost} {s : Str} (h : Lab s) (h1 : s ≠ ("" : Str)) (k : post.rt (.bl true) 0 []) : S_is_tag [.str s] post := ⟨s, rfl, h, h1, k⟩
theorem p_is_tag (ds : List D) (post : DPost) (h : S_is_tag ds post) (_ : ds.length = ms_is_tag.length) : t_is_tag S_is_label (env0 ms_is_tag ds N_is_tag.length) (endsOf ms_is_tag post) := by
  obtain ⟨s, rfl, h, h1, k⟩ := h
  refine mk_is_label h ?_
  show post.rt (.bl (!decide (s = ("" : Str)))) 0 []
  rw [decide_eq_false h1]
  exact k
def S_is_moment : DSp := fun ds post => ∃ a : Int, ds = [.int a] ∧ 0 ≤ a ∧ a ≤ 10 ^ 12 ∧ post.rt (.bl true) 0 []
theorem mk_is_moment {post : DPost} {a : Int} (h0 : 0 ≤ a) (h1 : a ≤ 10 ^ 12) (k : post.rt (.bl true) 0 []) : S_is_moment [.int a] post := ⟨a, rfl, h0, h1, k⟩
theorem p_is_moment (ds : List D) (post : DPost) (h : S_is_moment ds post) (_ : ds.length = ms_is_moment.length) : t_is_moment S_is_within (env0 ms_is_moment ds N_is_moment.length) (endsOf ms_is_moment post) := by
  obtain ⟨a, rfl, h0, h1, k⟩ := h
  exact mk_is_within h0 (by omega) k
end K77
set_option Elab.async false
set_option linter.all false
set_option maxRecDepth 100000
set_option maxHeartbeats 2000000
/-! k77, part g: the program's checks of entries and rules. -/
namespace K77
open PySem L2 PySem.Spec PyProof.Rows DL
def S_is_entry : DSp := fun ds post => ∃ e : Ent, ds = [eD e] ∧ EntOk e ∧ post.rt (.bl true) 0 []
theorem mk_is_entry {post : DPost} {e : Ent} (h : EntOk e) (k : post.rt (.bl true) 0 []) : S_is_entry [eD e] post := ⟨e, rfl, h, k⟩
theorem entry_loop (a0 a1 a2 a3 : Option Bd) : ∀ (ts : List Str) (acc : List Bool), (∀ s ∈ ts, Lab s) → (∀ b ∈ acc, b = true) → ts.length + acc.length ≤ 1000 → ∀ Q : QE, (∀ bs : List Bool, (∀ b ∈ bs, b = true) → Q (.lst (bs.map .bl)) 1 [a0, a1, a2, a3, none]) →
    lcD (.nm 4) ttYes (e_is_entry_1 S_is_within S_is_moment S_is_row S_is_label) [4] (ts.map .str) (acc.map .bl) [a0, a1, a2, a3, none] Q
  | [], acc, _, ha, _, Q, k => k acc ha
  | s :: ts, acc, hc, ha, hl, Q, k => by
    have h := entry_loop a0 a1 a2 a3 ts (acc ++ [true]) (fun d hd => hc d (List.mem_cons_of_mem _ hd)) (fun b hb => by
      rcases List.mem_append.mp hb with z | z
      · exact ha b z
      · exact List.mem_singleton.mp z) (by simp at hl ⊢; omega) Q k
    rw [List.map_append] at h
    refine mk_is_label (hc s List.mem_cons_self) ?_
    exact And.intro (ms_lt (by rw [List.length_map]; simp at hl; omega)) h
theorem p_is_entry (ds : List D) (post : DPost) (h : S_is_entry ds post) (_ : ds.length = ms_is_entry.length) : t_is_entry S_is_within S_is_moment S_is_row S_is_label (env0 ms_is_entry ds N_is_entry.length) (endsOf ms_is_entry post) := by
  obtain ⟨e, rfl, h, k⟩ := h
  refine mk_is_within h.n0 (by have := h.n1; omega) ?_
  refine mk_is_moment h.t0 h.t1 ?_
  refine mk_is_row e.l ?_
  have hl : e.tags.length + ([] : List Bool).length ≤ 1000 := by have := h.tl; simp; omega
  have fin : ∀ l : Bool, e.l = l → ∀ bs : List Bool, (∀ b ∈ bs, b = true) → odAll [.lst (bs.map D.bl)] fun z n => post.rt z n [] := fun l _ bs hb => all_yes hb k
  obtain ⟨n, t, tags, l⟩ := e
  cases l
  · exact entry_loop _ _ _ _ tags [] h.tg (fun b hb => nomatch hb) hl _ (fun bs hb => fin _ rfl bs hb)
  · exact entry_loop _ _ _ _ tags [] h.tg (fun b hb => nomatch hb) hl _ (fun bs hb => fin _ rfl bs hb)
def S_checked_entries : DSp := fun ds post => ∃ b es, ds = [sq b (es.map eD)] ∧ EsOk es ∧ post.rt (.lst (es.map eD)) 1 []
theorem mk_checked_entries {post : DPost} (b : Bool) {es : List Ent} (h : EsOk es) (k : post.rt (.lst (es.map eD)) 1 []) : S_checked_entries [sq b (es.map eD)] post := ⟨b, es, rfl, h, k⟩
theorem sq_ix {b : Bool} {ds : List D} {k : Int} {d : D} {Q : Qn} (h : getI ds k = some d) (q : Q d 0) : odIx (sq b ds) (.int k) Q := by cases b <;> exact someD_mk h q
theorem checked_loop (X : D) (es : List Ent) (he : EsOk es) (hX : ∀ (k : Int) (d : D) (Q : Qn), getI (es.map eD) k = some d → Q d 0 → odIx X (.int k) Q) : ∀ (m j : Nat) (o1 o2 : Option Bd), j + m = es.length → ∀ Dn : DEnds, (∀ o1 o2, Dn.nx [some ⟨X, 0, false⟩, o1, o2]) →
    forD (.tu [.nm 1, .nm 2]) (b_checked_entries_1 S_is_row S_is_entry) ((List.range' j m).map fun (i : Nat) => .tup [.int (i : Int), (es.map eD).getD i .non]) [some ⟨X, 0, false⟩, o1, o2] Dn
  | 0, j, o1, o2, _, Dn, k => k o1 o2
  | m + 1, j, o1, o2, hj, Dn, k => by
    have hjl : j < es.length := by omega
    have ih := checked_loop X es he hX m (j + 1)
    have eg : (es.map eD).getD j .non = eD es[j] := by simp [hjl]
    rw [List.range'_succ, List.map_cons, eg]
    have go : ∀ o1 o2, forD (.tu [.nm 1, .nm 2]) (b_checked_entries_1 S_is_row S_is_entry) ((List.range' (j + 1) m).map fun (i : Nat) => .tup [.int (i : Int), (es.map eD).getD i .non]) [some ⟨X, 0, false⟩, o1, o2] Dn := fun o1 o2 => ih o1 o2 (by omega) Dn k
    refine mk_is_entry (he.ok _ (List.getElem_mem hjl)) ?_
    refine brB_dec (p := (0 : Int) < j) (fun h0 => ?_) (fun _ => go _ _)
    have hj1 : j - 1 < es.length := by omega
    have hg : getI (es.map eD) ((j : Int) - 1) = some (eD es[j - 1]) := getI_int (by omega) (by rw [show ((j : Int) - 1).toNat = j - 1 by omega, List.getElem?_map, List.getElem?_eq_getElem hj1]; rfl)
    have asc := List.pairwise_iff_getElem.mp he.asc (j - 1) j hj1 hjl (by omega)
    refine hX _ _ _ hg ?_
    refine brB_dec (p := es[j].n ≤ es[j - 1].n) (fun z => by omega) (fun _ => ?_)
    refine hX _ _ _ hg ?_
    exact brB_dec (p := es[j].t ≤ es[j - 1].t) (fun z => by omega) (fun _ => go _ _)
theorem enum_eq (ds : List D) : enumD ds = (List.range' 0 ds.length).map fun (i : Nat) => .tup [.int (i : Int), ds.getD i .non] := by
  unfold enumD
  rw [List.range_eq_range']
theorem p_checked_entries (ds : List D) (post : DPost) (h : S_checked_entries ds post) (_ : ds.length = ms_checked_entries.length) : t_checked_entries S_is_row S_is_entry (env0 ms_checked_entries ds N_checked_entries.length) (endsOf ms_checked_entries post) := by
  obtain ⟨b, es, rfl, he, k⟩ := h
  have hl := he.len
  have nl : ¬ (60 : Int) < ((es.map eD).length : Int) := by rw [List.length_map]; omega
  refine mk_is_row b ?_
  have loop := checked_loop (sq b (es.map eD)) es he (fun k d Q h q => sq_ix h q) es.length 0
  have e := enum_eq (es.map eD)
  rw [List.length_map] at e
  cases b
  · refine brB_dec (p := (60 : Int) < ((es.map eD).length : Int)) (fun z => absurd z nl) (fun _ => ?_)
    show forD (.tu [.nm 1, .nm 2]) (b_checked_entries_1 S_is_row S_is_entry) (enumD (es.map eD)) [some ⟨.tup (es.map eD), 0, false⟩, none, none] _
    rw [e]
    refine loop none none (by omega) _ (fun o1 o2 => ?_)
    exact k
  · refine brB_dec (p := (60 : Int) < ((es.map eD).length : Int)) (fun z => absurd z nl) (fun _ => ?_)
    show forD (.tu [.nm 1, .nm 2]) (b_checked_entries_1 S_is_row S_is_entry) (enumD (es.map eD)) [some ⟨.lst (es.map eD), 0, false⟩, none, none] _
    rw [e]
    refine loop none none (by omega) _ (fun o1 o2 => ?_)
    exact k
end K77
set_option Elab.async false
set_option linter.all false
set_option maxRecDepth 100000
set_option maxHeartbeats 2000000
/-! k77, part h: the program's checks of rules. -/
namespace K77
open PySem L2 PySem.Spec PyProof.Rows DL
def S_is_keeping_rule : DSp := fun ds post => ∃ r, ds = [rD r] ∧ RlOk r ∧ post.rt (.bl true) 0 []
theorem mk_is_keeping_rule {post : DPost} {r : Rl} (h : RlOk r) (k : post.rt (.bl true) 0 []) : S_is_keeping_rule [rD r] post := ⟨r, rfl, h, k⟩
theorem s_ne {a b : Str} (h : a.cps.toList ≠ b.cps.toList) : ¬ a = b := fun z => h (by rw [z])
theorem p_is_keeping_rule (ds : List D) (post : DPost) (h : S_is_keeping_rule ds post) (_ : ds.length = ms_is_keeping_rule.length) : t_is_keeping_rule S_is_within S_is_tag (env0 ms_is_keeping_rule ds N_is_keeping_rule.length) (endsOf ms_is_keeping_rule post) := by
  obtain ⟨r, rfl, h, k⟩ := h
  cases r with
  | last n => exact And.intro (ms_r rfl) (And.intro rfl (And.intro rfl (mk_is_within h.1 h.2 k)))
  | each p n =>
    refine And.intro (ms_r rfl) (And.intro rfl (And.intro rfl ?_))
    refine mk_is_within h.1 (by have := h.2.1; omega) ?_
    refine mk_is_within h.2.2.1 h.2.2.2 ?_
    exact k
  | tag s => exact And.intro (ms_r rfl) (And.intro rfl (And.intro rfl (mk_is_tag h.1 h.2 k)))
  | within n =>
    refine And.intro (ms_r rfl) (And.intro rfl (And.intro rfl ?_))
    exact mk_is_within h.1 (by have := h.2; omega) k
  | number n =>
    refine And.intro (ms_r rfl) (And.intro rfl (And.intro rfl ?_))
    exact mk_is_within h.1 (by have := h.2; omega) k
def S_checked_rules : DSp := fun ds post => ∃ b rs, ds = [sq b (rs.map rD)] ∧ RsOk rs ∧ post.rt (.lst (rs.map rD)) 1 []
theorem mk_checked_rules {post : DPost} (b : Bool) {rs : List Rl} (h : RsOk rs) (k : post.rt (.lst (rs.map rD)) 1 []) : S_checked_rules [sq b (rs.map rD)] post := ⟨b, rs, rfl, h, k⟩
theorem rules_chk (X : D) (rs : List Rl) (he : RsOk rs) : ∀ (m j : Nat) (o1 o2 : Option Bd), j + m = rs.length → ∀ Dn : DEnds, (∀ o1 o2, Dn.nx [some ⟨X, 0, false⟩, o1, o2]) →
    forD (.tu [.nm 1, .nm 2]) (b_checked_rules_1 S_is_row S_is_keeping_rule) ((List.range' j m).map fun (i : Nat) => .tup [.int (i : Int), (rs.map rD).getD i .non]) [some ⟨X, 0, false⟩, o1, o2] Dn
  | 0, j, o1, o2, _, Dn, k => k o1 o2
  | m + 1, j, o1, o2, hj, Dn, k => by
    have hjl : j < rs.length := by omega
    have ih := rules_chk X rs he m (j + 1)
    have eg : (rs.map rD).getD j .non = rD rs[j] := by simp [hjl]
    rw [List.range'_succ, List.map_cons, eg]
    refine mk_is_keeping_rule (he.ok _ (List.getElem_mem hjl)) ?_
    exact ih _ _ (by omega) Dn k
theorem p_checked_rules (ds : List D) (post : DPost) (h : S_checked_rules ds post) (_ : ds.length = ms_checked_rules.length) : t_checked_rules S_is_row S_is_keeping_rule (env0 ms_checked_rules ds N_checked_rules.length) (endsOf ms_checked_rules post) := by
  obtain ⟨b, rs, rfl, he, k⟩ := h
  have hl := he.len
  have nl : ¬ (12 : Int) < ((rs.map rD).length : Int) := by rw [List.length_map]; omega
  refine mk_is_row b ?_
  have loop := rules_chk (sq b (rs.map rD)) rs he rs.length 0
  have e := enum_eq (rs.map rD)
  rw [List.length_map] at e
  cases b
  · refine brB_dec (p := (12 : Int) < ((rs.map rD).length : Int)) (fun z => absurd z nl) (fun _ => ?_)
    show forD (.tu [.nm 1, .nm 2]) (b_checked_rules_1 S_is_row S_is_keeping_rule) (enumD (rs.map rD)) [some ⟨.tup (rs.map rD), 0, false⟩, none, none] _
    rw [e]
    refine loop none none (by omega) _ (fun o1 o2 => ?_)
    exact k
  · refine brB_dec (p := (12 : Int) < ((rs.map rD).length : Int)) (fun z => absurd z nl) (fun _ => ?_)
    show forD (.tu [.nm 1, .nm 2]) (b_checked_rules_1 S_is_row S_is_keeping_rule) (enumD (rs.map rD)) [some ⟨.lst (rs.map rD), 0, false⟩, none, none] _
    rw [e]
    refine loop none none (by omega) _ (fun o1 o2 => ?_)
    exact k
end K77
set_option Elab.async false
set_option linter.all false
set_option maxRecDepth 100000
set_option maxHeartbeats 2000000
/-! k77, part i: the newest of periods. -/
namespace K77
open PySem L2 PySem.Spec PyProof.Rows DL
/-- places whose period is another than that of the place behind, from the end, of the last j -/
def frs (n : Nat) (f : Nat → Int) : Nat → List Nat
  | 0 => []
  | j + 1 => if j = 0 ∨ f (n - 1 - j) ≠ f (n - j) then frs n f j ++ [n - 1 - j] else frs n f j
theorem frs_mem {n : Nat} {f : Nat → Int} : ∀ {j q : Nat}, j ≤ n → q ∈ frs n f j → n - j ≤ q ∧ q < n
  | 0, q, _, h => nomatch h
  | j + 1, q, hj, h => by
    unfold frs at h
    split at h
    · rcases List.mem_append.mp h with z | z
      · have := frs_mem (by omega) z; omega
      · have := List.mem_singleton.mp z; omega
    · have := frs_mem (by omega) h; omega
theorem frs_nodup {n : Nat} {f : Nat → Int} : ∀ {j : Nat}, j ≤ n → (frs n f j).Nodup
  | 0, _ => List.nodup_nil
  | j + 1, hj => by
    unfold frs
    split
    · rw [List.nodup_append]
      refine ⟨frs_nodup (by omega), by simp, fun a ha b hb => ?_⟩
      have h1 := frs_mem (by omega) ha
      have h2 := List.mem_singleton.mp hb
      omega
    · exact frs_nodup (by omega)
theorem frs_len {n : Nat} {f : Nat → Int} : ∀ {j : Nat}, (frs n f j).length ≤ j
  | 0 => Nat.le_refl _
  | j + 1 => by
    unfold frs
    have := frs_len (n := n) (f := f) (j := j)
    split
    · rw [List.length_append, List.length_singleton]; omega
    · omega
theorem frs_last {n : Nat} {f : Nat → Int} : ∀ {j : Nat}, 0 < j → j ≤ n → ((frs n f j).map f).getLast? = some (f (n - j))
  | 0, h, _ => absurd h (Nat.lt_irrefl _)
  | j + 1, _, hj => by
    unfold frs
    have e : n - 1 - j = n - (j + 1) := by omega
    by_cases c : j = 0 ∨ f (n - 1 - j) ≠ f (n - j)
    · rw [if_pos c, List.map_append, List.getLast?_append, e]
      rfl
    · rw [if_neg c]
      have c1 : ¬ j = 0 := fun z => c (.inl z)
      have c2 : f (n - 1 - j) = f (n - j) := Classical.byContradiction fun z => c (.inr z)
      rw [frs_last (by omega) (by omega), ← c2, e]
abbrev nD (ps : List Nat) : List D := ps.map fun (q : Nat) => D.int (q : Int)
theorem take_more {α : Type} (l : List α) (x : α) (k : Nat) : (l ++ [x]).take k = if l.length < k then l.take k ++ [x] else l.take k := by
  split
  · rename_i h
    rw [List.take_append, List.take_of_length_le (show [x].length ≤ k - l.length by simp; omega)]
  · rename_i h
    rw [List.take_append_of_le_length (by omega)]
def perOf (es : List Ent) (p : Int) (q : Nat) : Int := (es.getD q ⟨0, 0, [], true⟩).t / p
def newest (es : List Ent) (p k : Int) : List Nat := (frs es.length (perOf es p) es.length).take k.toNat
def S_newest_of_periods : DSp := fun ds post => ∃ es p k, ds = [.lst (es.map eD), .int p, .int k] ∧ es.length ≤ 130 ∧ 1 ≤ p ∧ p ≤ 10 ^ 9 ∧ 1 ≤ k ∧ post.rt (.lst (nD (newest es p k))) 1 []
theorem mk_newest {post : DPost} {es : List Ent} {p k : Int} (h : es.length ≤ 130) (h0 : 1 ≤ p) (h1 : p ≤ 10 ^ 9) (h2 : 1 ≤ k) (q : post.rt (.lst (nD (newest es p k))) 1 []) : S_newest_of_periods [.lst (es.map eD), .int p, .int k] post := ⟨es, p, k, rfl, h, h0, h1, h2, q⟩
def bef (es : List Ent) (p : Int) : Nat → D
  | 0 => .non
  | j + 1 => .int (perOf es p (es.length - (j + 1)))
theorem ent_get {es : List Ent} {q : Nat} (h : q < es.length) : getI (es.map eD) (q : Int) = some (eD (es.getD q ⟨0, 0, [], true⟩)) := getI_nat (by rw [List.getElem?_map, List.getElem?_eq_getElem h]; simp [h])
theorem newest_loop (es : List Ent) (p k : Int) (hl : es.length ≤ 130) (h0 : 1 ≤ p) (h1 : p ≤ 10 ^ 9) : ∀ (m j : Nat) (o5 o6 : Option Bd), j + m = es.length → ∀ Dn : DEnds,
    (∀ o4 o5 o6, Dn.nx [some ⟨.lst (es.map eD), 0, false⟩, some ⟨.int p, 0, false⟩, some ⟨.int k, 0, false⟩, some ⟨.lst (nD (newest es p k)), 1, false⟩, o4, o5, o6]) →
    forD (.nm 5) b_newest_of_periods_1 ((List.range' j m).map fun (i : Nat) => .int ((es.length : Int) - 1 + (i : Int) * -1)) [some ⟨.lst (es.map eD), 0, false⟩, some ⟨.int p, 0, false⟩, some ⟨.int k, 0, false⟩, some ⟨.lst (nD ((frs es.length (perOf es p) j).take k.toNat)), 1, false⟩, some ⟨bef es p j, 0, false⟩, o5, o6] Dn
  | 0, j, o5, o6, hj, Dn, kk => by
    have : j = es.length := by omega
    subst this
    exact kk _ _ _
  | m + 1, j, o5, o6, hj, Dn, kk => by
    have hjl : j < es.length := by omega
    have hq : es.length - 1 - j < es.length := by omega
    have eq : (es.length : Int) - 1 + (j : Int) * -1 = ((es.length - 1 - j : Nat) : Int) := by omega
    rw [List.range'_succ, List.map_cons, eq]
    have ih := newest_loop es p k hl h0 h1 m (j + 1)
    have e40 : (10 : Int) ^ 9 < 10 ^ 40 := by decide
    have bj : bef es p (j + 1) = .int (perOf es p (es.length - 1 - j)) := by
      show D.int (perOf es p (es.length - (j + 1))) = _
      rw [show es.length - (j + 1) = es.length - 1 - j by omega]
    have go : ∀ acc : List D, acc = nD ((frs es.length (perOf es p) (j + 1)).take k.toNat) → forD (.nm 5) b_newest_of_periods_1 ((List.range' (j + 1) m).map fun (i : Nat) => .int ((es.length : Int) - 1 + (i : Int) * -1))
        [some ⟨.lst (es.map eD), 0, false⟩, some ⟨.int p, 0, false⟩, some ⟨.int k, 0, false⟩, some ⟨.lst acc, 1, false⟩, some ⟨.int (perOf es p (es.length - 1 - j)), 0, false⟩, some ⟨.int ((es.length - 1 - j : Nat) : Int), 0, false⟩, some ⟨.int (perOf es p (es.length - 1 - j)), 0, false⟩] Dn := by
      intro acc ha
      have := ih (some ⟨.int ((es.length - 1 - j : Nat) : Int), 0, false⟩) (some ⟨.int (perOf es p (es.length - 1 - j)), 0, false⟩) (by omega) Dn kk
      rw [bj, ← ha] at this
      exact this
    refine someD_mk (ent_get hq) ?_
    refine And.intro ⟨by omega, by omega⟩ ?_
    have fr : (frs es.length (perOf es p) j).length ≤ j := frs_len
    have tk : ∀ c : (j = 0 ∨ perOf es p (es.length - 1 - j) ≠ perOf es p (es.length - j)), brB (decide (((nD ((frs es.length (perOf es p) j).take k.toNat)).length : Int) < k))
        (sdApp 3 (eVar 5) [some ⟨.lst (es.map eD), 0, false⟩, some ⟨.int p, 0, false⟩, some ⟨.int k, 0, false⟩, some ⟨.lst (nD ((frs es.length (perOf es p) j).take k.toNat)), 1, false⟩, some ⟨bef es p j, 0, false⟩, some ⟨.int ((es.length - 1 - j : Nat) : Int), 0, false⟩, some ⟨.int (perOf es p (es.length - 1 - j)), 0, false⟩] { Dn with nx := fun env => sdSet 4 (eVar 6) env { nx := fun e => forD (.nm 5) b_newest_of_periods_1 ((List.range' (j + 1) m).map fun (i : Nat) => .int ((es.length : Int) - 1 + (i : Int) * -1)) e Dn, ct := fun e => forD (.nm 5) b_newest_of_periods_1 ((List.range' (j + 1) m).map fun (i : Nat) => .int ((es.length : Int) - 1 + (i : Int) * -1)) e Dn, bk := Dn.nx, rt := Dn.rt, ex := Dn.ex } })
        (forD (.nm 5) b_newest_of_periods_1 ((List.range' (j + 1) m).map fun (i : Nat) => .int ((es.length : Int) - 1 + (i : Int) * -1))
        [some ⟨.lst (es.map eD), 0, false⟩, some ⟨.int p, 0, false⟩, some ⟨.int k, 0, false⟩, some ⟨.lst (nD ((frs es.length (perOf es p) j).take k.toNat)), 1, false⟩, some ⟨.int (perOf es p (es.length - 1 - j)), 0, false⟩, some ⟨.int ((es.length - 1 - j : Nat) : Int), 0, false⟩, some ⟨.int (perOf es p (es.length - 1 - j)), 0, false⟩] Dn) := by
      intro c
      have ef : frs es.length (perOf es p) (j + 1) = frs es.length (perOf es p) j ++ [es.length - 1 - j] := by
        show (if _ then _ else _) = _
        rw [if_pos c]
      have tm := take_more (frs es.length (perOf es p) j) (es.length - 1 - j) k.toNat
      rw [← ef] at tm
      refine brB_dec (fun h => ?_) (fun h => ?_)
      · rw [List.length_map, List.length_take] at h
        rw [if_pos (by omega)] at tm
        refine And.intro (ms_lt (by rw [List.length_map, List.length_take]; omega)) ?_
        exact go _ (by rw [tm]; simp [nD])
      · rw [List.length_map, List.length_take] at h
        rw [if_neg (by omega)] at tm
        exact go _ (by rw [tm])
    cases j with
    | zero => exact tk (.inl rfl)
    | succ j =>
      refine brB_not (brB_dec (p := perOf es p (es.length - 1 - (j + 1)) = perOf es p (es.length - (j + 1))) (fun h => ?_) (fun h => ?_))
      · have ef : frs es.length (perOf es p) (j + 1 + 1) = frs es.length (perOf es p) (j + 1) := by
          show (if j + 1 = 0 ∨ perOf es p (es.length - 1 - (j + 1)) ≠ perOf es p (es.length - (j + 1)) then _ else _) = _
          rw [if_neg (by omega)]
        exact go _ (by rw [ef])
      · exact tk (.inr h)
theorem p_newest (ds : List D) (post : DPost) (h : S_newest_of_periods ds post) (_ : ds.length = ms_newest_of_periods.length) : t_newest_of_periods (env0 ms_newest_of_periods ds N_newest_of_periods.length) (endsOf ms_newest_of_periods post) := by
  obtain ⟨es, p, k, rfl, hl, h0, h1, h2, q⟩ := h
  have rg : RgC ((es.length : Int) - 1) (-1) (-1) es.length := by
    have := RgC.neg (i := (es.length : Int) - 1) (j := -1) (by omega) (by omega) (by decide) (by decide)
    rw [show ((es.length : Int) - 1 - -1).toNat = es.length by omega] at this
    exact this
  have rg2 : RgC (((es.map eD).length : Int) - 1) (-1) (-1) es.length := by rw [List.length_map]; exact rg
  refine Exists.intro es.length (And.intro rg2 ?_)
  have er : rngC (((es.map eD).length : Int) - 1) (-1) es.length = (List.range' 0 es.length).map fun (i : Nat) => .int ((es.length : Int) - 1 + (i : Int) * -1) := by
    unfold rngC
    rw [List.length_map, List.range_eq_range']
  show forD (.nm 5) b_newest_of_periods_1 (rngC (((es.map eD).length : Int) - 1) (-1) es.length) [some ⟨.lst (es.map eD), 0, false⟩, some ⟨.int p, 0, false⟩, some ⟨.int k, 0, false⟩, some ⟨.lst [], 1, false⟩, some ⟨.non, 0, false⟩, none, none] _
  rw [er]
  have t0 : ((frs es.length (perOf es p) 0).take k.toNat) = [] := List.take_nil
  have lp := newest_loop es p k hl h0 h1 es.length 0 none none (by omega)
  rw [t0] at lp
  refine lp _ (fun o4 o5 o6 => ?_)
  exact q
end K77
set_option Elab.async false
set_option linter.all false
set_option maxRecDepth 100000
set_option maxHeartbeats 2000000
/-! k77, part j: the places that a rule keeps, by the program. -/
namespace K77
open PySem L2 PySem.Spec PyProof.Rows DL
abbrev e0 : Ent := ⟨0, 0, [], true⟩
def keepB (es : List Ent) (q : Nat) : Rl → Bool
  | .last k => decide ((es.length : Int) - k ≤ q)
  | .each p k => decide (q ∈ newest es p k)
  | .tag s => decide (s ∈ (es.getD q e0).tags)
  | .within k => decide ((es.getD (es.length - 1) e0).t - k ≤ (es.getD q e0).t)
  | .number k => decide ((es.getD q e0).n = k)
/-- some order of the places kept -/
def Kept (es : List Ent) (r : Rl) (ps : List Nat) : Prop := ps.Nodup ∧ ∀ q, q ∈ ps ↔ q < es.length ∧ keepB es q r = true
def S_places_kept : DSp := fun ds post => ∃ es r, ds = [.lst (es.map eD), rD r] ∧ es.length ≤ 130 ∧ (∀ e ∈ es, e.tags.length ≤ 2) ∧ RlOk r ∧ ∀ ps, Kept es r ps → post.rt (.lst (nD ps)) 1 []
theorem mk_places {post : DPost} {es : List Ent} {r : Rl} (h : es.length ≤ 130) (ht : ∀ e ∈ es, e.tags.length ≤ 2) (hr : RlOk r) (q : ∀ ps, Kept es r ps → post.rt (.lst (nD ps)) 1 []) : S_places_kept [.lst (es.map eD), rD r] post := ⟨es, r, rfl, h, ht, hr, q⟩
theorem rngD_nD (n : Nat) : rngD 0 n = nD (List.range' 0 n) := by
  unfold rngD
  rw [List.range_eq_range']
  exact List.map_congr_left fun i _ => by rw [Int.zero_add]
theorem filt_loop (a0 a1 a2 a3 : Option Bd) (tt : TTd) (n : Nat) (P : Nat → Bool) (hn : n ≤ 1000) (htt : ∀ (q : Nat) (Q : Bool → DEnv → Prop) (R : QX), q < n → Q (P q) [a0, a1, a2, a3, some ⟨.int (q : Int), 0, false⟩] → tt [a0, a1, a2, a3, some ⟨.int (q : Int), 0, false⟩] Q R) :
    ∀ (m j : Nat) (acc : List Nat), j + m = n → acc.length ≤ j → ∀ Q : QE, Q (.lst (nD (acc ++ (List.range' j m).filter P))) 1 [a0, a1, a2, a3, none] → lcD (.nm 4) tt (eVar 4) [4] (nD (List.range' j m)) (nD acc) [a0, a1, a2, a3, none] Q
  | 0, j, acc, _, _, Q, k => by
    rw [show (List.range' j 0).filter P = [] from rfl, List.append_nil] at k
    exact k
  | m + 1, j, acc, hj, ha, Q, k => by
    rw [List.range'_succ] at k ⊢
    have ih := filt_loop a0 a1 a2 a3 tt n P hn htt m (j + 1)
    refine htt j _ _ (by omega) ?_
    refine brB_2 (fun e => ?_) (fun e => ?_)
    · refine And.intro (ms_lt (by rw [List.length_map]; omega)) ?_
      have h := ih (acc ++ [j]) (by omega) (by simp; omega) Q (by
        rw [List.filter_cons_of_pos e] at k
        rw [List.append_assoc]
        exact k)
      rw [show nD (acc ++ [j]) = nD acc ++ [.int (j : Int)] by simp [nD]] at h
      exact h
    · refine ih acc (by omega) (by omega) Q ?_
      rw [List.filter_cons_of_neg (by rw [e]; exact Bool.false_ne_true)] at k
      exact k
theorem kept_filter (es : List Ent) (r : Rl) {P : Nat → Bool} (h : ∀ q, q < es.length → P q = keepB es q r) : Kept es r ((List.range' 0 es.length).filter P) := by
  refine ⟨List.Pairwise.filter _ List.nodup_range', fun q => ?_⟩
  rw [List.mem_filter, List.mem_range'_1]
  constructor
  · rintro ⟨⟨_, h1⟩, h2⟩
    have h1 : q < es.length := by omega
    exact ⟨h1, by rw [← h q h1]; exact h2⟩
  · rintro ⟨h1, h2⟩
    exact ⟨⟨by omega, by omega⟩, by rw [h q h1]; exact h2⟩
theorem inF_strs (s : Str) : ∀ ts : List Str, inF (.str s) (ts.map .str) = decide (s ∈ ts)
  | [] => rfl
  | t :: ts => by
    show (decide (t = s) || inF (.str s) (ts.map .str)) = _
    rw [inF_strs s ts]
    by_cases h : t = s
    · subst h; simp
    · rw [decide_eq_false h, Bool.false_or]
      have : ¬ s = t := fun z => h z.symm
      simp [this]
theorem in_tags {s : Str} {b : Bool} {ts : List Str} {Q : Qn} (k : Q (.bl (decide (s ∈ ts))) 0) : odIn (.str s) (sq b (ts.map .str)) Q := by
  have al : (ts.map D.str).all D.leaf = true := by rw [List.all_eq_true]; intro d hd; obtain ⟨t, _, rfl⟩ := List.mem_map.mp hd; rfl
  have g : inSeq (fun b => b) (.str s) (ts.map .str) Q := by
    refine ⟨rfl, al, ?_⟩
    show Q (.bl (inF (.str s) (ts.map .str))) 0
    rw [inF_strs]
    exact k
  cases b <;> exact g
theorem p_places_kept (ds : List D) (post : DPost) (h : S_places_kept ds post) (_ : ds.length = ms_places_kept.length) : t_places_kept S_newest_of_periods (env0 ms_places_kept ds N_places_kept.length) (endsOf ms_places_kept post) := by
  obtain ⟨es, r, rfl, hl, ht, hr, k⟩ := h
  have lm : (es.map eD).length = es.length := List.length_map ..
  have rgok : -(2 ^ 62) ≤ ((es.map eD).length : Int) ∧ ((es.map eD).length : Int) < 2 ^ 62 := by rw [lm]; omega
  have e1 : rngD 0 ((es.map eD).length : Int).toNat = nD (List.range' 0 es.length) := by rw [lm, show ((es.length : Int)).toNat = es.length by omega, rngD_nD]
  cases r with
  | last n =>
    have hmax : (if ((es.map eD).length : Int) - n > 0 then ((es.map eD).length : Int) - n else 0) = (((es.length : Int) - n).toNat : Int) := by
      rw [lm]; split <;> omega
    refine And.intro ?_ ?_
    · show RgOk (if ((es.map eD).length : Int) - n > 0 then ((es.map eD).length : Int) - n else 0) ((es.map eD).length : Int)
      rw [hmax]
      have := hr.1
      exact RgOk.of_le (by omega) (by rw [lm]; omega) (by omega) (by omega)
    · show post.rt (.lst (rngD (if ((es.map eD).length : Int) - n > 0 then ((es.map eD).length : Int) - n else 0) (((es.map eD).length : Int) - (if ((es.map eD).length : Int) - n > 0 then ((es.map eD).length : Int) - n else 0)).toNat)) 1 []
      rw [hmax, lm]
      have hk : ((es.length : Int) - n).toNat ≤ es.length := by have := hr.1; omega
      have er : rngD (((es.length : Int) - n).toNat : Int) ((es.length : Int) - (((es.length : Int) - n).toNat : Int)).toNat = nD (List.range' ((es.length : Int) - n).toNat (es.length - ((es.length : Int) - n).toNat)) := by
        rw [show ((es.length : Int) - (((es.length : Int) - n).toNat : Int)).toNat = es.length - ((es.length : Int) - n).toNat by omega]
        unfold rngD nD
        refine List.ext_getElem (by simp) (fun i h1 h2 => ?_)
        simp only [List.getElem_map, List.getElem_range, List.getElem_range']
        congr 1
        omega
      rw [er]
      refine k _ ⟨List.nodup_range', fun q => ?_⟩
      rw [List.mem_range'_1]
      show _ ↔ q < es.length ∧ decide ((es.length : Int) - n ≤ q) = true
      rw [decide_eq_true_iff]
      omega
  | each p n =>
    refine mk_newest hl hr.1 hr.2.1 hr.2.2.1 ?_
    refine k _ ⟨List.Nodup.sublist (List.take_sublist _ _) (frs_nodup (Nat.le_refl _)), fun q => ?_⟩
    show _ ↔ q < es.length ∧ decide (q ∈ newest es p n) = true
    rw [decide_eq_true_iff]
    exact ⟨fun z => ⟨(frs_mem (Nat.le_refl _) (List.mem_of_mem_take z)).2, z⟩, fun z => z.2⟩
  | tag s =>
    refine And.intro rgok ?_
    rw [e1]
    refine filt_loop _ _ _ _ _ es.length (fun q => decide (s ∈ (es.getD q e0).tags)) (by omega) (fun q Q R hq z => ?_) es.length 0 [] (by omega) (Nat.le_refl _) _ ?_
    · refine someD_mk (ent_get hq) ?_
      exact in_tags z
    · rw [List.nil_append]
      exact k _ (kept_filter es (.tag s) fun q _ => rfl)
  | within n =>
    refine And.intro rgok ?_
    rw [e1]
    refine filt_loop _ _ _ _ _ es.length (fun q => decide ((es.getD (es.length - 1) e0).t - n ≤ (es.getD q e0).t)) (by omega) (fun q Q R hq z => ?_) es.length 0 [] (by omega) (Nat.le_refl _) _ ?_
    · refine someD_mk (ent_get hq) ?_
      have hg : getI (es.map eD) (-1) = some (eD (es.getD (es.length - 1) e0)) := by
        show (match (match Nat.blt 0 (es.map eD).length with | true => some ((es.map eD).length - (0 + 1)) | false => none) with | some j => (es.map eD)[j]? | none => none) = _
        have h1 : es.length - 1 < es.length := by omega
        rw [lm, Nat.blt_eq.mpr (by omega : 0 < es.length)]
        show (es.map eD)[es.length - 1]? = _
        rw [List.getElem?_map, List.getElem?_eq_getElem h1]
        simp [h1]
      refine someD_mk hg ?_
      exact z
    · rw [List.nil_append]
      exact k _ (kept_filter es (.within n) fun q _ => rfl)
  | number n =>
    refine And.intro rgok ?_
    rw [e1]
    refine filt_loop _ _ _ _ _ es.length (fun q => decide ((es.getD q e0).n = n)) (by omega) (fun q Q R hq z => ?_) es.length 0 [] (by omega) (Nat.le_refl _) _ ?_
    · refine someD_mk (ent_get hq) ?_
      exact z
    · rw [List.nil_append]
      exact k _ (kept_filter es (.number n) fun q _ => rfl)
end K77
set_option Elab.async false
set_option linter.all false
set_option maxRecDepth 100000
set_option maxHeartbeats 2000000
/-! k77, part k: the places that a rule keeps, by the law. -/
namespace K77
open PySem L2 PySem.Spec PyProof.Rows DL
def S__law_by : DSp := fun ds post => ∃ es r, ds = [.lst (es.map eD), rD r] ∧ es.length ≤ 130 ∧ (∀ e ∈ es, e.tags.length ≤ 2) ∧ RlOk r ∧ ∀ ps, Kept es r ps → post.rt (.lst (nD ps)) 1 []
theorem mk_by {post : DPost} {es : List Ent} {r : Rl} (h : es.length ≤ 130) (ht : ∀ e ∈ es, e.tags.length ≤ 2) (hr : RlOk r) (q : ∀ ps, Kept es r ps → post.rt (.lst (nD ps)) 1 []) : S__law_by [.lst (es.map eD), rD r] post := ⟨es, r, rfl, h, ht, hr, q⟩
/-- the places kept among the last j -/
def KeptB (es : List Ent) (r : Rl) (j : Nat) (ps : List Nat) : Prop := ps.Nodup ∧ ps.length ≤ j ∧ ∀ q, q ∈ ps ↔ (es.length - j ≤ q ∧ q < es.length) ∧ keepB es q r = true
theorem KeptB.yes {es : List Ent} {r : Rl} {j : Nat} {ps : List Nat} (h : KeptB es r j ps) (hj : j < es.length) (k : keepB es (es.length - 1 - j) r = true) : KeptB es r (j + 1) (ps ++ [es.length - 1 - j]) := by
  obtain ⟨h1, h2, h3⟩ := h
  refine ⟨?_, by rw [List.length_append, List.length_singleton]; omega, fun q => ?_⟩
  · rw [List.nodup_append]
    refine ⟨h1, by simp, fun a ha b hb => ?_⟩
    have := (h3 a).mp ha
    have := List.mem_singleton.mp hb
    omega
  · rw [List.mem_append, List.mem_singleton, h3]
    constructor
    · rintro (⟨⟨a, b⟩, c⟩ | rfl)
      · exact ⟨⟨by omega, b⟩, c⟩
      · exact ⟨⟨by omega, by omega⟩, k⟩
    · rintro ⟨⟨a, b⟩, c⟩
      by_cases z : q = es.length - 1 - j
      · exact .inr z
      · exact .inl ⟨⟨by omega, b⟩, c⟩
theorem KeptB.no {es : List Ent} {r : Rl} {j : Nat} {ps : List Nat} (h : KeptB es r j ps) (hj : j < es.length) (k : keepB es (es.length - 1 - j) r = false) : KeptB es r (j + 1) ps := by
  obtain ⟨h1, h2, h3⟩ := h
  refine ⟨h1, by omega, fun q => ?_⟩
  rw [h3]
  constructor
  · rintro ⟨⟨a, b⟩, c⟩
    exact ⟨⟨by omega, b⟩, c⟩
  · rintro ⟨⟨a, b⟩, c⟩
    refine ⟨⟨?_, b⟩, c⟩
    have : q ≠ es.length - 1 - j := fun z => by rw [z, k] at c; cases c
    omega
def Rl.isEach : Rl → Bool
  | .each _ _ => true
  | _ => false
abbrev E_by (es : List Ent) (r : Rl) (L : List D) (pers : List Int) (o : Option Bd × Option Bd × Option Bd × Option Bd × Option Bd × Option Bd × Option Bd) : DEnv :=
  [some ⟨.lst (es.map eD), 0, false⟩, some ⟨rD r, 0, false⟩, some ⟨.int ((es.map eD).length : Int), 0, false⟩, some ⟨.lst L, 1, false⟩, some ⟨.lst (pers.map .int), 1, false⟩, o.1, o.2.1, o.2.2.1, o.2.2.2.1, o.2.2.2.2.1, o.2.2.2.2.2.1, o.2.2.2.2.2.2]
theorem at_eq {es : List Ent} {j : Nat} (h : j < es.length) : ((es.map eD).length : Int) - 1 - (j : Int) = ((es.length - 1 - j : Nat) : Int) := by rw [List.length_map]; omega
theorem ent_at {es : List Ent} {j : Nat} (h : j < es.length) : getI (es.map eD) (((es.map eD).length : Int) - 1 - (j : Int)) = some (eD (es.getD (es.length - 1 - j) e0)) := by
  rw [at_eq h]
  exact ent_get (by omega)
theorem nD_snoc (L : List Nat) (q : Nat) : nD (L ++ [q]) = nD L ++ [.int (q : Int)] := by simp [nD]
theorem sq_list {b : Bool} {ds : List D} {Q : Qn} (k : Q (.lst ds) 1) : odList [sq b ds] Q := by cases b <;> exact k
theorem in_lst {s : Str} {ts : List Str} {Q : Qn} (k : Q (.bl (decide (s ∈ ts))) 0) : odIn (.str s) (.lst (ts.map .str)) Q := in_tags (b := true) k
theorem by_loop (es : List Ent) (r : Rl) (hl : es.length ≤ 130) (hr : r.isEach = false) : ∀ (m j : Nat) (L : List Nat) (o : Option Bd × Option Bd × Option Bd × Option Bd × Option Bd × Option Bd × Option Bd), j + m = es.length → KeptB es r j L → ∀ Dn : DEnds,
    (∀ L' o, KeptB es r es.length L' → Dn.nx (E_by es r (nD L') [] o)) → forD (.nm 5) b__law_by_1 (nD (List.range' j m)) (E_by es r (nD L) [] o) Dn
  | 0, j, L, o, hj, hk, Dn, k => by
    have : j = es.length := by omega
    subst this
    exact k _ _ hk
  | m + 1, j, L, o, hj, hk, Dn, k => by
    have hjl : j < es.length := by omega
    have ih := by_loop es r hl hr m (j + 1)
    have sz : (nD L).length < sizeLine := ms_lt (by rw [List.length_map]; have := hk.2.1; omega)
    have yes : keepB es (es.length - 1 - j) r = true → ∀ o, (nD L).length < sizeLine ∧ forD (.nm 5) b__law_by_1 (nD (List.range' (j + 1) m)) (E_by es r (nD L ++ [.int (((es.map eD).length : Int) - 1 - (j : Int))]) [] o) Dn := fun c o => by
      have := ih (L ++ [es.length - 1 - j]) o (by omega) (hk.yes hjl c) Dn k
      rw [nD_snoc, ← at_eq hjl] at this
      exact ⟨sz, this⟩
    have no : keepB es (es.length - 1 - j) r = false → ∀ o, forD (.nm 5) b__law_by_1 (nD (List.range' (j + 1) m)) (E_by es r (nD L) [] o) Dn := fun c o => ih L o (by omega) (hk.no hjl c) Dn k
    rw [show nD (List.range' j (m + 1)) = .int (j : Int) :: nD (List.range' (j + 1) m) by rw [List.range'_succ]; rfl]
    cases r with
    | each p n => cases hr
    | last n =>
      refine someD_mk (ent_at hjl) ?_
      refine brB_dec (p := (j : Int) < n) (fun h => ?_) (fun h => ?_)
      · exact yes (decide_eq_true (by omega)) (_, _, _, _, _, _, _)
      · exact no (decide_eq_false (by omega)) (_, _, _, _, _, _, _)
    | tag s =>
      refine someD_mk (ent_at hjl) ?_
      refine sq_list ?_
      refine in_lst ?_
      refine brB_dec (p := s ∈ (es.getD (es.length - 1 - j) e0).tags) (fun h => ?_) (fun h => ?_)
      · exact yes (decide_eq_true h) (_, _, _, _, _, _, _)
      · exact no (decide_eq_false h) (_, _, _, _, _, _, _)
    | within n =>
      refine someD_mk (ent_at hjl) ?_
      have hg : getI (es.map eD) (((es.map eD).length : Int) - 1) = some (eD (es.getD (es.length - 1) e0)) := by
        rw [show ((es.map eD).length : Int) - 1 = ((es.length - 1 : Nat) : Int) by rw [List.length_map]; omega]
        exact ent_get (by omega)
      refine someD_mk hg ?_
      refine brB_dec (p := (es.getD (es.length - 1) e0).t ≤ (es.getD (es.length - 1 - j) e0).t + n) (fun h => ?_) (fun h => ?_)
      · exact yes (decide_eq_true (by omega)) (_, _, _, _, _, _, _)
      · exact no (decide_eq_false (by omega)) (_, _, _, _, _, _, _)
    | number n =>
      refine someD_mk (ent_at hjl) ?_
      refine brB_dec (p := (es.getD (es.length - 1 - j) e0).n = n) (fun h => ?_) (fun h => ?_)
      · exact yes (decide_eq_true h) (_, _, _, _, _, _, _)
      · exact no (decide_eq_false h) (_, _, _, _, _, _, _)
end K77
set_option Elab.async false
set_option linter.all false
set_option maxRecDepth 100000
set_option maxHeartbeats 2000000
/-! k77, part l: the places that a rule of periods keeps, by the law. -/
namespace K77
open PySem L2 PySem.Spec PyProof.Rows DL
def lastL (l : List Int) : List Int := match l.getLast? with
  | some x => [x]
  | none => []
theorem cut_last (l : List Int) : DL.cutD (l.map .int) (some (-1)) none = (lastL l).map .int := by
  have e : HT.sIx (l.map D.int).length 0 (some (-1)) = l.length - 1 := by
    show (if (-1 : Int) < 0 then (-1 + ((l.map D.int).length : Int)).toNat else min (-1 : Int).toNat (l.map D.int).length) = _
    rw [if_pos (by decide), List.length_map]
    omega
  unfold DL.cutD
  rw [e]
  show List.take ((l.map D.int).length - (l.length - 1)) (List.drop (l.length - 1) (l.map D.int)) = _
  rw [List.length_map]
  rcases List.eq_nil_or_concat l with rfl | ⟨l', x, rfl⟩
  · rfl
  · simp only [List.concat_eq_append]
    rw [List.map_append, show (l' ++ [x]).length - 1 = l'.length by simp, List.drop_left' (by simp), show (l' ++ [x]).length - l'.length = 1 by simp]
    unfold lastL
    rw [List.getLast?_append]
    rfl
theorem ne_cut {l : List Int} {x : Int} {Q : Qn} (k : Q (.bl (!decide (lastL l = [x]))) 0) : odNe (.lst (DL.cutD (l.map .int) (some (-1)) none)) (.lst [.int x]) Q := by
  rw [cut_last]
  exact neInts (lastL l) [x] k
theorem lastL_frs {es : List Ent} {p : Int} {j : Nat} (hj : j < es.length) : lastL ((frs es.length (perOf es p) j).map (perOf es p)) = [perOf es p (es.length - 1 - j)] ↔ ¬ (j = 0 ∨ perOf es p (es.length - 1 - j) ≠ perOf es p (es.length - j)) := by
  cases j with
  | zero => exact ⟨fun z => (nomatch z), fun z => absurd (.inl rfl) z⟩
  | succ j =>
    unfold lastL
    rw [frs_last (by omega) (by omega)]
    show [perOf es p (es.length - (j + 1))] = [perOf es p (es.length - 1 - (j + 1))] ↔ _
    constructor
    · intro z
      have z : perOf es p (es.length - (j + 1)) = perOf es p (es.length - 1 - (j + 1)) := by injection z
      rintro (c | c)
      · omega
      · exact c z.symm
    · intro z
      have : perOf es p (es.length - 1 - (j + 1)) = perOf es p (es.length - (j + 1)) := Classical.byContradiction fun c => z (.inr c)
      rw [this]
theorem each_loop (es : List Ent) (p n : Int) (hl : es.length ≤ 130) (hp0 : 1 ≤ p) (hp1 : p ≤ 10 ^ 9) (hn0 : 1 ≤ n) : ∀ (m j : Nat) (o : Option Bd × Option Bd × Option Bd × Option Bd × Option Bd × Option Bd × Option Bd), j + m = es.length → ∀ Dn : DEnds,
    (∀ pers o, Dn.nx (E_by es (.each p n) (nD (newest es p n)) pers o)) → forD (.nm 5) b__law_by_1 (nD (List.range' j m)) (E_by es (.each p n) (nD ((frs es.length (perOf es p) j).take n.toNat)) ((frs es.length (perOf es p) j).map (perOf es p)) o) Dn
  | 0, j, o, hj, Dn, k => by
    have : j = es.length := by omega
    subst this
    exact k _ _
  | m + 1, j, o, hj, Dn, k => by
    have hjl : j < es.length := by omega
    have e40 : (10 : Int) ^ 9 < 10 ^ 40 := by decide
    have ih := each_loop es p n hl hp0 hp1 hn0 m (j + 1)
    have fl : (frs es.length (perOf es p) j).length ≤ j := frs_len
    have sz : (nD ((frs es.length (perOf es p) j).take n.toNat)).length < sizeLine := ms_lt (by rw [List.length_map, List.length_take]; omega)
    have go : ∀ (L Ps : List D) (o5 o6 o7 o8 o9 o10 o11 : Option Bd), L = nD ((frs es.length (perOf es p) (j + 1)).take n.toNat) → Ps = ((frs es.length (perOf es p) (j + 1)).map (perOf es p)).map D.int → forD (.nm 5) b__law_by_1 (nD (List.range' (j + 1) m))
        [some ⟨.lst (es.map eD), 0, false⟩, some ⟨rD (.each p n), 0, false⟩, some ⟨.int ((es.map eD).length : Int), 0, false⟩, some ⟨.lst L, 1, false⟩, some ⟨.lst Ps, 1, false⟩, o5, o6, o7, o8, o9, o10, o11] Dn := by
      intro L Ps o5 o6 o7 o8 o9 o10 o11 h1 h2
      subst h1 h2
      exact ih (o5, o6, o7, o8, o9, o10, o11) (by omega) Dn k
    rw [show nD (List.range' j (m + 1)) = .int (j : Int) :: nD (List.range' (j + 1) m) by rw [List.range'_succ]; rfl]
    refine someD_mk (ent_at hjl) ?_
    refine And.intro ⟨by omega, by omega⟩ ?_
    refine And.intro (ms_r rfl) ?_
    refine ne_cut ?_
    by_cases c : j = 0 ∨ perOf es p (es.length - 1 - j) ≠ perOf es p (es.length - j)
    · -- a new period
      have hne : ¬ lastL ((frs es.length (perOf es p) j).map (perOf es p)) = [perOf es p (es.length - 1 - j)] := fun z => (lastL_frs hjl).mp z c
      have ef : frs es.length (perOf es p) (j + 1) = frs es.length (perOf es p) j ++ [es.length - 1 - j] := by
        show (if _ then _ else _) = _
        rw [if_pos c]
      have tm := take_more (frs es.length (perOf es p) j) (es.length - 1 - j) n.toNat
      rw [← ef] at tm
      refine brB_not (brB_f (decide_eq_false hne) ?_)
      refine brB_not (brB_f (decide_eq_false hne) ?_)
      refine And.intro ⟨by omega, by omega⟩ ?_
      refine And.intro (ms_r rfl) ?_
      refine And.intro (ms_le (by rw [List.length_map, List.length_map]; simp; omega)) ?_
      have pe : ((frs es.length (perOf es p) (j + 1)).map (perOf es p)).map D.int = ((frs es.length (perOf es p) j).map (perOf es p)).map D.int ++ [.int (perOf es p (es.length - 1 - j))] := by rw [ef, List.map_append, List.map_append]; rfl
      refine brB_dec (p := (((((frs es.length (perOf es p) j).map (perOf es p)).map D.int).length : Int) < n)) (fun h => ?_) (fun h => ?_)
      · rw [List.length_map, List.length_map] at h
        rw [if_pos (by omega)] at tm
        refine And.intro sz ?_
        exact go _ _ _ _ _ _ _ _ _ (by rw [tm, nD_snoc, ← at_eq hjl]) pe.symm
      · rw [List.length_map, List.length_map] at h
        rw [if_neg (by omega)] at tm
        exact go _ _ _ _ _ _ _ _ _ (by rw [tm]) pe.symm
    · have heq : lastL ((frs es.length (perOf es p) j).map (perOf es p)) = [perOf es p (es.length - 1 - j)] := (lastL_frs hjl).mpr c
      have ef : frs es.length (perOf es p) (j + 1) = frs es.length (perOf es p) j := by
        show (if _ then _ else _) = _
        rw [if_neg c]
      refine brB_not (brB_t (decide_eq_true heq) ?_)
      refine brB_not (brB_t (decide_eq_true heq) ?_)
      refine And.intro (ms_le (by rw [List.length_map, List.length_map]; simp; omega)) ?_
      exact go _ _ _ _ _ _ _ _ _ (by rw [ef]) (by rw [ef, List.append_nil])
theorem p_by (ds : List D) (post : DPost) (h : S__law_by ds post) (_ : ds.length = ms__law_by.length) : t__law_by (env0 ms__law_by ds N__law_by.length) (endsOf ms__law_by post) := by
  obtain ⟨es, r, rfl, hl, ht, hr, k⟩ := h
  have lm : (es.map eD).length = es.length := List.length_map ..
  have rgok : -(2 ^ 62) ≤ ((es.map eD).length : Int) ∧ ((es.map eD).length : Int) < 2 ^ 62 := by rw [lm]; omega
  have e1 : rngD 0 ((es.map eD).length : Int).toNat = nD (List.range' 0 es.length) := by rw [lm, show ((es.length : Int)).toNat = es.length by omega, rngD_nD]
  refine And.intro rgok ?_
  rw [e1]
  cases hc : r.isEach with
  | false =>
    refine by_loop es r hl hc es.length 0 [] (none, none, none, none, none, none, none) (by omega) ⟨List.nodup_nil, Nat.le_refl _, fun q => ⟨fun z => (nomatch z), fun z => by omega⟩⟩ _ (fun L' o hk => ?_)
    exact k L' ⟨hk.1, fun q => by rw [hk.2.2]; exact ⟨fun z => ⟨z.1.2, z.2⟩, fun z => ⟨⟨by omega, z.1⟩, z.2⟩⟩⟩
  | true =>
    cases r with
    | each p n =>
      have t0 : ((frs es.length (perOf es p) 0).take n.toNat) = [] := List.take_nil
      have lp := each_loop es p n hl hr.1 hr.2.1 hr.2.2.1 es.length 0 (none, none, none, none, none, none, none) (by omega)
      unfold E_by at lp
      rw [t0] at lp
      refine lp _ (fun pers o => ?_)
      refine k _ ⟨List.Nodup.sublist (List.take_sublist _ _) (frs_nodup (Nat.le_refl _)), fun q => ?_⟩
      show _ ↔ q < es.length ∧ decide (q ∈ newest es p n) = true
      rw [decide_eq_true_iff]
      exact ⟨fun z => ⟨(frs_mem (Nat.le_refl _) (List.mem_of_mem_take z)).2, z⟩, fun z => z.2⟩
    | _ => cases hc
end K77
set_option Elab.async false
set_option linter.all false
set_option maxRecDepth 100000
set_option maxHeartbeats 2000000
/-! k77, part m: what is kept, by places. -/
namespace K77
open PySem L2 PySem.Spec PyProof.Rows DL
/-- the rules among the first k that keep place q -/
def whyN (es : List Ent) (rs : List Rl) (k q : Nat) : List Nat := (List.range' 0 k).filter fun i => keepB es q (rs.getD i (.last 0))
abbrev whyD (es : List Ent) (rs : List Rl) (k q : Nat) : D := .lst (nD (whyN es rs k q))
theorem why_len {es : List Ent} {rs : List Rl} {k q : Nat} : (whyN es rs k q).length ≤ k := by
  have := List.length_filter_le (fun i => keepB es q (rs.getD i (.last 0))) (List.range' 0 k)
  rw [List.length_range'] at this
  exact this
theorem why_succ {es : List Ent} {rs : List Rl} {k q : Nat} : whyN es rs (k + 1) q = if keepB es q (rs.getD k (.last 0)) = true then whyN es rs k q ++ [k] else whyN es rs k q := by
  unfold whyN
  rw [List.range'_concat, List.filter_append, Nat.one_mul, Nat.zero_add]
  have ef : [k].filter (fun i => keepB es q (rs.getD i (.last 0))) = if keepB es q (rs.getD k (.last 0)) = true then [k] else [] := by simp only [List.filter_cons, List.filter_nil]
  rw [ef]
  split
  · rfl
  · rw [List.append_nil]
/-- all places' lists after k rules, and of the places in done with the k-th -/
def keepers (es : List Ent) (rs : List Rl) (k : Nat) (done : List Nat) : List D := (List.range' 0 es.length).map fun q => .lst (nD (whyN es rs k q ++ if q ∈ done then [k] else []))
theorem keepers_len {es : List Ent} {rs : List Rl} {k : Nat} {done : List Nat} : (keepers es rs k done).length = es.length := by simp [keepers]
theorem keepers_get {es : List Ent} {rs : List Rl} {k q : Nat} {done : List Nat} (h : q < es.length) : (keepers es rs k done)[q]? = some (.lst (nD (whyN es rs k q ++ if q ∈ done then [k] else []))) := by simp [keepers, h]
theorem keepers_set {es : List Ent} {rs : List Rl} {k q : Nat} {done : List Nat} (h : q < es.length) (hq : q ∉ done) : (keepers es rs k done).set q (.lst (nD (whyN es rs k q) ++ [.int (k : Int)])) = keepers es rs k (done ++ [q]) := by
  refine List.ext_getElem? fun i => ?_
  by_cases hi : i < es.length
  · rw [keepers_get hi, List.getElem?_set]
    by_cases e : q = i
    · subst e
      rw [if_pos rfl, if_pos (by rw [keepers_len]; exact h), if_pos (by simp)]
      simp [nD]
    · rw [if_neg e, keepers_get hi]
      have : i ∈ done ++ [q] ↔ i ∈ done := by simp; intro z; exact absurd z.symm e
      simp only [this]
  · rw [List.getElem?_eq_none (by rw [List.length_set, keepers_len]; omega), List.getElem?_eq_none (by rw [keepers_len]; omega)]
theorem keepers_next {es : List Ent} {rs : List Rl} {k : Nat} {ps : List Nat} (h : Kept es (rs.getD k (.last 0)) ps) : keepers es rs k ps = keepers es rs (k + 1) [] := by
  refine List.map_congr_left fun q hq => ?_
  rw [List.mem_range'_1] at hq
  rw [why_succ]
  have := h.2 q
  by_cases c : keepB es q (rs.getD k (.last 0)) = true
  · rw [if_pos c, if_pos (this.mpr ⟨by omega, c⟩)]
    simp
  · rw [if_neg c, if_neg (fun z => c (this.mp z).2)]
    simp
theorem keepers_zero {es : List Ent} {rs : List Rl} : keepers es rs 0 [] = List.replicate es.length (.lst []) := by
  refine List.ext_getElem? fun i => ?_
  by_cases hi : i < es.length
  · rw [keepers_get hi]; simp [hi, whyN]
  · rw [List.getElem?_eq_none (by rw [keepers_len]; omega), List.getElem?_eq_none (by simp; omega)]
/-! ### what is told -/
def tells (es : List Ent) (rs : List Rl) (q : Nat) : Bool := !(whyN es rs rs.length q).isEmpty || decide ((q : Int) = (es.length : Int) - 1)
def dueL (es : List Ent) (rs : List Rl) (j : Nat) : List (Key × D) := ((List.range' 0 j).filter (tells es rs)).map fun q => (.inl (es.getD q e0).n, whyD es rs rs.length q)
abbrev dueK (es : List Ent) (rs : List Rl) : List (Key × D) := dueL es rs es.length
theorem due_succ {es : List Ent} {rs : List Rl} {j : Nat} : dueL es rs (j + 1) = if tells es rs j = true then dueL es rs j ++ [(.inl (es.getD j e0).n, whyD es rs rs.length j)] else dueL es rs j := by
  unfold dueL
  rw [List.range'_concat, List.filter_append, Nat.one_mul, Nat.zero_add, List.map_append]
  have ef : [j].filter (tells es rs) = if tells es rs j = true then [j] else [] := by simp only [List.filter_cons, List.filter_nil]
  rw [ef]
  split
  · rfl
  · rw [List.map_nil, List.append_nil]
theorem due_len {es : List Ent} {rs : List Rl} {j : Nat} : (dueL es rs j).length ≤ j := by
  unfold dueL
  rw [List.length_map]
  have := List.length_filter_le (tells es rs) (List.range' 0 j)
  rw [List.length_range'] at this
  exact this
theorem look_map {κ : Type} [DecidableEq κ] {α : Type} (f : α → κ) (g : α → D) (k : κ) : ∀ l : List α, (∀ x ∈ l, f x ≠ k) → lookD (l.map fun x => (f x, g x)) k = none
  | [], _ => rfl
  | x :: l, h => by
    rw [List.map_cons, lookD_cons, if_neg (h x List.mem_cons_self)]
    exact look_map f g k l fun y hy => h y (List.mem_cons_of_mem _ hy)
/-- what the walks over entries need -/
structure EsAs (es : List Ent) : Prop where
  len : es.length ≤ 130
  tl : ∀ e ∈ es, e.tags.length ≤ 2
  asc : es.Pairwise fun a b => a.n < b.n ∧ a.t < b.t
theorem EsOk.as {es : List Ent} (h : EsOk es) : EsAs es := ⟨Nat.le_trans h.len (by decide), fun e he => (h.ok e he).tl, h.asc⟩
abbrev Asc (es : List Ent) : Prop := es.Pairwise fun a b => a.n < b.n ∧ a.t < b.t
theorem asc_lt {es : List Ent} (h : Asc es) {i j : Nat} (hij : i < j) (hj : j < es.length) : (es.getD i e0).n < (es.getD j e0).n := by
  have := List.pairwise_iff_getElem.mp h i j (by omega) hj hij
  have e1 : es.getD i e0 = es[i] := by simp [show i < es.length by omega]
  have e2 : es.getD j e0 = es[j] := by simp [hj]
  rw [e1, e2]
  exact this.1
theorem due_fresh {es : List Ent} {rs : List Rl} {j : Nat} (h : Asc es) (hj : j < es.length) : (lookD (dueL es rs j) (.inl (es.getD j e0).n)).isSome = false := by
  unfold dueL
  rw [look_map]
  · rfl
  · intro q hq
    rw [List.mem_filter, List.mem_range'_1] at hq
    have := asc_lt h (show q < j by omega) hj
    intro z
    injection z with z
    omega
end K77
set_option Elab.async false
set_option linter.all false
set_option maxRecDepth 100000
set_option maxHeartbeats 2000000
/-! k77, part n: the program's reasons. -/
namespace K77
open PySem L2 PySem.Spec PyProof.Rows DL
theorem setP_ix {ds : List D} {q : Nat} {e x : D} (h : ds[q]? = some e) : setP [.ix q] x (.lst ds) = .lst (ds.set q x) := by
  show (match ds[q]? with | some e => set1 (.ix q) (setP [] x e) (.lst ds) | none => .lst ds) = _
  rw [h]
  rfl
theorem appP_ix {s i v q : Nat} {env : DEnv} {Dn : DEnds} {ds l : List D} {k : Int} {io : Bool} {bi bv : Bd} (hs : gt env s = some ⟨.lst ds, 2, io⟩) (hi : gt env i = some bi) (hid : bi.d = .int (q : Int)) (hv : gt env v = some bv) (hvd : bv.d = .int k) (hl : ds[q]? = some (.lst l)) (hz : l.length < sizeLine)
    (kk : Dn.nx (env.set s (some ⟨.lst (ds.set q (.lst (l ++ [.int k]))), 2, io⟩))) : sdAppP (thIx (thVar s) (pVar i)) (pVar v) env Dn := by
  have hq : q < ds.length := (List.getElem?_eq_some_iff.mp hl).1
  refine thIx_lst (s := s) (p := []) (ds := ds) (w := (q : Int)) (j := q) (e := .lst l) (fun Q' h => ?_) (fun Q' h => ?_) (ixI_nat hq) hl ?_
  · unfold thVar; rw [hs]; exact h
  · unfold pVar; rw [hi]; show Q' bi.d; rw [hid]; exact h
  · show pVar v env fun x => lf x (appAt s [.ix q] (.lst l) x env Dn.nx)
    unfold pVar
    rw [hv]
    show lf bv.d (appAt s [.ix q] (.lst l) bv.d env Dn.nx)
    rw [hvd]
    show appAt s [.ix q] (.lst l) (.int k) env Dn.nx
    unfold appAt
    rw [hs]
    refine And.intro hz ?_
    show Dn.nx (env.set s (some ⟨setP [.ix q] (.lst (l ++ [.int k])) (.lst ds), 2, io⟩))
    rw [setP_ix hl]
    exact kk
theorem mv_ix {s i q n : Nat} {env : DEnv} {Q : QE} {R : QX} {ds : List D} {d : D} {io : Bool} {bi : Bd} (hs : gt env s = some ⟨.lst ds, n + 1, io⟩) (hi : gt env i = some bi) (hid : bi.d = .int (q : Int)) (hl : ds[q]? = some d) (kk : Q d n (env.set s (some ⟨.lst (ds.set q .hole), n + 1, io⟩))) : eMv s (pVar i) env Q R := by
  have hq : q < ds.length := (List.getElem?_eq_some_iff.mp hl).1
  unfold eMv
  rw [hs]
  show pVar i env fun ix => match ix with
      | .int k => match ixI ds.length k with | some j => someD (ds[j]?) fun d => Q d n (env.set s (some ⟨.lst (ds.set j .hole), n + 1, io⟩)) | none => False
      | _ => False
  unfold pVar
  rw [hi]
  show (match bi.d with
      | .int k => match ixI ds.length k with | some j => someD (ds[j]?) fun d => Q d n (env.set s (some ⟨.lst (ds.set j .hole), n + 1, io⟩)) | none => False
      | _ => False)
  rw [hid]
  show (match ixI ds.length (q : Int) with | some j => someD (ds[j]?) fun d => Q d n (env.set s (some ⟨.lst (ds.set j .hole), n + 1, io⟩)) | none => False)
  rw [ixI_nat hq]
  exact someD_mk hl kk
theorem nils_loop {S : DSp} (a0 a1 a2 a4 a5 a6 a7 : Option Bd) : ∀ (items acc : List D), items.length + acc.length ≤ 1000 → ∀ Q : QE, Q (.lst (acc ++ List.replicate items.length (.lst []))) 2 [a0, a1, a2, none, a4, a5, a6, a7] →
    lcO 1 (.nm 3) ttYes (e_reasons_in_1 S) [3] items acc [a0, a1, a2, none, a4, a5, a6, a7] Q
  | [], acc, _, Q, k => by
    rw [show List.replicate ([] : List D).length (D.lst []) = [] from rfl, List.append_nil] at k
    exact k
  | x :: items, acc, hl, Q, k => by
    refine And.intro rfl (And.intro (ms_lt (by simp at hl; omega)) ?_)
    refine nils_loop a0 a1 a2 a4 a5 a6 a7 items (acc ++ [.lst []]) (by simp at hl ⊢; omega) Q ?_
    rw [List.append_assoc]
    exact k
def S_reasons_in : DSp := fun ds post => ∃ es rs, ds = [.lst (es.map eD), .lst (rs.map rD)] ∧ EsAs es ∧ RsOk rs ∧ post.rt (.dK (dueK es rs)) 2 []
theorem mk_reasons_in {post : DPost} {es : List Ent} {rs : List Rl} (h : EsAs es) (hr : RsOk rs) (k : post.rt (.dK (dueK es rs)) 2 []) : S_reasons_in [.lst (es.map eD), .lst (rs.map rD)] post := ⟨es, rs, rfl, h, hr, k⟩
theorem kept_loop {es : List Ent} {rs : List Rl} (hl : es.length ≤ 130) {k : Nat} (hk : k < 100) (a0 a1 a3 a5 a7 : Option Bd) : ∀ (ps done : List Nat) (a6 : Option Bd), (done ++ ps).Nodup → (∀ q ∈ ps, q < es.length) → ∀ Dn : DEnds,
    (∀ a6, Dn.nx [a0, a1, some ⟨.lst (keepers es rs k (done ++ ps)), 2, false⟩, a3, some ⟨.int (k : Int), 0, false⟩, a5, a6, a7]) → forD (.nm 6) (b_reasons_in_1 S_places_kept) (nD ps) [a0, a1, some ⟨.lst (keepers es rs k done), 2, false⟩, a3, some ⟨.int (k : Int), 0, false⟩, a5, a6, a7] Dn
  | [], done, a6, hn, hq, Dn, kk => by
    have := kk a6
    rw [List.append_nil] at this
    exact this
  | q :: ps, done, a6, hn, hq, Dn, kk => by
    have hql := hq q List.mem_cons_self
    have hnd : q ∉ done := fun z => by
      rw [List.nodup_append] at hn
      exact hn.2.2 q z q List.mem_cons_self rfl
    have hg := keepers_get (rs := rs) (k := k) (done := done) hql
    rw [if_neg hnd, List.append_nil] at hg
    show sdAppP (thIx (thVar 2) (pVar 6)) (pVar 4) [a0, a1, some ⟨.lst (keepers es rs k done), 2, false⟩, a3, some ⟨.int (k : Int), 0, false⟩, a5, some ⟨.int (q : Int), 0, false⟩, a7] _
    refine appP_ix (bi := ⟨.int (q : Int), 0, false⟩) (bv := ⟨.int (k : Int), 0, false⟩) (ds := keepers es rs k done) (io := false) (q := q) (k := (k : Int)) ?_ ?_ rfl ?_ rfl hg (ms_lt (by rw [List.length_map]; have := why_len (es := es) (rs := rs) (k := k) (q := q); omega)) ?_
    · rfl
    · rfl
    · rfl
    rw [keepers_set hql hnd]
    refine kept_loop hl hk a0 a1 a3 a5 a7 ps (done ++ [q]) _ (by rw [List.append_assoc]; exact hn) (fun q' z => hq q' (List.mem_cons_of_mem _ z)) Dn (fun a6 => ?_)
    rw [List.append_assoc]
    exact kk a6
theorem rules_walk {es : List Ent} {rs : List Rl} (he : EsAs es) (hr : RsOk rs) (a1 a3 a7 : Option Bd) : ∀ (m j : Nat) (a4 a5 a6 : Option Bd), j + m = rs.length → ∀ Dn : DEnds,
    (∀ a4 a5 a6, Dn.nx [some ⟨.lst (es.map eD), 0, false⟩, a1, some ⟨.lst (keepers es rs rs.length []), 2, false⟩, a3, a4, a5, a6, a7]) →
    forD (.tu [.nm 4, .nm 5]) (b_reasons_in_2 S_places_kept) ((List.range' j m).map fun (i : Nat) => .tup [.int (i : Int), (rs.map rD).getD i .non]) [some ⟨.lst (es.map eD), 0, false⟩, a1, some ⟨.lst (keepers es rs j []), 2, false⟩, a3, a4, a5, a6, a7] Dn
  | 0, j, a4, a5, a6, hj, Dn, kk => by
    have : j = rs.length := by omega
    subst this
    exact kk a4 a5 a6
  | m + 1, j, a4, a5, a6, hj, Dn, kk => by
    have hjl : j < rs.length := by omega
    have eg : (rs.map rD).getD j .non = rD (rs.getD j (.last 0)) := by simp [hjl]
    have hok : RlOk (rs.getD j (.last 0)) := by rw [show rs.getD j (.last 0) = rs[j] by simp [hjl]]; exact hr.ok _ (List.getElem_mem hjl)
    rw [List.range'_succ, List.map_cons, eg]
    refine mk_places he.len (fun e z => he.tl e z) hok (fun ps hps => ?_)
    have := kept_loop (rs := rs) (k := j) he.len (by have := hr.len; omega) (some ⟨.lst (es.map eD), 0, false⟩) a1 a3 (some ⟨rD (rs.getD j (.last 0)), 0, false⟩) a7 ps [] a6 (by simpa using hps.1) (fun q z => ((hps.2 q).mp z).1)
    refine this _ (fun a6' => ?_)
    rw [List.nil_append, keepers_next hps]
    exact rules_walk he hr a1 a3 a7 m (j + 1) _ _ _ (by omega) Dn kk
/-- the lists that are still there when the first j places were told -/
def lefts (es : List Ent) (rs : List Rl) (j : Nat) : List D := (List.range' 0 es.length).map fun q => if q < j ∧ tells es rs q = true then .hole else whyD es rs rs.length q
theorem lefts_len {es : List Ent} {rs : List Rl} {j : Nat} : (lefts es rs j).length = es.length := by simp [lefts]
theorem lefts_get {es : List Ent} {rs : List Rl} {j : Nat} (h : j < es.length) : (lefts es rs j)[j]? = some (whyD es rs rs.length j) := by simp [lefts, h]
theorem lefts_zero {es : List Ent} {rs : List Rl} : lefts es rs 0 = keepers es rs rs.length [] := by
  refine List.map_congr_left fun q _ => ?_
  rw [if_neg (by omega)]
  simp
theorem lefts_yes {es : List Ent} {rs : List Rl} {j : Nat} (h : j < es.length) (c : tells es rs j = true) : (lefts es rs j).set j .hole = lefts es rs (j + 1) := by
  refine List.ext_getElem? fun i => ?_
  by_cases hi : i < es.length
  · rw [List.getElem?_set]
    by_cases e : j = i
    · subst e
      rw [if_pos rfl, if_pos (by rw [lefts_len]; exact h)]
      simp [lefts, h, c]
    · rw [if_neg e]
      have : (i < j + 1) ↔ i < j := by omega
      simp [lefts, hi, this]
  · rw [List.getElem?_eq_none (by rw [List.length_set, lefts_len]; omega), List.getElem?_eq_none (by rw [lefts_len]; omega)]
theorem lefts_no {es : List Ent} {rs : List Rl} {j : Nat} (c : tells es rs j = false) : lefts es rs (j + 1) = lefts es rs j := by
  refine List.map_congr_left fun q _ => ?_
  by_cases e : q = j
  · subst e
    rw [if_neg (by rw [c]; simp), if_neg (by omega)]
  · have : (q < j + 1) ↔ q < j := by omega
    simp only [this]
theorem tell_loop {es : List Ent} {rs : List Rl} (he : EsAs es) (hr : RsOk rs) (a1 a4 a5 : Option Bd) : ∀ (m j : Nat) (a3 a6 : Option Bd), j + m = es.length → ∀ Dn : DEnds,
    (∀ a2 a3 a6, Dn.nx [some ⟨.lst (es.map eD), 0, false⟩, a1, a2, a3, a4, a5, a6, some ⟨.dK (dueK es rs), 2, false⟩]) →
    forD (.tu [.nm 6, .nm 3]) (b_reasons_in_3 S_places_kept) ((List.range' j m).map fun (i : Nat) => .tup [.int (i : Int), (es.map eD).getD i .non]) [some ⟨.lst (es.map eD), 0, false⟩, a1, some ⟨.lst (lefts es rs j), 2, false⟩, a3, a4, a5, a6, some ⟨.dK (dueL es rs j), 2, false⟩] Dn
  | 0, j, a3, a6, hj, Dn, kk => by
    have : j = es.length := by omega
    subst this
    exact kk _ a3 a6
  | m + 1, j, a3, a6, hj, Dn, kk => by
    have hjl : j < es.length := by omega
    have eg : (es.map eD).getD j .non = eD (es.getD j e0) := by simp [hjl]
    rw [List.range'_succ, List.map_cons, eg]
    have ih := tell_loop he hr a1 a4 a5 m (j + 1)
    have hl := he.len
    have lm : (es.map eD).length = es.length := List.length_map ..
    have hd := due_succ (es := es) (rs := rs) (j := j)
    have yes : tells es rs j = true → sdSetO 7 (tP2 odIx (pVar 3) (pC (.int 0))) (eMv 2 (pVar 6)) [some ⟨.lst (es.map eD), 0, false⟩, a1, some ⟨.lst (lefts es rs j), 2, false⟩, some ⟨eD (es.getD j e0), 0, false⟩, a4, a5, some ⟨.int (j : Int), 0, false⟩, some ⟨.dK (dueL es rs j), 2, false⟩]
        { nx := fun e => forD (.tu [.nm 6, .nm 3]) (b_reasons_in_3 S_places_kept) ((List.range' (j + 1) m).map fun (i : Nat) => .tup [.int (i : Int), (es.map eD).getD i .non]) e Dn, ct := fun e => forD (.tu [.nm 6, .nm 3]) (b_reasons_in_3 S_places_kept) ((List.range' (j + 1) m).map fun (i : Nat) => .tup [.int (i : Int), (es.map eD).getD i .non]) e Dn, bk := Dn.nx, rt := Dn.rt, ex := Dn.ex } := by
      intro c
      refine mv_ix (s := 2) (i := 6) (n := 1) (q := j) (bi := ⟨.int (j : Int), 0, false⟩) (io := false) rfl rfl rfl (lefts_get hjl) ?_
      rw [lefts_yes hjl c]
      refine And.intro (due_fresh he.asc hjl) (And.intro (ms_lt (Nat.le_trans due_len (by omega))) ?_)
      rw [if_pos c] at hd
      have := ih (some ⟨eD (es.getD j e0), 0, false⟩) (some ⟨.int (j : Int), 0, false⟩) (by omega) Dn kk
      rw [hd] at this
      exact this
    have no : tells es rs j = false → forD (.tu [.nm 6, .nm 3]) (b_reasons_in_3 S_places_kept) ((List.range' (j + 1) m).map fun (i : Nat) => .tup [.int (i : Int), (es.map eD).getD i .non]) [some ⟨.lst (es.map eD), 0, false⟩, a1, some ⟨.lst (lefts es rs j), 2, false⟩, some ⟨eD (es.getD j e0), 0, false⟩, a4, a5, some ⟨.int (j : Int), 0, false⟩, some ⟨.dK (dueL es rs j), 2, false⟩] Dn := by
      intro c
      rw [c, if_neg Bool.false_ne_true] at hd
      have := ih (some ⟨eD (es.getD j e0), 0, false⟩) (some ⟨.int (j : Int), 0, false⟩) (by omega) Dn kk
      rw [hd, lefts_no c] at this
      exact this
    have gx : getI (lefts es rs j) (j : Int) = some (whyD es rs rs.length j) := getI_nat (lefts_get hjl)
    refine someD_mk gx ?_
    have te : tells es rs j = (!(nD (whyN es rs rs.length j)).isEmpty || decide ((j : Int) = ((es.map eD).length : Int) - 1)) := by
      rw [lm]
      unfold tells
      cases whyN es rs rs.length j <;> rfl
    refine brB_2 (fun h => yes (by rw [te, h]; rfl)) (fun h => ?_)
    refine brB_dec (p := (j : Int) = ((es.map eD).length : Int) - 1) (fun c => yes (by rw [te, decide_eq_true c, Bool.or_true])) (fun c => no (by rw [te, h, decide_eq_false c]; rfl))
theorem p_reasons_in (ds : List D) (post : DPost) (h : S_reasons_in ds post) (_ : ds.length = ms_reasons_in.length) : t_reasons_in S_places_kept (env0 ms_reasons_in ds N_reasons_in.length) (endsOf ms_reasons_in post) := by
  obtain ⟨es, rs, rfl, he, hr, k⟩ := h
  have hl := he.len
  have lm : (es.map eD).length = es.length := List.length_map ..
  refine nils_loop _ _ _ _ _ _ _ (es.map eD) [] (by rw [lm]; simp; omega) _ ?_
  rw [lm, List.nil_append, ← keepers_zero (es := es) (rs := rs)]
  have e := enum_eq (rs.map rD)
  rw [List.length_map] at e
  show forD (.tu [.nm 4, .nm 5]) (b_reasons_in_2 S_places_kept) (enumD (rs.map rD)) [some ⟨.lst (es.map eD), 0, false⟩, some ⟨.lst (rs.map rD), 0, false⟩, some ⟨.lst (keepers es rs 0 []), 2, false⟩, none, none, none, none, none] _
  rw [e]
  refine rules_walk he hr _ _ _ rs.length 0 none none none (by omega) _ (fun a4 a5 a6 => ?_)
  have e2 := enum_eq (es.map eD)
  rw [lm] at e2
  rw [← lefts_zero]
  show forD (.tu [.nm 6, .nm 3]) (b_reasons_in_3 S_places_kept) (enumD (es.map eD)) [some ⟨.lst (es.map eD), 0, false⟩, some ⟨.lst (rs.map rD), 0, false⟩, some ⟨.lst (lefts es rs 0), 2, false⟩, none, a4, a5, a6, some ⟨.dK (dueL es rs 0), 2, false⟩] _
  rw [e2]
  refine tell_loop he hr _ _ _ es.length 0 none a6 (by omega) _ (fun a2 a3 a6 => ?_)
  exact k
end K77
set_option Elab.async false
set_option linter.all false
set_option maxRecDepth 100000
set_option maxHeartbeats 2000000
/-! k77, part o: what the law holds due. -/
namespace K77
open PySem L2 PySem.Spec PyProof.Rows DL
def S__law_due : DSp := fun ds post => ∃ es rs, ds = [.lst (es.map eD), .lst (rs.map rD)] ∧ EsAs es ∧ RsOk rs ∧ post.rt (.dK (dueK es rs)) 1 []
theorem mk_due {post : DPost} {es : List Ent} {rs : List Rl} (h : EsAs es) (hr : RsOk rs) (k : post.rt (.dK (dueK es rs)) 1 []) : S__law_due [.lst (es.map eD), .lst (rs.map rD)] post := ⟨es, rs, rfl, h, hr, k⟩
theorem nils_loop2 {S : DSp} (a0 a1 a2 a3 a5 a6 : Option Bd) : ∀ (items acc : List D), items.length + acc.length ≤ 1000 → ∀ Q : QE, Q (.lst (acc ++ List.replicate items.length (.lst []))) 2 [a0, a1, a2, a3, none, a5, a6] →
    lcO 1 (.nm 4) ttYes (e__law_due_1 S) [4] items acc [a0, a1, a2, a3, none, a5, a6] Q
  | [], acc, _, Q, k => by
    rw [show List.replicate ([] : List D).length (D.lst []) = [] from rfl, List.append_nil] at k
    exact k
  | x :: items, acc, hl, Q, k => by
    refine And.intro rfl (And.intro (ms_lt (by simp at hl; omega)) ?_)
    refine nils_loop2 a0 a1 a2 a3 a5 a6 items (acc ++ [.lst []]) (by simp at hl ⊢; omega) Q ?_
    rw [List.append_assoc]
    exact k
theorem kept_loop2 {es : List Ent} {rs : List Rl} {k : Nat} (hk : k < 100) (a0 a1 a3 a4 : Option Bd) : ∀ (ps done : List Nat) (a6 : Option Bd), (done ++ ps).Nodup → (∀ q ∈ ps, q < es.length) → ∀ Dn : DEnds,
    (∀ a6, Dn.nx [a0, a1, some ⟨.lst (keepers es rs k (done ++ ps)), 2, false⟩, a3, a4, some ⟨.int (k : Int), 0, false⟩, a6]) → forD (.nm 6) (b__law_due_1 S__law_by) (nD ps) [a0, a1, some ⟨.lst (keepers es rs k done), 2, false⟩, a3, a4, some ⟨.int (k : Int), 0, false⟩, a6] Dn
  | [], done, a6, hn, hq, Dn, kk => by
    have := kk a6
    rw [List.append_nil] at this
    exact this
  | q :: ps, done, a6, hn, hq, Dn, kk => by
    have hql := hq q List.mem_cons_self
    have hnd : q ∉ done := fun z => by
      rw [List.nodup_append] at hn
      exact hn.2.2 q z q List.mem_cons_self rfl
    have hg := keepers_get (rs := rs) (k := k) (done := done) hql
    rw [if_neg hnd, List.append_nil] at hg
    show sdAppP (thIx (thVar 2) (pVar 6)) (pVar 5) [a0, a1, some ⟨.lst (keepers es rs k done), 2, false⟩, a3, a4, some ⟨.int (k : Int), 0, false⟩, some ⟨.int (q : Int), 0, false⟩] _
    refine appP_ix (bi := ⟨.int (q : Int), 0, false⟩) (bv := ⟨.int (k : Int), 0, false⟩) (ds := keepers es rs k done) (io := false) (q := q) (k := (k : Int)) ?_ ?_ rfl ?_ rfl hg (ms_lt (by rw [List.length_map]; have := why_len (es := es) (rs := rs) (k := k) (q := q); omega)) ?_
    · rfl
    · rfl
    · rfl
    rw [keepers_set hql hnd]
    refine kept_loop2 hk a0 a1 a3 a4 ps (done ++ [q]) _ (by rw [List.append_assoc]; exact hn) (fun q' z => hq q' (List.mem_cons_of_mem _ z)) Dn (fun a6 => ?_)
    rw [List.append_assoc]
    exact kk a6
theorem rule_get {rs : List Rl} {j : Nat} (h : j < rs.length) : getI (rs.map rD) (j : Int) = some (rD (rs.getD j (.last 0))) := getI_nat (by rw [List.getElem?_map, List.getElem?_eq_getElem h]; simp [h])
theorem rules_walk2 {es : List Ent} {rs : List Rl} (he : EsAs es) (hr : RsOk rs) (a3 a4 : Option Bd) : ∀ (m j : Nat) (a5 a6 : Option Bd), j + m = rs.length → ∀ Dn : DEnds,
    (∀ a5 a6, Dn.nx [some ⟨.lst (es.map eD), 0, false⟩, some ⟨.lst (rs.map rD), 0, false⟩, some ⟨.lst (keepers es rs rs.length []), 2, false⟩, a3, a4, a5, a6]) →
    forD (.nm 5) (b__law_due_2 S__law_by) (nD (List.range' j m)) [some ⟨.lst (es.map eD), 0, false⟩, some ⟨.lst (rs.map rD), 0, false⟩, some ⟨.lst (keepers es rs j []), 2, false⟩, a3, a4, a5, a6] Dn
  | 0, j, a5, a6, hj, Dn, kk => by
    have : j = rs.length := by omega
    subst this
    exact kk a5 a6
  | m + 1, j, a5, a6, hj, Dn, kk => by
    have hjl : j < rs.length := by omega
    have hok : RlOk (rs.getD j (.last 0)) := by rw [show rs.getD j (.last 0) = rs[j] by simp [hjl]]; exact hr.ok _ (List.getElem_mem hjl)
    rw [show nD (List.range' j (m + 1)) = .int (j : Int) :: nD (List.range' (j + 1) m) by rw [List.range'_succ]; rfl]
    refine someD_mk (rule_get hjl) ?_
    refine mk_by he.len (fun e z => he.tl e z) hok (fun ps hps => ?_)
    have := kept_loop2 (es := es) (rs := rs) (k := j) (by have := hr.len; omega) (some ⟨.lst (es.map eD), 0, false⟩) (some ⟨.lst (rs.map rD), 0, false⟩) a3 a4 ps [] a6 (by simpa using hps.1) (fun q z => ((hps.2 q).mp z).1)
    refine this _ (fun a6' => ?_)
    rw [List.nil_append, keepers_next hps]
    exact rules_walk2 he hr a3 a4 m (j + 1) _ _ (by omega) Dn kk
theorem why_flat {es : List Ent} {rs : List Rl} {k q : Nat} : Flat 1 (whyD es rs k q) := fun d hd => by
  obtain ⟨i, _, rfl⟩ := List.mem_map.mp hd
  exact trivial
theorem keepers_at {es : List Ent} {rs : List Rl} {j : Nat} (h : j < es.length) : getI (keepers es rs rs.length []) (j : Int) = some (whyD es rs rs.length j) := getI_nat (by rw [keepers_get h]; simp)
theorem keyD_int (i : Int) : keyD (.int i) = some (.inl i) := rfl
theorem put_fresh {kvs : List (Key × D)} {key : Key} {x : D} (h : (lookD kvs key).isSome = false) : putD kvs key x = kvs ++ [(key, x)] := by
  unfold putD
  rw [look_none h]
  rfl
theorem tell_loop2 {es : List Ent} {rs : List Rl} (he : EsAs es) (a1 a4 a5 : Option Bd) : ∀ (m j : Nat) (n : Nat) (a6 : Option Bd), 1 ≤ n → j + m = es.length → ∀ Dn : DEnds,
    (∀ a2 a6, Dn.nx [some ⟨.lst (es.map eD), 0, false⟩, a1, a2, some ⟨.dK (dueK es rs), 1, false⟩, a4, a5, a6]) →
    forD (.nm 6) (b__law_due_3 S__law_by) (nD (List.range' j m)) [some ⟨.lst (es.map eD), 0, false⟩, a1, some ⟨.lst (keepers es rs rs.length []), n, false⟩, some ⟨.dK (dueL es rs j), 1, false⟩, a4, a5, a6] Dn
  | 0, j, n, a6, hn, hj, Dn, kk => by
    have : j = es.length := by omega
    subst this
    exact kk _ a6
  | m + 1, j, n, a6, hn, hj, Dn, kk => by
    have hjl : j < es.length := by omega
    rw [show nD (List.range' j (m + 1)) = .int (j : Int) :: nD (List.range' (j + 1) m) by rw [List.range'_succ]; rfl]
    have ih := tell_loop2 (rs := rs) he a1 a4 a5 m (j + 1)
    have hl := he.len
    have lm : (es.map eD).length = es.length := List.length_map ..
    have hd := due_succ (es := es) (rs := rs) (j := j)
    have hn1 : min n 1 = 1 := by omega
    have yes : tells es rs j = true → sdSetI 3 (tO2 odIx (eIxL 0 (eVar 6)) (eP (pC (.int 0)))) (eIxL 2 (eVar 6)) [some ⟨.lst (es.map eD), 0, false⟩, a1, some ⟨.lst (keepers es rs rs.length []), n, false⟩, some ⟨.dK (dueL es rs j), 1, false⟩, a4, a5, some ⟨.int (j : Int), 0, false⟩]
        { nx := fun e => forD (.nm 6) (b__law_due_3 S__law_by) (nD (List.range' (j + 1) m)) e Dn, ct := fun e => forD (.nm 6) (b__law_due_3 S__law_by) (nD (List.range' (j + 1) m)) e Dn, bk := Dn.nx, rt := Dn.rt, ex := Dn.ex } := by
      intro c
      refine someD_mk (keepers_at hjl) ?_
      refine someD_mk (ent_get hjl) ?_
      refine And.intro (ms_lt (Nat.le_trans due_len (by omega))) ?_
      rw [if_pos c] at hd
      have := ih (min n 1) (some ⟨.int (j : Int), 0, false⟩) (by omega) (by omega) Dn kk
      rw [hd, ← put_fresh (due_fresh he.asc hjl)] at this
      exact this
    have no : tells es rs j = false → forD (.nm 6) (b__law_due_3 S__law_by) (nD (List.range' (j + 1) m)) [some ⟨.lst (es.map eD), 0, false⟩, a1, some ⟨.lst (keepers es rs rs.length []), n, false⟩, some ⟨.dK (dueL es rs j), 1, false⟩, a4, a5, some ⟨.int (j : Int), 0, false⟩] Dn := by
      intro c
      rw [c, if_neg Bool.false_ne_true] at hd
      have := ih n (some ⟨.int (j : Int), 0, false⟩) hn (by omega) Dn kk
      rw [hd] at this
      exact this
    refine someD_mk (keepers_at hjl) ?_
    have te : tells es rs j = (!(nD (whyN es rs rs.length j)).isEmpty || decide ((j : Int) = ((es.map eD).length : Int) - 1)) := by
      rw [lm]
      unfold tells
      cases whyN es rs rs.length j <;> rfl
    refine And.intro (ms_r rfl) ?_
    refine neNil why_flat (by decide) ?_
    refine brB_2 (fun h => yes (by rw [te, h]; rfl)) (fun h => ?_)
    refine brB_dec (p := (j : Int) = ((es.map eD).length : Int) - 1) (fun c => yes (by rw [te, decide_eq_true c, Bool.or_true])) (fun c => no (by rw [te, h, decide_eq_false c]; rfl))
theorem p_due (ds : List D) (post : DPost) (h : S__law_due ds post) (_ : ds.length = ms__law_due.length) : t__law_due S__law_by (env0 ms__law_due ds N__law_due.length) (endsOf ms__law_due post) := by
  obtain ⟨es, rs, rfl, he, hr, k⟩ := h
  have hl := he.len
  have hrl := hr.len
  have lm : (es.map eD).length = es.length := List.length_map ..
  have lr : (rs.map rD).length = rs.length := List.length_map ..
  refine nils_loop2 _ _ _ _ _ _ (es.map eD) [] (by rw [lm]; simp; omega) _ ?_
  rw [lm, List.nil_append, ← keepers_zero (es := es) (rs := rs)]
  refine And.intro (show -(2 ^ 62) ≤ ((rs.map rD).length : Int) ∧ ((rs.map rD).length : Int) < 2 ^ 62 by rw [lr]; omega) ?_
  rw [show rngD 0 ((rs.map rD).length : Int).toNat = nD (List.range' 0 rs.length) by rw [lr, show ((rs.length : Int)).toNat = rs.length by omega, rngD_nD]]
  refine rules_walk2 he hr _ _ rs.length 0 none none (by omega) _ (fun a5 a6 => ?_)
  refine And.intro (show -(2 ^ 62) ≤ ((es.map eD).length : Int) ∧ ((es.map eD).length : Int) < 2 ^ 62 by rw [lm]; omega) ?_
  rw [show rngD 0 ((es.map eD).length : Int).toNat = nD (List.range' 0 es.length) by rw [lm, show ((es.length : Int)).toNat = es.length by omega, rngD_nD]]
  refine tell_loop2 he _ _ _ es.length 0 2 a6 (by decide) (by omega) _ (fun a2 a6 => ?_)
  exact k
end K77
set_option Elab.async false
set_option linter.all false
set_option maxRecDepth 100000
set_option maxHeartbeats 2000000
/-! k77, part p: reasons, kept, dropped; alike. -/
namespace K77
open PySem L2 PySem.Spec PyProof.Rows DL
abbrev keysL (kvs : List (Key × D)) : List D := kvs.map fun kv => match kv.1 with | .inl i => .int i | .inr s => .str s
/-! ### alike -/
def Good : Nat → D → Prop
  | _, .int _ => True
  | _, .non => True
  | n + 1, .lst ds => ds.length ≤ 1000 ∧ ∀ d ∈ ds, Good n d
  | n + 1, .dK kvs => kvs.length ≤ 1000 ∧ ∀ kv ∈ kvs, (∃ i, kv.1 = .inl i) ∧ Good n kv.2
  | _, _ => False
def SA : Nat → DSp
  | 0 => fun _ _ => False
  | n + 1 => fun ds post => ∃ d, ds = [d, d] ∧ Good n d ∧ post.rt (.bl true) 0 []
theorem mk_alike {post : DPost} {n : Nat} {d : D} (h : Good n d) (k : post.rt (.bl true) 0 []) : SA (n + 1) [d, d] post := ⟨d, rfl, h, k⟩
theorem look_some {kvs : List (Key × D)} {kv : Key × D} (h : kv ∈ kvs) : ∃ d, lookD kvs kv.1 = some d ∧ (kv.1, d) ∈ kvs := by
  induction kvs with
  | nil => cases h
  | cons p t ih =>
    obtain ⟨k0, d0⟩ := p
    rw [lookD_cons]
    by_cases e : k0 = kv.1
    · rw [if_pos e]
      exact ⟨d0, rfl, by rw [← e]; exact List.mem_cons_self⟩
    · rw [if_neg e]
      rcases List.mem_cons.mp h with z | z
      · exact absurd (by rw [z]) e
      · obtain ⟨d, h1, h2⟩ := ih z
        exact ⟨d, h1, List.mem_cons_of_mem _ h2⟩
theorem alike_loop {n : Nat} {ds : List D} (hg : ∀ d ∈ ds, Good n d) (a3 : Option Bd) : ∀ (m j : Nat), j + m = ds.length → ∀ Q : QE, Q (.lst []) 1 [some ⟨.lst ds, 0, false⟩, some ⟨.lst ds, 0, false⟩, none, a3] →
    lcD (.nm 2) (q__law_alike_1 (SA (n + 1))) (eVar 2) [2] (nD (List.range' j m)) [] [some ⟨.lst ds, 0, false⟩, some ⟨.lst ds, 0, false⟩, none, a3] Q
  | 0, j, _, Q, k => k
  | m + 1, j, hj, Q, k => by
    have hjl : j < ds.length := by omega
    have gx : getI ds (j : Int) = some ds[j] := getI_nat (List.getElem?_eq_getElem hjl)
    rw [show nD (List.range' j (m + 1)) = .int (j : Int) :: nD (List.range' (j + 1) m) by rw [List.range'_succ]; rfl]
    refine someD_mk gx ?_
    refine someD_mk gx ?_
    refine mk_alike (hg _ (List.getElem_mem hjl)) ?_
    exact alike_loop hg a3 m (j + 1) (by omega) Q k
theorem alikeK_loop {n : Nat} {kvs : List (Key × D)} (hg : ∀ kv ∈ kvs, (∃ i, kv.1 = .inl i) ∧ Good n kv.2) (a2 : Option Bd) : ∀ (l : List (Key × D)), (∀ kv ∈ l, kv ∈ kvs) → ∀ Q : QE, Q (.lst []) 1 [some ⟨.dK kvs, 0, false⟩, some ⟨.dK kvs, 0, false⟩, a2, none] →
    lcD (.nm 3) (q__law_alike_2 (SA (n + 1))) (eVar 3) [3] (l.map fun kv => kD kv.1) [] [some ⟨.dK kvs, 0, false⟩, some ⟨.dK kvs, 0, false⟩, a2, none] Q
  | [], _, Q, k => k
  | (key, x) :: l, hm, Q, k => by
    have hk := hm _ List.mem_cons_self
    obtain ⟨⟨i, e⟩, _⟩ := hg _ hk
    obtain ⟨d, h1, h2⟩ := look_some hk
    have hd := (hg _ h2).2
    have e : key = .inl i := e
    subst e
    refine someD_mk h1 ?_
    refine someD_mk h1 ?_
    refine mk_alike hd ?_
    exact alikeK_loop hg a2 l (fun kv z => hm kv (List.mem_cons_of_mem _ z)) Q k
theorem keys_flat {kvs : List (Key × D)} (h : ∀ kv ∈ kvs, ∃ i, kv.1 = .inl i) : Flat 1 (.lst (keysL kvs)) := fun d hd => by
  obtain ⟨kv, hk, rfl⟩ := List.mem_map.mp hd
  obtain ⟨i, e⟩ := h kv hk
  rw [e]
  exact trivial
theorem neKeys {kvs : List (Key × D)} {Q : Qn} (h : ∀ kv ∈ kvs, ∃ i, kv.1 = .inl i) (k : Q (.bl false) 0) : odList [.dK kvs] (fun x _ => odList [.dK kvs] fun y _ => odNe x y Q) := by
  show odNe (.lst (keysL kvs)) (.lst (keysL kvs)) Q
  exact neSelf (keys_flat h) (by decide) k
theorem p_alike (n : Nat) (ds : List D) (post : DPost) (h : SA (n + 1) ds post) (_ : ds.length = ms__law_alike.length) : t__law_alike (SA n) (env0 ms__law_alike ds N__law_alike.length) (endsOf ms__law_alike post) := by
  obtain ⟨d, rfl, hg, k⟩ := h
  cases d with
  | int i =>
    refine And.intro rfl ?_
    show post.rt (.bl (decide (i = i))) 0 []
    rw [decide_eq_true rfl]
    exact k
  | non =>
    refine And.intro rfl ?_
    exact k
  | lst ds =>
    cases n with
    | zero => exact hg.elim
    | succ n =>
      refine brB_not (brB_t (decide_eq_true rfl) ?_)
      refine And.intro (show -(2 ^ 62) ≤ (ds.length : Int) ∧ (ds.length : Int) < 2 ^ 62 by have := hg.1; omega) ?_
      rw [show rngD 0 ((ds.length : Int)).toNat = nD (List.range' 0 ds.length) by rw [show ((ds.length : Int)).toNat = ds.length by omega, rngD_nD]]
      refine alike_loop hg.2 none ds.length 0 (by omega) _ ?_
      refine eqNil (n := 1) (fun d hd => nomatch hd) (by decide) ?_
      exact k
  | dK kvs =>
    cases n with
    | zero => exact hg.elim
    | succ n =>
      have last : brB false (post.rt (.bl false) 0 []) (lcD (.nm 3) (q__law_alike_2 (SA (n + 1))) (eVar 3) [3] (kvs.map fun kv => kD kv.1) [] [some ⟨.dK kvs, 0, false⟩, some ⟨.dK kvs, 0, false⟩, none, none] fun d _ _ => odEq d (.lst []) fun z n => post.rt z n []) := by
        refine alikeK_loop hg.2 none kvs (fun kv z => z) _ ?_
        exact eqNil (n := 1) (fun d hd => nomatch hd) (by decide) k
      have fl := keys_flat (kvs := kvs) fun kv z => (hg.2 kv z).1
      have sh := shaped_flat fl (by decide)
      have ev : PyData.eqv (D.lst (keysL kvs)).py (D.lst (keysL kvs)).py = true := SeqAt.eqv_refl _ (flat_py 1 _ fl).1
      have fin : brB (!PyData.eqv (D.lst (keysL kvs)).py (D.lst (keysL kvs)).py) (post.rt (.bl false) 0 []) (lcD (.nm 3) (q__law_alike_2 (SA (n + 1))) (eVar 3) [3] (kvs.map fun kv => kD kv.1) [] [some ⟨.dK kvs, 0, false⟩, some ⟨.dK kvs, 0, false⟩, none, none] fun d _ _ => odEq d (.lst []) fun z n => post.rt z n []) := by
        rw [ev]
        exact last
      exact And.intro sh (And.intro sh fin)
  | _ => cases n <;> exact hg.elim
end K77
set_option Elab.async false
set_option linter.all false
set_option maxRecDepth 100000
set_option maxHeartbeats 2000000
/-! k77, the plain part: keeping as a walk from the newest; step by step is at once. -/
namespace K77
open PySem L2 PySem.Spec PyProof.Rows DL
abbrev MS := Option Int × Nat
def kpt (T : Int) (e : Ent) (s : MS) : Rl → Bool
  | .last k => decide ((s.2 : Int) < k)
  | .each p k => decide (s.1 ≠ some (e.t / p)) && decide ((s.2 : Int) < k)
  | .tag x => decide (x ∈ e.tags)
  | .within w => decide (T - w ≤ e.t)
  | .number k => decide (e.n = k)
def nxt (e : Ent) (s : MS) : Rl → MS
  | .last _ => (s.1, s.2 + 1)
  | .each p k => (some (e.t / p), if s.1 ≠ some (e.t / p) ∧ (s.2 : Int) < k then s.2 + 1 else s.2)
  | .tag _ => s
  | .within _ => s
  | .number _ => s
def kAny (T : Int) (e : Ent) : List Rl → List MS → Bool
  | r :: rs, s :: ss => kpt T e s r || kAny T e rs ss
  | _, _ => false
def nAll (e : Ent) : List Rl → List MS → List MS
  | r :: rs, s :: ss => nxt e s r :: nAll e rs ss
  | _, _ => []
def run (rs : List Rl) (T : Int) : List MS → List Ent → List Ent
  | _, [] => []
  | ss, e :: R => if kAny T e rs ss = true then e :: run rs T (nAll e rs ss) R else run rs T (nAll e rs ss) R
theorem run_cons {rs : List Rl} {T : Int} {ss : List MS} {e : Ent} {R : List Ent} : run rs T ss (e :: R) = if kAny T e rs ss = true then e :: run rs T (nAll e rs ss) R else run rs T (nAll e rs ss) R := rfl
def ss0 (rs : List Rl) : List MS := rs.map fun _ => (none, 0)
def keepR (rs : List Rl) : List Ent → List Ent
  | [] => []
  | e :: R => e :: run rs e.t (nAll e rs (ss0 rs)) R
/-! ### one rule: the walk over all (a), the walk over all behind a newer one (b), the walk over what is left behind it (c) -/
def Rel1 (a b c : MS) : Rl → Prop
  | .last k => a.2 ≤ b.2 ∧ (c = b ∨ (k ≤ b.2 ∧ k ≤ c.2))
  | .each _ k => a.2 ≤ b.2 ∧ a.1 = b.1 ∧ (c = b ∨ (k ≤ b.2 ∧ k ≤ c.2))
  | _ => True
def RelA : List Rl → List MS → List MS → List MS → Prop
  | [], _, _, _ => True
  | r :: rs, a :: as, b :: bs, c :: cs => Rel1 a b c r ∧ RelA rs as bs cs
  | _ :: _, _, _, _ => False
theorem agree1 {r : Rl} {a b c : MS} {T : Int} {e : Ent} (h : Rel1 a b c r) : kpt T e c r = kpt T e b r := by
  cases r with
  | last k =>
    rcases h.2 with h | ⟨h1, h2⟩
    · rw [h]
    · show decide _ = decide _
      rw [decide_eq_false (by omega), decide_eq_false (by omega)]
  | each p k =>
    rcases h.2.2 with h | ⟨h1, h2⟩
    · rw [h]
    · show (_ && decide _) = (_ && decide _)
      rw [decide_eq_false (p := ((c.2 : Int) < k)) (by omega), decide_eq_false (p := ((b.2 : Int) < k)) (by omega), Bool.and_false, Bool.and_false]
  | _ => rfl
theorem mono1 {r : Rl} {a b c : MS} {T T' : Int} {e : Ent} (hT : T ≤ T') (h : Rel1 a b c r) (k : kpt T' e b r = true) : kpt T e a r = true := by
  cases r with
  | last k' =>
    have k : decide ((b.2 : Int) < k') = true := k
    have := of_decide_eq_true k
    have := h.1
    exact decide_eq_true (by omega)
  | each p k' =>
    have k : (decide (b.1 ≠ some (e.t / p)) && decide ((b.2 : Int) < k')) = true := k
    obtain ⟨k1, k2⟩ := Bool.and_eq_true_iff.mp k
    have := of_decide_eq_true k2
    have := h.1
    show (decide (a.1 ≠ some (e.t / p)) && decide ((a.2 : Int) < k')) = true
    rw [h.2.1, k1, decide_eq_true (by omega)]
    rfl
  | tag x => exact k
  | within w =>
    have := of_decide_eq_true (show decide (T' - w ≤ e.t) = true from k)
    exact decide_eq_true (show T - w ≤ e.t by omega)
  | number k' => exact k
theorem step1 {r : Rl} {a b c : MS} {e : Ent} (h : Rel1 a b c r) : Rel1 (nxt e a r) (nxt e b r) (nxt e c r) r := by
  cases r with
  | last k =>
    obtain ⟨h1, h2⟩ := h
    refine ⟨Nat.succ_le_succ h1, ?_⟩
    rcases h2 with h2 | ⟨h2, h3⟩
    · rw [h2]; exact .inl rfl
    · exact .inr ⟨by show k ≤ ((b.2 + 1 : Nat) : Int); omega, by show k ≤ ((c.2 + 1 : Nat) : Int); omega⟩
  | each p k =>
    obtain ⟨h1, h2, h3⟩ := h
    have up : ∀ s : MS, s.2 ≤ (nxt e s (.each p k)).2 := fun s => by
      show s.2 ≤ (if s.1 ≠ some (e.t / p) ∧ (s.2 : Int) < k then s.2 + 1 else s.2)
      split
      · exact Nat.le_succ _
      · exact Nat.le_refl _
    refine ⟨?_, rfl, ?_⟩
    · show (if a.1 ≠ some (e.t / p) ∧ (a.2 : Int) < k then a.2 + 1 else a.2) ≤ if b.1 ≠ some (e.t / p) ∧ (b.2 : Int) < k then b.2 + 1 else b.2
      rw [h2]
      by_cases f : b.1 ≠ some (e.t / p)
      · by_cases g : (a.2 : Int) < k
        · rw [if_pos ⟨f, g⟩]
          split
          · omega
          · rename_i q
            have : ¬ (b.2 : Int) < k := fun z => q ⟨f, z⟩
            omega
        · rw [if_neg (fun z => g z.2)]
          split <;> omega
      · rw [if_neg (fun z => f z.1), if_neg (fun z => f z.1)]
        exact h1
    · rcases h3 with h3 | ⟨h3, h4⟩
      · rw [h3]; exact .inl rfl
      · have := up b
        have := up c
        exact .inr ⟨by omega, by omega⟩
  | _ => trivial
theorem skip1 {r : Rl} {a b c : MS} {T : Int} {e : Ent} (h : Rel1 a b c r) (k : kpt T e a r = false) : Rel1 (nxt e a r) (nxt e b r) c r := by
  cases r with
  | last k' =>
    have k : decide ((a.2 : Int) < k') = false := k
    have := of_decide_eq_false k
    obtain ⟨h1, h2⟩ := h
    refine ⟨Nat.succ_le_succ h1, .inr ⟨by show k' ≤ ((b.2 + 1 : Nat) : Int); omega, ?_⟩⟩
    rcases h2 with h2 | ⟨_, h3⟩
    · rw [h2]; omega
    · exact h3
  | each p k' =>
    have k : (decide (a.1 ≠ some (e.t / p)) && decide ((a.2 : Int) < k')) = false := k
    have st := step1 (e := e) h
    obtain ⟨h1, h2, h3⟩ := h
    by_cases f : a.1 = some (e.t / p)
    · have ea : nxt e a (.each p k') = a := by
        show (some (e.t / p), if a.1 ≠ some (e.t / p) ∧ (a.2 : Int) < k' then a.2 + 1 else a.2) = a
        rw [if_neg (fun z => z.1 f), ← f]
      have eb : nxt e b (.each p k') = b := by
        show (some (e.t / p), if b.1 ≠ some (e.t / p) ∧ (b.2 : Int) < k' then b.2 + 1 else b.2) = b
        rw [if_neg (fun z => z.1 (h2 ▸ f)), ← f, h2]
      rw [ea, eb]
      exact ⟨h1, h2, h3⟩
    · rw [decide_eq_true f, Bool.true_and] at k
      have := of_decide_eq_false k
      refine ⟨st.1, st.2.1, .inr ⟨?_, ?_⟩⟩
      · show k' ≤ (((if b.1 ≠ some (e.t / p) ∧ (b.2 : Int) < k' then b.2 + 1 else b.2 : Nat)) : Int)
        split <;> omega
      · rcases h3 with h3 | ⟨_, h3⟩
        · rw [h3]; omega
        · exact h3
  | _ => trivial
/-! ### all rules -/
theorem agreeA {T : Int} {e : Ent} : ∀ {rs : List Rl} {as bs cs : List MS}, RelA rs as bs cs → kAny T e rs cs = kAny T e rs bs
  | [], _, _, _, _ => by unfold kAny; rfl
  | r :: rs, a :: as, b :: bs, c :: cs, h => by
    show (kpt T e c r || kAny T e rs cs) = (kpt T e b r || kAny T e rs bs)
    rw [agree1 h.1, agreeA h.2]
  | _ :: _, [], _, _, h => h.elim
  | _ :: _, _ :: _, [], _, h => h.elim
  | _ :: _, _ :: _, _ :: _, [], h => h.elim
theorem monoA {T T' : Int} {e : Ent} (hT : T ≤ T') : ∀ {rs : List Rl} {as bs cs : List MS}, RelA rs as bs cs → kAny T' e rs bs = true → kAny T e rs as = true
  | [], _, _, _, _, k => by unfold kAny at k; cases k
  | r :: rs, a :: as, b :: bs, c :: cs, h, k => by
    have k : (kpt T' e b r || kAny T' e rs bs) = true := k
    show (kpt T e a r || kAny T e rs as) = true
    rcases Bool.or_eq_true_iff.mp k with k | k
    · rw [mono1 hT h.1 k]; rfl
    · rw [monoA hT h.2 k, Bool.or_true]
  | _ :: _, [], _, _, h, _ => h.elim
  | _ :: _, _ :: _, [], _, h, _ => h.elim
  | _ :: _, _ :: _, _ :: _, [], h, _ => h.elim
theorem stepA {e : Ent} : ∀ {rs : List Rl} {as bs cs : List MS}, RelA rs as bs cs → RelA rs (nAll e rs as) (nAll e rs bs) (nAll e rs cs)
  | [], _, _, _, _ => trivial
  | r :: rs, a :: as, b :: bs, c :: cs, h => ⟨step1 h.1, stepA h.2⟩
  | _ :: _, [], _, _, h => h.elim
  | _ :: _, _ :: _, [], _, h => h.elim
  | _ :: _, _ :: _, _ :: _, [], h => h.elim
theorem skipA {T : Int} {e : Ent} : ∀ {rs : List Rl} {as bs cs : List MS}, RelA rs as bs cs → kAny T e rs as = false → RelA rs (nAll e rs as) (nAll e rs bs) cs
  | [], _, _, _, _, _ => trivial
  | r :: rs, a :: as, b :: bs, c :: cs, h, k => by
    have k : (kpt T e a r || kAny T e rs as) = false := k
    obtain ⟨k1, k2⟩ := Bool.or_eq_false_iff.mp k
    exact ⟨skip1 h.1 k1, skipA h.2 k2⟩
  | _ :: _, [], _, _, h, _ => h.elim
  | _ :: _, _ :: _, [], _, h, _ => h.elim
  | _ :: _, _ :: _, _ :: _, [], h, _ => h.elim
theorem sim {rs : List Rl} {T T' : Int} (hT : T ≤ T') : ∀ {R : List Ent} {as bs cs : List MS}, RelA rs as bs cs → run rs T' cs (run rs T as R) = run rs T' bs R ∧ (run rs T' bs R).Sublist (run rs T as R)
  | [], _, _, _, _ => ⟨rfl, List.Sublist.slnil⟩
  | e :: R, as, bs, cs, h => by
    rw [run_cons (ss := as), run_cons (ss := bs)]
    by_cases ka : kAny T e rs as = true
    · obtain ⟨i1, i2⟩ := sim hT (R := R) (stepA (e := e) h)
      rw [if_pos ka, run_cons, agreeA h, i1]
      refine ⟨rfl, ?_⟩
      split
      · exact i2.cons₂ _
      · exact i2.cons _
    · have ka' : kAny T e rs as = false := by simpa using ka
      obtain ⟨i1, i2⟩ := sim hT (R := R) (skipA h ka')
      have kb : ¬ kAny T' e rs bs = true := fun z => ka (monoA hT h z)
      rw [if_neg ka, if_neg kb]
      exact ⟨i1, i2⟩
theorem relS : ∀ {rs : List Rl} {as : List MS}, as.length = rs.length → RelA rs as as as
  | [], _, _ => trivial
  | r :: rs, a :: as, h => ⟨by cases r <;> first | exact ⟨Nat.le_refl _, .inl rfl⟩ | exact ⟨Nat.le_refl _, rfl, .inl rfl⟩ | trivial, relS (by simpa using h)⟩
  | _ :: _, [], h => by simp at h
theorem nAll_len {e : Ent} : ∀ {rs : List Rl} {as : List MS}, as.length = rs.length → (nAll e rs as).length = rs.length
  | [], _, _ => rfl
  | r :: rs, a :: as, h => by
    show (nxt e a r :: nAll e rs as).length = _
    rw [List.length_cons, nAll_len (by simpa using h), List.length_cons]
  | _ :: _, [], h => by simp at h
theorem ss0_len {rs : List Rl} : (ss0 rs).length = rs.length := List.length_map ..
/-- twice is once -/
theorem keep_twice (rs : List Rl) : ∀ R : List Ent, keepR rs (keepR rs R) = keepR rs R
  | [] => rfl
  | e :: R => by
    show e :: run rs e.t _ (run rs e.t _ R) = e :: run rs e.t _ R
    rw [(sim (Int.le_refl _) (relS (nAll_len ss0_len))).1]
theorem rel0 {e x : Ent} : ∀ {rs : List Rl}, RelA rs (nAll x rs (ss0 rs)) (nAll x rs (nAll e rs (ss0 rs))) (nAll x rs (nAll e rs (ss0 rs)))
  | [] => trivial
  | r :: rs => by
    refine ⟨?_, rel0 (rs := rs)⟩
    cases r with
    | last k => exact ⟨by show 0 + 1 ≤ 0 + 1 + 1; omega, .inl rfl⟩
    | each p k =>
      refine ⟨?_, rfl, .inl rfl⟩
      show (if (none : Option Int) ≠ some (x.t / p) ∧ ((0 : Nat) : Int) < k then 0 + 1 else 0) ≤ if some (e.t / p) ≠ some (x.t / p) ∧ (((if (none : Option Int) ≠ some (e.t / p) ∧ ((0 : Nat) : Int) < k then 0 + 1 else 0 : Nat)) : Int) < k then (if (none : Option Int) ≠ some (e.t / p) ∧ ((0 : Nat) : Int) < k then 0 + 1 else 0) + 1 else (if (none : Option Int) ≠ some (e.t / p) ∧ ((0 : Nat) : Int) < k then 0 + 1 else 0)
      have gen : ∀ (c0 c1 c2 : Prop) [Decidable c0] [Decidable c1] [Decidable c2], (c0 ↔ c1) → (if c0 then 0 + 1 else 0) ≤ (if c2 then (if c1 then 0 + 1 else 0) + 1 else (if c1 then 0 + 1 else 0)) := by
        intro c0 c1 c2 _ _ _ h
        by_cases h0 : c0
        · rw [if_pos h0, if_pos (h.mp h0)]
          split <;> decide
        · rw [if_neg h0]
          exact Nat.zero_le _
      exact gen _ _ _ ⟨fun z => ⟨(fun w => nomatch w), z.2⟩, fun z => ⟨(fun w => nomatch w), z.2⟩⟩
    | _ => trivial
/-- behind a newer one: of what is left -/
theorem keep_step (rs : List Rl) (e : Ent) : ∀ R : List Ent, (∀ x ∈ R, x.t ≤ e.t) → keepR rs (e :: keepR rs R) = keepR rs (e :: R) ∧ ∃ S, keepR rs (e :: R) = e :: S ∧ S.Sublist (keepR rs R)
  | [], _ => ⟨rfl, [], rfl, List.Sublist.slnil⟩
  | x :: R, h => by
    have hx := h x List.mem_cons_self
    have s := sim (rs := rs) hx (R := R) (rel0 (e := e) (x := x))
    constructor
    · show e :: run rs e.t (nAll e rs (ss0 rs)) (x :: run rs x.t (nAll x rs (ss0 rs)) R) = e :: run rs e.t (nAll e rs (ss0 rs)) (x :: R)
      rw [run_cons, run_cons, s.1]
    · refine ⟨_, rfl, ?_⟩
      rw [run_cons]
      show List.Sublist _ (x :: run rs x.t (nAll x rs (ss0 rs)) R)
      split
      · exact s.2.cons₂ _
      · exact s.2.cons _
theorem keep_sub (rs : List Rl) : ∀ R : List Ent, (keepR rs R).Sublist R
  | [] => List.Sublist.slnil
  | e :: R => by
    have : ∀ (R : List Ent) (ss : List MS), (run rs e.t ss R).Sublist R := by
      intro R
      induction R with
      | nil => intro ss; exact List.Sublist.slnil
      | cons x R ih =>
        intro ss
        rw [run_cons]
        split
        · exact (ih _).cons₂ _
        · exact (ih _).cons _
    exact (this R _).cons₂ _
/-! ### in the order of the numbers -/
def keepF (rs : List Rl) (es : List Ent) : List Ent := (keepR rs es.reverse).reverse
theorem keepF_sub (rs : List Rl) (es : List Ent) : (keepF rs es).Sublist es := by
  have := (keep_sub rs es.reverse).reverse
  rw [List.reverse_reverse] at this
  exact this
theorem keepF_twice (rs : List Rl) (es : List Ent) : keepF rs (keepF rs es) = keepF rs es := by
  unfold keepF
  rw [List.reverse_reverse, keep_twice]
theorem keepF_step {rs : List Rl} {es : List Ent} {e : Ent} (h : ∀ x ∈ es, x.t ≤ e.t) : keepF rs (keepF rs es ++ [e]) = keepF rs (es ++ [e]) ∧ ∃ S, keepF rs (es ++ [e]) = S ++ [e] ∧ S.Sublist (keepF rs es) := by
  obtain ⟨s1, S, s2, s3⟩ := keep_step rs e es.reverse (fun x hx => h x (List.mem_reverse.mp hx))
  constructor
  · unfold keepF
    rw [List.reverse_append, List.reverse_reverse, List.reverse_append]
    exact congrArg List.reverse s1
  · refine ⟨S.reverse, ?_, ?_⟩
    · unfold keepF
      rw [List.reverse_append]
      show (keepR rs (e :: es.reverse)).reverse = _
      rw [s2, List.reverse_cons]
    · exact s3.reverse
/-! ### the walk told by places -/
def stj (es : List Ent) : Nat → Rl → MS
  | 0, _ => (none, 0)
  | j + 1, r => nxt (es.getD (es.length - 1 - j) e0) (stj es j r) r
theorem stj_last (es : List Ent) (k : Int) : ∀ j, (stj es j (.last k)).2 = j
  | 0 => rfl
  | j + 1 => by
    show (stj es j (.last k)).2 + 1 = j + 1
    rw [stj_last es k j]
theorem frs_take {n : Nat} {f : Nat → Int} {k j : Nat} : ((frs n f (j + 1)).take k).length = if (j = 0 ∨ f (n - 1 - j) ≠ f (n - j)) ∧ ((frs n f j).take k).length < k then ((frs n f j).take k).length + 1 else ((frs n f j).take k).length := by
  show ((if j = 0 ∨ f (n - 1 - j) ≠ f (n - j) then frs n f j ++ [n - 1 - j] else frs n f j).take k).length = _
  by_cases c : j = 0 ∨ f (n - 1 - j) ≠ f (n - j)
  · rw [if_pos c]
    simp only [List.length_take, List.length_append, List.length_singleton]
    split <;> omega
  · rw [if_neg c, if_neg (fun z => c z.1)]
theorem stj_each (es : List Ent) (p k : Int) (hk : 0 ≤ k) : ∀ j, j ≤ es.length → stj es j (.each p k) = (if j = 0 then none else some (perOf es p (es.length - j)), ((frs es.length (perOf es p) j).take k.toNat).length)
  | 0, _ => by simp [stj, frs]
  | j + 1, hj => by
    show nxt (es.getD (es.length - 1 - j) e0) (stj es j (.each p k)) (.each p k) = _
    rw [stj_each es p k hk j (by omega), frs_take, if_neg (Nat.succ_ne_zero j)]
    show (some ((es.getD (es.length - 1 - j) e0).t / p), _) = _
    have e1 : (es.getD (es.length - 1 - j) e0).t / p = perOf es p (es.length - (j + 1)) := by
      rw [show es.length - (j + 1) = es.length - 1 - j by omega]
      rfl
    have e2 : perOf es p (es.length - 1 - j) = perOf es p (es.length - (j + 1)) := by rw [show es.length - (j + 1) = es.length - 1 - j by omega]
    rw [e1, e2]
    refine congrArg (fun z => (some (perOf es p (es.length - (j + 1))), z)) ?_
    show (if (if j = 0 then none else some (perOf es p (es.length - j))) ≠ some (perOf es p (es.length - (j + 1))) ∧ ((((frs es.length (perOf es p) j).take k.toNat).length : Nat) : Int) < k then _ else _) = _
    have c1 : ((if j = 0 then none else some (perOf es p (es.length - j))) ≠ some (perOf es p (es.length - (j + 1)))) ↔ (j = 0 ∨ perOf es p (es.length - (j + 1)) ≠ perOf es p (es.length - j)) := by
      by_cases z : j = 0
      · rw [if_pos z]
        exact ⟨fun _ => .inl z, fun _ q => nomatch q⟩
      · rw [if_neg z]
        exact ⟨fun q => .inr fun w => q (by rw [w]), fun q w => by
          rcases q with q | q
          · exact z q
          · exact q (Option.some.inj w).symm⟩
    have c2 : ((((frs es.length (perOf es p) j).take k.toNat).length : Nat) : Int) < k ↔ ((frs es.length (perOf es p) j).take k.toNat).length < k.toNat := by omega
    simp only [c1, c2]
theorem frs_more {n : Nat} {f : Nat → Int} {j : Nat} (hj : j ≤ n) : ∀ m, j + m ≤ n → ∃ t, frs n f (j + m) = frs n f j ++ t ∧ ∀ q ∈ t, q < n - j
  | 0, _ => ⟨[], by simp, fun q h => nomatch h⟩
  | m + 1, h => by
    obtain ⟨t, h1, h2⟩ := frs_more hj m (by omega)
    show ∃ t, (if j + m = 0 ∨ f (n - 1 - (j + m)) ≠ f (n - (j + m)) then frs n f (j + m) ++ [n - 1 - (j + m)] else frs n f (j + m)) = frs n f j ++ t ∧ ∀ q ∈ t, q < n - j
    split
    · refine ⟨t ++ [n - 1 - (j + m)], by rw [h1, List.append_assoc], fun q hq => ?_⟩
      rcases List.mem_append.mp hq with z | z
      · exact h2 q z
      · have := List.mem_singleton.mp z; omega
    · exact ⟨t, h1, h2⟩
theorem newest_mem {es : List Ent} {p k : Int} {j : Nat} (hj : j < es.length) : es.length - 1 - j ∈ newest es p k ↔ (j = 0 ∨ perOf es p (es.length - 1 - j) ≠ perOf es p (es.length - j)) ∧ (frs es.length (perOf es p) j).length < k.toNat := by
  obtain ⟨t, h1, h2⟩ := frs_more (n := es.length) (f := perOf es p) (j := j + 1) (by omega) (es.length - (j + 1)) (by omega)
  rw [show j + 1 + (es.length - (j + 1)) = es.length by omega] at h1
  have old : ∀ q ∈ frs es.length (perOf es p) j, es.length - j ≤ q := fun q hq => (frs_mem (by omega) hq).1
  unfold newest
  by_cases c : j = 0 ∨ perOf es p (es.length - 1 - j) ≠ perOf es p (es.length - j)
  · have e : frs es.length (perOf es p) (j + 1) = frs es.length (perOf es p) j ++ [es.length - 1 - j] := by
      show (if j = 0 ∨ perOf es p (es.length - 1 - j) ≠ perOf es p (es.length - j) then _ else _) = _
      rw [if_pos c]
    rw [h1, e, List.append_assoc]
    constructor
    · intro hm
      refine ⟨c, ?_⟩
      refine Classical.byContradiction fun z => ?_
      rw [List.take_append_of_le_length (by omega)] at hm
      have := old _ (List.mem_of_mem_take hm)
      omega
    · rintro ⟨_, hl⟩
      have e3 : (frs es.length (perOf es p) j ++ ([es.length - 1 - j] ++ t)).take k.toNat = frs es.length (perOf es p) j ++ (([es.length - 1 - j] ++ t).take (k.toNat - (frs es.length (perOf es p) j).length)) := by
        rw [List.take_append, List.take_of_length_le (by omega)]
      rw [e3, List.mem_append]
      right
      obtain ⟨m, hm⟩ : ∃ m, k.toNat - (frs es.length (perOf es p) j).length = m + 1 := ⟨k.toNat - (frs es.length (perOf es p) j).length - 1, by omega⟩
      rw [hm]
      exact List.mem_cons_self
  · have e : frs es.length (perOf es p) (j + 1) = frs es.length (perOf es p) j := by
      show (if j = 0 ∨ perOf es p (es.length - 1 - j) ≠ perOf es p (es.length - j) then _ else _) = _
      rw [if_neg c]
    constructor
    · intro hm
      have hm := List.mem_of_mem_take hm
      rw [h1, e] at hm
      rcases List.mem_append.mp hm with z | z
      · have := old _ z; omega
      · have := h2 _ z; omega
    · intro z
      exact absurd z.1 c
theorem kpt_keepB {es : List Ent} {r : Rl} {j : Nat} (hj : j < es.length) (hr : RlOk r) : kpt (es.getD (es.length - 1) e0).t (es.getD (es.length - 1 - j) e0) (stj es j r) r = keepB es (es.length - 1 - j) r := by
  cases r with
  | last k =>
    show decide (((stj es j (.last k)).2 : Int) < k) = decide ((es.length : Int) - k ≤ ((es.length - 1 - j : Nat) : Int))
    rw [stj_last]
    exact decide_eq_decide.mpr (by omega)
  | each p k =>
    have hk : 1 ≤ k := hr.2.2.1
    show (decide ((stj es j (.each p k)).1 ≠ some ((es.getD (es.length - 1 - j) e0).t / p)) && decide (((stj es j (.each p k)).2 : Int) < k)) = decide (es.length - 1 - j ∈ newest es p k)
    rw [stj_each es p k (by omega) j (by omega), ← Bool.decide_and]
    refine decide_eq_decide.mpr ?_
    rw [newest_mem hj]
    have e1 : (es.getD (es.length - 1 - j) e0).t / p = perOf es p (es.length - 1 - j) := rfl
    rw [e1]
    constructor
    · rintro ⟨h1, h2⟩
      refine ⟨?_, ?_⟩
      · by_cases z : j = 0
        · exact .inl z
        · refine .inr fun w => h1 ?_
          show (if j = 0 then none else some (perOf es p (es.length - j))) = _
          rw [if_neg z, w]
      · have h2 : ((((frs es.length (perOf es p) j).take k.toNat).length : Nat) : Int) < k := h2
        rw [List.length_take] at h2
        omega
    · rintro ⟨h1, h2⟩
      refine ⟨fun w => ?_, ?_⟩
      · have w : (if j = 0 then none else some (perOf es p (es.length - j))) = some (perOf es p (es.length - 1 - j)) := w
        by_cases z : j = 0
        · rw [if_pos z] at w; cases w
        · rw [if_neg z] at w
          rcases h1 with h1 | h1
          · exact z h1
          · exact h1 (Option.some.inj w).symm
      · show ((((frs es.length (perOf es p) j).take k.toNat).length : Nat) : Int) < k
        rw [List.length_take]
        omega
  | tag s => rfl
  | within k => rfl
  | number k => rfl
theorem kAny_map {T : Int} {e : Ent} (f : Rl → MS) : ∀ rs : List Rl, kAny T e rs (rs.map f) = rs.any fun r => kpt T e (f r) r
  | [] => rfl
  | r :: rs => by
    show (kpt T e (f r) r || kAny T e rs (rs.map f)) = _
    rw [kAny_map f rs]
    rfl
theorem nAll_map {e : Ent} (f : Rl → MS) : ∀ rs : List Rl, nAll e rs (rs.map f) = rs.map fun r => nxt e (f r) r
  | [] => rfl
  | r :: rs => by
    show nxt e (f r) r :: nAll e rs (rs.map f) = _
    rw [nAll_map f rs]
    rfl
theorem why_any {es : List Ent} {rs : List Rl} {q : Nat} : (!(whyN es rs rs.length q).isEmpty) = rs.any (keepB es q) := by
  have h : (whyN es rs rs.length q = []) ↔ ¬ rs.any (keepB es q) = true := by
    unfold whyN
    rw [List.filter_eq_nil_iff, List.any_eq_true]
    constructor
    · rintro h ⟨r, hr, hk⟩
      obtain ⟨i, hi, rfl⟩ := List.getElem_of_mem hr
      refine h i (by rw [List.mem_range'_1]; omega) ?_
      rw [show rs.getD i (.last 0) = rs[i] by simp [hi]]
      exact hk
    · intro h i hi hk
      rw [List.mem_range'_1] at hi
      have hi : i < rs.length := by omega
      exact h ⟨rs[i], List.getElem_mem hi, by rw [show rs.getD i (.last 0) = rs[i] by simp [hi]] at hk; exact hk⟩
  cases e : rs.any (keepB es q) with
  | true =>
    cases w : whyN es rs rs.length q with
    | nil => exact absurd e (h.mp w)
    | cons a l => rfl
  | false => rw [h.mpr (by rw [e]; exact Bool.false_ne_true)]; rfl
/-- the entries kept, by places -/
def keepL (es : List Ent) (rs : List Rl) : List Ent := ((List.range' 0 es.length).filter (tells es rs)).map fun q => es.getD q e0
theorem run_places {es : List Ent} {rs : List Rl} (hr : ∀ r ∈ rs, RlOk r) : ∀ m j, 0 < j → j + m = es.length →
    run rs (es.getD (es.length - 1) e0).t (rs.map (stj es j)) ((List.range' j m).map fun i => es.getD (es.length - 1 - i) e0) = ((List.range' j m).filter fun i => tells es rs (es.length - 1 - i)).map fun i => es.getD (es.length - 1 - i) e0
  | 0, _, _, _ => rfl
  | m + 1, j, hj, h => by
    rw [List.range'_succ, List.map_cons, run_cons]
    have ih := run_places (es := es) hr m (j + 1) (by omega) (by omega)
    have en : nAll (es.getD (es.length - 1 - j) e0) rs (rs.map (stj es j)) = rs.map (stj es (j + 1)) := nAll_map (stj es j) rs
    have ek : kAny (es.getD (es.length - 1) e0).t (es.getD (es.length - 1 - j) e0) rs (rs.map (stj es j)) = tells es rs (es.length - 1 - j) := by
      rw [kAny_map]
      unfold tells
      rw [decide_eq_false (p := (((es.length - 1 - j : Nat) : Int) = (es.length : Int) - 1)) (by omega), Bool.or_false, why_any]
      rw [Bool.eq_iff_iff, List.any_eq_true, List.any_eq_true]
      constructor
      · rintro ⟨r, h1, h2⟩
        exact ⟨r, h1, by rw [← kpt_keepB (by omega) (hr r h1)]; exact h2⟩
      · rintro ⟨r, h1, h2⟩
        exact ⟨r, h1, by rw [kpt_keepB (by omega) (hr r h1)]; exact h2⟩
    rw [en, ih, ek]
    by_cases c : tells es rs (es.length - 1 - j) = true
    · rw [if_pos c, List.filter_cons_of_pos (p := fun i => tells es rs (es.length - 1 - i)) c, List.map_cons]
    · rw [if_neg c, List.filter_cons_of_neg (p := fun i => tells es rs (es.length - 1 - i)) c]
theorem rev_places (es : List Ent) : es.reverse = (List.range' 0 es.length).map fun i => es.getD (es.length - 1 - i) e0 := by
  refine List.ext_getElem? fun i => ?_
  by_cases h : i < es.length
  · rw [List.getElem?_reverse h, List.getElem?_map, List.getElem?_range' h]
    simp [h]
    rw [List.getElem?_eq_getElem (by omega)]
    rfl
  · rw [List.getElem?_eq_none (by simp; omega), List.getElem?_eq_none (by simp; omega)]
theorem rev_range (n : Nat) : (List.range' 0 n).reverse = (List.range' 0 n).map fun i => n - 1 - i := by
  refine List.ext_getElem? fun i => ?_
  by_cases h : i < n
  · rw [List.getElem?_reverse (by simpa using h), List.getElem?_map, List.length_range', List.getElem?_range' h, List.getElem?_range' (by omega)]
    simp
  · rw [List.getElem?_eq_none (by simp; omega), List.getElem?_eq_none (by simp; omega)]
theorem keepL_F {es : List Ent} {rs : List Rl} (hr : ∀ r ∈ rs, RlOk r) : keepL es rs = keepF rs es := by
  have key : keepR rs es.reverse = ((List.range' 0 es.length).filter fun i => tells es rs (es.length - 1 - i)).map fun i => es.getD (es.length - 1 - i) e0 := by
    cases hn : es.length with
    | zero =>
      have : es = [] := List.length_eq_zero_iff.mp hn
      subst this
      rfl
    | succ n =>
      rw [rev_places, hn, List.range'_succ, List.map_cons]
      have t0 : tells es rs (n + 1 - 1 - 0) = true := by
        unfold tells
        rw [decide_eq_true (by omega), Bool.or_true]
      rw [List.filter_cons_of_pos (p := fun i => tells es rs (n + 1 - 1 - i)) t0, List.map_cons]
      have rp := run_places (es := es) hr n 1 (by decide) (by omega)
      have e1 : nAll (es.getD (n + 1 - 1 - 0) e0) rs (ss0 rs) = rs.map (stj es 1) := by
        unfold ss0
        rw [nAll_map]
        refine List.map_congr_left fun r _ => ?_
        show _ = nxt (es.getD (es.length - 1 - 0) e0) _ r
        rw [hn]
        rfl
      rw [hn] at rp
      show es.getD (n + 1 - 1 - 0) e0 :: run rs (es.getD (n + 1 - 1 - 0) e0).t (nAll (es.getD (n + 1 - 1 - 0) e0) rs (ss0 rs)) _ = _
      rw [e1]
      exact congrArg _ rp
  unfold keepF
  rw [key, ← List.map_reverse, ← List.filter_reverse, rev_range]
  unfold keepL
  rw [List.filter_map, List.map_map]
  have el : ∀ (l : List Nat), (∀ i ∈ l, i < es.length) → (l.filter (tells es rs)).map (fun q => es.getD q e0) = (l.filter ((fun i => tells es rs (es.length - 1 - i)) ∘ fun i => es.length - 1 - i)).map ((fun i => es.getD (es.length - 1 - i) e0) ∘ fun i => es.length - 1 - i) := by
    intro l hl
    induction l with
    | nil => rfl
    | cons i l ih =>
      have hi := hl i List.mem_cons_self
      have e : es.length - 1 - (es.length - 1 - i) = i := by omega
      have e2 : ((fun i => tells es rs (es.length - 1 - i)) ∘ fun i => es.length - 1 - i) i = tells es rs i := by
        show tells es rs (es.length - 1 - (es.length - 1 - i)) = _
        rw [e]
      have e3 : ((fun i => es.getD (es.length - 1 - i) e0) ∘ fun i => es.length - 1 - i) i = es.getD i e0 := by
        show es.getD (es.length - 1 - (es.length - 1 - i)) e0 = _
        rw [e]
      rw [List.filter_cons, List.filter_cons, e2]
      split
      · rw [List.map_cons, List.map_cons, e3, ih fun x hx => hl x (List.mem_cons_of_mem _ hx)]
      · exact ih fun x hx => hl x (List.mem_cons_of_mem _ hx)
  exact el _ fun i hi => by rw [List.mem_range'_1] at hi; omega
end K77
set_option Elab.async false
set_option linter.all false
set_option maxRecDepth 100000
set_option maxHeartbeats 2000000
/-! k77, part q: copies; left behind; step by step. -/
namespace K77
open PySem L2 PySem.Spec PyProof.Rows DL
def cp (e : Ent) : Ent := ⟨e.n, e.t, e.tags, false⟩
theorem sq_tuple {b : Bool} {ds : List D} {Q : Qn} (k : Q (.tup ds) 0) : odTuple [sq b ds] Q := by cases b <;> exact k
theorem cp_get (es : List Ent) (q : Nat) : ((es.map cp).getD q e0).n = (es.getD q e0).n ∧ ((es.map cp).getD q e0).t = (es.getD q e0).t ∧ ((es.map cp).getD q e0).tags = (es.getD q e0).tags := by
  by_cases h : q < es.length
  · have e1 : (es.map cp).getD q e0 = cp (es.getD q e0) := by simp [h]
    rw [e1]
    exact ⟨rfl, rfl, rfl⟩
  · have e1 : (es.map cp).getD q e0 = e0 := by simp [show es.length ≤ q by omega]
    have e2 : es.getD q e0 = e0 := by simp [show es.length ≤ q by omega]
    rw [e1, e2]
    exact ⟨rfl, rfl, rfl⟩
theorem cp_len (es : List Ent) : (es.map cp).length = es.length := List.length_map ..
theorem cp_per (es : List Ent) (p : Int) : perOf (es.map cp) p = perOf es p := funext fun q => by
  unfold perOf
  rw [(cp_get es q).2.1]
theorem cp_keep (es : List Ent) (q : Nat) (r : Rl) : keepB (es.map cp) q r = keepB es q r := by
  cases r with
  | last k => show decide _ = decide _; rw [cp_len]
  | each p k =>
    show decide (q ∈ newest (es.map cp) p k) = decide (q ∈ newest es p k)
    unfold newest
    rw [cp_len, cp_per]
  | tag s => show decide (s ∈ ((es.map cp).getD q e0).tags) = _; rw [(cp_get es q).2.2]; rfl
  | within k => show decide (((es.map cp).getD ((es.map cp).length - 1) e0).t - k ≤ ((es.map cp).getD q e0).t) = _; rw [cp_len, (cp_get es q).2.1, (cp_get es _).2.1]; rfl
  | number k => show decide (((es.map cp).getD q e0).n = k) = _; rw [(cp_get es q).1]; rfl
theorem cp_why (es : List Ent) (rs : List Rl) (k q : Nat) : whyN (es.map cp) rs k q = whyN es rs k q := by
  unfold whyN
  simp only [cp_keep]
theorem cp_due (es : List Ent) (rs : List Rl) : dueK (es.map cp) rs = dueK es rs := by
  have ht : tells (es.map cp) rs = tells es rs := funext fun q => by
    unfold tells
    rw [cp_why, cp_len]
  show dueL _ _ _ = dueL _ _ _
  unfold dueL
  rw [cp_len, ht]
  refine List.map_congr_left fun q _ => ?_
  rw [(cp_get es q).1]
  unfold whyD
  rw [cp_why]
theorem cp_ok {es : List Ent} (h : EsOk es) : EsOk (es.map cp) := by
  refine ⟨by rw [cp_len]; exact h.len, fun e he => ?_, ?_⟩
  · obtain ⟨e', h1, rfl⟩ := List.mem_map.mp he
    have := h.ok e' h1
    exact ⟨this.n0, this.n1, this.t0, this.t1, this.tl, this.tg⟩
  · rw [List.pairwise_map]
    exact h.asc
theorem good_keys {es : List Ent} {rs : List Rl} (hl : es.length ≤ 60) : Good 2 (.lst (keysL (dueK es rs))) := by
  refine ⟨by rw [List.length_map]; exact Nat.le_trans due_len (by omega), fun d hd => ?_⟩
  obtain ⟨kv, h1, rfl⟩ := List.mem_map.mp hd
  obtain ⟨q, _, rfl⟩ := List.mem_map.mp h1
  exact trivial
theorem es_sub {es es' : List Ent} (h : EsOk es) (s : es'.Sublist es) : EsOk es' := ⟨Nat.le_trans s.length_le h.len, fun e he => h.ok e (s.subset he), List.Pairwise.sublist s h.asc⟩
theorem look_inj {n : Nat → Int} {g : Nat → D} (q0 : Nat) : ∀ l : List Nat, (∀ q ∈ l, n q = n q0 → q = q0) → (lookD (l.map fun q => ((.inl (n q) : Key), g q)) (.inl (n q0))).isSome = decide (q0 ∈ l)
  | [], _ => rfl
  | q :: l, h => by
    rw [List.map_cons, lookD_cons]
    by_cases e : q = q0
    · subst e
      rw [if_pos rfl]
      simp
    · have ne : (Sum.inl (n q) : Key) ≠ .inl (n q0) := fun z => by
        injection z with z
        exact e (h q List.mem_cons_self z)
      rw [if_neg ne, look_inj q0 l fun x hx => h x (List.mem_cons_of_mem _ hx)]
      simp [show ¬ q0 = q from fun z => e z.symm]
theorem n_inj {es : List Ent} (h : Asc es) {i j : Nat} (hi : i < es.length) (hj : j < es.length) (e : (es.getD i e0).n = (es.getD j e0).n) : i = j := by
  rcases Nat.lt_trichotomy i j with z | z | z
  · have := asc_lt h z hj; omega
  · exact z
  · have := asc_lt h z hi; omega
theorem due_has {es : List Ent} {rs : List Rl} (h : Asc es) {q : Nat} (hq : q < es.length) : (lookD (dueK es rs) (.inl (es.getD q e0).n)).isSome = tells es rs q := by
  unfold dueK dueL
  rw [look_inj q _ fun x hx hn => by
    rw [List.mem_filter, List.mem_range'_1] at hx
    exact n_inj h (by omega) hq hn]
  cases e : tells es rs q with
  | true => exact decide_eq_true (List.mem_filter.mpr ⟨by rw [List.mem_range'_1]; omega, e⟩)
  | false => exact decide_eq_false fun z => by rw [(List.mem_filter.mp z).2] at e; cases e
theorem stays_filter {es : List Ent} {rs : List Rl} (h : Asc es) (hr : ∀ r ∈ rs, RlOk r) : es.filter (fun e => (lookD (dueK es rs) (.inl e.n)).isSome) = keepF rs es := by
  rw [← keepL_F hr]
  have e1 : es = (List.range' 0 es.length).map fun q => es.getD q e0 := by
    refine List.ext_getElem? fun i => ?_
    by_cases hi : i < es.length
    · simp [hi]
    · rw [List.getElem?_eq_none (by omega), List.getElem?_eq_none (by simp; omega)]
  have e2 : ∀ l : List Nat, (∀ q ∈ l, q < es.length) → (l.map fun q => es.getD q e0).filter (fun e => (lookD (dueK es rs) (.inl e.n)).isSome) = (l.filter (tells es rs)).map fun q => es.getD q e0 := by
    intro l hl
    rw [List.filter_map]
    refine congrArg _ (List.filter_congr fun q hq => ?_)
    exact due_has h (hl q hq)
  have e3 := e2 (List.range' 0 es.length) (fun q hq => by rw [List.mem_range'_1] at hq; omega)
  rw [← e1] at e3
  exact e3
/-- the numbers of entries -/
abbrev nmL (es : List Ent) : List D := es.map fun e => .int e.n
theorem keys_nm {es : List Ent} {rs : List Rl} (hr : ∀ r ∈ rs, RlOk r) : keysL (dueK es rs) = nmL (keepF rs es) := by
  rw [← keepL_F hr]
  unfold keysL nmL keepL dueK dueL
  rw [List.map_map, List.map_map]
  rfl
def S_left_behind : DSp := fun ds post => ∃ es rs, ds = [.lst (es.map eD), .lst (rs.map rD)] ∧ EsOk es ∧ RsOk rs ∧ post.rt (.lst ((keepF rs es).map eD)) 1 []
theorem mk_left {post : DPost} {es : List Ent} {rs : List Rl} (h : EsOk es) (hr : RsOk rs) (k : post.rt (.lst ((keepF rs es).map eD)) 1 []) : S_left_behind [.lst (es.map eD), .lst (rs.map rD)] post := ⟨es, rs, rfl, h, hr, k⟩
theorem p_left_behind (ds : List D) (post : DPost) (h : S_left_behind ds post) (_ : ds.length = ms_left_behind.length) : t_left_behind S_reasons_in (env0 ms_left_behind ds N_left_behind.length) (endsOf ms_left_behind post) := by
  obtain ⟨es, rs, rfl, he, hr, k⟩ := h
  have hl := he.len
  refine mk_reasons_in he.as hr ?_
  refine lc_pure (E := [some ⟨.lst (es.map eD), 0, false⟩, some ⟨.lst (rs.map rD), 0, false⟩, some ⟨.dK (dueK es rs), 2, false⟩, none]) eD (fun e => (lookD (dueK es rs) (.inl e.n)).isSome) eD es [] (by simp; omega) (fun e _ A B h1 h2 => ?_) ?_
  · exact brB_2 (b := (lookD (dueK es rs) (.inl e.n)).isSome) h1 h2
  · show post.rt (.lst ((es.filter fun e => (lookD (dueK es rs) (.inl e.n)).isSome).map eD)) 1 []
    rw [stays_filter he.asc hr.ok]
    exact k
end K77
set_option Elab.async false
set_option linter.all false
set_option maxRecDepth 100000
set_option maxHeartbeats 2000000
/-! k77, the plain part: when entries fall. -/
namespace K77
open PySem L2 PySem.Spec PyProof.Rows DL
def latE (nb : Int) (ts : List Int) (j : Nat) : Ent := ⟨nb + 1 + (j : Int), ts.getD j 0, [], false⟩
def lat (nb : Int) (ts : List Int) : List Ent := (List.range' 0 ts.length).map (latE nb ts)
theorem lat_len (nb : Int) (ts : List Int) : (lat nb ts).length = ts.length := by simp [lat]
theorem lat_get {nb : Int} {ts : List Int} {j : Nat} (h : j < ts.length) : (lat nb ts)[j]? = some (latE nb ts j) := by
  unfold lat
  rw [List.getElem?_map, List.getElem?_range' h]
  simp
structure LatOk (es : List Ent) (nb : Int) (ts : List Int) : Prop where
  len : ts.length ≤ 60
  asc : ts.Pairwise (· < ·)
  lo : ∀ t ∈ ts, 0 ≤ t ∧ t ≤ 10 ^ 12
  up : ∀ e ∈ es, ∀ t ∈ ts, e.t < t
  nm : ∀ e ∈ es, e.n ≤ nb
/-- entries and the first k later ones -/
abbrev upto (es : List Ent) (nb : Int) (ts : List Int) (k : Nat) : List Ent := es ++ (lat nb ts).take k
theorem upto_succ {es : List Ent} {nb : Int} {ts : List Int} {k : Nat} (h : k < ts.length) : upto es nb ts (k + 1) = upto es nb ts k ++ [latE nb ts k] := by
  unfold upto
  rw [List.take_add_one, lat_get h, List.append_assoc]
  rfl
theorem upto_as {es : List Ent} {nb : Int} {ts : List Int} (he : EsOk es) (h : LatOk es nb ts) (k : Nat) : EsAs (upto es nb ts k) := by
  have full : EsAs (es ++ lat nb ts) := by
    have hl := he.len
    have hl2 := h.len
    refine ⟨by rw [List.length_append, lat_len]; omega, fun e m => ?_, ?_⟩
    · rcases List.mem_append.mp m with z | z
      · exact (he.ok e z).tl
      · obtain ⟨j, _, rfl⟩ := List.mem_map.mp z
        exact Nat.zero_le _
    · refine List.pairwise_append.mpr ⟨he.asc, ?_, fun a ha b hb => ?_⟩
      · unfold lat
        rw [List.pairwise_map]
        refine List.Pairwise.imp_of_mem ?_ List.pairwise_lt_range'
        intro i j hi hj hij
        rw [List.mem_range'_1] at hi hj
        have := List.pairwise_iff_getElem.mp h.asc i j (by omega) (by omega) hij
        refine ⟨by show nb + 1 + (i : Int) < nb + 1 + (j : Int); omega, ?_⟩
        show ts.getD i 0 < ts.getD j 0
        rw [show ts.getD i 0 = ts[i] by simp [show i < ts.length by omega], show ts.getD j 0 = ts[j] by simp [show j < ts.length by omega]]
        exact this
      · obtain ⟨j, hj, rfl⟩ := List.mem_map.mp hb
        rw [List.mem_range'_1] at hj
        have hjl : j < ts.length := by omega
        have n1 := h.nm a ha
        have t1 := h.up a ha (ts.getD j 0) (by rw [show ts.getD j 0 = ts[j] by simp [hjl]]; exact List.getElem_mem hjl)
        exact ⟨by show a.n < nb + 1 + (j : Int); omega, t1⟩
  have sub : (upto es nb ts k).Sublist (es ++ lat nb ts) := (List.Sublist.refl es).append (List.take_sublist _ _)
  exact ⟨Nat.le_trans sub.length_le full.len, fun e m => full.tl e (sub.subset m), List.Pairwise.sublist sub full.asc⟩
theorem asc_mem {es : List Ent} (h : Asc es) {a b : Ent} (ha : a ∈ es) (hb : b ∈ es) (e : a.n = b.n) : a = b := by
  obtain ⟨i, hi, rfl⟩ := List.getElem_of_mem ha
  obtain ⟨j, hj, rfl⟩ := List.getElem_of_mem hb
  have := n_inj (i := i) (j := j) h hi hj (by simpa [hi, hj] using e)
  subst this
  rfl
theorem due_keys {X : List Ent} {rs : List Rl} (hr : ∀ r ∈ rs, RlOk r) : (dueK X rs).map (·.1) = (keepF rs X).map fun e => (.inl e.n : Key) := by
  rw [← keepL_F hr]
  unfold keepL dueK dueL
  rw [List.map_map, List.map_map]
  rfl
theorem due_look {X : List Ent} {rs : List Rl} (hr : ∀ r ∈ rs, RlOk r) (n : Int) : (lookD (dueK X rs) (.inl n)).isSome = decide (n ∈ (keepF rs X).map Ent.n) := by
  rw [look_mem, due_keys hr]
  refine decide_eq_decide.mpr ?_
  rw [List.mem_map, List.mem_map]
  constructor
  · rintro ⟨e, h1, h2⟩
    exact ⟨e, h1, by injection h2⟩
  · rintro ⟨e, h1, h2⟩
    exact ⟨e, h1, by rw [h2]⟩
/-- stays behind the k-th later moment -/
def st (es : List Ent) (rs : List Rl) (nb : Int) (ts : List Int) (k : Nat) (n : Int) : Bool := decide (n ∈ (keepF rs (upto es nb ts (k + 1))).map Ent.n)
def fa (es : List Ent) (rs : List Rl) (nb : Int) (ts : List Int) (n : Int) : Nat → Option Nat
  | 0 => none
  | k + 1 => if fa es rs nb ts n k = none ∧ st es rs nb ts k n = false then some k else fa es rs nb ts n k
def oD : Option Nat → D
  | none => .non
  | some k => .int (k : Int)
def fallD (es : List Ent) (rs : List Rl) (nb : Int) (ts : List Int) (k : Nat) : List (Key × D) := (keepF rs es).map fun e => ((.inl e.n : Key), oD (fa es rs nb ts e.n k))
section
variable {es : List Ent} {rs : List Rl} {nb : Int} {ts : List Int}
theorem keep_step' (he : EsOk es) (h : LatOk es nb ts) {k : Nat} (hk : k < ts.length) : keepF rs (keepF rs (upto es nb ts k) ++ [latE nb ts k]) = keepF rs (upto es nb ts (k + 1)) ∧ ∃ S, keepF rs (upto es nb ts (k + 1)) = S ++ [latE nb ts k] ∧ S.Sublist (keepF rs (upto es nb ts k)) := by
  rw [upto_succ hk]
  have as := upto_as he h (k + 1)
  rw [upto_succ hk] at as
  have pp := List.pairwise_append.mp as.asc
  exact keepF_step fun x hx => Int.le_of_lt (pp.2.2 x hx _ List.mem_cons_self).2
theorem lat_new (h : LatOk es nb ts) {e : Ent} (he : e ∈ es) (k : Nat) : e.n < (latE nb ts k).n := by
  have := h.nm e he
  show e.n < nb + 1 + (k : Int)
  omega
theorem fa_none (he : EsOk es) (h : LatOk es nb ts) {e : Ent} (hm : e ∈ keepF rs es) : ∀ k, k ≤ ts.length → (fa es rs nb ts e.n k = none ↔ e ∈ keepF rs (upto es nb ts k))
  | 0, _ => by
    unfold upto fa
    rw [List.take_zero, List.append_nil]
    exact ⟨fun _ => hm, fun _ => rfl⟩
  | k + 1, hk => by
    have ih := fa_none he h hm k (by omega)
    have hes : e ∈ es := (keepF_sub rs es).subset hm
    have hmu : e ∈ upto es nb ts (k + 1) := List.mem_append_left _ hes
    have as := upto_as he h (k + 1)
    obtain ⟨_, S, s1, s2⟩ := keep_step' (rs := rs) he h (show k < ts.length by omega)
    have key : st es rs nb ts k e.n = true ↔ e ∈ keepF rs (upto es nb ts (k + 1)) := by
      unfold st
      rw [decide_eq_true_iff, List.mem_map]
      constructor
      · rintro ⟨x, h1, h2⟩
        have := asc_mem as.asc ((keepF_sub _ _).subset h1) hmu h2
        rw [← this]
        exact h1
      · intro z
        exact ⟨e, z, rfl⟩
    have down : e ∈ keepF rs (upto es nb ts (k + 1)) → e ∈ keepF rs (upto es nb ts k) := by
      intro z
      rw [s1] at z
      rcases List.mem_append.mp z with z | z
      · exact s2.subset z
      · have := lat_new h hes k
        rw [List.mem_singleton.mp z] at this
        omega
    show (if fa es rs nb ts e.n k = none ∧ st es rs nb ts k e.n = false then some k else fa es rs nb ts e.n k) = none ↔ _
    rw [← key]
    by_cases c : fa es rs nb ts e.n k = none
    · by_cases s : st es rs nb ts k e.n = true
      · rw [if_neg (fun z => by rw [s] at z; exact absurd z.2 (by decide))]
        exact ⟨fun _ => s, fun _ => c⟩
      · have s' : st es rs nb ts k e.n = false := by simpa using s
        rw [if_pos ⟨c, s'⟩]
        exact ⟨fun z => (by cases z), fun z => absurd z s⟩
    · rw [if_neg (fun z => c z.1)]
      exact ⟨fun z => absurd z c, fun z => absurd (ih.mpr (down (key.mp z))) c⟩
/-- the numbers of the k-th round that have been looked at -/
def updF (es : List Ent) (rs : List Rl) (nb : Int) (ts : List Int) (k : Nat) (S : List Int) (n : Int) : D := if n ∈ S ∧ st es rs nb ts k n = false then .int (k : Int) else oD (fa es rs nb ts n k)
theorem updF_nil (k : Nat) (n : Int) : updF es rs nb ts k [] n = oD (fa es rs nb ts n k) := by
  unfold updF
  rw [if_neg (fun z => by simp at z)]
theorem updF_snoc (k : Nat) (S : List Int) (x n : Int) : updF es rs nb ts k (S ++ [x]) n = if n = x ∧ st es rs nb ts k x = false then .int (k : Int) else updF es rs nb ts k S n := by
  unfold updF
  by_cases h : n = x
  · subst h
    by_cases s : st es rs nb ts k n = false
    · rw [if_pos ⟨by simp, s⟩, if_pos ⟨rfl, s⟩]
    · rw [if_neg (fun z => s z.2), if_neg (fun z => s z.2), if_neg (fun z => s z.2)]
  · rw [if_neg (show ¬ (n = x ∧ st es rs nb ts k x = false) from fun z => h z.1)]
    have : n ∈ S ++ [x] ↔ n ∈ S := by simp [h]
    simp only [this]
theorem updF_all (he : EsOk es) (h : LatOk es nb ts) {k : Nat} (hk : k < ts.length) {e : Ent} (hm : e ∈ keepF rs es) {S : List Int} (hS : e.n ∈ S ↔ e ∈ keepF rs (upto es nb ts k)) : updF es rs nb ts k S e.n = oD (fa es rs nb ts e.n (k + 1)) := by
  have ih := fa_none (rs := rs) he h hm k (by omega)
  unfold updF
  show _ = oD (if fa es rs nb ts e.n k = none ∧ st es rs nb ts k e.n = false then some k else fa es rs nb ts e.n k)
  have e1 : (e.n ∈ S ∧ st es rs nb ts k e.n = false) ↔ (fa es rs nb ts e.n k = none ∧ st es rs nb ts k e.n = false) := by rw [hS, ih]
  by_cases c : fa es rs nb ts e.n k = none ∧ st es rs nb ts k e.n = false
  · rw [if_pos c, if_pos (e1.mpr c)]
    rfl
  · rw [if_neg c, if_neg (fun z => c (e1.mp z))]
/-- a store into the dict, or none -/
theorem upd_put {k : Nat} {S : List Int} {x : Int} (hx : ∃ e ∈ keepF rs es, e.n = x) (hs : st es rs nb ts k x = false) :
    putD ((keepF rs es).map fun e => ((.inl e.n : Key), updF es rs nb ts k S e.n)) (.inl x) (.int (k : Int)) = (keepF rs es).map fun e => ((.inl e.n : Key), updF es rs nb ts k (S ++ [x]) e.n) := by
  rw [put_over Ent.n (fun e => updF es rs nb ts k S e.n) x (.int (k : Int)) hx]
  refine List.map_congr_left fun e _ => ?_
  rw [updF_snoc]
  by_cases h : e.n = x
  · rw [if_pos h, if_pos ⟨h, hs⟩]
  · rw [if_neg h, if_neg (fun z => h z.1)]
theorem upd_same' {k : Nat} {S : List Int} {x : Int} (h : (∀ e ∈ keepF rs es, e.n ≠ x) ∨ st es rs nb ts k x = true) :
    ((keepF rs es).map fun e => ((.inl e.n : Key), updF es rs nb ts k S e.n)) = (keepF rs es).map fun e => ((.inl e.n : Key), updF es rs nb ts k (S ++ [x]) e.n) := by
  refine List.map_congr_left fun e he => ?_
  rw [updF_snoc, if_neg]
  rintro ⟨z1, z2⟩
  rcases h with h | h
  · exact h e he z1
  · rw [h] at z2; cases z2
theorem keep_names (he : EsOk es) : (keepF rs es).Pairwise fun a b => a.n ≠ b.n := by
  refine List.Pairwise.imp ?_ (List.Pairwise.sublist (keepF_sub rs es) he.asc)
  intro a b h
  omega
end
end K77
set_option Elab.async false
set_option linter.all false
set_option maxRecDepth 100000
set_option maxHeartbeats 2000000
/-! k77, part r: later moments; falls, by the program. -/
namespace K77
open PySem L2 PySem.Spec PyProof.Rows DL
theorem last_geti {es : List Ent} (h : 0 < es.length) : getI (es.map eD) (-1) = some (eD (es.getD (es.length - 1) e0)) := by
  show (match (match Nat.blt 0 (es.map eD).length with | true => some ((es.map eD).length - (0 + 1)) | false => none) with | some j => (es.map eD)[j]? | none => none) = _
  have h1 : es.length - 1 < es.length := by omega
  rw [show (es.map eD).length = es.length by simp, Nat.blt_eq.mpr h]
  show (es.map eD)[es.length - 1]? = _
  simp [h1]
def lastN (es : List Ent) : Int := if es.length = 0 then -1 else (es.getD (es.length - 1) e0).n
theorem last_mem {es : List Ent} (h : 0 < es.length) : es.getD (es.length - 1) e0 ∈ es := by
  rw [show es.getD (es.length - 1) e0 = es[es.length - 1] by simp [show es.length - 1 < es.length by omega]]
  exact List.getElem_mem _
theorem last_max {es : List Ent} (h : Asc es) {e : Ent} (he : e ∈ es) : e.n ≤ (es.getD (es.length - 1) e0).n := by
  obtain ⟨i, hi, rfl⟩ := List.getElem_of_mem he
  by_cases c : i = es.length - 1
  · rw [show es.getD (es.length - 1) e0 = es[es.length - 1] by simp [show es.length - 1 < es.length by omega]]
    subst c
    exact Int.le_refl _
  · have := asc_lt h (show i < es.length - 1 by omega) (by omega)
    rw [show es.getD i e0 = es[i] by simp [hi]] at this
    exact Int.le_of_lt this
theorem ne_len {es : List Ent} (h : (es.map eD).isEmpty = false) : 0 < es.length := by
  cases es with
  | nil => cases h
  | cons e es => exact Nat.succ_pos _
theorem emp_nil {es : List Ent} (h : (es.map eD).isEmpty = true) : es = [] := by
  cases es with
  | nil => rfl
  | cons e es => cases h
def S_checked_later : DSp := fun ds post => ∃ b es ts nb, ds = [.lst (es.map eD), sq b (ts.map .int)] ∧ LatOk es nb ts ∧ post.rt (.lst (ts.map .int)) 1 []
theorem mk_later {post : DPost} (b : Bool) {es : List Ent} {ts : List Int} {nb : Int} (h : LatOk es nb ts) (k : post.rt (.lst (ts.map .int)) 1 []) : S_checked_later [.lst (es.map eD), sq b (ts.map .int)] post := ⟨b, es, ts, nb, rfl, h, k⟩
theorem ts_get {ts : List Int} {i : Nat} (h : i < ts.length) : (ts.map D.int).getD i .non = .int (ts.getD i 0) := by simp [h]
theorem later_loop (a0 a1 a3 a4 : Option Bd) {ts : List Int} (asc : ts.Pairwise (· < ·)) (lo : ∀ t ∈ ts, 0 ≤ t ∧ t ≤ 10 ^ 12) (before : Int) (hb : ∀ t ∈ ts, before < t) (Dn : DEnds) (k : ∀ a2 a3 a4, Dn.nx [a0, a1, a2, a3, a4]) :
    forD (.tu [.nm 3, .nm 4]) (b_checked_later_1 S_is_row S_is_moment) (enumD (ts.map .int)) [a0, a1, some ⟨.int before, 0, false⟩, a3, a4] Dn := by
  refine for_inv (σ := Int × Option Bd × Option Bd) (fun s => [a0, a1, some ⟨.int s.1, 0, false⟩, s.2.1, s.2.2]) (fun i s => ∀ j, i ≤ j → ∀ hj : j < ts.length, s.1 < ts[j]) ?_ ?_ (before, a3, a4) (fun j _ hj => hb _ (List.getElem_mem hj))
  · rintro i x ⟨bf, b3, b4⟩ hi hp K hk
    obtain ⟨hil, rfl⟩ := enum_get hi
    rw [List.length_map] at hil
    rw [ts_get hil]
    have et : ts.getD i 0 = ts[i] := by simp [hil]
    have hlo := lo _ (List.getElem_mem hil)
    have hlt : bf < ts[i] := hp i (Nat.le_refl _) hil
    rw [et]
    refine mk_is_moment hlo.1 hlo.2 ?_
    refine brB_dec (p := ts[i] ≤ bf) (fun c => by omega) (fun _ => ?_)
    exact hk (ts[i], _, _) fun j hj hjl => List.pairwise_iff_getElem.mp asc i j hil hjl (by omega)
  · rintro ⟨bf, b3, b4⟩ _
    exact k _ _ _
theorem p_checked_later (ds : List D) (post : DPost) (h : S_checked_later ds post) (_ : ds.length = ms_checked_later.length) : t_checked_later S_is_row S_is_moment (env0 ms_checked_later ds N_checked_later.length) (endsOf ms_checked_later post) := by
  obtain ⟨b, es, ts, nb, rfl, h, k⟩ := h
  have hl := h.len
  have hneg : ∀ t ∈ ts, (-1 : Int) < t := fun t ht => by have := (h.lo t ht).1; omega
  cases b
  · refine mk_is_row false ?_
    refine brB_dec (p := (60 : Int) < ((ts.map D.int).length : Int)) (fun c => by rw [List.length_map] at c; omega) (fun _ => ?_)
    refine brB_2 (b := !(es.map eD).isEmpty) (fun c => ?_) (fun c => ?_)
    · have h0 : 0 < es.length := ne_len (by simpa using c)
      refine someD_mk (last_geti h0) ?_
      refine later_loop _ _ _ _ h.asc h.lo _ (fun t ht => h.up _ (last_mem h0) t ht) _ (fun a2 a3 a4 => ?_)
      exact k
    · refine later_loop _ _ _ _ h.asc h.lo _ hneg _ (fun a2 a3 a4 => ?_)
      exact k
  · refine mk_is_row true ?_
    refine brB_dec (p := (60 : Int) < ((ts.map D.int).length : Int)) (fun c => by rw [List.length_map] at c; omega) (fun _ => ?_)
    refine brB_2 (b := !(es.map eD).isEmpty) (fun c => ?_) (fun c => ?_)
    · have h0 : 0 < es.length := ne_len (by simpa using c)
      refine someD_mk (last_geti h0) ?_
      refine later_loop _ _ _ _ h.asc h.lo _ (fun t ht => h.up _ (last_mem h0) t ht) _ (fun a2 a3 a4 => ?_)
      exact k
    · refine later_loop _ _ _ _ h.asc h.lo _ hneg _ (fun a2 a3 a4 => ?_)
      exact k
/-! ### falls -/
abbrev KF (f : DSp → DSp → DSp → DSp → DSp → SD) : SD := f S_checked_entries S_checked_rules S_checked_later S_left_behind S_reasons_in
section
variable {es : List Ent} {rs : List Rl} {nb : Int} {ts : List Int}
/-- what is left and the next one -/
abbrev more (es : List Ent) (rs : List Rl) (nb : Int) (ts : List Int) (k : Nat) : List Ent := keepF rs (upto es nb ts k) ++ [latE nb ts k]
theorem more_as (he : EsOk es) (h : LatOk es nb ts) {k : Nat} (hk : k < ts.length) : EsAs (more es rs nb ts k) := by
  have as := upto_as he h (k + 1)
  have sub : (more es rs nb ts k).Sublist (upto es nb ts (k + 1)) := by
    rw [upto_succ hk]
    exact (keepF_sub rs _).append (List.Sublist.refl _)
  exact ⟨Nat.le_trans sub.length_le as.len, fun e m => as.tl e (sub.subset m), List.Pairwise.sublist sub as.asc⟩
theorem more_look (he : EsOk es) (h : LatOk es nb ts) (hr : RsOk rs) {k : Nat} (hk : k < ts.length) (n : Int) : (lookD (dueK (more es rs nb ts k) rs) (.inl n)).isSome = st es rs nb ts k n := by
  rw [due_look hr.ok, (keep_step' he h hk).1]
  rfl
abbrev updK (es : List Ent) (rs : List Rl) (nb : Int) (ts : List Int) (k : Nat) (S : List Int) : List (Key × D) := (keepF rs es).map fun e => ((.inl e.n : Key), updF es rs nb ts k S e.n)
theorem upd_zero (k : Nat) : fallD es rs nb ts k = updK es rs nb ts k [] := by
  refine List.map_congr_left fun e _ => ?_
  rw [updF_nil]
theorem upd_full (he : EsOk es) (h : LatOk es nb ts) {k : Nat} (hk : k < ts.length) : updK es rs nb ts k ((more es rs nb ts k).map Ent.n) = fallD es rs nb ts (k + 1) := by
  refine List.map_congr_left fun e hm => ?_
  rw [updF_all he h hk hm]
  have hes := (keepF_sub rs es).subset hm
  have as := upto_as he h k
  rw [List.mem_map]
  constructor
  · rintro ⟨x, h1, h2⟩
    rcases List.mem_append.mp h1 with z | z
    · rw [← asc_mem as.asc ((keepF_sub _ _).subset z) (List.mem_append_left _ hes) h2]
      exact z
    · rw [List.mem_singleton.mp z] at h2
      have := lat_new h hes k
      omega
  · intro z
    exact ⟨e, List.mem_append_left _ z, rfl⟩
theorem take_snoc {es : List Ent} {i : Nat} {e : Ent} (h : es[i]? = some e) : (es.take (i + 1)).map Ent.n = (es.take i).map Ent.n ++ [e.n] := by
  rw [List.take_add_one, h, List.map_append]
  rfl
theorem put_loop (he : EsOk es) (h : LatOk es nb ts) (hr : RsOk rs) {k : Nat} (hk : k < ts.length) (a0 a1 a2 a3 a4 a5 a6 a8 a9 a11 : Option Bd) (n12 : Nat) (Dn : DEnds)
    (kk : ∀ a8, Dn.nx [a0, a1, a2, a3, a4, a5, a6, some ⟨.dK (fallD es rs nb ts (k + 1)), 1, false⟩, a8, a9, some ⟨.int (k : Int), 0, false⟩, a11, some ⟨.dK (dueK (more es rs nb ts k) rs), n12, false⟩]) :
    forD (.nm 8) (KF b_falls_1) ((more es rs nb ts k).map eD) [a0, a1, a2, a3, a4, a5, a6, some ⟨.dK (fallD es rs nb ts k), 1, false⟩, a8, a9, some ⟨.int (k : Int), 0, false⟩, a11, some ⟨.dK (dueK (more es rs nb ts k) rs), n12, false⟩] Dn := by
  have lk : (keepF rs es).length ≤ 60 := Nat.le_trans (keepF_sub rs es).length_le he.len
  rw [upd_zero]
  refine for_inv (σ := List Int × Option Bd) (fun s => [a0, a1, a2, a3, a4, a5, a6, some ⟨.dK (updK es rs nb ts k s.1), 1, false⟩, s.2, a9, some ⟨.int (k : Int), 0, false⟩, a11, some ⟨.dK (dueK (more es rs nb ts k) rs), n12, false⟩]) (fun i s => s.1 = ((more es rs nb ts k).take i).map Ent.n) ?_ ?_ ([], a8) rfl
  · rintro i x ⟨S, b8⟩ hi hp K hkk
    obtain ⟨y, hy, rfl⟩ := get_map hi
    have hp : S = ((more es rs nb ts k).take i).map Ent.n := hp
    have hnext : S ++ [y.n] = ((more es rs nb ts k).take (i + 1)).map Ent.n := by rw [take_snoc hy, ← hp]
    have go := hkk (S ++ [y.n], some ⟨eD y, 0, false⟩) hnext
    dsimp only at go
    refine brB_2 (b := (lookD (updK es rs nb ts k S) (.inl y.n)).isSome) (fun c1 => ?_) (fun c1 => ?_)
    · have hx : ∃ e ∈ keepF rs es, e.n = y.n := by
        rw [look_some_over Ent.n (fun e => updF es rs nb ts k S e.n), List.any_eq_true] at c1
        obtain ⟨e, h1, h2⟩ := c1
        exact ⟨e, h1, of_decide_eq_true h2⟩
      refine brB_2 (b := !(lookD (dueK (more es rs nb ts k) rs) (.inl y.n)).isSome) (fun c2 => ?_) (fun c2 => ?_)
      · rw [more_look he h hr hk] at c2
        have hs : st es rs nb ts k y.n = false := by simpa using c2
        refine And.intro (ms_lt (by rw [List.length_map]; omega)) ?_
        rw [← (show putD (updK es rs nb ts k S) (.inl y.n) (.int (k : Int)) = updK es rs nb ts k (S ++ [y.n]) from upd_put hx hs)] at go
        exact go
      · rw [more_look he h hr hk] at c2
        have hs : st es rs nb ts k y.n = true := by simpa using c2
        rw [← (show updK es rs nb ts k S = updK es rs nb ts k (S ++ [y.n]) from upd_same' (.inr hs))] at go
        exact go
    · have hx : ∀ e ∈ keepF rs es, e.n ≠ y.n := by
        rw [look_some_over Ent.n (fun e => updF es rs nb ts k S e.n), List.any_eq_false] at c1
        intro e h1 h2
        exact c1 e h1 (decide_eq_true h2)
      rw [← (show updK es rs nb ts k S = updK es rs nb ts k (S ++ [y.n]) from upd_same' (.inl hx))] at go
      exact go
  · rintro ⟨S, b8⟩ hp
    have hp : S = ((more es rs nb ts k).take ((more es rs nb ts k).map eD).length).map Ent.n := hp
    rw [List.length_map, List.take_length] at hp
    subst hp
    show Dn.nx [a0, a1, a2, a3, a4, a5, a6, some ⟨.dK (updK es rs nb ts k ((more es rs nb ts k).map Ent.n)), 1, false⟩, b8, a9, some ⟨.int (k : Int), 0, false⟩, a11, some ⟨.dK (dueK (more es rs nb ts k) rs), n12, false⟩]
    rw [upd_full he h hk]
    exact kk b8
theorem f2 (he : EsOk es) (h : LatOk es nb ts) (hr : RsOk rs) {post : DPost} (kp : post.rt (.dK (fallD es rs nb ts ts.length)) 1 []) (a0 a1 a2 a3 a8 a10 a11 a12 : Option Bd) (n4 n5 : Nat) :
    KF k_falls_2 [a0, a1, a2, a3, some ⟨.lst (rs.map rD), n4, false⟩, some ⟨.lst (ts.map .int), n5, false⟩, some ⟨.lst ((keepF rs es).map eD), 1, false⟩, some ⟨.dK (fallD es rs nb ts 0), 1, false⟩, a8, some ⟨.int nb, 0, false⟩, a10, a11, a12] (endsOf ms_falls post) := by
  have e0k : upto es nb ts 0 = es := by unfold upto; rw [List.take_zero, List.append_nil]
  refine for_inv (σ := List Ent × List (Key × D) × Nat × Option Bd × Option Bd × Option Bd × Option Bd) (fun s => [a0, a1, a2, a3, some ⟨.lst (rs.map rD), s.2.2.1, false⟩, some ⟨.lst (ts.map .int), 0, false⟩, some ⟨.lst (s.1.map eD), 1, false⟩, some ⟨.dK s.2.1, 1, false⟩, s.2.2.2.1, some ⟨.int nb, 0, false⟩, s.2.2.2.2.1, s.2.2.2.2.2.1, s.2.2.2.2.2.2])
    (fun i s => s.1 = keepF rs (upto es nb ts i) ∧ s.2.1 = fallD es rs nb ts i) ?_ ?_ (keepF rs es, fallD es rs nb ts 0, n4, a8, a10, a11, a12) ⟨by rw [e0k], rfl⟩
  · rintro i x ⟨left, kvs, m4, b8, b10, b11, b12⟩ hi ⟨hp1, hp2⟩ K hk
    have hp1 : left = keepF rs (upto es nb ts i) := hp1
    have hp2 : kvs = fallD es rs nb ts i := hp2
    subst hp1 hp2
    obtain ⟨hil, rfl⟩ := enum_get hi
    rw [List.length_map] at hil
    rw [ts_get hil]
    have as := more_as (rs := rs) he h hil
    have ll := as.len
    rw [List.length_append, List.length_singleton] at ll
    have ea : (keepF rs (upto es nb ts i)).map eD ++ [.tup [.int (nb + 1 + (i : Int)), .int (ts.getD i 0), .tup []]] = (more es rs nb ts i).map eD := by rw [List.map_append]; rfl
    have re : ∀ post : DPost, post.rt (.dK (dueK (more es rs nb ts i) rs)) 2 [] → S_reasons_in [.lst ((keepF rs (upto es nb ts i)).map eD ++ [.tup [.int (nb + 1 + (i : Int)), .int (ts.getD i 0), .tup []]]), .lst (rs.map rD)] post := fun post q => by
      rw [ea]
      exact mk_reasons_in as hr q
    refine And.intro (ms_r rfl) (And.intro (ms_r rfl) (And.intro (ms_lt (by rw [List.length_map]; exact Nat.le_trans (show (keepF rs (upto es nb ts i)).length ≤ 130 by omega) (by decide))) ?_))
    refine re _ ?_
    show forD (.nm 8) (KF b_falls_1) ((keepF rs (upto es nb ts i)).map eD ++ [.tup [.int (nb + 1 + (i : Int)), .int (ts.getD i 0), .tup []]]) [a0, a1, a2, a3, some ⟨.lst (rs.map rD), 0, false⟩, some ⟨.lst (ts.map .int), 0, false⟩, some ⟨.lst ((keepF rs (upto es nb ts i)).map eD ++ [.tup [.int (nb + 1 + (i : Int)), .int (ts.getD i 0), .tup []]]), 0, false⟩, some ⟨.dK (fallD es rs nb ts i), 1, false⟩, b8, some ⟨.int nb, 0, false⟩, some ⟨.int (i : Int), 0, false⟩, some ⟨.int (ts.getD i 0), 0, false⟩, some ⟨.dK (dueK (more es rs nb ts i) rs), 2, false⟩] _
    rw [ea]
    refine put_loop he h hr hil _ _ _ _ _ _ _ _ _ _ 2 _ (fun c8 => ?_)
    refine lc_pure (E := [a0, a1, a2, a3, some ⟨.lst (rs.map rD), 0, false⟩, some ⟨.lst (ts.map .int), 0, false⟩, some ⟨.lst ((more es rs nb ts i).map eD), 0, false⟩, some ⟨.dK (fallD es rs nb ts (i + 1)), 1, false⟩, none, some ⟨.int nb, 0, false⟩, some ⟨.int (i : Int), 0, false⟩, some ⟨.int (ts.getD i 0), 0, false⟩, some ⟨.dK (dueK (more es rs nb ts i) rs), 2, false⟩]) eD (fun e => (lookD (dueK (more es rs nb ts i) rs) (.inl e.n)).isSome) eD (more es rs nb ts i) [] (by simp; omega) (fun e _ A B g1 g2 => ?_) ?_
    · exact brB_2 (b := (lookD (dueK (more es rs nb ts i) rs) (.inl e.n)).isSome) g1 g2
    · rw [stays_filter as.asc hr.ok, (keep_step' he h hil).1]
      exact hk (keepF rs (upto es nb ts (i + 1)), fallD es rs nb ts (i + 1), 0, _, _, _, _) ⟨rfl, rfl⟩
  · rintro ⟨left, kvs, m4, b8, b10, b11, b12⟩ ⟨hp1, hp2⟩
    have hp2 : kvs = fallD es rs nb ts (enumD (ts.map .int)).length := hp2
    have el : (enumD (ts.map D.int)).length = ts.length := by unfold enumD; rw [List.length_map, List.length_range, List.length_map]
    rw [el] at hp2
    subst hp2
    exact kp
end
def S_falls : DSp := fun ds post => ∃ b b' b'' es rs ts, ds = [sq b (es.map eD), sq b' (rs.map rD), sq b'' (ts.map .int)] ∧ EsOk es ∧ RsOk rs ∧ LatOk es (lastN es) ts ∧ post.rt (.dK (fallD es rs (lastN es) ts ts.length)) 1 []
theorem mk_falls {post : DPost} (b b' b'' : Bool) {es : List Ent} {rs : List Rl} {ts : List Int} (he : EsOk es) (hr : RsOk rs) (h : LatOk es (lastN es) ts) (k : post.rt (.dK (fallD es rs (lastN es) ts ts.length)) 1 []) : S_falls [sq b (es.map eD), sq b' (rs.map rD), sq b'' (ts.map .int)] post := ⟨b, b', b'', es, rs, ts, rfl, he, hr, h, k⟩
theorem f3 {es : List Ent} {rs : List Rl} {ts : List Int} (he : EsOk es) (h : LatOk es (lastN es) ts) (hr : RsOk rs) {post : DPost} (kp : post.rt (.dK (fallD es rs (lastN es) ts ts.length)) 1 []) (a0 a1 a2 a8 a9 a10 a11 a12 : Option Bd) (n3 n4 n5 : Nat) :
    KF k_falls_3 [a0, a1, a2, some ⟨.lst (es.map eD), n3, false⟩, some ⟨.lst (rs.map rD), n4, false⟩, some ⟨.lst (ts.map .int), n5, false⟩, some ⟨.lst ((keepF rs es).map eD), 1, false⟩, some ⟨.dK (fallD es rs (lastN es) ts 0), 1, false⟩, a8, a9, a10, a11, a12] (endsOf ms_falls post) := by
  refine brB_2 (b := !(es.map eD).isEmpty) (fun c => ?_) (fun c => ?_)
  · have h0 : 0 < es.length := ne_len (by simpa using c)
    have el : lastN es = (es.getD (es.length - 1) e0).n := by unfold lastN; rw [if_neg (by omega)]
    refine someD_mk (last_geti h0) ?_
    have := f2 he h hr kp a0 a1 a2 (some ⟨.lst (es.map eD), min n3 1, false⟩) a8 a10 a11 a12 n4 n5
    rw [el] at this
    rw [el]
    exact this
  · have e : es = [] := emp_nil (by simpa using c)
    have el : lastN es = -1 := by unfold lastN; rw [if_pos (by rw [e]; rfl)]
    have := f2 he h hr kp a0 a1 a2 (some ⟨.lst (es.map eD), n3, false⟩) a8 a10 a11 a12 n4 n5
    rw [el] at this
    rw [el]
    exact this
theorem f4 {es : List Ent} {rs : List Rl} {ts : List Int} (he : EsOk es) (h : LatOk es (lastN es) ts) (hr : RsOk rs) {post : DPost} (kp : post.rt (.dK (fallD es rs (lastN es) ts ts.length)) 1 []) (a0 a1 a2 a7 a8 a9 a10 a11 a12 : Option Bd) (n3 n4 n5 : Nat) :
    KF k_falls_4 [a0, a1, a2, some ⟨.lst (es.map eD), n3, false⟩, some ⟨.lst (rs.map rD), n4, false⟩, some ⟨.lst (ts.map .int), n5, false⟩, some ⟨.lst ((keepF rs es).map eD), 1, false⟩, a7, a8, a9, a10, a11, a12] (endsOf ms_falls post) := by
  have lk : (keepF rs es).length ≤ 60 := Nat.le_trans (keepF_sub rs es).length_le he.len
  refine dc_new (E := [fz1 a0, fz1 a1, fz1 a2, some ⟨.lst (es.map eD), 0, false⟩, some ⟨.lst (rs.map rD), 0, false⟩, some ⟨.lst (ts.map .int), 0, false⟩, some ⟨.lst ((keepF rs es).map eD), 0, false⟩, fz1 a7, none, fz1 a9, fz1 a10, fz1 a11, fz1 a12]) eD Ent.n (fun _ => .non) (keepF rs es) [] (by simp; omega) (keep_names he) (fun e _ A q => ?_) ?_
  · exact q
  · refine And.intro (List.all_eq_true.mpr fun kv hk => ?_) ?_
    · obtain ⟨e, _, rfl⟩ := List.mem_map.mp hk
      rfl
    · exact f3 he h hr kp _ _ _ _ _ _ _ _ _ _ _
theorem p_falls (ds : List D) (post : DPost) (h : S_falls ds post) (_ : ds.length = ms_falls.length) : KF t_falls (env0 ms_falls ds N_falls.length) (endsOf ms_falls post) := by
  obtain ⟨b, b', b'', es, rs, ts, rfl, he, hr, h, k⟩ := h
  refine mk_checked_entries b he ?_
  refine mk_checked_rules b' hr ?_
  refine mk_later b'' h ?_
  refine mk_left he hr ?_
  exact f4 he h hr k _ _ _ _ _ _ _ _ _ _ _ _
end K77
set_option Elab.async false
set_option linter.all false
set_option maxRecDepth 100000
set_option maxHeartbeats 2000000
/-! k77, part s: later moments as they are drawn; falls, by the law's words. -/
namespace K77
open PySem L2 PySem.Spec PyProof.Rows DL
theorem getI_last {xs : List D} {x : D} : getI (xs ++ [x]) (-1) = some x := by
  show (match (match Nat.blt 0 (xs ++ [x]).length with | true => some ((xs ++ [x]).length - (0 + 1)) | false => none) with | some j => (xs ++ [x])[j]? | none => none) = _
  rw [show (xs ++ [x]).length = xs.length + 1 by simp, Nat.blt_eq.mpr (Nat.succ_pos _)]
  show (xs ++ [x])[xs.length + 1 - 1]? = _
  simp
theorem eD_flat {e : Ent} (h : EntOk e) : Flat 2 (eD e) := by
  have hs : ∀ d ∈ e.tags.map D.str, Flat 0 d := fun d hd => by
    obtain ⟨s, hs, rfl⟩ := List.mem_map.mp hd
    exact lab_ok (h.tg s hs)
  intro d hd
  simp only [List.mem_cons, List.not_mem_nil, or_false] at hd
  rcases hd with rfl | rfl | rfl
  · exact trivial
  · exact trivial
  · cases e.l <;> exact hs
theorem es_flat {es : List Ent} (h : EsOk es) : Flat 3 (.lst (es.map eD)) := fun d hd => by
  obtain ⟨e, he, rfl⟩ := List.mem_map.mp hd
  exact eD_flat (h.ok e he)
def S__law_later : DSp := fun ds post => ∃ r es step, ds = [r, .lst (es.map eD), .int step] ∧ Row r ∧ EsOk es ∧ 1 ≤ step ∧ step ≤ 10 ^ 9 ∧ ∀ ts r', LatOk es (lastN es) ts → Row r' → post.rt (.lst (ts.map .int)) 1 [r']
theorem mk_lawlater {post : DPost} {r : D} {es : List Ent} {step : Int} (hr : Row r) (he : EsOk es) (h0 : 1 ≤ step) (h1 : step ≤ 10 ^ 9) (k : ∀ ts r', LatOk es (lastN es) ts → Row r' → post.rt (.lst (ts.map .int)) 1 [r']) : S__law_later [r, .lst (es.map eD), .int step] post := ⟨r, es, step, rfl, hr, he, h0, h1, k⟩
/-- what holds of the moments made so far -/
structure Mom (es : List Ent) (i : Nat) (moment : Int) (ts : List Int) : Prop where
  lo : -1 ≤ moment
  up : ∀ e ∈ es, e.t ≤ moment
  len : ts.length ≤ i
  asc : ts.Pairwise (· < ·)
  tl : ∀ t ∈ ts, 0 ≤ t ∧ t ≤ 10 ^ 12 ∧ t ≤ moment
  tu : ∀ e ∈ es, ∀ t ∈ ts, e.t < t
theorem Mom.go {es : List Ent} {i : Nat} {m m' : Int} {ts : List Int} (h : Mom es i m ts) (hm : m < m') : Mom es (i + 1) m' ts := ⟨by have := h.lo; omega, fun e he => by have := h.up e he; omega, Nat.le_succ_of_le h.len, h.asc, fun t ht => by have := h.tl t ht; omega, h.tu⟩
theorem Mom.app {es : List Ent} {i : Nat} {m m' : Int} {ts : List Int} (h : Mom es i m ts) (hm : m < m') (h12 : m' ≤ 10 ^ 12) : Mom es (i + 1) m' (ts ++ [m']) := by
  refine ⟨by have := h.lo; omega, fun e he => by have := h.up e he; omega, by simp; exact h.len, ?_, fun t ht => ?_, fun e he t ht => ?_⟩
  · rw [List.pairwise_append]
    exact ⟨h.asc, List.pairwise_singleton _ _, fun a ha b hb => by rw [List.mem_singleton.mp hb]; have := h.tl a ha; omega⟩
  · rcases List.mem_append.mp ht with z | z
    · have := h.tl t z; omega
    · rw [List.mem_singleton.mp z]; have := h.lo; omega
  · rcases List.mem_append.mp ht with z | z
    · exact h.tu e he t z
    · rw [List.mem_singleton.mp z]; have := h.up e he; omega
theorem Mom.lat {es : List Ent} (he : EsOk es) {i : Nat} {m : Int} {ts : List Int} (h : Mom es i m ts) (hl : ts.length ≤ 60) : LatOk es (lastN es) ts := ⟨hl, h.asc, fun t ht => ⟨(h.tl t ht).1, (h.tl t ht).2.1⟩, h.tu, fun e hm => by
  unfold lastN
  rw [if_neg (by cases es with | nil => cases hm | cons a l => exact Nat.succ_ne_zero _)]
  exact last_max he.asc hm⟩
abbrev E_lt (r : D) (es : List Ent) (step many moment : Int) (ts : List Int) (b6 : Option Bd) : DEnv := [some ⟨r, 1, true⟩, some ⟨.lst (es.map eD), 0, false⟩, some ⟨.int step, 0, false⟩, some ⟨.int many, 0, false⟩, some ⟨.int moment, 0, false⟩, some ⟨.lst (ts.map .int), 1, false⟩, b6]
theorem made_loop (es : List Ent) (step many : Int) (h0 : 1 ≤ step) (h1 : step ≤ 10 ^ 9) {items : List D} (hl : items.length ≤ 60) {r : D} (hr : Row r) {moment : Int} (hm : Mom es 0 moment []) (Dn : DEnds)
    (k : ∀ r' moment' ts b6, Row r' → Mom es items.length moment' ts → Dn.nx (E_lt r' es step many moment' ts b6)) : forD (.nm 6) (b__law_later_1 S__law_pick S__law_taken) items (E_lt r es step many moment [] none) Dn := by
  refine for_inv (σ := D × Int × List Int × Option Bd) (fun s => E_lt s.1 es step many s.2.1 s.2.2.1 s.2.2.2) (fun i s => Row s.1 ∧ Mom es i s.2.1 s.2.2.1) ?_ ?_ (r, moment, [], none) ⟨hr, hm⟩
  · rintro i x ⟨r, m, ts, b6⟩ hi ⟨hr, hp⟩ K hk
    have hil := (List.getElem?_eq_some_iff.mp hi).1
    have hp : Mom es i m ts := hp
    have hln := hp.len
    refine And.intro (mul_small (by decide) (by decide)) ?_
    refine And.intro (ms_r rfl) ?_
    refine mk_pick hr (fun z => nomatch z) (Nat.le_of_ble_eq_true rfl) (fun y r1 hy hr1 => ?_)
    have hj : ∃ j : Int, y = .int j ∧ 1 ≤ j ∧ j ≤ 2 * 10 ^ 9 := by
      simp only [List.mem_cons, List.not_mem_nil, or_false] at hy
      rcases hy with rfl | rfl | rfl | rfl
      · exact ⟨_, rfl, by decide, by decide⟩
      · exact ⟨_, rfl, h0, by omega⟩
      · exact ⟨_, rfl, h0, by omega⟩
      · exact ⟨_, rfl, by omega, by omega⟩
    obtain ⟨j, rfl, j0, j1⟩ := hj
    refine mk_taken hr1 (by omega) (by omega) (fun v r2 v0 v1 hr2 => ?_)
    refine And.intro ⟨by decide, by decide, by decide⟩ ?_
    refine brB_dec (p := m + 1 + v ≤ 10 ^ (12 : Nat)) (fun c => ?_) (fun c => ?_)
    · refine And.intro (ms_lt (show (ts.map D.int).length ≤ 1000 by rw [List.length_map]; omega)) ?_
      have := hk (r2, m + 1 + v, ts ++ [m + 1 + v], some ⟨x, 0, false⟩) ⟨hr2, hp.app (show m < m + 1 + v by omega) c⟩
      unfold E_lt at this
      rw [List.map_append] at this
      exact this
    · exact hk (r2, m + 1 + v, ts, some ⟨x, 0, false⟩) ⟨hr2, hp.go (show m < m + 1 + v by omega)⟩
  · rintro ⟨r, m, ts, b6⟩ ⟨hr, hp⟩
    exact k r m ts b6 hr hp
theorem p_lawlater (ds : List D) (post : DPost) (h : S__law_later ds post) (_ : ds.length = ms__law_later.length) : t__law_later S__law_pick S__law_taken (env0 ms__law_later ds N__law_later.length) (endsOf ms__law_later post) := by
  obtain ⟨r, es, step, rfl, hr, he, h0, h1, k⟩ := h
  refine And.intro (ms_r rfl) ?_
  refine mk_pick hr (fun z => nomatch z) (Nat.le_of_ble_eq_true rfl) (fun y r1 hy hr1 => ?_)
  have hj : ∃ j : Int, y = .int j ∧ 0 ≤ j ∧ j ≤ 60 := by
    simp only [List.mem_cons, List.not_mem_nil, or_false] at hy
    rcases hy with rfl | rfl | rfl | rfl | rfl | rfl | rfl | rfl | rfl | rfl <;> exact ⟨_, rfl, by decide, by decide⟩
  obtain ⟨many, rfl, m0, m1⟩ := hj
  -- what follows the loop
  have tail : ∀ (r : D) (moment : Int) (ts : List Int) (b6 : Option Bd) (i : Nat), i ≤ 60 → Row r → Mom es i moment ts →
      (sdSeq (sdIf (ttAnd (ttB (tO2 odEq (eCall ms__law_taken S__law_taken [] (gaIoL 0 (gaVal (eP (pC (.int 8))) (gaNil)))) (eP (pC (.int 0))))) (ttAnd (ttPB (tP2 odLt (tPN odLen (apCons (pVar 5) apNil)) (pC (.int 60)))) (ttPB (tP2 odLt (tP2 odIx (tP2 odAdd (pVar 5) (tPN odLst (apCons (pVar 4) (apNil)))) (tP1 odNeg (pC (.int 1)))) (tP2 odPow (pC (.int 10)) (pC (.int 12)))))))
        (sdApp 5 (eP (tP2 odPow (pC (.int 10)) (pC (.int 12))))) (sdNil)) (sdRetV 5)) (E_lt r es step many moment ts b6) (endsOf ms__law_later post) := by
    intro r moment ts b6 i hi hr hm
    have hln := hm.len
    refine mk_taken hr (by decide) (by decide) (fun v r2 v0 v1 hr2 => ?_)
    have out : post.rt (.lst (ts.map .int)) 1 [r2] := k ts r2 (hm.lat he (by omega)) hr2
    refine brB_dec (p := v = 0) (fun _ => ?_) (fun _ => out)
    refine brB_dec (p := ((ts.map D.int).length : Int) < 60) (fun c => ?_) (fun _ => out)
    rw [List.length_map] at c
    refine And.intro (ms_r rfl) (And.intro (ms_le (by rw [List.length_map, List.length_singleton]; omega)) ?_)
    refine someD_mk getI_last ?_
    refine And.intro ⟨by decide, by decide, by decide⟩ ?_
    refine brB_dec (p := moment < 10 ^ (12 : Nat)) (fun c2 => ?_) (fun _ => out)
    refine And.intro ⟨by decide, by decide, by decide⟩ ?_
    refine And.intro (ms_lt (by rw [List.length_map]; omega)) ?_
    have out2 : post.rt (.lst ((ts ++ [10 ^ 12]).map .int)) 1 [r2] := k _ r2 ((hm.app c2 (Int.le_refl _)).lat he (by simp; omega)) hr2
    rw [List.map_append] at out2
    exact out2
  have hl : (rngD 0 many.toNat).length ≤ 60 := by rw [rngD_len]; omega
  refine And.intro (ms_r rfl) ?_
  refine neNil (n := 3) (xs := es.map eD) (es_flat he) (by decide) ?_
  refine brB_2 (b := !(es.map eD).isEmpty) (fun c => ?_) (fun c => ?_)
  · have hp : 0 < es.length := ne_len (by simpa using c)
    refine someD_mk (last_geti hp) ?_
    refine And.intro ⟨by omega, by omega⟩ ?_
    have hmm : Mom es 0 (es.getD (es.length - 1) e0).t [] := by
      have t0 := (he.ok _ (last_mem hp)).t0
      refine ⟨by omega, fun e hm => ?_, Nat.le_refl _, List.Pairwise.nil, fun t ht => (nomatch ht), fun e _ t ht => nomatch ht⟩
      obtain ⟨i, hi, rfl⟩ := List.getElem_of_mem hm
      by_cases ci : i = es.length - 1
      · rw [show es.getD (es.length - 1) e0 = es[es.length - 1] by simp [show es.length - 1 < es.length by omega]]
        subst ci
        exact Int.le_refl _
      · have := List.pairwise_iff_getElem.mp he.asc i (es.length - 1) hi (by omega) (by omega)
        rw [show es.getD (es.length - 1) e0 = es[es.length - 1] by simp [show es.length - 1 < es.length by omega]]
        exact Int.le_of_lt this.2
    refine made_loop es step many h0 h1 (items := rngD 0 many.toNat) hl hr1 hmm _ (fun r' moment' ts b6 hr' hm' => ?_)
    exact tail r' moment' ts b6 _ hl hr' hm'
  · have e : es = [] := emp_nil (by simpa using c)
    refine And.intro ⟨by omega, by omega⟩ ?_
    have hmm : Mom es 0 (-1) [] := ⟨by decide, fun e' hm => (by rw [e] at hm; cases hm), Nat.le_refl _, List.Pairwise.nil, fun t ht => (nomatch ht), fun e _ t ht => nomatch ht⟩
    refine made_loop es step many h0 h1 (items := rngD 0 many.toNat) hl hr1 hmm _ (fun r' moment' ts b6 hr' hm' => ?_)
    exact tail r' moment' ts b6 _ hl hr' hm'
/-! ### falls, by the law -/
section
variable {es : List Ent} {rs : List Rl} {nb : Int} {ts : List Int}
def updL (es : List Ent) (rs : List Rl) (nb : Int) (ts : List Int) (k : Nat) (S : List Int) (n : Int) : D := if n ∈ S ∧ fa es rs nb ts n k = none ∧ st es rs nb ts k n = false then .int (k : Int) else oD (fa es rs nb ts n k)
abbrev updM (es : List Ent) (rs : List Rl) (nb : Int) (ts : List Int) (k : Nat) (S : List Int) : List (Key × D) := (keepF rs es).map fun e => ((.inl e.n : Key), updL es rs nb ts k S e.n)
theorem updM_nil (k : Nat) : fallD es rs nb ts k = updM es rs nb ts k [] := by
  refine List.map_congr_left fun e _ => ?_
  unfold updL
  rw [if_neg (fun z => by simp at z)]
theorem updL_out {k : Nat} {S : List Int} {n : Int} (h : n ∉ S) : updL es rs nb ts k S n = oD (fa es rs nb ts n k) := by
  unfold updL
  rw [if_neg (fun z => h z.1)]
theorem updM_all {k : Nat} : updM es rs nb ts k ((keepF rs es).map Ent.n) = fallD es rs nb ts (k + 1) := by
  refine List.map_congr_left fun e hm => ?_
  unfold updL
  show _ = ((.inl e.n : Key), oD (if fa es rs nb ts e.n k = none ∧ st es rs nb ts k e.n = false then some k else fa es rs nb ts e.n k))
  have hin : e.n ∈ (keepF rs es).map Ent.n := List.mem_map.mpr ⟨e, hm, rfl⟩
  by_cases c : fa es rs nb ts e.n k = none ∧ st es rs nb ts k e.n = false
  · rw [if_pos ⟨hin, c⟩, if_pos c]; rfl
  · rw [if_neg (fun z => c z.2), if_neg c]
theorem updM_put {k : Nat} {S : List Int} {x : Int} (hx : ∃ e ∈ keepF rs es, e.n = x) (h1 : fa es rs nb ts x k = none) (h2 : st es rs nb ts k x = false) : putD (updM es rs nb ts k S) (.inl x) (.int (k : Int)) = updM es rs nb ts k (S ++ [x]) := by
  unfold updM
  rw [put_over Ent.n (fun e => updL es rs nb ts k S e.n) x (.int (k : Int)) hx]
  refine List.map_congr_left fun e _ => ?_
  unfold updL
  by_cases h : e.n = x
  · rw [if_pos h, if_pos ⟨by simp [h], by rw [h]; exact h1, by rw [h]; exact h2⟩]
  · rw [if_neg h]
    have : e.n ∈ S ++ [x] ↔ e.n ∈ S := by simp [h]
    simp only [this]
theorem updM_same {k : Nat} {S : List Int} {x : Int} (h : ¬ (fa es rs nb ts x k = none ∧ st es rs nb ts k x = false)) : updM es rs nb ts k S = updM es rs nb ts k (S ++ [x]) := by
  refine List.map_congr_left fun e _ => ?_
  unfold updL
  by_cases c : e.n = x
  · rw [if_neg (fun z => h (by rw [← c]; exact z.2)), if_neg (fun z => h (by rw [← c]; exact z.2))]
  · have : e.n ∈ S ++ [x] ↔ e.n ∈ S := by simp [c]
    simp only [this]
theorem oD_sound (o : Option Nat) : (oD o).sound = true := by cases o <;> rfl
theorem oD_non (o : Option Nat) : (oD o).isNon = decide (o = none) := by cases o <;> rfl
theorem law_put (he : EsOk es) (hr : RsOk rs) {k : Nat} (a0 a1 a2 a3 a4 a6 a8 a9 : Option Bd) (n10 : Nat) (Dn : DEnds)
    (kk : ∀ a6, Dn.nx [a0, a1, a2, a3, a4, some ⟨.dK (fallD es rs nb ts (k + 1)), 1, false⟩, a6, some ⟨.int (k : Int), 0, false⟩, a8, a9, some ⟨.dK (dueK (upto es nb ts (k + 1)) rs), n10, false⟩]) :
    forD (.nm 6) (b__law_falls_2 S__law_due) (nmL (keepF rs es)) [a0, a1, a2, a3, a4, some ⟨.dK (fallD es rs nb ts k), 1, false⟩, a6, some ⟨.int (k : Int), 0, false⟩, a8, a9, some ⟨.dK (dueK (upto es nb ts (k + 1)) rs), n10, false⟩] Dn := by
  have lk : (keepF rs es).length ≤ 60 := Nat.le_trans (keepF_sub rs es).length_le he.len
  rw [updM_nil]
  refine for_inv (σ := List Int × Option Bd) (fun s => [a0, a1, a2, a3, a4, some ⟨.dK (updM es rs nb ts k s.1), 1, false⟩, s.2, some ⟨.int (k : Int), 0, false⟩, a8, a9, some ⟨.dK (dueK (upto es nb ts (k + 1)) rs), n10, false⟩]) (fun i s => s.1 = ((keepF rs es).take i).map Ent.n) ?_ ?_ ([], a6) rfl
  · rintro i x ⟨S, b6⟩ hi hp K hkk
    obtain ⟨e, hy, rfl⟩ := get_map hi
    have hp : S = ((keepF rs es).take i).map Ent.n := hp
    have hnext : S ++ [e.n] = ((keepF rs es).take (i + 1)).map Ent.n := by rw [take_snoc hy, ← hp]
    have go := hkk (S ++ [e.n], some ⟨.int e.n, 0, false⟩) hnext
    dsimp only at go
    have hm : e ∈ keepF rs es := List.mem_of_getElem? hy
    have hnS : e.n ∉ S := by
      rw [hp]
      intro z
      obtain ⟨y, h1, h2⟩ := List.mem_map.mp z
      obtain ⟨j, hj, rfl⟩ := List.getElem_of_mem h1
      rw [List.length_take] at hj
      obtain ⟨hil, rfl⟩ := List.getElem?_eq_some_iff.mp hy
      have := List.pairwise_iff_getElem.mp (keep_names he) j i (by omega) hil (by omega)
      rw [List.getElem_take] at h2
      exact this h2
    have lo : lookD (updM es rs nb ts k S) (.inl e.n) = some (oD (fa es rs nb ts e.n k)) := by
      rw [look_over Ent.n (fun e => updL es rs nb ts k S e.n) hm (keep_names he), updL_out hnS]
    refine someD_mk lo ?_
    refine And.intro (oD_sound _) ?_
    refine brB_2 (b := (oD (fa es rs nb ts e.n k)).isNon) (fun c1 => ?_) (fun c1 => ?_)
    · rw [oD_non] at c1
      have c1 := of_decide_eq_true c1
      refine brB_2 (b := !(lookD (dueK (upto es nb ts (k + 1)) rs) (.inl e.n)).isSome) (fun c2 => ?_) (fun c2 => ?_)
      · rw [due_look hr.ok] at c2
        have hs : st es rs nb ts k e.n = false := by rw [Bool.not_eq_true'] at c2; exact c2
        refine And.intro (ms_lt (by rw [List.length_map]; omega)) ?_
        rw [← updM_put ⟨e, hm, rfl⟩ c1 hs] at go
        exact go
      · rw [due_look hr.ok] at c2
        have hs : st es rs nb ts k e.n = true := by rw [Bool.not_eq_false'] at c2; exact c2
        rw [← updM_same (S := S) (fun z => by rw [hs] at z; exact absurd z.2 (by decide))] at go
        exact go
    · rw [oD_non] at c1
      have c1 := of_decide_eq_false c1
      rw [← updM_same (S := S) (fun z => c1 z.1)] at go
      exact go
  · rintro ⟨S, b6⟩ hp
    have hp : S = ((keepF rs es).take (nmL (keepF rs es)).length).map Ent.n := hp
    rw [List.length_map, List.take_length] at hp
    subst hp
    show Dn.nx [a0, a1, a2, a3, a4, some ⟨.dK (updM es rs nb ts k ((keepF rs es).map Ent.n)), 1, false⟩, b6, some ⟨.int (k : Int), 0, false⟩, a8, a9, some ⟨.dK (dueK (upto es nb ts (k + 1)) rs), n10, false⟩]
    rw [updM_all]
    exact kk b6
theorem none_loop (he : EsOk es) (a0 a1 a2 a3 a4 a6 a7 a8 a9 a10 : Option Bd) (Dn : DEnds) (kk : ∀ a6, Dn.nx [a0, a1, a2, a3, a4, some ⟨.dK (fallD es rs nb ts 0), 1, false⟩, a6, a7, a8, a9, a10]) :
    forD (.nm 6) (b__law_falls_1 S__law_due) (nmL (keepF rs es)) [a0, a1, a2, a3, a4, some ⟨.dK [], 1, false⟩, a6, a7, a8, a9, a10] Dn := by
  have lk : (keepF rs es).length ≤ 60 := Nat.le_trans (keepF_sub rs es).length_le he.len
  refine for_inv (σ := List Ent × Option Bd) (fun s => [a0, a1, a2, a3, a4, some ⟨.dK (s.1.map fun e => ((.inl e.n : Key), D.non)), 1, false⟩, s.2, a7, a8, a9, a10]) (fun i s => s.1 = (keepF rs es).take i) ?_ ?_ ([], a6) rfl
  · rintro i x ⟨S, b6⟩ hi hp K hk
    obtain ⟨e, hy, rfl⟩ := get_map hi
    have hp : S = (keepF rs es).take i := hp
    have hl : S.length ≤ 60 := by rw [hp, List.length_take]; omega
    have fresh : ∀ y ∈ S, y.n ≠ e.n := by
      rw [hp]
      intro y h1
      obtain ⟨j, hj, rfl⟩ := List.getElem_of_mem h1
      rw [List.length_take] at hj
      obtain ⟨hil, rfl⟩ := List.getElem?_eq_some_iff.mp hy
      rw [List.getElem_take]
      exact List.pairwise_iff_getElem.mp (keep_names he) j i (by omega) hil (by omega)
    refine And.intro (ms_lt (show (S.map fun e => ((.inl e.n : Key), D.non)).length ≤ 1000 by rw [List.length_map]; omega)) ?_
    have go := hk (S ++ [e], some ⟨.int e.n, 0, false⟩) (by show S ++ [e] = _; rw [hp, List.take_add_one, hy]; rfl)
    dsimp only at go
    rw [← put_new Ent.n (fun _ => D.non) fresh] at go
    exact go
  · rintro ⟨S, b6⟩ hp
    have hp : S = (keepF rs es).take (nmL (keepF rs es)).length := hp
    rw [List.length_map, List.take_length] at hp
    subst hp
    exact kk b6
theorem take_range (n k : Nat) (h : k ≤ n) : (List.range' 0 n).take k = List.range' 0 k := by
  refine List.ext_getElem? fun i => ?_
  by_cases hi : i < k
  · rw [List.getElem?_take_of_lt hi, List.getElem?_range' (by omega), List.getElem?_range' hi]
  · rw [List.getElem?_eq_none (by simp; omega), List.getElem?_eq_none (by simp; omega)]
theorem upto_copy {k : Nat} (hk : k ≤ ts.length) : (es.map cp).map eD ++ ([] ++ (List.range' 0 k).map fun j => eD (latE nb ts j)) = ((upto es nb ts k).map cp).map eD := by
  unfold upto lat
  rw [List.nil_append, List.map_append, List.map_append, ← List.map_take, take_range _ _ hk, List.map_map, List.map_map, List.map_map]
  rfl
theorem lf_rest (he : EsOk es) (h : LatOk es nb ts) (hr : RsOk rs) {post : DPost} (kp : post.rt (.dK (fallD es rs nb ts ts.length)) 1 []) (a5 a6 a7 a8 a10 : Option Bd) :
    (sdSeq (sdSet 5 (eNew (.dK []) 1))
    (sdSeq (sdFor (itSeq (tON odList (aCons (eVar 3) aNil))) (.nm 6) (b__law_falls_1 S__law_due))
    (sdSeq (sdFor (itN odRng1 (aCons (eP (tPN odLen (apCons (pVar 2) apNil))) (aNil))) (.nm 7) (b__law_falls_3 S__law_due))
    (sdRetV 5)))) [some ⟨.lst ((es.map cp).map eD), 0, false⟩, some ⟨.lst (rs.map rD), 0, false⟩, some ⟨.lst (ts.map .int), 0, false⟩, some ⟨.dK (dueK es rs), 0, false⟩, some ⟨.int nb, 0, false⟩, a5, a6, a7, a8, none, a10] (endsOf ms__law_falls post) := by
  have hl := h.len
  have hel := he.len
  show forD (.nm 6) (b__law_falls_1 S__law_due) (keysL (dueK es rs)) [some ⟨.lst ((es.map cp).map eD), 0, false⟩, some ⟨.lst (rs.map rD), 0, false⟩, some ⟨.lst (ts.map .int), 0, false⟩, some ⟨.dK (dueK es rs), 0, false⟩, some ⟨.int nb, 0, false⟩, some ⟨.dK [], 1, false⟩, a6, a7, a8, none, a10] _
  rw [keys_nm hr.ok]
  refine none_loop (nb := nb) (ts := ts) he _ _ _ _ _ _ _ _ _ _ _ (fun c6 => ?_)
  have eL : ((ts.map D.int).length : Int).toNat = ts.length := by rw [List.length_map]; omega
  refine And.intro (show -(2 ^ 62) ≤ ((ts.map D.int).length : Int) ∧ ((ts.map D.int).length : Int) < 2 ^ 62 by rw [List.length_map]; omega) ?_
  rw [eL, rngD_nD]
  refine for_inv (σ := List (Key × D) × Option Bd × Option Bd × Option Bd × Option Bd) (fun s => [some ⟨.lst ((es.map cp).map eD), 0, false⟩, some ⟨.lst (rs.map rD), 0, false⟩, some ⟨.lst (ts.map .int), 0, false⟩, some ⟨.dK (dueK es rs), 0, false⟩, some ⟨.int nb, 0, false⟩, some ⟨.dK s.1, 1, false⟩, s.2.1, s.2.2.1, s.2.2.2.1, none, s.2.2.2.2]) (fun i s => s.1 = fallD es rs nb ts i) ?_ ?_ (fallD es rs nb ts 0, c6, a7, a8, a10) rfl
  · rintro i x ⟨kvs, b6, b7, b8, b10⟩ hi hp K hk
    have hp : kvs = fallD es rs nb ts i := hp
    subst hp
    obtain ⟨q, hq, rfl⟩ := get_map hi
    have hil : i < ts.length := by have := (List.getElem?_eq_some_iff.mp hi).1; simpa using this
    have eq : q = i := by
      rw [List.getElem?_range' hil] at hq
      simpa using hq.symm
    subst eq
    have eT : ((q : Int) + 1).toNat = q + 1 := by omega
    refine And.intro (show -(2 ^ 62) ≤ (q : Int) + 1 ∧ (q : Int) + 1 < 2 ^ 62 by omega) ?_
    show lcD (.nm 9) ttYes (e__law_falls_1 S__law_due) [9] (rngD 0 ((q : Int) + 1).toNat) [] [some ⟨.lst ((es.map cp).map eD), 0, false⟩, some ⟨.lst (rs.map rD), 0, false⟩, some ⟨.lst (ts.map .int), 0, false⟩, some ⟨.dK (dueK es rs), 0, false⟩, some ⟨.int nb, 0, false⟩, some ⟨.dK (fallD es rs nb ts q), 1, false⟩, b6, some ⟨.int (q : Int), 0, false⟩, b8, none, b10] _
    rw [eT, rngD_nD]
    have as := upto_as he h (q + 1)
    have eU := upto_copy (es := es) (nb := nb) (ts := ts) (k := q + 1) (by omega)
    have asC : EsAs ((upto es nb ts (q + 1)).map cp) := by
      refine ⟨by rw [cp_len]; exact as.len, fun e m => ?_, ?_⟩
      · obtain ⟨e', h1, rfl⟩ := List.mem_map.mp m
        exact as.tl e' h1
      · rw [List.pairwise_map]
        exact as.asc
    have du : ∀ post : DPost, post.rt (.dK (dueK (upto es nb ts (q + 1)) rs)) 1 [] → S__law_due [.lst ((es.map cp).map eD ++ ([] ++ (List.range' 0 (q + 1)).map fun j => eD (latE nb ts j))), .lst (rs.map rD)] post := fun post z => by
      rw [eU]
      exact mk_due asC hr (by rw [cp_due]; exact z)
    refine lc_map (E := [some ⟨.lst ((es.map cp).map eD), 0, false⟩, some ⟨.lst (rs.map rD), 0, false⟩, some ⟨.lst (ts.map .int), 0, false⟩, some ⟨.dK (dueK es rs), 0, false⟩, some ⟨.int nb, 0, false⟩, some ⟨.dK (fallD es rs nb ts q), 1, false⟩, b6, some ⟨.int (q : Int), 0, false⟩, b8, none, b10]) (fun (j : Nat) => D.int (j : Int)) (fun j => eD (latE nb ts j)) (List.range' 0 (q + 1)) [] (by simp; omega) (fun j hj A g => ?_) ?_
    · rw [List.mem_range'_1] at hj
      have hjl : j < ts.length := by omega
      have gx : getI (ts.map D.int) (j : Int) = some (.int (ts.getD j 0)) := getI_nat (by rw [List.getElem?_map, List.getElem?_eq_getElem hjl]; simp [hjl])
      refine someD_mk gx ?_
      refine And.intro (ms_r rfl) (And.intro (ms_r rfl) ?_)
      exact g
    · refine And.intro (ms_le (by simp; omega)) ?_
      refine du _ ?_
      show forD (.nm 6) (b__law_falls_2 S__law_due) (keysL (dueK es rs)) [some ⟨.lst ((es.map cp).map eD), 0, false⟩, some ⟨.lst (rs.map rD), 0, false⟩, some ⟨.lst (ts.map .int), 0, false⟩, some ⟨.dK (dueK es rs), 0, false⟩, some ⟨.int nb, 0, false⟩, some ⟨.dK (fallD es rs nb ts q), 1, false⟩, b6, some ⟨.int (q : Int), 0, false⟩, some ⟨.lst ((es.map cp).map eD ++ ([] ++ (List.range' 0 (q + 1)).map fun j => eD (latE nb ts j))), 0, false⟩, none, some ⟨.dK (dueK (upto es nb ts (q + 1)) rs), 1, false⟩] _
      rw [keys_nm hr.ok]
      refine law_put he hr _ _ _ _ _ _ _ _ 1 _ (fun d6 => ?_)
      exact hk (fallD es rs nb ts (q + 1), d6, _, _, _) rfl
  · rintro ⟨kvs, b6, b7, b8, b10⟩ hp
    have hp : kvs = fallD es rs nb ts (nD (List.range' 0 ts.length)).length := hp
    rw [List.length_map, List.length_range'] at hp
    subst hp
    exact kp
end
def S__law_falls : DSp := fun ds post => ∃ es rs ts, ds = [.lst ((es.map cp).map eD), .lst (rs.map rD), .lst (ts.map .int)] ∧ EsOk es ∧ RsOk rs ∧ LatOk es (lastN es) ts ∧ post.rt (.dK (fallD es rs (lastN es) ts ts.length)) 1 []
theorem mk_lawfalls {post : DPost} {es : List Ent} {rs : List Rl} {ts : List Int} (he : EsOk es) (hr : RsOk rs) (h : LatOk es (lastN es) ts) (k : post.rt (.dK (fallD es rs (lastN es) ts ts.length)) 1 []) : S__law_falls [.lst ((es.map cp).map eD), .lst (rs.map rD), .lst (ts.map .int)] post := ⟨es, rs, ts, rfl, he, hr, h, k⟩
theorem last_getc {es : List Ent} (h : 0 < es.length) : getI ((es.map cp).map eD) (-1) = some (eD (cp (es.getD (es.length - 1) e0))) := by
  have := last_geti (es := es.map cp) (by rw [cp_len]; exact h)
  rw [this, cp_len]
  have h1 : es.length - 1 < es.length := by omega
  simp [h1]
theorem p_lawfalls (ds : List D) (post : DPost) (h : S__law_falls ds post) (_ : ds.length = ms__law_falls.length) : t__law_falls S__law_due (env0 ms__law_falls ds N__law_falls.length) (endsOf ms__law_falls post) := by
  obtain ⟨es, rs, ts, rfl, he, hr, h, k⟩ := h
  have du : ∀ post : DPost, post.rt (.dK (dueK es rs)) 1 [] → S__law_due [.lst ((es.map cp).map eD), .lst (rs.map rD)] post := fun post z => mk_due (cp_ok he).as hr (by rw [cp_due]; exact z)
  refine du _ ?_
  refine And.intro (ms_r rfl) ?_
  refine neNil (n := 3) (xs := (es.map cp).map eD) (es_flat (cp_ok he)) (by decide) ?_
  refine brB_2 (b := !((es.map cp).map eD).isEmpty) (fun c => ?_) (fun c => ?_)
  · have hp : 0 < es.length := by have := ne_len (es := es.map cp) (by simpa using c); rw [cp_len] at this; exact this
    have el : lastN es = (es.getD (es.length - 1) e0).n := by unfold lastN; rw [if_neg (by omega)]
    refine someD_mk (last_getc hp) ?_
    refine And.intro (ms_r rfl) ?_
    have := lf_rest he h hr k none none none none none
    rw [el] at this
    exact this
  · have e : es = [] := by
      have := emp_nil (es := es.map cp) (by simpa using c)
      exact List.map_eq_nil_iff.mp this
    refine And.intro (ms_r rfl) ?_
    subst e
    have h2 : LatOk [] 0 ts := ⟨h.len, h.asc, h.lo, fun e m => (nomatch m), fun e m => nomatch m⟩
    exact lf_rest (nb := 0) he h2 hr k none none none none none
end K77
set_option Elab.async false
set_option linter.all false
set_option maxRecDepth 100000
set_option maxHeartbeats 4000000
/-! k77, part t: the law (printed by mk77.py). -/
namespace K77
open PySem L2 PySem.Spec PyProof.Rows DL
theorem mk_label {post : DPost} {r : D} (hr : Row r) (k : ∀ s r', Lab s → s ≠ ("" : Str) → Row r' → post.rt (.str s) 0 [r']) : S__law_label [r] post := ⟨r, rfl, hr, k⟩
def S_law : DSp := fun ds post => ∃ ns : List Int, ds = [.lst (ns.map .int)] ∧ post.rt (.bl true) 0 []
abbrev PE (a0 a2 a3 a5 a6 a7 a8 a9 a10 a11 a12 a13 a14 a15 : Option Bd) (r : D) : DEnv := [a0, some ⟨r, 1, false⟩, a2, a3, none, a5, a6, a7, a8, a9, a10, a11, a12, a13, a14, a15]
theorem pool_made {S1 S2 S4 S5 S6 S7 S8 S9 : DSp} (a0 a2 a3 a5 a6 a7 a8 a9 a10 a11 a12 a13 a14 a15 : Option Bd) {items : List D} (hl : items.length ≤ 10) {r : D} (hr : Row r) {Q : QE}
    (k : ∀ (pool : List Str) r', pool.length = items.length → (∀ s ∈ pool, Lab s ∧ s ≠ ("" : Str)) → Row r' → Q (.lst (pool.map .str)) 1 (PE a0 a2 a3 a5 a6 a7 a8 a9 a10 a11 a12 a13 a14 a15 r')) :
    lcD (.nm 4) ttYes (e_law_1 S1 S2 S__law_label S4 S5 S6 S7 S8 S9) [4] items [] (PE a0 a2 a3 a5 a6 a7 a8 a9 a10 a11 a12 a13 a14 a15 r) Q := by
  refine lc_inv (σ := D) (PE a0 a2 a3 a5 a6 a7 a8 a9 a10 a11 a12 a13 a14 a15) (fun i r acc => Row r ∧ ∃ pool : List Str, acc = pool.map .str ∧ pool.length = i ∧ ∀ s ∈ pool, Lab s ∧ s ≠ ("" : Str)) (by omega) ?_ ?_ r ⟨hr, [], rfl, rfl, fun s h => nomatch h⟩
  · rintro i x r acc hi ⟨hr, pool, rfl, hp, hs⟩ A B h1 h2
    refine mk_label hr (fun s r' g1 g2 hr' => ?_)
    refine h1 _ r' ⟨hr', pool ++ [s], by rw [List.map_append]; rfl, by simp [hp], fun u hu => ?_⟩
    rcases List.mem_append.mp hu with z | z
    · exact hs u z
    · rw [List.mem_singleton.mp z]; exact ⟨g1, g2⟩
  · rintro r acc ⟨hr, pool, rfl, hp, hs⟩
    exact k pool r hp hs hr
abbrev KL (f : DSp → DSp → DSp → DSp → DSp → DSp → DSp → DSp → DSp → SD) : SD := f S__law_step S__law_taken S__law_label S__law_entries S__law_rules S__law_later S__law_falls S_falls (SA 3)
abbrev FD (es : List Ent) (rs : List Rl) (ts : List Int) : D := .dK (fallD es rs (lastN es) ts ts.length)
theorem good_fall {es : List Ent} {rs : List Rl} {ts : List Int} (he : EsOk es) : Good 2 (FD es rs ts) := by
  refine ⟨?_, fun kv hk => ?_⟩
  · have := (keepF_sub rs es).length_le
    have := he.len
    show ((keepF rs es).map _).length ≤ 1000
    rw [List.length_map]
    omega
  · obtain ⟨e, _, rfl⟩ := List.mem_map.mp hk
    refine ⟨⟨_, rfl⟩, ?_⟩
    show Good 1 (oD (fa es rs (lastN es) ts e.n ts.length))
    cases fa es rs (lastN es) ts e.n ts.length <;> exact trivial
theorem mk_alikeF {post : DPost} {es : List Ent} {rs : List Rl} {ts : List Int} (he : EsOk es) (k : post.rt (.bl true) 0 []) : SA 3 [FD es rs ts, FD es rs ts] post := mk_alike (n := 2) (good_fall he) k
theorem take_rs {rs : List Rl} (h : RsOk rs) (n : Nat) : RsOk (rs.take n) := ⟨Nat.le_trans (List.take_sublist _ _).length_le h.len, fun r m => h.ok r (List.mem_of_mem_take m)⟩
theorem take_lat {es : List Ent} {nb : Int} {ts : List Int} (h : LatOk es nb ts) (n : Nat) : LatOk es nb (ts.take n) := ⟨Nat.le_trans (List.take_sublist _ _).length_le h.len, List.Pairwise.sublist (List.take_sublist _ _) h.asc, fun t m => h.lo t (List.mem_of_mem_take m), fun e he t m => h.up e he t (List.mem_of_mem_take m), h.nm⟩
theorem cut_any {α : Type} (f : α → D) (xs : List α) (m : Int) (h0 : 0 ≤ m) : DL.cutD (xs.map f) none (some m) = (xs.take m.toNat).map f := by
  have e : HT.sIx (xs.map f).length (xs.map f).length (some m) = min m.toNat xs.length := by
    show (if m < 0 then (m + ((xs.map f).length : Int)).toNat else min m.toNat (xs.map f).length) = _
    rw [if_neg (by omega), List.length_map]
  unfold DL.cutD
  rw [e]
  show List.take (min m.toNat xs.length - 0) (List.drop 0 (xs.map f)) = _
  rw [List.drop_zero, Nat.sub_zero, ← List.map_take]
  congr 1
  rw [List.take_eq_take_iff]
  omega
theorem held_loop {te : ET} {E : DEnv} {Q : QE} (es : List Ent) (hl : es.length ≤ 60) (hs : ∀ e ∈ es, ∀ (A : D → DEnv → Prop), A (eD (cp e)) E → bindT (.tu [.nm 9, .nm 10, .nm 11]) (eD e) E fun env1 => te env1 (fun d _ env3 => A d (wipeD env3 [9, 10, 11])) noX) (k : Q (.lst ((es.map cp).map eD)) 1 E) :
    lcD (.tu [.nm 9, .nm 10, .nm 11]) ttYes te [9, 10, 11] (es.map eD) [] E Q := by
  refine lc_map eD (fun e => eD (cp e)) es [] (by simp; omega) hs ?_
  rw [List.map_map] at k
  exact k
theorem q1 {post : DPost} (k : post.rt (.bl true) 0 []) {es : List Ent} {rs : List Rl} {ts : List Int} (he : EsOk es) (hr : RsOk rs) (ht : LatOk es (lastN es) ts) (a0 a1 a2 a3 a4 a6 a9 a10 a11 a12 a13 a14 a15 : Option Bd) (n5 n7 n8 : Nat) :
    KL k_law_1 [a0, a1, a2, a3, a4, some ⟨.lst (es.map eD), n5, false⟩, a6, some ⟨.lst (ts.map .int), n7, false⟩, some ⟨.lst ((es.map cp).map eD), n8, false⟩, a9, a10, a11, a12, a13, a14, a15] (endsOf ms_law post) := by
  refine mk_falls true true true (rs := []) he ⟨by decide, fun r m => nomatch m⟩ ht ?_
  refine mk_lawfalls (rs := []) he ⟨by decide, fun r m => nomatch m⟩ ht ?_
  exact mk_alikeF he k
theorem q2 {post : DPost} (k : post.rt (.bl true) 0 []) {es : List Ent} {rs : List Rl} {ts : List Int} (he : EsOk es) (hr : RsOk rs) (ht : LatOk es (lastN es) ts) (a0 a1 a2 a3 a4 a9 a10 a11 a12 a13 a14 a15 : Option Bd) (n5 n6 n7 n8 : Nat) :
    KL k_law_2 [a0, a1, a2, a3, a4, some ⟨.lst (es.map eD), n5, false⟩, some ⟨.lst (rs.map rD), n6, false⟩, some ⟨.lst (ts.map .int), n7, false⟩, some ⟨.lst ((es.map cp).map eD), n8, false⟩, a9, a10, a11, a12, a13, a14, a15] (endsOf ms_law post) := by
  refine And.intro (ms_r rfl) ?_
  refine eqNil (n := 3) (xs := (es.map cp).map eD) (es_flat (cp_ok he)) (by decide) ?_
  refine brB_2 (b := ((es.map cp).map eD).isEmpty) (fun c => ?_) (fun c => ?_)
  · have e : es = [] := List.map_eq_nil_iff.mp (emp_nil c)
    subst e
    have h0 : LatOk [] (lastN []) [0] := ⟨by decide, List.pairwise_singleton _ _, fun t m => by rw [List.mem_singleton.mp m]; exact ⟨by decide, by decide⟩, fun e m => (nomatch m), fun e m => nomatch m⟩
    refine And.intro (ms_r rfl) ?_
    refine mk_falls true true true (es := []) (ts := [0]) he hr h0 ?_
    refine And.intro (.inl rfl) ?_
    exact q1 k he hr ht _ _ _ _ _ _ _ _ _ _ _ _ _ _ _ _
  · exact q1 k he hr ht _ _ _ _ _ _ _ _ _ _ _ _ _ _ _ _
theorem q3 {post : DPost} (k : post.rt (.bl true) 0 []) {es : List Ent} {rs : List Rl} {ts : List Int} (he : EsOk es) (hr : RsOk rs) (ht : LatOk es (lastN es) ts) (m : Nat) (a0 a1 a2 a3 a4 a9 a10 a11 a12 a13 a14 : Option Bd) (n5 n6 n7 n8 n15 : Nat) :
    KL k_law_3 [a0, a1, a2, a3, a4, some ⟨.lst (es.map eD), n5, false⟩, some ⟨.lst (rs.map rD), n6, false⟩, some ⟨.lst (ts.map .int), n7, false⟩, some ⟨.lst ((es.map cp).map eD), n8, false⟩, a9, a10, a11, a12, a13, a14, some ⟨.lst ((ts.take m).map .int), n15, false⟩] (endsOf ms_law post) := by
  refine mk_falls true true true he hr (take_lat ht m) ?_
  refine mk_lawfalls he hr (take_lat ht m) ?_
  refine mk_alikeF he ?_
  exact q2 k he hr ht _ _ _ _ _ _ _ _ _ _ _ _ _ _ _ _
theorem q4 {post : DPost} (k : post.rt (.bl true) 0 []) {es : List Ent} {rs : List Rl} {ts : List Int} (he : EsOk es) (hr : RsOk rs) (ht : LatOk es (lastN es) ts) {r : D} (hrow : Row r) (a0 a2 a3 a4 a9 a10 a11 a12 a13 a14 a15 : Option Bd) (n5 n6 n7 n8 : Nat) :
    KL k_law_4 [a0, some ⟨r, 1, false⟩, a2, a3, a4, some ⟨.lst (es.map eD), n5, false⟩, some ⟨.lst (rs.map rD), n6, false⟩, some ⟨.lst (ts.map .int), n7, false⟩, some ⟨.lst ((es.map cp).map eD), n8, false⟩, a9, a10, a11, a12, a13, a14, a15] (endsOf ms_law post) := by
  have hl := ht.len
  refine mk_taken hrow (by rw [List.length_map]; omega) (by rw [List.length_map]; omega) (fun v r2 v0 v1 hrow2 => ?_)
  have q := q3 k he hr ht v.toNat a0 (some ⟨r2, 1, false⟩) a2 a3 a4 a9 a10 a11 a12 a13 a14 n5 n6 0 n8 1
  rw [← cut_any D.int ts v v0] at q
  exact q
theorem q5 {post : DPost} (k : post.rt (.bl true) 0 []) {es : List Ent} {rs : List Rl} {ts : List Int} (he : EsOk es) (hr : RsOk rs) (ht : LatOk es (lastN es) ts) {r : D} (hrow : Row r) (a0 a2 a3 a4 a12 a13 a14 a15 : Option Bd) (n5 n6 n7 n8 : Nat) :
    KL k_law_5 [a0, some ⟨r, 1, false⟩, a2, a3, a4, some ⟨.lst (es.map eD), n5, false⟩, some ⟨.lst (rs.map rD), n6, false⟩, some ⟨.lst (ts.map .int), n7, false⟩, some ⟨.lst ((es.map cp).map eD), n8, false⟩, none, none, none, a12, a13, a14, a15] (endsOf ms_law post) := by
  refine held_loop (E := [a0, some ⟨r, 1, false⟩, a2, a3, a4, some ⟨.lst (es.map eD), 0, false⟩, some ⟨.lst (rs.map rD), n6, false⟩, some ⟨.lst (ts.map .int), n7, false⟩, some ⟨.lst ((es.map cp).map eD), n8, false⟩, none, none, none, a12, a13, a14, a15]) es he.len (fun e _ A q => ?_) ?_
  · refine sq_tuple ?_
    refine And.intro (ms_r rfl) ?_
    exact q
  refine And.intro (shaped_flat (n := 3) (d := .lst ((es.map cp).map eD)) (es_flat (cp_ok he)) (by decide)) (And.intro (shaped_flat (n := 3) (d := .lst ((es.map cp).map eD)) (es_flat (cp_ok he)) (by decide)) ?_)
  refine brB_f (b := !(PyData.eqv (D.lst ((es.map cp).map eD)).py (D.lst ((es.map cp).map eD)).py)) (nev_self (n := 3) (es_flat (cp_ok he))) ?_
  exact q4 k he hr ht hrow _ _ _ _ _ _ _ _ _ _ _ _ _ _ _
theorem q6 {post : DPost} (k : post.rt (.bl true) 0 []) {es : List Ent} {rs : List Rl} {ts : List Int} (he : EsOk es) (hr : RsOk rs) (ht : LatOk es (lastN es) ts) {r : D} (hrow : Row r) (a0 a2 a3 a4 a13 a14 a15 : Option Bd) (n5 n6 n7 n8 n12 : Nat) :
    KL k_law_6 [a0, some ⟨r, 1, false⟩, a2, a3, a4, some ⟨.lst (es.map eD), n5, false⟩, some ⟨.lst (rs.map rD), n6, false⟩, some ⟨.lst (ts.map .int), n7, false⟩, some ⟨.lst ((es.map cp).map eD), n8, false⟩, none, none, none, some ⟨FD es rs ts, n12, false⟩, a13, a14, a15] (endsOf ms_law post) := by
  refine mk_falls false false false he hr ht ?_
  refine mk_alikeF he ?_
  exact q5 k he hr ht hrow _ _ _ _ _ _ _ _ _ _ _ _
theorem q7 {post : DPost} (k : post.rt (.bl true) 0 []) {es : List Ent} {rs : List Rl} {ts : List Int} (he : EsOk es) (hr : RsOk rs) (ht : LatOk es (lastN es) ts) {r : D} (hrow : Row r) (a0 a2 a3 a4 a13 a15 : Option Bd) (n5 n6 n7 n8 n12 : Nat) :
    KL k_law_7 [a0, some ⟨r, 1, false⟩, a2, a3, a4, some ⟨.lst (es.map eD), n5, false⟩, some ⟨.lst (rs.map rD), n6, false⟩, some ⟨.lst (ts.map .int), n7, false⟩, some ⟨.lst ((es.map cp).map eD), n8, false⟩, none, none, none, some ⟨FD es rs ts, n12, false⟩, a13, some ⟨FD es rs ts, 1, false⟩, a15] (endsOf ms_law post) := by
  have lk := (keepF_sub rs es).length_le
  have hl := he.len
  refine And.intro (ms_lt (show ((keepF rs es).map _).length ≤ 1000 by rw [List.length_map]; omega)) ?_
  exact q6 k he hr ht hrow _ _ _ _ _ _ _ _ _ _ _ _
theorem q8 {post : DPost} (k : post.rt (.bl true) 0 []) {es : List Ent} {rs : List Rl} {ts : List Int} (he : EsOk es) (hr : RsOk rs) (ht : LatOk es (lastN es) ts) {r : D} (hrow : Row r) (a0 a2 a3 a4 a15 : Option Bd) (n5 n6 n7 n8 n12 n13 : Nat) :
    KL k_law_8 [a0, some ⟨r, 1, false⟩, a2, a3, a4, some ⟨.lst (es.map eD), n5, false⟩, some ⟨.lst (rs.map rD), n6, false⟩, some ⟨.lst (ts.map .int), n7, false⟩, some ⟨.lst ((es.map cp).map eD), n8, false⟩, none, none, none, some ⟨FD es rs ts, n12, false⟩, some ⟨.lst (ts.map .int), n13, false⟩, some ⟨FD es rs ts, 1, false⟩, a15] (endsOf ms_law post) := by
  refine mk_alikeF he ?_
  refine And.intro (shaped_flat (n := 1) (d := .lst (ts.map .int)) (flat_ints _) (by decide)) (And.intro (shaped_flat (n := 1) (d := .lst (ts.map .int)) (flat_ints _) (by decide)) ?_)
  refine brB_f (b := !(PyData.eqv (D.lst (ts.map .int)).py (D.lst (ts.map .int)).py)) (nev_self (n := 1) (flat_ints _)) ?_
  exact q7 k he hr ht hrow _ _ _ _ _ _ _ _ _ _ _
theorem q9 {post : DPost} (k : post.rt (.bl true) 0 []) {es : List Ent} {rs : List Rl} {ts : List Int} (he : EsOk es) (hr : RsOk rs) (ht : LatOk es (lastN es) ts) {r : D} (hrow : Row r) (a0 a2 a3 a4 a14 a15 : Option Bd) (n5 n6 n7 n8 n12 n13 : Nat) :
    KL k_law_9 [a0, some ⟨r, 1, false⟩, a2, a3, a4, some ⟨.lst (es.map eD), n5, false⟩, some ⟨.lst (rs.map rD), n6, false⟩, some ⟨.lst (ts.map .int), n7, false⟩, some ⟨.lst ((es.map cp).map eD), n8, false⟩, none, none, none, some ⟨FD es rs ts, n12, false⟩, some ⟨.lst (ts.map .int), n13, false⟩, a14, a15] (endsOf ms_law post) := by
  refine mk_falls true true true he hr ht ?_
  exact q8 k he hr ht hrow _ _ _ _ _ _ _ _ _ _ _
theorem q10 {post : DPost} (k : post.rt (.bl true) 0 []) {es : List Ent} {rs : List Rl} {ts : List Int} (he : EsOk es) (hr : RsOk rs) (ht : LatOk es (lastN es) ts) {r : D} (hrow : Row r) (a0 a2 a3 a4 a13 a14 a15 : Option Bd) (n5 n6 n7 n8 n12 : Nat) :
    KL k_law_10 [a0, some ⟨r, 1, false⟩, a2, a3, a4, some ⟨.lst (es.map eD), n5, false⟩, some ⟨.lst (rs.map rD), n6, false⟩, some ⟨.lst (ts.map .int), n7, false⟩, some ⟨.lst ((es.map cp).map eD), n8, false⟩, none, none, none, some ⟨FD es rs ts, n12, false⟩, a13, a14, a15] (endsOf ms_law post) := by
  exact q9 k he hr ht hrow _ _ _ _ _ _ _ _ _ _ _ _
theorem q11 {post : DPost} (k : post.rt (.bl true) 0 []) {es : List Ent} {rs : List Rl} {ts : List Int} (he : EsOk es) (hr : RsOk rs) (ht : LatOk es (lastN es) ts) {r : D} (hrow : Row r) (a0 a2 a3 a4 a12 a13 a14 a15 : Option Bd) (n5 n6 n7 n8 : Nat) :
    KL k_law_11 [a0, some ⟨r, 1, false⟩, a2, a3, a4, some ⟨.lst (es.map eD), n5, false⟩, some ⟨.lst (rs.map rD), n6, false⟩, some ⟨.lst (ts.map .int), n7, false⟩, some ⟨.lst ((es.map cp).map eD), n8, false⟩, none, none, none, a12, a13, a14, a15] (endsOf ms_law post) := by
  refine mk_lawfalls he hr ht ?_
  exact q10 k he hr ht hrow _ _ _ _ _ _ _ _ _ _ _ _
theorem q12 {post : DPost} (k : post.rt (.bl true) 0 []) {es : List Ent} {rs : List Rl} {ts : List Int} (he : EsOk es) (hr : RsOk rs) (ht : LatOk es (lastN es) ts) {r : D} (hrow : Row r) (a0 a2 a3 a4 a8 a12 a13 a14 a15 : Option Bd) (n5 n6 n7 : Nat) :
    KL k_law_12 [a0, some ⟨r, 1, false⟩, a2, a3, a4, some ⟨.lst (es.map eD), n5, false⟩, some ⟨.lst (rs.map rD), n6, false⟩, some ⟨.lst (ts.map .int), n7, false⟩, a8, none, none, none, a12, a13, a14, a15] (endsOf ms_law post) := by
  refine held_loop (E := [a0, some ⟨r, 1, false⟩, a2, a3, a4, some ⟨.lst (es.map eD), 0, false⟩, some ⟨.lst (rs.map rD), n6, false⟩, some ⟨.lst (ts.map .int), n7, false⟩, a8, none, none, none, a12, a13, a14, a15]) es he.len (fun e _ A q => ?_) ?_
  · refine sq_tuple ?_
    refine And.intro (ms_r rfl) ?_
    exact q
  exact q11 k he hr ht hrow _ _ _ _ _ _ _ _ _ _ _ _
theorem q13 {post : DPost} (k : post.rt (.bl true) 0 []) {es : List Ent} {rs : List Rl} {ts : List Int} (he : EsOk es) (hr : RsOk rs) (ht : LatOk es (lastN es) ts) {r : D} (hrow : Row r) (a0 a2 a3 a4 a8 a12 a13 a14 a15 : Option Bd) (n5 n6 n7 : Nat) :
    KL k_law_13 [a0, some ⟨r, 1, false⟩, a2, a3, a4, some ⟨.lst (es.map eD), n5, false⟩, some ⟨.lst (rs.map rD), n6, false⟩, some ⟨.lst (ts.map .int), n7, false⟩, a8, none, none, none, a12, a13, a14, a15] (endsOf ms_law post) := by
  have hl := he.len
  have hrl := hr.len
  have same : KL k_law_12 [a0, some ⟨r, 1, false⟩, a2, a3, a4, some ⟨.lst (es.map eD), n5, false⟩, some ⟨.lst (rs.map rD), n6, false⟩, some ⟨.lst (ts.map .int), n7, false⟩, a8, none, none, none, a12, a13, a14, a15] (endsOf ms_law post) := q12 k he hr ht hrow _ _ _ _ _ _ _ _ _ _ _ _
  refine brB_dec (p := (12 : Int) < ((ts.map D.int).length : Int)) (fun _ => ?_) (fun _ => same)
  refine And.intro (mul_small (by omega) (by rw [List.length_map]; omega)) ?_
  refine brB_dec (p := (60 : Int) < ((es.map eD).length : Int) * ((rs.map rD).length : Int)) (fun _ => ?_) (fun _ => same)
  have q := q12 k he (take_rs hr 2) ht hrow a0 a2 a3 a4 a8 a12 a13 a14 a15 n5 1 n7
  rw [← (show DL.cutD (rs.map rD) none (some 2) = (rs.take 2).map rD from cut_any rD rs 2 (by decide))] at q
  exact q
theorem q14 {post : DPost} (k : post.rt (.bl true) 0 []) {es : List Ent} {rs : List Rl} (he : EsOk es) (hr : RsOk rs) {r : D} (hrow : Row r) {step : Int} (h0 : 1 ≤ step) (h1 : step ≤ 10 ^ 9) (a0 a3 a4 a7 a8 a12 a13 a14 a15 : Option Bd) (n5 n6 : Nat) :
    KL k_law_14 [a0, some ⟨r, 1, false⟩, some ⟨.int step, 0, false⟩, a3, a4, some ⟨.lst (es.map eD), n5, false⟩, some ⟨.lst (rs.map rD), n6, false⟩, a7, a8, none, none, none, a12, a13, a14, a15] (endsOf ms_law post) := by
  refine mk_lawlater hrow he h0 h1 (fun ts r2 ht hrow2 => ?_)
  exact q13 k he hr ht hrow2 _ _ _ _ _ _ _ _ _ _ _ _
theorem q15 {post : DPost} (k : post.rt (.bl true) 0 []) {es : List Ent} (he : EsOk es) {r : D} (hrow : Row r) {pool : List Str} (hp : Pool pool) {step : Int} (h0 : 1 ≤ step) (h1 : step ≤ 10 ^ 9) (a0 a4 a6 a7 a8 a12 a13 a14 a15 : Option Bd) (n3 n5 : Nat) :
    KL k_law_15 [a0, some ⟨r, 1, false⟩, some ⟨.int step, 0, false⟩, some ⟨.lst (pool.map .str), n3, false⟩, a4, some ⟨.lst (es.map eD), n5, false⟩, a6, a7, a8, none, none, none, a12, a13, a14, a15] (endsOf ms_law post) := by
  refine mk_rules hrow hp he h0 h1 (fun rs r2 hr hrow2 => ?_)
  exact q14 k he hr hrow2 h0 h1 _ _ _ _ _ _ _ _ _ _ _
theorem q16 {post : DPost} (k : post.rt (.bl true) 0 []) {r : D} (hrow : Row r) {pool : List Str} (hp : Pool pool) {step : Int} (h0 : 1 ≤ step) (h1 : step ≤ 10 ^ 9) (a0 a4 a5 a6 a7 a8 a12 a13 a14 a15 : Option Bd) (n3 : Nat) :
    KL k_law_16 [a0, some ⟨r, 1, false⟩, some ⟨.int step, 0, false⟩, some ⟨.lst (pool.map .str), n3, false⟩, a4, a5, a6, a7, a8, none, none, none, a12, a13, a14, a15] (endsOf ms_law post) := by
  refine mk_entries hrow hp h0 h1 (fun es r2 he hrow2 => ?_)
  exact q15 k he hrow2 hp h0 h1 _ _ _ _ _ _ _ _ _ _ _
theorem q17 {post : DPost} (k : post.rt (.bl true) 0 []) {r : D} (hrow : Row r) {step : Int} (h0 : 1 ≤ step) (h1 : step ≤ 10 ^ 9) (a0 a3 a5 a6 a7 a8 a12 a13 a14 a15 : Option Bd) :
    KL k_law_17 [a0, some ⟨r, 1, false⟩, some ⟨.int step, 0, false⟩, a3, none, a5, a6, a7, a8, none, none, none, a12, a13, a14, a15] (endsOf ms_law post) := by
  refine mk_taken hrow (by decide) (by decide) (fun v r1 v0 v1 hrow1 => ?_)
  refine And.intro ⟨by omega, by omega⟩ ?_
  refine pool_made a0 (some ⟨.int step, 0, false⟩) a3 a5 a6 a7 a8 none none none a12 a13 a14 a15 (items := rngD 0 (1 + v).toNat) (by rw [rngD_len]; omega) hrow1 (fun pool r2 g1 g2 hrow2 => ?_)
  rw [rngD_len] at g1
  have hp : Pool pool := ⟨fun z => by rw [z] at g1; simp at g1; omega, by omega, g2⟩
  exact q16 k hrow2 hp h0 h1 _ _ _ _ _ _ _ _ _ _ _
theorem q18 {post : DPost} (k : post.rt (.bl true) 0 []) {r : D} (hrow : Row r) (a0 a2 a3 a5 a6 a7 a8 a12 a13 a14 a15 : Option Bd) :
    KL k_law_18 [a0, some ⟨r, 1, false⟩, a2, a3, none, a5, a6, a7, a8, none, none, none, a12, a13, a14, a15] (endsOf ms_law post) := by
  refine mk_step hrow (fun v r2 v0 v1 hrow2 => ?_)
  exact q17 k hrow2 v0 v1 _ _ _ _ _ _ _ _ _ _
theorem p_law (ds : List D) (post : DPost) (h : S_law ds post) (_ : ds.length = ms_law.length) : KL t_law (env0 ms_law ds N_law.length) (endsOf ms_law post) := by
  obtain ⟨ns, rfl, k⟩ := h
  refine And.intro (ms_r rfl) ?_
  exact q18 k ⟨ns, 0, 15963077, 0, rfl, by decide, by decide, by decide⟩ _ _ _ _ _ _ _ _ _ _ _
theorem law_in (ns : List Int) (post : DPost) (k : post.rt (.bl true) 0 []) (_ : ns.length ≤ 63) : S_law [.lst (ns.map .int)] post := ⟨ns, rfl, k⟩
end K77
set_option Elab.async false
set_option linter.all false
set_option maxRecDepth 100000
set_option maxHeartbeats 0
/-! the law's end, printed by genhead.py: the head's facts, the chain of promises, the theorem -/
namespace K77
open PySem PySem.Spec PyProof.Rows L2 DL
def fnL : List He.DefD :=
  [⟨("is_integer", none), "is_integer", "is_integer", defArgs s_is_integer, defBody s_is_integer, defScope s_is_integer, [], []⟩,
   ⟨("is_within", none), "is_within", "is_within", defArgs s_is_within, defBody s_is_within, defScope s_is_within, [], []⟩,
   ⟨("is_row", none), "is_row", "is_row", defArgs s_is_row, defBody s_is_row, defScope s_is_row, [], []⟩,
   ⟨("is_text", none), "is_text", "is_text", defArgs s_is_text, defBody s_is_text, defScope s_is_text, [], []⟩,
   ⟨("is_label", none), "is_label", "is_label", defArgs s_is_label, defBody s_is_label, defScope s_is_label, [], []⟩,
   ⟨("is_tag", none), "is_tag", "is_tag", defArgs s_is_tag, defBody s_is_tag, defScope s_is_tag, [], []⟩,
   ⟨("is_moment", none), "is_moment", "is_moment", defArgs s_is_moment, defBody s_is_moment, defScope s_is_moment, [], []⟩,
   ⟨("is_entry", none), "is_entry", "is_entry", defArgs s_is_entry, defBody s_is_entry, defScope s_is_entry, [], []⟩,
   ⟨("checked_entries", none), "checked_entries", "checked_entries", defArgs s_checked_entries, defBody s_checked_entries, defScope s_checked_entries, [], []⟩,
   ⟨("is_keeping_rule", none), "is_keeping_rule", "is_keeping_rule", defArgs s_is_keeping_rule, defBody s_is_keeping_rule, defScope s_is_keeping_rule, [], []⟩,
   ⟨("checked_rules", none), "checked_rules", "checked_rules", defArgs s_checked_rules, defBody s_checked_rules, defScope s_checked_rules, [], []⟩,
   ⟨("newest_of_periods", none), "newest_of_periods", "newest_of_periods", defArgs s_newest_of_periods, defBody s_newest_of_periods, defScope s_newest_of_periods, [], []⟩,
   ⟨("places_kept", none), "places_kept", "places_kept", defArgs s_places_kept, defBody s_places_kept, defScope s_places_kept, [], []⟩,
   ⟨("reasons_in", none), "reasons_in", "reasons_in", defArgs s_reasons_in, defBody s_reasons_in, defScope s_reasons_in, [], []⟩,
   ⟨("left_behind", none), "left_behind", "left_behind", defArgs s_left_behind, defBody s_left_behind, defScope s_left_behind, [], []⟩,
   ⟨("checked_later", none), "checked_later", "checked_later", defArgs s_checked_later, defBody s_checked_later, defScope s_checked_later, [], []⟩,
   ⟨("falls", none), "falls", "falls", defArgs s_falls, defBody s_falls, defScope s_falls, [], []⟩,
   ⟨("_law_taken", none), "_law_taken", "_law_taken", defArgs s__law_taken, defBody s__law_taken, defScope s__law_taken, [], []⟩,
   ⟨("_law_pick", none), "_law_pick", "_law_pick", defArgs s__law_pick, defBody s__law_pick, defScope s__law_pick, [], []⟩,
   ⟨("_law_by", none), "_law_by", "_law_by", defArgs s__law_by, defBody s__law_by, defScope s__law_by, [], []⟩,
   ⟨("_law_due", none), "_law_due", "_law_due", defArgs s__law_due, defBody s__law_due, defScope s__law_due, [], []⟩,
   ⟨("_law_step", none), "_law_step", "_law_step", defArgs s__law_step, defBody s__law_step, defScope s__law_step, [], []⟩,
   ⟨("_law_label", none), "_law_label", "_law_label", defArgs s__law_label, defBody s__law_label, defScope s__law_label, [], []⟩,
   ⟨("_law_entries", none), "_law_entries", "_law_entries", defArgs s__law_entries, defBody s__law_entries, defScope s__law_entries, [], []⟩,
   ⟨("_law_rule", none), "_law_rule", "_law_rule", defArgs s__law_rule, defBody s__law_rule, defScope s__law_rule, [], []⟩,
   ⟨("_law_rules", none), "_law_rules", "_law_rules", defArgs s__law_rules, defBody s__law_rules, defScope s__law_rules, [], []⟩,
   ⟨("_law_alike", none), "_law_alike", "_law_alike", defArgs s__law_alike, defBody s__law_alike, defScope s__law_alike, [], []⟩,
   ⟨("_law_later", none), "_law_later", "_law_later", defArgs s__law_later, defBody s__law_later, defScope s__law_later, [], []⟩,
   ⟨("_law_falls", none), "_law_falls", "_law_falls", defArgs s__law_falls, defBody s__law_falls, defScope s__law_falls, [], []⟩,
   ⟨("law", none), "law", "law", defArgs s_law, defBody s_law, defScope s_law, [], []⟩]
def faL : List He.Fa :=
  [.glo "is_integer",
   .glo "is_within",
   .glo "is_row",
   .glo "is_text",
   .glo "is_label",
   .glo "is_tag",
   .glo "is_moment",
   .glo "is_entry",
   .glo "checked_entries",
   .glo "is_keeping_rule",
   .glo "checked_rules",
   .glo "newest_of_periods",
   .glo "places_kept",
   .glo "reasons_in",
   .glo "left_behind",
   .glo "checked_later",
   .glo "falls",
   .glo "_law_taken",
   .glo "_law_pick",
   .glo "_law_by",
   .glo "_law_due",
   .glo "_law_step",
   .glo "_law_label",
   .glo "_law_entries",
   .glo "_law_rule",
   .glo "_law_rules",
   .glo "_law_alike",
   .glo "_law_later",
   .glo "_law_falls",
   .glo "law",
   .free "len",
   .free "range",
   .free "list",
   .free "tuple",
   .free "int",
   .free "bool",
   .free "str",
   .free "dict",
   .free "isinstance",
   .free "all",
   .free "any",
   .free "sum",
   .free "max",
   .free "min",
   .free "enumerate",
   .free "zip",
   .free "reversed",
   .free "sorted",
   .free "set",
   .str "SIGNS" " !\"#$&'()*+,-./0123456789:;<=>?@ABCDEFGHIJKLMNOPQRSTUVWXYZ[\\]^_`abcdefghijklmnopqrstuvwxyz{|}~",
   .int "MOST_LABEL" 20,
   .int "MOST_MOMENT" 1000000000000,
   .int "MOST_ENTRY" 1000000000,
   .int "MOST_ENTRIES" 60,
   .int "MOST_PERIOD" 1000000000,
   .int "MOST_KEPT" 60,
   .int "MOST_SPAN" 1000000000000,
   .int "MOST_RULES" 12,
   .int "MOST_MOMENTS" 60]
abbrev R : PySem.W.OpenRow := PySem.W.OpenLaw.row PySem.Challenge.rw_sparehouses_k77_falls
def hk : PySem.W.Hook := hookL 4 faL fnL
def ob (s : PySem.W.SharedT) : He.AlD := obsL 4 faL fnL (HandSHeadRun.getT s)
theorem ob_eq (s : PySem.W.SharedT) : ob s = hk.obs s.abs := obsL_eq (HandSHeadRun.getT_eq s)
def names : List PySem.Str := ([("HouseError" : PySem.Str), ("BadEntries" : PySem.Str), ("BadRules" : PySem.Str), ("BadMoments" : PySem.Str), ("MOST_MOMENT" : PySem.Str), ("MOST_LABEL" : PySem.Str), ("SIGNS" : PySem.Str), ("is_integer" : PySem.Str), ("is_within" : PySem.Str), ("is_row" : PySem.Str), ("is_text" : PySem.Str), ("is_label" : PySem.Str), ("is_tag" : PySem.Str), ("is_moment" : PySem.Str), ("MOST_ENTRIES" : PySem.Str), ("MOST_RULES" : PySem.Str)] : List PySem.Str) ++ ([("MOST_KEPT" : PySem.Str), ("MOST_ENTRY" : PySem.Str), ("MOST_PERIOD" : PySem.Str), ("MOST_SPAN" : PySem.Str), ("is_entry" : PySem.Str), ("checked_entries" : PySem.Str), ("is_keeping_rule" : PySem.Str), ("checked_rules" : PySem.Str), ("newest_of_periods" : PySem.Str), ("places_kept" : PySem.Str), ("reasons_in" : PySem.Str), ("MOST_MOMENTS" : PySem.Str), ("left_behind" : PySem.Str), ("checked_later" : PySem.Str), ("falls" : PySem.Str), ("_law_taken" : PySem.Str)] : List PySem.Str) ++ ([("_law_pick" : PySem.Str), ("_law_by" : PySem.Str), ("_law_due" : PySem.Str), ("_law_step" : PySem.Str), ("_law_label" : PySem.Str), ("_law_entries" : PySem.Str), ("_law_rule" : PySem.Str), ("_law_rules" : PySem.Str), ("_law_alike" : PySem.Str), ("_law_later" : PySem.Str), ("_law_falls" : PySem.Str)] : List PySem.Str)
theorem hd_run (w : World) : HandSHeadRun.RunEq R (PySem.W.view R.prog [48]) hk ob 4000 names w := by
  intro os
  kernel_rfl
section
variable {P : Program} {w : World} {K : PySem.W.Frag} {mg : MG} {h : Heap} {base : Heap}
theorem blt (X : K.In h) (G : h.Ns mainGlobals mg) (c : He.SaysD faL fnL K) : Blt mg where
  len := He.free_ok X G (c.fact 30 rfl)
  range := He.free_ok X G (c.fact 31 rfl)
  list := He.free_ok X G (c.fact 32 rfl)
  tuple := He.free_ok X G (c.fact 33 rfl)
  int := He.free_ok X G (c.fact 34 rfl)
  bool := He.free_ok X G (c.fact 35 rfl)
  str := He.free_ok X G (c.fact 36 rfl)
  dict := He.free_ok X G (c.fact 37 rfl)
  isinstance := He.free_ok X G (c.fact 38 rfl)
  all := He.free_ok X G (c.fact 39 rfl)
  any := He.free_ok X G (c.fact 40 rfl)
  sum := He.free_ok X G (c.fact 41 rfl)
  max := He.free_ok X G (c.fact 42 rfl)
  min := He.free_ok X G (c.fact 43 rfl)
  enumerate := He.free_ok X G (c.fact 44 rfl)
  zip := He.free_ok X G (c.fact 45 rfl)
  reversed := He.free_ok X G (c.fact 46 rfl)
  sorted := He.free_ok X G (c.fact 47 rfl)
  set := He.free_ok X G (c.fact 48 rfl)
theorem C__law_taken (X : K.In h) (G : h.Ns mainGlobals mg) (c : He.SaysD faL fnL K) : Cal P w K mg base "_law_taken" s__law_taken 1 ["row", "many"] ms__law_taken S__law_taken :=
  c__law_taken (k := 0) (fun_at X G c 17 17 rfl rfl) (blt X G c) p_taken
theorem C__law_pick (X : K.In h) (G : h.Ns mainGlobals mg) (c : He.SaysD faL fnL K) : Cal P w K mg base "_law_pick" s__law_pick 2 ["row", "some"] ms__law_pick S__law_pick :=
  c__law_pick (k := 1) (fun_at X G c 18 18 rfl rfl) (blt X G c) ((C__law_taken X G c).up (by decide)) p_pick
theorem C__law_step (X : K.In h) (G : h.Ns mainGlobals mg) (c : He.SaysD faL fnL K) : Cal P w K mg base "_law_step" s__law_step 3 ["row"] ms__law_step S__law_step :=
  c__law_step (k := 2) (fun_at X G c 21 21 rfl rfl) (blt X G c) ((C__law_pick X G c).up (by decide)) p_step
theorem C__law_label (X : K.In h) (G : h.Ns mainGlobals mg) (c : He.SaysD faL fnL K) : Cal P w K mg base "_law_label" s__law_label 2 ["row"] ms__law_label S__law_label :=
  c__law_label (k := 1) (fun_at X G c 22 22 rfl rfl) (blt X G c) ((C__law_taken X G c).up (by decide)) p_label
theorem C__law_entries (X : K.In h) (G : h.Ns mainGlobals mg) (c : He.SaysD faL fnL K) : Cal P w K mg base "_law_entries" s__law_entries 3 ["row", "pool", "step"] ms__law_entries S__law_entries :=
  c__law_entries (k := 2) (fun_at X G c 23 23 rfl rfl) (blt X G c) ((C__law_pick X G c).up (by decide)) ((C__law_taken X G c).up (by decide)) p_entries
theorem C__law_rule (X : K.In h) (G : h.Ns mainGlobals mg) (c : He.SaysD faL fnL K) : Cal P w K mg base "_law_rule" s__law_rule 3 ["row", "pool", "entries", "step"] ms__law_rule S__law_rule :=
  c__law_rule (k := 2) (fun_at X G c 24 24 rfl rfl) (blt X G c) ((C__law_taken X G c).up (by decide)) ((C__law_pick X G c).up (by decide)) p_rule
theorem C__law_rules (X : K.In h) (G : h.Ns mainGlobals mg) (c : He.SaysD faL fnL K) : Cal P w K mg base "_law_rules" s__law_rules 4 ["row", "pool", "entries", "step"] ms__law_rules S__law_rules :=
  c__law_rules (k := 3) (fun_at X G c 25 25 rfl rfl) (blt X G c) ((C__law_pick X G c).up (by decide)) ((C__law_rule X G c).up (by decide)) ((C__law_taken X G c).up (by decide)) p_rules
theorem C__law_later (X : K.In h) (G : h.Ns mainGlobals mg) (c : He.SaysD faL fnL K) : Cal P w K mg base "_law_later" s__law_later 3 ["row", "entries", "step"] ms__law_later S__law_later :=
  c__law_later (k := 2) (fun_at X G c 27 27 rfl rfl) (blt X G c) ((C__law_pick X G c).up (by decide)) ((C__law_taken X G c).up (by decide)) p_lawlater
theorem C__law_by (X : K.In h) (G : h.Ns mainGlobals mg) (c : He.SaysD faL fnL K) : Cal P w K mg base "_law_by" s__law_by 1 ["entries", "rule"] ms__law_by S__law_by :=
  c__law_by (k := 0) (fun_at X G c 19 19 rfl rfl) (blt X G c) p_by
theorem C__law_due (X : K.In h) (G : h.Ns mainGlobals mg) (c : He.SaysD faL fnL K) : Cal P w K mg base "_law_due" s__law_due 2 ["entries", "rules"] ms__law_due S__law_due :=
  c__law_due (k := 1) (fun_at X G c 20 20 rfl rfl) (blt X G c) ((C__law_by X G c).up (by decide)) p_due
theorem C__law_falls (X : K.In h) (G : h.Ns mainGlobals mg) (c : He.SaysD faL fnL K) : Cal P w K mg base "_law_falls" s__law_falls 3 ["entries", "rules", "later"] ms__law_falls S__law_falls :=
  c__law_falls (k := 2) (fun_at X G c 28 28 rfl rfl) (blt X G c) ((C__law_due X G c).up (by decide)) p_lawfalls
theorem C_is_row (X : K.In h) (G : h.Ns mainGlobals mg) (c : He.SaysD faL fnL K) : Cal P w K mg base "is_row" s_is_row 1 ["thing"] ms_is_row S_is_row :=
  c_is_row (k := 0) (fun_at X G c 2 2 rfl rfl) (blt X G c) p_is_row
theorem C_is_integer (X : K.In h) (G : h.Ns mainGlobals mg) (c : He.SaysD faL fnL K) : Cal P w K mg base "is_integer" s_is_integer 1 ["thing"] ms_is_integer S_is_integer :=
  c_is_integer (k := 0) (fun_at X G c 0 0 rfl rfl) (blt X G c) p_is_integer
theorem C_is_within (X : K.In h) (G : h.Ns mainGlobals mg) (c : He.SaysD faL fnL K) : Cal P w K mg base "is_within" s_is_within 2 ["thing", "least", "most"] ms_is_within S_is_within :=
  c_is_within (k := 1) (fun_at X G c 1 1 rfl rfl) (blt X G c) ((C_is_integer X G c).up (by decide)) p_is_within
theorem C_is_moment (X : K.In h) (G : h.Ns mainGlobals mg) (c : He.SaysD faL fnL K) : Cal P w K mg base "is_moment" s_is_moment 3 ["thing"] ms_is_moment S_is_moment :=
  c_is_moment (k := 2) (fun_at X G c 6 6 rfl rfl) (blt X G c) (gl_int X G c 51 rfl) ((C_is_within X G c).up (by decide)) p_is_moment
theorem C_is_text (X : K.In h) (G : h.Ns mainGlobals mg) (c : He.SaysD faL fnL K) : Cal P w K mg base "is_text" s_is_text 1 ["thing"] ms_is_text S_is_text :=
  c_is_text (k := 0) (fun_at X G c 3 3 rfl rfl) (blt X G c) (gl_str X G c 49 rfl) p_is_text
theorem C_is_label (X : K.In h) (G : h.Ns mainGlobals mg) (c : He.SaysD faL fnL K) : Cal P w K mg base "is_label" s_is_label 2 ["thing"] ms_is_label S_is_label :=
  c_is_label (k := 1) (fun_at X G c 4 4 rfl rfl) (blt X G c) (gl_int X G c 50 rfl) ((C_is_text X G c).up (by decide)) p_is_label
theorem C_is_entry (X : K.In h) (G : h.Ns mainGlobals mg) (c : He.SaysD faL fnL K) : Cal P w K mg base "is_entry" s_is_entry 4 ["thing"] ms_is_entry S_is_entry :=
  c_is_entry (k := 3) (fun_at X G c 7 7 rfl rfl) (blt X G c) (gl_int X G c 52 rfl) ((C_is_within X G c).up (by decide)) ((C_is_moment X G c).up (by decide)) ((C_is_row X G c).up (by decide)) ((C_is_label X G c).up (by decide)) p_is_entry
theorem C_checked_entries (X : K.In h) (G : h.Ns mainGlobals mg) (c : He.SaysD faL fnL K) : Cal P w K mg base "checked_entries" s_checked_entries 5 ["entries"] ms_checked_entries S_checked_entries :=
  c_checked_entries (k := 4) (fun_at X G c 8 8 rfl rfl) (blt X G c) (gl_int X G c 53 rfl) ((C_is_row X G c).up (by decide)) ((C_is_entry X G c).up (by decide)) p_checked_entries
theorem C_is_tag (X : K.In h) (G : h.Ns mainGlobals mg) (c : He.SaysD faL fnL K) : Cal P w K mg base "is_tag" s_is_tag 3 ["thing"] ms_is_tag S_is_tag :=
  c_is_tag (k := 2) (fun_at X G c 5 5 rfl rfl) (blt X G c) ((C_is_label X G c).up (by decide)) p_is_tag
theorem C_is_keeping_rule (X : K.In h) (G : h.Ns mainGlobals mg) (c : He.SaysD faL fnL K) : Cal P w K mg base "is_keeping_rule" s_is_keeping_rule 4 ["thing"] ms_is_keeping_rule S_is_keeping_rule :=
  c_is_keeping_rule (k := 3) (fun_at X G c 9 9 rfl rfl) (blt X G c) (gl_int X G c 54 rfl) (gl_int X G c 55 rfl) (gl_int X G c 56 rfl) (gl_int X G c 52 rfl) ((C_is_within X G c).up (by decide)) ((C_is_tag X G c).up (by decide)) p_is_keeping_rule
theorem C_checked_rules (X : K.In h) (G : h.Ns mainGlobals mg) (c : He.SaysD faL fnL K) : Cal P w K mg base "checked_rules" s_checked_rules 5 ["rules"] ms_checked_rules S_checked_rules :=
  c_checked_rules (k := 4) (fun_at X G c 10 10 rfl rfl) (blt X G c) (gl_int X G c 57 rfl) ((C_is_row X G c).up (by decide)) ((C_is_keeping_rule X G c).up (by decide)) p_checked_rules
theorem C_checked_later (X : K.In h) (G : h.Ns mainGlobals mg) (c : He.SaysD faL fnL K) : Cal P w K mg base "checked_later" s_checked_later 4 ["entries", "moments"] ms_checked_later S_checked_later :=
  c_checked_later (k := 3) (fun_at X G c 15 15 rfl rfl) (blt X G c) (gl_int X G c 58 rfl) ((C_is_row X G c).up (by decide)) ((C_is_moment X G c).up (by decide)) p_checked_later
theorem C_newest_of_periods (X : K.In h) (G : h.Ns mainGlobals mg) (c : He.SaysD faL fnL K) : Cal P w K mg base "newest_of_periods" s_newest_of_periods 1 ["entries", "period", "many"] ms_newest_of_periods S_newest_of_periods :=
  c_newest_of_periods (k := 0) (fun_at X G c 11 11 rfl rfl) (blt X G c) p_newest
theorem C_places_kept (X : K.In h) (G : h.Ns mainGlobals mg) (c : He.SaysD faL fnL K) : Cal P w K mg base "places_kept" s_places_kept 2 ["entries", "rule"] ms_places_kept S_places_kept :=
  c_places_kept (k := 1) (fun_at X G c 12 12 rfl rfl) (blt X G c) ((C_newest_of_periods X G c).up (by decide)) p_places_kept
theorem C_reasons_in (X : K.In h) (G : h.Ns mainGlobals mg) (c : He.SaysD faL fnL K) : Cal P w K mg base "reasons_in" s_reasons_in 3 ["entries", "rules"] ms_reasons_in S_reasons_in :=
  c_reasons_in (k := 2) (fun_at X G c 13 13 rfl rfl) (blt X G c) ((C_places_kept X G c).up (by decide)) p_reasons_in
theorem C_left_behind (X : K.In h) (G : h.Ns mainGlobals mg) (c : He.SaysD faL fnL K) : Cal P w K mg base "left_behind" s_left_behind 4 ["entries", "rules"] ms_left_behind S_left_behind :=
  c_left_behind (k := 3) (fun_at X G c 14 14 rfl rfl) (blt X G c) ((C_reasons_in X G c).up (by decide)) p_left_behind
theorem C_falls (X : K.In h) (G : h.Ns mainGlobals mg) (c : He.SaysD faL fnL K) : Cal P w K mg base "falls" s_falls 6 ["entries", "rules", "moments"] ms_falls S_falls :=
  c_falls (k := 5) (fun_at X G c 16 16 rfl rfl) (blt X G c) ((C_checked_entries X G c).up (by decide)) ((C_checked_rules X G c).up (by decide)) ((C_checked_later X G c).up (by decide)) ((C_left_behind X G c).up (by decide)) ((C_reasons_in X G c).up (by decide)) p_falls
theorem C__law_alike_0 (X : K.In h) (G : h.Ns mainGlobals mg) (c : He.SaysD faL fnL K) : Cal P w K mg base "_law_alike" s__law_alike 1 ["found", "due"] ms__law_alike (SA 0) :=
  cal_zero (fun_at X G c 26 26 rfl rfl) sc__law_alike rfl (fun _ _ _ _ _ _ us hl => match us, hl with | [_, _], _ => rfl) (fun _ _ h => h)
theorem C__law_alike_1 (X : K.In h) (G : h.Ns mainGlobals mg) (c : He.SaysD faL fnL K) : Cal P w K mg base "_law_alike" s__law_alike 2 ["found", "due"] ms__law_alike (SA 1) :=
  c__law_alike (fun_at X G c 26 26 rfl rfl) (blt X G c) (C__law_alike_0 X G c) (p_alike 0)
theorem C__law_alike_2 (X : K.In h) (G : h.Ns mainGlobals mg) (c : He.SaysD faL fnL K) : Cal P w K mg base "_law_alike" s__law_alike 3 ["found", "due"] ms__law_alike (SA 2) :=
  c__law_alike (fun_at X G c 26 26 rfl rfl) (blt X G c) (C__law_alike_1 X G c) (p_alike 1)
theorem C__law_alike_3 (X : K.In h) (G : h.Ns mainGlobals mg) (c : He.SaysD faL fnL K) : Cal P w K mg base "_law_alike" s__law_alike 4 ["found", "due"] ms__law_alike (SA 3) :=
  c__law_alike (fun_at X G c 26 26 rfl rfl) (blt X G c) (C__law_alike_2 X G c) (p_alike 2)
theorem C__law_alike (X : K.In h) (G : h.Ns mainGlobals mg) (c : He.SaysD faL fnL K) : Cal P w K mg base "_law_alike" s__law_alike 5 ["found", "due"] ms__law_alike (SA 3) := (C__law_alike_3 X G c).up (by decide)
theorem C_law (X : K.In h) (G : h.Ns mainGlobals mg) (c : He.SaysD faL fnL K) : Cal P w K mg base "law" s_law 7 ["script"] ms_law S_law :=
  c_law (k := 6) (fun_at X G c 29 29 rfl rfl) (blt X G c) ((C__law_step X G c).up (by decide)) ((C__law_taken X G c).up (by decide)) ((C__law_label X G c).up (by decide)) ((C__law_entries X G c).up (by decide)) ((C__law_rules X G c).up (by decide)) ((C__law_later X G c).up (by decide)) ((C__law_falls X G c).up (by decide)) ((C_falls X G c).up (by decide)) ((C__law_alike X G c).up (by decide)) p_law
end
end K77
open PySem PySem.W PySem.Calls PyProof.Rows
theorem PySem.Challenge.cw_sparehouses_k77_falls_holds : PySem.Challenge.rw_sparehouses_k77_falls.Holds := by
  w_on; o_law
  refine HandSHeadRun.head_any (r := OpenLaw.row PySem.Challenge.rw_sparehouses_k77_falls) (q := view (OpenLaw.row PySem.Challenge.rw_sparehouses_k77_falls).prog [48]) (H := K77.hk) (ob := K77.ob) (M := 4000) (loose := K77.names) (d := HandSHeadRun.topDef (OpenLaw.row PySem.Challenge.rw_sparehouses_k77_falls).prog 48) (kwd := []) K77.ob_eq
    (by kernel_rfl) (fun s => by kernel_rfl) K77.hd_run (by kernel_rfl) (by kernel_rfl) (by kernel_rfl) (by rfl) (by first | assumption | decide +kernel) (by decide +kernel) ⟨rfl, rfl, rfl, rfl, rfl, by decide +kernel⟩ ?hw ?hc
  case hw => w_witness2
  case hc =>
    refine DL.walk_ofD (l := PySem.Challenge.rw_sparehouses_k77_falls) (n := 63) (k := 7) (x := "script") rfl (by decide) (by kernel_rfl) ⟨rfl, by decide, by decide⟩ ?F
    intro w mg fa h Y G hmg0
    obtain ⟨K, KX, nl, c⟩ := Y
    have hmg : mg ("law" : PySem.Str) = some (.ref fa) := by
      have e : (HandSHeadRun.topDef (OpenLaw.row PySem.Challenge.rw_sparehouses_k77_falls).prog 48).name = ("law" : PySem.Str) := by kernel_rfl
      rw [← e]
      exact hmg0
    obtain ⟨fd, sp, h1, h2, h3⟩ := DL.law_end (P := (PySem.Challenge.rw_sparehouses_k77_falls).prog) (w := w) (ms := K77.ms_law) (S := K77.S_law) (k := 7) nl (DL.fun_at KX G c (x := "law") (st := K77.s_law) 29 29 rfl rfl) hmg rfl (fun _ _ _ _ _ _ us hl => match us, hl with | [_], _ => rfl) (fun base => K77.C_law KX G c) K77.law_in
    exact ⟨K, fd, sp, KX, h1, h2, h3⟩
