import PyProof.Rows.All
import Wide.All
import OpenK.AllK
import Wide.FinOn
import HandS.ForMost
import HandS.ForExc
import HandS.ExcCtx
import HandS.WordsExc
import HandS.Lambda
import HandS.Wide
import HandS.IsInst
import HandS.Flow
import HandS.CallSlots
import HandS.TupAny
import HandS.Conv
import HandS.More
import HandS.Walk
import HandS.Style
import KE.GoesEnum
import HandS.Defaults
import HandS.HeadNt
import HandS.DictEq
import KE.KEqSeq
import HandS.Base
import HandS.Call
import HandS.Ends
import HandS.HeadEnd
import HandS.HeadHook1
import HandS.HeadHook2
import HandS.Head0
import HandS.Head1
import HandS.Head2
import HandS.DictComp
import HandS.Deep
import HandS.DictTup
import HandS.TupLen
import KE.DataFind
import HandS.TupSets
import KE.SortData
import KE.DataMinMax
import KE.GoesMore
import HandS.HotCalls
import HandS.ExcField
import HandS.ExcInit
import HandS.ExcIs
import KE.KExcIs
import HandS.RaiseMore
import HandS.HeadWalk
import KE.DataCmp
import KE.KDictDisplayH
import PySem.Challenge.RW_sparehouses_k84_whole_least_repack
set_option Elab.async false
set_option linter.all false
set_option maxRecDepth 100000
/-! DLa: the data layer, part a: data, what bears it in a heap, what is owned. -/
namespace DL
open PySem L2

/-- exceptions whose context is None -/
abbrev Takes (X : Cx) (W : WX) : Prop := L2N.Takes X W
theorem passAt {X : Cx} {W : WX} (tk : Takes X W) (σ : L2.St) : PassesAt (L2N.CX X.prog X.w) X σ (WE W σ) := L2N.passAt tk σ
/-- a value with all that hangs on it -/
inductive D where
  | non | bl (b : Bool) | int (i : Int) | str (s : Str)
  | tup (ds : List D) | lst (ds : List D)
  | dK (kvs : List (Key × D)) | dT (kvs : List (List Key × D))
  | obj (c : Str) (fs : List (Str × D))
  | fn (x : Str)
  | ktu (ds : List D)
  | exn (a d : Addr) (fs : List (Str × D))
  | hole

abbrev MG := Str → Option Value

section
variable (K : PySem.W.Frag) (mg : MG) (F : Hp)
mutual
/-- the heap F bears the data at v -/
def Rep : D → V → Prop
  | .non, v => v = .non
  | .bl b, v => v = .bl b
  | .int i, v => v = .int i
  | .str s, v => v = .str s
  | .tup ds, v => ∃ a vs, v = .ref a ∧ F a = some (.tup vs) ∧ Reps ds vs
  | .lst ds, v => ∃ a vs, v = .ref a ∧ Rd F a (.lst vs) ∧ Reps ds vs
  | .dK kvs, v => ∃ a vs, v = .ref a ∧ Rd F a (.dK vs) ∧ RepK kvs vs
  | .dT kvs, v => ∃ a vs, v = .ref a ∧ Rd F a (.dT vs) ∧ RepT kvs vs
  | .obj c fs, v => ∃ a C dx vs, v = .ref a ∧ F a = some (.ins C dx vs) ∧ F dx = some (.own a) ∧ mg c = some (.ref C) ∧ RepF fs vs
  | .fn x, v => ∃ f, v = .ref f ∧ mg x = some (.ref f)
  | .ktu ds, v => ∃ a vs, v = .ref a ∧ SqT K F a vs ∧ Reps ds vs
  | .exn a d fs, v => v = .ref a ∧ ∃ vs, F d = some (.xd vs) ∧ RepF fs vs
  | .hole, _ => True
def Reps : List D → List V → Prop
  | [], vs => vs = []
  | d :: ds, vs => ∃ v r, vs = v :: r ∧ Rep d v ∧ Reps ds r
def RepK : List (Key × D) → List (Key × V) → Prop
  | [], vs => vs = []
  | (k, d) :: ds, vs => ∃ v r, vs = (k, v) :: r ∧ Rep d v ∧ RepK ds r
def RepT : List (List Key × D) → List (List Key × V) → Prop
  | [], vs => vs = []
  | (k, d) :: ds, vs => ∃ v r, vs = (k, v) :: r ∧ Rep d v ∧ RepT ds r
def RepF : List (Str × D) → List (Str × V) → Prop
  | [], vs => vs = []
  | (k, d) :: ds, vs => ∃ v r, vs = (k, v) :: r ∧ Rep d v ∧ RepF ds r
end
end


/-! ### the heap may grow -/
section
variable {K : PySem.W.Frag} {mg : MG} {F F' H H' : Hp}
theorem sqt_mono (e : Same F F') {a : Addr} {xs : List V} (h : SqT K F a xs) : SqT K F' a xs := by
  rcases h with (h | ⟨o, h⟩) | h
  · exact .inl (.inl (e _ _ h))
  · exact .inl (.inr ⟨o, e _ _ h⟩)
  · exact .inr h
theorem rd_mono (e : Same F F') {a : Addr} {u : HO} (h : Rd F a u) : Rd F' a u := by
  rcases h with h | ⟨o, h⟩
  · exact .inl (e _ _ h)
  · exact .inr ⟨o, e _ _ h⟩
mutual
theorem Rep.mono (e : Same F F') : ∀ {d : D} {v : V}, Rep K mg F d v → Rep K mg F' d v
  | .non, _, h => h
  | .bl _, _, h => h
  | .int _, _, h => h
  | .str _, _, h => h
  | .tup _, _, ⟨a, vs, h1, h2, h3⟩ => ⟨a, vs, h1, e _ _ h2, Reps.mono e h3⟩
  | .lst _, _, ⟨a, vs, h1, h2, h3⟩ => ⟨a, vs, h1, rd_mono e h2, Reps.mono e h3⟩
  | .dK _, _, ⟨a, vs, h1, h2, h3⟩ => ⟨a, vs, h1, rd_mono e h2, RepK.mono e h3⟩
  | .dT _, _, ⟨a, vs, h1, h2, h3⟩ => ⟨a, vs, h1, rd_mono e h2, RepT.mono e h3⟩
  | .obj _ _, _, ⟨a, C, dx, vs, h1, h2, h3, h4, h5⟩ => ⟨a, C, dx, vs, h1, e _ _ h2, e _ _ h3, h4, RepF.mono e h5⟩
  | .fn _, _, h => h
  | .ktu _, _, ⟨a, vs, h1, h2, h3⟩ => ⟨a, vs, h1, sqt_mono e h2, Reps.mono e h3⟩
  | .exn _ _ _, _, ⟨h1, vs, h2, h3⟩ => ⟨h1, vs, e _ _ h2, RepF.mono e h3⟩
  | .hole, _, h => h
theorem Reps.mono (e : Same F F') : ∀ {ds : List D} {vs : List V}, Reps K mg F ds vs → Reps K mg F' ds vs
  | [], _, h => h
  | _ :: _, _, ⟨v, r, h1, h2, h3⟩ => ⟨v, r, h1, Rep.mono e h2, Reps.mono e h3⟩
theorem RepK.mono (e : Same F F') : ∀ {ds : List (Key × D)} {vs : List (Key × V)}, RepK K mg F ds vs → RepK K mg F' ds vs
  | [], _, h => h
  | (_, _) :: _, _, ⟨v, r, h1, h2, h3⟩ => ⟨v, r, h1, Rep.mono e h2, RepK.mono e h3⟩
theorem RepT.mono (e : Same F F') : ∀ {ds : List (List Key × D)} {vs : List (List Key × V)}, RepT K mg F ds vs → RepT K mg F' ds vs
  | [], _, h => h
  | (_, _) :: _, _, ⟨v, r, h1, h2, h3⟩ => ⟨v, r, h1, Rep.mono e h2, RepT.mono e h3⟩
theorem RepF.mono (e : Same F F') : ∀ {ds : List (Str × D)} {vs : List (Str × V)}, RepF K mg F ds vs → RepF K mg F' ds vs
  | [], _, h => h
  | (_, _) :: _, _, ⟨v, r, h1, h2, h3⟩ => ⟨v, r, h1, Rep.mono e h2, RepF.mono e h3⟩
end
theorem Reps.length : ∀ {ds : List D} {vs : List V}, Reps K mg F ds vs → vs.length = ds.length
  | [], _, h => by subst h; rfl
  | _ :: _, _, ⟨v, r, h1, _, h3⟩ => by subst h1; simp [Reps.length h3]
theorem Reps.get : ∀ {ds : List D} {vs : List V} {i : Nat} {d : D}, Reps K mg F ds vs → ds[i]? = some d → ∃ v, vs[i]? = some v ∧ Rep K mg F d v
  | [], _, _, _, _, e => by simp at e
  | d :: _, _, 0, _, ⟨v, r, h1, h2, _⟩, e => by
    subst h1
    have e : d = _ := Option.some.inj (by simpa using e)
    subst e
    exact ⟨v, rfl, h2⟩
  | _ :: ds, _, i + 1, _, ⟨v, r, h1, _, h3⟩, e => by
    subst h1
    exact Reps.get (i := i) h3 (by simpa using e)
theorem Reps.get' : ∀ {ds : List D} {vs : List V} {i : Nat} {v : V}, Reps K mg F ds vs → vs[i]? = some v → ∃ d, ds[i]? = some d ∧ Rep K mg F d v
  | [], _, _, _, h, e => by subst h; simp at e
  | d :: _, _, 0, _, ⟨w, r, h1, h2, _⟩, e => by
    subst h1
    have e : w = _ := Option.some.inj (by simpa using e)
    subst e
    exact ⟨d, rfl, h2⟩
  | _ :: ds, _, i + 1, _, ⟨w, r, h1, _, h3⟩, e => by
    subst h1
    exact Reps.get' (i := i) h3 (by simpa using e)
theorem Reps.append : ∀ {ds es : List D} {vs ws : List V}, Reps K mg F ds vs → Reps K mg F es ws → Reps K mg F (ds ++ es) (vs ++ ws)
  | [], _, _, _, h, g => by subst h; exact g
  | _ :: _, _, _, ws, ⟨v, r, h1, h2, h3⟩, g => ⟨v, r ++ ws, by subst h1; rfl, h2, Reps.append h3 g⟩
theorem Reps.take : ∀ {ds : List D} {vs : List V} (n : Nat), Reps K mg F ds vs → Reps K mg F (ds.take n) (vs.take n)
  | _, _, 0, _ => by simp [Reps]
  | [], _, n + 1, h => by subst h; simp [Reps]
  | _ :: _, _, n + 1, ⟨v, r, h1, h2, h3⟩ => ⟨v, r.take n, by subst h1; rfl, h2, Reps.take n h3⟩
theorem Reps.drop : ∀ {ds : List D} {vs : List V} (n : Nat), Reps K mg F ds vs → Reps K mg F (ds.drop n) (vs.drop n)
  | _, _, 0, h => h
  | [], _, n + 1, h => by subst h; simp [Reps]
  | _ :: ds, _, n + 1, ⟨v, r, h1, _, h3⟩ => by subst h1; exact Reps.drop n h3
theorem Reps.set : ∀ {ds : List D} {vs : List V} (i : Nat) {d : D} {v : V}, Reps K mg F ds vs → Rep K mg F d v → Reps K mg F (ds.set i d) (vs.set i v)
  | [], _, _, _, _, h, _ => by subst h; simp [Reps]
  | _ :: _, _, 0, _, v, ⟨w, r, h1, _, h3⟩, g => ⟨v, r, by subst h1; rfl, g, h3⟩
  | _ :: _, _, i + 1, _, v, ⟨w, r, h1, h2, h3⟩, g => ⟨w, r.set i v, by subst h1; rfl, h2, Reps.set i h3 g⟩
theorem Reps.one {d : D} {v : V} (h : Rep K mg F d v) : Reps K mg F [d] [v] := ⟨v, [], rfl, h, rfl⟩
theorem Reps.reverse : ∀ {ds : List D} {vs : List V}, Reps K mg F ds vs → Reps K mg F ds.reverse vs.reverse
  | [], _, h => by subst h; simp [Reps]
  | _ :: _, _, ⟨v, r, h1, h2, h3⟩ => by
    subst h1
    rw [List.reverse_cons, List.reverse_cons]
    exact Reps.append (Reps.reverse h3) (Reps.one h2)
theorem RepK.keys : ∀ {ds : List (Key × D)} {vs : List (Key × V)}, RepK K mg F ds vs → ds.map (·.1) = vs.map (·.1) ∧ Reps K mg F (ds.map (·.2)) (vs.map (·.2))
  | [], _, h => by subst h; exact ⟨rfl, rfl⟩
  | (k, d) :: _, _, ⟨v, r, h1, h2, h3⟩ => by
    subst h1
    obtain ⟨a, b⟩ := RepK.keys h3
    exact ⟨congrArg (k :: ·) a, ⟨v, _, rfl, h2, b⟩⟩
theorem RepK.of : ∀ {ds : List (Key × D)} {vs : List (Key × V)}, ds.map (·.1) = vs.map (·.1) → Reps K mg F (ds.map (·.2)) (vs.map (·.2)) → RepK K mg F ds vs
  | [], vs, h, _ => by
    cases vs with
    | nil => rfl
    | cons _ _ => simp at h
  | (k, d) :: ds, [], h, _ => by simp at h
  | (k, d) :: ds, (k', v) :: vs, h, ⟨w, r, h1, h2, h3⟩ => by
    have hk : k = k' ∧ ds.map (·.1) = vs.map (·.1) := by simpa using h
    obtain ⟨rfl, hh⟩ := hk
    have h1 : v :: vs.map (·.2) = w :: r := h1
    injection h1 with e1 e2
    subst e1; subst e2
    exact ⟨v, vs, rfl, h2, RepK.of hh h3⟩
theorem RepT.keys : ∀ {ds : List (List Key × D)} {vs : List (List Key × V)}, RepT K mg F ds vs → ds.map (·.1) = vs.map (·.1) ∧ Reps K mg F (ds.map (·.2)) (vs.map (·.2))
  | [], _, h => by subst h; exact ⟨rfl, rfl⟩
  | (k, d) :: _, _, ⟨v, r, h1, h2, h3⟩ => by
    subst h1
    obtain ⟨a, b⟩ := RepT.keys h3
    exact ⟨congrArg (k :: ·) a, ⟨v, _, rfl, h2, b⟩⟩
theorem RepT.of : ∀ {ds : List (List Key × D)} {vs : List (List Key × V)}, ds.map (·.1) = vs.map (·.1) → Reps K mg F (ds.map (·.2)) (vs.map (·.2)) → RepT K mg F ds vs
  | [], vs, h, _ => by
    cases vs with
    | nil => rfl
    | cons _ _ => simp at h
  | (k, d) :: ds, [], h, _ => by simp at h
  | (k, d) :: ds, (k', v) :: vs, h, ⟨w, r, h1, h2, h3⟩ => by
    have hk : k = k' ∧ ds.map (·.1) = vs.map (·.1) := by simpa using h
    obtain ⟨rfl, hh⟩ := hk
    have h1 : v :: vs.map (·.2) = w :: r := h1
    injection h1 with e1 e2
    subst e1; subst e2
    exact ⟨v, vs, rfl, h2, RepT.of hh h3⟩
theorem RepF.keys : ∀ {ds : List (Str × D)} {vs : List (Str × V)}, RepF K mg F ds vs → ds.map (·.1) = vs.map (·.1) ∧ Reps K mg F (ds.map (·.2)) (vs.map (·.2))
  | [], _, h => by subst h; exact ⟨rfl, rfl⟩
  | (k, d) :: _, _, ⟨v, r, h1, h2, h3⟩ => by
    subst h1
    obtain ⟨a, b⟩ := RepF.keys h3
    exact ⟨congrArg (k :: ·) a, ⟨v, _, rfl, h2, b⟩⟩
theorem RepF.of : ∀ {ds : List (Str × D)} {vs : List (Str × V)}, ds.map (·.1) = vs.map (·.1) → Reps K mg F (ds.map (·.2)) (vs.map (·.2)) → RepF K mg F ds vs
  | [], vs, h, _ => by
    cases vs with
    | nil => rfl
    | cons _ _ => simp at h
  | (k, d) :: ds, [], h, _ => by simp at h
  | (k, d) :: ds, (k', v) :: vs, h, ⟨w, r, h1, h2, h3⟩ => by
    have hk : k = k' ∧ ds.map (·.1) = vs.map (·.1) := by simpa using h
    obtain ⟨rfl, hh⟩ := hk
    have h1 : v :: vs.map (·.2) = w :: r := h1
    injection h1 with e1 e2
    subst e1; subst e2
    exact ⟨v, vs, rfl, h2, RepF.of hh h3⟩
end

/-! ### what is owned -/
abbrev AP := Addr → Prop
/-- items with what each owns -/
def ROs (R : AP → D → V → Prop) : AP → List D → List V → Prop
  | _, [], vs => vs = []
  | P, d :: ds, vs => ∃ v r P1 P2, vs = v :: r ∧ (∀ a, P1 a → P a) ∧ (∀ a, P2 a → P a) ∧ (∀ a, P1 a → P2 a → False) ∧ R P1 d v ∧ ROs R P2 ds r
/-- the data at v; its nodes at depth below n stand in H and are owned (P), all else stands in F -/
def RepO (K : PySem.W.Frag) (mg : MG) (F H : Hp) : Nat → AP → D → V → Prop
  | 0, _, d, v => Rep K mg F d v
  | n + 1, P, .lst ds, v => ∃ a vs P', v = .ref a ∧ H a = some (.lst vs) ∧ P a ∧ ¬ P' a ∧ (∀ b, P' b → P b) ∧ ROs (RepO K mg F H n) P' ds vs
  | n + 1, P, .dK kvs, v => ∃ a vs P', v = .ref a ∧ H a = some (.dK vs) ∧ P a ∧ ¬ P' a ∧ (∀ b, P' b → P b) ∧ kvs.map (·.1) = vs.map (·.1) ∧ ROs (RepO K mg F H n) P' (kvs.map (·.2)) (vs.map (·.2))
  | n + 1, P, .dT kvs, v => ∃ a vs P', v = .ref a ∧ H a = some (.dT vs) ∧ P a ∧ ¬ P' a ∧ (∀ b, P' b → P b) ∧ kvs.map (·.1) = vs.map (·.1) ∧ ROs (RepO K mg F H n) P' (kvs.map (·.2)) (vs.map (·.2))
  | n + 1, P, .obj c fs, v => ∃ a C dx vs P', v = .ref a ∧ H a = some (.ins C dx vs) ∧ H dx = some (.own a) ∧ mg c = some (.ref C) ∧ P a ∧ P dx ∧ ¬ P' a ∧ ¬ P' dx ∧ (∀ b, P' b → P b) ∧
      fs.map (·.1) = vs.map (·.1) ∧ ROs (RepO K mg F H n) P' (fs.map (·.2)) (vs.map (·.2))
  | _ + 1, _, d, v => Rep K mg F d v
section
variable {K : PySem.W.Frag} {mg : MG} {F F' H H' : Hp}
theorem ROs.imp {R R' : AP → D → V → Prop} : ∀ {ds : List D} {P P' : AP} {vs : List V}, (∀ P1 d v, (∀ a, P1 a → P a) → R P1 d v → R' P1 d v) → (∀ a, P a → P' a) → ROs R P ds vs → ROs R' P' ds vs
  | [], _, _, _, _, _, h => h
  | _ :: _, P, P', _, k, s, ⟨v, r, P1, P2, h1, h2, h3, h4, h5, h6⟩ =>
    ⟨v, r, P1, P2, h1, fun a x => s a (h2 a x), fun a x => s a (h3 a x), h4, k P1 _ _ h2 h5, ROs.imp (fun Q d w hq => k Q d w fun a x => h3 a (hq a x)) (fun _ x => x) h6⟩
theorem ROs.reps {R : AP → D → V → Prop} : ∀ {ds : List D} {P : AP} {vs : List V}, (∀ P1 d v, (∀ a, P1 a → P a) → R P1 d v → Rep K mg F d v) → ROs R P ds vs → Reps K mg F ds vs
  | [], _, _, _, h => h
  | _ :: _, P, _, k, ⟨v, r, P1, P2, h1, h2, h3, h4, h5, h6⟩ => ⟨v, r, h1, k P1 _ _ h2 h5, ROs.reps (fun Q d w hq => k Q d w fun a x => h3 a (hq a x)) h6⟩
theorem ROs.of {R : AP → D → V → Prop} : ∀ {ds : List D} {P : AP} {vs : List V}, (∀ d v, Rep K mg F d v → R (fun _ => False) d v) → Reps K mg F ds vs → ROs R P ds vs
  | [], _, _, _, h => h
  | _ :: _, P, _, k, ⟨v, r, h1, h2, h3⟩ => ⟨v, r, fun _ => False, fun _ => False, h1, fun _ x => x.elim, fun _ x => x.elim, fun _ x => x.elim, k _ _ h2, ROs.of k h3⟩
/-- a larger ground, the owned nodes as they were, a wider owner -/
theorem RepO.mono : ∀ {n : Nat} {P P' : AP} {d : D} {v : V}, Same F F' → (∀ a o, P a → H a = some o → H' a = some o) → (∀ a, P a → P' a) → RepO K mg F H n P d v → RepO K mg F' H' n P' d v
  | 0, _, _, _, _, e, _, _, h => Rep.mono e h
  | n + 1, P, P', .lst ds, v, e, k, s, ⟨a, vs, P1, h1, h2, h3, h4, h5, h6⟩ =>
    ⟨a, vs, P1, h1, k _ _ h3 h2, s _ h3, h4, fun b x => s _ (h5 b x), h6.imp (fun Q d w hq r => RepO.mono e (fun a o x => k a o (h5 _ (hq _ x))) (fun _ x => x) r) fun _ x => x⟩
  | n + 1, P, P', .dK ds, v, e, k, s, ⟨a, vs, P1, h1, h2, h3, h4, h5, h6, h7⟩ =>
    ⟨a, vs, P1, h1, k _ _ h3 h2, s _ h3, h4, fun b x => s _ (h5 b x), h6, h7.imp (fun Q d w hq r => RepO.mono e (fun a o x => k a o (h5 _ (hq _ x))) (fun _ x => x) r) fun _ x => x⟩
  | n + 1, P, P', .dT ds, v, e, k, s, ⟨a, vs, P1, h1, h2, h3, h4, h5, h6, h7⟩ =>
    ⟨a, vs, P1, h1, k _ _ h3 h2, s _ h3, h4, fun b x => s _ (h5 b x), h6, h7.imp (fun Q d w hq r => RepO.mono e (fun a o x => k a o (h5 _ (hq _ x))) (fun _ x => x) r) fun _ x => x⟩
  | n + 1, P, P', .obj c ds, v, e, k, s, ⟨a, C, dx, vs, P1, h1, h2, h2', hm, h3, h3', h4, h4', h5, h6, h7⟩ =>
    ⟨a, C, dx, vs, P1, h1, k _ _ h3 h2, k _ _ h3' h2', hm, s _ h3, s _ h3', h4, h4', fun b x => s _ (h5 b x), h6, h7.imp (fun Q d w hq r => RepO.mono e (fun a o x => k a o (h5 _ (hq _ x))) (fun _ x => x) r) fun _ x => x⟩
  | n + 1, _, _, .non, _, _, _, _, h => h
  | n + 1, _, _, .bl _, _, _, _, _, h => h
  | n + 1, _, _, .int _, _, _, _, _, h => h
  | n + 1, _, _, .str _, _, _, _, _, h => h
  | n + 1, _, _, .tup _, _, e, _, _, h => Rep.mono (d := .tup _) e h
  | n + 1, _, _, .fn _, _, _, _, _, h => h
  | n + 1, _, _, .ktu _, _, e, _, _, h => Rep.mono (d := .ktu _) e h
  | n + 1, _, _, .exn _ _ _, _, e, _, _, h => Rep.mono (d := .exn _ _ _) e h
  | n + 1, _, _, .hole, _, _, _, _, h => h
/-- all that was owned is laid into the ground F' -/
theorem RepO.fz : ∀ {n : Nat} {P : AP} {d : D} {v : V}, Same F F' → (∀ a o, P a → H a = some o → F' a = some o) → RepO K mg F H n P d v → Rep K mg F' d v
  | 0, _, _, _, e, _, h => Rep.mono e h
  | n + 1, P, .lst ds, v, e, k, ⟨a, vs, P1, h1, h2, h3, h4, h5, h6⟩ =>
    ⟨a, vs, h1, .inl (k _ _ h3 h2), h6.reps fun Q d w hq r => RepO.fz e (fun a o x => k a o (h5 _ (hq _ x))) r⟩
  | n + 1, P, .dK ds, v, e, k, ⟨a, vs, P1, h1, h2, h3, h4, h5, h6, h7⟩ =>
    ⟨a, vs, h1, .inl (k _ _ h3 h2), RepK.of h6 (h7.reps fun Q d w hq r => RepO.fz e (fun a o x => k a o (h5 _ (hq _ x))) r)⟩
  | n + 1, P, .dT ds, v, e, k, ⟨a, vs, P1, h1, h2, h3, h4, h5, h6, h7⟩ =>
    ⟨a, vs, h1, .inl (k _ _ h3 h2), RepT.of h6 (h7.reps fun Q d w hq r => RepO.fz e (fun a o x => k a o (h5 _ (hq _ x))) r)⟩
  | n + 1, P, .obj c ds, v, e, k, ⟨a, C, dx, vs, P1, h1, h2, h2', hm, h3, h3', h4, h4', h5, h6, h7⟩ =>
    ⟨a, C, dx, vs, h1, k _ _ h3 h2, k _ _ h3' h2', hm, RepF.of h6 (h7.reps fun Q d w hq r => RepO.fz e (fun a o x => k a o (h5 _ (hq _ x))) r)⟩
  | n + 1, _, .non, _, _, _, h => h
  | n + 1, _, .bl _, _, _, _, h => h
  | n + 1, _, .int _, _, _, _, h => h
  | n + 1, _, .str _, _, _, _, h => h
  | n + 1, _, .tup _, _, e, _, h => Rep.mono (d := .tup _) e h
  | n + 1, _, .fn _, _, _, _, h => h
  | n + 1, _, .ktu _, _, e, _, h => Rep.mono (d := .ktu _) e h
  | n + 1, _, .exn _ _ _, _, e, _, h => Rep.mono (d := .exn _ _ _) e h
  | n + 1, _, .hole, _, _, _, h => h
theorem RepO.rep {n : Nat} {P : AP} {d : D} {v : V} (e : Same F H) (h : RepO K mg F H n P d v) : Rep K mg H d v := h.fz e fun _ _ _ x => x
/-- the top alone stays owned -/
theorem RepO.one : ∀ {n : Nat} {P : AP} {d : D} {v : V}, RepO K mg F H (n + 1) P d v → ∃ T : AP, (∀ a, T a → P a) ∧ ∀ F', Same F F' → (∀ a o, P a → ¬ T a → H a = some o → F' a = some o) → RepO K mg F' H 1 T d v
  | n, P, .lst ds, v, ⟨a, vs, P1, h1, h2, h3, h4, h5, h6⟩ =>
    ⟨fun b => b = a, fun b e => e ▸ h3, fun F' e k => ⟨a, vs, fun _ => False, h1, h2, rfl, fun x => x, fun _ x => x.elim, ROs.of (fun _ _ x => x) (h6.reps fun Q d w hq r => RepO.fz e (fun b o x => k b o (h5 _ (hq _ x)) fun z => h4 (z ▸ hq _ x)) r)⟩⟩
  | n, P, .dK ds, v, ⟨a, vs, P1, h1, h2, h3, h4, h5, h6, h7⟩ =>
    ⟨fun b => b = a, fun b e => e ▸ h3, fun F' e k => ⟨a, vs, fun _ => False, h1, h2, rfl, fun x => x, fun _ x => x.elim, h6, ROs.of (fun _ _ x => x) (h7.reps fun Q d w hq r => RepO.fz e (fun b o x => k b o (h5 _ (hq _ x)) fun z => h4 (z ▸ hq _ x)) r)⟩⟩
  | n, P, .dT ds, v, ⟨a, vs, P1, h1, h2, h3, h4, h5, h6, h7⟩ =>
    ⟨fun b => b = a, fun b e => e ▸ h3, fun F' e k => ⟨a, vs, fun _ => False, h1, h2, rfl, fun x => x, fun _ x => x.elim, h6, ROs.of (fun _ _ x => x) (h7.reps fun Q d w hq r => RepO.fz e (fun b o x => k b o (h5 _ (hq _ x)) fun z => h4 (z ▸ hq _ x)) r)⟩⟩
  | n, P, .obj c ds, v, ⟨a, C, dx, vs, P1, h1, h2, h2', hm, h3, h3', h4, h4', h5, h6, h7⟩ =>
    ⟨fun b => b = a ∨ b = dx, fun b e => e.elim (fun e => e ▸ h3) fun e => e ▸ h3', fun F' e k => ⟨a, C, dx, vs, fun _ => False, h1, h2, h2', hm, .inl rfl, .inr rfl, fun x => x, fun x => x, fun _ x => x.elim, h6, ROs.of (fun _ _ x => x)
      (h7.reps fun Q d w hq r => RepO.fz e (fun b o x => k b o (h5 _ (hq _ x)) fun z => z.elim (fun z => h4 (z ▸ hq _ x)) fun z => h4' (z ▸ hq _ x)) r)⟩⟩
  | n, _, .non, _, h => ⟨fun _ => False, fun _ x => x.elim, fun _ _ _ => h⟩
  | n, _, .bl _, _, h => ⟨fun _ => False, fun _ x => x.elim, fun _ _ _ => h⟩
  | n, _, .int _, _, h => ⟨fun _ => False, fun _ x => x.elim, fun _ _ _ => h⟩
  | n, _, .str _, _, h => ⟨fun _ => False, fun _ x => x.elim, fun _ _ _ => h⟩
  | n, _, .tup _, _, h => ⟨fun _ => False, fun _ x => x.elim, fun _ e _ => Rep.mono (d := .tup _) e h⟩
  | n, _, .fn _, _, h => ⟨fun _ => False, fun _ x => x.elim, fun _ _ _ => h⟩
  | n, _, .ktu _, _, h => ⟨fun _ => False, fun _ x => x.elim, fun _ e _ => Rep.mono (d := .ktu _) e h⟩
  | n, _, .exn _ _ _, _, h => ⟨fun _ => False, fun _ x => x.elim, fun _ e _ => Rep.mono (d := .exn _ _ _) e h⟩
  | n, _, .hole, _, h => ⟨fun _ => False, fun _ x => x.elim, fun _ _ _ => h⟩
/-- no address in it -/
def D.leaf : D → Bool
  | .non => true | .bl _ => true | .int _ => true | .str _ => true | _ => false
theorem leaf_rep {d : D} {v : V} (hl : d.leaf = true) (h : Rep K mg F d v) : Rep K mg F' d v := by
  cases d <;> first | exact h | cases hl
theorem leaf_repO {d : D} {v : V} (hl : d.leaf = true) (h : Rep K mg F d v) : ∀ (n : Nat) (P : AP), RepO K mg F' H n P d v := by
  intro n P
  cases n <;> (cases d <;> first | exact h | cases hl)
end

end DL
set_option Elab.async false
set_option linter.all false
set_option maxRecDepth 100000
/-! DLb: the data layer, part b: slots, owners, moves of the state; readings; the basic rules. -/
namespace DL
open PySem L2

structure Bd where
  d : D
  n : Nat
  io : Bool
abbrev DEnv := List (Option Bd)
abbrev OW := Addr → Option Nat
/-- tuples are never owned: they may be laid into the ground at any time -/
def isTp : HO → Bool
  | .tup _ => true | .tbl _ => true | .ext _ => true | _ => false
def isTb : HO → Bool
  | .tbl _ => true | _ => false
/-- the tables of code objects that lambdas write to, with the name that their code objects bear -/
class Tbs where
  T : List (Addr × Str)
instance tb0 : Tbs := ⟨[]⟩
variable [Tbs]
def isTab (a : Addr) : Prop := ∃ q, (a, q) ∈ Tbs.T
def okT (a : Addr) (o : HO) : Prop := isTb o = true → ¬ isTab a
theorem okT_of {a : Addr} {o : HO} (h : isTp o = false) : okT a o := fun e => by cases o <;> first | (cases e; done) | (cases h; done)
theorem okT_tup {a : Addr} {vs : List V} : okT a (.tup vs) := fun e => nomatch e
abbrev TabsK (F H : Hp) : Prop := ∀ a q, (a, q) ∈ Tbs.T → LamX.TabS H a q ∧ F a = none
theorem tabs_upd {H : Hp} {P b : Addr} {q : Str} {o : HO} (t : LamX.TabS H P q) (h : H b = none ∨ ∃ o', H b = some o' ∧ isTp o' = false) : LamX.TabS (upd H b o) P q := by
  obtain ⟨ps, h1, h2, h3⟩ := t
  have ne : ∀ {c : Addr} {u : HO}, H c = some u → isTp u = true → c ≠ b := fun {c u} e n z => by
    subst z
    rcases h with h | ⟨o', h, n'⟩
    · rw [e] at h; cases h
    · rw [e] at h; cases h; rw [n] at n'; cases n'
  refine ⟨ps, by rw [upd_ne (ne h1 rfl)]; exact h1, h2, fun pos cv hc => ?_⟩
  obtain ⟨c, e1, e2⟩ := h3 pos cv hc
  exact ⟨c, e1, by rw [upd_ne (ne e2 rfl)]; exact e2⟩
/-- the tables stay tables of the same name -/
abbrev TabMv (H H' : Hp) : Prop := ∀ a q, (a, q) ∈ Tbs.T → (∀ ps, H a = some (.tbl ps) → ∃ ps', H' a = some (.tbl ps')) ∧ (LamX.TabS H a q → LamX.TabS H' a q)
theorem TabMv.same {H H' : Hp} (e : Same H H') : TabMv H H' := fun a q _ => ⟨fun ps h => ⟨ps, e _ _ h⟩, fun t => t.ext e⟩
theorem TabMv.refl {H : Hp} : TabMv H H := .same (Same.refl _)
theorem TabMv.trans {H H1 H2 : Hp} (x : TabMv H H1) (y : TabMv H1 H2) : TabMv H H2 := fun a q h => ⟨fun ps e => let ⟨ps', e'⟩ := (x a q h).1 ps e; (y a q h).1 ps' e', fun t => (y a q h).2 ((x a q h).2 t)⟩
theorem TabMv.upd {H : Hp} {b : Addr} {o : HO} (h : H b = none ∨ ∃ o', H b = some o' ∧ isTp o' = false) : TabMv H (upd H b o) := fun a q _ => ⟨fun ps e => ⟨ps, by
  have ne : a ≠ b := fun z => by
    subst z
    rcases h with h | ⟨o', h, n'⟩
    · rw [e] at h; cases h
    · rw [e] at h; cases h; cases n'
  rw [upd_ne ne]; exact e⟩, fun t => tabs_upd t h⟩
theorem TabsK.same {F H H' : Hp} (t : TabsK F H) (e : Same H H') : TabsK F H' := fun a q h => ⟨(t a q h).1.ext e, (t a q h).2⟩
theorem TabsK.upd {F H : Hp} {b : Addr} {o : HO} (t : TabsK F H) (h : H b = none ∨ ∃ o', H b = some o' ∧ isTp o' = false) : TabsK F (upd H b o) := fun a q hq => ⟨tabs_upd (t a q hq).1 h, (t a q hq).2⟩
theorem TabsK.no {F H : Hp} (t : TabsK F H) {a : Addr} {o : HO} (h : H a = some o) (n : isTb o = false) : ¬ isTab a := fun ⟨q, hq⟩ => by
  obtain ⟨⟨ps, z, _⟩, _⟩ := t a q hq
  rw [h] at z; cases z; cases n
theorem isTb_of {o : HO} (h : isTp o = false) : isTb o = false := by cases o <;> first | (cases h; done) | rfl
section
variable (K : PySem.W.Frag) (mg : MG)
/-- the state at hand: F the ground that stays, O whose slot owns an address -/
structure SI (io : Nat → Option V) (env : DEnv) (σ : L2.St) (F : Hp) (O : OW) (H : Hp) : Prop where
  sub : Same F H
  own : ∀ a i, O a = some i → F a = none ∧ ∃ o, H a = some o ∧ isTp o = false
  slot : ∀ i b, env[i]? = some (some b) → ∃ v, σ[i]? = some (some v) ∧ RepO K mg F H b.n (fun a => O a = some i) b.d v ∧ (b.io = true → io i = some v)
  len : env.length = σ.length
  tab : TabsK F H
end
/-- what a piece of code may do to the heap -/
structure Mv (F : Hp) (O : OW) (H F' : Hp) (O' : OW) (H' : Hp) : Prop where
  ff : Same F F'
  fr : ∀ a o, H a = some o → O a = none → okT a o → H' a = some o
  fn : ∀ a o, F' a = some o → F a = some o ∨ H a = none ∨ (∃ i, O a = some i) ∨ ∃ vs, H a = some (.tup vs)
  on : ∀ a i, O' a = some i → H a = none ∨ ∃ i, O a = some i
  tb : TabMv H H'
/-- what a value at hand owns -/
structure Tp (O : OW) (H F' : Hp) (O' : OW) (H' : Hp) (P : AP) : Prop where
  t : ∀ a, P a → F' a = none ∧ O' a = none ∧ ∃ o, H' a = some o ∧ isTp o = false
  nw : ∀ a, P a → H a = none ∨ ∃ i, O a = some i
structure At (K : PySem.W.Frag) (mg : MG) (io : Nat → Option V) (F : Hp) (O : OW) (H : Hp) (env' : DEnv) (σ' : L2.St) (F' : Hp) (O' : OW) (H' : Hp) : Prop where
  mv : Mv F O H F' O' H'
  si : SI K mg io env' σ' F' O' H'
abbrev P0 : AP := fun _ => False

section
variable {K : PySem.W.Frag} {mg : MG} {io : Nat → Option V} {env env1 env2 : DEnv} {σ σ1 σ2 : L2.St} {F F0 F1 F2 H H0 H1 H2 : Hp} {O O0 O1 O2 : OW} {P : AP} {n : Nat} {d : D} {v : V}
theorem Mv.refl (h : Same F H) : Mv F O H F O H := ⟨fun _ _ h => h, fun _ _ h _ _ => h, fun _ _ h => .inl h, fun _ i h => .inr ⟨i, h⟩, .refl⟩
theorem Mv.stay (m : Mv F O H F1 O1 H1) {a : Addr} {o : HO} (e : H a = some o) (q : O a = none) : H1 a = some o ∨ ∃ ps ps', o = .tbl ps ∧ H1 a = some (.tbl ps') := by
  by_cases k : okT a o
  · exact .inl (m.fr a o e q k)
  · unfold okT at k
    have hb : isTb o = true := by cases z : isTb o with
      | true => rfl
      | false => exact absurd (fun y => by rw [z] at y; cases y) k
    have ht : isTab a := Classical.byContradiction fun z => k fun _ => z
    obtain ⟨nm, ht⟩ := ht
    cases o with
    | tbl ps =>
      obtain ⟨ps', e'⟩ := (m.tb a nm ht).1 ps e
      exact .inr ⟨ps, ps', rfl, e'⟩
    | _ => cases hb
theorem Mv.back (m : Mv F O H F1 O1 H1) {a : Addr} (h : H1 a = none ∨ ∃ i, O1 a = some i) : H a = none ∨ ∃ i, O a = some i := by
  rcases h with h | ⟨i, h⟩
  · cases e : H a with
    | none => exact .inl rfl
    | some o =>
      cases q : O a with
      | some i => exact .inr ⟨i, rfl⟩
      | none =>
        rcases m.stay e q with z | ⟨_, _, _, z⟩
        · rw [z] at h; cases h
        · rw [z] at h; cases h
  · exact m.on a i h
theorem Mv.trans (m : Mv F O H F1 O1 H1) (m' : Mv F1 O1 H1 F2 O2 H2) : Mv F O H F2 O2 H2 where
  ff := m.ff.trans m'.ff
  tb := m.tb.trans m'.tb
  fr := fun a o h q ok => by
    refine m'.fr a o (m.fr a o h q ok) ?_ ok
    cases e : O1 a with
    | none => rfl
    | some i =>
      rcases m.on a i e with z | ⟨j, z⟩
      · rw [h] at z; cases z
      · rw [q] at z; cases z
  fn := fun a o h => by
    rcases m'.fn a o h with h | h | h | ⟨vs, h⟩
    · exact m.fn a o h
    · exact .inr ((m.back (.inl h)).imp id .inl)
    · exact .inr ((m.back (.inr h)).imp id .inl)
    · cases e : H a with
      | none => exact .inr (.inl rfl)
      | some u =>
        cases q : O a with
        | some i => exact .inr (.inr (.inl ⟨i, rfl⟩))
        | none =>
          rcases m.stay e q with z | ⟨_, _, _, z⟩
          · rw [h] at z
            exact .inr (.inr (.inr ⟨vs, z.symm⟩))
          · rw [h] at z; cases z
  on := fun a i h => m.back (m'.on a i h)
theorem Tp.none : Tp O H F1 O1 H1 P0 := ⟨fun _ h => h.elim, fun _ h => h.elim⟩
theorem Tp.after (m : Mv F O H F1 O1 H1) (t : Tp O1 H1 F2 O2 H2 P) : Tp O H F2 O2 H2 P := ⟨t.t, fun a h => m.back (t.nw a h)⟩
/-- a value at hand stays -/
theorem Tp.mv (t : Tp O H F1 O1 H1 P) (m : Mv F1 O1 H1 F2 O2 H2) : Tp O H F2 O2 H2 P := ⟨fun a h => by
  obtain ⟨h1, h2, o, h3, h4⟩ := t.t a h
  refine ⟨?_, ?_, o, m.fr a o h3 h2 (okT_of h4), h4⟩
  · cases e : F2 a with
    | none => rfl
    | some u =>
      rcases m.fn a u e with z | z | ⟨i, z⟩ | ⟨vs, z⟩
      · rw [h1] at z; cases z
      · rw [h3] at z; cases z
      · rw [h2] at z; cases z
      · rw [h3] at z; cases z; exact (nomatch h4)
  · cases e : O2 a with
    | none => rfl
    | some i =>
      rcases m.on a i e with z | ⟨i, z⟩
      · rw [h3] at z; cases z
      · rw [h2] at z; exact (nomatch z), t.nw⟩
theorem RepO.mv (t : Tp O H F1 O1 H1 P) (m : Mv F1 O1 H1 F2 O2 H2) (h : RepO K mg F1 H1 n P d v) : RepO K mg F2 H2 n P d v :=
  h.mono m.ff (fun a o p e => m.fr a o e (t.t a p).2.1 (okT_of (by obtain ⟨_, _, o', h1, h2⟩ := t.t a p; rw [e] at h1; cases h1; exact h2))) fun _ x => x
theorem Tp.keep (t : Tp O H F1 O1 H1 P) (m : Mv F1 O1 H1 F2 O2 H2) {a : Addr} {o : HO} (p : P a) (e : H1 a = some o) : H2 a = some o :=
  m.fr a o e (t.t a p).2.1 (okT_of (by obtain ⟨_, _, o', h1, h2⟩ := t.t a p; rw [e] at h1; cases h1; exact h2))
theorem At.trans (a : At K mg io F O H env1 σ1 F1 O1 H1) (b : At K mg io F1 O1 H1 env2 σ2 F2 O2 H2) : At K mg io F O H env2 σ2 F2 O2 H2 := ⟨a.mv.trans b.mv, b.si⟩
theorem At.start (I : SI K mg io env σ F O H) : At K mg io F O H env σ F O H := ⟨Mv.refl I.sub, I⟩
/-- the heap grows -/
theorem SI.ext (I : SI K mg io env σ F O H) (e : Same H H1) : SI K mg io env σ F O H1 where
  sub := I.sub.trans e
  own := fun a i h => let ⟨h1, o, h2, h3⟩ := I.own a i h; ⟨h1, o, e _ _ h2, h3⟩
  slot := fun i b h => let ⟨v, h1, h2, h3⟩ := I.slot i b h; ⟨v, h1, h2.mono (fun _ _ x => x) (fun a o _ x => e a o x) (fun _ x => x), h3⟩
  len := I.len
  tab := I.tab.same e
theorem At.ext (A : At K mg io F O H env σ F1 O1 H1) (e : Same H1 H2) : At K mg io F O H env σ F1 O1 H2 :=
  A.trans ⟨⟨fun _ _ h => h, fun a o h _ _ => e a o h, fun _ _ h => .inl h, fun _ i h => .inr ⟨i, h⟩, .same e⟩, A.si.ext e⟩
theorem SI.notab (I : SI K mg io env σ F O H) {a : Addr} {i : Nat} (h : O a = some i) : ¬ isTab a := by
  obtain ⟨_, o, h1, h2⟩ := I.own a i h
  exact I.tab.no h1 (isTb_of h2)
theorem same_upd {a : Addr} {o : HO} (h : H a = none) : Same H (upd H a o) := fun b u e => by rw [upd_ne (ne_of_none e h)]; exact e
theorem SI.freeF (I : SI K mg io env σ F O H) {a : Addr} (h : H a = none) : F a = none := I.sub.free h
theorem SI.freeO (I : SI K mg io env σ F O H) {a : Addr} (h : H a = none) : O a = none := by
  cases e : O a with
  | none => rfl
  | some i => obtain ⟨_, o, z, _⟩ := I.own a i e; rw [h] at z; cases z
/-- a new object at hand -/
theorem At.tp_new (A : At K mg io F O H env σ F1 O1 H1) {a : Addr} {o : HO} (h : H1 a = none) (nt : isTp o = false) : Tp O H F1 O1 (upd H1 a o) (fun b => b = a) :=
  Tp.after A.mv ⟨fun b e => by subst e; exact ⟨A.si.freeF h, A.si.freeO h, o, upd_same, nt⟩, fun b e => by subst e; exact .inl h⟩
/-- the ground grows by what is at hand, or by what a slot owns -/
noncomputable def laid (F : Hp) (P : AP) (H : Hp) : Hp := fun a => open Classical in if P a then H a else F a
theorem laid_in {a : Addr} (h : P a) : laid F P H a = H a := by unfold laid; rw [if_pos h]
theorem laid_out {a : Addr} (h : ¬ P a) : laid F P H a = F a := by unfold laid; rw [if_neg h]
theorem laid_same (h : ∀ a o, F a = some o → P a → H a = some o) : Same F (laid F P H) := fun a o e => by
  by_cases p : P a
  · rw [laid_in p]; exact h a o e p
  · rw [laid_out p]; exact e
theorem TabsK.lay (t : TabsK F H) (hP : ∀ a, P a → ∀ ps, H a ≠ some (.tbl ps)) : TabsK (laid F P H) H := fun a q h => ⟨(t a q h).1, by
  rw [laid_out fun p => by
    obtain ⟨⟨ps, z, _⟩, _⟩ := t a q h
    exact hP a p ps z]
  exact (t a q h).2⟩
theorem SI.lay (I : SI K mg io env σ F O H) (hP : ∀ a, P a → O a = Option.none) (hT : ∀ a, P a → ∀ ps, H a ≠ some (.tbl ps)) : SI K mg io env σ (laid F P H) O H where
  tab := I.tab.lay hT
  sub := fun a o e => by
    by_cases p : P a
    · rw [laid_in p] at e; exact e
    · rw [laid_out p] at e; exact I.sub a o e
  own := fun a i h => by
    have p : ¬ P a := fun p => by rw [hP a p] at h; cases h
    rw [laid_out p]
    exact I.own a i h
  slot := fun i b h => let ⟨v, h1, h2, h3⟩ := I.slot i b h; ⟨v, h1, h2.mono (laid_same fun a o e _ => I.sub a o e) (fun _ _ _ x => x) (fun _ x => x), h3⟩
  len := I.len
theorem At.frz (A : At K mg io F O H env σ F1 O1 H1) (t : Tp O H F1 O1 H1 P) : At K mg io F O H env σ (laid F1 P H1) O1 H1 where
  mv := ⟨A.mv.ff.trans (laid_same fun a o e _ => A.si.sub a o e), A.mv.fr, fun a o e => by
    by_cases p : P a
    · exact .inr ((t.nw a p).imp id .inl)
    · rw [laid_out p] at e; exact A.mv.fn a o e, A.mv.on, A.mv.tb⟩
  si := A.si.lay (fun a p => (t.t a p).2.1) fun a p ps z => by
    obtain ⟨_, _, o, h1, h2⟩ := t.t a p
    rw [z] at h1; cases h1; cases h2
theorem At.frz_same (A : At K mg io F O H env σ F1 O1 H1) : Same F1 (laid F1 P H1) := laid_same fun a o e _ => A.si.sub a o e
/-- a value at hand, laid down -/
theorem At.frz_rep (A : At K mg io F O H env σ F1 O1 H1) (h : RepO K mg F1 H1 n P d v) : Rep K mg (laid F1 P H1) d v := h.fz A.frz_same fun a o p e => by rw [laid_in p]; exact e
/-- tuples may be laid into the ground at any time -/
theorem At.ground (A : At K mg io F O H env σ F1 O1 H1) (hP : ∀ a, P a → ∃ vs, H1 a = some (.tup vs)) : At K mg io F O H env σ (laid F1 P H1) O1 H1 where
  mv := ⟨A.mv.ff.trans (laid_same fun a o e _ => A.si.sub a o e), A.mv.fr, fun a o e => by
    by_cases p : P a
    · obtain ⟨vs, h⟩ := hP a p
      cases e : H a with
      | none => exact .inr (.inl rfl)
      | some u =>
        cases q : O a with
        | some i => exact .inr (.inr (.inl ⟨i, rfl⟩))
        | none =>
          rcases A.mv.stay e q with z | ⟨_, _, _, z⟩
          · rw [h] at z
            exact .inr (.inr (.inr ⟨vs, z.symm⟩))
          · rw [h] at z; cases z
    · rw [laid_out p] at e; exact A.mv.fn a o e, A.mv.on, A.mv.tb⟩
  si := A.si.lay (hT := fun a p ps z => by obtain ⟨vs, h⟩ := hP a p; rw [z] at h; cases h) fun a p => by
    obtain ⟨vs, h⟩ := hP a p
    cases e : O1 a with
    | none => rfl
    | some i =>
      obtain ⟨_, o, h1, h2⟩ := A.si.own a i e
      rw [h] at h1; cases h1; exact (nomatch h2)
/-- the owner of a slot goes -/
def offO (O : OW) (i : Nat) : OW := fun a => if O a = some i then none else O a
theorem offO_some {a : Addr} {i j : Nat} : offO O i a = some j ↔ O a = some j ∧ j ≠ i := by
  unfold offO
  split
  · rename_i h
    exact ⟨fun z => (nomatch z), fun ⟨z, q⟩ => by rw [h] at z; cases z; exact absurd rfl q⟩
  · rename_i h
    exact ⟨fun z => ⟨z, fun e => h (e ▸ z)⟩, fun z => z.1⟩
theorem getElem?_set_some {α : Type} {l : List α} {i j : Nat} {x y : α} (h : (l.set i x)[j]? = some y) : (i = j ∧ y = x ∧ j < l.length) ∨ (i ≠ j ∧ l[j]? = some y) := by
  rw [List.getElem?_set] at h
  split at h
  · rename_i e
    subst e
    split at h
    · rename_i hl; exact .inl ⟨rfl, (Option.some.inj h).symm, hl⟩
    · cases h
  · rename_i e; exact .inr ⟨e, h⟩
/-- what slot i owned is laid into the ground -/
theorem At.fzSlot (A : At K mg io F O H env σ F1 O1 H1) {i : Nat} {b : Bd} (hb : env[i]? = some (some b)) :
    At K mg io F O H (env.set i (some { b with n := 0 })) σ (laid F1 (fun a => O1 a = some i) H1) (offO O1 i) H1 ∧ ∃ v, σ[i]? = some (some v) ∧ Rep K mg (laid F1 (fun a => O1 a = some i) H1) b.d v := by
  obtain ⟨v, h1, h2, h3⟩ := A.si.slot i b hb
  have r := A.frz_rep h2
  refine ⟨⟨⟨A.mv.ff.trans A.frz_same, A.mv.fr, fun a o e => ?_, fun a j e => A.mv.on a j (offO_some.mp e).1, A.mv.tb⟩, ⟨fun a o e => ?_, fun a j e => ?_, fun j c hc => ?_, by rw [List.length_set]; exact A.si.len, A.si.tab.lay fun a p ps z => by
    obtain ⟨_, o, h1, h2⟩ := A.si.own a i p
    rw [z] at h1; cases h1; cases h2⟩⟩, v, h1, r⟩
  · by_cases p : O1 a = some i
    · exact .inr ((A.mv.on a i p).imp id .inl)
    · rw [laid_out p] at e; exact A.mv.fn a o e
  · by_cases p : O1 a = some i
    · rw [laid_in (P := fun a => O1 a = some i) p] at e; exact e
    · rw [laid_out p] at e; exact A.si.sub a o e
  · obtain ⟨e, ne⟩ := offO_some.mp e
    have p : ¬ O1 a = some i := fun z => by rw [z] at e; cases e; exact ne rfl
    rw [laid_out p]
    exact A.si.own a j e
  · rcases getElem?_set_some hc with ⟨rfl, e, _⟩ | ⟨ne, hc⟩
    · cases e
      exact ⟨v, h1, r, h3⟩
    · obtain ⟨w, g1, g2, g3⟩ := A.si.slot j c hc
      exact ⟨w, g1, g2.mono A.frz_same (fun _ _ _ x => x) (fun a x => offO_some.mpr ⟨x, fun e => ne e.symm⟩), g3⟩
/-- slot i is given a value at hand -/
noncomputable def putO (O : OW) (i : Nat) (P : AP) : OW := fun a => open Classical in if P a then some i else offO O i a
theorem putO_some {a : Addr} {i j : Nat} : putO O i P a = some j ↔ (P a ∧ j = i) ∨ (¬ P a ∧ O a = some j ∧ j ≠ i) := by
  unfold putO
  by_cases p : P a
  · rw [if_pos p]
    exact ⟨fun e => .inl ⟨p, (Option.some.inj e).symm⟩, fun e => e.elim (fun e => by rw [e.2]) fun e => absurd p e.1⟩
  · rw [if_neg p, offO_some]
    exact ⟨fun e => .inr ⟨p, e⟩, fun e => e.elim (fun e => absurd e.1 p) fun e => e.2⟩
theorem At.set (A : At K mg io F O H env σ F1 O1 H1) {i : Nat} (t : Tp O H F1 O1 H1 P) (r : RepO K mg F1 H1 n P d v) :
    At K mg io F O H (env.set i (some ⟨d, n, false⟩)) (σ.set i (some v)) F1 (putO O1 i P) H1 where
  mv := ⟨A.mv.ff, A.mv.fr, A.mv.fn, fun a j e => by
    rcases putO_some.mp e with ⟨p, _⟩ | ⟨_, e, _⟩
    · exact t.nw a p
    · exact A.mv.on a j e, A.mv.tb⟩
  si := ⟨A.si.sub, fun a j e => by
    rcases putO_some.mp e with ⟨p, _⟩ | ⟨_, e, _⟩
    · exact ⟨(t.t a p).1, (t.t a p).2.2⟩
    · exact A.si.own a j e, fun j c hc => by
      rcases getElem?_set_some hc with ⟨rfl, e, hl⟩ | ⟨ne, hc⟩
      · cases e
        exact ⟨v, (by rw [List.getElem?_set_self (by rw [← A.si.len]; exact hl)]), r.mono (fun _ _ x => x) (fun _ _ _ x => x) (fun a p => putO_some.mpr (.inl ⟨p, rfl⟩)), fun z => (nomatch z)⟩
      · obtain ⟨w, g1, g2, g3⟩ := A.si.slot j c hc
        refine ⟨w, by rw [List.getElem?_set_ne ne]; exact g1, g2.mono (fun _ _ x => x) (fun _ _ _ x => x) (fun a e => ?_), g3⟩
        refine putO_some.mpr (.inr ⟨fun p => ?_, e, fun z => ne z.symm⟩)
        rw [(t.t a p).2.1] at e; exact (nomatch e), by rw [List.length_set, List.length_set]; exact A.si.len, A.si.tab⟩
theorem TabsK.mv (t : TabsK F H) (own : ∀ a i, O a = some i → F a = none ∧ ∃ o, H a = some o ∧ isTp o = false) (m : Mv F O H F1 O1 H1) : TabsK F1 H1 := fun a q h => by
  obtain ⟨t1, t2⟩ := t a q h
  refine ⟨(m.tb a q h).2 t1, ?_⟩
  obtain ⟨ps, e, _⟩ := t1
  cases z : F1 a with
  | none => rfl
  | some o =>
    rcases m.fn a o z with y | y | ⟨i, y⟩ | ⟨vs, y⟩
    · rw [t2] at y; cases y
    · rw [e] at y; cases y
    · obtain ⟨_, o', y1, y2⟩ := own a i y
      rw [e] at y1; cases y1; cases y2
    · rw [e] at y; cases y
/-- all but the tables -/
noncomputable def noT (H : Hp) : Hp := fun a => open Classical in if isTab a then none else H a
theorem noT_out {a : Addr} (h : ¬ isTab a) : noT H a = H a := by unfold noT; rw [if_neg h]
theorem noT_in {a : Addr} (h : isTab a) : noT H a = none := by unfold noT; rw [if_pos h]
theorem noT_some {a : Addr} {o : HO} (h : noT H a = some o) : H a = some o ∧ ¬ isTab a := by
  by_cases k : isTab a
  · rw [noT_in k] at h; cases h
  · rw [noT_out k] at h; exact ⟨h, k⟩
theorem SI.noT_sub (I : SI K mg io env σ F O H) : Same F (noT H) := fun a o e => by
  rw [noT_out fun ⟨q, hq⟩ => by rw [(I.tab a q hq).2] at e; cases e]
  exact I.sub a o e
theorem SI.noT_rep (I : SI K mg io env σ F O H) {i : Nat} (h : RepO K mg F H n (fun a => O a = some i) d v) : Rep K mg (noT H) d v :=
  h.fz I.noT_sub fun a o p e => by rw [noT_out (I.notab p)]; exact e
theorem SI.noT_tab (I : SI K mg io env σ F O H) : TabsK (noT H) H := fun a q h => ⟨(I.tab a q h).1, noT_in ⟨q, h⟩⟩
theorem At.extT (I : SI K mg io env σ F O H) (e : Same (noT H) H1) (tb : TabMv H H1) : At K mg io F O H env σ F O H1 where
  mv := ⟨fun _ _ h => h, fun a o h _ ok => e a o (by
    rw [noT_out]
    · exact h
    · cases z : isTb o with
      | true => exact ok z
      | false => exact I.tab.no h z), fun _ _ h => .inl h, fun _ i h => .inr ⟨i, h⟩, tb⟩
  si := ⟨I.noT_sub.trans e, fun a i h => by
    obtain ⟨h1, o, h2, h3⟩ := I.own a i h
    exact ⟨h1, o, e _ _ (by rw [noT_out (I.notab h)]; exact h2), h3⟩, fun i b hb => by
    obtain ⟨v, h1, h2, h3⟩ := I.slot i b hb
    exact ⟨v, h1, h2.mono (fun _ _ x => x) (fun a o p x => e a o (by rw [noT_out (I.notab p)]; exact x)) (fun _ x => x), h3⟩, I.len, fun a q h => ⟨(tb a q h).2 (I.tab a q h).1, (I.tab a q h).2⟩⟩
/-- slot i is forgotten -/
theorem At.wipe (A : At K mg io F O H env σ F1 O1 H1) (i : Nat) (w : Option V) : At K mg io F O H (env.set i none) (σ.set i w) F1 (offO O1 i) H1 where
  mv := ⟨A.mv.ff, A.mv.fr, A.mv.fn, fun a j e => A.mv.on a j (offO_some.mp e).1, A.mv.tb⟩
  si := ⟨A.si.sub, fun a j e => A.si.own a j (offO_some.mp e).1, fun j c hc => by
      rcases getElem?_set_some hc with ⟨rfl, e, hl⟩ | ⟨ne, hc⟩
      · cases e
      · obtain ⟨w, g1, g2, g3⟩ := A.si.slot j c hc
        exact ⟨w, by rw [List.getElem?_set_ne ne]; exact g1, g2.mono (fun _ _ x => x) (fun _ _ _ x => x) (fun a e => offO_some.mpr ⟨e, fun z => ne z.symm⟩), g3⟩, by rw [List.length_set, List.length_set]; exact A.si.len, A.si.tab⟩
/-- a new tuple goes into the ground -/
theorem At.tup (A : At K mg io F O H env σ F1 O1 H1) {a : Addr} {o : HO} (h : H1 a = none) : At K mg io F O H env σ (upd F1 a o) O1 (upd H1 a o) where
  mv := ⟨A.mv.ff.trans (same_upd (A.si.freeF h)), fun b u e q ok => by
      by_cases z : b = a
      · subst z
        have := A.mv.fr b u e q ok
        rw [h] at this; cases this
      · rw [upd_ne z]; exact A.mv.fr b u e q ok, fun b u e => by
      by_cases z : b = a
      · subst z; exact .inr ((A.mv.back (.inl h)).imp id .inl)
      · rw [upd_ne z] at e; exact A.mv.fn b u e, A.mv.on, A.mv.tb.trans (.upd (.inl h))⟩
  si := ⟨fun b u e => by
      by_cases z : b = a
      · subst z; rw [upd_same] at e ⊢; exact e
      · rw [upd_ne z] at e ⊢; exact A.si.sub b u e, fun b i e => by
      have z : b ≠ a := fun z => by subst z; rw [A.si.freeO h] at e; cases e
      rw [upd_ne z, upd_ne z]
      exact A.si.own b i e, fun i b hb => by
      obtain ⟨w, g1, g2, g3⟩ := A.si.slot i b hb
      exact ⟨w, g1, g2.mono (same_upd (A.si.freeF h)) (fun b u _ e => same_upd h b u e) (fun _ x => x), g3⟩, A.si.len, fun b q hb => by
      obtain ⟨t, e⟩ := A.si.tab b q hb
      have z : b ≠ a := fun z => by subst z; obtain ⟨_, e', _⟩ := t; rw [h] at e'; cases e'
      exact ⟨t.ext (same_upd h), by rw [upd_ne z]; exact e⟩⟩
end

/-! ### the readings -/
structure Exc where
  cls : Str
  fs : List (Str × D)
abbrev QE := D → Nat → DEnv → Prop
abbrev QX := Exc → DEnv → Prop
abbrev ET := DEnv → QE → QX → Prop
abbrev PUT := DEnv → (D → Prop) → Prop
abbrev TTd := DEnv → (Bool → DEnv → Prop) → QX → Prop
abbrev AT := DEnv → (List D → DEnv → Prop) → QX → Prop
structure DEnds where
  nx : DEnv → Prop
  rt : QE
  bk : DEnv → Prop := fun _ => False
  ct : DEnv → Prop := fun _ => False
  ex : QX := fun _ _ => False
abbrev SD := DEnv → DEnds → Prop

section
variable (K : PySem.W.Frag) (mg : MG)
/-- an exception in the air -/
def XR (F : Hp) (x : Exc) (cls : Value) (dx : Option Addr) : Prop := ∃ C d vs, cls = .ref C ∧ mg x.cls = some (.ref C) ∧ dx = some d ∧ F d = some (.xd vs) ∧ RepF K mg F x.fs vs
def KE (io : Nat → Option V) (σ : L2.St) (F : Hp) (O : OW) (H : Hp) (Q : QE) (Qh : VK) : Prop :=
  ∀ d n env F' O' H' v P, At K mg io F O H env σ F' O' H' → Tp O H F' O' H' P → RepO K mg F' H' n P d v → Q d n env → Qh v H'
def KX (io : Nat → Option V) (F : Hp) (O : OW) (H : Hp) (R : QX) (W : WX) : Prop :=
  ∀ x env σ F' O' H' cls dx, At K mg io F O H env σ F' O' H' → XR K mg F' x cls dx → R x env → W cls dx σ H'
def rdE (τ : ET) (W : WX) : TE := fun σ H Qh => ∃ io env F O Q R, SI K mg io env σ F O H ∧ τ env Q R ∧ KE K mg io σ F O H Q Qh ∧ KX K mg io F O H R W
def rdT (τ : TTd) (W : WX) : TT := fun σ H Qh => ∃ io env F O Q R, SI K mg io env σ F O H ∧ τ env Q R ∧ (∀ b env' F' O' H', At K mg io F O H env' σ F' O' H' → Q b env' → Qh b H') ∧ KX K mg io F O H R W
def rdA (τ : AT) (W : WX) : TA := fun σ H Qh => ∃ io env F O Q R, SI K mg io env σ F O H ∧ τ env Q R ∧ (∀ ds env' F' O' H' vs, At K mg io F O H env' σ F' O' H' → Reps K mg F' ds vs → Q ds env' → Qh vs H') ∧ KX K mg io F O H R W
def rdP (τ : PUT) : TE := fun σ H Qh => ∃ io env F O Q, SI K mg io env σ F O H ∧ τ env Q ∧ ∀ d v H', Same H H' → Rep K mg H' d v → Q d → Qh v H'
def rdS (τ : SD) (W : WX) : TS := fun Dn σ H => ∃ io env F O D, SI K mg io env σ F O H ∧ τ env D ∧ (∀ env' σ' F' O' H', At K mg io F O H env' σ' F' O' H' → D.nx env' → Dn.nx σ' H') ∧
  (∀ d n env' σ' F' O' H' v P, At K mg io F O H env' σ' F' O' H' → Tp O H F' O' H' P → RepO K mg F' H' n P d v → D.rt d n env' → Dn.rt v H') ∧
  (∀ env' σ' F' O' H', At K mg io F O H env' σ' F' O' H' → D.bk env' → Dn.bk σ' H') ∧ (∀ env' σ' F' O' H', At K mg io F O H env' σ' F' O' H' → D.ct env' → Dn.ct σ' H') ∧ KX K mg io F O H D.ex W
end
def DE (X : Cx) (e : Expr) (τ : ET) : Prop := ∀ W, Takes X W → PE X e (rdE X.K X.mg τ W)
def DT (X : Cx) (e : Expr) (τ : TTd) : Prop := ∀ W, Takes X W → PT X e (rdT X.K X.mg τ W)
def DA (X : Cx) (es : List Expr) (τ : AT) : Prop := ∀ W, Takes X W → PA X es (rdA X.K X.mg τ W)
def PU (X : Cx) (e : Expr) (τ : PUT) : Prop := PE X e (rdP X.K X.mg τ)
def DS (X : Cx) (s : Stmt) (τ : SD) : Prop := ∀ W, Takes X W → PS X s (rdS X.K X.mg τ W)
def DSs (X : Cx) (s : List Stmt) (τ : SD) : Prop := ∀ W, Takes X W → PSs X s (rdS X.K X.mg τ W)
section
variable {X : Cx} {e : Expr} {t t' : TE}
theorem peI (h : PE X e t) (k : ∀ σ H Q, t' σ H Q → t σ H Q) : PE X e t' := ⟨fun pins s σ H Q I x => h.run pins s σ H Q I (k σ H Q x)⟩
theorem ptI {t t' : TT} (h : PT X e t) (k : ∀ σ H Q, t' σ H Q → t σ H Q) : PT X e t' := ⟨fun pins s σ H Q I x => h.run pins s σ H Q I (k σ H Q x)⟩
theorem pwI {t t' : TT} (h : PW X e t) (k : ∀ σ H Q, t' σ H Q → t σ H Q) : PW X e t' := ⟨fun w pins s σ H Q I x => h.run w pins s σ H Q I (k σ H Q x)⟩
theorem paI {es : List Expr} {t t' : TA} (h : PA X es t) (k : ∀ σ H Q, t' σ H Q → t σ H Q) : PA X es t' := ⟨fun pos pins s σ H Q I x => h.run pos pins s σ H Q I (k σ H Q x)⟩
theorem psI {s : Stmt} {t t' : TS} (h : PS X s t) (k : ∀ D σ H, t' D σ H → t D σ H) : PS X s t' := ⟨fun pins s σ H Q I x => h.run pins s σ H Q I (k Q σ H x)⟩
theorem pssI {s : List Stmt} {t t' : TS} (h : PSs X s t) (k : ∀ D σ H, t' D σ H → t D σ H) : PSs X s t' := ⟨fun pins s σ H Q I x => h.run pins s σ H Q I (k Q σ H x)⟩
end
section
variable {K : PySem.W.Frag} {mg : MG} {io : Nat → Option V} {env env1 env2 : DEnv} {σ σ1 σ2 : L2.St} {F F0 F1 F2 H H0 H1 H2 : Hp} {O O0 O1 O2 : OW} {P : AP} {n : Nat} {d : D} {v : V} {Q : QE} {Qh : VK} {R : QX} {W : WX}
theorem KE.mv (k : KE K mg io σ F O H Q Qh) (A : At K mg io F O H env σ1 F1 O1 H1) : KE K mg io σ F1 O1 H1 Q Qh := fun d n e F' O' H' v P B t => k d n e F' O' H' v P (A.trans B) (Tp.after A.mv t)
theorem KX.mv (k : KX K mg io F O H R W) (A : At K mg io F O H env σ1 F1 O1 H1) : KX K mg io F1 O1 H1 R W := fun x e σ F' O' H' c dx B => k x e σ F' O' H' c dx (A.trans B)
/-- a value without an address -/
theorem KE.leaf (k : KE K mg io σ F O H Q Qh) (A : At K mg io F O H env σ F1 O1 H1) {F'' : Hp} (hl : d.leaf = true) (r : Rep K mg F'' d v) (q : Q d 0 env) : Qh v H1 := k d 0 env F1 O1 H1 v P0 A Tp.none (leaf_rep (F' := F1) hl r) q
end
/-- two ways -/
def brB (b : Bool) (x y : Prop) : Prop := match b with | true => x | false => y
theorem brB_dec {p : Prop} [Decidable p] {x y : Prop} (h1 : p → x) (h2 : ¬ p → y) : brB (decide p) x y := by
  by_cases h : p
  · rw [decide_eq_true h]; exact h1 h
  · rw [decide_eq_false h]; exact h2 h
theorem brB_not {b : Bool} {x y : Prop} (h : brB b y x) : brB (!b) x y := by cases b <;> exact h
theorem brB_t {b : Bool} {x y : Prop} (e : b = true) (h : x) : brB b x y := by rw [e]; exact h
theorem brB_f {b : Bool} {x y : Prop} (e : b = false) (h : y) : brB b x y := by rw [e]; exact h
theorem brB_2 {b : Bool} {x y : Prop} (h1 : b = true → x) (h2 : b = false → y) : brB b x y := by cases b with | true => exact h1 rfl | false => exact h2 rfl
/-- what is without an address may be kept -/
def lf : D → Prop → Prop
  | .non, p => p | .bl _, p => p | .int _, p => p | .str _, p => p | _, _ => False
theorem lf_of {d : D} {p : Prop} (h : lf d p) : d.leaf = true ∧ p := by cases d <;> first | exact ⟨rfl, h⟩ | exact h.elim
end DL
set_option Elab.async false
set_option linter.all false
set_option maxRecDepth 100000
/-! DLc: the data layer, part c: expressions, their rules by operators on data. -/
namespace DL
open PySem L2
variable [Tbs]

abbrev Qn := D → Nat → Prop
abbrev OT1 := D → Qn → Prop
abbrev OT2 := D → D → Qn → Prop
abbrev OTN := List D → Qn → Prop
abbrev OTM := D → List D → Qn → Prop
section
variable (K : PySem.W.Frag) (mg : MG)
/-- what a new container's object bears -/
def NewL (F : Hp) : D → HO → Prop
  | .lst ds, .lst vs => Reps K mg F ds vs
  | .dK ds, .dK vs => RepK K mg F ds vs
  | .dT ds, .dT vs => RepT K mg F ds vs
  | _, _ => False
/-- where an operator ends: at a value that the ground bears, at a new container, at a new tuple -/
structure Fin (F H : Hp) (Q : Qn) (Qh : VK) : Prop where
  old : ∀ z u, Rep K mg F z u → Q z 0 → Qh u H
  new : ∀ z o p, H p = none → NewL K mg F z o → Q z 1 → Qh (.ref p) (upd H p o)
  tup : ∀ ds vs p, H p = none → Reps K mg F ds vs → Q (.tup ds) 0 → Qh (.ref p) (upd H p (.tup vs))
  gen : ∀ (T : AP) H1, Same H H1 → (∀ a, T a → ∃ vs, H1 a = some (.tup vs)) → (∀ z u, Rep K mg (laid F T H1) z u → Q z 0 → Qh u H1) ∧
    ∀ z o p, H1 p = none → NewL K mg (laid F T H1) z o → Q z 1 → Qh (.ref p) (upd H1 p o)
end
section
variable {K : PySem.W.Frag} {mg : MG} {F F' H H' : Hp}
theorem NewL.mono (e : Same F F') {z : D} {o : HO} (h : NewL K mg F z o) : NewL K mg F' z o := by
  cases z <;> cases o <;> first | exact (show False from h).elim | skip
  · exact Reps.mono e (show Reps K mg F _ _ from h)
  · exact RepK.mono e (show RepK K mg F _ _ from h)
  · exact RepT.mono e (show RepT K mg F _ _ from h)
theorem NewL.nt {z : D} {o : HO} (h : NewL K mg F z o) : isTp o = false := by
  cases z <;> cases o <;> first | exact (show False from h).elim | rfl
theorem NewL.rep {z : D} {o : HO} {p : Addr} (h : NewL K mg F z o) (e : F p = some o) : Rep K mg F z (.ref p) := by
  cases z <;> cases o <;> first | exact (show False from h).elim | skip
  · exact ⟨p, _, rfl, .inl e, h⟩
  · exact ⟨p, _, rfl, .inl e, h⟩
  · exact ⟨p, _, rfl, .inl e, h⟩
theorem NewL.own {z : D} {o : HO} {p : Addr} (h : NewL K mg F z o) (e : H p = some o) : RepO K mg F H 1 (fun b => b = p) z (.ref p) := by
  cases z <;> cases o <;> first | exact (show False from h).elim | skip
  · exact ⟨p, _, P0, rfl, e, rfl, fun x => x, fun _ x => x.elim, ROs.of (fun _ _ x => x) h⟩
  · exact ⟨p, _, P0, rfl, e, rfl, fun x => x, fun _ x => x.elim, (RepK.keys h).1, ROs.of (fun _ _ x => x) (RepK.keys h).2⟩
  · exact ⟨p, _, P0, rfl, e, rfl, fun x => x, fun _ x => x.elim, (RepT.keys h).1, ROs.of (fun _ _ x => x) (RepT.keys h).2⟩
theorem Fin.of {io : Nat → Option V} {env : DEnv} {σ : L2.St} {F1 H1 : Hp} {O O1 : OW} {Q : QE} {Qh : VK} (k : KE K mg io σ F O H Q Qh) (A : At K mg io F O H env σ F1 O1 H1) : Fin K mg F1 H1 (fun z n => Q z n env) Qh where
  old := fun z u r q => k z 0 env F1 O1 H1 u P0 A Tp.none r q
  new := fun z o p h r q => k z 1 env F1 O1 (upd H1 p o) (.ref p) (fun b => b = p) (A.ext (same_upd h)) (A.tp_new h r.nt) (r.own upd_same) q
  tup := fun ds vs p h r q => k (.tup ds) 0 env (upd F1 p (.tup vs)) O1 (upd H1 p (.tup vs)) (.ref p) P0 (A.tup h) Tp.none ⟨p, vs, rfl, upd_same, Reps.mono (same_upd (A.si.freeF h)) r⟩ q
  gen := fun T H2 e hT => ⟨fun z u r q => k z 0 env _ O1 H2 u P0 ((A.ext e).ground hT) Tp.none r q,
    fun z o p h r q => k z 1 env _ O1 (upd H2 p o) (.ref p) (fun b => b = p) (((A.ext e).ground hT).ext (same_upd h)) (((A.ext e).ground hT).tp_new h r.nt) (r.own upd_same) q⟩
theorem Fin.ofP {Q : D → Prop} {Qh : VK} (k : ∀ d v H', Same H H' → Rep K mg H' d v → Q d → Qh v H') {H1 : Hp} (e : Same H H1) : Fin K mg H1 H1 (fun z _ => Q z) Qh where
  old := fun z u r q => k z u H1 e r q
  new := fun z o p h r q => k z _ _ (e.trans (same_upd h)) ((r.mono (same_upd h)).rep upd_same) q
  tup := fun ds vs p h r q => k (.tup ds) _ _ (e.trans (same_upd h)) ⟨p, vs, rfl, upd_same, Reps.mono (same_upd h) r⟩ q
  gen := fun T H2 e2 hT =>
    have s : Same (laid H1 T H2) H2 := fun a o h => by
      by_cases p : T a
      · rw [laid_in p] at h; exact h
      · rw [laid_out p] at h; exact e2 a o h
    ⟨fun z u r q => k z u H2 (e.trans e2) (r.mono s) q, fun z o p h r q => k z _ _ ((e.trans e2).trans (same_upd h)) ((r.mono (s.trans (same_upd h))).rep upd_same) q⟩
end

/-! ### names and constants -/
def gt : DEnv → Nat → Option Bd
  | [], _ => none
  | x :: _, 0 => x
  | _ :: r, i + 1 => gt r i
theorem gt_some : ∀ {env : DEnv} {i : Nat} {b : Bd}, gt env i = some b → env[i]? = some (some b)
  | [], _, _, h => nomatch h
  | x :: _, 0, b, h => congrArg some h
  | _ :: r, i + 1, b, h => gt_some (env := r) (i := i) h
def pVar (i : Nat) : PUT := fun env Q => match gt env i with | some b => Q b.d | none => False
def eVar (i : Nat) : ET := fun env Q _ => match gt env i with | some b => Q b.d 0 (env.set i (some { b with n := 0 })) | none => False
def pC (d : D) : PUT := fun _ Q => Q d
def eP (t : PUT) : ET := fun env Q _ => t env fun d => lf d (Q d 0 env)
/-- a written thing's value -/
def vlf : D → V
  | .non => .non | .bl b => .bl b | .int i => .int i | .str s => .str s | _ => .non
section
variable {X : Cx}
theorem Fin.leafy {K : PySem.W.Frag} {mg : MG} {F H : Hp} {Q : Qn} {Qh : VK} (hl : ∀ z n, Q z n → z.leaf = true) (k : ∀ z n H1, Same H H1 → Q z n → Qh (vlf z) H1) : Fin K mg F H Q Qh :=
  have lf : ∀ {F1 : Hp} {z : D} {u : V}, z.leaf = true → Rep K mg F1 z u → u = vlf z := fun {F1 z u} h r => by cases z <;> first | exact r | cases h
  have no : ∀ {F1 : Hp} {z : D} {o : HO}, z.leaf = true → ¬ NewL K mg F1 z o := fun {F1 z o} h r => by
    cases z <;> first | (cases h; done) | (cases o <;> exact (show False from r).elim)
  ⟨fun z u r q => by rw [lf (hl _ _ q) r]; exact k z 0 H (Same.refl _) q, fun z o p _ r q => (no (hl _ _ q) r).elim, fun ds vs p _ _ q => (nomatch hl _ _ q),
    fun T H1 e _ => ⟨fun z u r q => by rw [lf (hl _ _ q) r]; exact k z 0 H1 e q, fun z o p _ r q => (no (hl _ _ q) r).elim⟩⟩
theorem pu_var (i : Nat) {x : Str} {pos : Pos} (hN : X.N[i]? = some x := by rfl) (hv : Vis X.env.scope x := by first | exact Or.inl rfl | exact Or.inr (Or.inl rfl) | exact Or.inr (Or.inr rfl)) (hd : (x == ("__debug__" : Str)) = false := by decide)
    (hcd : (x == ("__classdict__" : Str)) = false := by decide) : PU X (.Name x pos) (pVar i) := by
  refine peI (pe_var hN hv hd hcd) ?_
  rintro σ H Qh ⟨io, env, F, O, Q, I, h, k⟩
  unfold pVar at h
  cases e : gt env i with
  | none => rw [e] at h; exact h.elim
  | some b =>
    rw [e] at h
    obtain ⟨v, h1, h2, _⟩ := I.slot i b (gt_some e)
    exact ⟨v, h1, k _ _ _ (Same.refl _) (h2.rep I.sub) h⟩
theorem de_var (i : Nat) {x : Str} {pos : Pos} (hN : X.N[i]? = some x := by rfl) (hv : Vis X.env.scope x := by first | exact Or.inl rfl | exact Or.inr (Or.inl rfl) | exact Or.inr (Or.inr rfl)) (hd : (x == ("__debug__" : Str)) = false := by decide)
    (hcd : (x == ("__classdict__" : Str)) = false := by decide) : DE X (.Name x pos) (eVar i) := by
  intro W tk
  refine peI (pe_var hN hv hd hcd) ?_
  rintro σ H Qh ⟨io, env, F, O, Q, R, I, h, k, kx⟩
  unfold eVar at h
  cases e : gt env i with
  | none => rw [e] at h; exact h.elim
  | some b =>
    rw [e] at h
    obtain ⟨A, v, h1, h2⟩ := (At.start I).fzSlot (gt_some e)
    exact ⟨v, h1, k b.d 0 _ _ _ _ _ P0 A Tp.none h2 h⟩
theorem pu_c {e : Expr} {d : D} {v : V} (h : PE X e (tC v)) (r : ∀ H, Rep X.K X.mg H d v) : PU X e (pC d) :=
  peI h fun σ H Qh ⟨io, env, F, O, Q, I, q, k⟩ => k _ _ _ (Same.refl _) (r _) q
theorem pu_int {i j pos} : PU X (.Constant (.int i) j pos) (pC (.int i)) := pu_c pe_int fun _ => rfl
theorem pu_bl {i j pos} : PU X (.Constant (.bool i) j pos) (pC (.bl i)) := pu_c pe_bl fun _ => rfl
theorem pu_str {i j pos} : PU X (.Constant (.str i) j pos) (pC (.str i)) := pu_c pe_str fun _ => rfl
theorem pu_non {j pos} : PU X (.Constant .none j pos) (pC .non) := pu_c pe_non fun _ => rfl
/-- a constant of the module -/
theorem pu_glob {x : Str} {u : Value} {pos : Pos} (d : D) (hg : Gl X x) (hm : X.mg x = some u) (r : RelV (vlf d) u) (hl : d.leaf = true := by rfl) (hd : (x == ("__debug__" : Str)) = false := by decide) : PU X (.Name x pos) (pC d) :=
  pu_c (pe_glob hg hm r hd) fun H => by cases d <;> first | rfl | cases hl
/-- a def of the module, as a value -/
theorem pu_fn {x : Str} {f : Addr} {pos : Pos} (hg : Gl X x) (hm : X.mg x = some (.ref f)) (hd : (x == ("__debug__" : Str)) = false := by decide) : PU X (.Name x pos) (pC (.fn x)) :=
  pu_c (v := .ref f) (pe_glob hg hm rfl hd) fun H => ⟨f, rfl, hm⟩
theorem de_pu {e : Expr} {t : PUT} (h : PU X e t) : DE X e (eP t) := by
  intro W tk
  refine peI h ?_
  rintro σ H Qh ⟨io, env, F, O, Q, R, I, q, k, kx⟩
  refine ⟨io, env, F, O, _, I, q, fun d v H' e r z => ?_⟩
  obtain ⟨hl, z⟩ := lf_of z
  exact k.leaf ((At.start I).ext e) hl r z
end

/-! ### two operands, one operand, argument lists -/
def Ok1 (X : Cx) (r : V → Hp → VK → Prop) (od : OT1) : Prop := ∀ F H x v Q Qh, Same F H → Rep X.K X.mg F x v → od x Q → Fin X.K X.mg F H Q Qh → r v H Qh
def Ok2 (X : Cx) (r : R2) (od : OT2) : Prop := ∀ F H x y v w Q Qh, Same F H → Rep X.K X.mg F x v → Rep X.K X.mg F y w → od x y Q → Fin X.K X.mg F H Q Qh → r v w H Qh
def OkN (X : Cx) (r : List V → Hp → VK → Prop) (od : OTN) : Prop := ∀ F H xs vs Q Qh, Same F H → Reps X.K X.mg F xs vs → od xs Q → Fin X.K X.mg F H Q Qh → r vs H Qh
def tO1 (od : OT1) (ta : ET) : ET := fun env Q R => ta env (fun x _ env1 => od x fun z n => Q z n env1) R
def tO2 (od : OT2) (ta tb : ET) : ET := fun env Q R => ta env (fun x _ env1 => tb env1 (fun y _ env2 => od x y fun z n => Q z n env2) R) R
def tP1 (od : OT1) (ta : PUT) : PUT := fun env Q => ta env fun x => od x fun z _ => Q z
def tP2 (od : OT2) (ta tb : PUT) : PUT := fun env Q => ta env fun x => tb env fun y => od x y fun z _ => Q z
section
variable {X : Cx} {a b e : Expr} {ta tb : ET} {pa pb : PUT} {r : R2} {od : OT2} {r1 : V → Hp → VK → Prop} {od1 : OT1}
theorem de_bin (hp : ∀ ta tb, PE X a ta → PE X b tb → PE X e (tOp r ta tb)) (k : Ok2 X r od) (ha : DE X a ta) (hb : DE X b tb) : DE X e (tO2 od ta tb) := by
  intro W tk
  refine peI (hp _ _ (ha W tk) (hb W tk)) ?_
  rintro σ H Qh ⟨io, env, F, O, Q, R, I, h, kQ, kX⟩
  refine ⟨io, env, F, O, _, R, I, h, ?_, kX⟩
  intro x n env1 F1 O1 H1 v P A1 T1 r1 h1
  have A1' := A1.frz T1
  have r1' := A1.frz_rep r1
  refine ⟨io, env1, _, O1, _, R, A1'.si, h1, ?_, kX.mv A1'⟩
  intro y m env2 F2 O2 H2 w P2 A2 T2 r2 h2
  have A2' := A2.frz T2
  exact k _ _ x y v w _ _ A2'.si.sub (Rep.mono A2'.mv.ff r1') (A2.frz_rep r2) h2 (Fin.of kQ (A1'.trans A2'))
theorem pu_bin (hp : ∀ ta tb, PE X a ta → PE X b tb → PE X e (tOp r ta tb)) (k : Ok2 X r od) (ha : PU X a pa) (hb : PU X b pb) : PU X e (tP2 od pa pb) := by
  refine peI (hp _ _ ha hb) ?_
  rintro σ H Qh ⟨io, env, F, O, Q, I, h, kQ⟩
  refine ⟨io, env, F, O, _, I, h, fun x v H1 e1 r1 h1 => ⟨io, env, F, O, _, I.ext e1, h1, fun y w H2 e2 r2 h2 => ?_⟩⟩
  exact k H2 H2 x y v w _ _ (Same.refl _) (Rep.mono e2 r1) r2 h2 (Fin.ofP kQ (e1.trans e2))
theorem de_un1 (hp : ∀ ta, PE X a ta → PE X e (tUn r1 ta)) (k : Ok1 X r1 od1) (ha : DE X a ta) : DE X e (tO1 od1 ta) := by
  intro W tk
  refine peI (hp _ (ha W tk)) ?_
  rintro σ H Qh ⟨io, env, F, O, Q, R, I, h, kQ, kX⟩
  refine ⟨io, env, F, O, _, R, I, h, ?_, kX⟩
  intro x n env1 F1 O1 H1 v P A1 T1 r1 h1
  have A1' := A1.frz T1
  exact k _ _ x v _ _ A1'.si.sub (A1.frz_rep r1) h1 (Fin.of kQ A1')
theorem pu_un1 (hp : ∀ ta, PE X a ta → PE X e (tUn r1 ta)) (k : Ok1 X r1 od1) (ha : PU X a pa) : PU X e (tP1 od1 pa) := by
  refine peI (hp _ ha) ?_
  rintro σ H Qh ⟨io, env, F, O, Q, I, h, kQ⟩
  exact ⟨io, env, F, O, _, I, h, fun x v H1 e1 r1 h1 => k H1 H1 x v _ _ (Same.refl _) r1 h1 (Fin.ofP kQ e1)⟩
end
/-! argument lists -/
def aNil : AT := fun env Q _ => Q [] env
def aCons (ta : ET) (tr : AT) : AT := fun env Q R => ta env (fun x _ env1 => tr env1 (fun xs env2 => Q (x :: xs) env2) R) R
abbrev PAT := DEnv → (List D → Prop) → Prop
def apNil : PAT := fun _ Q => Q []
def apCons (ta : PUT) (tr : PAT) : PAT := fun env Q => ta env fun x => tr env fun xs => Q (x :: xs)
def rdPA (K : PySem.W.Frag) (mg : MG) (τ : PAT) : TA := fun σ H Qh => ∃ io env F O Q, SI K mg io env σ F O H ∧ τ env Q ∧ ∀ ds vs H', Same H H' → Reps K mg H' ds vs → Q ds → Qh vs H'
def PUA (X : Cx) (es : List Expr) (τ : PAT) : Prop := PA X es (rdPA X.K X.mg τ)
section
variable {X : Cx} {e : Expr} {es : List Expr} {te : ET} {t : AT} {pe : PUT} {pt : PAT}
theorem da_nil : DA X [] aNil := fun W tk => paI pa_nil fun σ H Qh ⟨io, env, F, O, Q, R, I, h, kQ, kX⟩ => kQ [] env F O H [] (At.start I) rfl h
theorem da_cons (ha : DE X e te) (hr : DA X es t) (hs : starEach (e :: es) X.env = (false, eval e X.env) :: starEach es X.env := by rfl) : DA X (e :: es) (aCons te t) := by
  intro W tk
  refine paI (pa_cons (ha W tk) (hr W tk) hs) ?_
  rintro σ H Qh ⟨io, env, F, O, Q, R, I, h, kQ, kX⟩
  refine ⟨io, env, F, O, _, R, I, h, ?_, kX⟩
  intro x n env1 F1 O1 H1 v P A1 T1 r1 h1
  have A1' := A1.frz T1
  have r1' := A1.frz_rep r1
  refine ⟨io, env1, _, O1, _, R, A1'.si, h1, ?_, kX.mv A1'⟩
  intro ys env2 F2 O2 H2 vs A2 r2 h2
  exact kQ (x :: ys) _ _ _ _ _ (A1'.trans A2) ⟨v, vs, rfl, Rep.mono A2.mv.ff r1', r2⟩ h2
theorem pua_nil : PUA X [] apNil := paI pa_nil fun σ H Qh ⟨io, env, F, O, Q, I, h, kQ⟩ => kQ [] [] H (Same.refl _) rfl h
theorem pua_cons (ha : PU X e pe) (hr : PUA X es pt) (hs : starEach (e :: es) X.env = (false, eval e X.env) :: starEach es X.env := by rfl) : PUA X (e :: es) (apCons pe pt) := by
  refine paI (pa_cons ha hr hs) ?_
  rintro σ H Qh ⟨io, env, F, O, Q, I, h, kQ⟩
  refine ⟨io, env, F, O, _, I, h, fun x v H1 e1 r1 h1 => ⟨io, env, F, O, _, I.ext e1, h1, fun ys vs H2 e2 r2 h2 => ?_⟩⟩
  exact kQ (x :: ys) _ _ (e1.trans e2) ⟨v, vs, rfl, Rep.mono e2 r1, r2⟩ h2
end
def tON (od : OTN) (t : AT) : ET := fun env Q R => t env (fun xs env1 => od xs fun z n => Q z n env1) R
def tPN (od : OTN) (t : PAT) : PUT := fun env Q => t env fun xs => od xs fun z _ => Q z
section
variable {X : Cx} {e : Expr} {es : List Expr} {t : AT} {pt : PAT} {r : List V → Hp → VK → Prop} {od : OTN}
theorem de_nary (hp : ∀ ta, PA X es ta → PE X e (tCB r ta)) (k : OkN X r od) (ha : DA X es t) : DE X e (tON od t) := by
  intro W tk
  refine peI (hp _ (ha W tk)) ?_
  rintro σ H Qh ⟨io, env, F, O, Q, R, I, h, kQ, kX⟩
  refine ⟨io, env, F, O, _, R, I, h, ?_, kX⟩
  intro xs env1 F1 O1 H1 vs A1 r1 h1
  exact k _ _ xs vs _ _ A1.si.sub r1 h1 (Fin.of kQ A1)
theorem pu_nary (hp : ∀ ta, PA X es ta → PE X e (tCB r ta)) (k : OkN X r od) (ha : PUA X es pt) : PU X e (tPN od pt) := by
  refine peI (hp _ ha) ?_
  rintro σ H Qh ⟨io, env, F, O, Q, I, h, kQ⟩
  exact ⟨io, env, F, O, _, I, h, fun xs vs H1 e1 r1 h1 => k H1 H1 xs vs _ _ (Same.refl _) r1 h1 (Fin.ofP kQ e1)⟩
end
/-! displays: their items stay as they are -/
def odTup : OTN := fun ds Q => ds.length ≤ sizeLine ∧ Q (.tup ds) 0
def odLst : OTN := fun ds Q => ds.length ≤ sizeLine ∧ Q (.lst ds) 1
section
variable {X : Cx} {es : List Expr} {t : AT} {pt : PAT} {pos : Pos}
def rTup : List V → Hp → VK → Prop := fun xs H1 Q => xs.length ≤ sizeLine ∧ ∀ p, H1 p = none → Q (.ref p) (upd H1 p (.tup xs))
def rLst : List V → Hp → VK → Prop := fun xs H1 Q => xs.length ≤ sizeLine ∧ ∀ p, H1 p = none → Q (.ref p) (upd H1 p (.lst xs))
theorem okTup : OkN X rTup odTup := fun F H xs vs Q Qh e r h k => ⟨by rw [r.length]; exact h.1, fun p hp => k.tup _ _ p hp r h.2⟩
theorem okLst : OkN X rLst odLst := fun F H xs vs Q Qh e r h k => ⟨by rw [r.length]; exact h.1, fun p hp => k.new (.lst xs) (.lst vs) p hp r h.2⟩
theorem de_tup {x1} (h : DA X es t) : DE X (.Tuple es x1 pos) (tON odTup t) := de_nary (fun _ h => pe_tup h) okTup h
theorem de_lst (h : DA X es t) : DE X (.List es pos) (tON odLst t) := de_nary (fun _ h => pe_lst h) okLst h
theorem pu_tup {x1} (h : PUA X es pt) : PU X (.Tuple es x1 pos) (tPN odTup pt) := pu_nary (fun _ h => pe_tup h) okTup h
theorem pu_lst (h : PUA X es pt) : PU X (.List es pos) (tPN odLst pt) := pu_nary (fun _ h => pe_lst h) okLst h
end

/-! ### tests -/
def ttB (t : ET) : TTd := fun env Q R => t env (fun d _ env1 => match d with | .bl b => Q b env1 | _ => False) R
def ttPB (t : PUT) : TTd := fun env Q _ => t env fun d => match d with | .bl b => Q b env | _ => False
/-- a value's truth -/
def tru : D → (Bool → Prop) → Prop
  | .non, Q => Q false
  | .bl b, Q => Q b
  | .int i, Q => Q (i != 0)
  | .str s, Q => s.length ≤ sizeLine ∧ Q ((s.length : Int) != 0)
  | .lst ds, Q => Q (!ds.isEmpty)
  | .tup ds, Q => Q (!ds.isEmpty)
  | .ktu ds, Q => Q (!ds.isEmpty)
  | .dK ds, Q => Q (!ds.isEmpty)
  | _, _ => False
def ttPT (t : PUT) : TTd := fun env Q _ => t env fun d => tru d fun b => Q b env
def ttT (t : ET) : TTd := fun env Q R => t env (fun d _ env1 => tru d fun b => Q b env1) R
def ttAnd (t u : TTd) : TTd := fun env Q R => t env (fun c env1 => brB c (u env1 Q R) (Q false env1)) R
def ttOr (t u : TTd) : TTd := fun env Q R => t env (fun c env1 => brB c (Q true env1) (u env1 Q R)) R
def ttNot (t : TTd) : TTd := fun env Q R => t env (fun c env1 => Q (!c) env1) R
/-- a chain of and, or -/
def DW (X : Cx) (e : Expr) (τ : TTd) : Prop := ∀ W, Takes X W → PW X e (rdT X.K X.mg τ W)
theorem bl_of {K : PySem.W.Frag} {mg : MG} {F H : Hp} {n : Nat} {P : AP} {b : Bool} {v : V} (h : RepO K mg F H n P (.bl b) v) : v = .bl b := by cases n <;> exact h
section
variable {X : Cx} {e a b : Expr} {rest : List Expr} {t : ET} {pt : PUT} {tA tB : TTd} {pos : Pos}
theorem dt_val (h : DE X e t) (he : ∀ whole, isTrue e X.env whole = (do let v ← whole; standAt e.pos; holding [v] (truthy v)) := by intro _; rfl) : DT X e (ttB t) := by
  intro W tk
  refine ptI (pt_val (h W tk) he) ?_
  rintro σ H Qh ⟨io, env, F, O, Q, R, I, h, kQ, kX⟩
  refine ⟨io, env, F, O, _, R, I, h, ?_, kX⟩
  intro d n env1 F1 O1 H1 v P A1 T1 r1 h1
  cases d with
  | bl b => exact ⟨b, bl_of r1, kQ b env1 F1 O1 H1 A1 h1⟩
  | _ => exact h1.elim
theorem dt_pu (h : PU X e pt) (he : ∀ whole, isTrue e X.env whole = (do let v ← whole; standAt e.pos; holding [v] (truthy v)) := by intro _; rfl) : DT X e (ttPB pt) := by
  intro W tk
  refine ptI (pt_val h he) ?_
  rintro σ H Qh ⟨io, env, F, O, Q, R, I, h, kQ, kX⟩
  refine ⟨io, env, F, O, _, I, h, fun d v H1 e1 r1 h1 => ?_⟩
  cases d with
  | bl b => exact ⟨b, r1, kQ b env F O H1 ((At.start I).ext e1) h1⟩
  | _ => exact h1.elim
theorem tru_of {K : PySem.W.Frag} {mg : MG} {H : Hp} {d : D} {v : V} {Q : Bool → Prop} (r : Rep K mg H d v) (hd : ∀ a o u, v = .ref a → H a ≠ some (.frz o (.dK u))) (h : tru d Q) : ∃ k, TruV K v H k ∧ Q k := by
  cases d with
  | non => cases (show v = .non from r); exact ⟨false, rfl, h⟩
  | bl b => cases (show v = .bl b from r); exact ⟨b, rfl, h⟩
  | int i => cases (show v = .int i from r); exact ⟨_, rfl, h⟩
  | str s => cases (show v = .str s from r); exact ⟨_, ⟨h.1, rfl⟩, h.2⟩
  | lst ds =>
    obtain ⟨a, vs, rfl, h1, h2⟩ := r
    refine ⟨!vs.isEmpty, .inl ⟨vs, .inl h1, rfl⟩, ?_⟩
    have e : vs.isEmpty = ds.isEmpty := by
      have := h2.length
      cases vs <;> cases ds <;> first | rfl | simp at this
    rw [e]
    exact h
  | tup ds =>
    obtain ⟨a, vs, rfl, h1, h2⟩ := r
    refine ⟨!vs.isEmpty, .inr (.inl ⟨vs, .inl (.inl h1), rfl⟩), ?_⟩
    have e : vs.isEmpty = ds.isEmpty := by
      have := h2.length
      cases vs <;> cases ds <;> first | rfl | simp at this
    rw [e]
    exact h
  | ktu ds =>
    obtain ⟨a, vs, rfl, h1, h2⟩ := r
    refine ⟨!vs.isEmpty, .inr (.inl ⟨vs, h1, rfl⟩), ?_⟩
    have e : vs.isEmpty = ds.isEmpty := by
      have := h2.length
      cases vs <;> cases ds <;> first | rfl | simp at this
    rw [e]
    exact h
  | dK ds =>
    obtain ⟨a, vs, rfl, h1, h2⟩ := r
    rcases h1 with h1 | ⟨o, h1⟩
    · refine ⟨!vs.isEmpty, .inr (.inr ⟨vs, h1, rfl⟩), ?_⟩
      have e : vs.isEmpty = ds.isEmpty := by
        have := congrArg List.length (RepK.keys h2).1
        cases vs <;> cases ds <;> first | rfl | simp at this
      rw [e]
      exact h
    · exact absurd h1 (hd _ _ _ rfl)
  | _ => exact (show False from h).elim
theorem dt_and1 (ha : DT X a tA) : DW X (.BoolOp .And [a] pos) tA := fun W tk => pw_and1 (ha W tk)
theorem dt_or1 (ha : DT X a tA) : DW X (.BoolOp .Or [a] pos) tA := fun W tk => pw_or1 (ha W tk)
theorem dt_and (ha : DT X a tA) (hb : DW X (.BoolOp .And (b :: rest) pos) tB) : DW X (.BoolOp .And (a :: b :: rest) pos) (ttAnd tA tB) := by
  intro W tk
  refine pwI (pw_and (ha W tk) (hb W tk)) ?_
  rintro σ H Qh ⟨io, env, F, O, Q, R, I, h, kQ, kX⟩
  refine ⟨io, env, F, O, _, R, I, h, ?_, kX⟩
  intro c env1 F1 O1 H1 A1 h1
  cases c with
  | true => exact iteT ⟨io, env1, F1, O1, Q, R, A1.si, h1, fun b env2 F2 O2 H2 A2 q => kQ b env2 F2 O2 H2 (A1.trans A2) q, kX.mv A1⟩
  | false => exact iteF (kQ false env1 F1 O1 H1 A1 h1)
theorem dt_or (ha : DT X a tA) (hb : DW X (.BoolOp .Or (b :: rest) pos) tB) : DW X (.BoolOp .Or (a :: b :: rest) pos) (ttOr tA tB) := by
  intro W tk
  refine pwI (pw_or (ha W tk) (hb W tk)) ?_
  rintro σ H Qh ⟨io, env, F, O, Q, R, I, h, kQ, kX⟩
  refine ⟨io, env, F, O, _, R, I, h, ?_, kX⟩
  intro c env1 F1 O1 H1 A1 h1
  cases c with
  | false => exact iteF ⟨io, env1, F1, O1, Q, R, A1.si, h1, fun b env2 F2 O2 H2 A2 q => kQ b env2 F2 O2 H2 (A1.trans A2) q, kX.mv A1⟩
  | true => exact iteT (kQ true env1 F1 O1 H1 A1 h1)
theorem DW.dt (h : DW X e tA) : DT X e tA := fun W tk => (h W tk).pt
theorem dt_not (ha : DT X a tA) : DT X (.UnaryOp .Not a pos) (ttNot tA) := by
  intro W tk
  refine ptI (pt_not (ha W tk)) ?_
  rintro σ H Qh ⟨io, env, F, O, Q, R, I, h, kQ, kX⟩
  exact ⟨io, env, F, O, _, R, I, h, fun c env1 F1 O1 H1 A1 h1 => kQ _ env1 F1 O1 H1 A1 h1, kX⟩
end
/-! and, or, not, if .. else as values -/
def eAnd (t u : ET) : ET := fun env Q R => t env (fun d _ env1 => match d with | .bl b => brB b (u env1 Q R) (Q (.bl false) 0 env1) | _ => False) R
def eOr (t u : ET) : ET := fun env Q R => t env (fun d _ env1 => match d with | .bl b => brB b (Q (.bl true) 0 env1) (u env1 Q R) | _ => False) R
def eNot (t : ET) : ET := fun env Q R => t env (fun d _ env1 => match d with | .bl b => Q (.bl (!b)) 0 env1 | _ => False) R
def eIf (c : TTd) (t u : ET) : ET := fun env Q R => c env (fun b env1 => brB b (t env1 Q R) (u env1 Q R)) R
def eNotT (c : TTd) : ET := fun env Q R => c env (fun b env1 => Q (.bl (!b)) 0 env1) R
section
variable {X : Cx} {e a b c : Expr} {rest : List Expr} {t u : ET} {tc : TTd} {pos : Pos} {op : BoolOp}
theorem de_one (h : DE X a t) : DE X (.BoolOp op [a] pos) t := fun W tk => pe_one (h W tk)
theorem de_and (ha : DE X a t) (hb : DE X (.BoolOp .And (b :: rest) pos) u) : DE X (.BoolOp .And (a :: b :: rest) pos) (eAnd t u) := by
  intro W tk
  refine peI (pe_and (ha W tk) (hb W tk)) ?_
  rintro σ H Qh ⟨io, env, F, O, Q, R, I, h, kQ, kX⟩
  refine ⟨io, env, F, O, _, R, I, h, ?_, kX⟩
  intro d n env1 F1 O1 H1 v P A1 T1 r1 h1
  cases d with
  | bl b =>
    refine ⟨b, bl_of r1, ?_⟩
    cases b with
    | true => exact iteT ⟨io, env1, F1, O1, Q, R, A1.si, h1, kQ.mv A1, kX.mv A1⟩
    | false => exact iteF (kQ.leaf (F'' := F1) (d := .bl _) A1 rfl rfl h1)
  | _ => exact h1.elim
theorem de_or (ha : DE X a t) (hb : DE X (.BoolOp .Or (b :: rest) pos) u) : DE X (.BoolOp .Or (a :: b :: rest) pos) (eOr t u) := by
  intro W tk
  refine peI (pe_or (ha W tk) (hb W tk)) ?_
  rintro σ H Qh ⟨io, env, F, O, Q, R, I, h, kQ, kX⟩
  refine ⟨io, env, F, O, _, R, I, h, ?_, kX⟩
  intro d n env1 F1 O1 H1 v P A1 T1 r1 h1
  cases d with
  | bl b =>
    refine ⟨b, bl_of r1, ?_⟩
    cases b with
    | false => exact iteF ⟨io, env1, F1, O1, Q, R, A1.si, h1, kQ.mv A1, kX.mv A1⟩
    | true => exact iteT (kQ.leaf (F'' := F1) (d := .bl _) A1 rfl rfl h1)
  | _ => exact h1.elim
theorem de_not (ha : DE X a t) : DE X (.UnaryOp .Not a pos) (eNot t) := by
  intro W tk
  refine peI (pe_not (ha W tk)) ?_
  rintro σ H Qh ⟨io, env, F, O, Q, R, I, h, kQ, kX⟩
  refine ⟨io, env, F, O, _, R, I, h, ?_, kX⟩
  intro d n env1 F1 O1 H1 v P A1 T1 r1 h1
  cases d with
  | bl b => exact ⟨b, bl_of r1, kQ.leaf (F'' := F1) (d := .bl _) A1 rfl rfl h1⟩
  | _ => exact h1.elim
theorem de_ifExp (hc : DT X c tc) (ha : DE X a t) (hb : DE X b u) : DE X (.IfExp c a b pos) (eIf tc t u) := by
  intro W tk
  refine peI (pe_ifExp (hc W tk) (ha W tk) (hb W tk)) ?_
  rintro σ H Qh ⟨io, env, F, O, Q, R, I, h, kQ, kX⟩
  refine ⟨io, env, F, O, _, R, I, h, ?_, kX⟩
  intro b env1 F1 O1 H1 A1 h1
  cases b with
  | true => exact iteT ⟨io, env1, F1, O1, Q, R, A1.si, h1, kQ.mv A1, kX.mv A1⟩
  | false => exact iteF ⟨io, env1, F1, O1, Q, R, A1.si, h1, kQ.mv A1, kX.mv A1⟩
end
end DL
set_option Elab.async false
set_option linter.all false
set_option maxRecDepth 100000
/-! DLd: the data layer, part d: targets, statements, loops, comprehensions, calls, defs. -/
namespace DL
open PySem L2
variable [Tbs]

/-! ### targets -/
inductive Tg where
  | nm (i : Nat)
  | tu (ts : List Tg)
mutual
def Tg.slots : Tg → List Nat
  | .nm i => [i]
  | .tu ts => Tg.slotsL ts
def Tg.slotsL : List Tg → List Nat
  | [] => []
  | t :: ts => t.slots ++ Tg.slotsL ts
end
mutual
def bindT : Tg → D → DEnv → (DEnv → Prop) → Prop
  | .nm i, d, env, k => k (env.set i (some ⟨d, 0, false⟩))
  | .tu ts, .tup ds, env, k => bindTs ts ds env k
  | .tu _, _, _, _ => False
def bindTs : List Tg → List D → DEnv → (DEnv → Prop) → Prop
  | [], [], env, k => k env
  | t :: ts, d :: ds, env, k => bindT t d env fun env1 => bindTs ts ds env1 k
  | _, _, _, _ => False
end
mutual
theorem bindT_some : ∀ {t : Tg} {d : D} {env : DEnv} {k : DEnv → Prop}, bindT t d env k → ∃ e, k e
  | .nm i, d, env, k, h => ⟨_, h⟩
  | .tu ts, .tup ds, env, k, h => by
    obtain ⟨e, _, q⟩ := bindTs_some h
    exact ⟨e, q⟩
  | .tu _, .non, _, _, h => h.elim
  | .tu _, .bl _, _, _, h => h.elim
  | .tu _, .int _, _, _, h => h.elim
  | .tu _, .str _, _, _, h => h.elim
  | .tu _, .lst _, _, _, h => h.elim
  | .tu _, .dK _, _, _, h => h.elim
  | .tu _, .dT _, _, _, h => h.elim
  | .tu _, .obj _ _, _, _, h => h.elim
  | .tu _, .fn _, _, _, h => h.elim
  | .tu _, .ktu _, _, _, h => h.elim
  | .tu _, .exn _ _ _, _, _, h => h.elim
  | .tu _, .hole, _, _, h => h.elim
theorem bindTs_some : ∀ {ts : List Tg} {ds : List D} {env : DEnv} {k : DEnv → Prop}, bindTs ts ds env k → ∃ e, ds.length = ts.length ∧ k e
  | [], [], env, k, h => ⟨_, rfl, h⟩
  | [], _ :: _, _, _, h => h.elim
  | _ :: _, [], _, _, h => h.elim
  | t :: ts, d :: ds, env, k, h => by
    obtain ⟨e, q⟩ := bindT_some (t := t) (d := d) h
    obtain ⟨e2, l, q2⟩ := bindTs_some q
    exact ⟨e2, by simp [l], q2⟩
end
/-- the slots S alone may differ -/
def Agr (S : List Nat) (σ σ' : L2.St) : Prop := ∀ vs : List Nat, (∀ i ∈ S, i ∈ vs) → wipe σ' vs = wipe σ vs
theorem wipe_set {σ : L2.St} {i : Nat} {w : Option V} : ∀ {vs : List Nat}, i ∈ vs → wipe (σ.set i w) vs = wipe σ vs
  | [], h => by cases h
  | v :: vs, h => by
    unfold wipe
    by_cases e : i ∈ vs
    · rw [wipe_set e]
    · have e2 : i = v := by rcases List.mem_cons.mp h with z | z; exact z; exact absurd z e
      subst e2
      have g : ∀ (vs : List Nat), i ∉ vs → wipe (σ.set i w) vs = (wipe σ vs).set i w := by
        intro vs
        induction vs with
        | nil => intro _; rfl
        | cons u us ih =>
          intro hn
          unfold wipe
          rw [ih fun z => hn (List.mem_cons_of_mem _ z), List.set_comm _ _ (fun z => hn (by rw [z]; exact List.mem_cons_self))]
      rw [g vs e, List.set_set]
section
variable (K : PySem.W.Frag) (mg : MG)
def rdG (g : Tg) : TG := fun v σ H Qσ => ∃ io env F O d Qd, SI K mg io env σ F O H ∧ Rep K mg F d v ∧ bindT g d env Qd ∧
  ∀ env' σ' O', At K mg io F O H env' σ' F O' H → Agr g.slots σ σ' → Qd env' → Qσ σ' H
def rdGs (gs : List Tg) : TGs := fun vs σ H Qσ => ∃ io env F O ds Qd, SI K mg io env σ F O H ∧ Reps K mg F ds vs ∧ bindTs gs ds env Qd ∧
  ∀ env' σ' O', At K mg io F O H env' σ' F O' H → Agr (Tg.slotsL gs) σ σ' → Qd env' → Qσ σ' H
end
def DGt (X : Cx) (e : Expr) (g : Tg) : Prop := PG X e (rdG X.K X.mg g)
def DGts (X : Cx) (es : List Expr) (gs : List Tg) : Prop := PGs X es (rdGs X.K X.mg gs)
section
variable {X : Cx} {e : Expr} {es : List Expr} {g : Tg} {gs : List Tg} {pos : Pos}
theorem pgI {t t' : TG} (h : PG X e t) (k : ∀ v σ H Q, t' v σ H Q → t v σ H Q) : PG X e t' := ⟨fun pins s σ H v u Q I r w => h.run pins s σ H v u Q I r (k v σ H Q w)⟩
theorem pgsI {t t' : TGs} (h : PGs X es t) (k : ∀ v σ H Q, t' v σ H Q → t v σ H Q) : PGs X es t' := ⟨fun pins s σ H v u Q I r w => h.run pins s σ H v u Q I r (k v σ H Q w)⟩
theorem dgt_nm (i : Nat) {x : Str} (hN : X.N.Nodup) (hi : X.N[i]? = some x := by rfl) (hx : Loc X.env.scope x := by first | exact Or.inl rfl | exact Or.inr rfl) (hf : X.fn x = true ∨ X.env.scope.names.lookup x = some .local := by first | exact .inl rfl | exact .inr rfl) :
    DGt X (.Name x pos) (.nm i) := by
  refine pgI (pg_name hN hi hx hf) ?_
  rintro v σ H Q ⟨io, env, F, O, d, Qd, I, r, h, k⟩
  exact k _ _ _ ((At.start I).set (n := 0) (P := P0) (i := i) Tp.none r) (fun vs hv => wipe_set (hv i (List.mem_cons_self))) h
theorem dgts_nil : DGts X [] [] := by
  refine pgsI pgs_nil ?_
  rintro v σ H Q ⟨io, env, F, O, ds, Qd, I, r, h, k⟩
  cases ds with
  | nil => exact ⟨r, k env σ O (At.start I) (fun vs _ => rfl) h⟩
  | cons _ _ => exact h.elim
theorem dgts_cons (h1 : DGt X e g) (h2 : DGts X es gs) (hs : (assignEach (e :: es) X.env).map (·.2) = assign e X.env :: (assignEach es X.env).map (·.2) := by rfl) : DGts X (e :: es) (g :: gs) := by
  refine pgsI (pgs_cons h1 h2 hs) ?_
  rintro vs σ H Q ⟨io, env, F, O, ds, Qd, I, r, h, k⟩
  cases ds with
  | nil => exact h.elim
  | cons d ds =>
    obtain ⟨v, rs, rfl, r1, r2⟩ := r
    refine ⟨v, rs, rfl, io, env, F, O, d, _, I, r1, h, ?_⟩
    intro env1 σ1 O1 A1 a1 h1
    exact ⟨io, env1, F, O1, ds, Qd, A1.si, r2, h1, fun env2 σ2 O2 A2 a2 h2 => k env2 σ2 O2 (A1.trans A2) (fun vs hv => (a2 vs fun i hi => hv i (List.mem_append_right _ hi)).trans (a1 vs fun i hi => hv i (List.mem_append_left _ hi))) h2⟩
theorem dgt_tu {k : Nat} (hc : X.calm = true) (h : DGts X es gs) (hn : (assignEach es X.env).length = gs.length := by rfl) (hst : (assignEach es X.env).findIdx? (·.1) = none := by rfl) : DGt X (.Tuple es k pos) (.tu gs) := by
  refine pgI (pg_tup hc h hn hst) ?_
  rintro v σ H Q ⟨io, env, F, O, d, Qd, I, r, h, k⟩
  cases d with
  | tup ds =>
    obtain ⟨a, vs, rfl, h1, h2⟩ := r
    obtain ⟨_, hl, _⟩ := bindTs_some h
    exact ⟨a, vs, rfl, .inl (.inl (I.sub _ _ h1)), by rw [h2.length]; exact hl, io, env, F, O, ds, Qd, I, h2, h, k⟩
  | _ => exact h.elim
end

/-! ### statements -/
def sdSeq (t u : SD) : SD := fun env D => t env { D with nx := fun env1 => u env1 D }
def sdNil : SD := fun env D => D.nx env
def sdBreak : SD := fun env D => D.bk env
def sdCont : SD := fun env D => D.ct env
def sdNever : SD := fun _ _ => False
def sdSet (i : Nat) (t : ET) : SD := fun env D => t env (fun d n env1 => D.nx (env1.set i (some ⟨d, n, false⟩))) D.ex
def sdAsg (g : Tg) (t : ET) : SD := fun env D => t env (fun d _ env1 => bindT g d env1 D.nx) D.ex
def sdDrop (t : ET) : SD := fun env D => t env (fun _ _ env1 => D.nx env1) D.ex
def sdRet (t : ET) : SD := fun env D => t env D.rt D.ex
def sdRetV (i : Nat) : SD := fun env D => match gt env i with | some b => D.rt b.d b.n (env.set i none) | none => False
def sdRetN : SD := fun env D => D.rt .non 0 env
def sdIf (c : TTd) (t u : SD) : SD := fun env D => c env (fun b env1 => brB b (t env1 D) (u env1 D)) D.ex
section
variable {K : PySem.W.Frag} {mg : MG} {io : Nat → Option V} {env env1 : DEnv} {σ : L2.St} {F F1 H H1 : Hp} {O O1 : OW}
theorem At.drop (A : At K mg io F O H env σ F1 O1 H1) (i : Nat) : At K mg io F O H (env.set i none) σ F1 (offO O1 i) H1 where
  mv := ⟨A.mv.ff, A.mv.fr, A.mv.fn, fun a j e => A.mv.on a j (offO_some.mp e).1, A.mv.tb⟩
  si := ⟨A.si.sub, fun a j e => A.si.own a j (offO_some.mp e).1, fun j c hc => by
      rcases getElem?_set_some hc with ⟨rfl, e, hl⟩ | ⟨ne, hc⟩
      · cases e
      · obtain ⟨w, g1, g2, g3⟩ := A.si.slot j c hc
        exact ⟨w, g1, g2.mono (fun _ _ x => x) (fun _ _ _ x => x) (fun a e => offO_some.mpr ⟨e, fun z => ne z.symm⟩), g3⟩, by rw [List.length_set]; exact A.si.len, A.si.tab⟩
theorem At.tp_slot (A : At K mg io F O H env σ F1 O1 H1) (i : Nat) : Tp O H F1 (offO O1 i) H1 (fun a => O1 a = some i) := ⟨fun a e => by
  obtain ⟨h1, h2⟩ := A.si.own a i e
  refine ⟨h1, ?_, h2⟩
  unfold offO
  rw [if_pos e], fun a e => A.mv.on a i e⟩
end
section
variable {X : Cx} {s : Stmt} {rest body orelse : List Stmt} {t u : SD} {e : Expr} {te : ET} {tc : TTd} {pos : Pos}
theorem dss_nil : DSs X [] sdNil := fun W tk => pssI pss_nil fun Dn σ H ⟨io, env, F, O, D, I, h, k, _⟩ => k env σ F O H (At.start I) h
theorem dss_one (h : DS X s t) : DSs X [s] t := fun W tk => pss_one (h W tk)
theorem dss_cons (h1 : DS X s t) (h2 : DSs X rest u) : DSs X (s :: rest) (sdSeq t u) := by
  intro W tk
  refine pssI (pss_cons (h1 W tk) (h2 W tk)) ?_
  rintro Dn σ H ⟨io, env, F, O, D, I, h, k1, k2, k3, k4, k5⟩
  refine ⟨io, env, F, O, _, I, h, ?_, k2, k3, k4, k5⟩
  intro env1 σ1 F1 O1 H1 A1 h1
  exact ⟨io, env1, F1, O1, D, A1.si, h1, fun env2 σ2 F2 O2 H2 A2 => k1 _ _ _ _ _ (A1.trans A2), fun d n env2 σ2 F2 O2 H2 v P A2 T2 => k2 _ _ _ _ _ _ _ _ _ (A1.trans A2) (Tp.after A1.mv T2),
    fun env2 σ2 F2 O2 H2 A2 => k3 _ _ _ _ _ (A1.trans A2), fun env2 σ2 F2 O2 H2 A2 => k4 _ _ _ _ _ (A1.trans A2), k5.mv A1⟩
theorem ds_pass : DS X (.Pass pos) sdNil := fun W tk => psI ps_pass fun Dn σ H ⟨io, env, F, O, D, I, h, k, _⟩ => k env σ F O H (At.start I) h
theorem ds_break : DS X (.Break pos) sdBreak := fun W tk => psI ps_break fun Dn σ H ⟨io, env, F, O, D, I, h, _, _, k, _⟩ => k env σ F O H (At.start I) h
theorem ds_continue : DS X (.Continue pos) sdCont := fun W tk => psI ps_continue fun Dn σ H ⟨io, env, F, O, D, I, h, _, _, _, k, _⟩ => k env σ F O H (At.start I) h
theorem ds_never : DS X s sdNever := fun W tk => psI (ps_never (X := X)) fun Dn σ H ⟨io, env, F, O, D, I, h, _⟩ => h.elim
theorem ds_set {i : Nat} {x : Str} {pos' : Pos} (hN : X.N.Nodup) (he : DE X e te) (hi : X.N[i]? = some x := by rfl) (hx : Loc X.env.scope x := by first | exact Or.inl rfl | exact Or.inr rfl)
    (hs : swapsWith e (some (.Name x pos')) pos.line X.env = pure false := by rfl) (hf : X.fn x = true ∨ X.env.scope.names.lookup x = some .local := by first | exact .inl rfl | exact .inr rfl) :
    DS X (.Assign [.Name x pos'] e pos) (sdSet i te) := by
  intro W tk
  refine psI (ps_set hN hi hx (he W tk) hs hf) ?_
  rintro Dn σ H ⟨io, env, F, O, D, I, h, k1, k2, k3, k4, k5⟩
  refine ⟨io, env, F, O, _, _, I, h, ?_, k5⟩
  intro d n env1 F1 O1 H1 v P A1 T1 r1 h1
  exact k1 _ _ _ _ _ (A1.set T1 r1) h1
theorem ds_asg {tg : Expr} {g : Tg} (he : DE X e te) (hg : DGt X tg g) (hs : swapsWithSole [tg] e pos.line X.env = pure false := by rfl) (hw : swappedStores [tg] e X.env = pure none := by rfl) (h1 : List.map (fun x => x.snd) (assignEach [tg] X.env) = [assign tg X.env] := by rfl) : DS X (.Assign [tg] e pos) (sdAsg g te) := by
  intro W tk
  refine psI (ps_asg (he W tk) hg hs hw (h1 := h1)) ?_
  rintro Dn σ H ⟨io, env, F, O, D, I, h, k1, k2, k3, k4, k5⟩
  refine ⟨io, env, F, O, _, _, I, h, ?_, k5⟩
  intro d n env1 F1 O1 H1 v P A1 T1 r1 h1
  have A1' := A1.frz T1
  exact ⟨io, env1, _, O1, d, _, A1'.si, A1.frz_rep r1, h1, fun env2 σ2 O2 A2 _ h2 => k1 _ _ _ _ _ (A1'.trans A2) h2⟩
theorem ds_expr (he : DE X e te) (hs : swapsWith e none pos.line X.env = pure false := by rfl) : DS X (.Expr e pos) (sdDrop te) := by
  intro W tk
  refine psI (ps_expr (he W tk) hs) ?_
  rintro Dn σ H ⟨io, env, F, O, D, I, h, k1, k2, k3, k4, k5⟩
  refine ⟨io, env, F, O, _, _, I, h, ?_, k5⟩
  intro d n env1 F1 O1 H1 v P A1 T1 r1 h1
  exact k1 _ _ _ _ _ A1 h1
theorem ds_doc {x j pos pos'} : DS X (.Expr (.Constant (.str x) j pos) pos') sdNil := fun W tk => psI ps_doc fun Dn σ H ⟨io, env, F, O, D, I, h, k, _⟩ => k env σ F O H (At.start I) h
theorem ds_ret (he : DE X e te) : DS X (.Return (some e) pos) (sdRet te) := by
  intro W tk
  refine psI (ps_ret (he W tk)) ?_
  rintro Dn σ H ⟨io, env, F, O, D, I, h, k1, k2, k3, k4, k5⟩
  refine ⟨io, env, F, O, _, _, I, h, ?_, k5⟩
  intro d n env1 F1 O1 H1 v P A1 T1 r1 h1
  exact k2 d n env1 σ F1 O1 H1 v P A1 T1 r1 h1
/-- the local's own container goes out -/
theorem ds_retv (i : Nat) {x : Str} {pos' : Pos} (hN : X.N[i]? = some x := by rfl) (hv : Vis X.env.scope x := by first | exact Or.inl rfl | exact Or.inr (Or.inl rfl) | exact Or.inr (Or.inr rfl)) (hd : (x == ("__debug__" : Str)) = false := by decide)
    (hcd : (x == ("__classdict__" : Str)) = false := by decide) : DS X (.Return (some (.Name x pos')) pos) (sdRetV i) := by
  intro W tk
  refine psI (ps_ret (pe_var hN hv hd hcd)) ?_
  rintro Dn σ H ⟨io, env, F, O, D, I, h, k1, k2, k3, k4, k5⟩
  unfold sdRetV at h
  cases e : gt env i with
  | none => rw [e] at h; exact h.elim
  | some b =>
    rw [e] at h
    obtain ⟨v, h1, h2, _⟩ := I.slot i b (gt_some e)
    have A := At.start I
    exact ⟨v, h1, k2 b.d b.n _ σ F _ H v _ (A.drop i) (A.tp_slot i) h2 h⟩
theorem ds_retN : DS X (.Return none pos) sdRetN := fun W tk => psI ps_retN fun Dn σ H ⟨io, env, F, O, D, I, h, _, k2, _⟩ => k2 .non 0 env σ F O H .non P0 (At.start I) Tp.none rfl h
theorem ds_if {c : Expr} {a b : List Stmt} (hc : DT X c tc) (ha : DSs X a t) (hb : DSs X b u) : DS X (.If c a b pos) (sdIf tc t u) := by
  intro W tk
  refine psI (ps_if (hc W tk) (ha W tk) (hb W tk)) ?_
  rintro Dn σ H ⟨io, env, F, O, D, I, h, k1, k2, k3, k4, k5⟩
  refine ⟨io, env, F, O, _, _, I, h, ?_, k5⟩
  intro b env1 F1 O1 H1 A1 h1
  have go : ∀ {t : SD}, t env1 D → rdS X.K X.mg t W Dn σ H1 := fun {t} ht =>
    ⟨io, env1, F1, O1, D, A1.si, ht, fun env2 σ2 F2 O2 H2 A2 => k1 _ _ _ _ _ (A1.trans A2), fun d n env2 σ2 F2 O2 H2 v P A2 T2 => k2 _ _ _ _ _ _ _ _ _ (A1.trans A2) (Tp.after A1.mv T2),
      fun env2 σ2 F2 O2 H2 A2 => k3 _ _ _ _ _ (A1.trans A2), fun env2 σ2 F2 O2 H2 A2 => k4 _ _ _ _ _ (A1.trans A2), k5.mv A1⟩
  cases b with
  | true => exact iteT (go h1)
  | false => exact iteF (go h1)
end
/-! while -/
def whileN (c : TTd) (b : SD) : Nat → DEnv → DEnds → Prop
  | 0, _, _ => False
  | n + 1, env, D => c env (fun k env1 => brB k
    (b env1 { nx := fun e => whileN c b n e D, ct := fun e => whileN c b n e D, bk := D.nx, rt := D.rt, ex := D.ex })
    (D.nx env1)) D.ex
def sdWhile (c : TTd) (b : SD) : SD := fun env D => ∃ n, whileN c b n env D
section
variable {X : Cx} {c : Expr} {body : List Stmt} {t : SD} {tc : TTd} {pos : Pos}
theorem ds_while (hp : PassesOwn (model X.prog X.w) X.A X.env X.xe) (hc : DT X c tc) (hb : DSs X body t) : DS X (.While c body [] pos) (sdWhile tc t) := by
  intro W tk
  refine psI (ps_while hp (hc W tk) (hb W tk)) ?_
  rintro Dn σ H ⟨io, env, F, O, D, I, ⟨n, h⟩, k1, k2, k3, k4, k5⟩
  refine ⟨fun n σ' H' => ∃ env' F' O', At X.K X.mg io F O H env' σ' F' O' H' ∧ whileN tc t n env' D, ⟨n, env, F, O, At.start I, h⟩, ?_⟩
  rintro n σ1 H1 ⟨env1, F1, O1, A1, h1⟩
  cases n with
  | zero => exact h1.elim
  | succ n =>
    refine ⟨io, env1, F1, O1, _, _, A1.si, h1, ?_, k5.mv A1⟩
    intro b env2 F2 O2 H2 A2 h2
    have A2' := A1.trans A2
    cases b with
    | false => exact iteF (k1 _ _ _ _ _ A2' h2)
    | true =>
      refine iteT ⟨fun σ' H' => ∃ env' F' O', At X.K X.mg io F O H env' σ' F' O' H' ∧ whileN tc t n env' D, fun σ' H' q => ⟨n, Nat.lt_succ_self n, q⟩, ?_⟩
      exact ⟨io, env2, F2, O2, _, A2'.si, h2, fun env3 σ3 F3 O3 H3 A3 q => ⟨env3, F3, O3, A2'.trans A3, q⟩, fun d n env3 σ3 F3 O3 H3 v P A3 T3 => k2 _ _ _ _ _ _ _ _ _ (A2'.trans A3) (Tp.after A2'.mv T3),
        fun env3 σ3 F3 O3 H3 A3 q => k1 _ _ _ _ _ (A2'.trans A3) q, fun env3 σ3 F3 O3 H3 A3 q => ⟨env3, F3, O3, A2'.trans A3, q⟩, k5.mv A2'⟩
end
/-! for -/
abbrev ITd := DEnv → (List D → DEnv → Prop) → QX → Prop
structure ItOk (K : PySem.W.Frag) (mg : MG) (J : It) (items : List D) (F : Hp) : Prop where
  go : ∀ i H, Same F H → i < items.length → J.go i H
  stop : ∀ i H, Same F H → items.length ≤ i → J.stop i H
  yld : ∀ i H v H', Same F H → i < items.length → J.yld i H v H' → ∃ d, items[i]? = some d ∧ ((H' = H ∧ Rep K mg F d v) ∨ (∃ p ds vs, v = .ref p ∧ H p = none ∧ H' = upd H p (.tup vs) ∧ d = .tup ds ∧ Reps K mg F ds vs) ∨
    ∃ (T : AP) (p : Addr) (ds : List D) (vs : List V), v = .ref p ∧ H p = none ∧ H' = upd H p (.tup vs) ∧ d = .tup ds ∧ (∀ a, T a → ∃ ws, H a = some (.tup ws)) ∧ Reps K mg (laid F T H) ds vs)
def rdI (K : PySem.W.Frag) (mg : MG) (τ : ITd) (W : WX) : TI := fun σ H R' => ∃ io env F O Q R, SI K mg io env σ F O H ∧ τ env Q R ∧
  (∀ items env' F' O' H' J, At K mg io F O H env' σ F' O' H' → ItOk K mg J items F' → Q items env' → R' J H') ∧ KX K mg io F O H R W
def DI (X : Cx) (tg iter : Expr) (τ : ITd) : Prop := ∀ W, Takes X W → PI X tg iter (rdI X.K X.mg τ W)
theorem piI {X : Cx} {tg iter : Expr} {t t' : TI} (h : PI X tg iter t) (k : ∀ σ H R, t' σ H R → t σ H R) : PI X tg iter t' := ⟨fun pins s σ H R I w => h.run pins s σ H R I (k σ H R w)⟩
def forD (g : Tg) (b : SD) : List D → DEnv → DEnds → Prop
  | [], env, D => D.nx env
  | x :: xs, env, D => bindT g x env fun env1 => b env1 { nx := fun e => forD g b xs e D, ct := fun e => forD g b xs e D, bk := D.nx, rt := D.rt, ex := D.ex }
def sdFor (i : ITd) (g : Tg) (b : SD) : SD := fun env D => i env (fun items env1 => forD g b items env1 D) D.ex
/-- what a turn hands over: into the ground -/
theorem ItOk.take {K : PySem.W.Frag} {mg : MG} {io : Nat → Option V} {env : DEnv} {σ : L2.St} {F0 F1 H1 H2 : Hp} {O1 : OW} {J : It} {items : List D} {i : Nat} {x : V} (T : ItOk K mg J items F0) (I : SI K mg io env σ F1 O1 H1) (e : Same F0 F1) (hi : i < items.length)
    (y : J.yld i H1 x H2) : ∃ d F2, items[i]? = some d ∧ At K mg io F1 O1 H1 env σ F2 O1 H2 ∧ Rep K mg F2 d x := by
  obtain ⟨d, hd, h | ⟨p, ds, vs, rfl, hp, rfl, rfl, r⟩ | ⟨TT, p, ds, vs, rfl, hp, rfl, rfl, hT, r⟩⟩ := T.yld i H1 x H2 (e.trans I.sub) hi y
  · obtain ⟨rfl, r⟩ := h
    exact ⟨d, F1, hd, At.start I, Rep.mono e r⟩
  · exact ⟨.tup ds, _, hd, (At.start I).tup hp, p, vs, rfl, upd_same, Reps.mono (e.trans (same_upd (I.freeF hp))) r⟩
  · have A := (At.start I).ground hT
    have s : Same (laid F0 TT H1) (laid F1 TT H1) := fun a o h => by
      by_cases q : TT a
      · rw [laid_in q] at h ⊢; exact h
      · rw [laid_out q] at h ⊢; exact e a o h
    exact ⟨.tup ds, _, hd, A.tup hp, p, vs, rfl, upd_same, Reps.mono (s.trans (same_upd (A.si.freeF hp))) r⟩
theorem drop_get {α : Type} {l : List α} {i : Nat} {x : α} (h : l[i]? = some x) : l.drop i = x :: l.drop (i + 1) := by
  obtain ⟨hl, e⟩ := List.getElem?_eq_some_iff.mp h
  rw [← e]
  exact List.drop_eq_getElem_cons hl
section
variable {X : Cx} {tg iter : Expr} {g : Tg} {body : List Stmt} {t : SD} {it : ITd} {pos : Pos}
theorem for_rest {X : Cx} {W : WX} {Dn : Ends} {io : Nat → Option V} {env1 : DEnv} {σ : L2.St} {F F1 H H1 : Hp} {O O1 : OW} {D : DEnds} {items : List DL.D} {J : It}
    (k1 : ∀ env' σ' F' O' H', At X.K X.mg io F O H env' σ' F' O' H' → D.nx env' → Dn.nx σ' H') (k2 : ∀ d n env' σ' F' O' H' v P, At X.K X.mg io F O H env' σ' F' O' H' → Tp O H F' O' H' P → RepO X.K X.mg F' H' n P d v → D.rt d n env' → Dn.rt v H') (k5 : KX X.K X.mg io F O H D.ex W)
    (A1 : At X.K X.mg io F O H env1 σ F1 O1 H1) (T : ItOk X.K X.mg J items F1) (h1 : forD g t items env1 D) : ∃ W' : Nat → Nat → L2.St → Hp → Prop, (∃ m, W' 0 m σ H1) ∧ ∀ i m σ H, W' i m σ H →
      (J.stop i H ∧ Dn.nx σ H) ∨ (J.go i H ∧ ∃ N : L2.St → Hp → Prop, (∀ σ' H', N σ' H' → ∃ m', m' < m ∧ W' (i + 1) m' σ' H') ∧ ∀ x H', J.yld i H x H' → rdG X.K X.mg g x σ H' fun σ2 H2 => rdS X.K X.mg t W { Dn with nx := N, ct := N, bk := Dn.nx } σ2 H2) := by
  refine ⟨fun i m σ' H' => m + i = items.length ∧ ∃ env' F' O', At X.K X.mg io F O H env' σ' F' O' H' ∧ Same F1 F' ∧ forD g t (items.drop i) env' D, ⟨items.length, by omega, env1, F1, O1, A1, Same.refl _, h1⟩, ?_⟩
  rintro i m σ2 H2 ⟨hm, env2, F2, O2, A2, e2, h2⟩
  by_cases hi : i < items.length
  · refine .inr ⟨T.go i H2 (e2.trans A2.si.sub) hi, fun σ' H' => ∃ env' F' O', At X.K X.mg io F O H env' σ' F' O' H' ∧ Same F1 F' ∧ forD g t (items.drop (i + 1)) env' D, fun σ' H' q => ⟨m - 1, by omega, by omega, q⟩, ?_⟩
    intro x H3 y
    obtain ⟨d, F3, hd, B3, r3⟩ := T.take A2.si e2 hi y
    have e3 := B3.mv.ff
    have A3 := A2.trans B3
    rw [drop_get hd] at h2
    refine ⟨io, env2, F3, O2, d, _, A3.si, r3, h2, ?_⟩
    intro env4 σ4 O4 A4 _ h4
    have A4' := A3.trans A4
    exact ⟨io, env4, F3, O4, _, A4'.si, h4, fun env5 σ5 F5 O5 H5 A5 q => ⟨env5, F5, O5, A4'.trans A5, (e2.trans e3).trans A5.mv.ff, q⟩, fun d n env5 σ5 F5 O5 H5 v P A5 T5 => k2 _ _ _ _ _ _ _ _ _ (A4'.trans A5) (Tp.after A4'.mv T5),
      fun env5 σ5 F5 O5 H5 A5 q => k1 _ _ _ _ _ (A4'.trans A5) q, fun env5 σ5 F5 O5 H5 A5 q => ⟨env5, F5, O5, A4'.trans A5, (e2.trans e3).trans A5.mv.ff, q⟩, k5.mv A4'⟩
  · refine .inl ⟨T.stop i H2 (e2.trans A2.si.sub) (by omega), ?_⟩
    rw [List.drop_of_length_le (by omega)] at h2
    exact k1 _ _ _ _ _ A2 h2
theorem ds_for (hp : PassesOwn (model X.prog X.w) X.A X.env X.xe) (hc : X.calm = true) (hi : DI X tg iter it) (hg : DGt X tg g) (hb : DSs X body t) (hs : ∀ x, foldedSetIterable iter X.env x = pure x := by intro _; rfl) :
    DS X (.For tg iter body [] pos) (sdFor it g t) := by
  intro W tk
  refine psI (ps_for hp hc (hi W tk) hg (hb W tk) hs) ?_
  rintro Dn σ H ⟨io, env, F, O, D, I, h, k1, k2, k3, k4, k5⟩
  refine ⟨io, env, F, O, _, _, I, h, ?_, k5⟩
  intro items env1 F1 O1 H1 J A1 T h1
  exact for_rest k1 k2 k5 A1 T h1
end
/-! comprehensions -/
def wipeD (env : DEnv) : List Nat → DEnv
  | [] => env
  | v :: vs => (wipeD env vs).set v none
def noX : QX := fun _ _ => False
def lcD (g : Tg) (tt : TTd) (te : ET) (vs : List Nat) : List D → List D → DEnv → QE → Prop
  | [], acc, env, Q => Q (.lst acc) 1 env
  | x :: xs, acc, env, Q => bindT g x env fun env1 => tt env1 (fun b env2 => brB b
    (te env2 (fun d _ env3 => acc.length < sizeLine ∧ lcD g tt te vs xs (acc ++ [d]) (wipeD env3 vs) Q) noX)
    (lcD g tt te vs xs acc (wipeD env2 vs) Q)) noX
def eLc (i : ITd) (g : Tg) (tt : TTd) (te : ET) (vs : List Nat) : ET := fun env Q R => i env (fun items env1 => lcD g tt te vs items [] (wipeD env1 vs) Q) R
def ttYes : TTd := fun env Q _ => Q true env
section
variable {K : PySem.W.Frag} {mg : MG} {io : Nat → Option V} {env env1 : DEnv} {σ : L2.St} {F F1 H H1 : Hp} {O O1 : OW}
theorem At.wipes (A : At K mg io F O H env σ F1 O1 H1) : ∀ vs : List Nat, ∃ O2, At K mg io F O H (wipeD env vs) (L2.wipe σ vs) F1 O2 H1 ∧ ∀ a i, O2 a = some i → O1 a = some i
  | [] => ⟨O1, A, fun _ _ h => h⟩
  | v :: vs => by
    obtain ⟨O2, A2, h2⟩ := At.wipes A vs
    exact ⟨_, A2.wipe v none, fun a i h => h2 a i (offO_some.mp h).1⟩
theorem wipeD_none : ∀ (vs : List Nat) (env : DEnv) (i : Nat) (b : Bd), (wipeD env vs)[i]? = some (some b) → env[i]? = some (some b) ∧ i ∉ vs
  | [], env, i, b, h => ⟨h, by simp⟩
  | v :: vs, env, i, b, h => by
    unfold wipeD at h
    rcases getElem?_set_some h with ⟨_, e, _⟩ | ⟨ne, h⟩
    · cases e
    · obtain ⟨h1, h2⟩ := wipeD_none vs env i b h
      exact ⟨h1, fun z => by rcases List.mem_cons.mp z with z | z; exact ne z.symm; exact h2 z⟩
theorem wipe_get : ∀ (vs : List Nat) (σ : L2.St) (i : Nat), i ∉ vs → (wipe σ vs)[i]? = σ[i]?
  | [], σ, i, _ => rfl
  | v :: vs, σ, i, h => by
    unfold wipe
    rw [List.getElem?_set_ne (fun z => h (by rw [z]; exact List.mem_cons_self)), wipe_get vs σ i fun z => h (List.mem_cons_of_mem _ z)]
theorem wipeD_len : ∀ (vs : List Nat) (env : DEnv), (wipeD env vs).length = env.length
  | [], _ => rfl
  | v :: vs, env => by unfold wipeD; rw [List.length_set, wipeD_len]
theorem SI.unwipe {vs : List Nat} (I : SI K mg io env (L2.wipe σ vs) F O H) (h : ∀ i b, env[i]? = some (some b) → i ∉ vs) : SI K mg io env σ F O H where
  sub := I.sub
  own := I.own
  slot := fun i b hb => by
    obtain ⟨v, g1, g2⟩ := I.slot i b hb
    exact ⟨v, by rw [← wipe_get vs σ i (h i b hb)]; exact g1, g2⟩
  len := by rw [I.len, wipe_length]
  tab := I.tab
end
theorem upd_self {H : Hp} {a : Addr} {o : HO} (h : H a = some o) : upd H a o = H := by
  funext b
  unfold upd
  split
  · rename_i e; rw [e, h]
  · rfl
theorem wipe_in {σ : L2.St} {vs : List Nat} : ∀ {us : List Nat}, (∀ i ∈ us, i ∈ vs) → L2.wipe (L2.wipe σ us) vs = L2.wipe σ vs
  | [], _ => rfl
  | u :: us, h => by
    have e : L2.wipe σ (u :: us) = (L2.wipe σ us).set u none := rfl
    rw [e, wipe_set (h u List.mem_cons_self), wipe_in fun i hi => h i (List.mem_cons_of_mem _ hi)]
/-- tests of a comprehension -/
def DPTs (X : Cx) (ifs : List Expr) (τ : TTd) : Prop := ∀ W, Takes X W → PTs X ifs (rdT X.K X.mg τ W)
section
variable {X : Cx} {c : Expr} {t : TTd}
theorem dpts_nil : DPTs X [] ttYes := fun W tk => ⟨fun pins s σ H Q I h => pts_nil.run pins s σ H Q I (by
  obtain ⟨io, env, F, O, Qd, R, J, q, k, _⟩ := h
  exact k true env F O H (At.start J) q)⟩
theorem dpts_one (h : DT X c t) : DPTs X [c] t := fun W tk => pts_one (h W tk)
end
theorem takes00 {X : Cx} : Takes X (fun _ _ _ _ => False) := fun _ _ x => by
  obtain ⟨_, _, _, _, _, _, _, _, _, _, _, _, _, _, _, _, z⟩ := x
  exact z.elim
section
variable {X : Cx} {elt tg iter : Expr} {ifs : List Expr} {scope : Scope} {own : List (Str × Nat)} {g : Tg} {it : ITd} {tt : TTd} {te : ET} {pos : Pos} {W : WX}
theorem lc_rest {K : PySem.W.Frag} {mg : MG} {vs : List Nat} (hsl : ∀ i ∈ g.slots, i ∈ vs) {io : Nat → Option V} {env1 : DEnv} {σ : L2.St} {F F1 H H1 : Hp} {O O1 : OW} {Q : QE} {Qh : VK} {items : List D} {J : It}
    (kQ : KE K mg io σ F O H Q Qh) (A1 : At K mg io F O H env1 σ F1 O1 H1) (T : ItOk K mg J items F1) (h1 : lcD g tt te vs items [] (wipeD env1 vs) Q) (L : Addr) (hL : H1 L = none) : ∃ W : Nat → Nat → Hp → Prop, (∃ m, W 0 m (upd H1 L (.lst []))) ∧ ∀ i m H, W i m H →
      (J.stop i H ∧ Qh (.ref L) H) ∨ (J.go i H ∧ ∃ Nx : Hp → Prop, (∀ H', Nx H' → ∃ m', m' < m ∧ W (i + 1) m' H') ∧ ∀ x H', J.yld i H x H' → rdG K mg g x (L2.wipe σ vs) H' fun σ2 H2 => L2.wipe σ2 vs = L2.wipe σ vs ∧ rdT K mg tt (fun _ _ _ _ => False) σ2 H2 fun b H3 =>
        if b = true then rdE K mg te (fun _ _ _ _ => False) σ2 H3 fun y H4 => ∃ acc, H4 L = some (.lst acc) ∧ acc.length < sizeLine ∧ Nx (upd H4 L (.lst (acc ++ [y]))) else Nx H3) := by
  have A1e := A1.ext (same_upd (o := .lst []) hL)
  have kx0 : ∀ {F' H' : Hp} {O' : OW}, KX K mg io F' O' H' noX fun _ _ _ _ => False := fun {F' H' O'} x e σ' Fa Oa Ha c dx B r z => z
  obtain ⟨O1w, A1w, hO1⟩ := A1e.wipes vs
  have T1 : Tp O H F1 O1w (upd H1 L (.lst [])) (fun b => b = L) := ⟨fun b e => by
    subst e
    refine ⟨A1.si.freeF hL, ?_, _, upd_same, rfl⟩
    cases z : O1w b with
    | none => rfl
    | some i =>
      have q := hO1 b i z
      rw [A1.si.freeO hL] at q
      exact (nomatch q), fun b e => by subst e; exact A1.mv.back (.inl hL)⟩
  refine ⟨fun i m H' => m + i = items.length ∧ ∃ env' F' O' acc accV, At K mg io F O H env' (L2.wipe σ vs) F' O' H' ∧ (∀ j b, env'[j]? = some (some b) → j ∉ vs) ∧ Same F1 F' ∧ Tp O H F' O' H' (fun b => b = L) ∧
    H' L = some (.lst accV) ∧ Reps K mg F' acc accV ∧ lcD g tt te vs (items.drop i) acc env' Q,
    ⟨items.length, by omega, wipeD env1 vs, F1, O1w, [], [], A1w, fun j b hb => (wipeD_none vs env1 j b hb).2, Same.refl _, T1, upd_same, rfl, h1⟩, ?_⟩
  rintro i m H2 ⟨hm, env2, F2, O2, acc, accV, A2, hn2, e2, T2, hl2, r2, h2⟩
  by_cases hi : i < items.length
  · refine .inr ⟨T.go i H2 (e2.trans A2.si.sub) hi, fun H' => ∃ env' F' O' acc accV, At K mg io F O H env' (L2.wipe σ vs) F' O' H' ∧ (∀ j b, env'[j]? = some (some b) → j ∉ vs) ∧ Same F1 F' ∧ Tp O H F' O' H' (fun b => b = L) ∧
      H' L = some (.lst accV) ∧ Reps K mg F' acc accV ∧ lcD g tt te vs (items.drop (i + 1)) acc env' Q, fun H' q => ⟨m - 1, by omega, by omega, q⟩, ?_⟩
    intro x H3 y
    obtain ⟨d, F3, hd, B3, r3⟩ := T.take A2.si e2 hi y
    have A3 := A2.trans B3
    rw [drop_get hd] at h2
    -- a turn's end
    have again : ∀ {env5 : DEnv} {σ5 : L2.St} {F5 H5 : Hp} {O5 : OW} {acc' : List D} {accV' : List V}, At K mg io F3 O2 H3 env5 σ5 F5 O5 H5 → L2.wipe σ5 vs = L2.wipe σ vs → Reps K mg F5 acc' accV' →
        lcD g tt te vs (items.drop (i + 1)) acc' (wipeD env5 vs) Q → (H5 L = some (.lst accV) → (∃ env' F' O' acc accV, At K mg io F O H env' (L2.wipe σ vs) F' O' (upd H5 L (.lst accV')) ∧ (∀ j b, env'[j]? = some (some b) → j ∉ vs) ∧ Same F1 F' ∧
          Tp O H F' O' (upd H5 L (.lst accV')) (fun b => b = L) ∧ (upd H5 L (.lst accV')) L = some (.lst accV) ∧ Reps K mg F' acc accV ∧ lcD g tt te vs (items.drop (i + 1)) acc env' Q)) := by
      intro env5 σ5 F5 H5 O5 acc' accV' A5 hw r5 h5 hl5
      have A5' := A3.trans A5
      have T5 := T2.mv (B3.mv.trans A5.mv)
      obtain ⟨hF, hO, _⟩ := T5.t L rfl
      obtain ⟨O6, A6, hO6⟩ := A5'.wipes vs
      rw [hw] at A6
      have hO' : O6 L = none := by
        cases z : O6 L with
        | none => rfl
        | some i => have q := hO6 L i z; rw [hO] at q; exact (nomatch q)
      have neO : ∀ a i, O6 a = some i → a ≠ L := fun a i z e => by subst e; rw [hO'] at z; cases z
      refine ⟨wipeD env5 vs, F5, O6, acc', accV', ⟨⟨A6.mv.ff, fun a o z q ok => ?_, A6.mv.fn, A6.mv.on, A6.mv.tb.trans (.upd (.inr ⟨_, hl5, rfl⟩))⟩, ⟨fun a o z => ?_, fun a i z => ?_, fun j b hb => ?_, A6.si.len, A6.si.tab.upd (.inr ⟨_, hl5, rfl⟩)⟩⟩, fun j b hb => (wipeD_none vs env5 j b hb).2, (e2.trans B3.mv.ff).trans A5.mv.ff,
        ⟨fun b e => by subst e; exact ⟨hF, hO', _, upd_same, rfl⟩, T5.nw⟩, upd_same, r5, h5⟩
      · have ne : a ≠ L := fun e => by
          subst e
          rcases T5.nw a rfl with z2 | ⟨k, z2⟩
          · rw [z] at z2; cases z2
          · rw [q] at z2; cases z2
        rw [upd_ne ne]
        exact A6.mv.fr a o z q ok
      · have ne : a ≠ L := fun e => by subst e; rw [hF] at z; cases z
        rw [upd_ne ne]
        exact A6.si.sub a o z
      · rw [upd_ne (neO a i z)]
        exact A6.si.own a i z
      · obtain ⟨w, g1, g2, g3⟩ := A6.si.slot j b hb
        exact ⟨w, g1, g2.mono (fun _ _ x => x) (fun a o p z => by rw [upd_ne (neO a j p)]; exact z) (fun _ x => x), g3⟩
    refine ⟨io, env2, F3, O2, d, _, A3.si, r3, h2, ?_⟩
    intro env4 σ4 O4 A4 hag h4
    have hw4 : L2.wipe σ4 vs = L2.wipe σ vs := (hag vs hsl).trans (wipe_in fun _ z => z)
    refine ⟨hw4, io, env4, F3, O4, _, noX, A4.si, h4, ?_, kx0⟩
    intro b env5 F5 O5 H5 A5 h5
    have A45 := A4.trans A5
    have T3 := T2.mv B3.mv
    have l3 : H3 L = some (.lst accV) := B3.mv.fr L _ hl2 (T2.t L rfl).2.1 (okT_of rfl)
    have l5 : H5 L = some (.lst accV) := A45.mv.fr L _ l3 (T3.t L rfl).2.1 (okT_of rfl)
    cases b with
    | false =>
      refine iteF ?_
      have z := again A45 hw4 (Reps.mono (B3.mv.ff.trans A45.mv.ff) r2) h5 l5
      rw [upd_self l5] at z
      exact z
    | true =>
      refine iteT ⟨io, env5, F5, O5, _, noX, A5.si, h5, ?_, kx0⟩
      intro y' n env6 F6 O6 H6 w P A6 T6 r6 h6
      have A6' := A6.frz T6
      have A46 := A45.trans A6'
      have l6 : H6 L = some (.lst accV) := A46.mv.fr L _ l3 (T3.t L rfl).2.1 (okT_of rfl)
      have r7 := Reps.mono (B3.mv.ff.trans A46.mv.ff) r2
      exact ⟨accV, l6, by rw [r2.length]; exact h6.1, again A46 hw4 (Reps.append r7 (Reps.one (A6.frz_rep r6))) h6.2 l6⟩
  · refine .inl ⟨T.stop i H2 (e2.trans A2.si.sub) (by omega), ?_⟩
    rw [List.drop_of_length_le (by omega)] at h2
    exact kQ (.lst acc) 1 env2 F2 O2 H2 (.ref L) (fun b => b = L) ⟨A2.mv, A2.si.unwipe hn2⟩ T2 (NewL.own (o := .lst accV) r2 hl2) h2
theorem lc_read {K : PySem.W.Frag} {mg : MG} {vs : List Nat} (hsl : ∀ i ∈ g.slots, i ∈ vs) : ∀ σ H Qh, rdE K mg (eLc it g tt te vs) W σ H Qh →
    tLc (rdI K mg it W) (rdG K mg g) (rdT K mg tt fun _ _ _ _ => False) (rdE K mg te fun _ _ _ _ => False) vs σ H Qh := by
  rintro σ H Qh ⟨io, env, F, O, Q, R, I, h, kQ, kX⟩
  refine ⟨io, env, F, O, _, _, I, h, ?_, kX⟩
  intro items env1 F1 O1 H1 J A1 T h1 L hL
  exact lc_rest hsl kQ A1 T h1 L hL
end
end DL
set_option Elab.async false
set_option linter.all false
set_option maxRecDepth 100000
/-! DLe: the data layer, part e: comprehensions' rules, promises on data, calls, defs. -/
namespace DL
open PySem L2 PySem.Spec PyProof.Rows
variable [Tbs]

section
variable {X : Cx} {elt tg iter : Expr} {ifs : List Expr} {scope : Scope} {own : List (Str × Nat)} {vs : List Nat} {g : Tg} {it : ITd} {tt : TTd} {te : ET} {pos spos py : Pos} {i : Nat} {y : Str}
theorem de_lc (own : List (Str × Nat)) (hc : X.calm = true) (hN : X.N.Nodup) (hi : DI X tg iter it) (ok : BlkOk X.N X.env.scope scope own)
    (hg : ∀ (s : Shared) (H : Hp) (C : Addr) (cl : List (Str × Addr)) (fp : List Addr), DGt (X.blk s H scope (compEnvC scope cl C X.env) fp) tg g)
    (ht : ∀ (s : Shared) (H : Hp) (C : Addr) (cl : List (Str × Addr)) (fp : List Addr), DPTs (X.blk s H scope (compEnvC scope cl C X.env) fp) ifs tt)
    (he : ∀ (s : Shared) (H : Hp) (C : Addr) (cl : List (Str × Addr)) (fp : List Addr), DE (X.blk s H scope (compEnvC scope cl C X.env) fp) elt te)
    (hv : own.map (·.2) = vs := by rfl) (hsl : ∀ i ∈ g.slots, i ∈ vs := by decide) (hs : ∀ x, foldedSetIterable iter X.env x = pure x := by intro _; rfl) : DE X (.ListComp elt [⟨tg, iter, ifs, 0⟩] scope pos) (eLc it g tt te vs) := by
  subst hv
  exact fun W tk => peI (pe_lc (g := rdG X.K X.mg g) (tt := rdT X.K X.mg tt fun _ _ _ _ => False) (te := rdE X.K X.mg te fun _ _ _ _ => False) hc hN (hi W tk) ok hg (fun s H C cl fp => ht s H C cl fp _ takes00) (fun s H C cl fp => he s H C cl fp _ takes00) hs) (lc_read hsl)
theorem ds_setLc (own : List (Str × Nat)) (hc : X.calm = true) (hN : X.N.Nodup) (hi : DI X tg iter it) (ok : BlkOk X.N X.env.scope scope own)
    (hg : ∀ (s : Shared) (H : Hp) (C : Addr) (cl : List (Str × Addr)) (fp : List Addr), DGt (X.blk s H scope (compEnvC scope cl C X.env) fp) tg g)
    (ht : ∀ (s : Shared) (H : Hp) (C : Addr) (cl : List (Str × Addr)) (fp : List Addr), DPTs (X.blk s H scope (compEnvC scope cl C X.env) fp) ifs tt)
    (he : ∀ (s : Shared) (H : Hp) (C : Addr) (cl : List (Str × Addr)) (fp : List Addr), DE (X.blk s H scope (compEnvC scope cl C X.env) fp) elt te)
    (hsw : swapsWith (.ListComp elt [⟨tg, iter, ifs, 0⟩] scope pos) (some (.Name y py)) spos.line X.env = pure true) (hy : X.N[i]? = some y := by rfl) (hyl : X.env.scope.names.lookup y = some .local := by rfl)
    (hv : own.map (·.2) = vs := by rfl) (hsl : ∀ i ∈ g.slots, i ∈ vs := by decide) (hs : ∀ x, foldedSetIterable iter X.env x = pure x := by intro _; rfl) : DS X (.Assign [.Name y py] (.ListComp elt [⟨tg, iter, ifs, 0⟩] scope pos) spos) (sdSet i (eLc it g tt te vs)) := by
  subst hv
  intro W tk
  refine psI (ps_setLc (g := rdG X.K X.mg g) (tt := rdT X.K X.mg tt fun _ _ _ _ => False) (te := rdE X.K X.mg te fun _ _ _ _ => False) hc hN hy hyl hsw (hi W tk) ok hg (fun s H C cl fp => ht s H C cl fp _ takes00) (fun s H C cl fp => he s H C cl fp _ takes00) hs) ?_
  rintro Dn σ H ⟨io, env, F, O, D, I, h, k1, k2, k3, k4, k5⟩
  refine lc_read (W := W) hsl σ H _ ⟨io, env, F, O, _, _, I, h, ?_, k5⟩
  intro d n env1 F1 O1 H1 v P A1 T1 r1 h1
  exact k1 _ _ _ _ _ (A1.set T1 r1) h1
end

/-! ### promises on data -/
structure DPost where
  rt : D → Nat → List D → Prop
  ex : Exc → List D → Prop
/-- what a def does on data: its arguments' data, what is wanted behind it (result, depth owned, the turned arguments' data) -/
abbrev DSp := List D → DPost → Prop
/-- none: an argument that is read; some n: one that may be turned, owned to depth n -/
abbrev Ms := List (Option Nat)
section
variable (K : PySem.W.Frag) (mg : MG)
def ArgR (F H : Hp) (O : OW) : Ms → Nat → List D → List V → Prop
  | [], _, ds, vs => ds = [] ∧ vs = []
  | none :: ms, i, ds, vs => ∃ d r v t, ds = d :: r ∧ vs = v :: t ∧ Rep K mg F d v ∧ ArgR F H O ms (i + 1) r t
  | some n :: ms, i, ds, vs => ∃ d r v t, ds = d :: r ∧ vs = v :: t ∧ RepO K mg F H n (fun a => O a = some i) d v ∧ ArgR F H O ms (i + 1) r t
def OutR (F H : Hp) (O : OW) (vs : List V) : Ms → Nat → List D → Prop
  | [], _, ds => ds = []
  | none :: ms, i, ds => OutR F H O vs ms (i + 1) ds
  | some n :: ms, i, ds => ∃ d r v, ds = d :: r ∧ vs[i]? = some v ∧ RepO K mg F H n (fun a => O a = some i) d v ∧ OutR F H O vs ms (i + 1) r
def OwnOk (F : Hp) (O : OW) (H : Hp) : Prop := ∀ a i, O a = some i → F a = none ∧ ∃ o, H a = some o ∧ isTp o = false
def spOf (ms : Ms) (S : DSp) : Sp := fun vs H Q E => ∃ F O ds post, Same F H ∧ OwnOk F O H ∧ TabsK F H ∧ ArgR K mg F H O ms 0 ds vs ∧ S ds post ∧
  (∀ d n outs F' O' H' v P, Mv F O H F' O' H' → Same F' H' → OwnOk F' O' H' → OutR K mg F' H' O' vs ms 0 outs → Tp O H F' O' H' P → RepO K mg F' H' n P d v → post.rt d n outs → Q v H') ∧
  (∀ x outs F' O' H' cls dx, Mv F O H F' O' H' → Same F' H' → OwnOk F' O' H' → OutR K mg F' H' O' vs ms 0 outs → XR K mg F' x cls dx → post.ex x outs → E cls dx H')
end
def env0 : Ms → List D → Nat → DEnv
  | none :: ms, d :: ds, n + 1 => some ⟨d, 0, false⟩ :: env0 ms ds n
  | some m :: ms, d :: ds, n + 1 => some ⟨d, m, true⟩ :: env0 ms ds n
  | _, _, 0 => []
  | _, _, n + 1 => none :: env0 [] [] n
def outs : Ms → Nat → DEnv → (List D → Prop) → Prop
  | [], _, _, k => k []
  | none :: ms, j, env, k => outs ms (j + 1) env k
  | some m :: ms, j, env, k => match gt env j with
    | some b => match Nat.beq b.n m, b.io with
      | true, true => outs ms (j + 1) env fun ds => k (b.d :: ds)
      | _, _ => False
    | none => False
def endsOf (ms : Ms) (post : DPost) : DEnds where
  nx := fun env => outs ms 0 env (post.rt .non 0)
  rt := fun d n env => outs ms 0 env (post.rt d n)
  ex := fun x env => outs ms 0 env (post.ex x)
section
variable {K : PySem.W.Frag} {mg : MG} {F H : Hp} {O : OW}
theorem ArgR.len : ∀ {ms : Ms} {j : Nat} {ds : List D} {vs : List V}, ArgR K mg F H O ms j ds vs → vs.length = ms.length ∧ ds.length = ms.length
  | [], _, _, _, ⟨h1, h2⟩ => by subst h1; subst h2; exact ⟨rfl, rfl⟩
  | none :: ms, j, _, _, ⟨d, r, v, t, h1, h2, _, h⟩ => by subst h1; subst h2; simp [ArgR.len h]
  | some n :: ms, j, _, _, ⟨d, r, v, t, h1, h2, _, h⟩ => by subst h1; subst h2; simp [ArgR.len h]
theorem env0_len : ∀ (ms : Ms) (ds : List D) (n : Nat), (env0 ms ds n).length = n
  | none :: ms, d :: ds, n + 1 => by simp [env0, env0_len]
  | some m :: ms, d :: ds, n + 1 => by simp [env0, env0_len]
  | [], _, 0 => by simp [env0]
  | _ :: _, [], 0 => by simp [env0]
  | none :: _, _ :: _, 0 => by simp [env0]
  | some _ :: _, _ :: _, 0 => by simp [env0]
  | [], _, n + 1 => by simp [env0, env0_len [] [] n]
  | none :: _, [], n + 1 => by simp [env0, env0_len [] [] n]
  | some _ :: _, [], n + 1 => by simp [env0, env0_len [] [] n]
theorem env0_none : ∀ (n i : Nat) (b : Bd), (env0 [] [] n)[i]? ≠ some (some b)
  | 0, i, b => by simp [env0]
  | n + 1, 0, b => by simp [env0]
  | n + 1, i + 1, b => by simpa [env0] using env0_none n i b
theorem env0_get : ∀ {ms : Ms} {j n i : Nat} {ds : List D} {vs : List V} {b : Bd}, ArgR K mg F H O ms j ds vs → (env0 ms ds n)[i]? = some (some b) → ∃ v, vs[i]? = some v ∧ RepO K mg F H b.n (fun a => O a = some (j + i)) b.d v
  | [], j, n, i, _, _, b, ⟨h1, h2⟩, h => by subst h1; exact absurd h (env0_none n i b)
  | none :: ms, j, 0, i, _, _, b, ⟨d, r, v, t, h1, h2, h3, h4⟩, h => by subst h1; simp [env0] at h
  | some _ :: ms, j, 0, i, _, _, b, ⟨d, r, v, t, h1, h2, h3, h4⟩, h => by subst h1; simp [env0] at h
  | none :: ms, j, n + 1, 0, _, _, b, ⟨d, r, v, t, h1, h2, h3, h4⟩, h => by
    subst h1; subst h2
    have e : b = ⟨d, 0, false⟩ := by simpa [env0] using h.symm
    subst e
    exact ⟨v, rfl, h3⟩
  | some m :: ms, j, n + 1, 0, _, _, b, ⟨d, r, v, t, h1, h2, h3, h4⟩, h => by
    subst h1; subst h2
    have e : b = ⟨d, m, true⟩ := by simpa [env0] using h.symm
    subst e
    exact ⟨v, rfl, h3⟩
  | none :: ms, j, n + 1, i + 1, _, _, b, ⟨d, r, v, t, h1, h2, h3, h4⟩, h => by
    subst h1; subst h2
    obtain ⟨v', g1, g2⟩ := env0_get (i := i) (n := n) (b := b) h4 (by simpa [env0] using h)
    exact ⟨v', by simpa using g1, by rw [show j + (i + 1) = j + 1 + i by omega]; exact g2⟩
  | some m :: ms, j, n + 1, i + 1, _, _, b, ⟨d, r, v, t, h1, h2, h3, h4⟩, h => by
    subst h1; subst h2
    obtain ⟨v', g1, g2⟩ := env0_get (i := i) (n := n) (b := b) h4 (by simpa [env0] using h)
    exact ⟨v', by simpa using g1, by rw [show j + (i + 1) = j + 1 + i by omega]; exact g2⟩
theorem outs_get {σ : L2.St} {env : DEnv} {vs : List V} (I : SI K mg (fun i => vs[i]?) env σ F O H) : ∀ {ms : Ms} {j : Nat} {k : List D → Prop}, outs ms j env k → ∃ os, OutR K mg F H O vs ms j os ∧ k os
  | [], j, k, h => ⟨[], rfl, h⟩
  | none :: ms, j, k, h => outs_get I (ms := ms) h
  | some m :: ms, j, k, h => by
    unfold outs at h
    cases e : gt env j with
    | none => rw [e] at h; exact h.elim
    | some b =>
      rw [e] at h
      have h : (match Nat.beq b.n m, b.io with
        | true, true => outs ms (j + 1) env fun ds => k (b.d :: ds)
        | _, _ => False) := h
      cases e1 : Nat.beq b.n m with
      | false => rw [e1] at h; exact h.elim
      | true =>
        cases e2 : b.io with
        | false => rw [e1, e2] at h; exact h.elim
        | true =>
          rw [e1, e2] at h
          obtain ⟨os, g1, g2⟩ := outs_get I (ms := ms) h
          obtain ⟨v, s1, s2, s3⟩ := I.slot j b (gt_some e)
          have en := Nat.eq_of_beq_eq_true e1
          exact ⟨b.d :: os, ⟨b.d, os, v, rfl, s3 e2, en ▸ s2, g1⟩, g2⟩
end
section
variable {P : Program} {w : World} {K : PySem.W.Frag} {mg : MG} {base : Heap}
/-- f's code object -/
def CodeOf (K : PySem.W.Frag) (f : Addr) (cdv : Value) : Prop := ∃ oc od fd osl, K.lookup f = some ⟨oc, od, .func fd, osl⟩ ∧ fd.code = cdv
theorem okXN {x qual : Str} {st : Stmt} {f : Addr} {fd : FuncData} {N ps : List Str} {k : Nat} {sp : Sp} (F : Fun K x qual st f fd) (S : FnScope N ps (defScope st)) (len : ∀ vs H Q E, sp vs H Q E → vs.length = ps.length)
    (hbody : ∀ (cdv : Value) (A : Around) (outer : List Env) (s : Shared) (H : Hp) (vs : List V) (Q : VK) (E : XK), CodeOf K f cdv → Room k (A.deeper (envOfC qual (defScope st) s.heap.objs.size f cdv)) → sp vs H Q E →
      ∃ t, PSs (cxOf (L2N.CX P w) P w K mg base N qual (defScope st) f cdv A outer s H E) (defBody st) t ∧ t { nx := fun _ H' => Q .non H', rt := Q } (L2.start N vs) H) : FnOk P w K mg base (L2N.CX P w) (k + 1) f fd ps sp := by
  obtain ⟨oc, od, kV, doc, pm, an, cdv, ct, osl, rfl, lk, hcd⟩ := F.ex
  exact fn_of lk hcd S len fun A outer s H vs Q E hr hsp => hbody cdv A outer s H vs Q E ⟨_, _, _, _, lk, rfl⟩ hr hsp
/-- THE RULE for a def: its body's transformer on data, and that the promise follows -/
theorem okD {x qual : Str} {st : Stmt} {f : Addr} {fd : FuncData} {N ps : List Str} {k : Nat} {ms : Ms} {S : DSp} {τ : SD} (Fu : Fun K x qual st f fd) (Sc : FnScope N ps (defScope st)) (hl : ms.length = ps.length)
    (hb : ∀ (cdv : Value) (A : Around) (outer : List Env) (s : Shared) (H : Hp) (E : XK), CodeOf K f cdv → Room k (A.deeper (envOfC qual (defScope st) s.heap.objs.size f cdv)) →
      DSs (cxOf (L2N.CX P w) P w K mg base N qual (defScope st) f cdv A outer s H E) (defBody st) τ)
    (hs : ∀ ds post, S ds post → ds.length = ms.length → τ (env0 ms ds N.length) (endsOf ms post)) : FnOk P w K mg base (L2N.CX P w) (k + 1) f fd ps (spOf K mg ms S) := by
  refine okXN Fu Sc (fun vs H Q E ⟨F, O, ds, post, h1, h2, _, h3, h4, _⟩ => by rw [h3.len.1, hl]) (fun cdv A outer s H vs Q E hc hr h => ?_)
  obtain ⟨F, O, ds, post, h1, h2, ht, h3, h4, k1, k2⟩ := h
  refine ⟨_, hb cdv A outer s H E hc hr (fun cls d _ H => E cls d H) (L2N.takes_of rfl rfl rfl rfl), ?_⟩
  have hpl : ps.length ≤ N.length := by
    have := congrArg List.length Sc.pre
    rw [List.length_take] at this
    omega
  have hvl : vs.length = ms.length := h3.len.1
  have I : SI K mg (fun i => vs[i]?) (env0 ms ds N.length) (L2.start N vs) F O H := ⟨h1, h2, fun i b hb => by
    obtain ⟨v, g1, g2⟩ := env0_get h3 hb
    refine ⟨v, ?_, by rw [Nat.zero_add] at g2; exact g2, fun _ => g1⟩
    unfold L2.start
    rw [List.getElem?_append_left (by rw [List.length_map]; exact (List.getElem?_eq_some_iff.mp g1).1), List.getElem?_map, g1]
    rfl, by
    rw [env0_len]
    unfold L2.start
    rw [List.length_append, List.length_map, List.length_replicate]
    omega, ht⟩
  refine ⟨_, _, F, O, endsOf ms post, I, hs ds post h4 h3.len.2, fun env' σ' F' O' H' A q => ?_, fun d n env' σ' F' O' H' v P A T r q => ?_, fun _ _ _ _ _ _ q => q.elim, fun _ _ _ _ _ _ q => q.elim, fun x env' σ' F' O' H' cls dx A r q => ?_⟩
  · obtain ⟨os, g1, g2⟩ := outs_get A.si q
    exact k1 .non 0 os F' O' H' .non P0 A.mv A.si.sub A.si.own g1 Tp.none rfl g2
  · obtain ⟨os, g1, g2⟩ := outs_get A.si q
    exact k1 d n os F' O' H' v P A.mv A.si.sub A.si.own g1 T r g2
  · obtain ⟨os, g1, g2⟩ := outs_get A.si q
    exact k2 x os F' O' H' cls dx A.mv A.si.sub A.si.own g1 r g2
end

/-! ### calls -/
abbrev Ga := Sum D Nat
abbrev GAT := DEnv → (List Ga → DEnv → Prop) → QX → Prop
def gaNil : GAT := fun env Q _ => Q [] env
def gaVal (ta : ET) (tr : GAT) : GAT := fun env Q R => ta env (fun x _ env1 => tr env1 (fun xs env2 => Q (.inl x :: xs) env2) R) R
def gaIo (k : Nat) (tr : GAT) : GAT := fun env Q R => tr env (fun xs env2 => Q (.inr k :: xs) env2) R
/-- the arguments' values as they stand when all are reckoned -/
def GaR (K : PySem.W.Frag) (mg : MG) (F : Hp) (σ : L2.St) : List Ga → List V → Prop
  | [], vs => vs = []
  | .inl d :: gs, vs => ∃ v r, vs = v :: r ∧ Rep K mg F d v ∧ GaR K mg F σ gs r
  | .inr k :: gs, vs => ∃ v r, vs = v :: r ∧ σ[k]? = some (some v) ∧ GaR K mg F σ gs r
theorem GaR.mono {K : PySem.W.Frag} {mg : MG} {F F' : Hp} {σ : L2.St} (e : Same F F') : ∀ {gs : List Ga} {vs : List V}, GaR K mg F σ gs vs → GaR K mg F' σ gs vs
  | [], _, h => h
  | .inl d :: gs, _, ⟨v, r, h1, h2, h3⟩ => ⟨v, r, h1, Rep.mono e h2, GaR.mono e h3⟩
  | .inr k :: gs, _, ⟨v, r, h1, h2, h3⟩ => ⟨v, r, h1, h2, GaR.mono e h3⟩
theorem GaR.append {K : PySem.W.Frag} {mg : MG} {F : Hp} {σ : L2.St} : ∀ {gs : List Ga} {vs : List V} {ds : List D} {ws : List V}, GaR K mg F σ gs vs → Reps K mg F ds ws → GaR K mg F σ (gs ++ ds.map Sum.inl) (vs ++ ws)
  | [], _, [], _, h, g => by subst h; exact g
  | [], _, d :: ds, _, h, ⟨v, r, h1, h2, h3⟩ => by subst h; exact ⟨v, r, h1, h2, GaR.append (gs := []) (vs := []) rfl h3⟩
  | .inl d :: gs, _, _, ws, ⟨v, r, h1, h2, h3⟩, g => ⟨v, r ++ ws, by subst h1; rfl, h2, GaR.append h3 g⟩
  | .inr k :: gs, _, _, ws, ⟨v, r, h1, h2, h3⟩, g => ⟨v, r ++ ws, by subst h1; rfl, h2, GaR.append h3 g⟩
def rdGA (K : PySem.W.Frag) (mg : MG) (τ : GAT) (W : WX) : TA := fun σ H Qh => ∃ io env F O Q R, SI K mg io env σ F O H ∧ τ env Q R ∧ (∀ gs env' F' O' H' vs, At K mg io F O H env' σ F' O' H' → GaR K mg F' σ gs vs → Q gs env' → Qh vs H') ∧ KX K mg io F O H R W
def DGA (X : Cx) (es : List Expr) (τ : GAT) : Prop := ∀ W, Takes X W → PA X es (rdGA X.K X.mg τ W)
section
variable {X : Cx} {e : Expr} {es : List Expr} {te : ET} {t : GAT}
theorem dg_nil : DGA X [] gaNil := fun W tk => paI pa_nil fun σ H Qh ⟨io, env, F, O, Q, R, I, h, kQ, kX⟩ => kQ [] env F O H [] (At.start I) rfl h
theorem dg_val (ha : DE X e te) (hr : DGA X es t) (hs : starEach (e :: es) X.env = (false, eval e X.env) :: starEach es X.env := by rfl) : DGA X (e :: es) (gaVal te t) := by
  intro W tk
  refine paI (pa_cons (ha W tk) (hr W tk) hs) ?_
  rintro σ H Qh ⟨io, env, F, O, Q, R, I, h, kQ, kX⟩
  refine ⟨io, env, F, O, _, R, I, h, ?_, kX⟩
  intro x n env1 F1 O1 H1 v P A1 T1 r1 h1
  have A1' := A1.frz T1
  have r1' := A1.frz_rep r1
  refine ⟨io, env1, _, O1, _, R, A1'.si, h1, ?_, kX.mv A1'⟩
  intro ys env2 F2 O2 H2 vs A2 r2 h2
  exact kQ (.inl x :: ys) _ _ _ _ _ (A1'.trans A2) ⟨v, vs, rfl, Rep.mono A2.mv.ff r1', r2⟩ h2
/-- a local that the callee may turn -/
theorem dg_io (k : Nat) {x : Str} {pos : Pos} (hr : DGA X es t) (hs : starEach (.Name x pos :: es) X.env = (false, eval (.Name x pos) X.env) :: starEach es X.env := by rfl) (hN : X.N[k]? = some x := by rfl)
    (hv : Vis X.env.scope x := by first | exact Or.inl rfl | exact Or.inr (Or.inl rfl) | exact Or.inr (Or.inr rfl)) (hd : (x == ("__debug__" : Str)) = false := by decide) (hcd : (x == ("__classdict__" : Str)) = false := by decide)
    (hk : ∀ (env : DEnv) Q R, t env Q R → True := by intros; trivial) : DGA X (.Name x pos :: es) (fun env Q R => match gt env k with | some _ => gaIo k t env Q R | none => False) := by
  intro W tk
  refine paI (pa_cons (pe_var hN hv hd hcd) (hr W tk) hs) ?_
  rintro σ H Qh ⟨io, env, F, O, Q, R, I, h, kQ, kX⟩
  cases e : gt env k with
  | none => rw [e] at h; exact h.elim
  | some b =>
    rw [e] at h
    obtain ⟨v, h1, _, _⟩ := I.slot k b (gt_some e)
    refine ⟨v, h1, io, env, F, O, _, R, I, h, ?_, kX⟩
    intro ys env2 F2 O2 H2 vs A2 r2 h2
    exact kQ (.inr k :: ys) _ _ _ _ _ A2 ⟨v, vs, rfl, h1, r2⟩ h2
end
def argsD : Ms → List Ga → DEnv → (List D → List Nat → Prop) → Prop
  | [], [], _, k => k [] []
  | none :: ms, .inl d :: gs, env, k => argsD ms gs env fun ds ks => k (d :: ds) ks
  | some m :: ms, .inr j :: gs, env, k => match gt env j with
    | some b => match Nat.beq b.n m with
      | true => argsD ms gs env fun ds ks => k (b.d :: ds) (j :: ks)
      | false => False
    | none => False
  | _, _, _, _ => False
def hasN : List Nat → Nat → Bool
  | [], _ => false
  | x :: xs, n => Nat.beq x n || hasN xs n
def nodN : List Nat → Bool
  | [] => true
  | x :: xs => !hasN xs x && nodN xs
def putL : List Nat → List D → DEnv → DEnv
  | j :: js, d :: ds, env => putL js ds (match gt env j with | some b => env.set j (some { b with d := d }) | none => env)
  | _, _, env => env
def whenB : Bool → Prop → Prop
  | true, p => p
  | false, _ => False
def callD (ms : Ms) (S : DSp) (gs : List Ga) (env : DEnv) (Q : QE) (R : QX) : Prop :=
  argsD ms gs env fun ds ks => whenB (nodN ks) (S ds { rt := fun d n os => Q d n (putL ks os env), ex := fun x os => R x (putL ks os env) })
def eCall (ms : Ms) (S : DSp) (dd : List D) (t : GAT) : ET := fun env Q R => t env (fun gs env1 => callD ms S (gs ++ dd.map Sum.inl) env1 Q R) R
/-- the place of a slot among the arguments -/
def ixOf : List Ga → Nat → Nat → Option Nat
  | [], _, _ => none
  | .inl _ :: gs, j, k => ixOf gs (j + 1) k
  | .inr i :: gs, j, k => if i = k then some j else ixOf gs (j + 1) k
theorem ixOf_get : ∀ {gs : List Ga} {j k i : Nat}, ixOf gs j k = some i → ∃ n, i = j + n ∧ gs[n]? = some (.inr k)
  | [], _, _, _, h => nomatch h
  | .inl _ :: gs, j, k, i, h => by
    obtain ⟨n, h1, h2⟩ := ixOf_get (gs := gs) h
    exact ⟨n + 1, by omega, by simpa using h2⟩
  | .inr s :: gs, j, k, i, h => by
    unfold ixOf at h
    split at h
    · rename_i e
      subst e
      exact ⟨0, by have := Option.some.inj h; omega, rfl⟩
    · obtain ⟨n, h1, h2⟩ := ixOf_get (gs := gs) h
      exact ⟨n + 1, by omega, by simpa using h2⟩
theorem ixOf_none : ∀ {gs : List Ga} {j k : Nat}, ixOf gs j k = none → Sum.inr k ∉ gs
  | [], _, _, _ => by simp
  | .inl _ :: gs, j, k, h => by
    have := ixOf_none (gs := gs) h
    simp [this]
  | .inr s :: gs, j, k, h => by
    unfold ixOf at h
    split at h
    · cases h
    · rename_i e
      have := ixOf_none (gs := gs) h
      simp [this]
      intro q
      exact e q.symm
theorem hasN_mem : ∀ {l : List Nat} {n : Nat}, hasN l n = false → n ∉ l
  | [], _, _ => by simp
  | x :: xs, n, h => by
    have h : (Nat.beq x n || hasN xs n) = false := h
    rw [Bool.or_eq_false_iff] at h
    intro z
    rcases List.mem_cons.mp z with z | z
    · subst z; have := h.1; rw [Nat.beq_refl] at this; cases this
    · exact hasN_mem h.2 z
/-- the slots among the arguments, in order -/
def ksOf : List Ga → List Nat
  | [] => []
  | .inl _ :: gs => ksOf gs
  | .inr k :: gs => k :: ksOf gs
theorem mem_ksOf : ∀ {gs : List Ga} {k : Nat}, Sum.inr k ∈ gs ↔ k ∈ ksOf gs
  | [], _ => by simp [ksOf]
  | .inl _ :: gs, k => by simp [ksOf, mem_ksOf (gs := gs)]
  | .inr s :: gs, k => by simp [ksOf, mem_ksOf (gs := gs)]
section
variable {K : PySem.W.Frag} {mg : MG} {io : Nat → Option V} {env : DEnv} {σ : L2.St} {F H : Hp} {O : OW}
theorem argsD_get (I : SI K mg io env σ F O H) {Oc : OW} : ∀ {ms : Ms} {gs : List Ga} {j : Nat} {vs : List V} {k : List D → List Nat → Prop}, argsD ms gs env k → GaR K mg F σ gs vs → (∀ (i s : Nat) (a : Addr), gs[i]? = some (.inr s) → O a = some s → Oc a = some (j + i)) →
    ∃ ds, ArgR K mg F H Oc ms j ds vs ∧ k ds (ksOf gs) ∧ (∀ (i m : Nat), ms[i]? = some (some m) → ∃ (s : Nat) (b : Bd), gs[i]? = some (.inr s) ∧ gt env s = some b ∧ b.n = m)
  | [], [], j, vs, k, h, g, _ => ⟨[], ⟨rfl, g⟩, h, fun i m e => by simp at e⟩
  | none :: ms, .inl d :: gs, j, _, k, h, ⟨v, r, e, g1, g2⟩, hO => by
    subst e
    obtain ⟨ds, h1, h2, h3⟩ := argsD_get I (j := j + 1) (ms := ms) (gs := gs) h g2 (fun i s a hi => by
      have := hO (i + 1) s a (by simpa using hi)
      rw [show j + (i + 1) = j + 1 + i by omega] at this
      exact this)
    exact ⟨d :: ds, ⟨d, ds, v, r, rfl, rfl, g1, h1⟩, h2, fun i m e => by
      cases i with
      | zero => simp at e
      | succ i => simpa using h3 i m (by simpa using e)⟩
  | some m :: ms, .inr s :: gs, j, _, k, h, ⟨v, r, e, g1, g2⟩, hO => by
    subst e
    unfold argsD at h
    cases eb : gt env s with
    | none => rw [eb] at h; exact h.elim
    | some b =>
      rw [eb] at h
      have h : (match Nat.beq b.n m with
        | true => argsD ms gs env fun ds ks => k (b.d :: ds) (s :: ks)
        | false => False) := h
      cases en : Nat.beq b.n m with
      | false => rw [en] at h; exact h.elim
      | true =>
        rw [en] at h
        obtain ⟨ds, h1, h2, h3⟩ := argsD_get I (j := j + 1) (ms := ms) (gs := gs) h g2 (fun i s a hi => by
          have := hO (i + 1) s a (by simpa using hi)
          rw [show j + (i + 1) = j + 1 + i by omega] at this
          exact this)
        obtain ⟨w, s1, s2, s3⟩ := I.slot s b (gt_some eb)
        have ew : w = v := by rw [g1] at s1; exact (Option.some.inj (Option.some.inj s1)).symm
        subst ew
        have en' := Nat.eq_of_beq_eq_true en
        refine ⟨b.d :: ds, ⟨b.d, ds, w, r, rfl, rfl, ?_, h1⟩, h2, fun i m' e => ?_⟩
        · rw [← en']
          exact s2.mono (fun _ _ x => x) (fun _ _ _ x => x) fun a x => by simpa using hO 0 s a rfl x
        · cases i with
          | zero => exact ⟨s, b, rfl, eb, en'.trans (by simpa using e)⟩
          | succ i => simpa using h3 i m' (by simpa using e)
  | [], .inl _ :: _, _, _, _, h, _, _ => h.elim
  | [], .inr _ :: _, _, _, _, h, _, _ => h.elim
  | none :: _, [], _, _, _, h, _, _ => h.elim
  | some _ :: _, [], _, _, _, h, _, _ => h.elim
  | none :: _, .inr _ :: _, _, _, _, h, _, _ => h.elim
  | some _ :: _, .inl _ :: _, _, _, _, h, _, _ => h.elim
theorem gt_of : ∀ {env : DEnv} {i : Nat} {b : Bd}, env[i]? = some (some b) → gt env i = some b
  | [], _, _, h => by simp at h
  | x :: _, 0, b, h => by simpa [gt] using h
  | _ :: r, i + 1, b, h => gt_of (env := r) (i := i) (by simpa using h)
theorem putL_len : ∀ (ks : List Nat) (os : List D) (env : DEnv), (putL ks os env).length = env.length
  | [], _, _ => rfl
  | _ :: _, [], _ => rfl
  | j :: js, d :: ds, env => by
    unfold putL
    rw [putL_len js ds]
    split <;> simp
/-- what stands in a slot behind the call -/
theorem putL_get : ∀ {ks : List Nat} {os : List D} {env : DEnv} {s : Nat} {b : Bd}, ks.Nodup → os.length = ks.length → (putL ks os env)[s]? = some (some b) → (s ∉ ks ∧ env[s]? = some (some b)) ∨ (∃ (i : Nat) (d : D) (b0 : Bd), ks[i]? = some s ∧ os[i]? = some d ∧ env[s]? = some (some b0) ∧ b = { b0 with d := d })
  | [], [], env, s, b, _, _, h => .inl ⟨by simp, h⟩
  | j :: js, d :: ds, env, s, b, nd, hl, h => by
    unfold putL at h
    have nd' := List.nodup_cons.mp nd
    rcases putL_get (ks := js) (os := ds) nd'.2 (by simpa using hl) h with ⟨h1, h2⟩ | ⟨i, d', b0, h1, h2, h3, h4⟩
    · by_cases e : s = j
      · subst e
        cases eb : gt env s with
        | none =>
          rw [eb] at h2
          have := gt_of h2
          rw [eb] at this; cases this
        | some b1 =>
          rw [eb] at h2
          have hs : s < env.length := (List.getElem?_eq_some_iff.mp (gt_some eb)).1
          rw [List.getElem?_set_self hs] at h2
          exact .inr ⟨0, d, b1, rfl, rfl, gt_some eb, (Option.some.inj (Option.some.inj h2)).symm⟩
      · refine .inl ⟨by simp [e, h1], ?_⟩
        revert h2
        split
        · intro h2
          rw [List.getElem?_set_ne (fun z => e z.symm)] at h2
          exact h2
        · exact fun h2 => h2
    · have e : s ≠ j := fun e => by
        subst e
        exact nd'.1 (List.mem_of_getElem? h1)
      refine .inr ⟨i + 1, d', b0, by simpa using h1, by simpa using h2, ?_, h4⟩
      revert h3
      split
      · intro h3
        rw [List.getElem?_set_ne (fun z => e z.symm)] at h3
        exact h3
      · exact fun h3 => h3
  | [], _ :: _, _, _, _, _, hl, _ => by simp at hl
  | _ :: _, [], _, _, _, _, hl, _ => by simp at hl
theorem nodN_nodup : ∀ {l : List Nat}, nodN l = true → l.Nodup
  | [], _ => List.nodup_nil
  | x :: xs, h => by
    have h : (!hasN xs x && nodN xs) = true := h
    rw [Bool.and_eq_true, Bool.not_eq_true'] at h
    exact List.nodup_cons.mpr ⟨hasN_mem h.1, nodN_nodup h.2⟩
end
end DL
set_option Elab.async false
set_option linter.all false
set_option maxRecDepth 100000
/-! DLf: the data layer, part f: a call keeps what the caller owns. -/
namespace DL
open PySem L2 PySem.Spec PyProof.Rows
variable [Tbs]

theorem OutR.len {K : PySem.W.Frag} {mg : MG} {F H : Hp} {O : OW} {vs : List V} : ∀ {ms : Ms} {j : Nat} {os : List D} {ks : List Nat} {gs : List Ga} {env : DEnv} {k : List D → List Nat → Prop}, OutR K mg F H O vs ms j os → argsD ms gs env k → os.length = (ksOf gs).length
  | [], _, _, _, [], _, _, h, _ => by rw [show _ = [] from h]; rfl
  | [], _, _, _, .inl _ :: _, _, _, _, h => h.elim
  | [], _, _, _, .inr _ :: _, _, _, _, h => h.elim
  | none :: ms, j, os, ks, .inl d :: gs, env, k, h, g => OutR.len (ks := ks) (ms := ms) (gs := gs) h g
  | some m :: ms, j, os, ks, .inr s :: gs, env, k, ⟨d, r, v, e1, e2, e3, e4⟩, g => by
    subst e1
    unfold argsD at g
    cases eb : gt env s with
    | none => rw [eb] at g; exact g.elim
    | some b =>
      rw [eb] at g
      have g : (match Nat.beq b.n m with
        | true => argsD ms gs env fun ds ks => k (b.d :: ds) (s :: ks)
        | false => False) := g
      cases en : Nat.beq b.n m with
      | false => rw [en] at g; exact g.elim
      | true =>
        rw [en] at g
        simp [ksOf, OutR.len (ks := ks) (ms := ms) (gs := gs) e4 g]
  | none :: _, _, _, _, [], _, _, _, h => h.elim
  | some _ :: _, _, _, _, [], _, _, _, h => h.elim
  | none :: _, _, _, _, .inr _ :: _, _, _, _, h => h.elim
  | some _ :: _, _, _, _, .inl _ :: _, _, _, _, h => h.elim
/-- the i-th turned argument's data, its place -/
theorem OutR.get {K : PySem.W.Frag} {mg : MG} {F H : Hp} {O : OW} {vs : List V} {σ : L2.St} : ∀ {ms : Ms} {j : Nat} {os : List D} {gs : List Ga} {env : DEnv} {k : List D → List Nat → Prop} {i s : Nat} {d : D}, OutR K mg F H O vs ms j os → argsD ms gs env k →
    (ksOf gs)[i]? = some s → os[i]? = some d → ∃ (n m : Nat) (v : V) (b : Bd), gs[n]? = some (.inr s) ∧ vs[j + n]? = some v ∧ RepO K mg F H m (fun a => O a = some (j + n)) d v ∧ gt env s = some b ∧ b.n = m
  | [], _, _, [], _, _, _, _, _, h, _, q, _ => by simp [ksOf] at q
  | [], _, _, .inl _ :: _, _, _, _, _, _, _, h, _, _ => h.elim
  | [], _, _, .inr _ :: _, _, _, _, _, _, _, h, _, _ => h.elim
  | none :: ms, j, os, .inl d0 :: gs, env, k, i, s, d, h, g, q, q2 => by
    obtain ⟨n, m, v, b, h1, h2, h3, h4⟩ := OutR.get (σ := σ) (ms := ms) (gs := gs) h g q q2
    exact ⟨n + 1, m, v, b, by simpa using h1, by rw [show j + (n + 1) = j + 1 + n by omega]; exact h2, by rw [show j + (n + 1) = j + 1 + n by omega]; exact h3, h4⟩
  | some m0 :: ms, j, os, .inr s0 :: gs, env, k, i, s, d, ⟨d0, r, v, e1, e2, e3, e4⟩, g, q, q2 => by
    subst e1
    unfold argsD at g
    cases eb : gt env s0 with
    | none => rw [eb] at g; exact g.elim
    | some b =>
      rw [eb] at g
      have g : (match Nat.beq b.n m0 with
        | true => argsD ms gs env fun ds ks => k (b.d :: ds) (s0 :: ks)
        | false => False) := g
      cases en : Nat.beq b.n m0 with
      | false => rw [en] at g; exact g.elim
      | true =>
        rw [en] at g
        cases i with
        | zero =>
          have es : s0 = s := by simpa [ksOf] using q
          have ed : d0 = d := by simpa using q2
          subst es; subst ed
          exact ⟨0, m0, v, b, rfl, e2, e3, eb, Nat.eq_of_beq_eq_true en⟩
        | succ i =>
          obtain ⟨n, m, v', b', h1, h2, h3, h4⟩ := OutR.get (σ := σ) (ms := ms) (gs := gs) (i := i) e4 g (by simpa [ksOf] using q) (by simpa using q2)
          exact ⟨n + 1, m, v', b', by simpa using h1, by rw [show j + (n + 1) = j + 1 + n by omega]; exact h2, by rw [show j + (n + 1) = j + 1 + n by omega]; exact h3, h4⟩
  | none :: _, _, _, [], _, _, _, _, _, _, h, _, _ => h.elim
  | some _ :: _, _, _, [], _, _, _, _, _, _, h, _, _ => h.elim
  | none :: _, _, _, .inr _ :: _, _, _, _, _, _, _, h, _, _ => h.elim
  | some _ :: _, _, _, .inl _ :: _, _, _, _, _, _, _, h, _, _ => h.elim
theorem GaR.get {K : PySem.W.Frag} {mg : MG} {F : Hp} {σ : L2.St} : ∀ {gs : List Ga} {vs : List V} {n s : Nat}, GaR K mg F σ gs vs → gs[n]? = some (.inr s) → ∃ v, vs[n]? = some v ∧ σ[s]? = some (some v)
  | [], _, _, _, _, e => by simp at e
  | .inl d :: gs, _, 0, _, _, e => by simp at e
  | .inr k :: gs, _, 0, s, ⟨v, r, h1, h2, h3⟩, e => by
    subst h1
    have e : k = s := by simpa using e
    subst e
    exact ⟨v, rfl, h2⟩
  | .inl d :: gs, _, n + 1, s, ⟨v, r, h1, h2, h3⟩, e => by subst h1; simpa using GaR.get (n := n) h3 (by simpa using e)
  | .inr k :: gs, _, n + 1, s, ⟨v, r, h1, h2, h3⟩, e => by subst h1; simpa using GaR.get (n := n) h3 (by simpa using e)
theorem ixOf_has : ∀ {gs : List Ga} {j k n : Nat}, (ksOf gs).Nodup → gs[n]? = some (.inr k) → ixOf gs j k = some (j + n)
  | [], _, _, _, _, e => by simp at e
  | .inl d :: gs, j, k, 0, _, e => by simp at e
  | .inl d :: gs, j, k, n + 1, nd, e => by
    have h := ixOf_has (j := j + 1) (n := n) (gs := gs) nd (by simpa using e)
    rw [show j + (n + 1) = j + 1 + n by omega]
    exact h
  | .inr s :: gs, j, k, 0, nd, e => by
    have e : s = k := by simpa using e
    unfold ixOf
    rw [if_pos e]
    rfl
  | .inr s :: gs, j, k, n + 1, nd, e => by
    have nd' := List.nodup_cons.mp (show (s :: ksOf gs).Nodup from nd)
    have e' : gs[n]? = some (.inr k) := by simpa using e
    unfold ixOf
    rw [if_neg (fun z => nd'.1 (by rw [z]; exact mem_ksOf.mp (List.mem_of_getElem? e'))), ixOf_has (n := n) nd'.2 e', show j + 1 + n = j + (n + 1) by omega]
/-- who owns what behind a call -/
def backO (gs : List Ga) (O1 O' : OW) : OW := fun a => match O' a with
  | some i => match gs[i]? with
    | some (.inr k) => some k
    | _ => none
  | none => match O1 a with
    | some k => match ixOf gs 0 k with
      | some _ => none
      | none => some k
    | none => none
theorem backO_some {gs : List Ga} {O1 O' : OW} {a : Addr} {k : Nat} (h : backO gs O1 O' a = some k) : (∃ i, O' a = some i ∧ gs[i]? = some (.inr k)) ∨ (O' a = none ∧ O1 a = some k ∧ ixOf gs 0 k = none) := by
  unfold backO at h
  cases e : O' a with
  | some i =>
    rw [e] at h
    have h : (match gs[i]? with
      | some (.inr k) => some k
      | _ => none) = some k := h
    split at h
    · rename_i k' eg
      have : k' = k := Option.some.inj h
      subst this
      exact .inl ⟨i, rfl, eg⟩
    · cases h
  | none =>
    rw [e] at h
    have h : (match O1 a with
      | some k => match ixOf gs 0 k with
        | some _ => none
        | none => some k
      | none => none) = some k := h
    cases e1 : O1 a with
    | none => rw [e1] at h; cases h
    | some k' =>
      rw [e1] at h
      have h : (match ixOf gs 0 k' with
        | some _ => none
        | none => some k') = some k := h
      cases e2 : ixOf gs 0 k' with
      | some _ => rw [e2] at h; cases h
      | none =>
        rw [e2] at h
        have : k' = k := Option.some.inj h
        subst this
        exact .inr ⟨rfl, rfl, e2⟩
theorem backO_in {gs : List Ga} {O1 O' : OW} {a : Addr} {i k : Nat} (h : O' a = some i) (g : gs[i]? = some (.inr k)) : backO gs O1 O' a = some k := by
  unfold backO
  rw [h]
  show (match gs[i]? with
      | some (.inr k) => some k
      | _ => none) = some k
  rw [g]
theorem backO_out {gs : List Ga} {O1 O' : OW} {a : Addr} {k : Nat} (h : O' a = none) (g : O1 a = some k) (e : ixOf gs 0 k = none) : backO gs O1 O' a = some k := by
  unfold backO
  rw [h, g]
  show (match ixOf gs 0 k with
        | some _ => none
        | none => some k) = some k
  rw [e]
section
variable {K : PySem.W.Frag} {mg : MG} {io : Nat → Option V} {env : DEnv} {σ : L2.St} {F F' H H' : Hp} {O O' : OW} {ms : Ms} {gs : List Ga} {vs : List V} {k : List D → List Nat → Prop} {os : List D}
/-- behind the callee: the caller's state -/
theorem call_back (I : SI K mg io env σ F O H) (hg : GaR K mg F σ gs vs) (ha : argsD ms gs env k) (nd : (ksOf gs).Nodup) (m : Mv F (fun a => (O a).bind (ixOf gs 0)) H F' O' H') (sub : Same F' H') (own : OwnOk F' O' H') (out : OutR K mg F' H' O' vs ms 0 os) :
    At K mg io F O H (putL (ksOf gs) os env) σ F' (backO gs O O') H' ∧ ∀ P, Tp (fun a => (O a).bind (ixOf gs 0)) H F' O' H' P → Tp O H F' (backO gs O O') H' P := by
  have oc : ∀ {a : Addr} {i : Nat}, (O a).bind (ixOf gs 0) = some i → ∃ k, O a = some k ∧ ixOf gs 0 k = some i := fun {a i} h => by
    cases e : O a with
    | none => rw [e] at h; cases h
    | some k => rw [e] at h; exact ⟨k, rfl, h⟩
  have oc0 : ∀ {a : Addr}, O a = none → (O a).bind (ixOf gs 0) = none := fun {a} e => by rw [e]; rfl
  have oc1 : ∀ {a : Addr} {k : Nat}, O a = some k → ixOf gs 0 k = none → (O a).bind (ixOf gs 0) = none := fun {a k} e q => by rw [e]; exact q
  have stay : ∀ {a : Addr} {k : Nat}, O a = some k → ixOf gs 0 k = none → O' a = none ∧ F' a = none ∧ ∀ o, H a = some o → H' a = some o := fun {a k} e q => by
    obtain ⟨f0, o, h0, n0⟩ := I.own a k e
    refine ⟨?_, ?_, fun o h => m.fr a o h (oc1 e q) (okT_of (by rw [h] at h0; cases h0; exact n0))⟩
    · cases z : O' a with
      | none => rfl
      | some i =>
        rcases m.on a i z with z | ⟨j, z⟩
        · rw [h0] at z; cases z
        · rw [oc1 e q] at z; cases z
    · cases z : F' a with
      | none => rfl
      | some u =>
        rcases m.fn a u z with z | z | ⟨j, z⟩ | ⟨vs, z⟩
        · rw [f0] at z; cases z
        · rw [h0] at z; cases z
        · rw [oc1 e q] at z; cases z
        · rw [h0] at z; cases z; exact (nomatch n0)
  have nw : ∀ {a : Addr}, (H a = none ∨ ∃ i, (O a).bind (ixOf gs 0) = some i) → H a = none ∨ ∃ i, O a = some i := fun {a} z => z.imp id fun ⟨i, z⟩ => let ⟨k, e, _⟩ := oc z; ⟨k, e⟩
  refine ⟨⟨⟨m.ff, fun a o h e ok => m.fr a o h (oc0 e) ok, fun a o h => (m.fn a o h).imp id fun z => z.elim (fun z => .inl z) fun z => z.elim (fun z => (nw (.inr z)).imp id .inl) fun z => .inr (.inr z), fun a i h => ?_, m.tb⟩, ⟨sub, fun a i h => ?_, fun s b hb => ?_, by rw [putL_len]; exact I.len, TabsK.mv I.tab (fun a i z => let ⟨k, e, _⟩ := oc z; I.own a k e) m⟩⟩, fun P T => ⟨fun a p => ?_, fun a p => nw (T.nw a p)⟩⟩
  · rcases backO_some h with ⟨j, h1, _⟩ | ⟨_, h1, _⟩
    · exact nw (m.on a j h1)
    · exact .inr ⟨i, h1⟩
  · rcases backO_some h with ⟨j, h1, _⟩ | ⟨_, h1, h2⟩
    · exact own a j h1
    · obtain ⟨_, s2, s3⟩ := stay h1 h2
      obtain ⟨_, o, h0, n0⟩ := I.own a i h1
      exact ⟨s2, o, s3 o h0, n0⟩
  · rcases putL_get nd (OutR.len (ks := []) out ha) hb with ⟨h1, h2⟩ | ⟨i, d, b0, h1, h2, h3, h4⟩
    · obtain ⟨v, s1, s2, s3⟩ := I.slot s b h2
      have hx : ixOf gs 0 s = none := by
        cases z : ixOf gs 0 s with
        | none => rfl
        | some i =>
          obtain ⟨n, _, z2⟩ := ixOf_get z
          exact absurd (mem_ksOf.mp (List.mem_of_getElem? z2)) h1
      exact ⟨v, s1, s2.mono m.ff (fun a o p q => (stay p hx).2.2 o q) fun a p => backO_out (stay p hx).1 p hx, s3⟩
    · obtain ⟨n, mm, v, b1, g1, g2, g3, g4, g5⟩ := OutR.get (σ := σ) out ha h1 h2
      rw [Nat.zero_add] at g2 g3
      obtain ⟨v', s1, s2⟩ := hg.get g1
      have ev : v' = v := by rw [g2] at s1; exact (Option.some.inj s1).symm
      subst ev
      have eb : b1 = b0 := by
        have := gt_of h3
        rw [g4] at this
        exact Option.some.inj this
      subst eb
      subst h4
      obtain ⟨w, t1, t2, t3⟩ := I.slot s b1 h3
      refine ⟨v', s2, ?_, fun z => ?_⟩
      · have g3' : RepO K mg F' H' b1.n (fun a => O' a = some n) d v' := by rw [g5]; exact g3
        exact g3'.mono (fun _ _ x => x) (fun _ _ _ x => x) fun a x => backO_in x g1
      · rw [s2] at t1
        have : v' = w := Option.some.inj (Option.some.inj t1)
        rw [this]
        exact t3 z
  · obtain ⟨t1, t2, t3⟩ := T.t a p
    refine ⟨t1, ?_, t3⟩
    cases z : backO gs O O' a with
    | none => rfl
    | some k =>
      rcases backO_some z with ⟨j, h1, _⟩ | ⟨_, h1, h2⟩
      · rw [t2] at h1; cases h1
      · rcases T.nw a p with q | ⟨j, q⟩
        · obtain ⟨_, o, h0, _⟩ := I.own a k h1
          rw [h0] at q; cases q
        · have q : (O a).bind (ixOf gs 0) = some j := q
          rw [oc1 h1 h2] at q; cases q
theorem argsD_ks : ∀ {ms : Ms} {gs : List Ga} {k : List D → List Nat → Prop}, argsD ms gs env k → ∃ ds, k ds (ksOf gs)
  | [], [], _, h => ⟨_, h⟩
  | none :: ms, .inl d :: gs, k, h => let ⟨ds, q⟩ := argsD_ks (ms := ms) (gs := gs) h; ⟨_, q⟩
  | some m :: ms, .inr s :: gs, k, h => by
    unfold argsD at h
    cases eb : gt env s with
    | none => rw [eb] at h; exact h.elim
    | some b =>
      rw [eb] at h
      have h : (match Nat.beq b.n m with
        | true => argsD ms gs env fun ds ks => k (b.d :: ds) (s :: ks)
        | false => False) := h
      cases en : Nat.beq b.n m with
      | false => rw [en] at h; exact h.elim
      | true =>
        rw [en] at h
        obtain ⟨ds, q⟩ := argsD_ks (ms := ms) (gs := gs) h
        exact ⟨_, q⟩
  | [], .inl _ :: _, _, h => h.elim
  | [], .inr _ :: _, _, h => h.elim
  | none :: _, [], _, h => h.elim
  | some _ :: _, [], _, h => h.elim
  | none :: _, .inr _ :: _, _, h => h.elim
  | some _ :: _, .inl _ :: _, _, h => h.elim
theorem call_read {S : DSp} {Q : QE} {R : QX} {Qh : VK} {W : WX} (I : SI K mg io env σ F O H) (hg : GaR K mg F σ gs vs) (h : callD ms S gs env Q R) (kQ : KE K mg io σ F O H Q Qh) (kX : KX K mg io F O H R W) : spOf K mg ms S vs H Qh (fun cls d H => W cls d σ H) := by
  unfold callD at h
  have nd0 : ∀ {ks : List Nat} {p : Prop}, whenB (nodN ks) p → ks.Nodup ∧ p := fun {ks p} w => by
    cases e : nodN ks with
    | false => rw [e] at w; exact w.elim
    | true => rw [e] at w; exact ⟨nodN_nodup e, w⟩
  have ndk : (ksOf gs).Nodup := let ⟨ds, w⟩ := argsD_ks h; (nd0 w).1
  have hx : ∀ (i s : Nat) (a : Addr), gs[i]? = some (.inr s) → O a = some s → (O a).bind (ixOf gs 0) = some (0 + i) := fun i s a e o => by
    rw [o]
    exact ixOf_has ndk e
  obtain ⟨ds, h1, h2, _⟩ := argsD_get (j := 0) (Oc := fun a => (O a).bind (ixOf gs 0)) I h hg hx
  refine ⟨F, fun a => (O a).bind (ixOf gs 0), ds, _, I.sub, fun a i z => ?_, I.tab, h1, (nd0 h2).2, fun d n os F' O' H' v P m sub own out T r q => ?_, fun x os F' O' H' cls dx m sub own out r q => ?_⟩
  · have z : (O a).bind (ixOf gs 0) = some i := z
    cases e : O a with
    | none => rw [e] at z; cases z
    | some k => exact I.own a k e
  · obtain ⟨A, TT⟩ := call_back I hg h ndk m sub own out
    exact kQ d n _ F' _ H' v P A (TT P T) r q
  · obtain ⟨A, _⟩ := call_back I hg h ndk m sub own out
    exact kX x _ σ F' _ H' cls dx A r q
end
/-- default values without an address -/
def Dfl (dd : List D) (dvs : List V) : Prop := dd.all D.leaf = true ∧ dvs = dd.map vlf
theorem Dfl.reps {K : PySem.W.Frag} {mg : MG} {F : Hp} : ∀ {dd : List D} {dvs : List V}, Dfl dd dvs → Reps K mg F dd dvs
  | [], _, h => h.2
  | d :: dd, _, ⟨h1, h2⟩ => by
    subst h2
    have h1' : d.leaf = true ∧ dd.all D.leaf = true := by simpa using h1
    refine ⟨vlf d, dd.map vlf, rfl, ?_, Dfl.reps ⟨h1'.2, rfl⟩⟩
    have := h1'.1
    cases d <;> first | rfl | cases this
section
variable {X : Cx} {k : Nat} {f : Addr} {fd : FuncData} {ps : List Str} {ms : Ms} {S : DSp} {dd : List D} {dvs : List V} {ds : List Value} {x : Str} {p pos : Pos} {e : Expr} {es : List Expr} {t : GAT}
/-- f(e, ..), f a def of the module -/
theorem de_call (dd : List D) {dvs : List V} (Fn : FnOk X.prog X.w X.K X.mg X.base (L2N.CX X.prog X.w) k f fd ps (spOf X.K X.mg ms S)) (hr : Room k X.A) (hm : X.mg x = some (.ref f)) (hk : PySem.W.keepIn X.K (.ref f) = true) (hb : Binds X.K fd ps ds) (hd : Vals dvs ds) (hdd : Dfl dd dvs)
    (ha : DGA X (e :: es) t) (hg : Gl X x := by rfl) (hdb : (x == ("__debug__" : Str)) = false := by decide) (he : starEach (e :: es) X.env = (false, eval e X.env) :: starEach es X.env := by rfl) (hpl : (backTo pos (starEach es X.env)).any (·.1) = false := by rfl) :
    DE X (.Call (.Name x p) (e :: es) [] pos) (eCall ms S dd t) := by
  intro W tk
  refine peI (pe_callSD (E := fun σ cls d H => W cls d σ H) Fn hr hg hm hk hb hd (fun σ => passAt tk σ) (ha W tk) hdb he hpl) ?_
  rintro σ H Qh ⟨io, env, F, O, Q, R, I, h, kQ, kX⟩
  refine ⟨io, env, F, O, _, R, I, h, ?_, kX⟩
  intro gs env1 F1 O1 H1 vs A1 r1 h1
  exact call_read A1.si (r1.append (hdd.reps)) h1 (kQ.mv A1) (kX.mv A1)
end
end DL
set_option Elab.async false
set_option linter.all false
set_option maxRecDepth 100000
/-! DLg: the data layer, part g: operators on data. -/
namespace DL
open PySem L2 PySem.Spec PyProof.Rows
variable [Tbs]

theorem lstR {X : Cx} {pins : List (Addr × Obj)} {σ : L2.St} {H : Hp} {s : Shared} {a : Addr} {xs : List V} (I : Inv X pins σ H s) (h : Rd H a (.lst xs)) :
    ∃ (its : List Value) (n : Nat), Vals xs its ∧ xs.length ≤ sizeLine ∧ s.heap.get? a = some { cls := .type "list", data := .seq its.toArray n } := by
  obtain ⟨z, its, n, r, e⟩ := h.ok I.hok
  exact ⟨its, n, r, z, e⟩
/-! ### + -/
def rCatR : R2 := fun x y H Q => ∃ l b xs zs, x = .ref l ∧ y = .ref b ∧ Rd H l (.lst xs) ∧ Rd H b (.lst zs) ∧ xs.length + zs.length ≤ sizeLine ∧ ∀ p, H p = none → Q (.ref p) (upd H p (.lst (xs ++ zs)))
theorem op_catR {X : Cx} : OpR X (binaryOp .Add) rCatR := by
  intro pins s σ H x y v u Q I rx ry h
  obtain ⟨l, b, xs, zs, rfl, rfl, hH, hB, hz, q⟩ := h
  cases rx
  cases ry
  obtain ⟨its, n, r, z, e⟩ := lstR I hH
  obtain ⟨its2, n2, r2, z2, e2⟩ := lstR I hB
  have l1 := r.length
  have l2 := r2.length
  refine PySem.P.add_list e e2 ?_ (by rw [List.size_toArray, List.size_toArray]; omega)
  have ea : its.toArray ++ its2.toArray = (its ++ its2).toArray := by simp
  rw [ea]
  exact ⟨.ref _, _, I.lnew (t' := s.toks) (r.append r2) (by rw [List.length_append]; omega), rfl, q _ I.fresh⟩
def rAddD (K : PySem.W.Frag) : R2 := fun x y H Q => rI0 (fun i j => .int (i + j)) x y H Q ∨ (∃ i j, x = .str i ∧ y = .str j ∧ i.length + j.length ≤ sizeLine ∧ Q (.str (i ++ j)) H) ∨ rCatR x y H Q ∨ rCatA K x y H Q
theorem op_addD {X : Cx} : OpR X (binaryOp .Add) (rAddD X.K) := op_add.or (op_add_str.or (op_catR.or op_catA))
def odAdd : OT2
  | .int i, .int j, Q => Q (.int (i + j)) 0
  | .str s, .str t, Q => s.length + t.length ≤ sizeLine ∧ Q (.str (s ++ t)) 0
  | .lst a, .lst b, Q => a.length + b.length ≤ sizeLine ∧ Q (.lst (a ++ b)) 1
  | .tup a, .tup b, Q => a.length + b.length ≤ sizeLine ∧ Q (.tup (a ++ b)) 0
  | _, _, _ => False
theorem okAdd {X : Cx} : Ok2 X (rAddD X.K) odAdd := by
  intro F H x y v w Q Qh e r1 r2 h k
  cases x <;> cases y <;> first | exact (show False from h).elim | skip
  · cases (show v = _ from r1); cases (show w = _ from r2)
    exact .inl ⟨_, _, rfl, rfl, k.old (.int _) _ rfl h⟩
  · cases (show v = _ from r1); cases (show w = _ from r2)
    exact .inr (.inl ⟨_, _, rfl, rfl, h.1, k.old (.str _) _ rfl h.2⟩)
  · obtain ⟨a, vs, rfl, h1, h2⟩ := r1
    obtain ⟨b, ws, rfl, g1, g2⟩ := r2
    have e1 := h2.length
    have e2 := g2.length
    refine .inr (.inr (.inr ⟨a, b, vs, ws, rfl, rfl, .inl (.inl (e _ _ h1)), .inl (.inl (e _ _ g1)), by rw [e1, e2]; exact h.1, fun z => ?_, fun _ z => ?_, fun _ _ p hp => k.tup _ _ p hp (h2.append g2) h.2⟩))
    · subst z
      cases (show _ = [] from List.length_eq_zero_iff.mp e1.symm)
      exact k.old (.tup _) _ ⟨b, ws, rfl, g1, g2⟩ h.2
    · subst z
      cases (show _ = [] from List.length_eq_zero_iff.mp e2.symm)
      have q := h.2
      rw [List.append_nil] at q
      exact k.old (.tup _) _ ⟨a, vs, rfl, h1, h2⟩ q
  · obtain ⟨a, vs, rfl, h1, h2⟩ := r1
    obtain ⟨b, ws, rfl, g1, g2⟩ := r2
    have e1 := h2.length
    have e2 := g2.length
    exact .inr (.inr (.inl ⟨a, b, vs, ws, rfl, rfl, rd_mono e h1, rd_mono e g1, by rw [e1, e2]; exact h.1, fun p hp => k.new (.lst _) (.lst _) p hp (h2.append g2) h.2⟩))
/-! ### - * // % ** on ints -/
def odSub : OT2
  | .int i, .int j, Q => Q (.int (i - j)) 0
  | _, _, _ => False
theorem ok_rI {X : Cx} {C : Int → Int → Prop} {g : Int → Int → V} {od : OT2} (hf : ∀ x y Q, od x y Q → ∃ i j, x = .int i ∧ y = .int j ∧ C i j ∧ ∃ d : D, d.leaf = true ∧ g i j = vlf d ∧ Q d 0) : Ok2 X (rI C g) od := by
  intro F H x y v w Q Qh e r1 r2 h k
  obtain ⟨i, j, rfl, rfl, c, d, dl, eg, q⟩ := hf _ _ _ h
  cases (show v = _ from r1); cases (show w = _ from r2)
  exact ⟨i, j, rfl, rfl, c, k.old d _ (by rw [eg]; cases d <;> first | rfl | cases dl) q⟩
theorem okSub {X : Cx} : Ok2 X (rI (fun _ _ => True) fun i j => .int (i - j)) odSub := ok_rI fun x y Q h => by
  cases x <;> cases y <;> first | exact (show False from h).elim | skip
  exact ⟨_, _, rfl, rfl, trivial, .int _, rfl, rfl, h⟩
theorem op_subD {X : Cx} : OpR X (binaryOp .Sub) (rI (fun _ _ => True) fun i j => .int (i - j)) := fun pins s σ H x y v u Q I rx ry ⟨i, j, a, b, _, q⟩ => op_sub pins s σ H x y v u Q I rx ry ⟨i, j, a, b, q⟩
/-- one factor is small, or both together have less than a million bits -/
def MulOk (i j : Int) : Prop := CMul i j ∨ CMulW i j
theorem op_mulD {X : Cx} : OpR X (binaryOp .Mult) (rI MulOk fun i j => .int (i * j)) := fun pins s σ H x y v u Q I rx ry ⟨i, j, a, b, c, q⟩ => c.elim (fun c => op_mul pins s σ H x y v u Q I rx ry ⟨i, j, a, b, c, q⟩) fun c => op_mulW pins s σ H x y v u Q I rx ry ⟨i, j, a, b, c, q⟩
def rRepR : R2 := fun x y H Q => ∃ l k xs, x = .ref l ∧ y = .int k ∧ H l = some (.lst xs) ∧ -(2 ^ 63) ≤ k ∧ k < 2 ^ 63 ∧ xs.length * k.toNat ≤ sizeLine ∧ ∀ p, H p = none → Q (.ref p) (upd H p (.lst (List.replicate k.toNat xs).flatten))
def odMul : OT2
  | .int i, .int j, Q => MulOk i j ∧ Q (.int (i * j)) 0
  | _, _, _ => False
theorem okMul {X : Cx} : Ok2 X (rI MulOk fun i j => .int (i * j)) odMul := ok_rI fun x y Q h => by
  cases x <;> cases y <;> first | exact (show False from h).elim | skip
  exact ⟨_, _, rfl, rfl, h.1, .int _, rfl, rfl, h.2⟩
/-- // by a positive divisor below 10^40 -/
def odDiv : OT2
  | .int i, .int j, Q => (0 < j ∧ j < 10 ^ 40) ∧ Q (.int (i / j)) 0
  | _, _, _ => False
theorem okDiv {X : Cx} : Ok2 X (rI CDivW fun i j => .int (i / j)) odDiv := ok_rI fun x y Q h => by
  cases x <;> cases y <;> first | exact (show False from h).elim | skip
  obtain ⟨⟨h1, h2⟩, h⟩ := h
  refine ⟨_, _, rfl, rfl, wide_div (b := 200) h1 ?_ (by decide) (by decide), .int _, rfl, rfl, h⟩
  have e : (10 : Int) ^ 40 < 2 ^ 200 := by decide
  omega
def odMod : OT2
  | .int i, .int j, Q => 0 < j ∧ Q (.int (i % j)) 0
  | _, _, _ => False
theorem okMod {X : Cx} : Ok2 X (rI (fun _ j => 0 < j) fun i j => .int (i % j)) odMod := ok_rI fun x y Q h => by
  cases x <;> cases y <;> first | exact (show False from h).elim | skip
  exact ⟨_, _, rfl, rfl, h.1, .int _, rfl, rfl, h.2⟩
def odPow : OT2
  | .int i, .int j, Q => CPow i j ∧ Q (.int (i ^ j.toNat)) 0
  | _, _, _ => False
theorem okPow {X : Cx} : Ok2 X (rI CPow fun i j => .int (i ^ j.toNat)) odPow := ok_rI fun x y Q h => by
  cases x <;> cases y <;> first | exact (show False from h).elim | skip
  exact ⟨_, _, rfl, rfl, h.1, .int _, rfl, rfl, h.2⟩
def odNeg : OT1
  | .int i, Q => Q (.int (-i)) 0
  | _, _ => False
theorem okNeg {X : Cx} : Ok1 X (rU fun i => .int (-i)) odNeg := by
  intro F H x v Q Qh e r h k
  cases x <;> first | exact (show False from h).elim | skip
  cases (show v = _ from r)
  exact ⟨_, rfl, k.old (.int _) _ rfl h⟩
/-! ### order of ints, texts -/
def odCmp (p : Int → Int → Bool) (q : List Nat → List Nat → Bool) : OT2
  | .int i, .int j, Q => Q (.bl (p i j)) 0
  | .str s, .str t, Q => Q (.bl (q s.cps.toList t.cps.toList)) 0
  | _, _, _ => False
def rCmp (p : Int → Int → Bool) (q : List Nat → List Nat → Bool) : R2 := fun x y H Q => rI0 (fun i j => .bl (p i j)) x y H Q ∨ ∃ i j, x = .str i ∧ y = .str j ∧ Q (.bl (q i.cps.toList j.cps.toList)) H
theorem okCmp {X : Cx} {p : Int → Int → Bool} {q : List Nat → List Nat → Bool} : Ok2 X (rCmp p q) (odCmp p q) := by
  intro F H x y v w Q Qh e r1 r2 h k
  cases x <;> cases y <;> first | exact (show False from h).elim | skip
  · cases (show v = _ from r1); cases (show w = _ from r2)
    exact .inl ⟨_, _, rfl, rfl, k.old (.bl _) _ rfl h⟩
  · cases (show v = _ from r1); cases (show w = _ from r2)
    exact .inr ⟨_, _, rfl, rfl, k.old (.bl _) _ rfl h⟩
abbrev odLt : OT2 := odCmp (fun i j => decide (i < j)) fun s t => decide (s < t)
abbrev odLe : OT2 := odCmp (fun i j => decide (i ≤ j)) fun s t => !decide (t < s)
abbrev odGt : OT2 := odCmp (fun i j => decide (j < i)) fun s t => decide (t < s)
abbrev odGe : OT2 := odCmp (fun i j => decide (j ≤ i)) fun s t => !decide (s < t)
section
variable {X : Cx}
theorem op_ltD : OpR X (compareOp .Lt) (rCmp (fun i j => decide (i < j)) fun s t => decide (s < t)) := op_lt.or op_lt_str
theorem op_leD : OpR X (compareOp .LtE) (rCmp (fun i j => decide (i ≤ j)) fun s t => !decide (t < s)) := op_le.or op_le_str
theorem op_gtD : OpR X (compareOp .Gt) (rCmp (fun i j => decide (j < i)) fun s t => decide (t < s)) := op_gt.or op_gt_str
theorem op_geD : OpR X (compareOp .GtE) (rCmp (fun i j => decide (j ≤ i)) fun s t => !decide (s < t)) := op_ge.or op_ge_str
end
/-! ### == -/
mutual
def D.py : D → PyData
  | .non => .none
  | .bl b => .bool b
  | .int i => .int i
  | .str s => .str s
  | .tup ds => .tuple (D.pys ds)
  | .ktu ds => .tuple (D.pys ds)
  | .lst ds => .list (D.pys ds)
  | .dK _ => .dict []
  | .dT _ => .dict []
  | .obj _ _ => .dict []
  | .fn _ => .dict []
  | .exn _ _ _ => .dict []
  | .hole => .dict []
def D.pys : List D → List PyData
  | [] => []
  | d :: ds => d.py :: D.pys ds
end
section
variable {K : PySem.W.Frag} {mg : MG} {H : Hp}
mutual
theorem dp_of : ∀ {d : D} {v : V}, Rep K mg H d v → d.py.canLay0 = true → Dp K H v d.py
  | .non, _, h, _ => by cases (show _ = V.non from h); exact .non
  | .bl b, _, h, _ => by cases (show _ = V.bl b from h); exact .bl b
  | .int i, _, h, _ => by cases (show _ = V.int i from h); exact .int i
  | .str s, _, h, _ => by cases (show _ = V.str s from h); exact .str s
  | .tup ds, _, ⟨a, vs, h1, h2, h3⟩, hc => by
    subst h1
    rw [D.py] at hc ⊢
    exact .tup (.inl (.inl h2)) (dps_of h3 (by simpa [PyData.canLay0] using hc))
  | .ktu ds, _, ⟨a, vs, h1, h2, h3⟩, hc => by
    subst h1
    rw [D.py] at hc ⊢
    exact .tup h2 (dps_of h3 (by simpa [PyData.canLay0] using hc))
  | .lst ds, _, ⟨a, vs, h1, h2, h3⟩, hc => by
    subst h1
    rw [D.py] at hc ⊢
    exact .lst (.inl h2) (dps_of h3 (by simpa [PyData.canLay0] using hc))
  | .dK _, _, _, hc => by simp [D.py, PyData.canLay0] at hc
  | .dT _, _, _, hc => by simp [D.py, PyData.canLay0] at hc
  | .obj _ _, _, _, hc => by simp [D.py, PyData.canLay0] at hc
  | .fn _, _, _, hc => by simp [D.py, PyData.canLay0] at hc
  | .exn _ _ _, _, _, hc => by simp [D.py, PyData.canLay0] at hc
  | .hole, _, _, hc => by simp [D.py, PyData.canLay0] at hc
theorem dps_of : ∀ {ds : List D} {vs : List V}, Reps K mg H ds vs → PyData.canLayAll0 (D.pys ds) = true → DpAll K H vs (D.pys ds)
  | [], _, h, _ => by cases (show _ = ([] : List V) from h); exact .nil
  | d :: ds, _, ⟨v, r, h1, h2, h3⟩, hc => by
    subst h1
    have hc' : d.py.canLay0 = true ∧ PyData.canLayAll0 (D.pys ds) = true := by simpa [D.pys, PyData.canLayAll0] using hc
    exact .cons (dp_of h2 hc'.1) (dps_of h3 hc'.2)
end
end
/-- == of two things without an address, where it is plain -/
def leq : D → D → Option Bool
  | .non, .non => some true
  | .bl a, .bl b => some (decide (a = b))
  | .int i, .int j => some (decide (i = j))
  | .str s, .str t => some (decide (s = t))
  | .non, .int _ => some false | .int _, .non => some false | .non, .str _ => some false | .str _, .non => some false | .non, .bl _ => some false | .bl _, .non => some false
  | .int _, .str _ => some false | .str _, .int _ => some false | .bl _, .str _ => some false | .str _, .bl _ => some false
  | _, _ => none
def eqW (f : Bool → Bool) (x y : D) (Q : Qn) : Prop := match leq x y with
  | some b => Q (.bl (f b)) 0
  | none => SeqAt.shaped x.py = true ∧ SeqAt.shaped y.py = true ∧ Q (.bl (f (PyData.eqv x.py y.py))) 0
def odEq : OT2 := eqW fun b => b
def odNe : OT2 := eqW fun b => !b
theorem leq_scal {x y : D} {b : Bool} (h : leq x y = some b) : scal (vlf x) (vlf y) = true ∧ x.leaf = true ∧ y.leaf = true ∧ b = decide (vlf x = vlf y) := by
  cases x <;> cases y <;> first
    | cases h; done
    | (cases h; exact ⟨rfl, rfl, rfl, by simp [vlf]⟩)
theorem leaf_v {K : PySem.W.Frag} {mg : MG} {F : Hp} {d : D} {v : V} (hl : d.leaf = true) (r : Rep K mg F d v) : v = vlf d := by cases d <;> first | exact r | cases hl
section
variable {X : Cx}
def rEqA (K : PySem.W.Frag) : R2 := fun x y H Q => rEq x y H Q ∨ rEqD K x y H Q
def rNeA (K : PySem.W.Frag) : R2 := fun x y H Q => rNe x y H Q ∨ rNeD K x y H Q
theorem op_eqA (hu : X.A.units + 64 < cLine) : OpR X (compareOp .Eq) (rEqA X.K) := op_eq.or (op_eqD hu)
theorem op_neA (hu : X.A.units + 64 < cLine) : OpR X (compareOp .NotEq) (rNeA X.K) := op_ne.or (op_neD hu)
theorem okEq : Ok2 X (rEqA X.K) odEq := by
  intro F H x y v w Q Qh e r1 r2 h k
  unfold odEq eqW at h
  cases l : leq x y with
  | some b =>
    rw [l] at h
    obtain ⟨h1, h2, h3, h4⟩ := leq_scal l
    have e1 := leaf_v h2 r1
    have e2 := leaf_v h3 r2
    subst e1; subst e2; subst h4
    exact .inl ⟨h1, k.old (.bl _) _ rfl h⟩
  | none =>
    rw [l] at h
    obtain ⟨s1, s2, h⟩ := h
    exact .inr ⟨_, _, dp_of (Rep.mono e r1) (SeqAt.canLay_of_shaped s1), dp_of (Rep.mono e r2) (SeqAt.canLay_of_shaped s2), s1, s2, k.old (.bl _) _ rfl h⟩
theorem okNe : Ok2 X (rNeA X.K) odNe := by
  intro F H x y v w Q Qh e r1 r2 h k
  unfold odNe eqW at h
  cases l : leq x y with
  | some b =>
    rw [l] at h
    obtain ⟨h1, h2, h3, h4⟩ := leq_scal l
    have e1 := leaf_v h2 r1
    have e2 := leaf_v h3 r2
    subst e1; subst e2; subst h4
    exact .inl ⟨h1, k.old (.bl _) _ rfl h⟩
  | none =>
    rw [l] at h
    obtain ⟨s1, s2, h⟩ := h
    exact .inr ⟨_, _, dp_of (Rep.mono e r1) (SeqAt.canLay_of_shaped s1), dp_of (Rep.mono e r2) (SeqAt.canLay_of_shaped s2), s1, s2, k.old (.bl _) _ rfl h⟩
/-! is None -/
def D.isNon : D → Bool
  | .non => true
  | _ => false
def D.sound : D → Bool
  | .hole => false
  | _ => true
def odIsN : OT2
  | x, .non, Q => x.sound = true ∧ Q (.bl x.isNon) 0
  | _, _, _ => False
def odNotN : OT2
  | x, .non, Q => x.sound = true ∧ Q (.bl (!x.isNon)) 0
  | _, _, _ => False
theorem non_dec {K : PySem.W.Frag} {mg : MG} {F : Hp} {x : D} {v : V} (hs : x.sound = true) (r : Rep K mg F x v) : decide (v = .non) = x.isNon := by
  cases x with
  | exn a d fs => obtain ⟨rfl, _⟩ := r; rfl
  | hole => cases hs
  | non => cases (show v = _ from r); rfl
  | bl b => cases (show v = _ from r); rfl
  | int b => cases (show v = _ from r); rfl
  | str b => cases (show v = _ from r); rfl
  | tup b => obtain ⟨a, vs, rfl, _⟩ := r; rfl
  | lst b => obtain ⟨a, vs, rfl, _⟩ := r; rfl
  | dK b => obtain ⟨a, vs, rfl, _⟩ := r; rfl
  | dT b => obtain ⟨a, vs, rfl, _⟩ := r; rfl
  | obj c b => obtain ⟨a, C, dx, vs, rfl, _⟩ := r; rfl
  | fn b => obtain ⟨a, rfl, _⟩ := r; rfl
  | ktu b => obtain ⟨a, vs, rfl, _⟩ := r; rfl
theorem okIsN : Ok2 X (fun x y H Q => y = .non ∧ Q (.bl (decide (x = .non))) H) odIsN := by
  intro F H x y v w Q Qh e r1 r2 h k
  cases y <;> first | exact (show False from h).elim | skip
  cases (show w = _ from r2)
  refine ⟨rfl, ?_⟩
  rw [non_dec h.1 r1]
  exact k.old (.bl _) _ rfl h.2
theorem okNotN : Ok2 X (fun x y H Q => y = .non ∧ Q (.bl (!decide (x = .non))) H) odNotN := by
  intro F H x y v w Q Qh e r1 r2 h k
  cases y <;> first | exact (show False from h).elim | skip
  cases (show w = _ from r2)
  refine ⟨rfl, ?_⟩
  rw [non_dec h.1 r1]
  exact k.old (.bl _) _ rfl h.2
end
end DL
set_option Elab.async false
set_option linter.all false
set_option maxRecDepth 100000
/-! DLh: the data layer, part h: items, slices, in, len, isinstance, built-ins. -/
namespace DL
open PySem L2 PySem.Spec PyProof.Rows
variable [Tbs]

/-! ### tables -/
def lookD {κ : Type} [DecidableEq κ] (kvs : List (κ × D)) (k : κ) : Option D := (kvs.find? fun kv => decide (kv.1 = k)).map (·.2)
def putD {κ : Type} [DecidableEq κ] (kvs : List (κ × D)) (k : κ) (v : D) : List (κ × D) :=
  if (kvs.any fun kv => decide (kv.1 = k)) = true then kvs.map (fun kv => if kv.1 = k then (kv.1, v) else kv) else kvs ++ [(k, v)]
theorem lookD_cons {κ : Type} [DecidableEq κ] {k k0 : κ} {d : D} {r : List (κ × D)} : lookD ((k0, d) :: r) k = if k0 = k then some d else lookD r k := by
  unfold lookD
  rw [List.find?_cons]
  by_cases e : k0 = k
  · simp [e]
  · simp [e]
section
variable {K : PySem.W.Frag} {mg : MG} {F : Hp}
theorem RepK.look : ∀ {kvs : List (Key × D)} {vs : List (Key × V)} (k : Key), RepK K mg F kvs vs → match lookD kvs k with | some d => ∃ v, valV vs k = some v ∧ Rep K mg F d v | none => valV vs k = none
  | [], _, k, h => by cases (show _ = ([] : List (Key × V)) from h); rfl
  | (k0, d) :: r, _, k, ⟨v, t, h1, h2, h3⟩ => by
    subst h1
    rw [lookD_cons]
    by_cases e : k0 = k
    · rw [if_pos e]
      exact ⟨v, valV_pos e, h2⟩
    · rw [if_neg e, valV_neg (p := (k0, v)) e]
      exact RepK.look k h3
theorem RepT.look : ∀ {kvs : List (List Key × D)} {vs : List (List Key × V)} (k : List Key), RepT K mg F kvs vs → match lookD kvs k with | some d => ∃ v, valV vs k = some v ∧ Rep K mg F d v | none => valV vs k = none
  | [], _, k, h => by cases (show _ = ([] : List (List Key × V)) from h); rfl
  | (k0, d) :: r, _, k, ⟨v, t, h1, h2, h3⟩ => by
    subst h1
    rw [lookD_cons]
    by_cases e : k0 = k
    · rw [if_pos e]
      exact ⟨v, valV_pos e, h2⟩
    · rw [if_neg e, valV_neg (p := (k0, v)) e]
      exact RepT.look k h3
end
def keyD : D → Option Key
  | .int i => some (.inl i)
  | .str s => some (.inr s)
  | _ => none
def keysD : List D → Option (List Key)
  | [] => some []
  | d :: ds => match keyD d, keysD ds with
    | some k, some ks => some (k :: ks)
    | _, _ => none
theorem keyD_v {K : PySem.W.Frag} {mg : MG} {F : Hp} {d : D} {k : Key} {v : V} (h : keyD d = some k) (r : Rep K mg F d v) : v = kV k := by
  cases d <;> first | cases h; done | skip
  · cases h; exact r
  · cases h; exact r
theorem keysD_v {K : PySem.W.Frag} {mg : MG} {F : Hp} : ∀ {ds : List D} {ks : List Key} {vs : List V}, keysD ds = some ks → Reps K mg F ds vs → vs = ks.map kV
  | [], ks, vs, h, r => by cases h; exact r
  | d :: ds, ks, vs, h, ⟨v, t, h1, h2, h3⟩ => by
    unfold keysD at h
    cases e1 : keyD d with
    | none => rw [e1] at h; cases h
    | some k =>
      cases e2 : keysD ds with
      | none => rw [e1, e2] at h; cases h
      | some ks' =>
        rw [e1, e2] at h
        cases h
        rw [h1, keyD_v e1 h2, keysD_v e2 h3]
        rfl

/-! ### items -/
/-- a place among n, by any sign -/
def ixI (n : Nat) : Int → Option Nat
  | .ofNat i => match Nat.blt i n with | true => some i | false => none
  | .negSucc i => match Nat.blt i n with | true => some (n - (i + 1)) | false => none
theorem ixI_eq (n : Nat) (i : Int) : ixI n i = ixN n i := by
  have hb : ∀ a b : Nat, Nat.blt a b = decide (a < b) := fun a b => by
    cases h : Nat.blt a b with
    | true => exact (decide_eq_true (Nat.blt_eq.mp h)).symm
    | false => exact (decide_eq_false (fun z => by rw [Nat.blt_eq.mpr z] at h; cases h)).symm
  cases i with
  | ofNat i =>
    show (match Nat.blt i n with | true => some i | false => none) = _
    unfold ixN
    rw [if_pos (by simp : (0 : Int) ≤ Int.ofNat i), hb]
    by_cases h : i < n
    · rw [decide_eq_true h, if_pos (by simpa using h)]; rfl
    · rw [decide_eq_false h, if_neg (by simpa using h)]
  | negSucc i =>
    show (match Nat.blt i n with | true => some (n - (i + 1)) | false => none) = _
    unfold ixN
    rw [if_neg (by have := Int.negSucc_lt_zero i; omega), hb]
    by_cases h : i < n
    · rw [decide_eq_true h, if_pos (by rw [Int.negSucc_eq]; omega)]
      show some (n - (i + 1)) = some _
      congr 1
      rw [Int.negSucc_eq]
      omega
    · rw [decide_eq_false h, if_neg (by rw [Int.negSucc_eq]; omega)]
def getI {α : Type} (xs : List α) (i : Int) : Option α := match ixI xs.length i with | some j => xs[j]? | none => none
theorem getI_eq {α : Type} (xs : List α) (i : Int) : getI xs i = L2.atI xs i := by
  unfold getI L2.atI
  rw [ixI_eq]
  cases ixN xs.length i <;> rfl
def someD (o : Option D) (Q : D → Prop) : Prop := match o with | some d => Q d | none => False
def odIx : OT2
  | .lst ds, .int i, Q => someD (getI ds i) fun d => Q d 0
  | .tup ds, .int i, Q => someD (getI ds i) fun d => Q d 0
  | .ktu ds, .int i, Q => someD (getI ds i) fun d => Q d 0
  | .str s, .int i, Q => s.length ≤ sizeLine ∧ match getI s.cps.toList i with | some c => Q (.str ⟨#[c]⟩) 0 | none => False
  | .dK kvs, k, Q => match keyD k with | some k => someD (lookD kvs k) fun d => Q d 0 | none => False
  | .dT kvs, .tup ks, Q => match keysD ks with | some k => someD (lookD kvs k) fun d => Q d 0 | none => False
  | _, _, _ => False
def rIxD : R2 := fun x y H Q => ∃ a v, x = .ref a ∧ DGet H a y (some v) ∧ Q v H
theorem ix_dict {X : Cx} (hu : X.A.units + 1 < cLine) : IxR X rIxD := by
  intro value slice pins s σ H x y v u Q I rx ry h hs
  obtain ⟨a, w, rfl, g, q⟩ := h
  cases rx
  have hT := dict_typeIs I g
  have h2 : wpAny (model X.prog X.w) X.A (getItem (.ref a) u) (EP X pins σ Q) X.xe s := d_getItem hu I g ry fun w' s3 I3 rw' => ⟨w, H, I3, rw', q⟩
  unfold subscriptTail
  refine wpAny_bind ?_
  rw [getitemInPython_of_ne hT.not_modules]
  refine wpAny_bind (wpAny_specialOf hT PySem.F.slot_dict_getitem.lookup ?_)
  have fin : wpAny (model X.prog X.w) X.A (subscripted slice false (.ref a) u) (fun r s₃ => wpAny (model X.prog X.w) X.A (letTemporaryGo value (.ref a) r >>= fun _ => pure r) (EP X pins σ Q) X.xe s₃) X.xe s := by
    rw [hs]
    exact wpAny_operating (wpAny_mono h2 (fun r s₃ h₃ => wpAny_bind (wpAny_letTemporaryGo (wpAny_pure h₃))) fun _ _ x => x)
  first
    | exact wpAny_pure (wpAny_bind fin)
    | exact wpAny_bind (wpAny_pure (wpAny_bind fin))
    | exact wpAny_bind fin
def rIxA (K : PySem.W.Frag) : R2 := fun x y H Q => rIx K x y H Q ∨ rIxD x y H Q
theorem ix_any {X : Cx} (hu : X.A.units + 1 < cLine) : IxR X (rIxA X.K) := ix_seq.or (ix_dict hu)
section
variable {K : PySem.W.Frag} {mg : MG} {F H : Hp}
theorem Reps.atI {ds : List D} {vs : List V} {i : Int} {d : D} (r : Reps K mg F ds vs) (h : L2.atI ds i = some d) : ∃ v, L2.atI vs i = some v ∧ Rep K mg F d v := by
  unfold L2.atI at h ⊢
  rw [r.length]
  cases e : ixN ds.length i with
  | none => rw [e] at h; cases h
  | some j => rw [e] at h; exact r.get h
theorem someD_of {o : Option D} {Q : D → Prop} (h : someD o Q) : ∃ d, o = some d ∧ Q d := by
  cases o with
  | none => exact h.elim
  | some d => exact ⟨d, rfl, h⟩
end
section
variable {K : PySem.W.Frag} {mg : MG} {F H : Hp} {n : Nat} {P : AP} {v : V}
theorem ROs.reps0 {P : AP} : ∀ {ds : List D} {vs : List V}, ROs (RepO K mg F H 0) P ds vs → Reps K mg F ds vs := fun h => ROs.reps (fun _ _ _ _ r => r) h
theorem sh_lst {ds : List D} (hn : n ≤ 1) (e : Same F H) (r : RepO K mg F H n P (.lst ds) v) : ∃ a vs, v = .ref a ∧ Rd H a (.lst vs) ∧ Reps K mg F ds vs := by
  match n, hn, r with
  | 0, _, ⟨a, vs, h1, h2, h3⟩ => exact ⟨a, vs, h1, rd_mono e h2, h3⟩
  | 1, _, ⟨a, vs, P', h1, h2, _, _, _, h6⟩ => exact ⟨a, vs, h1, .inl h2, h6.reps0⟩
theorem sh_dK {ds : List (Key × D)} (hn : n ≤ 1) (e : Same F H) (r : RepO K mg F H n P (.dK ds) v) : ∃ a vs, v = .ref a ∧ Rd H a (.dK vs) ∧ RepK K mg F ds vs := by
  match n, hn, r with
  | 0, _, ⟨a, vs, h1, h2, h3⟩ => exact ⟨a, vs, h1, rd_mono e h2, h3⟩
  | 1, _, ⟨a, vs, P', h1, h2, _, _, _, h6, h7⟩ => exact ⟨a, vs, h1, .inl h2, RepK.of h6 h7.reps0⟩
theorem sh_dT {ds : List (List Key × D)} (hn : n ≤ 1) (e : Same F H) (r : RepO K mg F H n P (.dT ds) v) : ∃ a vs, v = .ref a ∧ Rd H a (.dT vs) ∧ RepT K mg F ds vs := by
  match n, hn, r with
  | 0, _, ⟨a, vs, h1, h2, h3⟩ => exact ⟨a, vs, h1, rd_mono e h2, h3⟩
  | 1, _, ⟨a, vs, P', h1, h2, _, _, _, h6, h7⟩ => exact ⟨a, vs, h1, .inl h2, RepT.of h6 h7.reps0⟩
theorem sh_obj {c : Str} {ds : List (Str × D)} (hn : n ≤ 1) (e : Same F H) (r : RepO K mg F H n P (.obj c ds) v) : ∃ a C dx vs, v = .ref a ∧ H a = some (.ins C dx vs) ∧ mg c = some (.ref C) ∧ RepF K mg F ds vs := by
  match n, hn, r with
  | 0, _, ⟨a, C, dx, vs, h1, h2, h3, h4, h5⟩ => exact ⟨a, C, dx, vs, h1, e _ _ h2, h4, h5⟩
  | 1, _, ⟨a, C, dx, vs, P', h1, h2, _, hm, _, _, _, _, _, h6, h7⟩ => exact ⟨a, C, dx, vs, h1, h2, hm, RepF.of h6 h7.reps0⟩
theorem sh_tup {ds : List D} (r : RepO K mg F H n P (.tup ds) v) : Rep K mg F (.tup ds) v := by cases n <;> exact r
theorem sh_ktu {ds : List D} (r : RepO K mg F H n P (.ktu ds) v) : Rep K mg F (.ktu ds) v := by cases n <;> exact r
theorem sh_str {s : Str} (r : RepO K mg F H n P (.str s) v) : v = .str s := by cases n <;> exact r
end
theorem okIxO {K : PySem.W.Frag} {mg : MG} {F H : Hp} {x y : D} {v w : V} {n : Nat} {P : AP} {Q : Qn} {Qh : VK} (hn : n ≤ 1) (e : Same F H) (r1 : RepO K mg F H n P x v) (r2 : Rep K mg F y w) (h : odIx x y Q) (k : ∀ z u, Rep K mg F z u → Q z 0 → Qh u H) : rIxA K v w H Qh := by
  cases x with
  | lst ds =>
    cases y <;> first | exact (show False from h).elim | skip
    cases (show w = _ from r2)
    obtain ⟨a, vs, rfl, h1, h2⟩ := sh_lst hn e r1
    obtain ⟨d, hd, q⟩ := someD_of h
    rw [getI_eq] at hd
    obtain ⟨u, hu, ru⟩ := h2.atI hd
    exact .inl (.inl ⟨a, vs, _, u, rfl, rfl, .inl h1, hu, k d u ru q⟩)
  | tup ds =>
    cases y <;> first | exact (show False from h).elim | skip
    cases (show w = _ from r2)
    obtain ⟨a, vs, rfl, h1, h2⟩ := sh_tup r1
    obtain ⟨d, hd, q⟩ := someD_of h
    rw [getI_eq] at hd
    obtain ⟨u, hu, ru⟩ := h2.atI hd
    exact .inl (.inr (.inl ⟨a, vs, _, u, rfl, rfl, .inl (.inl (e _ _ h1)), hu, k d u ru q⟩))
  | ktu ds =>
    cases y <;> first | exact (show False from h).elim | skip
    cases (show w = _ from r2)
    obtain ⟨a, vs, rfl, h1, h2⟩ := sh_ktu r1
    obtain ⟨d, hd, q⟩ := someD_of h
    rw [getI_eq] at hd
    obtain ⟨u, hu, ru⟩ := h2.atI hd
    exact .inl (.inr (.inl ⟨a, vs, _, u, rfl, rfl, sqt_mono e h1, hu, k d u ru q⟩))
  | str s =>
    cases y <;> first | exact (show False from h).elim | skip
    cases (show w = _ from r2)
    cases (sh_str r1)
    obtain ⟨hl, h⟩ := h
    rename_i i
    rw [getI_eq] at h
    cases ec : L2.atI s.cps.toList i with
    | none => rw [ec] at h; exact h.elim
    | some c =>
      rw [ec] at h
      exact .inl (.inr (.inr ⟨s, i, c, rfl, rfl, hl, ec, k (.str _) _ rfl h⟩))
  | dK kvs =>
    obtain ⟨a, vs, rfl, h1, h2⟩ := sh_dK hn e r1
    have h : (match keyD y with | some k => someD (lookD kvs k) fun d => Q d 0 | none => False) := by cases y <;> exact h
    cases ek : keyD y with
    | none => rw [ek] at h; exact h.elim
    | some key =>
      rw [ek] at h
      obtain ⟨d, hd, q⟩ := someD_of h
      have l := RepK.look key h2
      rw [hd] at l
      obtain ⟨u, hu, ru⟩ := l
      have ew := keyD_v ek r2
      exact .inr ⟨a, u, rfl, .inl ⟨vs, key, h1, ew, hu.symm⟩, k d u ru q⟩
  | dT kvs =>
    cases y <;> first | exact (show False from h).elim | skip
    rename_i ks
    obtain ⟨a, vs, rfl, h1, h2⟩ := sh_dT hn e r1
    obtain ⟨b, ws, rfl, g1, g2⟩ := r2
    have h : (match keysD ks with | some k => someD (lookD kvs k) fun d => Q d 0 | none => False) := h
    cases ek : keysD ks with
    | none => rw [ek] at h; exact h.elim
    | some key =>
      rw [ek] at h
      obtain ⟨d, hd, q⟩ := someD_of h
      have l := RepT.look key h2
      rw [hd] at l
      obtain ⟨u, hu, ru⟩ := l
      have ew := keysD_v ek g2
      subst ew
      exact .inr ⟨a, u, rfl, .inr ⟨vs, key, b, h1, rfl, e _ _ g1, hu.symm⟩, k d u ru q⟩
  | _ => exact (show False from h).elim
theorem okIx {X : Cx} : Ok2 X (rIxA X.K) odIx := fun F H x y v w Q Qh e r1 r2 h k => okIxO (n := 0) (P := P0) (by decide) e r1 r2 h k.old
section
variable {X : Cx} {a b : Expr} {ta tb : ET} {pa pb : PUT} {pos : Pos}
theorem de_ix (hu : X.A.units + 1 < cLine) (ha : DE X a ta) (hb : DE X b tb) (hs : PlainIx b := by exact fun _ _ => rfl) : DE X (.Subscript a b pos) (tO2 odIx ta tb) := de_bin (fun _ _ x y => pe_ix (ix_any hu) x y hs) okIx ha hb
theorem pu_ix (hu : X.A.units + 1 < cLine) (ha : PU X a pa) (hb : PU X b pb) (hs : PlainIx b := by exact fun _ _ => rfl) : PU X (.Subscript a b pos) (tP2 odIx pa pb) := pu_bin (fun _ _ x y => pe_ix (ix_any hu) x y hs) okIx ha hb
/-- x[e], x a local: its data as they stand behind e; what is handed out stays -/
def eIxV (i : Nat) (tb : ET) : ET := fun env Q R => tb env (fun y _ env1 => match gt env1 i with
  | some b => odIx b.d y fun z _ => Q z 0 (env1.set i (some { b with n := min b.n 1 }))
  | none => False) R
end
/-- slot i's container alone stays owned, what is in it does not -/
theorem At.shallow {K : PySem.W.Frag} {mg : MG} {io : Nat → Option V} {env : DEnv} {σ : L2.St} {F F1 H H1 : Hp} {O O1 : OW} (A : At K mg io F O H env σ F1 O1 H1) {i : Nat} {b : Bd} (hb : env[i]? = some (some b)) :
    ∃ F2 O2, At K mg io F O H (env.set i (some { b with n := min b.n 1 })) σ F2 O2 H1 ∧ Same F1 F2 := by
  cases hn : b.n with
  | zero =>
    refine ⟨F1, O1, ⟨A.mv, A.si.sub, A.si.own, fun j c hc => ?_, by rw [List.length_set]; exact A.si.len, A.si.tab⟩, Same.refl _⟩
    rcases getElem?_set_some hc with ⟨rfl, e, _⟩ | ⟨_, hc⟩
    · cases e
      obtain ⟨v, g1, g2, g3⟩ := A.si.slot i b hb
      rw [hn] at g2
      exact ⟨v, g1, g2, g3⟩
    · exact A.si.slot j c hc
  | succ n =>
    obtain ⟨v, g1, g2, g3⟩ := A.si.slot i b hb
    rw [hn] at g2
    obtain ⟨T, hT, one⟩ := g2.one
    let P : AP := fun a => O1 a = some i ∧ ¬ T a
    have sm : Same F1 (laid F1 P H1) := laid_same fun a o e _ => A.si.sub a o e
    classical
    refine ⟨laid F1 P H1, fun a => if P a then none else O1 a, ⟨⟨A.mv.ff.trans sm, A.mv.fr, fun a o e => ?_, fun a j e => ?_, A.mv.tb⟩, ⟨fun a o e => ?_, fun a j e => ?_, fun j c hc => ?_, by rw [List.length_set]; exact A.si.len, A.si.tab.lay fun a p ps z => by
      obtain ⟨_, o, y1, y2⟩ := A.si.own a i p.1
      rw [z] at y1; cases y1; cases y2⟩⟩, sm⟩
    · by_cases p : P a
      · exact .inr ((A.mv.on a i p.1).imp id .inl)
      · rw [laid_out p] at e; exact A.mv.fn a o e
    · by_cases p : P a
      · rw [if_pos p] at e; cases e
      · rw [if_neg p] at e; exact A.mv.on a j e
    · by_cases p : P a
      · rw [laid_in p] at e; exact e
      · rw [laid_out p] at e; exact A.si.sub a o e
    · by_cases p : P a
      · rw [if_pos p] at e; cases e
      · rw [if_neg p] at e
        rw [laid_out p]
        exact A.si.own a j e
    · rcases getElem?_set_some hc with ⟨rfl, e, _⟩ | ⟨ne, hc⟩
      · cases e
        refine ⟨v, g1, ?_, g3⟩
        have h1 : min (n + 1) 1 = 1 := by omega
        show RepO K mg (laid F1 P H1) H1 (min (n + 1) 1) _ b.d v
        rw [h1]
        refine (one (laid F1 P H1) sm fun a o p t e => by rw [laid_in ⟨p, t⟩]; exact e).mono (fun _ _ x => x) (fun _ _ _ x => x) fun a t => ?_
        show (if P a then none else O1 a) = some i
        rw [if_neg fun p : P a => p.2 t]
        exact hT a t
      · obtain ⟨w, q1, q2, q3⟩ := A.si.slot j c hc
        refine ⟨w, q1, q2.mono sm (fun _ _ _ x => x) (fun a x => ?_), q3⟩
        show (if P a then none else O1 a) = some j
        rw [if_neg fun p : P a => ne (by have := p.1; rw [x] at this; exact (Option.some.inj this).symm)]
        exact x
theorem de_ixv {X : Cx} {b : Expr} {tb : ET} {pos : Pos} (i : Nat) {x : Str} {pos' : Pos} (hu : X.A.units + 1 < cLine) (hb : DE X b tb) (hs : PlainIx b := by exact fun _ _ => rfl) (hN : X.N[i]? = some x := by rfl)
    (hv : Vis X.env.scope x := by first | exact Or.inl rfl | exact Or.inr (Or.inl rfl) | exact Or.inr (Or.inr rfl)) (hd : (x == ("__debug__" : Str)) = false := by decide) (hcd : (x == ("__classdict__" : Str)) = false := by decide) :
    DE X (.Subscript (.Name x pos') b pos) (fun env Q R => match gt env i with | some _ => eIxV i tb env Q R | none => False) := by
  intro W tk
  refine peI (pe_ix (ix_any hu) (pe_var hN hv hd hcd) (hb W tk) hs) ?_
  rintro σ H Qh ⟨io, env, F, O, Q, R, I, h, kQ, kX⟩
  cases e0 : gt env i with
  | none => rw [e0] at h; exact h.elim
  | some b0 =>
    rw [e0] at h
    obtain ⟨v, h1, _, _⟩ := I.slot i b0 (gt_some e0)
    refine ⟨v, h1, io, env, F, O, _, R, I, h, ?_, kX⟩
    intro y m env2 F2 O2 H2 w P2 A2 T2 r2 h2
    have A2' := A2.frz T2
    have ry := A2.frz_rep r2
    cases e : gt env2 i with
    | none => rw [e] at h2; exact h2.elim
    | some c =>
      rw [e] at h2
      have h2 : odIx c.d y fun z _ => Q z 0 (env2.set i (some { c with n := min c.n 1 })) := h2
      obtain ⟨v', g1, g2, _⟩ := A2'.si.slot i c (gt_some e)
      have ev : v' = v := by rw [h1] at g1; exact (Option.some.inj (Option.some.inj g1)).symm
      subst ev
      obtain ⟨F3, O3, A3, sm⟩ := A2'.shallow (gt_some e)
      obtain ⟨vv, s1, s2, _⟩ := A3.si.slot i { c with n := min c.n 1 } (by
        have hl : i < env2.length := (List.getElem?_eq_some_iff.mp (gt_some e)).1
        rw [List.getElem?_set_self hl])
      have evv : vv = v' := by rw [h1] at s1; exact (Option.some.inj (Option.some.inj s1)).symm
      subst evv
      exact okIxO (n := min c.n 1) (by omega) A3.si.sub s2 (Rep.mono sm ry) h2 fun z u r q => kQ z 0 _ F3 O3 H2 u P0 A3 Tp.none r q
end DL
set_option Elab.async false
set_option linter.all false
set_option maxRecDepth 100000
/-! DLi: the data layer, part i: in, len, slices, int, list, tuple, max, min; stores into lists and dicts; append. -/
namespace DL
open PySem L2 PySem.Spec PyProof.Rows
variable [Tbs]

/-! ### in -/
def eqF : D → D → Bool
  | .non, .non => true
  | .bl a, .bl b => a == b
  | .bl a, .int b => (if a then 1 else 0) == b
  | .int a, .bl b => a == (if b then 1 else 0)
  | .int a, .int b => a == b
  | .str a, .str b => a == b
  | _, _ => false
def inF (x : D) (ds : List D) : Bool := ds.any fun y => eqF y x
def inSeq (f : Bool → Bool) (x : D) (ds : List D) (Q : Qn) : Prop := x.leaf = true ∧ ds.all D.leaf = true ∧ Q (.bl (f (inF x ds))) 0
def inW (f : Bool → Bool) : OT2
  | x, .lst ds, Q => inSeq f x ds Q
  | x, .tup ds, Q => inSeq f x ds Q
  | x, .ktu ds, Q => inSeq f x ds Q
  | .str s, .str z, Q => match s.cps with
    | ⟨[c]⟩ => Q (.bl (f (decide (c ∈ z.cps.toList)))) 0
    | _ => Q (.bl (f (!(Builtin.Str.occurrences z s 0 z.length 1).isEmpty))) 0
  | x, .dK kvs, Q => match keyD x with | some k => Q (.bl (f (lookD kvs k).isSome)) 0 | none => False
  | .tup ks, .dT kvs, Q => match keysD ks with | some k => Q (.bl (f (lookD kvs k).isSome)) 0 | none => False
  | _, _, _ => False
abbrev odIn : OT2 := inW fun b => b
abbrev odNotIn : OT2 := inW fun b => !b
theorem flat_leaf {K : PySem.W.Frag} {mg : MG} {F : Hp} {d : D} {v : V} (h : d.leaf = true) (r : Rep K mg F d v) : flatV v = true := by
  cases d <;> first | (cases (show v = _ from r); rfl) | cases h
theorem flat_all {K : PySem.W.Frag} {mg : MG} {F : Hp} : ∀ {ds : List D} {vs : List V}, ds.all D.leaf = true → Reps K mg F ds vs → vs.all flatV = true
  | [], _, _, h => by cases (show _ = ([] : List V) from h); rfl
  | d :: ds, _, hl, ⟨v, r, h1, h2, h3⟩ => by
    subst h1
    have hl' : d.leaf = true ∧ ds.all D.leaf = true := by simpa using hl
    rw [List.all_cons, flat_leaf hl'.1 h2, flat_all hl'.2 h3]
    rfl
theorem eqF_v {K : PySem.W.Frag} {mg : MG} {F : Hp} {d e : D} {v w : V} (hd : d.leaf = true) (he : e.leaf = true) (r : Rep K mg F d v) (q : Rep K mg F e w) : eqV v w = eqF d e := by
  cases leaf_v hd r
  cases leaf_v he q
  cases d <;> first | cases hd; done | (cases e <;> first | cases he; done | rfl)
theorem inF_v {K : PySem.W.Frag} {mg : MG} {F : Hp} {x : D} {v : V} (hx : x.leaf = true) (r : Rep K mg F x v) : ∀ {ds : List D} {vs : List V}, ds.all D.leaf = true → Reps K mg F ds vs → inV v vs = inF x ds
  | [], _, _, h => by cases (show _ = ([] : List V) from h); rfl
  | d :: ds, _, hl, ⟨w, t, h1, h2, h3⟩ => by
    subst h1
    have hl' : d.leaf = true ∧ ds.all D.leaf = true := by simpa using hl
    have ih := inF_v hx r hl'.2 h3
    unfold inV inF at ih ⊢
    rw [List.any_cons, List.any_cons, ih, eqF_v hl'.1 hx h2 r]
def rInA (K : PySem.W.Frag) : R2 := fun x y H Q => rIn K false x y H Q ∨ (∃ (c : Nat) (z : Str), x = .str ⟨#[c]⟩ ∧ y = .str z ∧ Q (.bl (decide (c ∈ z.cps.toList))) H) ∨
  (∃ i j, x = .str i ∧ y = .str j ∧ Q (.bl (!(Builtin.Str.occurrences j i 0 j.length 1).isEmpty)) H) ∨ ∃ a o, y = .ref a ∧ DGet H a x o ∧ Q (.bl o.isSome) H
def rNotInA (K : PySem.W.Frag) : R2 := fun x y H Q => rIn K true x y H Q ∨ (∃ (c : Nat) (z : Str), x = .str ⟨#[c]⟩ ∧ y = .str z ∧ Q (.bl (!decide (c ∈ z.cps.toList))) H) ∨
  (∃ i j, x = .str i ∧ y = .str j ∧ Q (.bl (!(!(Builtin.Str.occurrences j i 0 j.length 1).isEmpty))) H) ∨ ∃ a o, y = .ref a ∧ DGet H a x o ∧ Q (.bl (!o.isSome)) H
section
variable {X : Cx}
theorem op_inA (hu : X.A.units + 1 < cLine) : OpR X (compareOp .In) (rInA X.K) := op_in_seq.or (op_in_sign.or (op_in_str.or (fun pins s σ H x y v u Q I rx ry ⟨a, o, e, g, q⟩ => by
  subst e
  cases ry
  exact d_in hu I g rx fun s3 I3 => ⟨.bl o.isSome, H, I3, rfl, q⟩)))
theorem op_notInA (hu : X.A.units + 1 < cLine) : OpR X (compareOp .NotIn) (rNotInA X.K) := op_notIn_seq.or (op_notIn_sign.or (op_notin_str.or (fun pins s σ H x y v u Q I rx ry ⟨a, o, e, g, q⟩ => by
  subst e
  cases ry
  exact d_notIn hu I g rx fun s3 I3 => ⟨.bl (!o.isSome), H, I3, rfl, q⟩)))
theorem okInW {f : Bool → Bool} {r : R2} (h1 : ∀ {v w H Q}, (∃ p xs, w = .ref p ∧ (SqL X.K H p xs ∨ SqT X.K H p xs) ∧ flatV v = true ∧ xs.all flatV = true ∧ Q (.bl (f (inV v xs))) H) → r v w H Q)
    (h2 : ∀ {c : Nat} {z : Str} {H Q}, Q (.bl (f (decide (c ∈ z.cps.toList)))) H → r (.str ⟨#[c]⟩) (.str z) H Q) (h3 : ∀ {i j H Q}, Q (.bl (f (!(Builtin.Str.occurrences j i 0 j.length 1).isEmpty))) H → r (.str i) (.str j) H Q)
    (h4 : ∀ {x a o H Q}, DGet H a x o → Q (.bl (f o.isSome)) H → r x (.ref a) H Q) : Ok2 X r (inW f) := by
  intro F H x y v w Q Qh e r1 r2 h k
  have sq : ∀ {ds : List D} {vs : List V} {a : Addr}, Reps X.K X.mg F ds vs → (SqL X.K H a vs ∨ SqT X.K H a vs) → inSeq f x ds Q → r v (.ref a) H Qh := fun {ds vs a} rs hs ⟨l1, l2, q⟩ =>
    h1 ⟨a, vs, rfl, hs, flat_leaf l1 r1, flat_all l2 rs, by rw [inF_v l1 r1 l2 rs]; exact k.old (.bl _) _ rfl q⟩
  cases y with
  | lst ds =>
    obtain ⟨a, vs, rfl, g1, g2⟩ := r2
    exact sq g2 (.inl (.inl (rd_mono e g1))) (by cases x <;> exact h)
  | tup ds =>
    obtain ⟨a, vs, rfl, g1, g2⟩ := r2
    exact sq g2 (.inr (.inl (.inl (e _ _ g1)))) (by cases x <;> exact h)
  | ktu ds =>
    obtain ⟨a, vs, rfl, g1, g2⟩ := r2
    exact sq g2 (.inr (sqt_mono e g1)) (by cases x <;> exact h)
  | dK kvs =>
    obtain ⟨a, vs, rfl, g1, g2⟩ := r2
    have h : (match keyD x with | some k => Q (.bl (f (lookD kvs k).isSome)) 0 | none => False) := by cases x <;> exact h
    cases ek : keyD x with
    | none => rw [ek] at h; exact h.elim
    | some key =>
      rw [ek] at h
      have ev := keyD_v ek r1
      have l := RepK.look key g2
      have eo : (lookD kvs key).isSome = (valV vs key).isSome := by
        cases eq : lookD kvs key with
        | none => rw [eq] at l; rw [l]; rfl
        | some d => rw [eq] at l; obtain ⟨u, hu, _⟩ := l; rw [hu]; rfl
      have h : Q (.bl (f (lookD kvs key).isSome)) 0 := h
      rw [eo] at h
      exact h4 (o := valV vs key) (.inl ⟨vs, key, rd_mono e g1, ev, rfl⟩) (k.old (.bl _) _ rfl h)
  | dT kvs =>
    cases x <;> first | exact (show False from h).elim | skip
    rename_i ks
    obtain ⟨a, vs, rfl, g1, g2⟩ := r2
    obtain ⟨b, ws, rfl, t1, t2⟩ := r1
    have h : (match keysD ks with | some k => Q (.bl (f (lookD kvs k).isSome)) 0 | none => False) := h
    cases ek : keysD ks with
    | none => rw [ek] at h; exact h.elim
    | some key =>
      rw [ek] at h
      have ev := keysD_v ek t2
      subst ev
      have l := RepT.look key g2
      have eo : (lookD kvs key).isSome = (valV vs key).isSome := by
        cases eq : lookD kvs key with
        | none => rw [eq] at l; rw [l]; rfl
        | some d => rw [eq] at l; obtain ⟨u, hu, _⟩ := l; rw [hu]; rfl
      have h : Q (.bl (f (lookD kvs key).isSome)) 0 := h
      rw [eo] at h
      exact h4 (o := valV vs key) (.inr ⟨vs, key, b, rd_mono e g1, rfl, e _ _ t1, rfl⟩) (k.old (.bl _) _ rfl h)
  | str z =>
    cases x <;> first | exact (show False from h).elim | skip
    rename_i s
    cases (show v = _ from r1)
    cases (show w = _ from r2)
    obtain ⟨⟨l⟩⟩ := s
    match l, h with
    | [], h => exact h3 (k.old (.bl _) _ rfl h)
    | [c], h => exact h2 (k.old (.bl _) _ rfl h)
    | c :: c' :: l, h => exact h3 (k.old (.bl _) _ rfl h)
  | _ => cases x <;> exact (show False from h).elim
theorem okIn : Ok2 X (rInA X.K) odIn := okInW (fun h => .inl h) (fun q => .inr (.inl ⟨_, _, rfl, rfl, q⟩)) (fun q => .inr (.inr (.inl ⟨_, _, rfl, rfl, q⟩))) (fun g q => .inr (.inr (.inr ⟨_, _, rfl, g, q⟩)))
theorem okNotIn : Ok2 X (rNotInA X.K) odNotIn := okInW (fun h => .inl h) (fun q => .inr (.inl ⟨_, _, rfl, rfl, q⟩)) (fun q => .inr (.inr (.inl ⟨_, _, rfl, rfl, q⟩))) (fun g q => .inr (.inr (.inr ⟨_, _, rfl, g, q⟩)))
end
/-! ### len, int, max, min -/
def odLen : OTN
  | [.lst ds], Q => Q (.int ds.length) 0
  | [.tup ds], Q => Q (.int ds.length) 0
  | [.ktu ds], Q => Q (.int ds.length) 0
  | [.str s], Q => s.length ≤ sizeLine ∧ Q (.int s.length) 0
  | [.dK ds], Q => Q (.int ds.length) 0
  | _, _ => False
def rLenA (K : PySem.W.Frag) : List V → Hp → VK → Prop := fun xs H Q => (∃ x n, xs = [x] ∧ LenV K x H n ∧ Q (.int n) H) ∨ ∃ a kvs, xs = [V.ref a] ∧ Rd H a (.dK kvs) ∧ Q (.int kvs.length) H
section
variable {X : Cx}
theorem call_lenA : CallR X (.builtin "len") (rLenA X.K) := call_len.or (fun pins s σ H xs us Q I r h => by
  obtain ⟨a, kvs, rfl, ha, q⟩ := h
  obtain ⟨u, rfl, ru⟩ := vals1 r
  cases ru
  exact d_len I ha fun t s' I' => ⟨.int kvs.length, H, I', ⟨t, rfl⟩, q⟩)
theorem okLen : OkN X (rLenA X.K) odLen := by
  intro F H xs vs Q Qh e r h k
  match xs, h, r with
  | [], h, _ => exact (show False from h).elim
  | [x], h, r =>
    obtain ⟨v, _, rfl, r1, rfl⟩ := r
    cases x with
    | lst ds =>
      obtain ⟨a, ws, rfl, g1, g2⟩ := r1
      exact .inl ⟨_, ds.length, rfl, .inl ⟨ws, .inl (rd_mono e g1), g2.length.symm⟩, k.old (.int _) _ rfl h⟩
    | tup ds =>
      obtain ⟨a, ws, rfl, g1, g2⟩ := r1
      exact .inl ⟨_, ds.length, rfl, .inr ⟨ws, .inl (.inl (e _ _ g1)), g2.length.symm⟩, k.old (.int _) _ rfl h⟩
    | ktu ds =>
      obtain ⟨a, ws, rfl, g1, g2⟩ := r1
      exact .inl ⟨_, ds.length, rfl, .inr ⟨ws, sqt_mono e g1, g2.length.symm⟩, k.old (.int _) _ rfl h⟩
    | str s =>
      cases (show v = _ from r1)
      exact .inl ⟨_, s.length, rfl, ⟨h.1, rfl⟩, k.old (.int _) _ rfl h.2⟩
    | dK ds =>
      obtain ⟨a, ws, rfl, g1, g2⟩ := r1
      have el : ws.length = ds.length := by have := congrArg List.length (RepK.keys g2).1; simpa using this.symm
      exact .inr ⟨a, ws, rfl, rd_mono e g1, by rw [el]; exact k.old (.int _) _ rfl h⟩
    | _ => exact (show False from h).elim
  | x :: y :: l, h, _ => cases x <;> exact (show False from h).elim
def odInt : OTN
  | [.int i], Q => Q (.int i) 0
  | [.bl b], Q => Q (.int (if b then 1 else 0)) 0
  | _, _ => False
theorem okInt : OkN X (fun xs H Q => (∃ i, xs = [.int i] ∧ Q (.int i) H) ∨ ∃ k, xs = [.bl k] ∧ Q (.int (if k then 1 else 0)) H) odInt := by
  intro F H xs vs Q Qh e r h k
  match xs, h, r with
  | [], h, _ => exact (show False from h).elim
  | [x], h, r =>
    obtain ⟨v, _, rfl, r1, rfl⟩ := r
    cases x <;> first | exact (show False from h).elim | skip
    · cases (show v = _ from r1); exact .inr ⟨_, rfl, k.old (.int _) _ rfl h⟩
    · cases (show v = _ from r1); exact .inl ⟨_, rfl, k.old (.int _) _ rfl h⟩
  | x :: y :: l, h, _ => cases x <;> exact (show False from h).elim
def odMax2 : OTN
  | [.int i, .int j], Q => Q (.int (if j > i then j else i)) 0
  | _, _ => False
def odMin2 : OTN
  | [.int i, .int j], Q => Q (.int (if j < i then j else i)) 0
  | _, _ => False
theorem ok_int2 {g : Int → Int → Int} {od : OTN} (hf : ∀ xs Q, od xs Q → ∃ i j, xs = [.int i, .int j] ∧ Q (.int (g i j)) 0) : OkN X (fun xs H Q => ∃ i j, xs = [.int i, .int j] ∧ Q (.int (g i j)) H) od := by
  intro F H xs vs Q Qh e r h k
  obtain ⟨i, j, rfl, q⟩ := hf _ _ h
  obtain ⟨v, _, rfl, r1, w, _, rfl, r2, rfl⟩ := r
  cases (show v = _ from r1); cases (show w = _ from r2)
  exact ⟨i, j, rfl, k.old (.int _) _ rfl q⟩
theorem okMax2 : OkN X (fun xs H Q => ∃ i j, xs = [.int i, .int j] ∧ Q (.int (if j > i then j else i)) H) odMax2 := ok_int2 fun xs Q h => by
  match xs, h with
  | [.int i, .int j], h => exact ⟨i, j, rfl, h⟩
theorem okMin2 : OkN X (fun xs H Q => ∃ i j, xs = [.int i, .int j] ∧ Q (.int (if j < i then j else i)) H) odMin2 := ok_int2 fun xs Q h => by
  match xs, h with
  | [.int i, .int j], h => exact ⟨i, j, rfl, h⟩
/-! list(x), tuple(x) of lists and tuples, list of a dict -/
def odList : OTN
  | [.lst ds], Q => Q (.lst ds) 1
  | [.tup ds], Q => Q (.lst ds) 1
  | [.ktu ds], Q => Q (.lst ds) 1
  | [.dK kvs], Q => Q (.lst (kvs.map fun kv => match kv.1 with | .inl i => .int i | .inr s => .str s)) 1
  | _, _ => False
def odTuple : OTN
  | [.lst ds], Q => Q (.tup ds) 0
  | [.tup ds], Q => Q (.tup ds) 0
  | [.ktu ds], Q => Q (.ktu ds) 0
  | _, _ => False
def kD : Key → D
  | .inl i => .int i
  | .inr s => .str s
def rListA (K : PySem.W.Frag) : List V → Hp → VK → Prop := fun xs H Q => (∃ p ys, xs = [.ref p] ∧ (SqL K H p ys ∨ SqT K H p ys) ∧ ∀ l, H l = none → Q (.ref l) (upd H l (.lst ys))) ∨
  ∃ (a : Addr) (kvs : List (Key × V)), xs = [.ref a] ∧ Rd H a (.dK kvs) ∧ ∀ p, H p = none → Q (.ref p) (upd H p (.lst (kvs.map fun kv => kV kv.1)))
theorem call_listA (hc : X.calm = true) : CallR X (.type "list") (rListA X.K) := call_list_of.or (call_listD hc)
theorem reps_keys {K : PySem.W.Frag} {mg : MG} {F : Hp} : ∀ {kvs : List (Key × D)} {vs : List (Key × V)}, RepK K mg F kvs vs → Reps K mg F (kvs.map fun kv => match kv.1 with | .inl i => .int i | .inr s => .str s) (vs.map fun kv => kV kv.1)
  | [], _, h => by cases (show _ = ([] : List (Key × V)) from h); rfl
  | (.inl i, d) :: r, _, ⟨v, t, h1, h2, h3⟩ => by subst h1; exact ⟨_, _, rfl, rfl, reps_keys h3⟩
  | (.inr i, d) :: r, _, ⟨v, t, h1, h2, h3⟩ => by subst h1; exact ⟨_, _, rfl, rfl, reps_keys h3⟩
theorem okList : OkN X (rListA X.K) odList := by
  intro F H xs vs Q Qh e r h k
  match xs, h, r with
  | [], h, _ => exact (show False from h).elim
  | [x], h, r =>
    obtain ⟨v, _, rfl, r1, rfl⟩ := r
    cases x with
    | lst ds =>
      obtain ⟨a, ws, rfl, g1, g2⟩ := r1
      exact .inl ⟨a, ws, rfl, .inl (.inl (rd_mono e g1)), fun l hl => k.new (.lst _) (.lst _) l hl g2 h⟩
    | tup ds =>
      obtain ⟨a, ws, rfl, g1, g2⟩ := r1
      exact .inl ⟨a, ws, rfl, .inr (.inl (.inl (e _ _ g1))), fun l hl => k.new (.lst _) (.lst _) l hl g2 h⟩
    | ktu ds =>
      obtain ⟨a, ws, rfl, g1, g2⟩ := r1
      exact .inl ⟨a, ws, rfl, .inr (sqt_mono e g1), fun l hl => k.new (.lst _) (.lst _) l hl g2 h⟩
    | dK ds =>
      obtain ⟨a, ws, rfl, g1, g2⟩ := r1
      exact .inr ⟨a, ws, rfl, rd_mono e g1, fun l hl => k.new (.lst _) (.lst _) l hl (reps_keys g2) h⟩
    | _ => exact (show False from h).elim
  | x :: y :: l, h, _ => cases x <;> exact (show False from h).elim
theorem okTuple : OkN X (fun xs H Q => ∃ p ys, xs = [.ref p] ∧ ((SqL X.K H p ys ∧ ∀ l, H l = none → Q (.ref l) (upd H l (.tup ys))) ∨ (SqT X.K H p ys ∧ Q (.ref p) H))) odTuple := by
  intro F H xs vs Q Qh e r h k
  match xs, h, r with
  | [], h, _ => exact (show False from h).elim
  | [x], h, r =>
    obtain ⟨v, _, rfl, r1, rfl⟩ := r
    cases x with
    | lst ds =>
      obtain ⟨a, ws, rfl, g1, g2⟩ := r1
      exact ⟨a, ws, rfl, .inl ⟨.inl (rd_mono e g1), fun l hl => k.tup _ _ l hl g2 h⟩⟩
    | tup ds =>
      obtain ⟨a, ws, rfl, g1, g2⟩ := r1
      exact ⟨a, ws, rfl, .inr ⟨.inl (.inl (e _ _ g1)), k.old (.tup ds) _ ⟨a, ws, rfl, g1, g2⟩ h⟩⟩
    | ktu ds =>
      obtain ⟨a, ws, rfl, g1, g2⟩ := r1
      exact ⟨a, ws, rfl, .inr ⟨sqt_mono e g1, k.old (.ktu ds) _ ⟨a, ws, rfl, g1, g2⟩ h⟩⟩
    | _ => exact (show False from h).elim
  | x :: y :: l, h, _ => cases x <;> exact (show False from h).elim
end
/-! calls of built-ins by name -/
section
variable {X : Cx} {e : Expr} {es : List Expr} {t : AT} {pt : PAT} {r : List V → Hp → VK → Prop} {od : OTN} {id T : String} {x : Str} {p pos : Pos}
theorem de_blt (hc : CallR X (.builtin id) r) (k : OkN X r od) (hm : X.mg x = none) (hv : bootBuiltins x = some (.builtin id)) (ha : DA X (e :: es) t) (hg : Gl X x := by rfl) (hn : x ≠ "__name__" := by decide) (hdb : (x == ("__debug__" : Str)) = false := by decide)
    (he : starEach (e :: es) X.env = (false, eval e X.env) :: starEach es X.env := by rfl) (hpl : (backTo pos (starEach es X.env)).any (·.1) = false := by rfl) : DE X (.Call (.Name x p) (e :: es) [] pos) (tON od t) :=
  de_nary (fun _ h => pe_callB hc hg hm hv h hn hdb he hpl) k ha
theorem pu_blt (hc : CallR X (.builtin id) r) (k : OkN X r od) (hm : X.mg x = none) (hv : bootBuiltins x = some (.builtin id)) (ha : PUA X (e :: es) pt) (hg : Gl X x := by rfl) (hn : x ≠ "__name__" := by decide) (hdb : (x == ("__debug__" : Str)) = false := by decide)
    (he : starEach (e :: es) X.env = (false, eval e X.env) :: starEach es X.env := by rfl) (hpl : (backTo pos (starEach es X.env)).any (·.1) = false := by rfl) : PU X (.Call (.Name x p) (e :: es) [] pos) (tPN od pt) :=
  pu_nary (fun _ h => pe_callB hc hg hm hv h hn hdb he hpl) k ha
theorem de_ty (hc : CallR X (.type T) r) (k : OkN X r od) (hm : X.mg x = none) (hv : bootBuiltins x = some (.type T)) (ha : DA X (e :: es) t) (hg : Gl X x := by rfl) (hn : x ≠ "__name__" := by decide) (hdb : (x == ("__debug__" : Str)) = false := by decide)
    (he : starEach (e :: es) X.env = (false, eval e X.env) :: starEach es X.env := by rfl) (hpl : (backTo pos (starEach es X.env)).any (·.1) = false := by rfl) : DE X (.Call (.Name x p) (e :: es) [] pos) (tON od t) :=
  de_nary (fun _ h => pe_callTy hc hg hm hv h hn hdb he hpl) k ha
theorem pu_ty (hc : CallR X (.type T) r) (k : OkN X r od) (hm : X.mg x = none) (hv : bootBuiltins x = some (.type T)) (ha : PUA X (e :: es) pt) (hg : Gl X x := by rfl) (hn : x ≠ "__name__" := by decide) (hdb : (x == ("__debug__" : Str)) = false := by decide)
    (he : starEach (e :: es) X.env = (false, eval e X.env) :: starEach es X.env := by rfl) (hpl : (backTo pos (starEach es X.env)).any (·.1) = false := by rfl) : PU X (.Call (.Name x p) (e :: es) [] pos) (tPN od pt) :=
  pu_nary (fun _ h => pe_callTy hc hg hm hv h hn hdb he hpl) k ha
end
end DL
set_option Elab.async false
set_option linter.all false
set_option maxRecDepth 100000
/-! DLj: the data layer, part j: stores at a place. -/
namespace DL
open PySem L2 PySem.Spec PyProof.Rows
variable [Tbs]

inductive Ac where
  | ix (i : Nat)
  | key (k : Key)
  | tky (k : List Key)
  | fld (f : Str)
def ixK {κ : Type} [DecidableEq κ] : List (κ × D) → κ → Option Nat
  | [], _ => none
  | (k0, _) :: r, k => if k0 = k then some 0 else match ixK r k with | some n => some (n + 1) | none => none
def at1 : Ac → D → Option D
  | .ix i, .lst ds => ds[i]?
  | .key k, .dK kvs => lookD kvs k
  | .tky k, .dT kvs => lookD kvs k
  | .fld f, .obj _ fs => lookD fs f
  | _, _ => none
def set1 : Ac → D → D → D
  | .ix i, x, .lst ds => .lst (ds.set i x)
  | .key k, x, .dK kvs => .dK (match ixK kvs k with | some n => kvs.set n (k, x) | none => kvs)
  | .tky k, x, .dT kvs => .dT (match ixK kvs k with | some n => kvs.set n (k, x) | none => kvs)
  | .fld f, x, .obj c fs => .obj c (match ixK fs f with | some n => fs.set n (f, x) | none => fs)
  | _, _, d => d
def getP : List Ac → D → Option D
  | [], d => some d
  | a :: p, d => match at1 a d with | some e => getP p e | none => none
def setP : List Ac → D → D → D
  | [], x, _ => x
  | a :: p, x, d => match at1 a d with | some e => set1 a (setP p x e) d | none => d
/-- the value at a place -/
def nodeV (H : Hp) : List Ac → V → V → Prop
  | [], v, u => u = v
  | .ix i :: p, v, u => ∃ a vs w, v = .ref a ∧ Rd H a (.lst vs) ∧ vs[i]? = some w ∧ nodeV H p w u
  | .key k :: p, v, u => ∃ a vs w, v = .ref a ∧ Rd H a (.dK vs) ∧ valV vs k = some w ∧ nodeV H p w u
  | .tky k :: p, v, u => ∃ a vs w, v = .ref a ∧ Rd H a (.dT vs) ∧ valV vs k = some w ∧ nodeV H p w u
  | .fld f :: p, v, u => ∃ a C dx vs w, v = .ref a ∧ H a = some (.ins C dx vs) ∧ vs.lookup f = some w ∧ nodeV H p w u
theorem rd_inj {H : Hp} {a : Addr} {u u' : HO} (h : Rd H a u) (h' : Rd H a u') (n : ∀ o x, u ≠ .frz o x) (n' : ∀ o x, u' ≠ .frz o x) : u = u' := by
  rcases h with h | ⟨o, h⟩ <;> rcases h' with h' | ⟨o', h'⟩
  · rw [h] at h'; exact Option.some.inj h'
  · rw [h] at h'; exact absurd (Option.some.inj h') (n _ _)
  · rw [h] at h'; exact absurd (Option.some.inj h').symm (n' _ _)
  · rw [h] at h'
    have := Option.some.inj h'
    injection this
theorem nodeV_inj {H : Hp} : ∀ {p : List Ac} {v u u' : V}, nodeV H p v u → nodeV H p v u' → u = u'
  | [], _, _, _, h, h' => h.trans (Eq.symm h')
  | .ix i :: p, v, u, u', ⟨a, vs, w, e1, h1, h2, h3⟩, ⟨a', vs', w', e1', h1', h2', h3'⟩ => by
    subst e1
    cases e1'
    have e := rd_inj h1 h1' (fun _ _ z => nomatch z) (fun _ _ z => nomatch z)
    injection e with e
    subst e
    rw [h2] at h2'
    cases h2'
    exact nodeV_inj h3 h3'
  | .key i :: p, v, u, u', ⟨a, vs, w, e1, h1, h2, h3⟩, ⟨a', vs', w', e1', h1', h2', h3'⟩ => by
    subst e1
    cases e1'
    have e := rd_inj h1 h1' (fun _ _ z => nomatch z) (fun _ _ z => nomatch z)
    injection e with e
    subst e
    rw [h2] at h2'
    cases h2'
    exact nodeV_inj h3 h3'
  | .tky i :: p, v, u, u', ⟨a, vs, w, e1, h1, h2, h3⟩, ⟨a', vs', w', e1', h1', h2', h3'⟩ => by
    subst e1
    cases e1'
    have e := rd_inj h1 h1' (fun _ _ z => nomatch z) (fun _ _ z => nomatch z)
    injection e with e
    subst e
    rw [h2] at h2'
    cases h2'
    exact nodeV_inj h3 h3'
  | .fld i :: p, v, u, u', ⟨a, C, dx, vs, w, e1, h1, h2, h3⟩, ⟨a', C', dx', vs', w', e1', h1', h2', h3'⟩ => by
    subst e1
    cases e1'
    rw [h1] at h1'
    cases h1'
    rw [h2] at h2'
    cases h2'
    exact nodeV_inj h3 h3'
theorem nodeV_mono {H H' : Hp} (e : Same H H') : ∀ {p : List Ac} {v u : V}, nodeV H p v u → nodeV H' p v u
  | [], _, _, h => h
  | .ix i :: p, v, u, ⟨a, vs, w, e1, h1, h2, h3⟩ => ⟨a, vs, w, e1, rd_mono e h1, h2, nodeV_mono e h3⟩
  | .key i :: p, v, u, ⟨a, vs, w, e1, h1, h2, h3⟩ => ⟨a, vs, w, e1, rd_mono e h1, h2, nodeV_mono e h3⟩
  | .tky i :: p, v, u, ⟨a, vs, w, e1, h1, h2, h3⟩ => ⟨a, vs, w, e1, rd_mono e h1, h2, nodeV_mono e h3⟩
  | .fld i :: p, v, u, ⟨a, C, dx, vs, w, e1, h1, h2, h3⟩ => ⟨a, C, dx, vs, w, e1, e _ _ h1, h2, nodeV_mono e h3⟩
theorem nodeV_snoc {H : Hp} : ∀ {p : List Ac} {ac : Ac} {v u w : V}, nodeV H p v u → nodeV H [ac] u w → nodeV H (p ++ [ac]) v w
  | [], _, _, _, _, h, g => by rw [show _ = _ from h] at g; exact g
  | .ix i :: p, ac, v, u, w, ⟨a, vs, z, e1, h1, h2, h3⟩, g => ⟨a, vs, z, e1, h1, h2, nodeV_snoc h3 g⟩
  | .key i :: p, ac, v, u, w, ⟨a, vs, z, e1, h1, h2, h3⟩, g => ⟨a, vs, z, e1, h1, h2, nodeV_snoc h3 g⟩
  | .tky i :: p, ac, v, u, w, ⟨a, vs, z, e1, h1, h2, h3⟩, g => ⟨a, vs, z, e1, h1, h2, nodeV_snoc h3 g⟩
  | .fld i :: p, ac, v, u, w, ⟨a, C, dx, vs, z, e1, h1, h2, h3⟩, g => ⟨a, C, dx, vs, z, e1, h1, h2, nodeV_snoc h3 g⟩
theorem getP_snoc : ∀ {p : List Ac} {ac : Ac} {d e x : D}, getP p d = some e → at1 ac e = some x → getP (p ++ [ac]) d = some x
  | [], ac, d, e, x, h, g => by
    cases h
    show (match at1 ac d with | some e => getP [] e | none => none) = some x
    rw [g]
    rfl
  | b :: p, ac, d, e, x, h, g => by
    show (match at1 b d with | some e => getP (p ++ [ac]) e | none => none) = some x
    have h : (match at1 b d with | some e => getP p e | none => none) = some e := h
    cases q : at1 b d with
    | none => rw [q] at h; cases h
    | some y =>
      rw [q] at h
      exact getP_snoc h g
theorem ROs.focus {R : AP → D → V → Prop} : ∀ {ds : List D} {P : AP} {vs : List V} {i : Nat} {d : D}, ROs R P ds vs → ds[i]? = some d → ∃ u P1, vs[i]? = some u ∧ (∀ a, P1 a → P a) ∧ R P1 d u ∧
    ∀ (R' : AP → D → V → Prop) d', (∀ Q e w, (∀ a, Q a → P a ∧ ¬ P1 a) → R Q e w → R' Q e w) → R' P1 d' u → ROs R' P (ds.set i d') vs
  | [], _, _, _, _, _, e => by simp at e
  | d0 :: ds, P, _, 0, d, ⟨v, r, P1, P2, h1, h2, h3, h4, h5, h6⟩, e => by
    subst h1
    have e : d0 = d := by simpa using e
    subst e
    refine ⟨v, P1, rfl, h2, h5, fun R' d' k r' => ⟨v, r, P1, P2, rfl, h2, h3, h4, r', ROs.imp (fun Q e w hq rr => k Q e w (fun a x => ⟨h3 a (hq a x), fun y => h4 a y (hq a x)⟩) rr) (fun _ x => x) h6⟩⟩
  | d0 :: ds, P, _, i + 1, d, ⟨v, r, P1, P2, h1, h2, h3, h4, h5, h6⟩, e => by
    subst h1
    obtain ⟨u, Q1, g1, g2, g3, g4⟩ := ROs.focus (i := i) h6 (by simpa using e)
    refine ⟨u, Q1, by simpa using g1, fun a x => h3 a (g2 a x), g3, fun R' d' k r' => ⟨v, r, P1, P2, rfl, h2, h3, h4, k P1 d0 v (fun a x => ⟨h2 a x, fun y => h4 a x (g2 a y)⟩) h5, ?_⟩⟩
    exact g4 R' d' (fun Q e w hq rr => k Q e w (fun a x => ⟨h3 a (hq a x).1, (hq a x).2⟩) rr) r'
theorem ixK_look {κ : Type} [DecidableEq κ] : ∀ {kvs : List (κ × D)} {k : κ} {d : D}, lookD kvs k = some d → ∃ n, ixK kvs k = some n ∧ kvs[n]? = some (k, d)
  | [], _, _, h => nomatch h
  | (k0, d0) :: r, k, d, h => by
    rw [lookD_cons] at h
    unfold ixK
    by_cases e : k0 = k
    · rw [if_pos e] at h ⊢
      cases h
      exact ⟨0, rfl, by rw [e]; rfl⟩
    · rw [if_neg e] at h ⊢
      obtain ⟨n, h1, h2⟩ := ixK_look h
      rw [h1]
      exact ⟨n + 1, rfl, by simpa using h2⟩
theorem ixK_val {κ : Type} [DecidableEq κ] : ∀ {kvs : List (κ × D)} {vs : List (κ × V)} {k : κ} {n : Nat} {u : V}, kvs.map (·.1) = vs.map (·.1) → ixK kvs k = some n → (vs.map (·.2))[n]? = some u → valV vs k = some u
  | [], _, _, _, _, _, h, _ => nomatch h
  | (k0, d0) :: r, [], _, _, _, hk, _, _ => by simp at hk
  | (k0, d0) :: r, (k1, v1) :: t, k, n, u, hk, h, g => by
    have hk' : k0 = k1 ∧ r.map (·.1) = t.map (·.1) := by simpa using hk
    unfold ixK at h
    by_cases e : k0 = k
    · rw [if_pos e] at h
      cases h
      rw [valV_pos (p := (k1, v1)) (hk'.1.symm.trans e)]
      simpa using g
    · rw [if_neg e] at h
      rw [valV_neg (p := (k1, v1)) (fun z => e (hk'.1.trans z))]
      cases q : ixK r k with
      | none => rw [q] at h; cases h
      | some m =>
        rw [q] at h
        cases h
        exact ixK_val hk'.2 q (by simpa using g)
theorem map_set1 {κ : Type} {kvs : List (κ × D)} {n : Nat} {k : κ} {d x : D} (h : kvs[n]? = some (k, d)) : (kvs.set n (k, x)).map (·.1) = kvs.map (·.1) ∧ (kvs.set n (k, x)).map (·.2) = (kvs.map (·.2)).set n x := by
  obtain ⟨hl, e⟩ := List.getElem?_eq_some_iff.mp h
  constructor
  · rw [List.map_set]
    have : (kvs.map (·.1))[n]'(by simpa using hl) = k := by simp [e]
    rw [show ((k, x) : κ × D).1 = (kvs.map (·.1))[n]'(by simpa using hl) from this.symm]
    exact List.set_getElem_self _
  · rw [List.map_set]
section
variable {K : PySem.W.Frag} {mg : MG} {F H : Hp}
/-- a node of what is owned, and putting another one in its place -/
theorem focus1 {n : Nat} {P : AP} {d : D} {v : V} {ac : Ac} {e : D} (r : RepO K mg F H (n + 1) P d v) (h : at1 ac d = some e) : ∃ u P1, nodeV H [ac] v u ∧ (∀ a, P1 a → P a) ∧ RepO K mg F H n P1 e u ∧
    ∀ F' H' e', Same F F' → (∀ a o, P a → ¬ P1 a → H a = some o → H' a = some o) → RepO K mg F' H' n P1 e' u → RepO K mg F' H' (n + 1) P (set1 ac e' d) v := by
  cases ac with
  | ix i =>
    cases d <;> first | cases h; done | skip
    obtain ⟨a, vs, P', h1, h2, h3, h4, h5, h6⟩ := r
    obtain ⟨u, P1, g1, g2, g3, g4⟩ := h6.focus h
    refine ⟨u, P1, ⟨a, vs, u, h1, .inl h2, g1, rfl⟩, fun a x => h5 a (g2 a x), g3, fun F' H' e' sm k r' => ⟨a, vs, P', h1, k a _ h3 (fun z => h4 (g2 a z)) h2, h3, h4, h5, ?_⟩⟩
    exact g4 _ e' (fun Q e w hq rr => rr.mono sm (fun a o q x => k a o (h5 a (hq a q).1) (hq a q).2 x) fun _ x => x) r'
  | key i =>
    cases d <;> first | cases h; done | skip
    obtain ⟨a, vs, P', h1, h2, h3, h4, h5, hk, h6⟩ := r
    obtain ⟨m, m1, m2⟩ := ixK_look (show lookD _ i = some e from h)
    obtain ⟨u, P1, g1, g2, g3, g4⟩ := h6.focus (i := m) (d := e) (by rw [List.getElem?_map, m2]; rfl)
    refine ⟨u, P1, ⟨a, vs, u, h1, .inl h2, ixK_val hk m1 g1, rfl⟩, fun a x => h5 a (g2 a x), g3, fun F' H' e' sm k r' => ?_⟩
    show RepO K mg F' H' (n + 1) P (.dK (match ixK _ i with | some n => _ | none => _)) v
    rw [m1]
    obtain ⟨q1, q2⟩ := map_set1 (x := e') m2
    refine ⟨a, vs, P', h1, k a _ h3 (fun z => h4 (g2 a z)) h2, h3, h4, h5, q1.trans hk, ?_⟩
    rw [q2]
    exact g4 _ e' (fun Q e w hq rr => rr.mono sm (fun a o q x => k a o (h5 a (hq a q).1) (hq a q).2 x) fun _ x => x) r'
  | tky i =>
    cases d <;> first | cases h; done | skip
    obtain ⟨a, vs, P', h1, h2, h3, h4, h5, hk, h6⟩ := r
    obtain ⟨m, m1, m2⟩ := ixK_look (show lookD _ i = some e from h)
    obtain ⟨u, P1, g1, g2, g3, g4⟩ := h6.focus (i := m) (d := e) (by rw [List.getElem?_map, m2]; rfl)
    refine ⟨u, P1, ⟨a, vs, u, h1, .inl h2, ixK_val hk m1 g1, rfl⟩, fun a x => h5 a (g2 a x), g3, fun F' H' e' sm k r' => ?_⟩
    show RepO K mg F' H' (n + 1) P (.dT (match ixK _ i with | some n => _ | none => _)) v
    rw [m1]
    obtain ⟨q1, q2⟩ := map_set1 (x := e') m2
    refine ⟨a, vs, P', h1, k a _ h3 (fun z => h4 (g2 a z)) h2, h3, h4, h5, q1.trans hk, ?_⟩
    rw [q2]
    exact g4 _ e' (fun Q e w hq rr => rr.mono sm (fun a o q x => k a o (h5 a (hq a q).1) (hq a q).2 x) fun _ x => x) r'
  | fld i =>
    cases d <;> first | cases h; done | skip
    obtain ⟨a, C, dx, vs, P', h1, h2, h2', hm, h3, h3', h4, h4', h5, hk, h6⟩ := r
    obtain ⟨m, m1, m2⟩ := ixK_look (show lookD _ i = some e from h)
    obtain ⟨u, P1, g1, g2, g3, g4⟩ := h6.focus (i := m) (d := e) (by rw [List.getElem?_map, m2]; rfl)
    have hl : vs.lookup i = some u := by
      have hv := ixK_val hk m1 g1
      have gen : ∀ (l : List (Str × V)), l.lookup i = valV l i := by
        intro l
        induction l with
        | nil => rfl
        | cons p t ih =>
          obtain ⟨k0, v0⟩ := p
          by_cases e : k0 = i
          · subst e; rw [valV_pos (p := (k0, v0)) rfl]; simp [List.lookup]
          · rw [valV_neg (p := (k0, v0)) e, ← ih]
            have : (i == k0) = false := beq_eq_false_iff_ne.mpr fun z => e z.symm
            simp [List.lookup, this]
      rw [gen]; exact hv
    refine ⟨u, P1, ⟨a, C, dx, vs, u, h1, h2, hl, rfl⟩, fun a x => h5 a (g2 a x), g3, fun F' H' e' sm k r' => ?_⟩
    show RepO K mg F' H' (n + 1) P (.obj _ (match ixK _ i with | some n => _ | none => _)) v
    rw [m1]
    obtain ⟨q1, q2⟩ := map_set1 (x := e') m2
    refine ⟨a, C, dx, vs, P', h1, k a _ h3 (fun z => h4 (g2 a z)) h2, k dx _ h3' (fun z => h4' (g2 dx z)) h2', hm, h3, h3', h4, h4', h5, q1.trans hk, ?_⟩
    rw [q2]
    exact g4 _ e' (fun Q e w hq rr => rr.mono sm (fun a o q x => k a o (h5 a (hq a q).1) (hq a q).2 x) fun _ x => x) r'
theorem nodeV_cons {ac : Ac} {p : List Ac} {v u w : V} (h : nodeV H [ac] v u) (g : nodeV H p u w) : nodeV H (ac :: p) v w := by
  cases ac with
  | ix i => obtain ⟨a, vs, z, h1, h2, h3, h4⟩ := h; rw [show u = z from h4] at g; exact ⟨a, vs, z, h1, h2, h3, g⟩
  | key i => obtain ⟨a, vs, z, h1, h2, h3, h4⟩ := h; rw [show u = z from h4] at g; exact ⟨a, vs, z, h1, h2, h3, g⟩
  | tky i => obtain ⟨a, vs, z, h1, h2, h3, h4⟩ := h; rw [show u = z from h4] at g; exact ⟨a, vs, z, h1, h2, h3, g⟩
  | fld i => obtain ⟨a, C, dx, vs, z, h1, h2, h3, h4⟩ := h; rw [show u = z from h4] at g; exact ⟨a, C, dx, vs, z, h1, h2, h3, g⟩
theorem focus : ∀ {p : List Ac} {m : Nat} {P : AP} {d : D} {v : V} {e : D}, RepO K mg F H (p.length + m) P d v → getP p d = some e → ∃ u P1, nodeV H p v u ∧ (∀ a, P1 a → P a) ∧ RepO K mg F H m P1 e u ∧
    ∀ F' H' e', Same F F' → (∀ a o, P a → ¬ P1 a → H a = some o → H' a = some o) → RepO K mg F' H' m P1 e' u → RepO K mg F' H' (p.length + m) P (setP p e' d) v
  | [], m, P, d, v, e, r, h => by
    cases h
    rw [show ([] : List Ac).length + m = m from Nat.zero_add m] at r ⊢
    exact ⟨v, P, rfl, fun _ x => x, r, fun F' H' e' _ _ r' => r'⟩
  | ac :: p, m, P, d, v, e, r, h => by
    have h : (match at1 ac d with | some e => getP p e | none => none) = some e := h
    cases q : at1 ac d with
    | none => rw [q] at h; cases h
    | some d1 =>
      rw [q] at h
      have en : (ac :: p).length + m = (p.length + m) + 1 := by simp; omega
      rw [en] at r ⊢
      obtain ⟨u, P1, g1, g2, g3, g4⟩ := focus1 r q
      obtain ⟨w, P2, k1, k2, k3, k4⟩ := focus (p := p) (m := m) g3 h
      refine ⟨w, P2, nodeV_cons g1 k1, fun a x => g2 a (k2 a x), k3, fun F' H' e' sm k r' => ?_⟩
      show RepO K mg F' H' (p.length + m + 1) P (match at1 ac d with | some e => set1 ac (setP p e' e) d | none => d) v
      rw [q]
      exact g4 F' H' _ sm (fun a o x y z => k a o x (fun z2 => y (k2 a z2)) z) (k4 F' H' e' sm (fun a o x y z => k a o (g2 a x) y z) r')
end
/-- the slot's node at p (its top alone owned) gets another object -/
theorem At.store {K : PySem.W.Frag} {mg : MG} {io : Nat → Option V} {env : DEnv} {σ : L2.St} {F F1 H H1 : Hp} {O O1 : OW} (A : At K mg io F O H env σ F1 O1 H1) {i : Nat} {b : Bd} {p : List Ac} {e : D} (hb : env[i]? = some (some b)) (hn : b.n = p.length + 1) (hp : getP p b.d = some e) :
    ∃ v u P1, σ[i]? = some (some v) ∧ nodeV H1 p v u ∧ RepO K mg F1 H1 1 P1 e u ∧ ∀ a o e', P1 a → isTp o = false → RepO K mg F1 (upd H1 a o) 1 P1 e' u → At K mg io F O H (env.set i (some { b with d := setP p e' b.d })) σ F1 O1 (upd H1 a o) := by
  obtain ⟨v, s1, s2, s3⟩ := A.si.slot i b hb
  rw [hn] at s2
  obtain ⟨u, P1, g1, g2, g3, g4⟩ := focus s2 hp
  refine ⟨v, u, P1, s1, g1, g3, fun a o e' pa nt r' => ?_⟩
  have oa : O1 a = some i := g2 a pa
  obtain ⟨fa, ob, ha⟩ := A.si.own a i oa
  refine ⟨⟨A.mv.ff, fun c oc h q ok => ?_, A.mv.fn, A.mv.on, A.mv.tb.trans (.upd (.inr ⟨ob, ha⟩))⟩, ⟨fun c oc h => ?_, fun c j h => ?_, fun j c hc => ?_, by rw [List.length_set]; exact A.si.len, A.si.tab.upd (.inr ⟨ob, ha⟩)⟩⟩
  · have ne : c ≠ a := fun z => by
      subst z
      rcases A.mv.on c i oa with z | ⟨k, z⟩
      · rw [h] at z; cases z
      · rw [q] at z; cases z
    rw [upd_ne ne]
    exact A.mv.fr c oc h q ok
  · have ne : c ≠ a := fun z => by subst z; rw [fa] at h; cases h
    rw [upd_ne ne]
    exact A.si.sub c oc h
  · obtain ⟨h1, o1, h2, h3⟩ := A.si.own c j h
    refine ⟨h1, ?_⟩
    by_cases ne : c = a
    · subst ne; exact ⟨o, upd_same, nt⟩
    · rw [upd_ne ne]; exact ⟨o1, h2, h3⟩
  · rcases getElem?_set_some hc with ⟨rfl, ec, _⟩ | ⟨ne, hc⟩
    · cases ec
      refine ⟨v, s1, ?_, s3⟩
      show RepO K mg F1 (upd H1 a o) b.n _ (setP p e' b.d) v
      rw [hn]
      exact g4 F1 _ e' (Same.refl _) (fun c oc _ nc h => by rw [upd_ne fun z => nc (by rw [z]; exact pa)]; exact h) r'
    · obtain ⟨w, q1, q2, q3⟩ := A.si.slot j c hc
      exact ⟨w, q1, q2.mono (fun _ _ x => x) (fun x ox hx h => by rw [upd_ne fun z => by rw [z, oa] at hx; exact ne (Option.some.inj hx)]; exact h) (fun _ x => x), q3⟩

/-! ### places as expressions -/
abbrev PTh := DEnv → (Nat → List Ac → D → Prop) → Prop
def thVar (i : Nat) : PTh := fun env Q => match gt env i with | some b => Q i [] b.d | none => False
def thIx (tp : PTh) (ti : PUT) : PTh := fun env Q => tp env fun s p d => ti env fun ix => match d, ix with
  | .lst ds, .int k => match ixI ds.length k with | some j => someD (ds[j]?) fun e => Q s (p ++ [.ix j]) e | none => False
  | .dK kvs, k => match keyD k with | some k => someD (lookD kvs k) fun e => Q s (p ++ [.key k]) e | none => False
  | .dT kvs, .tup ks => match keysD ks with | some k => someD (lookD kvs k) fun e => Q s (p ++ [.tky k]) e | none => False
  | _, _ => False
def rdTh (K : PySem.W.Frag) (mg : MG) (τ : PTh) : TE := fun σ H Qh => ∃ io env F O Q, SI K mg io env σ F O H ∧ τ env Q ∧ ∀ s p d b v u H', Same H H' → gt env s = some b → σ[s]? = some (some v) → getP p b.d = some d → nodeV H' p v u → Rep K mg H' d u → Q s p d → Qh u H'
def DTh (X : Cx) (e : Expr) (τ : PTh) : Prop := PE X e (rdTh X.K X.mg τ)
section
variable {X : Cx}
theorem th_var (i : Nat) {x : Str} {pos : Pos} (hN : X.N[i]? = some x := by rfl) (hv : Vis X.env.scope x := by first | exact Or.inl rfl | exact Or.inr (Or.inl rfl) | exact Or.inr (Or.inr rfl)) (hd : (x == ("__debug__" : Str)) = false := by decide)
    (hcd : (x == ("__classdict__" : Str)) = false := by decide) : DTh X (.Name x pos) (thVar i) := by
  refine peI (pe_var hN hv hd hcd) ?_
  rintro σ H Qh ⟨io, env, F, O, Q, I, h, k⟩
  unfold thVar at h
  cases e : gt env i with
  | none => rw [e] at h; exact h.elim
  | some b =>
    rw [e] at h
    obtain ⟨v, h1, h2, _⟩ := I.slot i b (gt_some e)
    exact ⟨v, h1, k i [] b.d b v v H (Same.refl _) e h1 rfl rfl (h2.rep I.sub) h⟩
theorem th_ix {a b : Expr} {tp : PTh} {ti : PUT} {pos : Pos} (hu : X.A.units + 1 < cLine) (ha : DTh X a tp) (hb : PU X b ti) (hs : PlainIx b := by exact fun _ _ => rfl) : DTh X (.Subscript a b pos) (thIx tp ti) := by
  refine peI (pe_ix (ix_any hu) ha hb hs) ?_
  rintro σ H Qh ⟨io, env, F, O, Q, I, h, k⟩
  refine ⟨io, env, F, O, _, I, h, ?_⟩
  intro s p d c v u H1 e1 hc hv hp hn r1 h1
  refine ⟨io, env, F, O, _, I.ext e1, h1, ?_⟩
  intro y w H2 e2 r2 h2
  have hn2 := nodeV_mono e2 hn
  cases d with
  | lst ds =>
    cases y <;> first | exact (show False from h2).elim | skip
    cases (show w = _ from r2)
    rename_i kk
    obtain ⟨a, vs, rfl, g1, g2⟩ := Rep.mono e2 r1
    have h2 : (match ixI ds.length kk with | some j => someD (ds[j]?) fun e => Q s (p ++ [.ix j]) e | none => False) := h2
    rw [ixI_eq] at h2
    cases ej : ixN ds.length kk with
    | none => rw [ej] at h2; exact h2.elim
    | some j =>
      rw [ej] at h2
      obtain ⟨e, he, q⟩ := someD_of h2
      obtain ⟨z, hz, rz⟩ := g2.get he
      refine .inl (.inl ⟨a, vs, kk, z, rfl, rfl, .inl g1, ?_, k s _ e c v z H2 (e1.trans e2) hc hv (getP_snoc (ac := .ix j) hp he) (nodeV_snoc (ac := .ix j) hn2 ⟨a, vs, z, rfl, g1, hz, rfl⟩) rz q⟩)
      unfold L2.atI
      rw [g2.length, ej]
      exact hz
  | dK kvs =>
    obtain ⟨a, vs, rfl, g1, g2⟩ := Rep.mono e2 r1
    have h2 : (match keyD y with | some k => someD (lookD kvs k) fun e => Q s (p ++ [.key k]) e | none => False) := by cases y <;> exact h2
    cases ek : keyD y with
    | none => rw [ek] at h2; exact h2.elim
    | some key =>
      rw [ek] at h2
      obtain ⟨e, he, q⟩ := someD_of h2
      have l := RepK.look key g2
      rw [he] at l
      obtain ⟨z, hz, rz⟩ := l
      exact .inr ⟨a, z, rfl, .inl ⟨vs, key, g1, keyD_v ek r2, hz.symm⟩, k s _ e c v z H2 (e1.trans e2) hc hv (getP_snoc (ac := .key key) hp he) (nodeV_snoc (ac := .key key) hn2 ⟨a, vs, z, rfl, g1, hz, rfl⟩) rz q⟩
  | dT kvs =>
    cases y <;> first | exact (show False from h2).elim | skip
    rename_i ks
    obtain ⟨a, vs, rfl, g1, g2⟩ := Rep.mono e2 r1
    obtain ⟨b', ws, rfl, t1, t2⟩ := r2
    have h2 : (match keysD ks with | some k => someD (lookD kvs k) fun e => Q s (p ++ [.tky k]) e | none => False) := h2
    cases ek : keysD ks with
    | none => rw [ek] at h2; exact h2.elim
    | some key =>
      rw [ek] at h2
      obtain ⟨e, he, q⟩ := someD_of h2
      have l := RepT.look key g2
      rw [he] at l
      obtain ⟨z, hz, rz⟩ := l
      have ew := keysD_v ek t2
      subst ew
      exact .inr ⟨a, z, rfl, .inr ⟨vs, key, b', g1, rfl, t1, hz.symm⟩, k s _ e c v z H2 (e1.trans e2) hc hv (getP_snoc (ac := .tky key) hp he) (nodeV_snoc (ac := .tky key) hn2 ⟨a, vs, z, rfl, g1, hz, rfl⟩) rz q⟩
  | _ => exact (show False from h2).elim
end
end DL
set_option Elab.async false
set_option linter.all false
set_option maxRecDepth 100000
/-! DLk: the data layer, part k: append and x[i] = e at a place. -/
namespace DL
open PySem L2 PySem.Spec PyProof.Rows
variable [Tbs]

section
variable {K : PySem.W.Frag} {mg : MG} {io : Nat → Option V} {env : DEnv} {σ : L2.St} {F F1 H H1 : Hp} {O O1 : OW} {P : AP}
/-- what a slot owned and was taken out of it goes back -/
theorem At.put (A : At K mg io F O H env σ F1 O1 H1) {i : Nat} {v : V} {b : Bd} (t : Tp O H F1 O1 H1 P) (r : RepO K mg F1 H1 b.n P b.d v) (hs : σ[i]? = some (some v)) (hio : b.io = true → io i = some v) :
    At K mg io F O H (env.set i (some b)) σ F1 (putO O1 i P) H1 where
  mv := ⟨A.mv.ff, A.mv.fr, A.mv.fn, fun a j e => by
    rcases putO_some.mp e with ⟨p, _⟩ | ⟨_, e, _⟩
    · exact t.nw a p
    · exact A.mv.on a j e, A.mv.tb⟩
  si := ⟨A.si.sub, fun a j e => by
    rcases putO_some.mp e with ⟨p, _⟩ | ⟨_, e, _⟩
    · exact ⟨(t.t a p).1, (t.t a p).2.2⟩
    · exact A.si.own a j e, fun j c hc => by
      rcases getElem?_set_some hc with ⟨rfl, e, hl⟩ | ⟨ne, hc⟩
      · cases e
        exact ⟨v, hs, r.mono (fun _ _ x => x) (fun _ _ _ x => x) (fun a p => putO_some.mpr (.inl ⟨p, rfl⟩)), hio⟩
      · obtain ⟨w, g1, g2, g3⟩ := A.si.slot j c hc
        refine ⟨w, g1, g2.mono (fun _ _ x => x) (fun _ _ _ x => x) (fun a e => ?_), g3⟩
        refine putO_some.mpr (.inr ⟨fun p => ?_, e, fun z => ne z.symm⟩)
        rw [(t.t a p).2.1] at e; exact (nomatch e), by rw [List.length_set]; exact A.si.len, A.si.tab⟩
theorem set_gt {i : Nat} {b : Bd} (h : gt env i = some b) (c : Option Bd) : (env.set i c)[i]? = some c := by
  rw [List.getElem?_set_self ((List.getElem?_eq_some_iff.mp (gt_some h)).1)]
theorem ro_lst {ds : List D} {v : V} (r : RepO K mg F H 1 P (.lst ds) v) : ∃ a vs, v = .ref a ∧ H a = some (.lst vs) ∧ P a ∧ Reps K mg F ds vs := let ⟨a, vs, P', h1, h2, h3, _, _, h6⟩ := r; ⟨a, vs, h1, h2, h3, h6.reps0⟩
theorem ro_lst_mk {ds : List D} {vs : List V} {a : Addr} (h : H a = some (.lst vs)) (p : P a) (r : Reps K mg F ds vs) : RepO K mg F H 1 P (.lst ds) (.ref a) :=
  RepO.mono (P := fun b => b = a) (fun _ _ x => x) (fun _ _ _ x => x) (fun b e => by rw [show b = a from e]; exact p) (NewL.own (o := .lst vs) r h)
theorem ro_dK {ds : List (Key × D)} {v : V} (r : RepO K mg F H 1 P (.dK ds) v) : ∃ a vs, v = .ref a ∧ H a = some (.dK vs) ∧ P a ∧ RepK K mg F ds vs := let ⟨a, vs, P', h1, h2, h3, _, _, h6, h7⟩ := r; ⟨a, vs, h1, h2, h3, RepK.of h6 h7.reps0⟩
theorem ro_dK_mk {ds : List (Key × D)} {vs : List (Key × V)} {a : Addr} (h : H a = some (.dK vs)) (p : P a) (r : RepK K mg F ds vs) : RepO K mg F H 1 P (.dK ds) (.ref a) :=
  RepO.mono (P := fun b => b = a) (fun _ _ x => x) (fun _ _ _ x => x) (fun b e => by rw [show b = a from e]; exact p) (NewL.own (o := .dK vs) r h)
theorem ro_dT {ds : List (List Key × D)} {v : V} (r : RepO K mg F H 1 P (.dT ds) v) : ∃ a vs, v = .ref a ∧ H a = some (.dT vs) ∧ P a ∧ RepT K mg F ds vs := let ⟨a, vs, P', h1, h2, h3, _, _, h6, h7⟩ := r; ⟨a, vs, h1, h2, h3, RepT.of h6 h7.reps0⟩
theorem ro_dT_mk {ds : List (List Key × D)} {vs : List (List Key × V)} {a : Addr} (h : H a = some (.dT vs)) (p : P a) (r : RepT K mg F ds vs) : RepO K mg F H 1 P (.dT ds) (.ref a) :=
  RepO.mono (P := fun b => b = a) (fun _ _ x => x) (fun _ _ _ x => x) (fun b e => by rw [show b = a from e]; exact p) (NewL.own (o := .dT vs) r h)
end
/-! ### append -/
def appAt (s : Nat) (p : List Ac) (d : D) (x : D) (env : DEnv) (k : DEnv → Prop) : Prop := match d, gt env s with
  | .lst ds, some b => match Nat.beq b.n (p.length + 1) with
    | true => ds.length < sizeLine ∧ k (env.set s (some { b with d := setP p (.lst (ds ++ [x])) b.d }))
    | false => False
  | _, _ => False
def isLst : D → Prop → Prop
  | .lst _, p => p
  | _, _ => False
/-- place.append(e), e without an address -/
def sdAppP (tp : PTh) (te : PUT) : SD := fun env D => tp env fun s p d => isLst d (te env fun x => lf x (appAt s p d x env D.nx))
/-- x.append(e), x a local: its data as they stand behind e -/
def sdApp (i : Nat) (te : ET) : SD := fun env D => match gt env i with
  | some b0 => isLst b0.d (te env (fun x _ env1 => match gt env1 i with | some b => appAt i [] b.d x env1 D.nx | none => False) D.ex)
  | none => False
/-- place.append(e): the place's slot rests meanwhile -/
def sdAppD (tp : PTh) (te : ET) : SD := fun env D => tp env fun s p d => isLst d (match gt env s with
  | some b => te (env.set s none) (fun x _ env1 => appAt s p d x (env1.set s (some b)) D.nx) D.ex
  | none => False)
theorem isLst_of {d : D} {p : Prop} (h : isLst d p) : (∃ ds, d = .lst ds) ∧ p := by cases d <;> first | exact ⟨⟨_, rfl⟩, h⟩ | exact h.elim
section
variable {X : Cx} {o e : Expr} {tp : PTh} {te : ET} {pe : PUT} {apos cpos pos : Pos}
theorem app_end {K : PySem.W.Frag} {mg : MG} {io : Nat → Option V} {env : DEnv} {σ : L2.St} {F F1 H H1 : Hp} {O O1 : OW} {s : Nat} {p : List Ac} {d x : D} {k : DEnv → Prop} {b : Bd} {v u w : V} {Qh : VK}
    (A : At K mg io F O H env σ F1 O1 H1) (h : appAt s p d x env k) (hb : gt env s = some b) (hs : σ[s]? = some (some v)) (hp : getP p b.d = some d) (hn : nodeV H1 p v u) (rw_ : Rep K mg F1 x w)
    (kk : ∀ env' H', At K mg io F O H env' σ F1 O1 H' → k env' → Qh .non H') : rAppend u [w] H1 Qh := by
  cases d <;> first | exact (show False from h).elim | skip
  rename_i ds
  unfold appAt at h
  rw [hb] at h
  have h : (match Nat.beq b.n (p.length + 1) with
    | true => ds.length < sizeLine ∧ k (env.set s (some { b with d := setP p (.lst (ds ++ [x])) b.d }))
    | false => False) := h
  cases en : Nat.beq b.n (p.length + 1) with
  | false => rw [en] at h; exact h.elim
  | true =>
    rw [en] at h
    obtain ⟨v', u', P1, s1, g1, g2, g3⟩ := A.store (gt_some hb) (Nat.eq_of_beq_eq_true en) hp
    have ev : v' = v := by rw [hs] at s1; exact (Option.some.inj (Option.some.inj s1)).symm
    subst ev
    have eu := nodeV_inj hn g1
    subst eu
    obtain ⟨a, vs, rfl, k1, k2, k3⟩ := ro_lst g2
    exact ⟨a, vs, w, rfl, rfl, k1, by rw [k3.length]; exact h.1, kk _ _ (g3 a (.lst (vs ++ [w])) _ k2 rfl (ro_lst_mk upd_same k2 (k3.append (Reps.one rw_)))) h.2⟩
theorem ds_appendP (ho : DTh X o tp) (he : PU X e pe) (hbase : attributeBase o "append" X.env (eval o X.env) = eval o X.env := by rfl)
    (hfew : ((backTo cpos (starEach [e] X.env)).all (fun x => !x.1) && (backToKw cpos (keywordEach [] X.env)).all (fun x => x.1.isSome)
      && decide (([e] : List Expr).length + ([] : List Keyword).length + (if ([] : List Keyword).isEmpty then 0 else 1) < 30)) = true := by rfl)
    (hline : (apos.endLine == cpos.line) = true := by rfl) (hs : starEach (e :: []) X.env = (false, eval e X.env) :: starEach [] X.env := by rfl) (hplain : (backTo cpos (starEach [] X.env)).any (·.1) = false := by rfl)
    (hsw : swapsWith (.Call (.Attribute o "append" apos) [e] [] cpos) none pos.line X.env = pure false := by rfl) : DS X (.Expr (.Call (.Attribute o "append" apos) [e] [] cpos) pos) (sdAppP tp pe) := by
  intro W tk
  refine psI (ps_expr (pe_bm PySem.F.plainAttrs_list PySem.F.slot_list_append PySem.F.type_list_append mt_append ho (pa_cons he pa_nil hs) hbase hfew hline hs hplain) hsw) ?_
  rintro Dn σ H ⟨io, env, F, O, D, I, h, k1, k2, k3, k4, k5⟩
  refine ⟨io, env, F, O, _, I, h, ?_⟩
  intro s p d b v u H1 e1 hb hv hp hn r1 h1
  obtain ⟨⟨ds, rfl⟩, h1⟩ := isLst_of h1
  have rl := r1
  obtain ⟨a, vs, rfl, g1, g2⟩ := rl
  refine ⟨.inl ⟨rfl, vs, .inl g1⟩, io, env, F, O, _, I.ext e1, h1, ?_⟩
  intro x w H2 e2 r2 h2
  obtain ⟨hl, h2⟩ := lf_of h2
  exact app_end (Qh := fun _ H' => Dn.nx σ H') ((At.start I).ext (e1.trans e2)) h2 hb hv hp (nodeV_mono e2 hn) (leaf_rep hl r2) fun env' H' A q => k1 _ _ _ _ _ A q
theorem ds_append (i : Nat) {x : Str} {pos' : Pos} (he : DE X e te) (hN : X.N[i]? = some x := by rfl) (hv : Vis X.env.scope x := by first | exact Or.inl rfl | exact Or.inr (Or.inl rfl) | exact Or.inr (Or.inr rfl)) (hd : (x == ("__debug__" : Str)) = false := by decide)
    (hcd : (x == ("__classdict__" : Str)) = false := by decide) (hbase : attributeBase (.Name x pos') "append" X.env (eval (.Name x pos') X.env) = eval (.Name x pos') X.env := by rfl)
    (hfew : ((backTo cpos (starEach [e] X.env)).all (fun x => !x.1) && (backToKw cpos (keywordEach [] X.env)).all (fun x => x.1.isSome)
      && decide (([e] : List Expr).length + ([] : List Keyword).length + (if ([] : List Keyword).isEmpty then 0 else 1) < 30)) = true := by rfl)
    (hline : (apos.endLine == cpos.line) = true := by rfl) (hs : starEach (e :: []) X.env = (false, eval e X.env) :: starEach [] X.env := by rfl) (hplain : (backTo cpos (starEach [] X.env)).any (·.1) = false := by rfl)
    (hsw : swapsWith (.Call (.Attribute (.Name x pos') "append" apos) [e] [] cpos) none pos.line X.env = pure false := by rfl) : DS X (.Expr (.Call (.Attribute (.Name x pos') "append" apos) [e] [] cpos) pos) (sdApp i te) := by
  intro W tk
  refine psI (ps_expr (pe_bm PySem.F.plainAttrs_list PySem.F.slot_list_append PySem.F.type_list_append mt_append (pe_var hN hv hd hcd) (pa_cons (he W tk) pa_nil hs) hbase hfew hline hs hplain) hsw) ?_
  rintro Dn σ H ⟨io, env, F, O, D, I, h, k1, k2, k3, k4, k5⟩
  unfold sdApp at h
  cases e0 : gt env i with
  | none => rw [e0] at h; exact h.elim
  | some b0 =>
    rw [e0] at h
    obtain ⟨⟨ds0, hd0⟩, h⟩ := isLst_of h
    obtain ⟨v, h1, h2, _⟩ := I.slot i b0 (gt_some e0)
    have rl := h2.rep I.sub
    rw [hd0] at rl
    obtain ⟨a, vs, rfl, g1, g2⟩ := rl
    refine ⟨.ref a, h1, .inl ⟨rfl, vs, .inl g1⟩, io, env, F, O, _, _, I, h, ?_, k5⟩
    intro x n env2 F2 O2 H2 w P2 A2 T2 r2 h2'
    have A2' := A2.frz T2
    cases e2 : gt env2 i with
    | none => rw [e2] at h2'; exact h2'.elim
    | some b =>
      rw [e2] at h2'
      exact app_end (Qh := fun _ H' => Dn.nx σ H') (p := []) A2' h2' e2 h1 rfl rfl (A2.frz_rep r2) fun env' H' A q => k1 _ _ _ _ _ A q
theorem ds_appendD (ho : DTh X o tp) (he : DE X e te) (hbase : attributeBase o "append" X.env (eval o X.env) = eval o X.env := by rfl)
    (hfew : ((backTo cpos (starEach [e] X.env)).all (fun x => !x.1) && (backToKw cpos (keywordEach [] X.env)).all (fun x => x.1.isSome)
      && decide (([e] : List Expr).length + ([] : List Keyword).length + (if ([] : List Keyword).isEmpty then 0 else 1) < 30)) = true := by rfl)
    (hline : (apos.endLine == cpos.line) = true := by rfl) (hs : starEach (e :: []) X.env = (false, eval e X.env) :: starEach [] X.env := by rfl) (hplain : (backTo cpos (starEach [] X.env)).any (·.1) = false := by rfl)
    (hsw : swapsWith (.Call (.Attribute o "append" apos) [e] [] cpos) none pos.line X.env = pure false := by rfl) : DS X (.Expr (.Call (.Attribute o "append" apos) [e] [] cpos) pos) (sdAppD tp te) := by
  intro W tk
  refine psI (ps_expr (pe_bm PySem.F.plainAttrs_list PySem.F.slot_list_append PySem.F.type_list_append mt_append ho (pa_cons (he W tk) pa_nil hs) hbase hfew hline hs hplain) hsw) ?_
  rintro Dn σ H ⟨io, env, F, O, D, I, h, k1, k2, k3, k4, k5⟩
  refine ⟨io, env, F, O, _, I, h, ?_⟩
  intro s p d b v u H1 e1 hb hv hp hn r1 h1
  obtain ⟨⟨ds, rfl⟩, h1⟩ := isLst_of h1
  rw [hb] at h1
  have rl := r1
  obtain ⟨a, vs, rfl, g1, g2⟩ := rl
  have A1 := (At.start I).ext e1
  obtain ⟨v', s1, s2, s3⟩ := A1.si.slot s b (gt_some hb)
  have ev : v' = v := by rw [hv] at s1; exact (Option.some.inj (Option.some.inj s1)).symm
  subst ev
  have A1d := A1.drop s
  have T1 := A1.tp_slot s
  refine ⟨.inl ⟨rfl, vs, .inl g1⟩, io, _, _, _, _, _, A1d.si, h1, ?_, k5.mv A1d⟩
  intro x n env2 F2 O2 H2 w P2 A2 T2 r2 h2
  have A2' := A2.frz T2
  have T1' := T1.mv A2'.mv
  have A3 := (A1d.trans A2').put (b := b) T1' (s2.mv T1 A2'.mv) hv s3
  -- the place bears the same object as before
  have nst : ∀ (q : List Ac) (m : Nat) (Pq : AP) (dq : DL.D) (vq uq : V), (∀ a, Pq a → O a = some s) → RepO X.K X.mg F H1 (List.length q + m) Pq dq vq → nodeV H1 q vq uq → getP q dq = some (.lst ds) → nodeV H2 q vq uq := by
    intro q
    induction q with
    | nil => intro m Pq dq vq uq _ _ hq _; exact hq
    | cons ac q ih =>
      intro m Pq dq vq uq hP rq hq hg
      have en : (ac :: q).length + m = (q.length + m) + 1 := by simp; omega
      rw [en] at rq
      have hg : (match at1 ac dq with | some e => getP q e | none => none) = some (.lst ds) := hg
      cases q1 : at1 ac dq with
      | none => rw [q1] at hg; cases hg
      | some d1 =>
        rw [q1] at hg
        obtain ⟨u1, P1, f1, f2, f3, f4⟩ := focus1 rq q1
        obtain ⟨w1, P2', c1, _⟩ := focus (p := q) (m := m) f3 hg
        have eq : nodeV H1 (ac :: q) vq w1 := nodeV_cons f1 c1
        have ew := nodeV_inj hq eq
        subst ew
        refine nodeV_cons ?_ (ih m P1 d1 u1 uq (fun a x => hP a (f2 a x)) f3 c1 hg)
        -- one step: the container is owned, so it stands
        cases ac with
        | ix j =>
          cases dq <;> first | cases q1; done | skip
          obtain ⟨a1, vs1, P', z1, z2, z3, _⟩ := rq
          obtain ⟨a2, vs2, w2, y1, y2, y3, y4⟩ := f1
          subst z1
          cases y1
          have ee := rd_inj y2 (.inl z2) (fun _ _ z => nomatch z) (fun _ _ z => nomatch z)
          injection ee with ee
          subst ee
          exact ⟨a1, vs2, w2, rfl, .inl (T1.keep A2'.mv (hP _ z3) z2), y3, y4⟩
        | key j =>
          cases dq <;> first | cases q1; done | skip
          obtain ⟨a1, vs1, P', z1, z2, z3, _⟩ := rq
          obtain ⟨a2, vs2, w2, y1, y2, y3, y4⟩ := f1
          subst z1
          cases y1
          have ee := rd_inj y2 (.inl z2) (fun _ _ z => nomatch z) (fun _ _ z => nomatch z)
          injection ee with ee
          subst ee
          exact ⟨a1, vs2, w2, rfl, .inl (T1.keep A2'.mv (hP _ z3) z2), y3, y4⟩
        | tky j =>
          cases dq <;> first | cases q1; done | skip
          obtain ⟨a1, vs1, P', z1, z2, z3, _⟩ := rq
          obtain ⟨a2, vs2, w2, y1, y2, y3, y4⟩ := f1
          subst z1
          cases y1
          have ee := rd_inj y2 (.inl z2) (fun _ _ z => nomatch z) (fun _ _ z => nomatch z)
          injection ee with ee
          subst ee
          exact ⟨a1, vs2, w2, rfl, .inl (T1.keep A2'.mv (hP _ z3) z2), y3, y4⟩
        | fld j =>
          cases dq <;> first | cases q1; done | skip
          obtain ⟨a1, C1, dx1, vs1, P', z1, z2, z2', zm, z3, _⟩ := rq
          obtain ⟨a2, C2, dx2, vs2, w2, y1, y2, y3, y4⟩ := f1
          subst z1
          cases y1
          rw [z2] at y2
          cases y2
          exact ⟨a1, C1, dx1, vs1, w2, rfl, T1.keep A2'.mv (hP _ z3) z2, y3, y4⟩
  have hb3 : gt (env2.set s (some b)) s = some b := gt_of (by
    have hl : s < env2.length := by
      have l1 := A2.si.len
      have l2 := (List.getElem?_eq_some_iff.mp hv).1
      omega
    rw [List.getElem?_set_self hl])
  have hlen : p.length + 1 = b.n := by
    unfold appAt at h2
    rw [hb3] at h2
    have h2 : (match Nat.beq b.n (p.length + 1) with
      | true => ds.length < sizeLine ∧ D.nx _
      | false => False) := h2
    cases en : Nat.beq b.n (p.length + 1) with
    | false => rw [en] at h2; exact h2.elim
    | true => exact (Nat.eq_of_beq_eq_true en).symm
  exact app_end (Qh := fun _ H' => Dn.nx σ H') A3 h2 hb3 hv hp (nst p 1 _ b.d v' _ (fun _ x => x) (by rw [hlen]; exact s2) hn hp) (A2.frz_rep r2) fun env' H' A q => k1 _ _ _ _ _ A q
end
/-! ### x[i] = e -/
def setD : D → D → D → (D → Prop) → Prop
  | .lst ds, .int k, x, Q => match ixI ds.length k with | some j => Q (.lst (ds.set j x)) | none => False
  | .dK kvs, k, x, Q => match keyD k with | some k => kvs.length < sizeLine ∧ Q (.dK (putD kvs k x)) | none => False
  | .dT kvs, .tup ks, x, Q => match keysD ks with | some k => kvs.length < sizeLine ∧ Q (.dT (putD kvs k x)) | none => False
  | _, _, _, _ => False
def setAt (s : Nat) (p : List Ac) (d ix x : D) (env : DEnv) (k : DEnv → Prop) : Prop := match gt env s with
  | some b => match Nat.beq b.n (p.length + 1) with
    | true => setD d ix x fun d' => k (env.set s (some { b with d := setP p d' b.d }))
    | false => False
  | none => False
/-- place[ix] = e, ix a pure peek -/
def sdSetP (tp : PTh) (ti : PUT) (te : ET) : SD := fun env D => te env (fun x _ env1 => tp env1 fun s p d => ti env1 fun ix => setAt s p d ix x env1 D.nx) D.ex
/-- x[ix] = e, x a local: its data as they stand behind both -/
def sdSetI (i : Nat) (ti te : ET) : SD := fun env D => te env (fun x _ env1 => match gt env1 i with
  | some _ => ti env1 (fun ix _ env2 => match gt env2 i with | some b => setAt i [] b.d ix x env2 D.nx | none => False) D.ex
  | none => False) D.ex
def rSetA : TSet := fun o i v H Q => rSetL o i v H Q ∨ ∃ a H', o = .ref a ∧ DPut H a i v H' ∧ Q H'
theorem set_any {X : Cx} (hu : X.A.units + 1 < cLine) : PSet X rSetA := by
  intro pins s σ H o i v ov iv u Q I r1 r2 r3 h
  rcases h with h | ⟨a, H', rfl, g, q⟩
  · exact set_list pins s σ H o i v ov iv u Q I r1 r2 r3 h
  · cases r1
    exact d_setItem hu I g r2 r3 fun s4 I4 => ⟨H', I4, q⟩
section
variable {K : PySem.W.Frag} {mg : MG} {F : Hp}
theorem keys_any {κ : Type} [DecidableEq κ] {k : κ} : ∀ {kvs : List (κ × D)} {vs : List (κ × V)}, kvs.map (·.1) = vs.map (·.1) → (kvs.any fun kv => decide (kv.1 = k)) = vs.any fun kv => decide (kv.1 = k)
  | [], [], _ => rfl
  | [], _ :: _, h => by simp at h
  | _ :: _, [], h => by simp at h
  | (a, b) :: r, (c, d) :: t, h => by
    have h' : a = c ∧ r.map (·.1) = t.map (·.1) := by simpa using h
    rw [List.any_cons, List.any_cons, keys_any h'.2]
    rw [show ((a, b) : κ × D).1 = ((c, d) : κ × V).1 from h'.1]
theorem RepK.append : ∀ {ds es : List (Key × D)} {vs ws : List (Key × V)}, RepK K mg F ds vs → RepK K mg F es ws → RepK K mg F (ds ++ es) (vs ++ ws)
  | [], _, _, _, h, g => by cases (show _ = ([] : List (Key × V)) from h); exact g
  | (k, d) :: _, _, _, ws, ⟨v, r, h1, h2, h3⟩, g => ⟨v, r ++ ws, by subst h1; rfl, h2, RepK.append h3 g⟩
theorem RepT.append : ∀ {ds es : List (List Key × D)} {vs ws : List (List Key × V)}, RepT K mg F ds vs → RepT K mg F es ws → RepT K mg F (ds ++ es) (vs ++ ws)
  | [], _, _, _, h, g => by cases (show _ = ([] : List (List Key × V)) from h); exact g
  | (k, d) :: _, _, _, ws, ⟨v, r, h1, h2, h3⟩, g => ⟨v, r ++ ws, by subst h1; rfl, h2, RepT.append h3 g⟩
theorem RepK.put {kvs : List (Key × D)} {vs : List (Key × V)} {k : Key} {x : D} {w : V} (r : RepK K mg F kvs vs) (rx : Rep K mg F x w) : RepK K mg F (putD kvs k x) (putK vs k w) := by
  unfold putD putK
  rw [keys_any (RepK.keys r).1]
  split
  · have go : ∀ {kvs : List (Key × D)} {vs : List (Key × V)}, RepK K mg F kvs vs → RepK K mg F (kvs.map fun kv => if kv.1 = k then (kv.1, x) else kv) (vs.map fun kv => if kv.1 = k then (kv.1, w) else kv) := by
      intro kvs
      induction kvs with
      | nil => intro vs h; cases (show _ = ([] : List (Key × V)) from h); rfl
      | cons p t ih =>
        rintro vs h
        obtain ⟨k0, d0⟩ := p
        obtain ⟨v, r, h1, h2, h3⟩ := h
        subst h1
        rw [List.map_cons, List.map_cons]
        by_cases e : k0 = k
        · rw [if_pos (show (k0, d0).1 = k from e), if_pos (show (k0, v).1 = k from e)]
          exact ⟨w, _, rfl, rx, ih h3⟩
        · rw [if_neg (show ¬ (k0, d0).1 = k from e), if_neg (show ¬ (k0, v).1 = k from e)]
          exact ⟨v, _, rfl, h2, ih h3⟩
    exact go r
  · exact r.append ⟨w, [], rfl, rx, rfl⟩
theorem RepT.put {kvs : List (List Key × D)} {vs : List (List Key × V)} {k : List Key} {x : D} {w : V} (r : RepT K mg F kvs vs) (rx : Rep K mg F x w) : RepT K mg F (putD kvs k x) (putK vs k w) := by
  unfold putD putK
  rw [keys_any (RepT.keys r).1]
  split
  · have go : ∀ {kvs : List (List Key × D)} {vs : List (List Key × V)}, RepT K mg F kvs vs → RepT K mg F (kvs.map fun kv => if kv.1 = k then (kv.1, x) else kv) (vs.map fun kv => if kv.1 = k then (kv.1, w) else kv) := by
      intro kvs
      induction kvs with
      | nil => intro vs h; cases (show _ = ([] : List (List Key × V)) from h); rfl
      | cons p t ih =>
        rintro vs h
        obtain ⟨k0, d0⟩ := p
        obtain ⟨v, r, h1, h2, h3⟩ := h
        subst h1
        rw [List.map_cons, List.map_cons]
        by_cases e : k0 = k
        · rw [if_pos (show (k0, d0).1 = k from e), if_pos (show (k0, v).1 = k from e)]
          exact ⟨w, _, rfl, rx, ih h3⟩
        · rw [if_neg (show ¬ (k0, d0).1 = k from e), if_neg (show ¬ (k0, v).1 = k from e)]
          exact ⟨v, _, rfl, h2, ih h3⟩
    exact go r
  · exact r.append ⟨w, [], rfl, rx, rfl⟩
end
theorem set_end {K : PySem.W.Frag} {mg : MG} {io : Nat → Option V} {env : DEnv} {σ : L2.St} {F F1 H H1 : Hp} {O O1 : OW} {s : Nat} {p : List Ac} {d x ix : D} {k : DEnv → Prop} {b : Bd} {v u w wi : V} {Qh : Hp → Prop} {H2 : Hp}
    (A : At K mg io F O H env σ F1 O1 H1) (h : setAt s p d ix x env k) (hb : gt env s = some b) (hs : σ[s]? = some (some v)) (hp : getP p b.d = some d) (hn : nodeV H1 p v u) (rw_ : Rep K mg F1 x w) (ri : Rep K mg H1 ix wi)
    (kk : ∀ env' H', At K mg io F O H env' σ F1 O1 H' → k env' → Qh H') : rSetA u wi w H1 Qh := by
  unfold setAt at h
  rw [hb] at h
  replace h : (match Nat.beq b.n (p.length + 1) with
    | true => setD d ix x fun d' => k (env.set s (some { b with d := setP p d' b.d }))
    | false => False) := h
  cases en : Nat.beq b.n (p.length + 1) with
  | false => rw [en] at h; exact h.elim
  | true =>
    rw [en] at h
    obtain ⟨v', u', P1, s1, g1, g2, g3⟩ := A.store (gt_some hb) (Nat.eq_of_beq_eq_true en) hp
    have ev : v' = v := by rw [hs] at s1; exact (Option.some.inj (Option.some.inj s1)).symm
    subst ev
    have eu := nodeV_inj hn g1
    subst eu
    cases d with
    | lst ds =>
      cases ix <;> first | exact (show False from h).elim | skip
      rename_i kk'
      cases (show wi = _ from ri)
      obtain ⟨a, vs, rfl, k1, k2, k3⟩ := ro_lst g2
      have h : (match ixI ds.length kk' with | some j => k (env.set s (some { b with d := setP p (.lst (ds.set j x)) b.d })) | none => False) := h
      rw [ixI_eq] at h
      cases ej : ixN ds.length kk' with
      | none => rw [ej] at h; exact h.elim
      | some j =>
        rw [ej] at h
        exact .inl ⟨a, vs, kk', j, rfl, rfl, k1, by rw [k3.length]; exact ej, kk _ _ (g3 a (.lst (vs.set j w)) _ k2 rfl (ro_lst_mk upd_same k2 (k3.set j rw_))) h⟩
    | dK kvs =>
      obtain ⟨a, vs, rfl, k1, k2, k3⟩ := ro_dK g2
      have h : (match keyD ix with | some kx => kvs.length < sizeLine ∧ k (env.set s (some { b with d := setP p (.dK (putD kvs kx x)) b.d })) | none => False) := by cases ix <;> exact h
      cases ek : keyD ix with
      | none => rw [ek] at h; exact h.elim
      | some key =>
        rw [ek] at h
        have ew := keyD_v ek ri
        have el : vs.length = kvs.length := by have := congrArg List.length (RepK.keys k3).1; simpa using this.symm
        exact .inr ⟨a, _, rfl, .inl ⟨vs, key, k1, ew, by rw [el]; exact h.1, rfl⟩, kk _ _ (g3 a (.dK (putK vs key w)) _ k2 rfl (ro_dK_mk upd_same k2 (k3.put rw_))) h.2⟩
    | dT kvs =>
      cases ix <;> first | exact (show False from h).elim | skip
      rename_i ks
      obtain ⟨b', ws, rfl, t1, t2⟩ := ri
      obtain ⟨a, vs, rfl, k1, k2, k3⟩ := ro_dT g2
      have h : (match keysD ks with | some kx => kvs.length < sizeLine ∧ k (env.set s (some { b with d := setP p (.dT (putD kvs kx x)) b.d })) | none => False) := h
      cases ek : keysD ks with
      | none => rw [ek] at h; exact h.elim
      | some key =>
        rw [ek] at h
        have ew := keysD_v ek t2
        subst ew
        have el : vs.length = kvs.length := by have := congrArg List.length (RepT.keys k3).1; simpa using this.symm
        exact .inr ⟨a, _, rfl, .inr ⟨vs, key, b', k1, rfl, t1, by rw [el]; exact h.1, rfl⟩, kk _ _ (g3 a (.dT (putK vs key w)) _ k2 rfl (ro_dT_mk upd_same k2 (k3.put rw_))) h.2⟩
    | _ => exact (show False from h).elim
section
variable {X : Cx} {o i e : Expr} {tp : PTh} {ti te : ET} {pi : PUT} {pos pos' : Pos}
theorem ds_setP (hu : X.A.units + 1 < cLine) (he : DE X e te) (ho : DTh X o tp) (hi : PU X i pi)
    (ha : ∀ v, assign (.Subscript o i pos') X.env v = (do
      let ov ← holding [v] (eval o X.env)
      let iv ← holding [v, ov] (eval i X.env)
      standAt pos'
      holding [v, ov, iv] (setItem ov iv v)
      release [v, ov, iv] []) := by intro _; rfl)
    (hs : swapsWithSole [.Subscript o i pos'] e pos.line X.env = pure false := by rfl) (hw : swappedStores [.Subscript o i pos'] e X.env = pure none := by rfl) (h1 : List.map (fun x => x.snd) (assignEach [.Subscript o i pos'] X.env) = [assign (.Subscript o i pos') X.env] := by rfl) :
    DS X (.Assign [.Subscript o i pos'] e pos) (sdSetP tp pi te) := by
  intro W tk
  refine psI (ps_asg (he W tk) (pg_sub ho hi (set_any hu) ha) hs hw (h1 := h1)) ?_
  rintro Dn σ H ⟨io, env, F, O, D, I, h, k1, k2, k3, k4, k5⟩
  refine ⟨io, env, F, O, _, _, I, h, ?_, k5⟩
  intro x n env1 F1 O1 H1 w P A1 T1 r1 q1
  have A1' := A1.frz T1
  refine ⟨io, env1, _, O1, _, A1'.si, q1, ?_⟩
  intro s p d b v u H2 e2 hb hv hp hn rd q2
  refine ⟨io, env1, _, O1, _, A1'.si.ext e2, q2, ?_⟩
  intro ix wi H3 e3 ri q3
  exact set_end (H2 := H2) (A1'.ext (e2.trans e3)) q3 hb hv hp (nodeV_mono e3 hn) (A1.frz_rep r1) ri fun env' H' A q => k1 _ _ _ _ _ A q
theorem ds_setI (s : Nat) {x : Str} {posx : Pos} (hu : X.A.units + 1 < cLine) (he : DE X e te) (hi : DE X i ti) (hN : X.N[s]? = some x := by rfl) (hv : Vis X.env.scope x := by first | exact Or.inl rfl | exact Or.inr (Or.inl rfl) | exact Or.inr (Or.inr rfl))
    (hd : (x == ("__debug__" : Str)) = false := by decide) (hcd : (x == ("__classdict__" : Str)) = false := by decide)
    (ha : ∀ v, assign (.Subscript (.Name x posx) i pos') X.env v = (do
      let ov ← holding [v] (eval (.Name x posx) X.env)
      let iv ← holding [v, ov] (eval i X.env)
      standAt pos'
      holding [v, ov, iv] (setItem ov iv v)
      release [v, ov, iv] []) := by intro _; rfl)
    (hs : swapsWithSole [.Subscript (.Name x posx) i pos'] e pos.line X.env = pure false := by rfl) (hw : swappedStores [.Subscript (.Name x posx) i pos'] e X.env = pure none := by rfl)
    (h1 : List.map (fun x => x.snd) (assignEach [.Subscript (.Name x posx) i pos'] X.env) = [assign (.Subscript (.Name x posx) i pos') X.env] := by rfl) :
    DS X (.Assign [.Subscript (.Name x posx) i pos'] e pos) (sdSetI s ti te) := by
  intro W tk
  refine psI (ps_asg (he W tk) (pg_sub (pe_var hN hv hd hcd) (hi W tk) (set_any hu) ha) hs hw (h1 := h1)) ?_
  rintro Dn σ H ⟨io, env, F, O, D, I, h, k1, k2, k3, k4, k5⟩
  refine ⟨io, env, F, O, _, _, I, h, ?_, k5⟩
  intro x n env1 F1 O1 H1 w P A1 T1 r1 q1
  have A1' := A1.frz T1
  have r1' := A1.frz_rep r1
  cases e1 : gt env1 s with
  | none => rw [e1] at q1; exact q1.elim
  | some b1 =>
    rw [e1] at q1
    obtain ⟨v, g1, _, _⟩ := A1'.si.slot s b1 (gt_some e1)
    refine ⟨v, g1, io, env1, _, O1, _, _, A1'.si, q1, ?_, k5.mv A1'⟩
    intro ix m env2 F2 O2 H2 wi P2 A2 T2 r2 q2
    have A2' := A2.frz T2
    cases e2 : gt env2 s with
    | none => rw [e2] at q2; exact q2.elim
    | some b =>
      rw [e2] at q2
      exact set_end (H2 := H2) (p := []) (A1'.trans A2') q2 e2 g1 rfl rfl (Rep.mono A2'.mv.ff r1') ((A2.frz_rep r2).mono A2'.si.sub) fun env' H' A q => k1 _ _ _ _ _ A q
end
end DL
set_option Elab.async false
set_option linter.all false
set_option maxRecDepth 100000
/-! DLl: the data layer, part l: what a for walks; isinstance; slices; methods of texts; all, any, sum; range lists. -/
namespace DL
open PySem L2 PySem.Spec PyProof.Rows
variable [Tbs]

/-! ### what a for walks -/
def seqD (d : D) (Q : List D → Prop) : Prop := match d with
  | .lst ds => Q ds
  | .tup ds => Q ds
  | .ktu ds => Q ds
  | .str s => Q (s.cps.toList.map fun c => .str ⟨#[c]⟩)
  | _ => False
def itSeq (t : ET) : ITd := fun env Q R => t env (fun d _ env1 => seqD d fun ds => Q ds env1) R
theorem pi_or {X : Cx} {tg iter : Expr} {t t' : TI} (h : PI X tg iter t) (h' : PI X tg iter t') : PI X tg iter (fun σ H R => t σ H R ∨ t' σ H R) := ⟨fun pins s σ H R I w => w.elim (h.run pins s σ H R I) (h'.run pins s σ H R I)⟩
section
variable {K : PySem.W.Frag} {mg : MG} {F : Hp}
theorem itok_list {a : Addr} {ds : List D} {vs : List V} (h1 : Rd F a (.lst vs)) (h2 : Reps K mg F ds vs) : ItOk K mg (Itl K a) ds F where
  go := fun i H e hi => by
    have hv : i < vs.length := by rw [h2.length]; exact hi
    exact ⟨vs, vs[i], .inl (rd_mono e h1), List.getElem?_eq_getElem hv⟩
  stop := fun i H e hi => ⟨vs, .inl (rd_mono e h1), by rw [h2.length]; exact hi⟩
  yld := fun i H v H' e _ ⟨e1, y⟩ => by
    obtain ⟨d, hd, r⟩ := h2.get' (y vs (.inl (rd_mono e h1)))
    exact ⟨d, hd, .inl ⟨e1, r⟩⟩
theorem itok_tup {a : Addr} {ds : List D} {vs : List V} (h1 : SqT K F a vs) (h2 : Reps K mg F ds vs) : ItOk K mg (Itt K a) ds F where
  go := fun i H e hi => by
    have hv : i < vs.length := by rw [h2.length]; exact hi
    exact ⟨vs, vs[i], sqt_mono e h1, List.getElem?_eq_getElem hv⟩
  stop := fun i H e hi => ⟨vs, sqt_mono e h1, by rw [h2.length]; exact hi⟩
  yld := fun i H v H' e _ ⟨e1, y⟩ => by
    obtain ⟨d, hd, r⟩ := h2.get' (y vs (sqt_mono e h1))
    exact ⟨d, hd, .inl ⟨e1, r⟩⟩
theorem itok_str {s : Str} : ItOk K mg (Its s) (s.cps.toList.map fun c => .str ⟨#[c]⟩) F where
  go := fun i H e hi => by
    rw [List.length_map, Array.length_toList] at hi
    exact hi
  stop := fun i H e hi => by
    rw [List.length_map, Array.length_toList] at hi
    exact hi
  yld := fun i H v H' e _ ⟨e1, c, hc, ev⟩ => ⟨.str ⟨#[c]⟩, by rw [List.getElem?_map, Array.getElem?_toList, hc]; rfl, .inl ⟨e1, ev⟩⟩
def rngD (lo : Int) (n : Nat) : List D := (List.range n).map fun (i : Nat) => D.int (lo + (i : Int))
def rngC (lo c : Int) (n : Nat) : List D := (List.range n).map fun (i : Nat) => D.int (lo + (i : Int) * c)
theorem rngD_len {lo : Int} {n : Nat} : (rngD lo n).length = n := by simp [rngD]
theorem rngC_len {lo c : Int} {n : Nat} : (rngC lo c n).length = n := by simp [rngC]
theorem rngD_get {lo : Int} {n i : Nat} (h : i < n) : (rngD lo n)[i]? = some (.int (lo + (i : Int))) := by simp [rngD, h]
theorem rngC_get {lo c : Int} {n i : Nat} (h : i < n) : (rngC lo c n)[i]? = some (.int (lo + (i : Int) * c)) := by simp [rngC, h]
theorem itok_rng {lo : Int} {n : Nat} : ItOk K mg (Itr lo n) (rngD lo n) F where
  go := fun i H e hi => by rw [rngD_len] at hi; exact hi
  stop := fun i H e hi => by rw [rngD_len] at hi; exact hi
  yld := fun i H v H' e hi ⟨e1, ev⟩ => ⟨.int (lo + i), rngD_get (by rw [rngD_len] at hi; exact hi), .inl ⟨e1, ev⟩⟩
theorem itok_rngC {lo c : Int} {n : Nat} : ItOk K mg (Itc lo c n) (rngC lo c n) F where
  go := fun i H e hi => by rw [rngC_len] at hi; exact hi
  stop := fun i H e hi => by rw [rngC_len] at hi; exact hi
  yld := fun i H v H' e hi ⟨e1, ev⟩ => ⟨.int (lo + i * c), rngC_get (by rw [rngC_len] at hi; exact hi), .inl ⟨e1, ev⟩⟩
/-- pairs of a number and an item -/
def enumD (ds : List D) : List D := (List.range ds.length).map fun (i : Nat) => D.tup [.int (i : Int), ds.getD i .non]
theorem enumD_len {ds : List D} : (enumD ds).length = ds.length := by simp [enumD]
theorem enumD_get {ds : List D} {i : Nat} {d : D} (h : ds[i]? = some d) : (enumD ds)[i]? = some (.tup [.int (i : Int), d]) := by
  have hl := (List.getElem?_eq_some_iff.mp h).1
  have hg := (List.getElem?_eq_some_iff.mp h).2
  simp [enumD, hl, hg]
theorem itok_enum {a : Addr} {ds : List D} {vs : List V} (h1 : Rd F a (.lst vs)) (h2 : Reps K mg F ds vs) : ItOk K mg (Ite K a) (enumD ds) F where
  go := fun i H e hi => by
    rw [enumD_len] at hi
    have hv : i < vs.length := by rw [h2.length]; exact hi
    exact ⟨vs, vs[i], .inl (rd_mono e h1), List.getElem?_eq_getElem hv⟩
  stop := fun i H e hi => ⟨vs, .inl (rd_mono e h1), by rw [enumD_len] at hi; rw [h2.length]; exact hi⟩
  yld := fun i H v H' e _ ⟨p, x, ev, hp, eh, y⟩ => by
    obtain ⟨d, hd, r⟩ := h2.get' (y vs (.inl (rd_mono e h1)))
    exact ⟨_, enumD_get hd, .inr (.inl ⟨p, _, _, ev, hp, eh, rfl, ⟨_, _, rfl, rfl, _, _, rfl, r, rfl⟩⟩)⟩
def zipD : List D → List D → List D
  | x :: xs, y :: ys => .tup [x, y] :: zipD xs ys
  | _, _ => []
theorem zipD_get : ∀ {xs ys : List D} {i : Nat} {x y : D}, xs[i]? = some x → ys[i]? = some y → (zipD xs ys)[i]? = some (.tup [x, y])
  | a :: xs, b :: ys, 0, x, y, h, g => by
    have e1 : a = x := by simpa using h
    have e2 : b = y := by simpa using g
    subst e1; subst e2
    rfl
  | a :: xs, b :: ys, i + 1, x, y, h, g => by simpa [zipD] using zipD_get (xs := xs) (ys := ys) (i := i) (by simpa using h) (by simpa using g)
  | [], _, _, _, _, h, _ => by simp at h
  | _ :: _, [], _, _, _, _, g => by simp at g
theorem zipD_len : ∀ {xs ys : List D}, (zipD xs ys).length = min xs.length ys.length
  | [], _ => by simp [zipD]
  | _ :: _, [] => by simp [zipD]
  | a :: xs, b :: ys => by simp [zipD, zipD_len (xs := xs) (ys := ys)]
theorem itok_zip {a b : Addr} {ds es : List D} {vs ws : List V} (h1 : Rd F a (.lst vs)) (h2 : Reps K mg F ds vs) (g1 : Rd F b (.lst ws)) (g2 : Reps K mg F es ws) : ItOk K mg (Itz K a b) (zipD ds es) F where
  go := fun i H e hi => by
    rw [zipD_len] at hi
    have hv : i < vs.length := by rw [h2.length]; omega
    have hw : i < ws.length := by rw [g2.length]; omega
    exact ⟨vs, ws, vs[i], ws[i], .inl (rd_mono e h1), .inl (rd_mono e g1), List.getElem?_eq_getElem hv, List.getElem?_eq_getElem hw⟩
  stop := fun i H e hi => ⟨vs, ws, .inl (rd_mono e h1), .inl (rd_mono e g1), by rw [zipD_len] at hi; rw [h2.length, g2.length]; omega⟩
  yld := fun i H v H' e _ ⟨p, x, y, ev, hp, eh, y1, y2⟩ => by
    obtain ⟨d, hd, r⟩ := h2.get' (y1 vs (.inl (rd_mono e h1)))
    obtain ⟨d', hd', r'⟩ := g2.get' (y2 ws (.inl (rd_mono e g1)))
    exact ⟨_, zipD_get hd hd', .inr (.inl ⟨p, _, _, ev, hp, eh, rfl, ⟨_, _, rfl, r, _, _, rfl, r', rfl⟩⟩)⟩
theorem itok_rev {a : Addr} {ds : List D} {vs : List V} (h1 : Rd F a (.lst vs)) (h2 : Reps K mg F ds vs) : ItOk K mg (Itv K a vs.length) ds.reverse F where
  go := fun i H e hi => by
    rw [List.length_reverse] at hi
    have hv : vs.length - 1 - i < vs.length := by rw [h2.length]; omega
    exact ⟨by rw [h2.length]; exact hi, vs, vs[vs.length - 1 - i], .inl (rd_mono e h1), List.getElem?_eq_getElem hv⟩
  stop := fun i H e hi => by
    rw [List.length_reverse] at hi
    show vs.length ≤ i
    rw [h2.length]; exact hi
  yld := fun i H v H' e hi ⟨e1, y⟩ => by
    rw [List.length_reverse] at hi
    obtain ⟨d, hd, r⟩ := h2.get' (y vs (.inl (rd_mono e h1)))
    refine ⟨d, ?_, .inl ⟨e1, r⟩⟩
    rw [List.getElem?_reverse hi, ← h2.length]
    exact hd
end
/-- any of a list, a tuple, a text -/
theorem pi_any {X : Cx} {tg l : Expr} {tl : TE} (hl : PE X l tl) : PI X tg l (fun σ H R => tl σ H fun x H1 => (∃ a, x = .ref a ∧ (∃ xs, SqL X.K H1 a xs) ∧ R (Itl X.K a) H1) ∨ (∃ a, x = .ref a ∧ (∃ xs, SqT X.K H1 a xs) ∧ R (Itt X.K a) H1) ∨ ∃ z, x = .str z ∧ R (Its z) H1) := by
  refine ⟨fun pins s σ H R I h => ?_⟩
  refine thn (hl.run pins s σ H _ I h) fun v s1 ⟨x, H1, I1, r1, q1⟩ => ?_
  rcases q1 with ⟨a, e, ⟨xs, hq⟩, q⟩ | ⟨a, e, ⟨xs, hq⟩, q⟩ | ⟨z, ez, q⟩
  · subst e
    cases r1
    obtain ⟨its, rv, p, hz⟩ := I1.list hq
    refine wpAny_pyIter_list p.isList ?_
    refine ⟨s1.heap.objs.size, [s1.heap.objs.size], _, _, H1, rfl, I1.kept (t' := s1.toks) fun b o e => Heap.get?_push_of_some _ e, turn_list a _, ⟨_, Heap.get?_push_size _ rfl, rfl, rfl⟩, fun b hb => ?_, q⟩
    have e : b = s1.heap.objs.size := by simpa using hb
    subst e
    exact I1.fpOk (Nat.le_refl _) (I1.hok.fresh (Nat.le_refl _))
  · subst e
    cases r1
    obtain ⟨its, rv, p, hz⟩ := I1.tuple hq
    refine wpAny_pyIter_tuple (show s1.heap.IsTuple a its.toArray from p) ?_
    refine ⟨s1.heap.objs.size, [s1.heap.objs.size], _, _, H1, rfl, I1.kept (t' := s1.toks) fun b o e => Heap.get?_push_of_some _ e, turn_tuple a _, ⟨_, Heap.get?_push_size _ rfl, rfl, rfl⟩, fun b hb => ?_, q⟩
    have e : b = s1.heap.objs.size := by simpa using hb
    subst e
    exact I1.fpOk (Nat.le_refl _) (I1.hok.fresh (Nat.le_refl _))
  · subst ez
    obtain ⟨t, rfl⟩ := r1
    cases ha : z.cps.all (· < 128)
    · exact wpAny_pyIter_wide ha (pi_one (tk := s1.toks) I1 _ (turn_str _ z t "str_iterator" (.inr rfl)) ⟨_, Heap.get?_push_size _ rfl, rfl, rfl⟩ q)
    · exact wpAny_pyIter_ascii ha (pi_one (tk := s1.toks) I1 _ (turn_str _ z t "str_ascii_iterator" (.inl rfl)) ⟨_, Heap.get?_push_size _ rfl, rfl, rfl⟩ q)
def itN (od : List D → (List D → Prop) → Prop) (t : AT) : ITd := fun env Q R => t env (fun xs env1 => od xs fun ds => Q ds env1) R
def odRng1 : List D → (List D → Prop) → Prop
  | [.int j], Q => (-(2 ^ 62) ≤ j ∧ j < 2 ^ 62) ∧ Q (rngD 0 j.toNat)
  | _, _ => False
def odRng2 : List D → (List D → Prop) → Prop
  | [.int i, .int j], Q => (-(2 ^ 62) ≤ i ∧ i < 2 ^ 62 ∧ -(2 ^ 62) ≤ j ∧ j < 2 ^ 62) ∧ Q (rngD i (j - i).toNat)
  | _, _ => False
/-- range(i, j, c): going down by one, or any step whose number of turns is told -/
def odRng3 : List D → (List D → Prop) → Prop
  | [.int i, .int j, .int c], Q => ∃ n, RgC i j c n ∧ Q (rngC i c n)
  | _, _ => False
def odEnum : List D → (List D → Prop) → Prop
  | [.lst ds], Q => Q (enumD ds)
  | _, _ => False
def odZip : List D → (List D → Prop) → Prop
  | [.lst ds, .lst es], Q => Q (zipD ds es)
  | _, _ => False
def odRev : List D → (List D → Prop) → Prop
  | [.lst ds], Q => Q ds.reverse
  | _, _ => False
section
variable {X : Cx} {tg e e2 e3 : Expr} {es : List Expr} {t : ET} {ta : AT} {p pos tpos : Pos} {elts : List Expr} {kk : Nat}
theorem di_seq (h : DE X e t) : DI X tg e (itSeq t) := by
  intro W tk
  refine piI (pi_any (h W tk)) ?_
  rintro σ H R' ⟨io, env, F, O, Q, R, I, q, k, kX⟩
  refine ⟨io, env, F, O, _, R, I, q, ?_, kX⟩
  intro d n env1 F1 O1 H1 v P A1 T1 r1 h1
  have A1' := A1.frz T1
  have r1' := A1.frz_rep r1
  cases d with
  | lst ds =>
    obtain ⟨a, vs, rfl, g1, g2⟩ := r1'
    exact .inl ⟨a, rfl, ⟨vs, .inl (rd_mono A1'.si.sub g1)⟩, k ds env1 _ O1 H1 _ A1' (itok_list g1 g2) h1⟩
  | tup ds =>
    obtain ⟨a, vs, rfl, g1, g2⟩ := r1'
    exact .inr (.inl ⟨a, rfl, ⟨vs, .inl (.inl (A1'.si.sub _ _ g1))⟩, k ds env1 _ O1 H1 _ A1' (itok_tup (.inl (.inl g1)) g2) h1⟩)
  | ktu ds =>
    obtain ⟨a, vs, rfl, g1, g2⟩ := r1'
    exact .inr (.inl ⟨a, rfl, ⟨vs, sqt_mono A1'.si.sub g1⟩, k ds env1 _ O1 H1 _ A1' (itok_tup g1 g2) h1⟩)
  | str s =>
    cases (show v = _ from r1')
    exact .inr (.inr ⟨s, rfl, k _ env1 _ O1 H1 _ A1' itok_str h1⟩)
  | _ => exact (show False from h1).elim
theorem di_rng1 (hm : X.mg "range" = none) (ha : DA X [e] ta) (hg : Gl X "range" := by rfl) (hs : starEach [e] X.env = [(false, eval e X.env)] := by rfl) : DI X tg (.Call (.Name "range" p) [e] [] pos) (itN odRng1 ta) := by
  intro W tk
  refine piI (pi_range1 hg hm (ha W tk) hs) ?_
  rintro σ H R' ⟨io, env, F, O, Q, R, I, q, k, kX⟩
  refine ⟨io, env, F, O, _, R, I, q, ?_, kX⟩
  intro xs env1 F1 O1 H1 vs A1 r1 h1
  match xs, h1, r1 with
  | [.int j], h1, r1 =>
    obtain ⟨v, _, rfl, rv, rfl⟩ := r1
    cases (show v = _ from rv)
    exact ⟨j, rfl, h1.1.1, h1.1.2, k _ env1 F1 O1 H1 _ A1 itok_rng h1.2⟩
theorem di_rng2 (hm : X.mg "range" = none) (ha : DA X [e, e2] ta) (hg : Gl X "range" := by rfl) (hs : starEach [e, e2] X.env = [(false, eval e X.env), (false, eval e2 X.env)] := by rfl) (hs2 : starEach [e2] X.env = [(false, eval e2 X.env)] := by rfl) :
    DI X tg (.Call (.Name "range" p) [e, e2] [] pos) (itN odRng2 ta) := by
  intro W tk
  refine piI (pi_range2 hg hm (ha W tk) hs hs2) ?_
  rintro σ H R' ⟨io, env, F, O, Q, R, I, q, k, kX⟩
  refine ⟨io, env, F, O, _, R, I, q, ?_, kX⟩
  intro xs env1 F1 O1 H1 vs A1 r1 h1
  match xs, h1, r1 with
  | [.int i, .int j], h1, r1 =>
    obtain ⟨v, _, rfl, rv, w, _, rfl, rw_, rfl⟩ := r1
    cases (show v = _ from rv)
    cases (show w = _ from rw_)
    exact ⟨i, j, rfl, h1.1, k _ env1 F1 O1 H1 _ A1 itok_rng h1.2⟩
theorem di_rng3 (hm : X.mg "range" = none) (ha : DA X [e, e2, e3] ta) (hg : Gl X "range" := by rfl) (hs : starEach [e, e2, e3] X.env = (false, eval e X.env) :: starEach [e2, e3] X.env := by rfl) (hpl : (backTo pos (starEach [e2, e3] X.env)).any (·.1) = false := by rfl) :
    DI X tg (.Call (.Name "range" p) [e, e2, e3] [] pos) (itN odRng3 ta) := by
  intro W tk
  refine piI (pi_range3 hg hm (ha W tk) hs hpl) ?_
  rintro σ H R' ⟨io, env, F, O, Q, R, I, q, k, kX⟩
  refine ⟨io, env, F, O, _, R, I, q, ?_, kX⟩
  intro xs env1 F1 O1 H1 vs A1 r1 h1
  match xs, h1, r1 with
  | [.int i, .int j, .int c], ⟨n, hn, h1⟩, r1 =>
    obtain ⟨v, _, rfl, rv, w, _, rfl, rw_, u, _, rfl, ru, rfl⟩ := r1
    cases (show v = _ from rv)
    cases (show w = _ from rw_)
    cases (show u = _ from ru)
    exact ⟨i, j, c, n, rfl, hn, k _ env1 F1 O1 H1 _ A1 itok_rngC h1⟩
theorem di_zip (hm : X.mg "zip" = none) (ha : DA X [e, e2] ta) (hg : Gl X "zip" := by rfl) (hs : starEach [e, e2] X.env = (false, eval e X.env) :: starEach [e2] X.env := by rfl) (hpl : (backTo pos (starEach [e2] X.env)).any (·.1) = false := by rfl) :
    DI X (.Tuple elts kk tpos) (.Call (.Name "zip" p) [e, e2] [] pos) (itN odZip ta) := by
  intro W tk
  refine piI (pi_zip hg hm (ha W tk) hs hpl) ?_
  rintro σ H R' ⟨io, env, F, O, Q, R, I, q, k, kX⟩
  refine ⟨io, env, F, O, _, R, I, q, ?_, kX⟩
  intro xs env1 F1 O1 H1 vs A1 r1 h1
  match xs, h1, r1 with
  | [.lst ds, .lst es], h1, r1 =>
    obtain ⟨v, _, rfl, ⟨a, vs, rfl, g1, g2⟩, w, _, rfl, ⟨b, ws, rfl, t1, t2⟩, rfl⟩ := r1
    exact ⟨a, b, vs, ws, rfl, .inl (rd_mono A1.si.sub g1), .inl (rd_mono A1.si.sub t1), k _ env1 F1 O1 H1 _ A1 (itok_zip g1 g2 t1 t2) h1⟩
theorem di_rev (hm : X.mg "reversed" = none) (ha : DA X [e] ta) (hg : Gl X "reversed" := by rfl) (hs : starEach [e] X.env = [(false, eval e X.env)] := by rfl) : DI X tg (.Call (.Name "reversed" p) [e] [] pos) (itN odRev ta) := by
  intro W tk
  refine piI (pi_reversed hg hm (ha W tk) hs) ?_
  rintro σ H R' ⟨io, env, F, O, Q, R, I, q, k, kX⟩
  refine ⟨io, env, F, O, _, R, I, q, ?_, kX⟩
  intro xs env1 F1 O1 H1 vs A1 r1 h1
  match xs, h1, r1 with
  | [.lst ds], h1, r1 =>
    obtain ⟨v, _, rfl, ⟨a, vs, rfl, g1, g2⟩, rfl⟩ := r1
    exact ⟨a, vs, rfl, .inl (rd_mono A1.si.sub g1), k _ env1 F1 O1 H1 _ A1 (itok_rev g1 g2) h1⟩
theorem di_enumL (hm : X.mg "enumerate" = none) (ha : DA X [e] ta) (hg : Gl X "enumerate" := by rfl) (hs : starEach [e] X.env = [(false, eval e X.env)] := by rfl) : DI X (.Tuple elts kk tpos) (.Call (.Name "enumerate" p) [e] [] pos) (itN odEnum ta) := by
  intro W tk
  refine piI (pi_enum hg hm (ha W tk) hs) ?_
  rintro σ H R' ⟨io, env, F, O, Q, R, I, q, k, kX⟩
  refine ⟨io, env, F, O, _, R, I, q, ?_, kX⟩
  intro xs env1 F1 O1 H1 vs A1 r1 h1
  match xs, h1, r1 with
  | [.lst ds], h1, r1 =>
    obtain ⟨v, _, rfl, ⟨a, vs, rfl, g1, g2⟩, rfl⟩ := r1
    exact ⟨a, vs, rfl, .inl (rd_mono A1.si.sub g1), k _ env1 F1 O1 H1 _ A1 (itok_enum g1 g2) h1⟩
end
/-! ### list(range(..)) -/
theorem reps_rg {K : PySem.W.Frag} {mg : MG} {F : Hp} (a b : Int) : Reps K mg F (rngD a (b - a).toNat) (rgV a b) := by
  have go : ∀ l : List Nat, Reps K mg F (l.map fun (i : Nat) => D.int (a + (i : Int))) (l.map fun (i : Nat) => V.int (a + (i : Int))) := by
    intro l
    induction l with
    | nil => rfl
    | cons x t ih => exact ⟨_, _, rfl, rfl, ih⟩
  exact go _
def eListRg (t : AT) : ET := fun env Q R => t env (fun xs env1 => match xs with
  | [.int j] => RgOk 0 j ∧ Q (.lst (rngD 0 j.toNat)) 1 env1
  | [.int i, .int j] => RgOk i j ∧ Q (.lst (rngD i (j - i).toNat)) 1 env1
  | _ => False) R
section
variable {X : Cx} {a b : Expr} {ta tb : ET} {p p2 pos pos2 : Pos}
theorem de_listRg2 (hc : X.calm = true) (hm : X.mg "list" = none) (hm2 : X.mg "range" = none) (ha : DE X a ta) (hb : DE X b tb) (hg : Gl X "list" := by rfl) (hg2 : Gl X "range" := by rfl)
    (na : starEach [a, b] X.env = (false, eval a X.env) :: starEach [b] X.env := by rfl) (nb : starEach [b] X.env = (false, eval b X.env) :: starEach [] X.env := by rfl) (hp : (backTo pos2 (starEach [b] X.env)).any (fun x => x.1) = false := by rfl)
    (ne : starEach [.Call (.Name "range" p2) [a, b] [] pos2] X.env = (false, eval (.Call (.Name "range" p2) [a, b] [] pos2) X.env) :: starEach [] X.env := by rfl) :
    DE X (.Call (.Name "list" p) [.Call (.Name "range" p2) [a, b] [] pos2] [] pos) (eListRg (aCons ta (aCons tb aNil))) := by
  intro W tk
  refine peI (pe_listRg hc hg hm (prg_2 hg2 hm2 (ha W tk) (hb W tk) na nb hp) ne) ?_
  rintro σ H Qh ⟨io, env, F, O, Q, R, I, h, kQ, kX⟩
  refine ⟨io, env, F, O, _, R, I, h, ?_, kX⟩
  intro x n env1 F1 O1 H1 v P A1 T1 r1 h1
  refine ⟨io, env1, F1, O1, _, R, A1.si, h1, ?_, kX.mv A1⟩
  intro y m env2 F2 O2 H2 w P2 A2 T2 r2 h2
  cases x <;> first | exact (show False from h2).elim | skip
  cases y <;> first | exact (show False from h2).elim | skip
  rename_i i j
  have ev : v = .int i := by cases n <;> exact r1
  have ew : w = .int j := by cases m <;> exact r2
  have A := A1.trans A2
  refine ⟨i, j, ev, ew, h2.1, fun q hq => ?_⟩
  exact (Fin.of kQ A).new (.lst _) (.lst _) q hq (reps_rg i j) h2.2
theorem de_listRg1 (hc : X.calm = true) (hm : X.mg "list" = none) (hm2 : X.mg "range" = none) (ha : DE X a ta) (hg : Gl X "list" := by rfl) (hg2 : Gl X "range" := by rfl)
    (na : starEach [a] X.env = (false, eval a X.env) :: starEach [] X.env := by rfl)
    (ne : starEach [.Call (.Name "range" p2) [a] [] pos2] X.env = (false, eval (.Call (.Name "range" p2) [a] [] pos2) X.env) :: starEach [] X.env := by rfl) :
    DE X (.Call (.Name "list" p) [.Call (.Name "range" p2) [a] [] pos2] [] pos) (eListRg (aCons ta aNil)) := by
  intro W tk
  refine peI (pe_listRg hc hg hm (prg_1 hg2 hm2 (ha W tk) na) ne) ?_
  rintro σ H Qh ⟨io, env, F, O, Q, R, I, h, kQ, kX⟩
  refine ⟨io, env, F, O, _, R, I, h, ?_, kX⟩
  intro x n env1 F1 O1 H1 v P A1 T1 r1 h2
  cases x <;> first | exact (show False from h2).elim | skip
  rename_i j
  have ev : v = .int j := by cases n <;> exact r1
  refine ⟨j, ev, h2.1, fun q hq => ?_⟩
  refine (Fin.of kQ A1).new (.lst (rngD 0 j.toNat)) (.lst _) q hq ?_ h2.2
  have := reps_rg (K := X.K) (mg := X.mg) (F := F1) 0 j
  rw [Int.sub_zero] at this
  exact this
end
end DL
set_option Elab.async false
set_option linter.all false
set_option maxRecDepth 100000
/-! DLm: the data layer, part m: isinstance, slices, methods of texts, all, any, sum, a, b = x, y. -/
namespace DL
open PySem L2 PySem.Spec PyProof.Rows
variable [Tbs]

/-! ### isinstance by built-in classes -/
def tyS : D → Option String
  | .non => some "NoneType"
  | .bl _ => some "bool"
  | .int _ => some "int"
  | .str _ => some "str"
  | .tup _ => some "tuple"
  | .ktu _ => some "tuple"
  | .lst _ => some "list"
  | .dK _ => some "dict"
  | .dT _ => some "dict"
  | _ => none
/-- the classes that are asked -/
inductive Kd where
  | int | bool | str | list | tuple | dict
def Kd.s : Kd → String
  | .int => "int" | .bool => "bool" | .str => "str" | .list => "list" | .tuple => "tuple" | .dict => "dict"
def isK : D → Kd → Bool
  | .bl _, .int => true | .bl _, .bool => true | .int _, .int => true | .str _, .str => true | .tup _, .tuple => true | .ktu _, .tuple => true | .lst _, .list => true | .dK _, .dict => true | .dT _, .dict => true
  | _, _ => false
def isKs (d : D) : List Kd → Bool
  | [] => false
  | k :: ks => isK d k || isKs d ks
theorem kitB_is {d : D} {t : String} (h : tyS d = some t) (k : Kd) : kitB t k.s = some (isK d k) := by
  cases d <;> first | cases h; done | (cases h; cases k <;> first | (show _ = some true; decide +kernel) | (show _ = some false; decide +kernel))
def TyQ (K : PySem.W.Frag) (H : Hp) (v : V) (t : Value) : Prop := TyX K H v t ∨ ∃ a o kvs, v = .ref a ∧ H a = some (.frz o (.dT kvs)) ∧ t = .type "dict"
section
variable {X : Cx} {pins : List (Addr × Obj)} {σ : L2.St} {H : Hp} {s : Shared}
theorem kit_ofQ {x : V} {u t : Value} (I : Inv X pins σ H s) (rx : RelV x u) (ty : TyQ X.K H x t) : ∃ P : Heap → Prop, PySem.W.KitX X.K u t P ∧ P s.heap ∧ u ≠ .builtin "__main__.__loader__#opaque" := by
  rcases ty with ty | ⟨a, ob, kvs, rfl, ea, rfl⟩
  · exact kit_of I rx ty
  · cases (show u = Value.ref a from rx)
    obtain ⟨_, _, _, xs, _, o, es, ep, h1, h2, _⟩ := (show ObjOk X.prog X.w H s.heap a (.frz ob (.dT kvs)) from I.hok a _ ea)
    exact ⟨_, PySem.W.kitx_dict, ⟨o, h1, h2.1⟩, fun z => nomatch z⟩
end
theorem tyQ_of {K : PySem.W.Frag} {mg : MG} {H : Hp} {d : D} {v : V} {t : String} (h : tyS d = some t) (r : Rep K mg H d v) : TyQ K H v (.type t) := by
  cases d with
  | non => cases h; cases (show v = _ from r); exact .inl (.base .non)
  | bl b => cases h; cases (show v = _ from r); exact .inl (.base (.bl _))
  | int i => cases h; cases (show v = _ from r); exact .inl (.base (.int _))
  | str s => cases h; cases (show v = _ from r); exact .inl (.base (.str _))
  | tup ds => cases h; obtain ⟨a, vs, rfl, h1, _⟩ := r; exact .inl (.base (.tup h1))
  | ktu ds =>
    cases h
    obtain ⟨a, vs, rfl, h1, _⟩ := r
    rcases h1 with (h1 | ⟨o, h1⟩) | ⟨o, its, n, h1, h2, _⟩
    · exact .inl (.base (.tup h1))
    · exact .inl (.fTuple h1)
    · exact .inl (.kTuple h1 h2)
  | lst ds =>
    cases h
    obtain ⟨a, vs, rfl, h1, _⟩ := r
    rcases h1 with h1 | ⟨o, h1⟩
    · exact .inl (.base (.lst h1))
    · exact .inl (.base (.frz h1))
  | dK ds =>
    cases h
    obtain ⟨a, vs, rfl, h1, _⟩ := r
    rcases h1 with h1 | ⟨o, h1⟩
    · exact .inl (.base (.dK h1))
    · exact .inl (.fDict h1)
  | dT ds =>
    cases h
    obtain ⟨a, vs, rfl, h1, _⟩ := r
    rcases h1 with h1 | ⟨o, h1⟩
    · exact .inl (.base (.dT h1))
    · exact .inr ⟨a, o, vs, rfl, h1, rfl⟩
  | _ => cases h
def rIsiQ (K : PySem.W.Frag) : List V → Hp → VK → Prop := fun xs H Q => ∃ (x c : V) (t u : Value) (b : Bool), xs = [x, c] ∧ ClsV c u ∧ TyQ K H x t ∧ PySem.W.kitOne K t u = some b ∧ Q (.bl b) H
def rIsiTQ (K : PySem.W.Frag) : List V → Hp → VK → Prop := fun xs H Q => ∃ (x : V) (tp : Addr) (cs : List V) (t : Value) (us : List Value) (b : Bool), xs = [x, .ref tp] ∧ H tp = some (.tup cs) ∧ Paired ClsV cs us ∧ TyQ K H x t ∧ PySem.W.kitAny K t us = some b ∧ Q (.bl b) H
theorem call_isiQ {X : Cx} : CallR X (.builtin "isinstance") (rIsiQ X.K) := by
  intro pins s σ H xs us Q I r h
  obtain ⟨x, c, t, u, b, rfl, k, ty, e, q⟩ := h
  obtain ⟨u1, u2, rfl, r1, r2⟩ := vals2 r
  have e2 := k.eq r2
  subst e2
  obtain ⟨P, Z, p, hx⟩ := kit_ofQ I r1 ty
  exact PySem.W.kia_one Z I.kIn p e hx fun tk => ⟨.bl b, H, I.tok tk, rfl, q⟩
theorem call_isiTQ {X : Cx} : CallR X (.builtin "isinstance") (rIsiTQ X.K) := by
  intro pins s σ H xs us Q I r h
  obtain ⟨x, tp, cs, t, ws, b, rfl, hT, k, ty, e, q⟩ := h
  obtain ⟨u1, u2, rfl, r1, r2⟩ := vals2 r
  cases (show u2 = Value.ref tp from r2)
  obtain ⟨P, Z, p, hx⟩ := kit_ofQ I r1 ty
  obtain ⟨_, its, rv, o, h1, h2, n, h3⟩ := (show ObjOk X.prog X.w H s.heap tp (.tup cs) from I.hok tp _ hT)
  have e3 := ClsV.all k rv
  subst e3
  obtain ⟨oc, od, dt, sl⟩ := o
  simp only at h2 h3
  subst h2 h3
  exact PySem.W.kia_tup Z I.kIn p h1 e hx fun tk => ⟨.bl b, H, I.tok tk, rfl, q⟩
/-- isinstance(e, k), isinstance(e, (k, ..)) -/
def pIs (t : PUT) (ks : List Kd) : PUT := fun env Q => t env fun d => match tyS d with | some _ => Q (.bl (isKs d ks)) | none => False
/-- a built-in class's name -/
def PKd (X : Cx) (e : Expr) (k : Kd) : Prop := PE X e (tC (.ty k.s))
theorem pkd {X : Cx} {x : Str} {pos : Pos} (k : Kd) (hm : X.mg x = none) (hv : bootBuiltins x = some (.type k.s)) (hg : Gl X x := by rfl) (hn : x ≠ "__name__" := by decide) (hd : (x == ("__debug__" : Str)) = false := by decide) : PKd X (.Name x pos) k := pe_bltn hg hm hv rfl hn hd
section
variable {X : Cx} {e c : Expr} {t : PUT} {p pos tpos : Pos} {kk : Nat}
theorem pu_is {k : Kd} (he : PU X e t) (hc : PKd X c k) (hm : X.mg "isinstance" = none) (hv : bootBuiltins "isinstance" = some (.builtin "isinstance")) (hg : Gl X "isinstance" := by rfl)
    (hs2 : starEach [c] X.env = (false, eval c X.env) :: starEach [] X.env := by rfl) (hs : starEach (e :: [c]) X.env = (false, eval e X.env) :: starEach [c] X.env := by rfl) (hpl : (backTo pos (starEach [c] X.env)).any (·.1) = false := by rfl) : PU X (.Call (.Name "isinstance" p) [e, c] [] pos) (pIs t [k]) := by
  refine peI (pe_callB call_isiQ hg hm hv (pa_cons he (pa_cons hc pa_nil hs2) hs) (by decide) (by decide) hs hpl) ?_
  rintro σ H Qh ⟨io, env, F, O, Q, I, h, kQ⟩
  refine ⟨io, env, F, O, _, I, h, fun d v H1 e1 r1 h1 => ?_⟩
  cases ht : tyS d with
  | none => rw [ht] at h1; exact h1.elim
  | some t =>
    rw [ht] at h1
    have h1 : Q (.bl (isK d k || false)) := h1
    rw [Bool.or_false] at h1
    exact ⟨v, .ty k.s, _, _, _, rfl, .ty _, tyQ_of ht r1, kit_ty (kitB_is ht k), kQ (.bl _) _ H1 e1 rfl h1⟩
/-- names of built-in classes in a tuple -/
inductive PKds (X : Cx) : List Expr → List Kd → Prop where
  | nil : PKds X [] []
  | cons {e : Expr} {es : List Expr} {k : Kd} {ks : List Kd} (h : PKd X e k) (hr : PKds X es ks) (hs : starEach (e :: es) X.env = (false, eval e X.env) :: starEach es X.env) : PKds X (e :: es) (k :: ks)
def tKds (ks : List Kd) : TA := fun _ H Q => Q (ks.map fun k => .ty k.s) H
theorem PKds.pa : ∀ {es : List Expr} {ks : List Kd}, PKds X es ks → PA X es (tKds ks)
  | _, _, .nil => pa_nil
  | _, _, .cons h hr hs => paI (pa_cons h hr.pa hs) fun σ H Q q => q
theorem kitAny_is {K : PySem.W.Frag} {d : D} {t : String} (h : tyS d = some t) : ∀ ks : List Kd, PySem.W.kitAny K (.type t) (ks.map fun k => .type k.s) = some (isKs d ks)
  | [] => kitAny_nil
  | k :: ks => kitAny_cons (kit_ty (kitB_is h k)) (fun e => by rw [kitAny_is h ks]; show _ = some (isK d k || isKs d ks); rw [e]; rfl) (fun e => by show (isK d k || isKs d ks) = true; rw [e]; rfl)
theorem cls_pair : ∀ ks : List Kd, Paired ClsV (ks.map fun k => V.ty k.s) (ks.map fun k => Value.type k.s)
  | [] => .nil
  | k :: ks => .cons (.ty _) (cls_pair ks)
theorem pu_isT {es : List Expr} {ks : List Kd} (he : PU X e t) (hc : PKds X es ks) (hl : ks.length ≤ sizeLine) (hm : X.mg "isinstance" = none) (hv : bootBuiltins "isinstance" = some (.builtin "isinstance")) (hg : Gl X "isinstance" := by rfl)
    (hs2 : starEach [.Tuple es kk tpos] X.env = (false, eval (.Tuple es kk tpos) X.env) :: starEach [] X.env := by rfl) (hs : starEach (e :: [.Tuple es kk tpos]) X.env = (false, eval e X.env) :: starEach [.Tuple es kk tpos] X.env := by rfl)
    (hpl : (backTo pos (starEach [.Tuple es kk tpos] X.env)).any (·.1) = false := by rfl) : PU X (.Call (.Name "isinstance" p) [e, .Tuple es kk tpos] [] pos) (pIs t ks) := by
  refine peI (pe_callB call_isiTQ hg hm hv (pa_cons he (pa_cons (pe_tup hc.pa) pa_nil hs2) hs) (by decide) (by decide) hs hpl) ?_
  rintro σ H Qh ⟨io, env, F, O, Q, I, h, kQ⟩
  refine ⟨io, env, F, O, _, I, h, fun d v H1 e1 r1 h1 => ?_⟩
  cases ht : tyS d with
  | none => rw [ht] at h1; exact h1.elim
  | some t =>
    rw [ht] at h1
    refine ⟨by rw [List.length_map]; exact hl, fun q hq => ⟨v, q, _, _, _, _, rfl, upd_same, cls_pair ks, tyQ_of ht (Rep.mono (same_upd hq) r1), kitAny_is ht ks, kQ (.bl _) _ _ (e1.trans (same_upd hq)) rfl h1⟩⟩
end
/-! ### slices -/
def cutD (xs : List D) (lo hi : Option Int) : List D := (xs.drop (HT.sIx xs.length 0 lo)).take (HT.sIx xs.length xs.length hi - HT.sIx xs.length 0 lo)
def odSl : D → Option Int → Option Int → Qn → Prop
  | .lst ds, lo, hi, Q => Q (.lst (cutD ds lo hi)) 1
  | .tup ds, lo, hi, Q => Q (.tup (cutD ds lo hi)) 0
  | .str s, lo, hi, Q => s.length ≤ sizeLine ∧ Q (.str (cutS s lo hi)) 0
  | _, _, _, _ => False
abbrev OTt := DEnv → (Option Int → DEnv → Prop) → QX → Prop
abbrev OPt := DEnv → (Option Int → Prop) → Prop
def oNone : OTt := fun env Q _ => Q none env
def oSome (t : ET) : OTt := fun env Q R => t env (fun d _ env1 => match d with | .int i => Q (some i) env1 | _ => False) R
def opNone : OPt := fun _ Q => Q none
def opSome (t : PUT) : OPt := fun env Q => t env fun d => match d with | .int i => Q (some i) | _ => False
def rdO (K : PySem.W.Frag) (mg : MG) (τ : OTt) (W : WX) : TO := fun σ H Qh => ∃ io env F O Q R, SI K mg io env σ F O H ∧ τ env Q R ∧ (∀ o env' F' O' H', At K mg io F O H env' σ F' O' H' → Q o env' → Qh o H') ∧ KX K mg io F O H R W
def rdOP (K : PySem.W.Frag) (mg : MG) (τ : OPt) : TO := fun σ H Qh => ∃ io env F O Q, SI K mg io env σ F O H ∧ τ env Q ∧ ∀ o H', Same H H' → Q o → Qh o H'
def DO (X : Cx) (e : Option Expr) (τ : OTt) : Prop := ∀ W, Takes X W → PO X e (rdO X.K X.mg τ W)
def PUO (X : Cx) (e : Option Expr) (τ : OPt) : Prop := PO X e (rdOP X.K X.mg τ)
theorem poI {X : Cx} {e : Option Expr} {t t' : TO} (h : PO X e t) (k : ∀ σ H Q, t' σ H Q → t σ H Q) : PO X e t' := ⟨fun pins s σ H Q I x => h.run pins s σ H Q I (k σ H Q x)⟩
theorem reps_cut {K : PySem.W.Frag} {mg : MG} {F : Hp} {ds : List D} {vs : List V} {lo hi : Option Int} (r : Reps K mg F ds vs) : Reps K mg F (cutD ds lo hi) (cutV vs lo hi) := by
  unfold cutD cutV
  rw [r.length]
  exact (r.drop _).take _
def rSlA2 (K : PySem.W.Frag) : V → Option Int → Option Int → Hp → VK → Prop := fun x lo hi H Q => rSlL K x lo hi H Q ∨ rSlA K x lo hi H Q ∨ rSlS x lo hi H Q
theorem sl_any {X : Cx} : SlR X (rSlA2 X.K) := sl_list.or (sl_tupA.or sl_str)
theorem okSl {X : Cx} {F H : Hp} {x : D} {v : V} {lo hi : Option Int} {Q : Qn} {Qh : VK} (e : Same F H) (r : Rep X.K X.mg F x v) (h : odSl x lo hi Q) (k : Fin X.K X.mg F H Q Qh) : rSlA2 X.K v lo hi H Qh := by
  cases x with
  | lst ds =>
    obtain ⟨a, vs, rfl, h1, h2⟩ := r
    exact .inl ⟨a, vs, rfl, .inl (rd_mono e h1), fun p hp => k.new (.lst _) (.lst _) p hp (reps_cut h2) h⟩
  | tup ds =>
    obtain ⟨a, vs, rfl, h1, h2⟩ := r
    refine .inr (.inl ⟨a, vs, rfl, .inl (.inl (e _ _ h1)), fun z => ?_, fun _ p hp => k.tup _ _ p hp (reps_cut h2) h⟩)
    refine k.old (.tup _) _ ⟨a, vs, rfl, h1, ?_⟩ h
    have q := reps_cut (lo := lo) (hi := hi) h2
    have ev : cutV vs lo hi = vs := by
      unfold cutV
      rw [z.1, z.2]
      simp
    rw [ev] at q
    exact q
  | str s =>
    cases (show v = _ from r)
    exact .inr (.inr ⟨s, rfl, h.1, k.old (.str _) _ rfl h.2⟩)
  | _ => exact (show False from h).elim
def eSl (t : ET) (lo hi : OTt) : ET := fun env Q R => t env (fun d _ env1 => lo env1 (fun l env2 => hi env2 (fun h env3 => odSl d l h fun z n => Q z n env3) R) R) R
def pSl (t : PUT) (lo hi : OPt) : PUT := fun env Q => t env fun d => lo env fun l => hi env fun h => odSl d l h fun z _ => Q z
section
variable {X : Cx} {e : Expr} {lo hi : Option Expr} {t : ET} {pt : PUT} {tl th : OTt} {pl ph : OPt} {p2 pos : Pos}
theorem do_none : DO X none oNone := fun W tk => poI po_none fun σ H Qh ⟨io, env, F, O, Q, R, I, h, k, _⟩ => k none env F O H (At.start I) h
theorem do_some (h : DE X e t) : DO X (some e) (oSome t) := by
  intro W tk
  refine poI (po_some (h W tk)) ?_
  rintro σ H Qh ⟨io, env, F, O, Q, R, I, h, kQ, kX⟩
  refine ⟨io, env, F, O, _, R, I, h, ?_, kX⟩
  intro d n env1 F1 O1 H1 v P A1 T1 r1 h1
  cases d <;> first | exact h1.elim | skip
  exact ⟨_, (by cases n <;> exact r1), kQ _ env1 F1 O1 H1 A1 h1⟩
theorem puo_none : PUO X none opNone := poI po_none fun σ H Qh ⟨io, env, F, O, Q, I, h, k⟩ => k none H (Same.refl _) h
theorem puo_some (h : PU X e pt) : PUO X (some e) (opSome pt) := by
  refine poI (po_some h) ?_
  rintro σ H Qh ⟨io, env, F, O, Q, I, h, kQ⟩
  refine ⟨io, env, F, O, _, I, h, fun d v H1 e1 r1 h1 => ?_⟩
  cases d <;> first | exact h1.elim | skip
  exact ⟨_, r1, kQ _ H1 e1 h1⟩
theorem de_slice (he : DE X e t) (hl : DO X lo tl) (hh : DO X hi th) : DE X (.Subscript e (.Slice lo hi none p2) pos) (eSl t tl th) := by
  intro W tk
  refine peI (pe_slice sl_any (he W tk) (hl W tk) (hh W tk)) ?_
  rintro σ H Qh ⟨io, env, F, O, Q, R, I, h, kQ, kX⟩
  refine ⟨io, env, F, O, _, R, I, h, ?_, kX⟩
  intro d n env1 F1 O1 H1 v P A1 T1 r1 h1
  have A1' := A1.frz T1
  refine ⟨io, env1, _, O1, _, R, A1'.si, h1, ?_, kX.mv A1'⟩
  intro l env2 F2 O2 H2 A2 h2
  refine ⟨io, env2, F2, O2, _, R, A2.si, h2, ?_, (kX.mv A1').mv A2⟩
  intro u env3 F3 O3 H3 A3 h3
  exact okSl (X := X) A3.si.sub (Rep.mono (A2.mv.ff.trans A3.mv.ff) (A1.frz_rep r1)) h3 (Fin.of kQ (A1'.trans (A2.trans A3)))
theorem pu_slice (he : PU X e pt) (hl : PUO X lo pl) (hh : PUO X hi ph) : PU X (.Subscript e (.Slice lo hi none p2) pos) (pSl pt pl ph) := by
  refine peI (pe_slice sl_any he hl hh) ?_
  rintro σ H Qh ⟨io, env, F, O, Q, I, h, kQ⟩
  refine ⟨io, env, F, O, _, I, h, fun d v H1 e1 r1 h1 => ⟨io, env, F, O, _, I.ext e1, h1, fun l H2 e2 h2 => ⟨io, env, F, O, _, (I.ext e1).ext e2, h2, fun u H3 e3 h3 => ?_⟩⟩⟩
  exact okSl (X := X) (Same.refl _) (Rep.mono (e2.trans e3) r1) h3 (Fin.ofP kQ ((e1.trans e2).trans e3))
end
/-! ### methods of texts -/
def OkM (X : Cx) (r : V → List V → Hp → VK → Prop) (od : OTM) : Prop := ∀ F H x xs v vs Q Qh, Same F H → Rep X.K X.mg F x v → Reps X.K X.mg F xs vs → od x xs Q → Fin X.K X.mg F H Q Qh → r v vs H Qh
def isStr : D → Prop → Prop
  | .str _, p => p
  | _, _ => False
def eM (od : OTM) (to : ET) (t : AT) : ET := fun env Q R => to env (fun x _ env1 => isStr x (t env1 (fun xs env2 => od x xs fun z n => Q z n env2) R)) R
def eM0 (od : OTM) (to : ET) : ET := fun env Q R => to env (fun x _ env1 => isStr x (od x [] fun z n => Q z n env1)) R
def pM0 (od : OTM) (to : PUT) : PUT := fun env Q => to env fun x => isStr x (od x [] fun z _ => Q z)
section
variable {X : Cx} {o e : Expr} {es : List Expr} {to : ET} {po : PUT} {t : AT} {name : Str} {apos cpos : Pos} {id : String} {r : V → List V → Hp → VK → Prop} {od : OTM}
theorem de_strM (slot : Slot "str" name id) (hty : typeOf (.builtin id) = pure (.type "method_descriptor")) (hm : MtR X id r) (k : OkM X r od) (ho : DE X o to) (ha : DA X (e :: es) t)
    (hbase : attributeBase o name X.env (eval o X.env) = eval o X.env := by rfl)
    (hfew : ((backTo cpos (starEach (e :: es) X.env)).all (fun x => !x.1) && (backToKw cpos (keywordEach [] X.env)).all (fun x => x.1.isSome)
      && decide ((e :: es).length + ([] : List Keyword).length + (if ([] : List Keyword).isEmpty then 0 else 1) < 30)) = true := by rfl)
    (hline : (apos.endLine == cpos.line) = true := by rfl) (hs : starEach (e :: es) X.env = (false, eval e X.env) :: starEach es X.env := by rfl) (hplain : (backTo cpos (starEach es X.env)).any (·.1) = false := by rfl) :
    DE X (.Call (.Attribute o name apos) (e :: es) [] cpos) (eM od to t) := by
  intro W tk
  refine peI (pe_bm PySem.F.plainAttrs_str slot hty hm (ho W tk) (ha W tk) hbase hfew hline hs hplain) ?_
  rintro σ H Qh ⟨io, env, F, O, Q, R, I, h, kQ, kX⟩
  refine ⟨io, env, F, O, _, R, I, h, ?_, kX⟩
  intro d n env1 F1 O1 H1 v P A1 T1 r1 h1
  cases d <;> first | exact h1.elim | skip
  have ev := sh_str r1
  subst ev
  refine ⟨rfl, io, env1, F1, O1, _, R, A1.si, h1, ?_, kX.mv A1⟩
  intro xs env2 F2 O2 H2 vs A2 r2 h2
  exact k F2 H2 (.str _) xs _ vs _ _ A2.si.sub rfl r2 h2 (Fin.of kQ (A1.trans A2))
theorem de_strM0 (slot : Slot "str" name id) (hty : typeOf (.builtin id) = pure (.type "method_descriptor")) (hm : MtR X id r) (k : OkM X r od) (ho : DE X o to)
    (hbase : attributeBase o name X.env (eval o X.env) = eval o X.env := by rfl) (hline : (apos.endLine == cpos.line) = true := by rfl) : DE X (.Call (.Attribute o name apos) [] [] cpos) (eM0 od to) := by
  intro W tk
  refine peI (pe_bm0 PySem.F.plainAttrs_str slot hty hm (ho W tk) hbase hline) ?_
  rintro σ H Qh ⟨io, env, F, O, Q, R, I, h, kQ, kX⟩
  refine ⟨io, env, F, O, _, R, I, h, ?_, kX⟩
  intro d n env1 F1 O1 H1 v P A1 T1 r1 h1
  cases d <;> first | exact h1.elim | skip
  have ev := sh_str r1
  subst ev
  exact ⟨rfl, k F1 H1 (.str _) [] _ [] _ _ A1.si.sub rfl rfl h1 (Fin.of kQ A1)⟩
theorem pu_strM0 (slot : Slot "str" name id) (hty : typeOf (.builtin id) = pure (.type "method_descriptor")) (hm : MtR X id r) (k : OkM X r od) (ho : PU X o po)
    (hbase : attributeBase o name X.env (eval o X.env) = eval o X.env := by rfl) (hline : (apos.endLine == cpos.line) = true := by rfl) : PU X (.Call (.Attribute o name apos) [] [] cpos) (pM0 od po) := by
  refine peI (pe_bm0 PySem.F.plainAttrs_str slot hty hm ho hbase hline) ?_
  rintro σ H Qh ⟨io, env, F, O, Q, I, h, kQ⟩
  refine ⟨io, env, F, O, _, I, h, fun d v H1 e1 r1 h1 => ?_⟩
  cases d <;> first | exact h1.elim | skip
  cases (show v = _ from r1)
  exact ⟨rfl, k H1 H1 (.str _) [] _ [] _ _ (Same.refl _) rfl rfl h1 (Fin.ofP kQ e1)⟩
end
def strsD : List D → Option (List Str)
  | [] => some []
  | .str s :: r => match strsD r with | some ss => some (s :: ss) | none => none
  | _ :: _ => none
theorem strsD_v {K : PySem.W.Frag} {mg : MG} {F : Hp} : ∀ {ds : List D} {ss : List Str} {vs : List V}, strsD ds = some ss → Reps K mg F ds vs → vs = ss.map V.str
  | [], _, _, h, r => by cases h; exact r
  | .str s :: ds, ss, _, h, ⟨v, t, h1, h2, h3⟩ => by
    unfold strsD at h
    cases e : strsD ds with
    | none => rw [e] at h; cases h
    | some ss' =>
      rw [e] at h
      cases h
      rw [h1, show v = _ from h2, strsD_v e h3]
      rfl
  | .non :: _, _, _, h, _ => nomatch h
  | .bl _ :: _, _, _, h, _ => nomatch h
  | .int _ :: _, _, _, h, _ => nomatch h
  | .tup _ :: _, _, _, h, _ => nomatch h
  | .lst _ :: _, _, _, h, _ => nomatch h
  | .dK _ :: _, _, _, h, _ => nomatch h
  | .dT _ :: _, _, _, h, _ => nomatch h
  | .obj _ _ :: _, _, _, h, _ => nomatch h
  | .fn _ :: _, _, _, h, _ => nomatch h
  | .ktu _ :: _, _, _, h, _ => nomatch h
  | .exn _ _ _ :: _, _, _, h, _ => nomatch h
  | .hole :: _, _, _, h, _ => nomatch h
def odJoin : OTM
  | .str a, [.lst ds], Q => match strsD ds with | some ss => (ss.map (·.length)).sum + ss.length * a.length ≤ 16777216 ∧ Q (.str (Txt.join a ss)) 0 | none => False
  | _, _, _ => False
def odSplit : OTM
  | .str a, [.str b], Q => ((b.length == 0) = false ∧ a.length + 2 ≤ sizeLine) ∧ Q (.lst ((Txt.split a b).map .str)) 1
  | _, _, _ => False
def odIsdigit : OTM
  | .str a, [], Q => Q (.bl (Txt.isdigit a)) 0
  | _, _, _ => False
section
variable {X : Cx}
theorem reps_strs {K : PySem.W.Frag} {mg : MG} {F : Hp} : ∀ ss : List Str, Reps K mg F (ss.map .str) (ss.map V.str)
  | [] => rfl
  | s :: ss => ⟨_, _, rfl, rfl, reps_strs ss⟩
theorem okJoin : OkM X (fun x xs H Q => ∃ a p, ∃ ys : List Str, x = .str a ∧ xs = [.ref p] ∧ (SqL X.K H p (ys.map V.str) ∨ SqT X.K H p (ys.map V.str)) ∧ (ys.map (·.length)).sum + ys.length * a.length ≤ 16777216 ∧ Q (.str (Txt.join a ys)) H) odJoin := by
  intro F H x xs v vs Q Qh e r1 r2 h k
  cases x <;> first | exact (show False from h).elim | skip
  rename_i a
  cases (show v = _ from r1)
  match xs, h, r2 with
  | [.lst ds], h, r2 =>
    obtain ⟨v, _, rfl, ⟨p, ws, rfl, g1, g2⟩, rfl⟩ := r2
    have h : (match strsD ds with | some ss => (ss.map (·.length)).sum + ss.length * a.length ≤ 16777216 ∧ Q (.str (Txt.join a ss)) 0 | none => False) := h
    cases es : strsD ds with
    | none => rw [es] at h; exact h.elim
    | some ss =>
      rw [es] at h
      have ev := strsD_v es g2
      subst ev
      exact ⟨a, p, ss, rfl, rfl, .inl (.inl (rd_mono e g1)), h.1, k.old (.str _) _ rfl h.2⟩
theorem okSplit : OkM X (fun x xs H Q => ∃ a b, x = .str a ∧ xs = [.str b] ∧ (b.length == 0) = false ∧ a.length + 2 ≤ sizeLine ∧ rNewStrs (Txt.split a b) H Q) odSplit := by
  intro F H x xs v vs Q Qh e r1 r2 h k
  cases x <;> first | exact (show False from h).elim | skip
  cases (show v = _ from r1)
  match xs, h, r2 with
  | [.str b], h, r2 =>
    obtain ⟨v, _, rfl, rv, rfl⟩ := r2
    cases (show v = _ from rv)
    exact ⟨_, b, rfl, rfl, h.1.1, h.1.2, fun p hp => k.new (.lst _) (.lst _) p hp (reps_strs _) h.2⟩
theorem okIsdigit : OkM X (fun x xs H Q => ∃ a, x = .str a ∧ xs = [] ∧ True ∧ Q (.bl (Txt.isdigit a)) H) odIsdigit := by
  intro F H x xs v vs Q Qh e r1 r2 h k
  cases x <;> first | exact (show False from h).elim | skip
  cases (show v = _ from r1)
  match xs, h, r2 with
  | [], h, r2 => exact ⟨_, rfl, r2, trivial, k.old (.bl _) _ rfl h⟩
end
/-! ### all, any, sum of lists -/
def blsD : List D → Option (List Bool)
  | [] => some []
  | .bl s :: r => match blsD r with | some ss => some (s :: ss) | none => none
  | _ :: _ => none
theorem blsD_v {K : PySem.W.Frag} {mg : MG} {F : Hp} : ∀ {ds : List D} {ss : List Bool} {vs : List V}, blsD ds = some ss → Reps K mg F ds vs → vs = ss.map V.bl
  | [], _, _, h, r => by cases h; exact r
  | .bl s :: ds, ss, _, h, ⟨v, t, h1, h2, h3⟩ => by
    unfold blsD at h
    cases e : blsD ds with
    | none => rw [e] at h; cases h
    | some ss' =>
      rw [e] at h
      cases h
      rw [h1, show v = _ from h2, blsD_v e h3]
      rfl
  | .non :: _, _, _, h, _ => nomatch h
  | .str _ :: _, _, _, h, _ => nomatch h
  | .int _ :: _, _, _, h, _ => nomatch h
  | .tup _ :: _, _, _, h, _ => nomatch h
  | .lst _ :: _, _, _, h, _ => nomatch h
  | .dK _ :: _, _, _, h, _ => nomatch h
  | .dT _ :: _, _, _, h, _ => nomatch h
  | .obj _ _ :: _, _, _, h, _ => nomatch h
  | .fn _ :: _, _, _, h, _ => nomatch h
  | .ktu _ :: _, _, _, h, _ => nomatch h
  | .exn _ _ _ :: _, _, _, h, _ => nomatch h
  | .hole :: _, _, _, h, _ => nomatch h
def intsD : List D → Option (List Int)
  | [] => some []
  | .int s :: r => match intsD r with | some ss => some (s :: ss) | none => none
  | _ :: _ => none
theorem intsD_v {K : PySem.W.Frag} {mg : MG} {F : Hp} : ∀ {ds : List D} {ss : List Int} {vs : List V}, intsD ds = some ss → Reps K mg F ds vs → vs = ss.map V.int
  | [], _, _, h, r => by cases h; exact r
  | .int s :: ds, ss, _, h, ⟨v, t, h1, h2, h3⟩ => by
    unfold intsD at h
    cases e : intsD ds with
    | none => rw [e] at h; cases h
    | some ss' =>
      rw [e] at h
      cases h
      rw [h1, show v = _ from h2, intsD_v e h3]
      rfl
  | .non :: _, _, _, h, _ => nomatch h
  | .str _ :: _, _, _, h, _ => nomatch h
  | .bl _ :: _, _, _, h, _ => nomatch h
  | .tup _ :: _, _, _, h, _ => nomatch h
  | .lst _ :: _, _, _, h, _ => nomatch h
  | .dK _ :: _, _, _, h, _ => nomatch h
  | .dT _ :: _, _, _, h, _ => nomatch h
  | .obj _ _ :: _, _, _, h, _ => nomatch h
  | .fn _ :: _, _, _, h, _ => nomatch h
  | .ktu _ :: _, _, _, h, _ => nomatch h
  | .exn _ _ _ :: _, _, _, h, _ => nomatch h
  | .hole :: _, _, _, h, _ => nomatch h
def someO {α : Type} (o : Option α) (k : α → Prop) : Prop := match o with | some x => k x | none => False
theorem someO_of {α : Type} {o : Option α} {k : α → Prop} (h : someO o k) : ∃ x, o = some x ∧ k x := by
  cases o with
  | none => exact h.elim
  | some x => exact ⟨x, rfl, h⟩
def odAll : OTN
  | [.lst ds], Q => someO (blsD ds) fun bs => Q (.bl (bs.all id)) 0
  | _, _ => False
def odAny : OTN
  | [.lst ds], Q => someO (blsD ds) fun bs => Q (.bl (bs.any id)) 0
  | _, _ => False
def odSum : OTN
  | [.lst ds], Q => someO (intsD ds) fun ns => Q (.int ns.sum) 0
  | _, _ => False
section
variable {X : Cx}
theorem okAll : OkN X (rAll X.K) odAll := by
  intro F H xs vs Q Qh e r h k
  match xs, h, r with
  | [.lst ds], h, r =>
    obtain ⟨v, _, rfl, ⟨p, ws, rfl, g1, g2⟩, rfl⟩ := r
    obtain ⟨bs, eb, q⟩ := someO_of h
    have ev := blsD_v eb g2
    subst ev
    exact ⟨p, bs, rfl, .inl (rd_mono e g1), k.old (.bl _) _ rfl q⟩
theorem okAny : OkN X (rAny X.K) odAny := by
  intro F H xs vs Q Qh e r h k
  match xs, h, r with
  | [.lst ds], h, r =>
    obtain ⟨v, _, rfl, ⟨p, ws, rfl, g1, g2⟩, rfl⟩ := r
    obtain ⟨bs, eb, q⟩ := someO_of h
    have ev := blsD_v eb g2
    subst ev
    exact ⟨p, bs, rfl, .inl (rd_mono e g1), k.old (.bl _) _ rfl q⟩
theorem okSum : OkN X (rSum X.K) odSum := by
  intro F H xs vs Q Qh e r h k
  match xs, h, r with
  | [.lst ds], h, r =>
    obtain ⟨v, _, rfl, ⟨p, ws, rfl, g1, g2⟩, rfl⟩ := r
    obtain ⟨bs, eb, q⟩ := someO_of h
    have ev := intsD_v eb g2
    subst ev
    exact ⟨p, bs, rfl, .inl (rd_mono e g1), k.old (.int _) _ rfl q⟩
end
/-! ### a, b = x, y -/
section
variable {K : PySem.W.Frag} {mg : MG} {io : Nat → Option V} {env : DEnv} {σ : L2.St} {F F1 F2 H H1 H2 : Hp} {O O1 O2 : OW} {P1 P2 : AP} {i : Nat}
theorem Tp.putO (t : Tp O H F1 O1 H1 P1) (t2 : Tp O H F1 O1 H1 P2) (dj : ∀ a, P1 a → P2 a → False) : Tp O H F1 (DL.putO O1 i P1) H1 P2 := ⟨fun a p => by
  obtain ⟨h1, h2, h3⟩ := t2.t a p
  refine ⟨h1, ?_, h3⟩
  cases z : DL.putO O1 i P1 a with
  | none => rfl
  | some j =>
    rcases putO_some.mp z with ⟨q, _⟩ | ⟨_, q, _⟩
    · exact (dj a q p).elim
    · rw [h2] at q; exact (nomatch q), t2.nw⟩
theorem Tp.disj (t1 : Tp O H F1 O1 H1 P1) (t2 : Tp O1 H1 F2 O2 H2 P2) : ∀ a, P1 a → P2 a → False := fun a p q => by
  obtain ⟨_, h2, o, h3, _⟩ := t1.t a p
  rcases t2.nw a q with z | ⟨k, z⟩
  · rw [h3] at z; cases z
  · rw [h2] at z; cases z
end
def sdPar (i j : Nat) (ta tb : ET) : SD := fun env D => ta env (fun d n env1 => tb env1 (fun e m env2 => D.nx ((env2.set i (some ⟨d, n, false⟩)).set j (some ⟨e, m, false⟩))) D.ex) D.ex
def sdPar3 (i j l : Nat) (ta tb tc : ET) : SD := fun env D => ta env (fun d n env1 => tb env1 (fun e m env2 => tc env2 (fun f k env3 => D.nx (((env3.set i (some ⟨d, n, false⟩)).set j (some ⟨e, m, false⟩)).set l (some ⟨f, k, false⟩))) D.ex) D.ex) D.ex
section
variable {X : Cx} {i j l : Nat} {x y z : Str} {a b c : Expr} {ta tb tc : ET} {px py pz pt pos : Pos} {kt k2 : Nat} {pt2 : Pos}
theorem ds_par (hc : X.calm = true) (hN : X.N.Nodup) (ha : DE X a ta) (hb : DE X b tb) (hij : i ≠ j := by decide) (hi : X.N[i]? = some x := by rfl) (hj : X.N[j]? = some y := by rfl)
    (hx : X.env.scope.names.lookup x = some .local := by rfl) (hy : X.env.scope.names.lookup y = some .local := by rfl)
    (s1 : starEach [a, b] X.env = (false, eval a X.env) :: starEach [b] X.env := by rfl) (s2 : starEach [b] X.env = (false, eval b X.env) :: starEach [] X.env := by rfl)
    (hw : swappedStores [.Tuple [.Name x px, .Name y py] kt pt] (.Tuple [a, b] k2 pt2) X.env = pure (some [x, y]) := by rfl)
    (hs : swapsWithSole [.Tuple [.Name x px, .Name y py] kt pt] (.Tuple [a, b] k2 pt2) pos.line X.env = pure false := by rfl) :
    DS X (.Assign [.Tuple [.Name x px, .Name y py] kt pt] (.Tuple [a, b] k2 pt2) pos) (sdPar i j ta tb) := by
  intro W tk
  refine psI (ps_par hc hN hi hj hij hx hy (pa_cons (ha W tk) (pa_cons (hb W tk) pa_nil s2) s1) hw hs) ?_
  rintro Dn σ H ⟨io, env, F, O, D, I, h, k1, k2, k3, k4, k5⟩
  refine ⟨io, env, F, O, _, _, I, h, ?_, k5⟩
  intro d n env1 F1 O1 H1 v P A1 T1 r1 h1
  refine ⟨io, env1, F1, O1, _, _, A1.si, h1, ?_, k5.mv A1⟩
  intro e m env2 F2 O2 H2 w P2 A2 T2 r2 h2
  have A := A1.trans A2
  have T1' := T1.mv A2.mv
  exact ⟨v, w, rfl, k1 _ _ _ _ _ ((A.set (i := i) T1' (r1.mv T1 A2.mv)).set (i := j) (T1'.putO (Tp.after A1.mv T2) (T1.disj T2)) r2) h2⟩
theorem ds_par3 (hc : X.calm = true) (hN : X.N.Nodup) (ha : DE X a ta) (hb : DE X b tb) (hcc : DE X c tc) (hij : i ≠ j := by decide) (hil : i ≠ l := by decide) (hjl : j ≠ l := by decide) (hi : X.N[i]? = some x := by rfl) (hj : X.N[j]? = some y := by rfl) (hl : X.N[l]? = some z := by rfl)
    (hx : X.env.scope.names.lookup x = some .local := by rfl) (hy : X.env.scope.names.lookup y = some .local := by rfl) (hz : X.env.scope.names.lookup z = some .local := by rfl)
    (s1 : starEach [a, b, c] X.env = (false, eval a X.env) :: starEach [b, c] X.env := by rfl) (s2 : starEach [b, c] X.env = (false, eval b X.env) :: starEach [c] X.env := by rfl) (s3 : starEach [c] X.env = (false, eval c X.env) :: starEach [] X.env := by rfl)
    (hw : swappedStores [.Tuple [.Name x px, .Name y py, .Name z pz] kt pt] (.Tuple [a, b, c] k2 pt2) X.env = pure (some [x, y, z]) := by rfl)
    (hs : swapsWithSole [.Tuple [.Name x px, .Name y py, .Name z pz] kt pt] (.Tuple [a, b, c] k2 pt2) pos.line X.env = pure false := by rfl) :
    DS X (.Assign [.Tuple [.Name x px, .Name y py, .Name z pz] kt pt] (.Tuple [a, b, c] k2 pt2) pos) (sdPar3 i j l ta tb tc) := by
  intro W tk
  refine psI (ps_par3 hc hN hi hj hl hij hil hjl hx hy hz (pa_cons (ha W tk) (pa_cons (hb W tk) (pa_cons (hcc W tk) pa_nil s3) s2) s1) hw hs) ?_
  rintro Dn σ H ⟨io, env, F, O, D, I, h, k1, k2, k3, k4, k5⟩
  refine ⟨io, env, F, O, _, _, I, h, ?_, k5⟩
  intro d n env1 F1 O1 H1 v P A1 T1 r1 h1
  refine ⟨io, env1, F1, O1, _, _, A1.si, h1, ?_, k5.mv A1⟩
  intro e m env2 F2 O2 H2 w P2 A2 T2 r2 h2
  refine ⟨io, env2, F2, O2, _, _, A2.si, h2, ?_, (k5.mv A1).mv A2⟩
  intro f k env3 F3 O3 H3 u P3 A3 T3 r3 h3
  have A := (A1.trans A2).trans A3
  have T1a := T1.mv (A2.mv.trans A3.mv)
  have T2a := T2.mv A3.mv
  have T2b := Tp.after A1.mv T2a
  have T3b := Tp.after A1.mv (Tp.after A2.mv T3)
  have d12 := T1.disj T2
  have d13 : ∀ a, P a → P3 a → False := (T1.mv A2.mv).disj T3
  have d23 : ∀ a, P2 a → P3 a → False := T2.disj T3
  exact ⟨v, w, u, rfl, k1 _ _ _ _ _ (((A.set (i := i) T1a (r1.mv T1 (A2.mv.trans A3.mv))).set (i := j) (T1a.putO T2b d12) (r2.mv T2 A3.mv)).set (i := l) ((T1a.putO T2b d12).putO (T1a.putO T3b d13) d23) r3) h3⟩
end
end DL
set_option Elab.async false
set_option linter.all false
set_option maxRecDepth 100000
/-! DLn: the data layer, part n: enumerate of a tuple; chains of comparisons; dicts as they are made, walked, asked. -/
namespace DL
open PySem L2 PySem.Spec PyProof.Rows
variable [Tbs]
open Sem (wp)

/-! ### enumerate(t), t a tuple -/
set_option maxHeartbeats 1000000 in
theorem meets_enumT {v : Value} {ob : Obj} {HP : Heap → Prop} (B : Begins v ob HP) :
    Meets (Builtin.«enumerate.__new__» ⟨[.type "enumerate", v], []⟩) (fun _ R s => HP s.heap ∧
      R (.ok (.ret (.ref (s.heap.push ob).objs.size))) { s with heap := (s.heap.push ob).push { cls := .type "enumerate", data := .fields #[.none, .bool false, .ref s.heap.objs.size, rawInt 0, .none, .none] } }) :=
  .of_wp fun prog w A R s h => by
    obtain ⟨hp, g, d, tk, os⟩ := s
    obtain ⟨h1, h⟩ := h
    have hsub := sub_enumerate
    have it1 : ∀ {A' : Around} {EE : Value → Shared → Prop} {QQ : Value → Shared → Prop}, QQ (.ref hp.objs.size) ⟨hp.push ob, g, d, tk, os⟩ → wpAny (model prog w) A' (pyIter v) QQ EE ⟨hp, g, d, tk, os⟩ :=
      fun q => B.iter prog w _ _ ⟨hp, g, d, tk, os⟩ _ h1 q
    wp_walk using it1
    refine wpAny_stack_any fun st => wpAny_pure ?_
    split
    · rename_i c _ _ _ _ _
      cases (c == Value.type "enumerate")
      · wp_walk using it1
        exact ⟨_, rfl, h⟩
      · wp_walk using it1
        exact ⟨_, rfl, h⟩
    · wp_walk using it1
      exact ⟨_, rfl, h⟩
theorem enum_at {prog : Program} {w : World} {A : Around} {E : Value → Shared → Prop} {s : Shared} {v : Value} {ob : Obj} {HP : Heap → Prop} {Q : Value → Shared → Prop} (B : Begins v ob HP) (h1 : HP s.heap)
    (h : ∀ h', IsEnum h' (s.heap.objs.size + 1) s.heap.objs.size 0 .none → h'.get? s.heap.objs.size = some ob → h'.objs.size = s.heap.objs.size + 2 → (∀ b o, s.heap.get? b = some o → h'.get? b = some o) → Q (.ref (s.heap.objs.size + 1)) { s with heap := h' }) :
    wpAny (model prog w) A (call (.type "enumerate") [v]) Q E s := by
  refine callType_new F.called_enumerate (by decide) (F.typeCall_enumerate_1 _) (F.newCall_enumerate_1 _) (fun obj => F.args_object_init_2 obj _) F.entry_enumerate_new (meets_enumT B) ⟨h1, ?_⟩
  have zz : (s.heap.push ob).objs.size = s.heap.objs.size + 1 := Heap.size_push ..
  show _ ∧ _
  rw [zz]
  have ie := Heap.get?_push_size (s.heap.push ob) (o := { cls := .type "enumerate", data := .fields #[.none, .bool false, .ref s.heap.objs.size, rawInt 0, .none, .none] }) rfl
  rw [zz] at ie
  exact ⟨⟨_, ie, rfl⟩, h _ ie (Heap.get?_push_of_some _ (Heap.get?_push_size _ B.free)) (by rw [Heap.size_push, zz]) fun b o x => Heap.get?_push_of_some _ (Heap.get?_push_of_some _ x)⟩
/-- the tuple at a as it stands, each item in a new pair -/
def Itet (K : PySem.W.Frag) (a : Addr) : It :=
  ⟨fun i H => ∃ (xs : List V) (x : V), SqT K H a xs ∧ xs[i]? = some x, fun i H v H' => ∃ p x, v = .ref p ∧ H p = none ∧ H' = upd H p (.tup [.int (i : Nat), x]) ∧ ∀ xs, SqT K H a xs → xs[i]? = some x, fun i H => ∃ xs : List V, SqT K H a xs ∧ xs.length ≤ i⟩
theorem turn_enumT {P : Program} {w : World} {K : PySem.W.Frag} {elts : List Expr} {kk : Nat} {tpos : Pos} (a e it : Addr) :
    Turn P w K (.Tuple elts kk tpos) (Itet K a) [e, it] e (fun i h => (∃ old, IsEnum h e it ((i : Nat) : Int) old) ∧ h.IsTupleIter it a i ∧ e ≠ it ∧ a ≠ it ∧ e ≠ a) where
  mem := by simp
  obj := fun i h st b hb => by
    obtain ⟨⟨old, he⟩, ⟨ob, ho, hc, hd⟩, _⟩ := st
    rcases (show b = e ∨ b = it by simpa using hb) with z | z
    · rw [z]; exact ⟨_, he, fun v q => nomatch q⟩
    · rw [z]; exact ⟨ob, ho, fun v q => by rw [hd] at q; cases q⟩
  keep := fun i h h' st k => by
    obtain ⟨⟨old, he⟩, hi, r⟩ := st
    exact ⟨⟨old, k e (by simp) _ he⟩, hi.at fun ob q => k it (by simp) ob q, r⟩
  item := by
    intro X hP hw hK hc i pins s σ H E I hf st hg
    subst hP hw hK
    obtain ⟨⟨old, he⟩, hit, hne, hai, hea⟩ := st
    obtain ⟨xs, x, hq, hx⟩ := hg
    obtain ⟨its, rv, p, hz⟩ := I.tuple hq
    obtain ⟨u, hu, ru⟩ := rv.get hx
    have hel : e < s.heap.objs.size := Heap.lt_size he
    have hil : it < s.heap.objs.size := by obtain ⟨_, q, _⟩ := hit; exact Heap.lt_size q
    have hul : i < its.toArray.size := by
      have := (List.getElem?_eq_some_iff.mp hu).1
      simpa using this
    refine wpAny_pyNext_enum_itemD (Draws.tuple (prog := X.prog) (w := X.w) (A := X.A.in1) (show X.A.in1.handled = none from I.ok.hd hc) it a hai its.toArray) he ⟨hit, p⟩ hul hne (by simp [hne, hea]) fun x' h' tk hx' ho ⟨hit', _⟩ hT hsz hk => ?_
    have exu : x' = u := by
      rw [show its.toArray[i]? = some u by simpa using hu] at hx'
      exact (Option.some.inj hx').symm
    subst exu
    refine ⟨_, rfl, wpAny_letOwnedTupleGo_enum (s := { s with heap := h', toks := tk + 1 }) ho fun h'' he' sb => ?_⟩
    have hT2 : h''.get? s.heap.objs.size = some { cls := .type "tuple", data := .seq #[.int i tk, x'] } := (sb.2 _ (Nat.ne_of_gt hel)).trans hT
    have nw : ObjOk X.prog X.w (upd H s.heap.objs.size (.tup [.int (i : Nat), x])) h'' s.heap.objs.size (.tup [.int (i : Nat), x]) :=
      ⟨by show 2 ≤ sizeLine; decide, [.int i tk, x'], .cons ⟨_, rfl⟩ (.cons ru .nil), ⟨_, hT2, rfl, _, rfl⟩⟩
    have I1 : Inv X pins σ (upd H s.heap.objs.size (.tup [.int (i : Nat), x])) { s with heap := h'', toks := tk + 1 } :=
      I.turnedNew (ch := [e, it]) (fun b ob hb q => (sb.2 b (fun z => hb (by simp [z]))).trans (hk b ob (fun z => hb (by simp [z])) (fun z => hb (by simp [z])) q)) hf (Nat.le_refl _) nw
    refine ⟨.ref s.heap.objs.size, _, I1, rfl, ⟨_, x, rfl, I.hok.fresh (Nat.le_refl _), rfl, fun ys hy => by rw [I.tuple_inj hy hq]; exact hx⟩, ⟨⟨x', ?_⟩, hit'.at fun ob q => (sb.2 it (Ne.symm hne)).trans q, hne, hai, hea⟩, fun b hb => ?_⟩
    · rw [show ((i + 1 : Nat) : Int) = (i : Int) + 1 by omega]
      exact he'
    · have bl : b < s.heap.objs.size := by
        rcases (show b = e ∨ b = it by simpa using hb) with z | z
        · rw [z]; exact hel
        · rw [z]; exact hil
      rw [upd_ne (Nat.ne_of_lt bl)]
      exact (hf b hb).1
  done := by
    intro X hP hw hK hc i pins s σ H E I hf st hg
    subst hP hw hK
    obtain ⟨⟨old, he⟩, hit, hne, hai, hea⟩ := st
    obtain ⟨xs, hq, hx⟩ := hg
    obtain ⟨its, rv, p, hz⟩ := I.tuple hq
    obtain ⟨f0, f1, f2, f3, f4, f5⟩ := hf it (by simp)
    have hl := rv.length
    have D : Draws X.prog X.w X.A.in1 it [it, a] 0 (fun _ _ => True) (fun _ h => h.IsTupleIter it a i ∧ h.IsTuple a its.toArray) :=
      ⟨fun _ _ st' => let ⟨ob, ho, _⟩ := st'.1; ⟨ob, ho⟩, fun _ _ _ st' hk => ⟨st'.1.at fun ob q => hk it (by simp) ob q, st'.2.at fun ob q => hk a (by simp) ob q⟩, fun j _ _ _ hj => absurd hj (Nat.not_lt_zero j),
        fun s' QQ EE st' kE => wpAny_nextOf_tuple_end (show X.A.in1.handled = none from I.ok.hd hc) st'.1 st'.2 (by simp; omega) kE⟩
    exact wpAny_pyNext_enum_endD D he ⟨hit, p⟩ fun h' eb => ⟨rfl, I.turned (t' := s.toks) (fun b ob hb q => eb b ob hb q) f0 f1 f3 f4 f5⟩
  self := fun A i s Q E st h => by
    obtain ⟨⟨_, he⟩, _⟩ := st
    exact wpAny_pyIter_enum he h

def iEnumA (K : PySem.W.Frag) (ta : TA) : TI := fun σ H R => ta σ H fun vs H1 => ∃ a, vs = [.ref a] ∧ ((∃ xs, SqL K H1 a xs ∧ R (Ite K a) H1) ∨ ∃ xs, SqT K H1 a xs ∧ R (Itet K a) H1)
section
variable {X : Cx} {e : Expr} {p pos tpos : Pos} {elts : List Expr} {kk : Nat}
theorem pi_enumA {ta : TA} (hg : Gl X "enumerate") (hm : X.mg "enumerate" = none) (ha : PA X [e] ta) (hs : starEach [e] X.env = [(false, eval e X.env)]) : PI X (.Tuple elts kk tpos) (.Call (.Name "enumerate" p) [e] [] pos) (iEnumA X.K ta) := by
  refine ⟨fun pins s σ H R I h => ?_⟩
  refine Call_ (ld_blt I hg hm boot_enumerate (PyProof.Rows.callWith_type1 (thn (ha.run pos pins s σ H _ I h) fun us s1 ⟨vs, H1, I1, r1, a, ex, hq⟩ => ?_) hs rfl))
  subst ex
  obtain ⟨u, rfl, ru⟩ := vals1 r1
  cases (show u = Value.ref a from ru)
  have fpk : ∀ b ∈ [s1.heap.objs.size + 1, s1.heap.objs.size], s1.heap.objs.size ≤ b := fun b hb => by
    rcases (show b = s1.heap.objs.size + 1 ∨ b = s1.heap.objs.size by simpa using hb) with z | z
    · rw [z]; exact Nat.le_add_right _ _
    · rw [z]; exact Nat.le_refl _
  rcases hq with ⟨xs, hq, q⟩ | ⟨xs, hq, q⟩
  · obtain ⟨its, rv, pl, hz⟩ := I1.list hq
    refine enum_at (begins_list a its.toArray) pl.isList fun h' he hit hsz hk => wpAny_pyIter_enum he ?_
    have I2 : Inv X pins σ H1 { s1 with heap := h' } := I1.kept (t' := s1.toks) hk
    exact ⟨s1.heap.objs.size + 1, [s1.heap.objs.size + 1, s1.heap.objs.size], _, _, H1, rfl, I2, turn_enum a (s1.heap.objs.size + 1) s1.heap.objs.size, ⟨⟨.none, he⟩, ⟨_, hit, rfl, rfl⟩, Nat.succ_ne_self _⟩, fun b hb => I1.fpOk (fpk b hb) (I1.hok.fresh (fpk b hb)), q⟩
  · obtain ⟨its, rv, pl, hz⟩ := I1.tuple hq
    have pl : s1.heap.IsTuple a its.toArray := pl
    have hal : a < s1.heap.objs.size := by obtain ⟨_, q, _⟩ := pl; exact Heap.lt_size q
    refine enum_at (begins_tuple a its.toArray) pl fun h' he hit hsz hk => wpAny_pyIter_enum he ?_
    have I2 : Inv X pins σ H1 { s1 with heap := h' } := I1.kept (t' := s1.toks) hk
    exact ⟨s1.heap.objs.size + 1, [s1.heap.objs.size + 1, s1.heap.objs.size], _, _, H1, rfl, I2, turn_enumT a (s1.heap.objs.size + 1) s1.heap.objs.size, ⟨⟨.none, he⟩, ⟨_, hit, rfl, rfl⟩, Nat.succ_ne_self _, Nat.ne_of_lt hal, Ne.symm (Nat.ne_of_lt (Nat.lt_succ_of_lt hal))⟩,
      fun b hb => I1.fpOk (fpk b hb) (I1.hok.fresh (fpk b hb)), q⟩
theorem itok_enumT {K : PySem.W.Frag} {mg : MG} {F : Hp} {a : Addr} {ds : List D} {vs : List V} (h1 : SqT K F a vs) (h2 : Reps K mg F ds vs) : ItOk K mg (Itet K a) (enumD ds) F where
  go := fun i H e hi => by
    rw [enumD_len] at hi
    have hv : i < vs.length := by rw [h2.length]; exact hi
    exact ⟨vs, vs[i], sqt_mono e h1, List.getElem?_eq_getElem hv⟩
  stop := fun i H e hi => ⟨vs, sqt_mono e h1, by rw [enumD_len] at hi; rw [h2.length]; exact hi⟩
  yld := fun i H v H' e _ ⟨p, x, ev, hp, eh, y⟩ => by
    obtain ⟨d, hd, r⟩ := h2.get' (y vs (sqt_mono e h1))
    exact ⟨_, enumD_get hd, .inr (.inl ⟨p, _, _, ev, hp, eh, rfl, ⟨_, _, rfl, rfl, _, _, rfl, r, rfl⟩⟩)⟩
def odEnumA : List D → (List D → Prop) → Prop
  | [.lst ds], Q => Q (enumD ds)
  | [.tup ds], Q => Q (enumD ds)
  | [.ktu ds], Q => Q (enumD ds)
  | _, _ => False
/-- enumerate of a list or a tuple -/
theorem di_enum {ta : AT} (hm : X.mg "enumerate" = none) (ha : DA X [e] ta) (hg : Gl X "enumerate" := by rfl) (hs : starEach [e] X.env = [(false, eval e X.env)] := by rfl) : DI X (.Tuple elts kk tpos) (.Call (.Name "enumerate" p) [e] [] pos) (itN odEnumA ta) := by
  intro W tk
  refine piI (pi_enumA hg hm (ha W tk) hs) ?_
  rintro σ H R' ⟨io, env, F, O, Q, R, I, q, k, kX⟩
  refine ⟨io, env, F, O, _, R, I, q, ?_, kX⟩
  intro xs env1 F1 O1 H1 vs A1 r1 h1
  match xs, h1, r1 with
  | [.lst ds], h1, r1 =>
    obtain ⟨v, _, rfl, ⟨a, vs, rfl, g1, g2⟩, rfl⟩ := r1
    exact ⟨a, rfl, .inl ⟨vs, .inl (rd_mono A1.si.sub g1), k _ env1 F1 O1 H1 _ A1 (itok_enum g1 g2) h1⟩⟩
  | [.tup ds], h1, r1 =>
    obtain ⟨v, _, rfl, ⟨a, vs, rfl, g1, g2⟩, rfl⟩ := r1
    exact ⟨a, rfl, .inr ⟨vs, .inl (.inl (A1.si.sub _ _ g1)), k _ env1 F1 O1 H1 _ A1 (itok_enumT (.inl (.inl g1)) g2) h1⟩⟩
  | [.ktu ds], h1, r1 =>
    obtain ⟨v, _, rfl, ⟨a, vs, rfl, g1, g2⟩, rfl⟩ := r1
    exact ⟨a, rfl, .inr ⟨vs, sqt_mono A1.si.sub g1, k _ env1 F1 O1 H1 _ A1 (itok_enumT g1 g2) h1⟩⟩
end
/-! ### chains of comparisons, as peeks -/
def pChain (od od' : OT2) (pa pb pc : PUT) : PUT := fun env Q => pa env fun x => pb env fun y => od x y fun z _ => match z with
  | .bl b => brB b (pc env fun w => od' y w fun z' _ => Q z') (Q (.bl false))
  | _ => False
section
variable {X : Cx} {a b c : Expr} {pa pb pc : PUT} {op op' : CmpOp} {r r' : R2} {od od' : OT2} {pos : Pos}
theorem pu_chain (ho : OpR X (compareOp op) r) (ho' : OpR X (compareOp op') r') (k : Ok2 X r od) (k' : Ok2 X r' od') (ha : PU X a pa) (hb : PU X b pb) (hc : PU X c pc) (hm : lastMarks [op, op'] [b, c] = false := by with_unfolding_all rfl) :
    PU X (.Compare a [op, op'] [b, c] pos) (pChain od od' pa pb pc) := by
  refine peI (pe_chain ho ho' ha hb hc hm) ?_
  rintro σ H Qh ⟨io, env, F, O, Q, I, h, kQ⟩
  refine ⟨io, env, F, O, _, I, h, fun x v H1 e1 r1 h1 => ⟨io, env, F, O, _, I.ext e1, h1, fun y w H2 e2 r2 h2 => ?_⟩⟩
  refine k H2 H2 x y v w _ _ (Same.refl _) (Rep.mono e2 r1) r2 h2 (Fin.leafy (fun z n q => by cases z <;> first | rfl | exact (show False from q).elim) fun z n H2' e2' q => ?_)
  cases z <;> first | exact (show False from q).elim | skip
  rename_i bb
  refine ⟨bb, rfl, ?_⟩
  cases bb with
  | false => exact iteF (kQ (.bl false) _ H2' ((e1.trans e2).trans e2') rfl q)
  | true => exact iteT ⟨io, env, F, O, _, I.ext ((e1.trans e2).trans e2'), q, fun w2 u2 H3 e3 r3 h3 => k' H3 H3 y w2 w u2 _ _ (Same.refl _) (Rep.mono (e2'.trans e3) r2) r3 h3 (Fin.ofP kQ (((e1.trans e2).trans e2').trans e3))⟩
end
/-! ### a value's truth -/
def truN (d : D) (Q : Bool → Prop) : Prop := match d with
  | .dK _ => False
  | d => tru d Q
def ttTru (t : PUT) : TTd := fun env Q _ => t env fun d => truN d fun b => Q b env
def ttTruE (t : ET) : TTd := fun env Q R => t env (fun d _ env1 => truN d fun b => Q b env1) R
theorem truN_of {K : PySem.W.Frag} {mg : MG} {H : Hp} {d : D} {v : V} {Q : Bool → Prop} (r : Rep K mg H d v) (h : truN d Q) : ∃ k, TruV K v H k ∧ Q k := by
  cases d with
  | dK _ => exact (show False from h).elim
  | lst ds =>
    obtain ⟨a, vs, rfl, h1, h2⟩ := r
    exact tru_of (d := .lst ds) ⟨a, vs, rfl, h1, h2⟩ (fun a' o u e q => by
      cases e
      rcases h1 with h1 | ⟨o', h1⟩ <;> (rw [h1] at q; cases q)) h
  | tup ds =>
    obtain ⟨a, vs, rfl, h1, h2⟩ := r
    exact tru_of (d := .tup ds) ⟨a, vs, rfl, h1, h2⟩ (fun a' o u e q => by cases e; rw [h1] at q; cases q) h
  | non => exact tru_of r (fun a o u e => by cases (show v = _ from r); cases e) h
  | bl b => exact tru_of r (fun a o u e => by cases (show v = _ from r); cases e) h
  | int b => exact tru_of r (fun a o u e => by cases (show v = _ from r); cases e) h
  | str b => exact tru_of r (fun a o u e => by cases (show v = _ from r); cases e) h
  | ktu ds =>
    obtain ⟨a, vs, rfl, h1, h2⟩ := r
    refine ⟨!vs.isEmpty, .inr (.inl ⟨vs, h1, rfl⟩), ?_⟩
    have e : vs.isEmpty = ds.isEmpty := by
      have := h2.length
      cases vs <;> cases ds <;> first | rfl | simp at this
    rw [e]
    exact h
  | _ => exact (show False from h).elim
section
variable {X : Cx} {e : Expr} {t : ET} {pt : PUT}
theorem dt_tru (h : PU X e pt) (he : ∀ whole, isTrue e X.env whole = (do let v ← whole; standAt e.pos; holding [v] (truthy v)) := by intro _; rfl) : DT X e (ttTru pt) := by
  intro W tk
  refine ptI (pt_truth h he) ?_
  rintro σ H Qh ⟨io, env, F, O, Q, R, I, h, kQ, kX⟩
  refine ⟨io, env, F, O, _, I, h, fun d v H1 e1 r1 h1 => ?_⟩
  obtain ⟨k, tv, q⟩ := truN_of r1 h1
  exact ⟨k, tv, kQ k env F O H1 ((At.start I).ext e1) q⟩
theorem dt_truE (h : DE X e t) (he : ∀ whole, isTrue e X.env whole = (do let v ← whole; standAt e.pos; holding [v] (truthy v)) := by intro _; rfl) : DT X e (ttTruE t) := by
  intro W tk
  refine ptI (pt_truth (h W tk) he) ?_
  rintro σ H Qh ⟨io, env, F, O, Q, R, I, h, kQ, kX⟩
  refine ⟨io, env, F, O, _, R, I, h, ?_, kX⟩
  intro d n env1 F1 O1 H1 v P A1 T1 r1 h1
  have A1' := A1.frz T1
  obtain ⟨k, tv, q⟩ := truN_of ((A1.frz_rep r1).mono A1'.si.sub) h1
  exact ⟨k, tv, kQ k env1 _ O1 H1 A1' q⟩
end
/-! ### new containers, empty -/
def eNew (d : D) (n : Nat) : ET := fun env Q _ => Q d n env
section
variable {X : Cx} {pos : Pos}
theorem de_dK (n : Nat) : DE X (.Dict [] [] pos) (eNew (.dK []) n) := by
  intro W tk
  refine peI pe_dnewK ?_
  rintro σ H Qh ⟨io, env, F, O, Q, R, I, h, kQ, kX⟩ p hp
  have A := (At.start I).ext (same_upd (o := .dK []) hp)
  have T := (At.start I).tp_new (o := .dK []) hp rfl
  cases n with
  | zero => exact kQ (.dK []) 0 _ _ _ _ _ _ (A.frz T) Tp.none ⟨p, [], rfl, .inl (by rw [laid_in (P := fun b => b = p) rfl]; exact upd_same), rfl⟩ h
  | succ n => exact kQ (.dK []) (n + 1) _ _ _ _ _ _ A T ⟨p, [], P0, rfl, upd_same, rfl, fun x => x, fun _ x => x.elim, rfl, rfl⟩ h
theorem de_dT (n : Nat) : DE X (.Dict [] [] pos) (eNew (.dT []) n) := by
  intro W tk
  refine peI pe_dnewT ?_
  rintro σ H Qh ⟨io, env, F, O, Q, R, I, h, kQ, kX⟩ p hp
  have A := (At.start I).ext (same_upd (o := .dT []) hp)
  have T := (At.start I).tp_new (o := .dT []) hp rfl
  cases n with
  | zero => exact kQ (.dT []) 0 _ _ _ _ _ _ (A.frz T) Tp.none ⟨p, [], rfl, .inl (by rw [laid_in (P := fun b => b = p) rfl]; exact upd_same), rfl⟩ h
  | succ n => exact kQ (.dT []) (n + 1) _ _ _ _ _ _ A T ⟨p, [], P0, rfl, upd_same, rfl, fun x => x, fun _ x => x.elim, rfl, rfl⟩ h
theorem de_nil (n : Nat) : DE X (.List [] pos) (eNew (.lst []) n) := by
  intro W tk
  refine peI (pe_lst pa_nil) ?_
  rintro σ H Qh ⟨io, env, F, O, Q, R, I, h, kQ, kX⟩
  refine ⟨Nat.zero_le _, fun p hp => ?_⟩
  have A := (At.start I).ext (same_upd (o := .lst []) hp)
  have T := (At.start I).tp_new (o := .lst []) hp rfl
  cases n with
  | zero => exact kQ (.lst []) 0 _ _ _ _ _ _ (A.frz T) Tp.none ⟨p, [], rfl, .inl (by rw [laid_in (P := fun b => b = p) rfl]; exact upd_same), rfl⟩ h
  | succ n => exact kQ (.lst []) (n + 1) _ _ _ _ _ _ A T ⟨p, [], P0, rfl, upd_same, rfl, fun x => x, fun _ x => x.elim, rfl⟩ h
end
end DL
set_option Elab.async false
set_option linter.all false
set_option maxRecDepth 100000
/-! DLo: the data layer, part o: lists of owned lists; taking an owned item out; putting an owned thing in; walks of dicts. -/
namespace DL
open PySem L2 PySem.Spec PyProof.Rows
variable [Tbs]

/-! ### comprehensions whose items stay owned -/
def lcO (m : Nat) (g : Tg) (tt : TTd) (te : ET) (vs : List Nat) : List D → List D → DEnv → QE → Prop
  | [], acc, env, Q => Q (.lst acc) (m + 1) env
  | x :: xs, acc, env, Q => bindT g x env fun env1 => tt env1 (fun b env2 => brB b
    (te env2 (fun d n env3 => n = m ∧ acc.length < sizeLine ∧ lcO m g tt te vs xs (acc ++ [d]) (wipeD env3 vs) Q) noX)
    (lcO m g tt te vs xs acc (wipeD env2 vs) Q)) noX
def eLcO (m : Nat) (i : ITd) (g : Tg) (tt : TTd) (te : ET) (vs : List Nat) : ET := fun env Q R => i env (fun items env1 => lcO m g tt te vs items [] (wipeD env1 vs) Q) R
theorem ROs.append1 {R : AP → D → V → Prop} (hm : ∀ P P' d v, (∀ a, P a → P' a) → R P d v → R P' d v) : ∀ {ds : List D} {P P1 P2 : AP} {vs : List V} {d : D} {v : V}, ROs R P1 ds vs → R P2 d v → (∀ a, P1 a → P a) → (∀ a, P2 a → P a) → (∀ a, P1 a → P2 a → False) → ROs R P (ds ++ [d]) (vs ++ [v])
  | [], P, P1, P2, vs, d, v, h, r, s1, s2, dj => by
    cases (show vs = [] from h)
    exact ⟨v, [], P2, P0, rfl, s2, fun _ x => x.elim, fun _ _ x => x.elim, r, rfl⟩
  | d0 :: ds, P, P1, P2, vs, d, v, ⟨w, t, Q1, Q2, h1, h2, h3, h4, h5, h6⟩, r, s1, s2, dj => by
    subst h1
    refine ⟨w, t ++ [v], Q1, fun a => Q2 a ∨ P2 a, rfl, fun a x => s1 a (h2 a x), fun a x => x.elim (fun x => s1 a (h3 a x)) (s2 a), fun a x y => y.elim (h4 a x) (dj a (h2 a x)), h5, ?_⟩
    exact ROs.append1 hm h6 r (fun a x => .inl x) (fun a x => .inr x) fun a x y => dj a (h3 a x) y
section
variable {X : Cx} {elt tg iter : Expr} {ifs : List Expr} {scope : Scope} {own : List (Str × Nat)} {g : Tg} {it : ITd} {tt : TTd} {te : ET} {pos : Pos} {W : WX}
theorem lcO_rest {K : PySem.W.Frag} {mg : MG} {vs : List Nat} {mm : Nat} (hsl : ∀ i ∈ g.slots, i ∈ vs) {io : Nat → Option V} {env1 : DEnv} {σ : L2.St} {F F1 H H1 : Hp} {O O1 : OW} {Q : QE} {Qh : VK} {items : List D} {J : It}
    (kQ : KE K mg io σ F O H Q Qh) (A1 : At K mg io F O H env1 σ F1 O1 H1) (T : ItOk K mg J items F1) (h1 : lcO mm g tt te vs items [] (wipeD env1 vs) Q) (L : Addr) (hL : H1 L = none) : ∃ W : Nat → Nat → Hp → Prop, (∃ m, W 0 m (upd H1 L (.lst []))) ∧ ∀ i m H, W i m H →
      (J.stop i H ∧ Qh (.ref L) H) ∨ (J.go i H ∧ ∃ Nx : Hp → Prop, (∀ H', Nx H' → ∃ m', m' < m ∧ W (i + 1) m' H') ∧ ∀ x H', J.yld i H x H' → rdG K mg g x (L2.wipe σ vs) H' fun σ2 H2 => L2.wipe σ2 vs = L2.wipe σ vs ∧ rdT K mg tt (fun _ _ _ _ => False) σ2 H2 fun b H3 =>
        if b = true then rdE K mg te (fun _ _ _ _ => False) σ2 H3 fun y H4 => ∃ acc, H4 L = some (.lst acc) ∧ acc.length < sizeLine ∧ Nx (upd H4 L (.lst (acc ++ [y]))) else Nx H3) := by
  have A1e := A1.ext (same_upd (o := .lst []) hL)
  have kx0 : ∀ {F' H' : Hp} {O' : OW}, KX K mg io F' O' H' noX fun _ _ _ _ => False := fun {F' H' O'} x e σ' Fa Oa Ha c dx B r z => z
  obtain ⟨O1w, A1w, hO1⟩ := A1e.wipes vs
  have T1 : Tp O H F1 O1w (upd H1 L (.lst [])) (fun b => b = L) := ⟨fun b e => by
    subst e
    refine ⟨A1.si.freeF hL, ?_, _, upd_same, rfl⟩
    cases z : O1w b with
    | none => rfl
    | some i =>
      have q := hO1 b i z
      rw [A1.si.freeO hL] at q
      exact (nomatch q), fun b e => by subst e; exact A1.mv.back (.inl hL)⟩
  -- what stands at each turn: the list, its items' owners P beside it
  let ST : Nat → Hp → Prop := fun i H' => ∃ env' F' O' acc accV P, At K mg io F O H env' (L2.wipe σ vs) F' O' H' ∧ (∀ j b, env'[j]? = some (some b) → j ∉ vs) ∧ Same F1 F' ∧ Tp O H F' O' H' (fun b => b = L ∨ P b) ∧ ¬ P L ∧
    H' L = some (.lst accV) ∧ ROs (RepO K mg F' H' mm) P acc accV ∧ lcO mm g tt te vs (items.drop i) acc env' Q
  refine ⟨fun i m H' => m + i = items.length ∧ ST i H', ⟨items.length, by omega, wipeD env1 vs, F1, O1w, [], [], P0, A1w, fun j b hb => (wipeD_none vs env1 j b hb).2, Same.refl _, ⟨fun b e => T1.t b (e.elim id fun z => z.elim), fun b e => T1.nw b (e.elim id fun z => z.elim)⟩, fun z => z, upd_same, rfl, h1⟩, ?_⟩
  rintro i m H2 ⟨hm, env2, F2, O2, acc, accV, P2, A2, hn2, e2, T2, hP2, hl2, r2, h2⟩
  by_cases hi : i < items.length
  · refine .inr ⟨T.go i H2 (e2.trans A2.si.sub) hi, ST (i + 1), fun H' q => ⟨m - 1, by omega, by omega, q⟩, ?_⟩
    intro x H3 y
    obtain ⟨d, F3, hd, B3, r3⟩ := T.take A2.si e2 hi y
    have A3 := A2.trans B3
    rw [drop_get hd] at h2
    -- a turn's end
    have again : ∀ {env5 : DEnv} {σ5 : L2.St} {F5 H5 : Hp} {O5 : OW} {acc' : List D} {accV' : List V} {P5 P6 : AP}, At K mg io F3 O2 H3 env5 σ5 F5 O5 H5 → L2.wipe σ5 vs = L2.wipe σ vs → Tp O H F5 O5 H5 P5 → (∀ b, P6 b → P2 b ∨ P5 b) → ¬ P6 L → ROs (RepO K mg F5 H5 mm) P6 acc' accV' →
        lcO mm g tt te vs (items.drop (i + 1)) acc' (wipeD env5 vs) Q → H5 L = some (.lst accV) → ST (i + 1) (upd H5 L (.lst accV')) := by
      intro env5 σ5 F5 H5 O5 acc' accV' P5 P6 A5 hw T6 s6 hP6 r5 h5 hl5
      have A5' := A3.trans A5
      have T5 := T2.mv (B3.mv.trans A5.mv)
      obtain ⟨hF, hO, _⟩ := T5.t L (.inl rfl)
      obtain ⟨O6, A6, hO6⟩ := A5'.wipes vs
      rw [hw] at A6
      have offw : ∀ b, O5 b = none → O6 b = none := fun b z => by
        cases q : O6 b with
        | none => rfl
        | some k => rw [hO6 b k q] at z; cases z
      have hO' : O6 L = none := offw L hO
      have neO : ∀ a i, O6 a = some i → a ≠ L := fun a i z e => by subst e; rw [hO'] at z; cases z
      refine ⟨wipeD env5 vs, F5, O6, acc', accV', P6, ⟨⟨A6.mv.ff, fun a o z q ok => ?_, A6.mv.fn, A6.mv.on, A6.mv.tb.trans (.upd (.inr ⟨_, hl5, rfl⟩))⟩, ⟨fun a o z => ?_, fun a i z => ?_, fun j b hb => ?_, A6.si.len, A6.si.tab.upd (.inr ⟨_, hl5, rfl⟩)⟩⟩, fun j b hb => (wipeD_none vs env5 j b hb).2, (e2.trans B3.mv.ff).trans A5.mv.ff,
        ⟨fun b e => ?_, fun b e => ?_⟩, hP6, upd_same, r5.imp (fun Q0 d0 w0 hq rr => rr.mono (fun _ _ x => x) (fun a o pa z => by rw [upd_ne (show a ≠ L from fun zz => hP6 (by rw [← zz]; exact hq a pa))]; exact z) (fun _ x => x)) (fun _ x => x), h5⟩
      · have ne : a ≠ L := fun e => by
          subst e
          rcases T5.nw a (.inl rfl) with z2 | ⟨k, z2⟩
          · rw [z] at z2; cases z2
          · rw [q] at z2; cases z2
        rw [upd_ne ne]
        exact A6.mv.fr a o z q ok
      · have ne : a ≠ L := fun e => by subst e; rw [hF] at z; cases z
        rw [upd_ne ne]
        exact A6.si.sub a o z
      · rw [upd_ne (neO a i z)]
        exact A6.si.own a i z
      · obtain ⟨w, g1, g2, g3⟩ := A6.si.slot j b hb
        exact ⟨w, g1, g2.mono (fun _ _ x => x) (fun a o p z => by rw [upd_ne (neO a j p)]; exact z) (fun _ x => x), g3⟩
      · have key : F5 b = none ∧ O5 b = none ∧ ∃ o, H5 b = some o ∧ isTp o = false := by
          rcases e with e | e
          · exact T5.t b (.inl e)
          · rcases s6 b e with q | q
            · exact T5.t b (.inr q)
            · exact T6.t b q
        obtain ⟨k1, k2, o, k3, k4⟩ := key
        refine ⟨k1, offw b k2, ?_⟩
        by_cases z : b = L
        · subst z; exact ⟨_, upd_same, rfl⟩
        · exact ⟨o, by rw [upd_ne z]; exact k3, k4⟩
      · rcases e with e | e
        · exact T5.nw b (.inl e)
        · rcases s6 b e with q | q
          · exact T5.nw b (.inr q)
          · exact T6.nw b q
    refine ⟨io, env2, F3, O2, d, _, A3.si, r3, h2, ?_⟩
    intro env4 σ4 O4 A4 hag h4
    have hw4 : L2.wipe σ4 vs = L2.wipe σ vs := (hag vs hsl).trans (wipe_in fun _ z => z)
    refine ⟨hw4, io, env4, F3, O4, _, noX, A4.si, h4, ?_, kx0⟩
    intro b env5 F5 O5 H5 A5 h5
    have A45 := A4.trans A5
    have T3 := T2.mv B3.mv
    have l3 : H3 L = some (.lst accV) := T2.keep B3.mv (.inl rfl) hl2
    have l5 : H5 L = some (.lst accV) := T3.keep A45.mv (.inl rfl) l3
    have up : ∀ {F5 H5 : Hp} {O5 : OW}, Mv F3 O2 H3 F5 O5 H5 → ROs (RepO K mg F5 H5 mm) P2 acc accV := fun {F5 H5 O5} mv =>
      r2.imp (fun Q0 d0 w0 hq rr => rr.mono (B3.mv.ff.trans mv.ff) (fun a o pa z => T3.keep mv (.inr (hq a pa)) (T2.keep B3.mv (.inr (hq a pa)) z)) fun _ x => x) fun _ x => x
    cases b with
    | false =>
      refine iteF ?_
      have z := again (P5 := P0) A45 hw4 Tp.none (fun b x => .inl x) hP2 (up A45.mv) h5 l5
      rw [upd_self l5] at z
      exact z
    | true =>
      refine iteT ⟨io, env5, F5, O5, _, noX, A5.si, h5, ?_, kx0⟩
      intro y' n env6 F6 O6 H6 w P A6 T6 r6 h6
      obtain ⟨hnm, hsz, h6⟩ := h6
      subst hnm
      have A46 := A45.trans A6
      have l6 : H6 L = some (.lst accV) := T3.keep A46.mv (.inl rfl) l3
      have T6' : Tp O H F6 O6 H6 P := Tp.after (A3.mv.trans A45.mv) T6
      -- what is new is apart from what was at hand
      have dj : ∀ a, (a = L ∨ P2 a) → P a → False := (T3.mv A45.mv).disj T6
      have r7 := up A46.mv
      have r8 := ROs.append1 (R := RepO K mg F6 H6 n) (P := fun b => P2 b ∨ P b) (fun P P' d v s r => r.mono (fun _ _ x => x) (fun _ _ _ x => x) s) r7 r6 (fun _ x => .inl x) (fun _ x => .inr x) fun a x y => dj a (.inr x) y
      refine ⟨accV, l6, by rw [show accV.length = acc.length from (ROs.reps (K := K) (mg := mg) (F := H6) (fun P1 d v _ r => r.rep A46.si.sub) r7).length]; exact hsz, again A46 hw4 T6' (fun b x => x) (fun z => z.elim hP2 fun z => dj L (.inl rfl) z) r8 h6 l6⟩
  · refine .inl ⟨T.stop i H2 (e2.trans A2.si.sub) (by omega), ?_⟩
    rw [List.drop_of_length_le (by omega)] at h2
    exact kQ (.lst acc) (mm + 1) env2 F2 O2 H2 (.ref L) (fun b => b = L ∨ P2 b) ⟨A2.mv, A2.si.unwipe hn2⟩ T2 ⟨L, accV, P2, rfl, hl2, .inl rfl, hP2, fun _ x => .inr x, r2⟩ h2
theorem lcO_read {K : PySem.W.Frag} {mg : MG} {vs : List Nat} {mm : Nat} (hsl : ∀ i ∈ g.slots, i ∈ vs) : ∀ σ H Qh, rdE K mg (eLcO mm it g tt te vs) W σ H Qh →
    tLc (rdI K mg it W) (rdG K mg g) (rdT K mg tt fun _ _ _ _ => False) (rdE K mg te fun _ _ _ _ => False) vs σ H Qh := by
  rintro σ H Qh ⟨io, env, F, O, Q, R, I, h, kQ, kX⟩
  refine ⟨io, env, F, O, _, _, I, h, ?_, kX⟩
  intro items env1 F1 O1 H1 J A1 T h1 L hL
  exact lcO_rest hsl kQ A1 T h1 L hL
end
section
variable {X : Cx} {elt tg iter : Expr} {ifs : List Expr} {scope : Scope} {vs : List Nat} {g : Tg} {it : ITd} {tt : TTd} {te : ET} {pos spos py : Pos} {i : Nat} {y : Str}
theorem de_lcO (mm : Nat) (own : List (Str × Nat)) (hc : X.calm = true) (hN : X.N.Nodup) (hi : DI X tg iter it) (ok : BlkOk X.N X.env.scope scope own)
    (hg : ∀ (s : Shared) (H : Hp) (C : Addr) (cl : List (Str × Addr)) (fp : List Addr), DGt (X.blk s H scope (compEnvC scope cl C X.env) fp) tg g)
    (ht : ∀ (s : Shared) (H : Hp) (C : Addr) (cl : List (Str × Addr)) (fp : List Addr), DPTs (X.blk s H scope (compEnvC scope cl C X.env) fp) ifs tt)
    (he : ∀ (s : Shared) (H : Hp) (C : Addr) (cl : List (Str × Addr)) (fp : List Addr), DE (X.blk s H scope (compEnvC scope cl C X.env) fp) elt te)
    (hv : own.map (·.2) = vs := by rfl) (hsl : ∀ i ∈ g.slots, i ∈ vs := by decide) (hs : ∀ x, foldedSetIterable iter X.env x = pure x := by intro _; rfl) : DE X (.ListComp elt [⟨tg, iter, ifs, 0⟩] scope pos) (eLcO mm it g tt te vs) := by
  subst hv
  exact fun W tk => peI (pe_lc (g := rdG X.K X.mg g) (tt := rdT X.K X.mg tt fun _ _ _ _ => False) (te := rdE X.K X.mg te fun _ _ _ _ => False) hc hN (hi W tk) ok hg (fun s H C cl fp => ht s H C cl fp _ takes00) (fun s H C cl fp => he s H C cl fp _ takes00) hs) (lcO_read hsl)
theorem ds_setLcO (mm : Nat) (own : List (Str × Nat)) (hc : X.calm = true) (hN : X.N.Nodup) (hi : DI X tg iter it) (ok : BlkOk X.N X.env.scope scope own)
    (hg : ∀ (s : Shared) (H : Hp) (C : Addr) (cl : List (Str × Addr)) (fp : List Addr), DGt (X.blk s H scope (compEnvC scope cl C X.env) fp) tg g)
    (ht : ∀ (s : Shared) (H : Hp) (C : Addr) (cl : List (Str × Addr)) (fp : List Addr), DPTs (X.blk s H scope (compEnvC scope cl C X.env) fp) ifs tt)
    (he : ∀ (s : Shared) (H : Hp) (C : Addr) (cl : List (Str × Addr)) (fp : List Addr), DE (X.blk s H scope (compEnvC scope cl C X.env) fp) elt te)
    (hsw : swapsWith (.ListComp elt [⟨tg, iter, ifs, 0⟩] scope pos) (some (.Name y py)) spos.line X.env = pure true) (hy : X.N[i]? = some y := by rfl) (hyl : X.env.scope.names.lookup y = some .local := by rfl)
    (hv : own.map (·.2) = vs := by rfl) (hsl : ∀ i ∈ g.slots, i ∈ vs := by decide) (hs : ∀ x, foldedSetIterable iter X.env x = pure x := by intro _; rfl) : DS X (.Assign [.Name y py] (.ListComp elt [⟨tg, iter, ifs, 0⟩] scope pos) spos) (sdSet i (eLcO mm it g tt te vs)) := by
  subst hv
  intro W tk
  refine psI (ps_setLc (g := rdG X.K X.mg g) (tt := rdT X.K X.mg tt fun _ _ _ _ => False) (te := rdE X.K X.mg te fun _ _ _ _ => False) hc hN hy hyl hsw (hi W tk) ok hg (fun s H C cl fp => ht s H C cl fp _ takes00) (fun s H C cl fp => he s H C cl fp _ takes00) hs) ?_
  rintro Dn σ H ⟨io, env, F, O, D, I, h, k1, k2, k3, k4, k5⟩
  refine lcO_read (W := W) hsl σ H _ ⟨io, env, F, O, _, _, I, h, ?_, k5⟩
  intro d n env1 F1 O1 H1 v P A1 T1 r1 h1
  exact k1 _ _ _ _ _ (A1.set T1 r1) h1
end
end DL
set_option Elab.async false
set_option linter.all false
set_option maxRecDepth 100000
/-! DLp: the data layer, part p: taking an owned item out of a list, putting an owned thing in. -/
namespace DL
open PySem L2 PySem.Spec PyProof.Rows
variable [Tbs]

theorem ROs.take {R : AP → D → V → Prop} (hh : ∀ w, R P0 .hole w) : ∀ {ds : List D} {P : AP} {vs : List V} {i : Nat} {d : D}, ROs R P ds vs → ds[i]? = some d → ∃ u P1, vs[i]? = some u ∧ (∀ a, P1 a → P a) ∧ R P1 d u ∧ ROs R (fun a => P a ∧ ¬ P1 a) (ds.set i .hole) vs
  | [], _, _, _, _, _, e => by simp at e
  | d0 :: ds, P, _, 0, d, ⟨v, r, P1, P2, h1, h2, h3, h4, h5, h6⟩, e => by
    subst h1
    have e : d0 = d := by simpa using e
    subst e
    exact ⟨v, P1, rfl, h2, h5, v, r, P0, P2, rfl, fun _ x => x.elim, fun a x => ⟨h3 a x, fun y => h4 a y x⟩, fun _ x => x.elim, hh v, h6⟩
  | d0 :: ds, P, _, i + 1, d, ⟨v, r, P1, P2, h1, h2, h3, h4, h5, h6⟩, e => by
    subst h1
    obtain ⟨u, Q1, g1, g2, g3, g4⟩ := ROs.take (i := i) hh h6 (by simpa using e)
    exact ⟨u, Q1, by simpa using g1, fun a x => h3 a (g2 a x), g3, v, r, P1, fun a => P2 a ∧ ¬ Q1 a, rfl, fun a x => ⟨h2 a x, fun y => h4 a x (g2 a y)⟩, fun a x => ⟨h3 a x.1, x.2⟩, fun a x y => h4 a x y.1, h5, g4⟩
theorem ROs.set1 {R : AP → D → V → Prop} : ∀ {ds : List D} {P P1 P2 : AP} {vs : List V} (i : Nat) {d : D} {v : V}, ROs R P1 ds vs → R P2 d v → (∀ a, P1 a → P a) → (∀ a, P2 a → P a) → (∀ a, P1 a → P2 a → False) → ROs R P (ds.set i d) (vs.set i v)
  | [], P, _, _, vs, i, d, v, h, _, _, _, _ => by
    cases (show vs = [] from h)
    exact rfl
  | d0 :: ds, P, P1, P2, vs, 0, d, v, ⟨w, t, Q1, Q2, h1, h2, h3, h4, h5, h6⟩, r, s1, s2, dj => by
    subst h1
    exact ⟨v, t, P2, Q2, rfl, s2, fun a x => s1 a (h3 a x), fun a x y => dj a (h3 a y) x, r, h6⟩
  | d0 :: ds, P, P1, P2, vs, i + 1, d, v, ⟨w, t, Q1, Q2, h1, h2, h3, h4, h5, h6⟩, r, s1, s2, dj => by
    subst h1
    exact ⟨w, t.set i v, Q1, fun a => Q2 a ∨ P2 a, rfl, fun a x => s1 a (h2 a x), fun a x => x.elim (fun x => s1 a (h3 a x)) (s2 a), fun a x y => y.elim (h4 a x) (dj a (h2 a x)), h5,
      ROs.set1 i h6 r (fun a x => .inl x) (fun a x => .inr x) fun a x y => dj a (h3 a x) y⟩
section
variable {K : PySem.W.Frag} {mg : MG} {io : Nat → Option V} {env : DEnv} {σ : L2.St} {F F1 H H1 : Hp} {O O1 : OW} {P : AP} {n : Nat}
theorem hole_ro {w : V} : RepO K mg F H n P0 .hole w := by cases n <;> exact trivial
theorem ro_mono {P P' : AP} {d : D} {v : V} (s : ∀ a, P a → P' a) (r : RepO K mg F H n P d v) : RepO K mg F H n P' d v := r.mono (fun _ _ x => x) (fun _ _ _ x => x) s
/-- the j-th item of slot i's list goes to hand -/
theorem At.take (A : At K mg io F O H env σ F1 O1 H1) {i j : Nat} {b : Bd} {ds : List D} {d : D} (hb : env[i]? = some (some b)) (hd : b.d = .lst ds) (hn : b.n = n + 1) (hj : ds[j]? = some d) :
    ∃ a vs u P1 O2, σ[i]? = some (some (.ref a)) ∧ H1 a = some (.lst vs) ∧ vs[j]? = some u ∧ RepO K mg F1 H1 n P1 d u ∧ Tp O H F1 O2 H1 P1 ∧ At K mg io F O H (env.set i (some { b with d := .lst (ds.set j .hole) })) σ F1 O2 H1 := by
  obtain ⟨v, s1, s2, s3⟩ := A.si.slot i b hb
  rw [hn, hd] at s2
  obtain ⟨a, vs, P', rfl, h2, h3, h4, h5, h6⟩ := s2
  obtain ⟨u, P1, g1, g2, g3, g4⟩ := h6.take (fun w => hole_ro) hj
  classical
  have own1 : ∀ x, P1 x → O1 x = some i := fun x p => h5 x (g2 x p)
  have off : ∀ {x k}, (if P1 x then none else O1 x) = some k → ¬ P1 x ∧ O1 x = some k := fun {x k} e => by
    by_cases p : P1 x
    · rw [if_pos p] at e; cases e
    · rw [if_neg p] at e; exact ⟨p, e⟩
  refine ⟨a, vs, u, P1, fun x => if P1 x then none else O1 x, s1, h2, g1, g3, ⟨fun x p => ⟨(A.si.own x i (own1 x p)).1, if_pos p, (A.si.own x i (own1 x p)).2⟩, fun x p => A.mv.on x i (own1 x p)⟩,
    ⟨⟨A.mv.ff, A.mv.fr, A.mv.fn, fun x k e => A.mv.on x k (off e).2, A.mv.tb⟩, ⟨A.si.sub, fun x k e => A.si.own x k (off e).2, fun k c hc => ?_, by rw [List.length_set]; exact A.si.len, A.si.tab⟩⟩⟩
  rcases getElem?_set_some hc with ⟨rfl, e, _⟩ | ⟨ne, hc⟩
  · cases e
    refine ⟨.ref a, s1, ?_, s3⟩
    show RepO K mg F1 H1 b.n _ (.lst (ds.set j .hole)) (.ref a)
    rw [hn]
    refine ⟨a, vs, fun x => P' x ∧ ¬ P1 x, rfl, h2, ?_, fun z => h4 z.1, fun x p => ?_, g4⟩
    · show (if P1 a then none else O1 a) = some i
      rw [if_neg fun p => h4 (g2 a p)]
      exact h3
    · show (if P1 x then none else O1 x) = some i
      rw [if_neg p.2]
      exact h5 x p.1
  · obtain ⟨w, q1, q2, q3⟩ := A.si.slot k c hc
    refine ⟨w, q1, ro_mono (fun x e => ?_) q2, q3⟩
    show (if P1 x then none else O1 x) = some k
    rw [if_neg fun p => ne (by have := own1 x p; rw [e] at this; exact (Option.some.inj this).symm)]
    exact e
/-- slot i's container is written, what is at hand goes into it -/
theorem At.give (A : At K mg io F O H env σ F1 O1 H1) {i : Nat} {b : Bd} {a : Addr} {o : HO} {d' : D} {v : V} (nt : isTp o = false) (t : Tp O H F1 O1 H1 P) (hb : env[i]? = some (some b)) (hs : σ[i]? = some (some v)) (ha : O1 a = some i)
    (r : RepO K mg F1 (upd H1 a o) b.n (fun x => O1 x = some i ∨ P x) d' v) : ∃ O2, At K mg io F O H (env.set i (some { b with d := d' })) σ F1 O2 (upd H1 a o) := by
  classical
  obtain ⟨fa, ob, hoa⟩ := A.si.own a i ha
  obtain ⟨v', s1, s2, s3⟩ := A.si.slot i b hb
  have ev : v' = v := by rw [hs] at s1; exact (Option.some.inj (Option.some.inj s1)).symm
  subst ev
  have on2 : ∀ {x k}, (if P x then some i else O1 x) = some k → (P x ∧ k = i) ∨ (¬ P x ∧ O1 x = some k) := fun {x k} e => by
    by_cases p : P x
    · rw [if_pos p] at e; cases e; exact .inl ⟨p, rfl⟩
    · rw [if_neg p] at e; exact .inr ⟨p, e⟩
  have stands : ∀ {x o'}, H1 x = some o' → isTp o' = false → ∃ o2, upd H1 a o x = some o2 ∧ isTp o2 = false := fun {x o'} e n => by
    by_cases z : x = a
    · subst z; exact ⟨_, upd_same, nt⟩
    · exact ⟨o', by rw [upd_ne z]; exact e, n⟩
  refine ⟨fun x => if P x then some i else O1 x, ⟨A.mv.ff, fun c oc h q ok => ?_, A.mv.fn, fun x k e => ?_, A.mv.tb.trans (.upd (.inr ⟨ob, hoa⟩))⟩, ⟨fun c oc h => ?_, fun x k e => ?_, fun k c hc => ?_, by rw [List.length_set]; exact A.si.len, A.si.tab.upd (.inr ⟨ob, hoa⟩)⟩⟩
  · have ne : c ≠ a := fun z => by
      subst z
      rcases A.mv.on c i ha with z | ⟨k, z⟩
      · rw [h] at z; cases z
      · rw [q] at z; cases z
    rw [upd_ne ne]
    exact A.mv.fr c oc h q ok
  · rcases on2 e with ⟨p, _⟩ | ⟨_, e⟩
    · exact t.nw x p
    · exact A.mv.on x k e
  · have ne : c ≠ a := fun z => by subst z; rw [fa] at h; cases h
    rw [upd_ne ne]
    exact A.si.sub c oc h
  · rcases on2 e with ⟨p, _⟩ | ⟨_, e⟩
    · obtain ⟨h1, _, o1, h2, h3⟩ := t.t x p
      exact ⟨h1, stands h2 h3⟩
    · obtain ⟨h1, o1, h2, h3⟩ := A.si.own x k e
      exact ⟨h1, stands h2 h3⟩
  · rcases getElem?_set_some hc with ⟨rfl, e, _⟩ | ⟨ne, hc⟩
    · cases e
      refine ⟨v', s1, ro_mono (fun x e => ?_) r, s3⟩
      show (if P x then some i else O1 x) = some i
      by_cases p : P x
      · rw [if_pos p]
      · rw [if_neg p]; exact e.elim id fun z => absurd z p
    · obtain ⟨w, q1, q2, q3⟩ := A.si.slot k c hc
      refine ⟨w, q1, q2.mono (fun _ _ x => x) (fun x ox hx h => by rw [upd_ne fun z => by rw [z, ha] at hx; exact ne (Option.some.inj hx)]; exact h) (fun x e => ?_), q3⟩
      show (if P x then some i else O1 x) = some k
      rw [if_neg fun p => by rw [(t.t x p).2.1] at e; cases e]
      exact e
end
/-! ### x[e] taken out -/
def eMv (i : Nat) (ti : PUT) : ET := fun env Q _ => match gt env i with
  | some b => match b.d, b.n with
    | .lst ds, n + 1 => ti env fun ix => match ix with
      | .int k => match ixI ds.length k with | some j => someD (ds[j]?) fun d => Q d n (env.set i (some { b with d := .lst (ds.set j .hole) })) | none => False
      | _ => False
    | _, _ => False
  | none => False
theorem de_mv {X : Cx} {b : Expr} {ti : PUT} {pos : Pos} (i : Nat) {x : Str} {pos' : Pos} (hu : X.A.units + 1 < cLine) (hb : PU X b ti) (hs : PlainIx b := by exact fun _ _ => rfl) (hN : X.N[i]? = some x := by rfl)
    (hv : Vis X.env.scope x := by first | exact Or.inl rfl | exact Or.inr (Or.inl rfl) | exact Or.inr (Or.inr rfl)) (hd : (x == ("__debug__" : Str)) = false := by decide) (hcd : (x == ("__classdict__" : Str)) = false := by decide) :
    DE X (.Subscript (.Name x pos') b pos) (eMv i ti) := by
  intro W tk
  refine peI (pe_ix (ix_any hu) (pe_var hN hv hd hcd) hb hs) ?_
  rintro σ H Qh ⟨io, env, F, O, Q, R, I, h, kQ, kX⟩
  unfold eMv at h
  cases e0 : gt env i with
  | none => rw [e0] at h; exact h.elim
  | some b0 =>
    rw [e0] at h
    obtain ⟨d0, n0, io0⟩ := b0
    cases d0 <;> first | exact (show False from h).elim | skip
    rename_i ds
    cases n0 with
    | zero => exact (show False from h).elim
    | succ n =>
      obtain ⟨v, h1, h2, _⟩ := I.slot i _ (gt_some e0)
      refine ⟨v, h1, io, env, F, O, _, I, h, ?_⟩
      intro ix w H2 e2 r2 q
      cases ix <;> first | exact (show False from q).elim | skip
      rename_i k
      cases (show w = _ from r2)
      have q : (match ixI ds.length k with | some j => someD (ds[j]?) fun d => Q d n (env.set i (some ⟨.lst (ds.set j .hole), n + 1, io0⟩)) | none => False) := q
      rw [ixI_eq] at q
      cases ej : ixN ds.length k with
      | none => rw [ej] at q; exact q.elim
      | some j =>
        rw [ej] at q
        obtain ⟨d, hd2, q⟩ := someD_of q
        have A2 := (At.start I).ext e2
        obtain ⟨a, vs, u, P1, O2, t1, t2, t3, t4, t5, t6⟩ := A2.take (gt_some e0) rfl rfl hd2
        have ev : v = .ref a := by rw [h1] at t1; exact Option.some.inj (Option.some.inj t1)
        subst ev
        have lv : vs.length = ds.length := by
          obtain ⟨a', vs', P', e1, g2, _, _, _, g6⟩ := h2
          cases e1
          rw [e2 _ _ g2] at t2
          cases t2
          exact (ROs.reps (K := X.K) (mg := X.mg) (F := H) (fun P1 d v _ r => r.rep I.sub) g6).length
        refine .inl (.inl ⟨a, vs, k, u, rfl, rfl, .inl (.inl t2), ?_, kQ d n _ _ _ _ u P1 t6 t5 t4 q⟩)
        unfold L2.atI
        rw [lv, ej]
        exact t3
/-! ### x[k] = e, x.append(e), e owned -/
/-- what x, a local, is behind an owned thing is put in -/
def setO1 (d ix x : D) (k : D → Prop) : Prop := match d, ix with
  | .lst ds, .int j => match ixI ds.length j with | some j => k (.lst (ds.set j x)) | none => False
  | .dK kvs, ix => match keyD ix with | some key => (lookD kvs key).isSome = false ∧ kvs.length < sizeLine ∧ k (.dK (kvs ++ [(key, x)])) | none => False
  | _, _ => False
def setO (i : Nat) (ix x : D) (m : Nat) (env : DEnv) (k : DEnv → Prop) : Prop := match gt env i with
  | some b => match Nat.beq b.n (m + 1) with
    | true => setO1 b.d ix x fun d' => k (env.set i (some { b with d := d' }))
    | false => False
  | none => False
/-- x[ix] = e, ix a peek -/
def sdSetO (i : Nat) (ti : PUT) (te : ET) : SD := fun env D => te env (fun x m env1 => match gt env1 i with | some _ => ti env1 fun ix => setO i ix x m env1 D.nx | none => False) D.ex
theorem look_none {κ : Type} [DecidableEq κ] {k : κ} : ∀ {kvs : List (κ × D)}, (lookD kvs k).isSome = false → (kvs.any fun kv => decide (kv.1 = k)) = false
  | [], _ => rfl
  | (k0, d0) :: r, h => by
    rw [lookD_cons] at h
    by_cases e : k0 = k
    · rw [if_pos e] at h; cases h
    · rw [if_neg e] at h
      rw [List.any_cons, look_none h, decide_eq_false (show ¬ (k0, d0).1 = k from e)]
      rfl
section
variable {X : Cx} {i e : Expr} {te : ET} {pi : PUT} {pos pos' : Pos}
theorem ds_setO (s : Nat) {x : Str} {posx : Pos} (hu : X.A.units + 1 < cLine) (he : DE X e te) (hi : PU X i pi) (hN : X.N[s]? = some x := by rfl) (hv : Vis X.env.scope x := by first | exact Or.inl rfl | exact Or.inr (Or.inl rfl) | exact Or.inr (Or.inr rfl))
    (hd : (x == ("__debug__" : Str)) = false := by decide) (hcd : (x == ("__classdict__" : Str)) = false := by decide)
    (ha : ∀ v, assign (.Subscript (.Name x posx) i pos') X.env v = (do
      let ov ← holding [v] (eval (.Name x posx) X.env)
      let iv ← holding [v, ov] (eval i X.env)
      standAt pos'
      holding [v, ov, iv] (setItem ov iv v)
      release [v, ov, iv] []) := by intro _; rfl)
    (hs : swapsWithSole [.Subscript (.Name x posx) i pos'] e pos.line X.env = pure false := by rfl) (hw : swappedStores [.Subscript (.Name x posx) i pos'] e X.env = pure none := by rfl)
    (h1 : List.map (fun x => x.snd) (assignEach [.Subscript (.Name x posx) i pos'] X.env) = [assign (.Subscript (.Name x posx) i pos') X.env] := by rfl) :
    DS X (.Assign [.Subscript (.Name x posx) i pos'] e pos) (sdSetO s pi te) := by
  intro W tk
  refine psI (ps_asg (he W tk) (pg_sub (pe_var hN hv hd hcd) hi (set_any hu) ha) hs hw (h1 := h1)) ?_
  rintro Dn σ H ⟨io, env, F, O, D, I, h, k1, k2, k3, k4, k5⟩
  refine ⟨io, env, F, O, _, _, I, h, ?_, k5⟩
  intro x m env1 F1 O1 H1 w P A1 T1 r1 q1
  cases e1 : gt env1 s with
  | none => rw [e1] at q1; exact q1.elim
  | some b =>
    rw [e1] at q1
    obtain ⟨v, g1, g2, g3⟩ := A1.si.slot s b (gt_some e1)
    refine ⟨v, g1, io, env1, F1, O1, _, A1.si, q1, ?_⟩
    intro ix wi H3 e3 ri q3
    have A3 := A1.ext e3
    have T3 : Tp O H F1 O1 H3 P := ⟨fun a p => let ⟨t1, t2, o, t3, t4⟩ := T1.t a p; ⟨t1, t2, o, e3 _ _ t3, t4⟩, T1.nw⟩
    have r3 : RepO X.K X.mg F1 H3 m P x w := r1.mono (fun _ _ x => x) (fun a o _ z => e3 a o z) fun _ x => x
    unfold setO at q3
    rw [e1] at q3
    replace q3 : (match Nat.beq b.n (m + 1) with
      | true => setO1 b.d ix x fun d' => D.nx (env1.set s (some { b with d := d' }))
      | false => False) := q3
    cases en : Nat.beq b.n (m + 1) with
    | false => rw [en] at q3; exact q3.elim
    | true =>
      rw [en] at q3
      have hn := Nat.eq_of_beq_eq_true en
      obtain ⟨v', s1, s2, s3⟩ := A3.si.slot s b (gt_some e1)
      have ev : v' = v := by rw [g1] at s1; exact (Option.some.inj (Option.some.inj s1)).symm
      subst ev
      rw [hn] at s2
      have apart : ∀ c, O1 c = some s → P c → False := fun c z p => by rw [(T3.t c p).2.1] at z; cases z
      cases hbd : b.d with
      | lst ds =>
        rw [hbd] at q3 s2
        obtain ⟨j0, rfl⟩ : ∃ j0, ix = .int j0 := by cases ix <;> first | exact ⟨_, rfl⟩ | exact (show False from q3).elim
        cases (show wi = _ from ri)
        have q3 : (match ixI ds.length j0 with | some j => D.nx (env1.set s (some { b with d := .lst (ds.set j x) })) | none => False) := q3
        rw [ixI_eq] at q3
        cases ej : ixN ds.length j0 with
        | none => rw [ej] at q3; exact q3.elim
        | some j =>
          rw [ej] at q3
          obtain ⟨a, vs, P', rfl, t2, t3, t4, t5, t6⟩ := s2
          have np : ∀ c, (P' c ∨ P c) → c ≠ a := fun c z zz => by subst zz; exact z.elim t4 fun z => apart c t3 z
          have lv : vs.length = ds.length := (ROs.reps (K := X.K) (mg := X.mg) (F := H3) (fun P1 d v _ r => r.rep A3.si.sub) t6).length
          obtain ⟨O4, A4⟩ := A3.give (a := a) (o := .lst (vs.set j w)) (d' := .lst (ds.set j x)) rfl T3 (gt_some e1) s1 t3 (by
            rw [hn]
            refine ⟨a, vs.set j w, fun c => P' c ∨ P c, rfl, upd_same, .inl t3, fun z => np a z rfl, fun c z => z.elim (fun z => .inl (t5 c z)) .inr, ?_⟩
            exact (ROs.set1 (P := fun c => P' c ∨ P c) j t6 r3 (fun _ z => .inl z) (fun _ z => .inr z) fun c z p => apart c (t5 c z) p).imp (fun Q0 d0 w0 hq rr => rr.mono (fun _ _ x => x) (fun c o pc z => by rw [upd_ne (np c (hq c pc))]; exact z) fun _ x => x) fun _ x => x)
          exact .inl ⟨a, vs, j0, j, rfl, rfl, t2, by rw [lv]; exact ej, k1 _ _ _ _ _ A4 q3⟩
      | dK kvs =>
        rw [hbd] at q3 s2
        have q3 : (match keyD ix with | some key => (lookD kvs key).isSome = false ∧ kvs.length < sizeLine ∧ D.nx (env1.set s (some { b with d := .dK (kvs ++ [(key, x)]) })) | none => False) := by cases ix <;> exact q3
        cases ek : keyD ix with
        | none => rw [ek] at q3; exact q3.elim
        | some key =>
          rw [ek] at q3
          obtain ⟨q4, q5, q6⟩ := q3
          have ew := keyD_v ek ri
          obtain ⟨a, vs, P', rfl, t2, t3, t4, t5, tk, t6⟩ := s2
          have np : ∀ c, (P' c ∨ P c) → c ≠ a := fun c z zz => by subst zz; exact z.elim t4 fun z => apart c t3 z
          have lv : vs.length = kvs.length := by have := congrArg List.length tk; simpa using this.symm
          have fresh : (vs.any fun kv => decide (kv.1 = key)) = false := by rw [← keys_any tk]; exact look_none q4
          have pk : putK vs key w = vs ++ [(key, w)] := by unfold putK; rw [fresh]; rfl
          obtain ⟨O4, A4⟩ := A3.give (a := a) (o := .dK (vs ++ [(key, w)])) (d' := .dK (kvs ++ [(key, x)])) rfl T3 (gt_some e1) s1 t3 (by
            rw [hn]
            refine ⟨a, vs ++ [(key, w)], fun c => P' c ∨ P c, rfl, upd_same, .inl t3, fun z => np a z rfl, fun c z => z.elim (fun z => .inl (t5 c z)) .inr, by rw [List.map_append, List.map_append, tk]; rfl, ?_⟩
            rw [List.map_append, List.map_append]
            exact (ROs.append1 (R := RepO X.K X.mg F1 H3 m) (P := fun c => P' c ∨ P c) (fun P P' d v s r => ro_mono s r) t6 r3 (fun _ z => .inl z) (fun _ z => .inr z) fun c z p => apart c (t5 c z) p).imp (fun Q0 d0 w0 hq rr => rr.mono (fun _ _ x => x) (fun c o pc z => by rw [upd_ne (np c (hq c pc))]; exact z) fun _ x => x) fun _ x => x)
          exact .inr ⟨a, _, rfl, .inl ⟨vs, key, t2, ew, by rw [lv]; exact q5, by rw [pk]⟩, k1 _ _ _ _ _ A4 q6⟩
      | _ => rw [hbd] at q3; exact (show False from q3).elim
end
end DL
set_option Elab.async false
set_option linter.all false
set_option maxRecDepth 100000
/-! DLq: the data layer, part q: comprehensions over a dict's keys; calls with keywords; one-pair displays; appending an owned thing. -/
namespace DL
open PySem L2 PySem.Spec PyProof.Rows
variable [Tbs]

/-! ### a dict is locked, unlocked -/
def isDk : HO → Bool
  | .dK _ => true | .dT _ => true | .frz _ (.dK _) => true | .frz _ (.dT _) => true | _ => false
def isD0 : HO → Bool
  | .dK _ => true | .dT _ => true | _ => false
theorem isD0_np {o : HO} (h : isD0 o = true) : isTp o = false := by cases o <;> first | (cases h; done) | rfl
/-- all but how dicts stand -/
structure Sees (F F' : Hp) : Prop where
  st : ∀ a o, isDk o = false → F a = some o → F' a = some o
  rd : ∀ a o, isD0 o = true → Rd F a o → Rd F' a o
theorem Sees.of {F F' : Hp} (e : Same F F') : Sees F F' := ⟨fun a o _ h => e a o h, fun a o _ h => rd_mono e h⟩
section
variable {K : PySem.W.Frag} {mg : MG} {F F' H H' : Hp}
theorem Sees.lst (e : Sees F F') {a : Addr} {xs : List V} (h : Rd F a (.lst xs)) : Rd F' a (.lst xs) := by
  rcases h with h | ⟨o, h⟩
  · exact .inl (e.st _ _ rfl h)
  · exact .inr ⟨o, e.st _ _ rfl h⟩
theorem Sees.sqt (e : Sees F F') {a : Addr} {xs : List V} (h : SqT K F a xs) : SqT K F' a xs := by
  rcases h with (h | ⟨o, h⟩) | h
  · exact .inl (.inl (e.st _ _ rfl h))
  · exact .inl (.inr ⟨o, e.st _ _ rfl h⟩)
  · exact .inr h
mutual
theorem Rep.sees (e : Sees F F') : ∀ {d : D} {v : V}, Rep K mg F d v → Rep K mg F' d v
  | .non, _, h => h
  | .bl _, _, h => h
  | .int _, _, h => h
  | .str _, _, h => h
  | .tup _, _, ⟨a, vs, h1, h2, h3⟩ => ⟨a, vs, h1, e.st _ _ rfl h2, Reps.sees e h3⟩
  | .lst _, _, ⟨a, vs, h1, h2, h3⟩ => ⟨a, vs, h1, e.lst h2, Reps.sees e h3⟩
  | .dK _, _, ⟨a, vs, h1, h2, h3⟩ => ⟨a, vs, h1, e.rd _ _ rfl h2, RepK.sees e h3⟩
  | .dT _, _, ⟨a, vs, h1, h2, h3⟩ => ⟨a, vs, h1, e.rd _ _ rfl h2, RepT.sees e h3⟩
  | .obj _ _, _, ⟨a, C, dx, vs, h1, h2, h3, h4, h5⟩ => ⟨a, C, dx, vs, h1, e.st _ _ rfl h2, e.st _ _ rfl h3, h4, RepF.sees e h5⟩
  | .fn _, _, h => h
  | .ktu _, _, ⟨a, vs, h1, h2, h3⟩ => ⟨a, vs, h1, e.sqt h2, Reps.sees e h3⟩
  | .exn _ _ _, _, ⟨h1, vs, h2, h3⟩ => ⟨h1, vs, e.st _ _ rfl h2, RepF.sees e h3⟩
  | .hole, _, h => h
theorem Reps.sees (e : Sees F F') : ∀ {ds : List D} {vs : List V}, Reps K mg F ds vs → Reps K mg F' ds vs
  | [], _, h => h
  | _ :: _, _, ⟨v, r, h1, h2, h3⟩ => ⟨v, r, h1, Rep.sees e h2, Reps.sees e h3⟩
theorem RepK.sees (e : Sees F F') : ∀ {ds : List (Key × D)} {vs : List (Key × V)}, RepK K mg F ds vs → RepK K mg F' ds vs
  | [], _, h => h
  | (_, _) :: _, _, ⟨v, r, h1, h2, h3⟩ => ⟨v, r, h1, Rep.sees e h2, RepK.sees e h3⟩
theorem RepT.sees (e : Sees F F') : ∀ {ds : List (List Key × D)} {vs : List (List Key × V)}, RepT K mg F ds vs → RepT K mg F' ds vs
  | [], _, h => h
  | (_, _) :: _, _, ⟨v, r, h1, h2, h3⟩ => ⟨v, r, h1, Rep.sees e h2, RepT.sees e h3⟩
theorem RepF.sees (e : Sees F F') : ∀ {ds : List (Str × D)} {vs : List (Str × V)}, RepF K mg F ds vs → RepF K mg F' ds vs
  | [], _, h => h
  | (_, _) :: _, _, ⟨v, r, h1, h2, h3⟩ => ⟨v, r, h1, Rep.sees e h2, RepF.sees e h3⟩
end
theorem RepO.sees : ∀ {n : Nat} {P : AP} {d : D} {v : V}, Sees F F' → (∀ a o, P a → H a = some o → H' a = some o) → RepO K mg F H n P d v → RepO K mg F' H' n P d v
  | 0, _, _, _, e, _, h => Rep.sees e h
  | n + 1, P, .lst ds, v, e, k, ⟨a, vs, P1, h1, h2, h3, h4, h5, h6⟩ => ⟨a, vs, P1, h1, k _ _ h3 h2, h3, h4, h5, h6.imp (fun Q d w hq r => RepO.sees e (fun a o x => k a o (h5 _ (hq _ x))) r) fun _ x => x⟩
  | n + 1, P, .dK ds, v, e, k, ⟨a, vs, P1, h1, h2, h3, h4, h5, h6, h7⟩ => ⟨a, vs, P1, h1, k _ _ h3 h2, h3, h4, h5, h6, h7.imp (fun Q d w hq r => RepO.sees e (fun a o x => k a o (h5 _ (hq _ x))) r) fun _ x => x⟩
  | n + 1, P, .dT ds, v, e, k, ⟨a, vs, P1, h1, h2, h3, h4, h5, h6, h7⟩ => ⟨a, vs, P1, h1, k _ _ h3 h2, h3, h4, h5, h6, h7.imp (fun Q d w hq r => RepO.sees e (fun a o x => k a o (h5 _ (hq _ x))) r) fun _ x => x⟩
  | n + 1, P, .obj c ds, v, e, k, ⟨a, C, dx, vs, P1, h1, h2, h2', hm, h3, h3', h4, h4', h5, h6, h7⟩ =>
    ⟨a, C, dx, vs, P1, h1, k _ _ h3 h2, k _ _ h3' h2', hm, h3, h3', h4, h4', h5, h6, h7.imp (fun Q d w hq r => RepO.sees e (fun a o x => k a o (h5 _ (hq _ x))) r) fun _ x => x⟩
  | n + 1, _, .non, _, _, _, h => h
  | n + 1, _, .bl _, _, _, _, h => h
  | n + 1, _, .int _, _, _, _, h => h
  | n + 1, _, .str _, _, _, _, h => h
  | n + 1, _, .tup _, _, e, _, h => Rep.sees (d := .tup _) e h
  | n + 1, _, .fn _, _, _, _, h => h
  | n + 1, _, .ktu _, _, e, _, h => Rep.sees (d := .ktu _) e h
  | n + 1, _, .exn _ _ _, _, e, _, h => Rep.sees (d := .exn _ _ _) e h
  | n + 1, _, .hole, _, _, _, h => h
theorem sees_lock {F : Hp} {d : Addr} {u : HO} {od : Obj} (h : F d = some u) (hu : isD0 u = true) : Sees F (upd F d (.frz od u)) := ⟨fun a o ho e => by
  have ne : a ≠ d := fun z => by subst z; rw [h] at e; cases e; cases u <;> first | cases ho; done | cases hu
  rw [upd_ne ne]; exact e, fun a o ho r => by
  by_cases z : a = d
  · subst z
    rcases r with r | ⟨o', r⟩
    · rw [h] at r; cases r; exact .inr ⟨od, upd_same⟩
    · rw [h] at r; cases r; cases hu
  · rcases r with r | ⟨o', r⟩
    · exact .inl (by rw [upd_ne z]; exact r)
    · exact .inr ⟨o', by rw [upd_ne z]; exact r⟩⟩
theorem sees_unlock {F : Hp} {d : Addr} {u : HO} {od : Obj} (h : F d = some (.frz od u)) (hu : isD0 u = true) : Sees F (upd F d u) := ⟨fun a o ho e => by
  have ne : a ≠ d := fun z => by subst z; rw [h] at e; cases e; cases u <;> first | cases ho; done | cases hu
  rw [upd_ne ne]; exact e, fun a o ho r => by
  by_cases z : a = d
  · subst z
    rcases r with r | ⟨o', r⟩
    · rw [h] at r; cases r; cases ho
    · rw [h] at r; cases r; exact .inl upd_same
  · rcases r with r | ⟨o', r⟩
    · exact .inl (by rw [upd_ne z]; exact r)
    · exact .inr ⟨o', by rw [upd_ne z]; exact r⟩⟩
end
section
variable {K : PySem.W.Frag} {mg : MG} {io : Nat → Option V} {env env1 : DEnv} {σ σ1 : L2.St} {F F1 H H1 : Hp} {O O1 : OW} {P : AP} {n : Nat} {d : Addr} {u : HO} {od : Obj}
theorem SI.lock (I : SI K mg io env σ F O H) (h : F d = some u) (hu : isD0 u = true) : SI K mg io env σ (upd F d (.frz od u)) O (upd H d (.frz od u)) where
  sub := fun a o e => by
    by_cases z : a = d
    · subst z; rw [upd_same] at e ⊢; exact e
    · rw [upd_ne z] at e ⊢; exact I.sub a o e
  own := fun a i e => by
    obtain ⟨h1, o, h2⟩ := I.own a i e
    have z : a ≠ d := fun z => by subst z; rw [h] at h1; cases h1
    rw [upd_ne z, upd_ne z]
    exact ⟨h1, o, h2⟩
  slot := fun i b hb => by
    obtain ⟨v, h1, h2, h3⟩ := I.slot i b hb
    refine ⟨v, h1, h2.sees (sees_lock h hu) (fun a o e x => ?_), h3⟩
    have z : a ≠ d := fun z => by have q := (I.own a i e).1; rw [z, h] at q; cases q
    rw [upd_ne z]; exact x
  len := I.len
  tab := fun a q hq => by
    obtain ⟨t, e⟩ := I.tab a q hq
    have z : a ≠ d := fun z => by subst z; rw [h] at e; cases e
    exact ⟨tabs_upd t (.inr ⟨u, I.sub _ _ h, isD0_np hu⟩), by rw [upd_ne z]; exact e⟩
theorem At.unlock (I : SI K mg io env σ F O H) (h : F d = some u) (hu : isD0 u = true) (A : At K mg io (upd F d (.frz od u)) O (upd H d (.frz od u)) env1 σ1 F1 O1 H1) :
    F1 d = some (.frz od u) ∧ H1 d = some (.frz od u) ∧ At K mg io F O H env1 σ1 (upd F1 d u) O1 (upd H1 d u) ∧ ∀ P, Tp O (upd H d (.frz od u)) F1 O1 H1 P → Tp O H (upd F1 d u) O1 (upd H1 d u) P ∧ ∀ n d' v, RepO K mg F1 H1 n P d' v → RepO K mg (upd F1 d u) (upd H1 d u) n P d' v := by
  have f1 := A.mv.ff d _ upd_same
  have h1 := A.si.sub d _ f1
  have hd := I.sub d u h
  have back : ∀ {a}, (upd H d (.frz od u) a = none ∨ ∃ i, O a = some i) → H a = none ∨ ∃ i, O a = some i := fun {a} z => z.imp (fun z => by
    have ne : a ≠ d := fun q => by subst q; rw [upd_same] at z; cases z
    rw [upd_ne ne] at z; exact z) id
  refine ⟨f1, h1, ⟨⟨fun a o e => ?_, fun a o e q ok => ?_, fun a o e => ?_, fun a i e => back (A.mv.on a i e), ?_⟩, ⟨fun a o e => ?_, fun a i e => ?_, fun i b hb => ?_, A.si.len, fun a q hq => ?_⟩⟩, fun P T => ⟨⟨fun a p => ?_, fun a p => back (T.nw a p)⟩, fun n d' v r => ?_⟩⟩
  · by_cases z : a = d
    · subst z; rw [h] at e; cases e; exact upd_same
    · rw [upd_ne z]; exact A.mv.ff a o (by rw [upd_ne z]; exact e)
  · by_cases z : a = d
    · subst z; rw [hd] at e; cases e; exact upd_same
    · rw [upd_ne z]; exact A.mv.fr a o (by rw [upd_ne z]; exact e) q ok
  · by_cases z : a = d
    · subst z; rw [upd_same] at e; cases e; exact .inl h
    · rw [upd_ne z] at e
      rcases A.mv.fn a o e with q | q | q | ⟨vs, q⟩
      · rw [upd_ne z] at q; exact .inl q
      · exact .inr ((back (.inl q)).imp id .inl)
      · exact .inr ((back (.inr q)).imp id .inl)
      · rw [upd_ne z] at q; exact .inr (.inr (.inr ⟨vs, q⟩))
  · exact (TabMv.upd (.inr ⟨u, hd, isD0_np hu⟩)).trans (A.mv.tb.trans (.upd (.inr ⟨_, h1, rfl⟩)))
  · by_cases z : a = d
    · subst z; rw [upd_same] at e ⊢; exact e
    · rw [upd_ne z] at e ⊢; exact A.si.sub a o e
  · obtain ⟨g1, o, g2⟩ := A.si.own a i e
    have z : a ≠ d := fun z => by subst z; rw [f1] at g1; cases g1
    rw [upd_ne z, upd_ne z]
    exact ⟨g1, o, g2⟩
  · obtain ⟨v, g1, g2, g3⟩ := A.si.slot i b hb
    refine ⟨v, g1, g2.sees (sees_unlock f1 hu) (fun a o e x => ?_), g3⟩
    have z : a ≠ d := fun z => by have q := (A.si.own a i e).1; rw [z, f1] at q; cases q
    rw [upd_ne z]; exact x
  · obtain ⟨t, e⟩ := A.si.tab a q hq
    have z : a ≠ d := fun z => by subst z; rw [f1] at e; cases e
    exact ⟨tabs_upd t (.inr ⟨_, h1, rfl⟩), by rw [upd_ne z]; exact e⟩
  · obtain ⟨g1, g2, o, g3⟩ := T.t a p
    have z : a ≠ d := fun z => by subst z; rw [f1] at g1; cases g1
    rw [upd_ne z, upd_ne z]
    exact ⟨g1, g2, o, g3⟩
  · refine r.sees (sees_unlock f1 hu) fun a o p x => ?_
    have z : a ≠ d := fun z => by have q := (T.t a p).1; rw [z, f1] at q; cases q
    rw [upd_ne z]; exact x
theorem KE.lock {Q : QE} {Qh : VK} (I : SI K mg io env σ F O H) (h : F d = some u) (hu : isD0 u = true) (k : KE K mg io σ F O H Q Qh) : KE K mg io σ (upd F d (.frz od u)) O (upd H d (.frz od u)) Q (fun v H' => H' d = some (.frz od u) ∧ Qh v (upd H' d u)) := by
  intro d' n env1 F1 O1 H1 v P A T r q
  obtain ⟨_, h1, A', tt⟩ := At.unlock I h hu A
  obtain ⟨T', rr⟩ := tt P T
  exact ⟨h1, k d' n env1 _ O1 _ v P A' T' (rr n d' v r) q⟩
end
theorem mut_d0 {u : HO} (h : isD0 u = true) : Mut (some u) := by cases u <;> first | exact True.intro | cases h
theorem itok_keys {K : PySem.W.Frag} {mg : MG} {F : Hp} {d : Addr} {o : Obj} {kvs : List (Key × D)} {vs : List (Key × V)} (h1 : F d = some (.frz o (.dK vs))) (h2 : RepK K mg F kvs vs) : ItOk K mg (Itk d o vs) (kvs.map fun kv => kD kv.1) F := by
  have hl : vs.length = kvs.length := by have := congrArg List.length (RepK.keys h2).1; simpa using this.symm
  refine ⟨fun i H e hi => ⟨e _ _ h1, by rw [List.length_map] at hi; omega⟩, fun i H e hi => ⟨e _ _ h1, by rw [List.length_map] at hi; omega⟩, ?_⟩
  rintro i H v H' e hi ⟨rfl, k, w, hk, rfl⟩
  have hm := (RepK.keys h2).1
  have e1 : (kvs.map (·.1))[i]? = some k := by rw [hm, List.getElem?_map, hk]; rfl
  rw [List.getElem?_map] at e1
  cases ek : kvs[i]? with
  | none => rw [ek] at e1; cases e1
  | some p =>
    rw [ek] at e1
    have e1 : p.1 = k := Option.some.inj e1
    refine ⟨kD k, by rw [List.getElem?_map, ek, ← e1]; rfl, .inl ⟨rfl, ?_⟩⟩
    cases k <;> exact rfl
theorem pe_either {X : Cx} {e : Expr} {t t' : TE} (h : PE X e t) (h' : PE X e t') : PE X e (fun σ H Q => t σ H Q ∨ t' σ H Q) := ⟨fun pins s σ H Q I w => w.elim (h.run pins s σ H Q I) (h'.run pins s σ H Q I)⟩
def keysOf (d : D) (k : List D → Prop) : Prop := match d with
  | .dK kvs => k (kvs.map fun kv => kD kv.1)
  | _ => False
/-- [e for x in d if ..], d a local that bears a dict -/
def eLcK (i : Nat) (g : Tg) (tt : TTd) (te : ET) (vs : List Nat) : ET := fun env Q _ => match gt env i with
  | some b => keysOf b.d fun items => lcD g tt te vs items [] (wipeD (env.set i (some { b with n := 0 })) vs) Q
  | none => False
theorem keysOf_of {d : D} {k : List D → Prop} (h : keysOf d k) : ∃ kvs, d = .dK kvs ∧ k (kvs.map fun kv => kD kv.1) := by cases d <;> first | exact ⟨_, rfl, h⟩ | exact h.elim
section
variable {X : Cx} {elt tg : Expr} {ifs : List Expr} {scope : Scope} {vs : List Nat} {g : Tg} {tt : TTd} {te : ET} {pos px : Pos} {x : Str}
theorem de_lcK (i : Nat) (own : List (Str × Nat)) (hc : X.calm = true) (hN : X.N.Nodup) (ok : BlkOk X.N X.env.scope scope own)
    (hg : ∀ (s : Shared) (H : Hp) (C : Addr) (cl : List (Str × Addr)) (fp : List Addr), DGt (X.blk s H scope (compEnvC scope cl C X.env) fp) tg g)
    (ht : ∀ (s : Shared) (H : Hp) (C : Addr) (cl : List (Str × Addr)) (fp : List Addr), DPTs (X.blk s H scope (compEnvC scope cl C X.env) fp) ifs tt)
    (he : ∀ (s : Shared) (H : Hp) (C : Addr) (cl : List (Str × Addr)) (fp : List Addr), DE (X.blk s H scope (compEnvC scope cl C X.env) fp) elt te)
    (hv : own.map (·.2) = vs := by rfl) (hsl : ∀ i ∈ g.slots, i ∈ vs := by decide) (hs : ∀ z, foldedSetIterable (.Name x px) X.env z = pure z := by intro _; rfl) (hNi : X.N[i]? = some x := by rfl)
    (hvi : Vis X.env.scope x := by first | exact Or.inl rfl | exact Or.inr (Or.inl rfl) | exact Or.inr (Or.inr rfl)) (hd : (x == ("__debug__" : Str)) = false := by decide) (hcd : (x == ("__classdict__" : Str)) = false := by decide) :
    DE X (.ListComp elt [⟨tg, .Name x px, ifs, 0⟩] scope pos) (eLcK i g tt te vs) := by
  subst hv
  intro W tk
  have base := pe_lc (pos := pos) (g := rdG X.K X.mg g) (tt := rdT X.K X.mg tt fun _ _ _ _ => False) (te := rdE X.K X.mg te fun _ _ _ _ => False) hc hN (pi_keys (tg := tg) (pe_var hNi hvi hd hcd)) ok hg (fun s H C cl fp => ht s H C cl fp _ takes00) (fun s H C cl fp => he s H C cl fp _ takes00) hs
  refine peI (pe_either (pe_lock base) base) ?_
  rintro σ H Qh ⟨io, env, F, O, Q, R, I, h, kQ, kX⟩
  unfold eLcK at h
  cases eb : gt env i with
  | none => rw [eb] at h; exact h.elim
  | some b =>
    rw [eb] at h
    obtain ⟨kvs, hd', h⟩ := keysOf_of h
    obtain ⟨A0, v, h1, r⟩ := (At.start I).fzSlot (gt_some eb)
    rw [hd'] at r
    obtain ⟨a, ws, rfl, rr, rk⟩ := r
    have kQ0 := kQ.mv A0
    rcases rr with rr | ⟨o, rr⟩
    · refine .inl ⟨a, .dK ws, A0.si.sub _ _ rr, True.intro, fun od => ?_⟩
      have I1 := A0.si.lock (od := od) rr rfl
      refine ⟨.ref a, h1, a, od, rfl, .inl ⟨ws, upd_same, ?_⟩⟩
      intro L hL
      exact lc_rest hsl (KE.lock A0.si rr rfl kQ0) (At.start I1) (itok_keys upd_same (RepK.sees (sees_lock rr rfl) rk)) h L hL
    · refine .inr ⟨.ref a, h1, a, o, rfl, .inl ⟨ws, A0.si.sub _ _ rr, ?_⟩⟩
      intro L hL
      exact lc_rest hsl kQ0 (At.start A0.si) (itok_keys rr rk) h L hL
end
/-! ### x.append(e), e stays owned -/
def appO1 (d x : D) (k : D → Prop) : Prop := match d with
  | .lst ds => ds.length < sizeLine ∧ k (.lst (ds ++ [x]))
  | _ => False
def sdAppO (i : Nat) (te : ET) : SD := fun env D => match gt env i with
  | some b0 => isLst b0.d (te env (fun x m env1 => match gt env1 i with
    | some b => match Nat.beq b.n (m + 1) with
      | true => appO1 b.d x fun d' => D.nx (env1.set i (some { b with d := d' }))
      | false => False
    | none => False) D.ex)
  | none => False
section
variable {X : Cx} {e : Expr} {te : ET} {apos cpos pos : Pos}
theorem ds_appendO (i : Nat) {x : Str} {pos' : Pos} (he : DE X e te) (hN : X.N[i]? = some x := by rfl) (hv : Vis X.env.scope x := by first | exact Or.inl rfl | exact Or.inr (Or.inl rfl) | exact Or.inr (Or.inr rfl)) (hd : (x == ("__debug__" : Str)) = false := by decide)
    (hcd : (x == ("__classdict__" : Str)) = false := by decide) (hbase : attributeBase (.Name x pos') "append" X.env (eval (.Name x pos') X.env) = eval (.Name x pos') X.env := by rfl)
    (hfew : ((backTo cpos (starEach [e] X.env)).all (fun x => !x.1) && (backToKw cpos (keywordEach [] X.env)).all (fun x => x.1.isSome)
      && decide (([e] : List Expr).length + ([] : List Keyword).length + (if ([] : List Keyword).isEmpty then 0 else 1) < 30)) = true := by rfl)
    (hline : (apos.endLine == cpos.line) = true := by rfl) (hs : starEach (e :: []) X.env = (false, eval e X.env) :: starEach [] X.env := by rfl) (hplain : (backTo cpos (starEach [] X.env)).any (·.1) = false := by rfl)
    (hsw : swapsWith (.Call (.Attribute (.Name x pos') "append" apos) [e] [] cpos) none pos.line X.env = pure false := by rfl) : DS X (.Expr (.Call (.Attribute (.Name x pos') "append" apos) [e] [] cpos) pos) (sdAppO i te) := by
  intro W tk
  refine psI (ps_expr (pe_bm PySem.F.plainAttrs_list PySem.F.slot_list_append PySem.F.type_list_append mt_append (pe_var hN hv hd hcd) (pa_cons (he W tk) pa_nil hs) hbase hfew hline hs hplain) hsw) ?_
  rintro Dn σ H ⟨io, env, F, O, D, I, h, k1, k2, k3, k4, k5⟩
  unfold sdAppO at h
  cases e0 : gt env i with
  | none => rw [e0] at h; exact h.elim
  | some b0 =>
    rw [e0] at h
    obtain ⟨⟨ds0, hd0⟩, h⟩ := isLst_of h
    obtain ⟨v, h1, h2, _⟩ := I.slot i b0 (gt_some e0)
    have rl := h2.rep I.sub
    rw [hd0] at rl
    obtain ⟨a, vs, rfl, g1, g2⟩ := rl
    refine ⟨.ref a, h1, .inl ⟨rfl, vs, .inl g1⟩, io, env, F, O, _, _, I, h, ?_, k5⟩
    intro x m env2 F2 O2 H2 w P2 A2 T2 r2 q
    cases e2 : gt env2 i with
    | none => rw [e2] at q; exact q.elim
    | some b =>
      rw [e2] at q
      obtain ⟨bd, bn, bio⟩ := b
      replace q : (match Nat.beq bn (m + 1) with
        | true => appO1 bd x fun d' => D.nx (env2.set i (some ⟨d', bn, bio⟩))
        | false => False) := q
      cases en : Nat.beq bn (m + 1) with
      | false => rw [en] at q; exact q.elim
      | true =>
        rw [en] at q
        have hn := Nat.eq_of_beq_eq_true en
        subst hn
        obtain ⟨ds, rfl⟩ : ∃ ds, bd = .lst ds := by cases bd <;> first | exact ⟨_, rfl⟩ | exact (show False from q).elim
        replace q : ds.length < sizeLine ∧ D.nx (env2.set i (some ⟨.lst (ds ++ [x]), m + 1, bio⟩)) := q
        obtain ⟨v', s1, s2, s3⟩ := A2.si.slot i _ (gt_some e2)
        have ev : v' = .ref a := by rw [h1] at s1; exact (Option.some.inj (Option.some.inj s1)).symm
        subst ev
        obtain ⟨a', vs', P', ea, t2, t3, t4, t5, t6⟩ := s2
        cases ea
        have apart : ∀ c, O2 c = some i → P2 c → False := fun c z p => by rw [(T2.t c p).2.1] at z; cases z
        have np : ∀ c, (P' c ∨ P2 c) → c ≠ a := fun c z zz => by subst zz; exact z.elim t4 fun z => apart c t3 z
        have lv : vs'.length = ds.length := (ROs.reps (K := X.K) (mg := X.mg) (F := H2) (fun P1 d v _ r => r.rep A2.si.sub) t6).length
        obtain ⟨O4, A4⟩ := A2.give (a := a) (o := .lst (vs' ++ [w])) (d' := .lst (ds ++ [x])) rfl T2 (gt_some e2) s1 t3 (by
          refine ⟨a, vs' ++ [w], fun c => P' c ∨ P2 c, rfl, upd_same, .inl t3, fun z => np a z rfl, fun c z => z.elim (fun z => .inl (t5 c z)) .inr, ?_⟩
          exact (ROs.append1 (R := RepO X.K X.mg F2 H2 m) (P := fun c => P' c ∨ P2 c) (fun P P' d v s r => ro_mono s r) t6 r2 (fun _ z => .inl z) (fun _ z => .inr z) fun c z p => apart c (t5 c z) p).imp (fun Q0 d0 w0 hq rr => rr.mono (fun _ _ x => x) (fun c o pc z => by rw [upd_ne (np c (hq c pc))]; exact z) fun _ x => x) fun _ x => x)
        exact ⟨a, vs', w, rfl, rfl, t2, by rw [lv]; exact q.1, k1 _ _ _ _ _ A4 q.2⟩
end
end DL
set_option Elab.async false
set_option linter.all false
set_option maxRecDepth 100000
/-! DLr: the data layer, part r: calls with keywords, displays of one pair, walks of a dict by for. -/
namespace DL
open PySem L2 PySem.Spec PyProof.Rows
variable [Tbs]

section
variable {K : PySem.W.Frag} {mg : MG} {io : Nat → Option V} {env : DEnv} {σ : L2.St} {F F1 H H1 : Hp} {O O1 : OW} {P : AP}
/-- an object at hand is written -/
theorem At.hand (A : At K mg io F O H env σ F1 O1 H1) (T : Tp O H F1 O1 H1 P) {p : Addr} {o : HO} (hp : P p) (nt : isTp o = false) : At K mg io F O H env σ F1 O1 (upd H1 p o) ∧ Tp O H F1 O1 (upd H1 p o) P := by
  obtain ⟨f0, o0, ob⟩ := T.t p hp
  refine ⟨⟨⟨A.mv.ff, fun a u e q ok => ?_, A.mv.fn, A.mv.on, A.mv.tb.trans (.upd (.inr ob))⟩, ⟨fun a u e => ?_, fun a i e => ?_, fun i b hb => ?_, A.si.len, A.si.tab.upd (.inr ob)⟩⟩, ⟨fun a h => ?_, T.nw⟩⟩
  · have ne : a ≠ p := fun z => by
      subst z
      rcases T.nw a hp with z | ⟨k, z⟩
      · rw [e] at z; cases z
      · rw [q] at z; cases z
    rw [upd_ne ne]
    exact A.mv.fr a u e q ok
  · rw [upd_ne fun z => by rw [z, f0] at e; cases e]
    exact A.si.sub a u e
  · rw [upd_ne fun z => by rw [z, o0] at e; cases e]
    exact A.si.own a i e
  · obtain ⟨v, g1, g2, g3⟩ := A.si.slot i b hb
    exact ⟨v, g1, g2.mono (fun _ _ x => x) (fun a u e x => by rw [upd_ne fun z => by rw [z, o0] at e; cases e]; exact x) (fun _ x => x), g3⟩
  · obtain ⟨t1, t2, u, t3, t4⟩ := T.t a h
    refine ⟨t1, t2, ?_⟩
    by_cases z : a = p
    · subst z; exact ⟨_, upd_same, nt⟩
    · exact ⟨u, by rw [upd_ne z]; exact t3, t4⟩
end
/-! ### {k: v} -/
def eDisp1 (tk tv : ET) : ET := fun env Q R => tk env (fun k _ env1 => tv env1 (fun v _ env2 => match keyD k with | some key => Q (.dK [(key, v)]) 1 env2 | none => False) R) R
theorem de_disp1 {X : Cx} {k v : Expr} {tk tv : ET} {pos : Pos} (hk : DE X k tk) (hv : DE X v tv) : DE X (.Dict [some k] [v] pos) (eDisp1 tk tv) := by
  intro W tt
  refine peI (pe_disp (pps_cons (hk W tt) (hv W tt) pps_nil) rfl rfl (fun z => nomatch z) (show 1 ≤ 15 by decide)) ?_
  rintro σ H Qh ⟨io, env, F, O, Q, R, I, h, kQ, kX⟩ p hp
  have A0 := (At.start I).ext (same_upd (o := .dK []) hp)
  have T0 : Tp O H F O (upd H p (.dK [])) (fun b => b = p) := (At.start I).tp_new (o := .dK []) hp rfl
  refine ⟨io, env, F, O, _, R, A0.si, h, ?_, kX.mv A0⟩
  intro x n env1 F1 O1 H1 xv P1 A1 T1 r1 h1
  have A1' := A1.frz T1
  refine ⟨io, env1, _, O1, _, R, A1'.si, h1, ?_, (kX.mv A0).mv A1'⟩
  intro y m env2 F2 O2 H2 yv P2 A2 T2 r2 h2
  have A2' := A2.frz T2
  have A := (A0.trans A1').trans A2'
  have T := (T0.mv A1'.mv).mv A2'.mv
  cases ek : keyD x with
  | none => rw [ek] at h2; exact h2.elim
  | some key =>
    rw [ek] at h2
    have ex := keyD_v ek (A1.frz_rep r1)
    obtain ⟨A3, T3⟩ := A.hand T (p := p) (o := .dK (mergeK [] [(key, yv)])) rfl rfl
    refine ⟨?_, [(key, yv)], by rw [ex]; rfl, show 1 ≤ 15 by decide, ?_⟩
    · exact (T0.mv A1'.mv).keep A2'.mv rfl (T0.keep A1'.mv rfl upd_same)
    · exact kQ (.dK [(key, y)]) 1 env2 _ O2 _ (.ref p) (fun b => b = p) A3 T3 (NewL.own (z := .dK [(key, y)]) (o := .dK [(key, yv)]) ⟨yv, [], rfl, A2.frz_rep r2, rfl⟩ upd_same) h2
/-! ### f(k = a, l = b), the parameters in the other order -/
def swp {α : Type} : List α → List α
  | [a, b] => [b, a]
  | l => l
theorem swp_vals {vs : List V} {us : List Value} (h : Vals vs us) : Vals (swp vs) (swp us) := by
  cases h with
  | nil => exact .nil
  | cons h1 t =>
    cases t with
    | nil => exact .cons h1 .nil
    | cons h2 t =>
      cases t with
      | nil => exact .cons h2 (.cons h1 .nil)
      | cons h3 t => exact .cons h1 (.cons h2 (.cons h3 t))
theorem kswap {K : PySem.W.Frag} {x qual : Str} {st : Stmt} {f : Addr} {fd : FuncData} {ps : List Str} (k1 k2 : Str) (Fu : Fun K x qual st f fd)
    (h : ∀ (kV doc pm : Value) (an : Option Addr) (cdv ct a b : Value), bindArgs (PySem.W.fnOf x qual (defArgs st) (defBody st) (defScope st) .none kV doc pm an cdv ct) ⟨[], [(k1, a), (k2, b)]⟩ = pure (ps.zip [b, a])) :
    KBn K fd ps 0 [k1, k2] (fun _ ws => swp ws) (fun _ zs => swp zs) := by
  obtain ⟨oc, od, kV, doc, pm, an, cdv, ct, osl, rfl, lk, hcd⟩ := Fu.ex
  refine ⟨fun s us ws _ l1 l2 => ?_, fun _ r => swp_vals r⟩
  match us, l1, ws, l2 with
  | [], _, [a, b], _ => exact .of_eq (h kV doc pm an cdv ct a b)
def DGK (X : Cx) (kws : List Keyword) (τ : GAT) : Prop := ∀ W, Takes X W → PK X kws (rdGA X.K X.mg τ W)
theorem pkI {X : Cx} {kws : List Keyword} {t t' : TA} (h : PK X kws t) (k : ∀ σ H Q, t' σ H Q → t σ H Q) : PK X kws t' := ⟨fun pos pins s σ H Q I x => h.run pos pins s σ H Q I (k σ H Q x)⟩
section
variable {X : Cx} {e : Expr} {kws : List Keyword} {te : ET} {t : GAT} {nm : Option Str} {kpos : Pos}
theorem dgk_nil : DGK X [] gaNil := fun W tk => pkI pk_nil fun σ H Qh ⟨io, env, F, O, Q, R, I, h, kQ, kX⟩ => kQ [] env F O H [] (At.start I) rfl h
theorem dgk_val (ha : DE X e te) (hr : DGK X kws t) : DGK X (⟨nm, e, kpos⟩ :: kws) (gaVal te t) := by
  intro W tk
  refine pkI (pk_cons (ha W tk) (hr W tk)) ?_
  rintro σ H Qh ⟨io, env, F, O, Q, R, I, h, kQ, kX⟩
  refine ⟨io, env, F, O, _, R, I, h, ?_, kX⟩
  intro x n env1 F1 O1 H1 v P A1 T1 r1 h1
  have A1' := A1.frz T1
  have r1' := A1.frz_rep r1
  refine ⟨io, env1, _, O1, _, R, A1'.si, h1, ?_, kX.mv A1'⟩
  intro ys env2 F2 O2 H2 vs A2 r2 h2
  exact kQ (.inl x :: ys) _ _ _ _ _ (A1'.trans A2) ⟨v, vs, rfl, Rep.mono A2.mv.ff r1', r2⟩ h2
end
def eCallSw (ms : Ms) (S : DSp) (t : GAT) : ET := fun env Q R => t env (fun gs env1 => callD ms S (swp gs) env1 Q R) R
theorem GaR.swap {K : PySem.W.Frag} {mg : MG} {F : Hp} {σ : L2.St} {gs : List Ga} {vs : List V} (h : GaR K mg F σ gs vs) : GaR K mg F σ (swp gs) (swp vs) := by
  have cons : ∀ {g : Ga} {gs : List Ga} {vs : List V}, GaR K mg F σ (g :: gs) vs → ∃ v r, vs = v :: r ∧ GaR K mg F σ [g] [v] ∧ GaR K mg F σ gs r := by
    intro g gs vs h
    cases g with
    | inl d => obtain ⟨v, r, h1, h2, h3⟩ := h; exact ⟨v, r, h1, ⟨v, [], rfl, h2, rfl⟩, h3⟩
    | inr k => obtain ⟨v, r, h1, h2, h3⟩ := h; exact ⟨v, r, h1, ⟨v, [], rfl, h2, rfl⟩, h3⟩
  have join : ∀ {g : Ga} {gs : List Ga} {v : V} {vs : List V}, GaR K mg F σ [g] [v] → GaR K mg F σ gs vs → GaR K mg F σ (g :: gs) (v :: vs) := by
    intro g gs v vs h1 h2
    cases g with
    | inl d => obtain ⟨w, r, e, h, _⟩ := h1; cases e; exact ⟨v, vs, rfl, h, h2⟩
    | inr k => obtain ⟨w, r, e, h, _⟩ := h1; cases e; exact ⟨v, vs, rfl, h, h2⟩
  match gs, h with
  | [], h => rw [show vs = [] from h]; exact rfl
  | [a], h => obtain ⟨v, r, e, h1, h2⟩ := cons h; rw [e, show r = [] from h2]; exact h1
  | [a, b], h =>
    obtain ⟨v, r, e, h1, h2⟩ := cons h
    obtain ⟨w, r', e', h3, h4⟩ := cons h2
    rw [e, e', show r' = [] from h4]
    exact join h3 h1
  | a :: b :: c :: l, h =>
    obtain ⟨v, r, e, h1, h2⟩ := cons h
    obtain ⟨w, r', e', h3, h4⟩ := cons h2
    obtain ⟨z, r'', e'', h5, h6⟩ := cons h4
    rw [e, e', e''] at h ⊢
    exact h
section
variable {X : Cx} {k : Nat} {f : Addr} {fd : FuncData} {ps ks : List Str} {ms : Ms} {S : DSp} {x : Str} {p pos : Pos} {kws : List Keyword} {t : GAT}
def tKw (sp : Sp) (E : L2.St → XK) (tk : TA) : TE := fun σ H Q => tk σ H fun zs H2 => zs.length = 2 ∧ sp (swp zs) H2 Q (E σ)
theorem pe_kw2 {sp : Sp} {E : L2.St → XK} {tk : TA} {k1 k2 : Str} (Fn : FnOk X.prog X.w X.K X.mg X.base (L2N.CX X.prog X.w) k f fd ps sp) (hr : Room k X.A) (hg : Gl X x) (hm : X.mg x = some (.ref f)) (hk : PySem.W.keepIn X.K (.ref f) = true)
    (hb : KBn X.K fd ps 0 [k1, k2] (fun _ ws => swp ws) (fun _ zs => swp zs)) (hx : ∀ σ, PassesAt (L2N.CX X.prog X.w) X σ (E σ)) (hkw : PK X kws tk) (hall : (backToKw pos (keywordEach kws X.env)).all (·.1.isSome) = true) (hks : (backToKw pos (keywordEach kws X.env)).filterMap (·.1) = [k1, k2])
    (hdb : (x == ("__debug__" : Str)) = false) (hpl : ((backTo pos (starEach [] X.env)).any (·.1) || (backToKw pos (keywordEach kws X.env)).any (·.1.isNone)) = false) : PE X (.Call (.Name x p) [] kws pos) (tKw sp E tk) := by
  refine ⟨fun pins s σ H Q I h => ?_⟩
  refine wpAny_Call_Name_kw (ld_glob I hg hm ?_ hdb)
  refine PySem.W.callWith_KW0 (h₀ := X.base) I.ok.mod.kin hk hall ?_ hpl
  refine thn (hkw.run pos pins s σ H _ I h) fun ws s2 ⟨zs, H2, I2, rz, l2, q2⟩ => ⟨I2.kIn, ?_⟩
  rw [hks]
  have r2 : Vals (swp zs) (swp ws) := swp_vals rz
  refine wpAny_call (codeAny_mono (Fn.run X.A X.stack s2 H2 ⟨[], [k1, k2].zip ws⟩ (swp ws) (swp zs) Q (E σ) hr I2.env0 (hb.to s2 [] ws I2.kIn rfl (rz.length.symm.trans l2)) r2 q2) fun r s' hq => ?_)
  cases r with
  | error e => exact hx σ pins H2 s2 e s' I2 hq
  | ok fl =>
    cases fl with
    | ret u => exact I2.after hq
    | next => exact False.elim hq
    | brk => exact False.elim hq
    | cont => exact False.elim hq
/-- f(k1 = a, k2 = b), the parameters being k2, k1 -/
theorem de_callSw {k1 k2 : Str} (Fn : FnOk X.prog X.w X.K X.mg X.base (L2N.CX X.prog X.w) k f fd ps (spOf X.K X.mg ms S)) (hr : Room k X.A) (hm : X.mg x = some (.ref f)) (hk : PySem.W.keepIn X.K (.ref f) = true)
    (hb : KBn X.K fd ps 0 [k1, k2] (fun _ ws => swp ws) (fun _ zs => swp zs)) (hkw : DGK X kws t) (hlen : ms.length = 2) (hg : Gl X x := by rfl) (hall : (backToKw pos (keywordEach kws X.env)).all (·.1.isSome) = true := by rfl) (hks : (backToKw pos (keywordEach kws X.env)).filterMap (·.1) = [k1, k2] := by rfl)
    (hdb : (x == ("__debug__" : Str)) = false := by decide) (hpl : ((backTo pos (starEach [] X.env)).any (·.1) || (backToKw pos (keywordEach kws X.env)).any (·.1.isNone)) = false := by rfl) :
    DE X (.Call (.Name x p) [] kws pos) (eCallSw ms S t) := by
  intro W tk
  refine peI (pe_kw2 (E := fun σ cls d H => W cls d σ H) Fn hr hg hm hk hb (fun σ => passAt tk σ) (hkw W tk) hall hks hdb hpl) ?_
  rintro σ H Qh ⟨io, env, F, O, Q, R, I, h, kQ, kX⟩
  refine ⟨io, env, F, O, _, R, I, h, ?_, kX⟩
  intro gs env1 F1 O1 H1 vs A1 r1 h1
  have z := call_read A1.si r1.swap h1 (kQ.mv A1) (kX.mv A1)
  refine ⟨?_, z⟩
  obtain ⟨F0, O0, ds, post, _, _, _, ar, _⟩ := z
  have l := ar.len.1
  rw [hlen] at l
  match vs, l with
  | [], l => exact l
  | [a], l => exact l
  | [a, b], _ => rfl
  | a :: b :: c :: r, l => exact l
end
end DL
set_option Elab.async false
set_option linter.all false
set_option maxRecDepth 100000
/-! DLs: the data layer, part s: what the printed derivations call: facts of the module, defs by name, operators by name. -/
namespace DL
open PySem L2 PySem.Spec PyProof.Rows
variable [Tbs]

/-- the built-in names that the module leaves free -/
structure Blt (mg : MG) : Prop where
  len : mg "len" = none
  range : mg "range" = none
  list : mg "list" = none
  tuple : mg "tuple" = none
  int : mg "int" = none
  bool : mg "bool" = none
  str : mg "str" = none
  dict : mg "dict" = none
  isinstance : mg "isinstance" = none
  all : mg "all" = none
  any : mg "any" = none
  sum : mg "sum" = none
  max : mg "max" = none
  min : mg "min" = none
  enumerate : mg "enumerate" = none
  zip : mg "zip" = none
  reversed : mg "reversed" = none
  sorted : mg "sorted" = none
  set : mg "set" = none
/-- a constant of the module -/
def GlD (mg : MG) (x : Str) (d : D) : Prop := (∃ u, mg x = some u ∧ RelV (vlf d) u) ∧ d.leaf = true
/-- a def of the module -/
def FunAt (K : PySem.W.Frag) (mg : MG) (x : Str) (st : Stmt) : Prop := ∃ f fd, Fun K x x st f fd ∧ mg x = some (.ref f)
/-- a def of the module keeps a promise -/
def Cal (P : Program) (w : World) (K : PySem.W.Frag) (mg : MG) (base : Heap) (x : Str) (st : Stmt) (k : Nat) (ps : List Str) (ms : Ms) (S : DSp) : Prop :=
  ∃ f fd, Fun K x x st f fd ∧ mg x = some (.ref f) ∧ Binds K fd ps [] ∧ FnOk P w K mg base (L2N.CX P w) k f fd ps (spOf K mg ms S)
section
variable {P : Program} {w : World} {K : PySem.W.Frag} {mg : MG} {base : Heap} {x : Str} {st : Stmt} {j k : Nat} {ps N : List Str} {ms : Ms} {S S' : DSp}
theorem Cal.up (h : Cal P w K mg base x st j ps ms S) (l : j ≤ k) : Cal P w K mg base x st k ps ms S := by
  obtain ⟨f, fd, h1, h2, h3, h4⟩ := h
  exact ⟨f, fd, h1, h2, h3, h4.mono l⟩
/-- the promise of the stronger -/
theorem Cal.imp (h : Cal P w K mg base x st k ps ms S) (i : ∀ ds post, S' ds post → S ds post) : Cal P w K mg base x st k ps ms S' := by
  obtain ⟨f, fd, h1, h2, h3, h4⟩ := h
  refine ⟨f, fd, h1, h2, h3, h4.imp fun vs H Q E q => ?_⟩
  obtain ⟨F, O, ds, post, a, b, t, c, d, e⟩ := q
  exact ⟨F, O, ds, post, a, b, t, c, i ds post d, e⟩
theorem Mv.lift {F F' H H' : Hp} {O O' : OW} (m : @Mv tb0 F O H F' O' H') (own : OwnOk F O H) (t : TabsK F H) : Mv F O H F' O' H' := by
  have kp : ∀ {a : Addr} {o : HO}, H a = some o → O a = none → H' a = some o := fun {a o} h q => @Mv.fr tb0 _ _ _ _ _ _ m a o h q fun _ ⟨_, h⟩ => (by cases h)
  have kt : ∀ {a : Addr} {o : HO}, H a = some o → isTp o = true → H' a = some o := fun {a o} h n => kp h (by
    cases e : O a with
    | none => rfl
    | some i =>
      obtain ⟨_, o', h1, h2⟩ := own a i e
      rw [h] at h1; cases h1; rw [n] at h2; cases h2)
  refine ⟨@Mv.ff tb0 _ _ _ _ _ _ m, fun a o h q _ => kp h q, @Mv.fn tb0 _ _ _ _ _ _ m, @Mv.on tb0 _ _ _ _ _ _ m, fun a q hq => ⟨fun ps h => ⟨ps, kt h rfl⟩, fun ⟨ps, h1, h2, h3⟩ => ⟨ps, kt h1 rfl, h2, fun pos cv hc => ?_⟩⟩⟩
  obtain ⟨c, e1, e2⟩ := h3 pos cv hc
  exact ⟨c, e1, kt e2 rfl⟩
theorem sp_lift {vs : List V} {H : Hp} {Q : VK} {E : XK} (h : spOf K mg ms S vs H Q E) : @spOf tb0 K mg ms S vs H Q E := by
  obtain ⟨F, O, ds, post, a, b, t, c, d, k1, k2⟩ := h
  exact ⟨F, O, ds, post, a, b, fun _ _ h => (by cases h), c, d, fun d n outs F' O' H' v P m sub own out T r z => k1 d n outs F' O' H' v P (Mv.lift m b t) sub own out T r z,
    fun x outs F' O' H' cls dx m sub own out r z => k2 x outs F' O' H' cls dx (Mv.lift m b t) sub own out r z⟩
/-- a def that makes no lambda, called where lambdas are made -/
theorem Cal.lift (h : @Cal tb0 P w K mg base x st k ps ms S) : Cal P w K mg base x st k ps ms S := by
  obtain ⟨f, fd, h1, h2, h3, h4⟩ := h
  exact ⟨f, fd, h1, h2, h3, h4.imp fun vs H Q E q => sp_lift q⟩
theorem cal_mk {τ : SD} (Fu : FunAt K mg x st) (Sc : FnScope N ps (defScope st)) (hl : ms.length = ps.length)
    (hbi : ∀ (kV doc pm : Value) (an : Option Addr) (cdv ct : Value) (us : List Value), us.length = ps.length → bindArgs (PySem.W.fnOf x x (defArgs st) (defBody st) (defScope st) .none kV doc pm an cdv ct) ⟨us, []⟩ = pure (ps.zip us))
    (hb : ∀ (f : Addr) (cdv : Value) (A : Around) (outer : List Env) (s : Shared) (H : Hp) (E : XK), Room k (A.deeper (envOfC x (defScope st) s.heap.objs.size f cdv)) → DSs (cxOf (L2N.CX P w) P w K mg base N x (defScope st) f cdv A outer s H E) (defBody st) τ)
    (hs : ∀ ds post, S ds post → ds.length = ms.length → τ (env0 ms ds N.length) (endsOf ms post)) : Cal P w K mg base x st (k + 1) ps ms S := by
  obtain ⟨f, fd, h1, h2⟩ := Fu
  exact ⟨f, fd, h1, h2, h1.binds hbi, okD h1 Sc hl (fun cdv A outer s H E _ hr => hb f cdv A outer s H E hr) hs⟩
end
section
variable {X : Cx} {k : Nat} {ps : List Str} {ms : Ms} {S : DSp} {x : Str} {st : Stmt} {p pos : Pos} {e : Expr} {es : List Expr} {kws : List Keyword} {t : GAT}
theorem dc_call (C : Cal X.prog X.w X.K X.mg X.base x st k ps ms S) (hr : Room k X.A) (ha : DGA X (e :: es) t) (hg : Gl X x := by rfl) (hdb : (x == ("__debug__" : Str)) = false := by decide)
    (he : starEach (e :: es) X.env = (false, eval e X.env) :: starEach es X.env := by rfl) (hpl : (backTo pos (starEach es X.env)).any (·.1) = false := by rfl) : DE X (.Call (.Name x p) (e :: es) [] pos) (eCall ms S [] t) := by
  obtain ⟨f, fd, h1, h2, h3, h4⟩ := C
  exact de_call [] h4 hr h2 h1.kp h3 .nil ⟨rfl, rfl⟩ ha hg hdb he hpl
theorem dc_sw {k1 k2 : Str} (C : Cal X.prog X.w X.K X.mg X.base x st k ps ms S) (hr : Room k X.A) (hkw : DGK X kws t)
    (h : ∀ (kV doc pm : Value) (an : Option Addr) (cdv ct a b : Value), bindArgs (PySem.W.fnOf x x (defArgs st) (defBody st) (defScope st) .none kV doc pm an cdv ct) ⟨[], [(k1, a), (k2, b)]⟩ = pure (ps.zip [b, a])) (hlen : ms.length = 2) (hg : Gl X x := by rfl)
    (hall : (backToKw pos (keywordEach kws X.env)).all (·.1.isSome) = true := by rfl) (hks : (backToKw pos (keywordEach kws X.env)).filterMap (·.1) = [k1, k2] := by rfl)
    (hdb : (x == ("__debug__" : Str)) = false := by decide) (hpl : ((backTo pos (starEach [] X.env)).any (·.1) || (backToKw pos (keywordEach kws X.env)).any (·.1.isNone)) = false := by rfl) :
    DE X (.Call (.Name x p) [] kws pos) (eCallSw ms S t) := by
  obtain ⟨f, fd, h1, h2, h3, h4⟩ := C
  exact de_callSw h4 hr h2 h1.kp (kswap k1 k2 h1 h) hkw hlen hg hall hks hdb hpl
end
/-! ### peeks by operator -/
section
variable {X : Cx} {a b c e : Expr} {es : List Expr} {pa pb pc : PUT} {ta tb : ET} {t : AT} {pt : PAT} {pos p : Pos} {x : Str} {d : D} {r r' : R2} {od od' : OT2} {op op' : CmpOp}
theorem pu_gd (h : GlD X.mg x d) (hg : Gl X x := by rfl) (hd : (x == ("__debug__" : Str)) = false := by decide) : PU X (.Name x p) (pC d) := by
  obtain ⟨⟨u, h1, h2⟩, hl⟩ := h
  exact pu_glob d hg h1 h2 hl hd
theorem pu_add (ha : PU X a pa) (hb : PU X b pb) : PU X (.BinOp a .Add b pos) (tP2 odAdd pa pb) := pu_bin (fun _ _ x y => pe_op op_addD x y) okAdd ha hb
theorem pu_sub (ha : PU X a pa) (hb : PU X b pb) : PU X (.BinOp a .Sub b pos) (tP2 odSub pa pb) := pu_bin (fun _ _ x y => pe_op op_subD x y) okSub ha hb
theorem pu_mul (ha : PU X a pa) (hb : PU X b pb) : PU X (.BinOp a .Mult b pos) (tP2 odMul pa pb) := pu_bin (fun _ _ x y => pe_op op_mulD x y) okMul ha hb
theorem pu_div (ha : PU X a pa) (hb : PU X b pb) : PU X (.BinOp a .FloorDiv b pos) (tP2 odDiv pa pb) := pu_bin (fun _ _ x y => pe_op op_fdivW x y) okDiv ha hb
theorem pu_mod (ha : PU X a pa) (hb : PU X b pb) : PU X (.BinOp a .Mod b pos) (tP2 odMod pa pb) := pu_bin (fun _ _ x y => pe_op op_mod x y) okMod ha hb
theorem pu_pow (ha : PU X a pa) (hb : PU X b pb) : PU X (.BinOp a .Pow b pos) (tP2 odPow pa pb) := pu_bin (fun _ _ x y => pe_op op_pow x y) okPow ha hb
theorem pu_neg (ha : PU X a pa) : PU X (.UnaryOp .USub a pos) (tP1 odNeg pa) := pu_un1 (fun _ x => pe_un un_neg x) okNeg ha
theorem de_add (ha : DE X a ta) (hb : DE X b tb) : DE X (.BinOp a .Add b pos) (tO2 odAdd ta tb) := de_bin (fun _ _ x y => pe_op op_addD x y) okAdd ha hb
theorem de_sub (ha : DE X a ta) (hb : DE X b tb) : DE X (.BinOp a .Sub b pos) (tO2 odSub ta tb) := de_bin (fun _ _ x y => pe_op op_subD x y) okSub ha hb
theorem de_mul (ha : DE X a ta) (hb : DE X b tb) : DE X (.BinOp a .Mult b pos) (tO2 odMul ta tb) := de_bin (fun _ _ x y => pe_op op_mulD x y) okMul ha hb
theorem de_div (ha : DE X a ta) (hb : DE X b tb) : DE X (.BinOp a .FloorDiv b pos) (tO2 odDiv ta tb) := de_bin (fun _ _ x y => pe_op op_fdivW x y) okDiv ha hb
theorem de_mod (ha : DE X a ta) (hb : DE X b tb) : DE X (.BinOp a .Mod b pos) (tO2 odMod ta tb) := de_bin (fun _ _ x y => pe_op op_mod x y) okMod ha hb
theorem pu_cmp (ho : OpR X (compareOp op) r) (k : Ok2 X r od) (ha : PU X a pa) (hb : PU X b pb) (hm : behindInMarks op b = false) : PU X (.Compare a [op] [b] pos) (tP2 od pa pb) := pu_bin (fun _ _ x y => pe_cmpR ho x y hm) k ha hb
theorem de_cmp (ho : OpR X (compareOp op) r) (k : Ok2 X r od) (ha : DE X a ta) (hb : DE X b tb) (hm : behindInMarks op b = false) : DE X (.Compare a [op] [b] pos) (tO2 od ta tb) := de_bin (fun _ _ x y => pe_cmpR ho x y hm) k ha hb
end
section
variable {X : Cx} {e e2 : Expr} {es : List Expr} {te : ET} {pe pe2 : PUT} {t : AT} {pos p : Pos}
theorem pu_len (B : Blt X.mg) (ha : PU X e pe) (hg : Gl X "len" := by rfl) (he : starEach [e] X.env = (false, eval e X.env) :: starEach [] X.env := by rfl) : PU X (.Call (.Name "len" p) [e] [] pos) (tPN odLen (apCons pe apNil)) :=
  pu_blt call_lenA okLen B.len boot_len (pua_cons ha pua_nil he) hg (by decide) (by decide) he rfl
theorem pu_int1 (B : Blt X.mg) (ha : PU X e pe) (hg : Gl X "int" := by rfl) (he : starEach [e] X.env = (false, eval e X.env) :: starEach [] X.env := by rfl) : PU X (.Call (.Name "int" p) [e] [] pos) (tPN odInt (apCons pe apNil)) :=
  pu_ty call_int1 okInt B.int boot_int (pua_cons ha pua_nil he) hg (by decide) (by decide) he rfl
theorem pu_max (hc : X.calm = true) (B : Blt X.mg) (ha : PU X e pe) (hb : PU X e2 pe2) (hg : Gl X "max" := by rfl) (he : starEach [e, e2] X.env = (false, eval e X.env) :: starEach [e2] X.env := by rfl) (he2 : starEach [e2] X.env = (false, eval e2 X.env) :: starEach [] X.env := by rfl)
    (hpl : (backTo pos (starEach [e2] X.env)).any (·.1) = false := by rfl) : PU X (.Call (.Name "max" p) [e, e2] [] pos) (tPN odMax2 (apCons pe (apCons pe2 apNil))) :=
  pu_blt (call_max2 hc) okMax2 B.max (by decide +kernel) (pua_cons ha (pua_cons hb pua_nil he2) he) hg (by decide) (by decide) he hpl
theorem pu_min (hc : X.calm = true) (B : Blt X.mg) (ha : PU X e pe) (hb : PU X e2 pe2) (hg : Gl X "min" := by rfl) (he : starEach [e, e2] X.env = (false, eval e X.env) :: starEach [e2] X.env := by rfl) (he2 : starEach [e2] X.env = (false, eval e2 X.env) :: starEach [] X.env := by rfl)
    (hpl : (backTo pos (starEach [e2] X.env)).any (·.1) = false := by rfl) : PU X (.Call (.Name "min" p) [e, e2] [] pos) (tPN odMin2 (apCons pe (apCons pe2 apNil))) :=
  pu_blt (call_min2 hc) okMin2 B.min (by decide +kernel) (pua_cons ha (pua_cons hb pua_nil he2) he) hg (by decide) (by decide) he hpl
theorem de_list (hc : X.calm = true) (B : Blt X.mg) (ha : DE X e te) (hg : Gl X "list" := by rfl) (he : starEach [e] X.env = (false, eval e X.env) :: starEach [] X.env := by rfl) : DE X (.Call (.Name "list" p) [e] [] pos) (tON odList (aCons te aNil)) :=
  de_ty (call_listA hc) okList B.list boot_list (da_cons ha da_nil he) hg (by decide) (by decide) he rfl
theorem de_tuple (B : Blt X.mg) (ha : DE X e te) (hg : Gl X "tuple" := by rfl) (he : starEach [e] X.env = (false, eval e X.env) :: starEach [] X.env := by rfl) : DE X (.Call (.Name "tuple" p) [e] [] pos) (tON odTuple (aCons te aNil)) :=
  de_ty call_tuple_of okTuple B.tuple boot_tuple (da_cons ha da_nil he) hg (by decide) (by decide) he rfl
theorem de_allc (hc : X.calm = true) (B : Blt X.mg) (ha : DE X e te) (hg : Gl X "all" := by rfl) (he : starEach [e] X.env = (false, eval e X.env) :: starEach [] X.env := by rfl) : DE X (.Call (.Name "all" p) [e] [] pos) (tON odAll (aCons te aNil)) :=
  de_blt (cr_all hc) okAll B.all (by decide +kernel) (da_cons ha da_nil he) hg (by decide) (by decide) he rfl
theorem de_anyc (hc : X.calm = true) (B : Blt X.mg) (ha : DE X e te) (hg : Gl X "any" := by rfl) (he : starEach [e] X.env = (false, eval e X.env) :: starEach [] X.env := by rfl) : DE X (.Call (.Name "any" p) [e] [] pos) (tON odAny (aCons te aNil)) :=
  de_blt (cr_any hc) okAny B.any (by decide +kernel) (da_cons ha da_nil he) hg (by decide) (by decide) he rfl
theorem de_sumc (hc : X.calm = true) (B : Blt X.mg) (ha : DE X e te) (hg : Gl X "sum" := by rfl) (he : starEach [e] X.env = (false, eval e X.env) :: starEach [] X.env := by rfl) : DE X (.Call (.Name "sum" p) [e] [] pos) (tON odSum (aCons te aNil)) :=
  de_blt (cr_sum hc) okSum B.sum (by decide +kernel) (da_cons ha da_nil he) hg (by decide) (by decide) he rfl
end
/-! ### built-in classes by name -/
section
variable {X : Cx} {pos : Pos}
theorem kd_int (B : Blt X.mg) (hg : Gl X "int" := by rfl) : PKd X (.Name "int" pos) .int := pkd .int B.int boot_int hg
theorem kd_bool (B : Blt X.mg) (hg : Gl X "bool" := by rfl) : PKd X (.Name "bool" pos) .bool := pkd .bool B.bool boot_bool hg
theorem kd_str (B : Blt X.mg) (hg : Gl X "str" := by rfl) : PKd X (.Name "str" pos) .str := pkd .str B.str boot_str hg
theorem kd_list (B : Blt X.mg) (hg : Gl X "list" := by rfl) : PKd X (.Name "list" pos) .list := pkd .list B.list boot_list hg
theorem kd_tuple (B : Blt X.mg) (hg : Gl X "tuple" := by rfl) : PKd X (.Name "tuple" pos) .tuple := pkd .tuple B.tuple boot_tuple hg
theorem kd_dict (B : Blt X.mg) (hg : Gl X "dict" := by rfl) : PKd X (.Name "dict" pos) .dict := pkd .dict B.dict boot_dict hg
end
/-- x[e], x a local -/
def eIxL (i : Nat) (tb : ET) : ET := fun env Q R => match gt env i with
  | some _ => eIxV i tb env Q R
  | none => False
theorem de_ixl {X : Cx} {b : Expr} {tb : ET} {pos : Pos} (i : Nat) {x : Str} {pos' : Pos} (hu : X.A.units + 1 < cLine) (hb : DE X b tb) (hs : PlainIx b := by exact fun _ _ => rfl) (hN : X.N[i]? = some x := by rfl)
    (hv : Vis X.env.scope x := by first | exact Or.inl rfl | exact Or.inr (Or.inl rfl) | exact Or.inr (Or.inr rfl)) (hd : (x == ("__debug__" : Str)) = false := by decide) (hcd : (x == ("__classdict__" : Str)) = false := by decide) :
    DE X (.Subscript (.Name x pos') b pos) (eIxL i tb) := de_ixv i hu hb hs hN hv hd hcd
/-- a local that the callee may turn, as an argument -/
def gaIoL (k : Nat) (t : GAT) : GAT := fun env Q R => match gt env k with
  | some _ => gaIo k t env Q R
  | none => False
theorem dg_iol {X : Cx} {es : List Expr} {t : GAT} (k : Nat) {x : Str} {pos : Pos} (hr : DGA X es t) (hs : starEach (.Name x pos :: es) X.env = (false, eval (.Name x pos) X.env) :: starEach es X.env := by rfl) (hN : X.N[k]? = some x := by rfl)
    (hv : Vis X.env.scope x := by first | exact Or.inl rfl | exact Or.inr (Or.inl rfl) | exact Or.inr (Or.inr rfl)) (hd : (x == ("__debug__" : Str)) = false := by decide) (hcd : (x == ("__classdict__" : Str)) = false := by decide) :
    DGA X (.Name x pos :: es) (gaIoL k t) := dg_io k hr hs hN hv hd hcd
end DL
set_option Elab.async false
set_option linter.all false
set_option maxRecDepth 100000
/-! DLt: the data layer, part t: == of dicts one of which is empty; list(x) of a local that stays owned. -/
namespace DL
open PySem L2 PySem.Spec PyProof.Rows
variable [Tbs]

def rEqE0 : R2 := fun x y H Q => ∃ (a b : Addr) (ka kb : List (Key × V)), x = .ref a ∧ y = .ref b ∧ Rd H a (.dK ka) ∧ Rd H b (.dK kb) ∧ (ka.length = 0 ∨ ka.length ≠ kb.length) ∧ Q (.bl (ka.length == kb.length)) H
theorem op_eqE0 {X : Cx} (hu : X.A.units + 64 < cLine) : OpR X (compareOp .Eq) rEqE0 := by
  intro pins s σ H x y v u Q I rx ry h
  obtain ⟨a, b, ka, kb, rfl, rfl, h1, h2, hl, q⟩ := h
  cases rx
  cases ry
  obtain ⟨z1, lo1, vs1, rel1, dd1⟩ := dk_rd I.hok h1
  obtain ⟨z2, lo2, vs2, rel2, dd2⟩ := dk_rd I.hok h2
  have l1 := rel1.length
  have l2 := rel2.length
  refine PySem.W.rcP_dicts (r := true) lo1 lo2 dd1 dd2 (by omega) (fun e => ?_) _ _ ?_
  · rcases hl with hl | hl
    · rw [List.length_eq_zero_iff.mp (l1.symm.trans hl)]
      exact .nil
    · exact absurd (l1.trans (e.trans l2.symm)) hl
  · rw [Bool.and_true, ← l1, ← l2]
    exact ⟨.bl _, H, I, rfl, q⟩
def rEqE (K : PySem.W.Frag) : R2 := fun x y H Q => rEqA K x y H Q ∨ rEqE0 x y H Q
def odEqE : OT2
  | .dK ka, .dK kb, Q => (ka.length = 0 ∨ ka.length ≠ kb.length) ∧ Q (.bl (ka.length == kb.length)) 0
  | x, y, Q => odEq x y Q
section
variable {X : Cx}
theorem op_eqE (hu : X.A.units + 64 < cLine) : OpR X (compareOp .Eq) (rEqE X.K) := (op_eqA hu).or (op_eqE0 hu)
theorem okEqE : Ok2 X (rEqE X.K) odEqE := by
  intro F H x y v w Q Qh e r1 r2 h k
  have old : odEq x y Q → rEqE X.K v w H Qh := fun h => .inl (okEq F H x y v w Q Qh e r1 r2 h k)
  cases x with
  | dK ka =>
    cases y with
    | dK kb =>
      obtain ⟨a, vs, rfl, g1, g2⟩ := r1
      obtain ⟨b, ws, rfl, t1, t2⟩ := r2
      have l1 : vs.length = ka.length := by have := congrArg List.length (RepK.keys g2).1; simpa using this.symm
      have l2 : ws.length = kb.length := by have := congrArg List.length (RepK.keys t2).1; simpa using this.symm
      exact .inr ⟨a, b, vs, ws, rfl, rfl, rd_mono e g1, rd_mono e t1, by rw [l1, l2]; exact h.1, by rw [l1, l2]; exact k.old (.bl _) _ rfl h.2⟩
    | _ => exact old h
  | _ => exact old h
end
/-- list(x), x a local: what is in it has no address -/
def leavesOf (d : D) (k : List D → Prop) : Prop := match d with
  | .lst ds => ds.all D.leaf = true ∧ k ds
  | .dK kvs => k (kvs.map fun kv => match kv.1 with | .inl i => .int i | .inr s => .str s)
  | _ => False
def eListL (i : Nat) : ET := fun env Q _ => match gt env i with
  | some b => leavesOf b.d fun ds => Q (.lst ds) 1 env
  | none => False
theorem reps_leaf {K : PySem.W.Frag} {mg : MG} {F F' : Hp} : ∀ {ds : List D} {vs : List V}, ds.all D.leaf = true → Reps K mg F ds vs → Reps K mg F' ds vs
  | [], _, _, h => h
  | d :: ds, _, hl, ⟨v, r, h1, h2, h3⟩ => by
    have hl' : d.leaf = true ∧ ds.all D.leaf = true := by simpa using hl
    exact ⟨v, r, h1, leaf_rep hl'.1 h2, reps_leaf hl'.2 h3⟩
theorem keys_leaf : ∀ kvs : List (Key × D), (kvs.map fun kv => (match kv.1 with | .inl i => D.int i | .inr s => D.str s)).all D.leaf = true
  | [] => rfl
  | (.inl i, d) :: r => by rw [List.map_cons, List.all_cons, keys_leaf r]; rfl
  | (.inr i, d) :: r => by rw [List.map_cons, List.all_cons, keys_leaf r]; rfl
theorem de_listL {X : Cx} {p pos px : Pos} {x : Str} (i : Nat) (hc : X.calm = true) (B : Blt X.mg) (hg : Gl X "list" := by rfl) (he : starEach [.Name x px] X.env = (false, eval (.Name x px) X.env) :: starEach [] X.env := by rfl) (hN : X.N[i]? = some x := by rfl)
    (hv : Vis X.env.scope x := by first | exact Or.inl rfl | exact Or.inr (Or.inl rfl) | exact Or.inr (Or.inr rfl)) (hd : (x == ("__debug__" : Str)) = false := by decide) (hcd : (x == ("__classdict__" : Str)) = false := by decide) :
    DE X (.Call (.Name "list" p) [.Name x px] [] pos) (eListL i) := by
  intro W tk
  refine peI (pe_callTy (call_listA hc) hg B.list boot_list (pa_cons (pe_var hN hv hd hcd) pa_nil he) (by decide) (by decide) he rfl) ?_
  rintro σ H Qh ⟨io, env, F, O, Q, R, I, h, kQ, kX⟩
  unfold eListL at h
  cases e0 : gt env i with
  | none => rw [e0] at h; exact h.elim
  | some b =>
    rw [e0] at h
    replace h : leavesOf b.d fun ds => Q (.lst ds) 1 env := h
    obtain ⟨v, h1, h2, _⟩ := I.slot i b (gt_some e0)
    refine ⟨v, h1, ?_⟩
    have r := h2.rep I.sub
    have fin := Fin.of kQ (At.start I)
    cases hd : b.d with
    | lst ds =>
      rw [hd] at h r
      obtain ⟨a, vs, rfl, g1, g2⟩ := r
      exact .inl ⟨a, vs, rfl, .inl (.inl g1), fun l hl => fin.new (.lst ds) (.lst vs) l hl (reps_leaf h.1 g2) h.2⟩
    | dK kvs =>
      rw [hd] at h r
      obtain ⟨a, vs, rfl, g1, g2⟩ := r
      exact .inr ⟨a, vs, rfl, g1, fun l hl => fin.new (.lst _) (.lst _) l hl (reps_leaf (keys_leaf kvs) (reps_keys g2)) h⟩
    | _ => rw [hd] at h; exact (show False from h).elim
/-! ### comparisons as tests -/
section
variable {X : Cx} {a b c e : Expr} {pa pb pc : PUT} {ta tb : ET} {r r' : R2} {od od' : OT2} {op op' : CmpOp} {pos : Pos} {W : WX}
theorem bin_read (k : Ok2 X r od) : ∀ σ H Qh, rdP X.K X.mg (tP2 od pa pb) σ H Qh → tOp r (rdP X.K X.mg pa) (rdP X.K X.mg pb) σ H Qh := by
  rintro σ H Qh ⟨io, env, F, O, Q, I, h, kQ⟩
  refine ⟨io, env, F, O, _, I, h, fun x v H1 e1 r1 h1 => ⟨io, env, F, O, _, I.ext e1, h1, fun y w H2 e2 r2 h2 => ?_⟩⟩
  exact k H2 H2 x y v w _ _ (Same.refl _) (Rep.mono e2 r1) r2 h2 (Fin.ofP kQ (e1.trans e2))
theorem binE_read (k : Ok2 X r od) : ∀ σ H Qh, rdE X.K X.mg (tO2 od ta tb) W σ H Qh → tOp r (rdE X.K X.mg ta W) (rdE X.K X.mg tb W) σ H Qh := by
  rintro σ H Qh ⟨io, env, F, O, Q, R, I, h, kQ, kX⟩
  refine ⟨io, env, F, O, _, R, I, h, ?_, kX⟩
  intro x n env1 F1 O1 H1 v P A1 T1 r1 h1
  have A1' := A1.frz T1
  have r1' := A1.frz_rep r1
  refine ⟨io, env1, _, O1, _, R, A1'.si, h1, ?_, kX.mv A1'⟩
  intro y m env2 F2 O2 H2 w P2 A2 T2 r2 h2
  have A2' := A2.frz T2
  exact k _ _ x y v w _ _ A2'.si.sub (Rep.mono A2'.mv.ff r1') (A2.frz_rep r2) h2 (Fin.of kQ (A1'.trans A2'))
theorem chain_read (k : Ok2 X r od) (k' : Ok2 X r' od') : ∀ σ H Qh, rdP X.K X.mg (pChain od od' pa pb pc) σ H Qh → tChain r r' (rdP X.K X.mg pa) (rdP X.K X.mg pb) (rdP X.K X.mg pc) σ H Qh := by
  rintro σ H Qh ⟨io, env, F, O, Q, I, h, kQ⟩
  refine ⟨io, env, F, O, _, I, h, fun x v H1 e1 r1 h1 => ⟨io, env, F, O, _, I.ext e1, h1, fun y w H2 e2 r2 h2 => ?_⟩⟩
  refine k H2 H2 x y v w _ _ (Same.refl _) (Rep.mono e2 r1) r2 h2 (Fin.leafy (fun z n q => by cases z <;> first | rfl | exact (show False from q).elim) fun z n H2' e2' q => ?_)
  cases z <;> first | exact (show False from q).elim | skip
  rename_i bb
  refine ⟨bb, rfl, ?_⟩
  cases bb with
  | false => exact iteF (kQ (.bl false) _ H2' ((e1.trans e2).trans e2') rfl q)
  | true => exact iteT ⟨io, env, F, O, _, I.ext ((e1.trans e2).trans e2'), q, fun w2 u2 H3 e3 r3 h3 => k' H3 H3 y w2 w u2 _ _ (Same.refl _) (Rep.mono (e2'.trans e3) r2) r3 h3 (Fin.ofP kQ (((e1.trans e2).trans e2').trans e3))⟩
theorem dt_testP {T : TE} {τ : PUT} (h : PT X e (tTest T)) (hr : ∀ σ H Qh, rdP X.K X.mg τ σ H Qh → T σ H Qh) : DT X e (ttPB τ) := by
  intro W tk
  refine ptI h ?_
  rintro σ H Qh ⟨io, env, F, O, Q, R, I, h, kQ, kX⟩
  refine hr σ H _ ⟨io, env, F, O, _, I, h, fun d v H1 e1 r1 h1 => ?_⟩
  cases d with
  | bl b => exact ⟨b, r1, kQ b env F O H1 ((At.start I).ext e1) h1⟩
  | _ => exact h1.elim
theorem dt_cmp (ho : OpR X (compareOp op) r) (k : Ok2 X r od) (ha : PU X a pa) (hb : PU X b pb) (hm : behindInMarks op b = false) : DT X (.Compare a [op] [b] pos) (ttPB (tP2 od pa pb)) := dt_testP (pt_cmpR ho ha hb hm) (bin_read k)
theorem dt_chain (ho : OpR X (compareOp op) r) (ho' : OpR X (compareOp op') r') (k : Ok2 X r od) (k' : Ok2 X r' od') (ha : PU X a pa) (hb : PU X b pb) (hc : PU X c pc) (hm : lastMarks [op, op'] [b, c] = false := by with_unfolding_all rfl) :
    DT X (.Compare a [op, op'] [b, c] pos) (ttPB (pChain od od' pa pb pc)) := dt_testP (pt_chain ho ho' ha hb hc hm) (chain_read k k')
theorem dt_cmpE (ho : OpR X (compareOp op) r) (k : Ok2 X r od) (ha : DE X a ta) (hb : DE X b tb) (hm : behindInMarks op b = false) : DT X (.Compare a [op] [b] pos) (ttB (tO2 od ta tb)) := by
  intro W tk
  refine ptI (pt_cmpR ho (ha W tk) (hb W tk) hm) ?_
  rintro σ H Qh ⟨io, env, F, O, Q, R, I, h, kQ, kX⟩
  refine binE_read k σ H _ ⟨io, env, F, O, _, R, I, h, ?_, kX⟩
  intro d n env1 F1 O1 H1 v P A1 T1 r1 h1
  cases d with
  | bl b => exact ⟨b, bl_of r1, kQ b env1 F1 O1 H1 A1 h1⟩
  | _ => exact h1.elim
end
end DL
set_option Elab.async false
set_option linter.all false
set_option maxRecDepth 100000
/-! DLv: the data layer, part v: plain lemmas on data for the laws. -/
namespace DL
open PySem L2 PySem.Spec PyProof.Rows
variable [Tbs]

theorem someD_mk {o : Option D} {d : D} {Q : D → Prop} (h : o = some d) (q : Q d) : someD o Q := by rw [h]; exact q
theorem getI_nat {α : Type} {xs : List α} {i : Nat} {x : α} (h : xs[i]? = some x) : getI xs (i : Int) = some x := by
  have hl : i < xs.length := (List.getElem?_eq_some_iff.mp h).1
  show (match (match Nat.blt i xs.length with | true => some i | false => none) with | some j => xs[j]? | none => none) = some x
  rw [Nat.blt_eq.mpr hl]
  exact h
theorem getI_int {α : Type} {xs : List α} {k : Int} {x : α} (h0 : 0 ≤ k) (h : xs[k.toNat]? = some x) : getI xs k = some x := by
  have e : ((k.toNat : Nat) : Int) = k := Int.toNat_of_nonneg h0
  rw [← e]
  exact getI_nat h
theorem ixI_nat {n i : Nat} (h : i < n) : ixI n (i : Int) = some i := by
  show (match Nat.blt i n with | true => some i | false => none) = some i
  rw [Nat.blt_eq.mpr h]
theorem ixI_int {n : Nat} {k : Int} (h0 : 0 ≤ k) (h : k.toNat < n) : ixI n k = some k.toNat := by
  have e : ((k.toNat : Nat) : Int) = k := Int.toNat_of_nonneg h0
  have := ixI_nat h
  rw [e] at this
  exact this
theorem mul_small {i j : Int} (h0 : -(2 ^ 64) < i) (h1 : i < 2 ^ 64) : MulOk i j := .inl (.inl ⟨h0, h1⟩)
theorem ms_le {a : Nat} (h : a ≤ 1000) : a ≤ sizeLine := Nat.le_trans h (by decide)
theorem ms_lt {a : Nat} (h : a ≤ 1000) : a < sizeLine := Nat.lt_of_le_of_lt h (by decide)
theorem ms_r {a : Nat} (h : Nat.ble a 1000 = true) : a ≤ sizeLine := ms_le (Nat.le_of_ble_eq_true h)
theorem le_r {a b : Nat} (h : Nat.ble a b = true) : a ≤ b := Nat.le_of_ble_eq_true h
/-! ### == -/
def Flat : Nat → D → Prop
  | _, .non => True
  | _, .bl _ => True
  | _, .int _ => True
  | _, .str s => (PyData.str s).canLay0 = true
  | n + 1, .lst ds => ∀ d ∈ ds, Flat n d
  | n + 1, .tup ds => ∀ d ∈ ds, Flat n d
  | n + 1, .ktu ds => ∀ d ∈ ds, Flat n d
  | _, _ => False
theorem pys_flat {n : Nat} (ih : ∀ d, Flat n d → d.py.canLay0 = true ∧ d.py.depth ≤ n) : ∀ ds : List D, (∀ d ∈ ds, Flat n d) → PyData.canLayAll0 (D.pys ds) = true ∧ PyData.depthAll (D.pys ds) ≤ n
  | [], _ => ⟨rfl, Nat.zero_le _⟩
  | d :: ds, h => by
    obtain ⟨a1, a2⟩ := ih d (h d List.mem_cons_self)
    obtain ⟨b1, b2⟩ := pys_flat ih ds fun e he => h e (List.mem_cons_of_mem _ he)
    constructor
    · show (d.py.canLay0 && PyData.canLayAll0 (D.pys ds)) = true
      rw [a1, b1]; rfl
    · show max d.py.depth (PyData.depthAll (D.pys ds)) ≤ n
      omega
theorem flat_py : ∀ (n : Nat) (d : D), Flat n d → d.py.canLay0 = true ∧ d.py.depth ≤ n
  | 0, .non, _ => ⟨rfl, Nat.zero_le _⟩
  | 0, .bl _, _ => ⟨rfl, Nat.zero_le _⟩
  | 0, .int _, _ => ⟨rfl, Nat.zero_le _⟩
  | 0, .str _, h => ⟨h, Nat.zero_le _⟩
  | _ + 1, .non, _ => ⟨rfl, Nat.zero_le _⟩
  | _ + 1, .bl _, _ => ⟨rfl, Nat.zero_le _⟩
  | _ + 1, .int _, _ => ⟨rfl, Nat.zero_le _⟩
  | _ + 1, .str _, h => ⟨h, Nat.zero_le _⟩
  | n + 1, .lst ds, h => by
    obtain ⟨b1, b2⟩ := pys_flat (flat_py n) ds h
    exact ⟨b1, Nat.succ_le_succ b2⟩
  | n + 1, .tup ds, h => by
    obtain ⟨b1, b2⟩ := pys_flat (flat_py n) ds h
    exact ⟨b1, Nat.succ_le_succ b2⟩
  | n + 1, .ktu ds, h => by
    obtain ⟨b1, b2⟩ := pys_flat (flat_py n) ds h
    exact ⟨b1, Nat.succ_le_succ b2⟩
  | 0, .lst _, h => h.elim
  | 0, .tup _, h => h.elim
  | 0, .ktu _, h => h.elim
  | 0, .dK _, h => h.elim
  | 0, .dT _, h => h.elim
  | 0, .obj _ _, h => h.elim
  | 0, .fn _, h => h.elim
  | 0, .exn _ _ _, h => h.elim
  | 0, .hole, h => h.elim
  | _ + 1, .dK _, h => h.elim
  | _ + 1, .dT _, h => h.elim
  | _ + 1, .obj _ _, h => h.elim
  | _ + 1, .fn _, h => h.elim
  | _ + 1, .exn _ _ _, h => h.elim
  | _ + 1, .hole, h => h.elim
theorem shaped_flat {n : Nat} {d : D} (h : Flat n d) (hn : n ≤ 64) : SeqAt.shaped d.py = true := by
  obtain ⟨a, b⟩ := flat_py n d h
  show (d.py.canLay0 && decide (d.py.depth ≤ 64)) = true
  rw [a, decide_eq_true (by omega : d.py.depth ≤ 64)]
  rfl
theorem shaped_nil : SeqAt.shaped (D.lst []).py = true := shaped_flat (n := 1) (d := .lst []) (fun _ h => nomatch h) (by decide)
section
variable {n : Nat} {xs : List D} {Q : Qn}
theorem eqv_nil (xs : List D) : PyData.eqv (D.lst xs).py (D.lst []).py = xs.isEmpty := by
  cases xs with
  | nil => rfl
  | cons x xs => rfl
theorem neNil (hf : Flat n (.lst xs)) (hn : n ≤ 64) (k : Q (.bl (!xs.isEmpty)) 0) : odNe (.lst xs) (.lst []) Q := by
  refine ⟨shaped_flat hf hn, shaped_nil, ?_⟩
  rw [eqv_nil]
  exact k
theorem eqNil (hf : Flat n (.lst xs)) (hn : n ≤ 64) (k : Q (.bl xs.isEmpty) 0) : odEq (.lst xs) (.lst []) Q := by
  refine ⟨shaped_flat hf hn, shaped_nil, ?_⟩
  rw [eqv_nil]
  exact k
theorem neSelf (hf : Flat n (.lst xs)) (hn : n ≤ 64) (k : Q (.bl false) 0) : odNe (.lst xs) (.lst xs) Q := by
  refine ⟨shaped_flat hf hn, shaped_flat hf hn, ?_⟩
  rw [SeqAt.eqv_refl _ (flat_py n _ hf).1]
  exact k
theorem neSelfT (hf : Flat n (.tup xs)) (hn : n ≤ 64) (k : Q (.bl false) 0) : odNe (.tup xs) (.tup xs) Q := by
  refine ⟨shaped_flat hf hn, shaped_flat hf hn, ?_⟩
  rw [SeqAt.eqv_refl _ (flat_py n _ hf).1]
  exact k
theorem eqSelf (hf : Flat n (.lst xs)) (hn : n ≤ 64) (k : Q (.bl true) 0) : odEq (.lst xs) (.lst xs) Q := by
  refine ⟨shaped_flat hf hn, shaped_flat hf hn, ?_⟩
  rw [SeqAt.eqv_refl _ (flat_py n _ hf).1]
  exact k
theorem eqv_ints : ∀ as bs : List Int, PyData.eqvAll (D.pys (as.map .int)) (D.pys (bs.map .int)) = decide (as = bs)
  | [], [] => rfl
  | [], _ :: _ => rfl
  | _ :: _, [] => rfl
  | a :: as, b :: bs => by
    show (decide (a = b) && PyData.eqvAll (D.pys (as.map .int)) (D.pys (bs.map .int))) = _
    rw [eqv_ints as bs]
    by_cases h : a = b <;> by_cases h' : as = bs <;> simp [h, h']
theorem flat_ints (as : List Int) : Flat 1 (.lst (as.map .int)) := fun d hd => by
  obtain ⟨i, _, rfl⟩ := List.mem_map.mp hd
  exact trivial
theorem neInts (as bs : List Int) (k : Q (.bl (!decide (as = bs))) 0) : odNe (.lst (as.map .int)) (.lst (bs.map .int)) Q := by
  refine ⟨shaped_flat (flat_ints as) (by decide), shaped_flat (flat_ints bs) (by decide), ?_⟩
  show Q (.bl (!PyData.eqvAll (D.pys (as.map .int)) (D.pys (bs.map .int)))) 0
  rw [eqv_ints]
  exact k
end
/-! ### stores -/
theorem setAt_lst {i j : Nat} {ds : List D} {w : Int} {x : D} {env : DEnv} {k : DEnv → Prop} {io : Bool} (hb : gt env i = some ⟨.lst ds, 1, io⟩) (hj : ixI ds.length w = some j) (q : k (env.set i (some ⟨.lst (ds.set j x), 1, io⟩))) : setAt i [] (.lst ds) (.int w) x env k := by
  unfold setAt
  rw [hb]
  show (match ixI ds.length w with | some j => k (env.set i (some ⟨.lst (ds.set j x), 1, io⟩)) | none => False)
  rw [hj]
  exact q
/-- place[ix] as a place of a list -/
theorem thIx_lst {tp : PTh} {ti : PUT} {env : DEnv} {Q : Nat → List Ac → D → Prop} {s : Nat} {p : List Ac} {ds : List D} {w : Int} {j : Nat} {e : D} (h : ∀ Q', Q' s p (.lst ds) → tp env Q') (hi : ∀ Q', Q' (.int w) → ti env Q') (hj : ixI ds.length w = some j) (he : ds[j]? = some e) (q : Q s (p ++ [.ix j]) e) : thIx tp ti env Q := by
  refine h _ (hi _ ?_)
  show (match ixI ds.length w with | some j => someD (ds[j]?) fun e => Q s (p ++ [.ix j]) e | none => False)
  rw [hj]
  exact someD_mk he q
end DL
set_option Elab.async false
set_option linter.all false
set_option maxRecDepth 100000
/-! DLx: the data layer, part x: comprehensions and loops by one turn. -/
namespace DL
open PySem L2 PySem.Spec PyProof.Rows
variable [Tbs]

/-- a comprehension whose turn leaves the slots as they were: one turn, whatever follows -/
theorem lc_pure {α : Type} {g : Tg} {tt : TTd} {te : ET} {vs : List Nat} {E : DEnv} (inj : α → D) (p : α → Bool) (f : α → D) {Q : QE} : ∀ (xs : List α) (acc : List D), xs.length + acc.length ≤ 1000 →
    (∀ x ∈ xs, ∀ (A : D → DEnv → Prop) (B : DEnv → Prop), (p x = true → A (f x) E) → (p x = false → B E) →
      bindT g (inj x) E fun env1 => tt env1 (fun b env2 => brB b (te env2 (fun d _ env3 => A d (wipeD env3 vs)) noX) (B (wipeD env2 vs))) noX) →
    Q (.lst (acc ++ (xs.filter p).map f)) 1 E → lcD g tt te vs (xs.map inj) acc E Q
  | [], acc, _, _, k => by
    rw [List.filter_nil, List.map_nil, List.append_nil] at k
    exact k
  | x :: xs, acc, hl, hs, k => by
    have hl' : xs.length + acc.length + 1 ≤ 1000 := by simp at hl; omega
    have ih := lc_pure (g := g) (tt := tt) (te := te) (vs := vs) (E := E) inj p f (Q := Q) xs
    refine hs x List.mem_cons_self (fun d e => acc.length < sizeLine ∧ lcD g tt te vs (xs.map inj) (acc ++ [d]) e Q) (fun e => lcD g tt te vs (xs.map inj) acc e Q) (fun h => ⟨ms_lt (by omega), ?_⟩) (fun h => ?_)
    · refine ih (acc ++ [f x]) (by simp; omega) (fun y hy => hs y (List.mem_cons_of_mem _ hy)) ?_
      rw [List.filter_cons_of_pos h, List.map_cons] at k
      rw [List.append_assoc]
      exact k
    · refine ih acc (by omega) (fun y hy => hs y (List.mem_cons_of_mem _ hy)) ?_
      rw [List.filter_cons_of_neg (by rw [h]; exact Bool.false_ne_true)] at k
      exact k
/-- .. without a test -/
theorem lc_map {α : Type} {g : Tg} {te : ET} {vs : List Nat} {E : DEnv} (inj : α → D) (f : α → D) {Q : QE} (xs : List α) (acc : List D) (hl : xs.length + acc.length ≤ 1000)
    (hs : ∀ x ∈ xs, ∀ (A : D → DEnv → Prop), A (f x) E → bindT g (inj x) E fun env1 => te env1 (fun d _ env3 => A d (wipeD env3 vs)) noX)
    (k : Q (.lst (acc ++ xs.map f)) 1 E) : lcD g ttYes te vs (xs.map inj) acc E Q :=
  lc_pure (tt := ttYes) inj (fun _ => true) f xs acc hl (fun x hx A B h1 _ => hs x hx A (h1 rfl)) (by rw [List.filter_eq_self.mpr (fun _ _ => rfl)]; exact k)
/-- a comprehension whose turn changes the slots: s is what they hold; P says what is known of it and of what was made -/
theorem lc_inv {σ : Type} {g : Tg} {tt : TTd} {te : ET} {vs : List Nat} (E : σ → DEnv) {items : List D} (P : Nat → σ → List D → Prop) {Q : QE} (hl : items.length ≤ 1000)
    (step : ∀ i x s acc, items[i]? = some x → P i s acc → ∀ (A : D → DEnv → Prop) (B : DEnv → Prop), (∀ d s', P (i + 1) s' (acc ++ [d]) → A d (E s')) → (∀ s', P (i + 1) s' acc → B (E s')) →
      bindT g x (E s) fun env1 => tt env1 (fun b env2 => brB b (te env2 (fun d _ env3 => A d (wipeD env3 vs)) noX) (B (wipeD env2 vs))) noX)
    (fin : ∀ s acc, P items.length s acc → Q (.lst acc) 1 (E s)) : ∀ (s : σ), P 0 s [] → lcD g tt te vs items [] (E s) Q := by
  have go : ∀ (m i : Nat) (s : σ) (acc : List D), i + m = items.length → acc.length ≤ i → P i s acc → lcD g tt te vs (items.drop i) acc (E s) Q := by
    intro m
    induction m with
    | zero =>
      intro i s acc h _ p
      rw [List.drop_of_length_le (by omega)]
      have : i = items.length := by omega
      subst this
      exact fin s acc p
    | succ m ih =>
      intro i s acc h ha p
      have hi : i < items.length := by omega
      rw [List.drop_eq_getElem_cons hi]
      refine step i _ s acc (List.getElem?_eq_getElem hi) p (fun d e => acc.length < sizeLine ∧ lcD g tt te vs (items.drop (i + 1)) (acc ++ [d]) e Q) (fun e => lcD g tt te vs (items.drop (i + 1)) acc e Q) (fun d s' q => ⟨ms_lt (by omega), ?_⟩) (fun s' q => ?_)
      · exact ih (i + 1) s' (acc ++ [d]) (by omega) (by simp; omega) q
      · exact ih (i + 1) s' acc (by omega) (by omega) q
  intro s p
  exact go items.length 0 s [] (by omega) (by simp) p
/-- a loop by what its slots hold: one turn, whatever follows -/
theorem for_inv {σ : Type} {g : Tg} {b : SD} {items : List D} {Dn : DEnds} (E : σ → DEnv) (P : Nat → σ → Prop)
    (step : ∀ i x s, items[i]? = some x → P i s → ∀ K : DEnv → Prop, (∀ s', P (i + 1) s' → K (E s')) → bindT g x (E s) fun env1 => b env1 { nx := K, ct := K, bk := Dn.nx, rt := Dn.rt, ex := Dn.ex })
    (fin : ∀ s, P items.length s → Dn.nx (E s)) : ∀ s, P 0 s → forD g b items (E s) Dn := by
  have go : ∀ (m i : Nat) (s : σ), i + m = items.length → P i s → forD g b (items.drop i) (E s) Dn := by
    intro m
    induction m with
    | zero =>
      intro i s h p
      rw [List.drop_of_length_le (by omega)]
      have : i = items.length := by omega
      subst this
      exact fin s p
    | succ m ih =>
      intro i s h p
      have hi : i < items.length := by omega
      rw [List.drop_eq_getElem_cons hi]
      exact step i _ s (List.getElem?_eq_getElem hi) p (fun e => forD g b (items.drop (i + 1)) e Dn) (fun s' q => ih (i + 1) s' (by omega) q)
  intro s p
  exact go items.length 0 s (by omega) p
theorem get_map {α β : Type} {f : α → β} {xs : List α} {i : Nat} {y : β} (h : (xs.map f)[i]? = some y) : ∃ x, xs[i]? = some x ∧ y = f x := by
  rw [List.getElem?_map] at h
  cases e : xs[i]? with
  | none => rw [e] at h; cases h
  | some x => rw [e] at h; exact ⟨x, rfl, (Option.some.inj h).symm⟩
end DL
set_option Elab.async false
set_option linter.all false
set_option maxRecDepth 100000
/-! DLy: the data layer, part y: a call that is peeked at: nothing that is owned is frozen by it. -/
namespace DL
open PySem L2 PySem.Spec PyProof.Rows
variable [Tbs]

def noneArgs : Ms → List D → Prop → Prop
  | [], [], p => p
  | none :: ms, _ :: ds, p => noneArgs ms ds p
  | _, _, _ => False
theorem noneArgs_ok {K : PySem.W.Frag} {mg : MG} {F H : Hp} {O : OW} : ∀ {ms : Ms} {j : Nat} {ds : List D} {vs : List V} {p : Prop}, noneArgs ms ds p → Reps K mg F ds vs → p ∧ ArgR K mg F H O ms j ds vs
  | [], j, [], vs, p, h, r => ⟨h, rfl, r⟩
  | none :: ms, j, d :: ds, _, p, h, ⟨v, t, e, r1, r2⟩ => by
    obtain ⟨h1, h2⟩ := noneArgs_ok (j := j + 1) (H := H) (O := O) (show noneArgs ms ds p from h) r2
    exact ⟨h1, d, ds, v, t, rfl, e, r1, h2⟩
  | [], _, _ :: _, _, _, h, _ => h.elim
  | none :: _, _, [], _, _, h, _ => h.elim
  | some _ :: _, _, _, _, _, h, _ => h.elim
theorem outs_none {K : PySem.W.Frag} {mg : MG} {F H : Hp} {O : OW} {vs : List V} : ∀ {ms : Ms} {j : Nat} {ds os : List D} {p : Prop}, noneArgs ms ds p → OutR K mg F H O vs ms j os → os = []
  | [], _, [], _, _, _, h => h
  | none :: ms, j, d :: ds, os, p, h, o => outs_none (ms := ms) (j := j + 1) (ds := ds) (p := p) h o
  | [], _, _ :: _, _, _, h, _ => h.elim
  | none :: _, _, [], _, _, h, _ => h.elim
  | some _ :: _, _, _, _, _, h, _ => h.elim
def pCall (ms : Ms) (S : DSp) (pt : PAT) : PUT := fun env Q => pt env fun ds => noneArgs ms ds (S ds { rt := fun d _ _ => Q d, ex := fun _ _ => False })
theorem passF {X : Cx} {σ : L2.St} : PassesAt (L2N.CX X.prog X.w) X σ (fun _ _ _ => False) := fun pins H s e s' I h => by
  obtain ⟨a, B, H', cls, d, _, _, _, _, _, _, _, h⟩ := h
  exact h.elim
section
variable {X : Cx} {k : Nat} {ps ks : List Str} {ms : Ms} {S : DSp} {x : Str} {st : Stmt} {p pos : Pos} {e : Expr} {es : List Expr} {pt : PAT}
theorem pu_call (C : @Cal tb0 X.prog X.w X.K X.mg X.base x st k ps ms S) (hr : Room k X.A) (ha : PUA X (e :: es) pt) (hg : Gl X x := by rfl) (hdb : (x == ("__debug__" : Str)) = false := by decide)
    (he : starEach (e :: es) X.env = (false, eval e X.env) :: starEach es X.env := by rfl) (hpl : (backTo pos (starEach es X.env)).any (·.1) = false := by rfl) : PU X (.Call (.Name x p) (e :: es) [] pos) (pCall ms S pt) := by
  obtain ⟨f, fd, h1, h2, h3, h4⟩ := C
  refine peI (pe_callSD (E := fun σ _ _ _ => False) h4 hr hg h2 h1.kp h3 .nil (fun σ => passF) ha hdb he hpl) ?_
  rintro σ H Qh ⟨io, env, F, O, Q, I, q, k⟩
  refine ⟨io, env, F, O, _, I, q, fun ds vs H1 e1 r1 q1 => ?_⟩
  obtain ⟨q2, ar⟩ := noneArgs_ok (j := 0) (H := H1) (O := fun _ => none) q1 r1
  rw [List.append_nil]
  refine ⟨H1, fun _ => none, ds, _, Same.refl _, (fun a i h => by cases h), (fun _ _ h => by cases h), ar, q2, fun d n outs F' O' H' v P m sub own out T r z => ?_, fun x outs F' O' H' cls dx m sub own out r z => z⟩
  exact k d v H' (e1.trans fun a o h => @Mv.fr tb0 _ _ _ _ _ _ m a o h rfl fun _ ⟨_, h⟩ => by cases h) (r.fz sub fun a o hp h => h) z
end
end DL
set_option Elab.async false
set_option linter.all false
set_option maxRecDepth 100000
/-! DLw: the data layer, part w: the head's facts as facts of the layer, the law's end. -/
namespace DL
open PySem L2 PySem.Spec PyProof.Rows

section
variable {P : Program} {w : World} {K : PySem.W.Frag} {mg : MG} {base : Heap} {x : Str} {st : Stmt} {k : Nat} {ps N : List Str} {ms : Ms} {S : DSp}
theorem dss_false {X : Cx} {ss : List Stmt} : DSs X ss (fun _ _ => False) := fun W tk => ⟨fun pins s σ H Q I ⟨io, env, F, O, D, I', h, _⟩ => h.elim⟩
/-- a promise that speaks of no call -/
theorem cal_zero (Fu : FunAt K mg x st) (Sc : FnScope N ps (defScope st)) (hl : ms.length = ps.length)
    (hbi : ∀ (kV doc pm : Value) (an : Option Addr) (cdv ct : Value) (us : List Value), us.length = ps.length → bindArgs (PySem.W.fnOf x x (defArgs st) (defBody st) (defScope st) .none kV doc pm an cdv ct) ⟨us, []⟩ = pure (ps.zip us))
    (hs : ∀ ds post, S ds post → False) : Cal P w K mg base x st (k + 1) ps ms S :=
  cal_mk (τ := fun _ _ => False) Fu Sc hl hbi (fun _ _ _ _ _ _ _ _ => dss_false) fun ds post h _ => hs ds post h
theorem Cal.fix {f : Addr} {fd : FuncData} (C : Cal P w K mg base x st k ps ms S) (F : Fun K x x st f fd) (hm : mg x = some (.ref f)) : FnOk P w K mg base (L2N.CX P w) k f fd ps (spOf K mg ms S) := by
  obtain ⟨f', fd', h1, h2, h3, h4⟩ := C
  rw [hm] at h2
  cases h2
  obtain ⟨oc, od, kV, doc, pm, an, cdv, ct, osl, e1, l1, c1⟩ := F.ex
  obtain ⟨oc', od', kV', doc', pm', an', cdv', ct', osl', e1', l1', c1'⟩ := h1.ex
  rw [l1] at l1'
  have e : fd = fd' := by injection l1' with z; injection z with _ _ z; injection z
  rw [e]
  exact h4
theorem CX_none {H : Hp} {s : Shared} {e : Value} {s' : Shared} (h : L2N.CX P w [] H s (fun _ _ _ => False) e s') : False := by
  obtain ⟨a, B, H', cls, d, _, _, _, _, _, _, _, h⟩ := h
  exact h
end
/-! ### the part of the heap that the facts are read off: no list stands in it -/
def isSeqL (o : Obj) : Bool := match o with
  | ⟨.type c, _, .seq _ _, _⟩ => decide (c = "list")
  | _ => false
def noL (K : PySem.W.Frag) : PySem.W.Frag := K.filter fun p => !isSeqL p.2
def NoLst (K : PySem.W.Frag) : Prop := ∀ a o, K.lookup a = some o → isSeqL o = false
theorem lookup_mem {K : PySem.W.Frag} {a : Addr} {o : Obj} (h : K.lookup a = some o) : (a, o) ∈ K := by
  induction K with
  | nil => cases h
  | cons p t ih =>
    obtain ⟨b, x⟩ := p
    rw [List.lookup_cons] at h
    split at h
    · rename_i q
      cases h
      rw [beq_iff_eq.mp q]
      exact List.mem_cons_self
    · exact List.mem_cons_of_mem _ (ih h)
theorem noL_no {K : PySem.W.Frag} : NoLst (noL K) := fun a o h => by
  have := (List.mem_filter.mp (lookup_mem h)).2
  simpa using this
theorem noL_in {as : List Addr} {h : Heap} : (noL (He.frG h.get? as)).In h := fun a o e => by
  have m := (List.mem_filter.mp (lookup_mem e)).1
  unfold He.frG at m
  obtain ⟨b, _, hb⟩ := List.mem_filterMap.mp m
  cases q : h.get? b with
  | none => rw [q] at hb; cases hb
  | some x => rw [q] at hb; cases hb; exact q
theorem NoLst.sql {K : PySem.W.Frag} (n : NoLst K) {H : Hp} {a : Addr} {xs : List V} (h : SqL K H a xs) : Rd H a (.lst xs) := by
  rcases h with h | ⟨o, its, m, h1, h2, h3, h4, _⟩
  · exact h
  · have := n _ _ h1
    obtain ⟨c, d, dt, sl⟩ := o
    cases h2
    cases h4
    cases this
def obsL (n : Nat) (fa : List He.Fa) (fn : List He.DefD) (g : Addr → Option Obj) : He.AlD := He.obsD fa fn (noL (He.frG g (He.asD g n)))
def hookL (n : Nat) (fa : List He.Fa) (fn : List He.DefD) : PySem.W.Hook where
  α := He.AlD
  obs := fun s => obsL n fa fn s.heap.get?
  val := fun _ => He.valD fn
  says := fun _ h => ∃ K : PySem.W.Frag, K.In h ∧ NoLst K ∧ He.SaysD fa fn K
  of := fun _ _ e => ⟨_, noL_in, noL_no, e⟩
  keeps := fun _ _ _ ⟨K, hK, n, c⟩ k => ⟨K, PySem.W.Frag.In.keeps hK k, n, c⟩
theorem obsL_eq {n : Nat} {fa : List He.Fa} {fn : List He.DefD} {g : Addr → Option Obj} {s : Shared} (h : ∀ a, g a = s.heap.get? a) : obsL n fa fn g = (hookL n fa fn).obs s := by
  have e : g = s.heap.get? := funext h
  rw [e] <;> rfl
theorem fun_at {fa : List He.Fa} {fn : List He.DefD} {K : PySem.W.Frag} {h : Heap} {mg : MG} (X : K.In h) (G : h.Ns mainGlobals mg) (c : He.SaysD fa fn K) {x : Str} {st : Stmt} (i j : Nat)
    (hi : fn[i]? = some ⟨(x, none), x, x, defArgs st, defBody st, defScope st, [], []⟩) (hj : fa[j]? = some (.glo x)) : FunAt K mg x st := by
  obtain ⟨fd, F⟩ := c.def_ i hi
  exact ⟨_, fd, He5.fun_of F, He.glo_ok X G (c.fact j hj)⟩
theorem gl_int {fa : List He.Fa} {fn : List He.DefD} {K : PySem.W.Frag} {h : Heap} {mg : MG} (X : K.In h) (G : h.Ns mainGlobals mg) (c : He.SaysD fa fn K) {x : Str} {i : Int} (j : Nat) (hj : fa[j]? = some (.int x i)) : GlD mg x (.int i) := by
  obtain ⟨t, e⟩ := He.int_ok X G (c.fact j hj)
  exact ⟨⟨_, e, ⟨t, rfl⟩⟩, rfl⟩
theorem gl_str {fa : List He.Fa} {fn : List He.DefD} {K : PySem.W.Frag} {h : Heap} {mg : MG} (X : K.In h) (G : h.Ns mainGlobals mg) (c : He.SaysD fa fn K) {x z : Str} (j : Nat) (hj : fa[j]? = some (.str x z)) : GlD mg x (.str z) := by
  obtain ⟨t, e⟩ := He.str_ok X G (c.fact j hj)
  exact ⟨⟨_, e, ⟨t, rfl⟩⟩, rfl⟩
/-- a law: F gives the promise over every base -/
theorem walk_ofD {l : PySem.W.OpenLaw} {n k : Nat} {q : Program} {loose : List Str} {XP : (Str → Option Value) → Heap → Prop} {YP : World → Heap → Prop} {d : DefRec} {x : Str}
    (hn : l.most = some n) (hn2 : n ≤ sizeLine) (hdf : d.params.defaults = []) (hr : Room k callerA)
    (F : ∀ (w : World) (mg : Str → Option Value) (fa : Addr) (h : Heap), YP w h → h.Ns mainGlobals mg → mg d.name = some (.ref fa) →
      ∃ (K : PySem.W.Frag) (fd : FuncData) (sp : Sp), K.In h ∧ (∀ (s : Shared) (u : Value), BindsTo s fd ⟨[u], []⟩ [(x, u)]) ∧
        (∀ (H : Hp) (a : Addr) (ns : List Int), ns.length ≤ n → Only H → SqL K H a (ns.map V.int) → sp [.ref a] H (fun v _ => v = .bl true) fun _ _ _ => False) ∧
        ∀ base : Heap, K.In base → base.Ns mainGlobals mg → FnOk l.prog w K mg base (L2N.CX l.prog w) k fa fd [x] sp) :
    PySem.W.WalkO q loose XP YP l.row.toRowW d [] (fun f vs => PySem.call f vs) := by
  refine Att.attach_call hn hdf fun w s₀ s₁ mg mb fa o pm cd doc a vs ns G Y ho hd hcd hmg hobj hints hlen hg => ?_
  obtain ⟨K, fd, sp, KX, hb, hsp, hF⟩ := F w mg fa _ Y G.T.g hmg
  exact law_call KX G.T.g G.T.b G.T.builtins G.T.nolimit hg hobj hints (Nat.le_trans hlen hn2) hr hF hb (fun H hO hS => hsp H a ns hlen hO hS) fun H e s' => CX_none
/-- the script's list as data: it stays in the ground -/
theorem rep_ints {K : PySem.W.Frag} {mg : MG} {H : Hp} : ∀ ns : List Int, Reps K mg H (ns.map D.int) (ns.map V.int)
  | [] => rfl
  | n :: ns => ⟨.int n, _, rfl, rfl, rep_ints ns⟩
/-- the end, from the law's def as the layer has it -/
theorem law_end {P : Program} {w : World} {K : PySem.W.Frag} {mg : MG} {st : Stmt} {k : Nat} {ms : Ms} {S : DSp} {f : Addr} (nl : NoLst K) (Fu : FunAt K mg "law" st) (hf : mg "law" = some (.ref f)) (hms : ms = [none])
    (hbi : ∀ (kV doc pm : Value) (an : Option Addr) (cdv ct : Value) (us : List Value), us.length = ["script"].length → bindArgs (PySem.W.fnOf "law" "law" (defArgs st) (defBody st) (defScope st) .none kV doc pm an cdv ct) ⟨us, []⟩ = pure ((["script"] : List Str).zip us))
    (C : ∀ base : Heap, Cal P w K mg base "law" st k ["script"] ms S) (hS : ∀ ns : List Int, ∀ post : DPost, post.rt (.bl true) 0 [] → ns.length ≤ 63 → S [.lst (ns.map .int)] post) :
    ∃ (fd : FuncData) (sp : Sp), (∀ (s : Shared) (u : Value), BindsTo s fd ⟨[u], []⟩ [("script", u)]) ∧
        (∀ (H : Hp) (a : Addr) (ns : List Int), ns.length ≤ 63 → Only H → SqL K H a (ns.map V.int) → sp [.ref a] H (fun v _ => v = .bl true) fun _ _ _ => False) ∧
        ∀ base : Heap, K.In base → base.Ns mainGlobals mg → FnOk P w K mg base (L2N.CX P w) k f fd ["script"] sp := by
  obtain ⟨f', fd, F, hf'⟩ := Fu
  rw [hf] at hf'
  cases hf'
  refine ⟨fd, spOf K mg ms S, fun s u => ?_, fun H a ns hl _ hs => ?_, fun base _ _ => (C base).fix F hf⟩
  · obtain ⟨oc, od, kV, doc, pm, an, cdv, ct, osl, rfl, _, _⟩ := F.ex
    exact .of_eq (hbi kV doc pm an cdv ct [u] rfl)
  · subst hms
    refine ⟨H, fun _ => none, [.lst (ns.map .int)], { rt := fun d n os => d = .bl true ∧ n = 0, ex := fun _ _ => False }, Same.refl _, (fun a i h => by cases h), (fun _ _ h => by cases h), ⟨_, [], _, [], rfl, rfl, ⟨a, ns.map V.int, rfl, nl.sql hs, rep_ints ns⟩, rfl, rfl⟩, hS ns _ ⟨rfl, rfl⟩ hl, ?_, ?_⟩
    · intro d n os F' O' H' v P _ _ _ _ _ r q
      obtain ⟨rfl, rfl⟩ := q
      exact r
    · intro x os F' O' H' cls dx _ _ _ _ _ q
      exact q
end DL
set_option Elab.async false
set_option linter.all false
set_option maxRecDepth 100000
/-! DLz: the data layer, part z: small things. -/
namespace DL
open PySem L2 PySem.Spec PyProof.Rows
variable [Tbs]
/-! ### == told as it unfolds -/
theorem eqv_self {n : Nat} {d : D} (hf : Flat n d) : PyData.eqv d.py d.py = true := SeqAt.eqv_refl _ (flat_py n _ hf).1
theorem nev_self {n : Nat} {d : D} (hf : Flat n d) : (!PyData.eqv d.py d.py) = false := by rw [eqv_self hf]; rfl
end DL
set_option Elab.async false
set_option linter.all false
set_option maxRecDepth 100000
/-! DM1: the data layer: dict comprehensions; calls with keywords in the reverse order of the parameters. -/
namespace DL
open PySem L2 PySem.Spec PyProof.Rows
variable [Tbs]
def dcD (g : Tg) (tt : TTd) (tk tv : ET) (vs : List Nat) : List D → List (Key × D) → DEnv → QE → Prop
  | [], acc, env, Q => Q (.dK acc) 1 env
  | x :: xs, acc, env, Q => bindT g x env fun env1 => tt env1 (fun b env2 => brB b
    (tk env2 (fun k _ env3 => tv env3 (fun v _ env4 => match keyD k with | some key => acc.length < sizeLine ∧ dcD g tt tk tv vs xs (putD acc key v) (wipeD env4 vs) Q | none => False) noX) noX)
    (dcD g tt tk tv vs xs acc (wipeD env2 vs) Q)) noX
def eDc (i : ITd) (g : Tg) (tt : TTd) (tk tv : ET) (vs : List Nat) : ET := fun env Q R => i env (fun items env1 => dcD g tt tk tv vs items [] (wipeD env1 vs) Q) R
section
variable {X : Cx} {kx vx tg iter : Expr} {ifs : List Expr} {scope : Scope} {own : List (Str × Nat)} {g : Tg} {it : ITd} {tt : TTd} {tk tv : ET} {pos : Pos} {W : WX} {vs : List Nat}
theorem dc_rest {K : PySem.W.Frag} {mg : MG} {vs : List Nat} (hsl : ∀ i ∈ g.slots, i ∈ vs) {io : Nat → Option V} {env1 : DEnv} {σ : L2.St} {F F1 H H1 : Hp} {O O1 : OW} {Q : QE} {Qh : VK} {items : List D} {J : It}
    (kQ : KE K mg io σ F O H Q Qh) (A1 : At K mg io F O H env1 σ F1 O1 H1) (T : ItOk K mg J items F1) (h1 : dcD g tt tk tv vs items [] (wipeD env1 vs) Q) (L : Addr) (hL : H1 L = none) : ∃ W : Nat → Nat → Hp → Prop, (∃ m, W 0 m (upd H1 L (.dK []))) ∧ ∀ i m H, W i m H →
      (J.stop i H ∧ Qh (.ref L) H) ∨ (J.go i H ∧ ∃ Nx : Hp → Prop, (∀ H', Nx H' → ∃ m', m' < m ∧ W (i + 1) m' H') ∧ ∀ x H', J.yld i H x H' → rdG K mg g x (L2.wipe σ vs) H' fun σ2 H2 => L2.wipe σ2 vs = L2.wipe σ vs ∧ rdT K mg tt (fun _ _ _ _ => False) σ2 H2 fun b H3 =>
        if b = true then rdE K mg tk (fun _ _ _ _ => False) σ2 H3 fun y H4 => rdE K mg tv (fun _ _ _ _ => False) σ2 H4 fun z H5 => ∃ kvs k, y = kV k ∧ H5 L = some (.dK kvs) ∧ kvs.length < sizeLine ∧ Nx (upd H5 L (.dK (putK kvs k z))) else Nx H3) := by
  have A1e := A1.ext (same_upd (o := .dK []) hL)
  have kx0 : ∀ {F' H' : Hp} {O' : OW}, KX K mg io F' O' H' noX fun _ _ _ _ => False := fun {F' H' O'} x e σ' Fa Oa Ha c dx B r z => z
  obtain ⟨O1w, A1w, hO1⟩ := A1e.wipes vs
  have T1 : Tp O H F1 O1w (upd H1 L (.dK [])) (fun b => b = L) := ⟨fun b e => by
    subst e
    refine ⟨A1.si.freeF hL, ?_, _, upd_same, rfl⟩
    cases z : O1w b with
    | none => rfl
    | some i =>
      have q := hO1 b i z
      rw [A1.si.freeO hL] at q
      exact (nomatch q), fun b e => by subst e; exact A1.mv.back (.inl hL)⟩
  refine ⟨fun i m H' => m + i = items.length ∧ ∃ env' F' O' acc accV, At K mg io F O H env' (L2.wipe σ vs) F' O' H' ∧ (∀ j b, env'[j]? = some (some b) → j ∉ vs) ∧ Same F1 F' ∧ Tp O H F' O' H' (fun b => b = L) ∧
    H' L = some (.dK accV) ∧ RepK K mg F' acc accV ∧ dcD g tt tk tv vs (items.drop i) acc env' Q,
    ⟨items.length, by omega, wipeD env1 vs, F1, O1w, [], [], A1w, fun j b hb => (wipeD_none vs env1 j b hb).2, Same.refl _, T1, upd_same, rfl, h1⟩, ?_⟩
  rintro i m H2 ⟨hm, env2, F2, O2, acc, accV, A2, hn2, e2, T2, hl2, r2, h2⟩
  by_cases hi : i < items.length
  · refine .inr ⟨T.go i H2 (e2.trans A2.si.sub) hi, fun H' => ∃ env' F' O' acc accV, At K mg io F O H env' (L2.wipe σ vs) F' O' H' ∧ (∀ j b, env'[j]? = some (some b) → j ∉ vs) ∧ Same F1 F' ∧ Tp O H F' O' H' (fun b => b = L) ∧
      H' L = some (.dK accV) ∧ RepK K mg F' acc accV ∧ dcD g tt tk tv vs (items.drop (i + 1)) acc env' Q, fun H' q => ⟨m - 1, by omega, by omega, q⟩, ?_⟩
    intro x H3 y
    obtain ⟨d, F3, hd, B3, r3⟩ := T.take A2.si e2 hi y
    have A3 := A2.trans B3
    rw [drop_get hd] at h2
    -- a turn's end
    have again : ∀ {env5 : DEnv} {σ5 : L2.St} {F5 H5 : Hp} {O5 : OW} {acc' : List (Key × D)} {accV' : List (Key × V)}, At K mg io F3 O2 H3 env5 σ5 F5 O5 H5 → L2.wipe σ5 vs = L2.wipe σ vs → RepK K mg F5 acc' accV' →
        dcD g tt tk tv vs (items.drop (i + 1)) acc' (wipeD env5 vs) Q → (H5 L = some (.dK accV) → (∃ env' F' O' acc accV, At K mg io F O H env' (L2.wipe σ vs) F' O' (upd H5 L (.dK accV')) ∧ (∀ j b, env'[j]? = some (some b) → j ∉ vs) ∧ Same F1 F' ∧
          Tp O H F' O' (upd H5 L (.dK accV')) (fun b => b = L) ∧ (upd H5 L (.dK accV')) L = some (.dK accV) ∧ RepK K mg F' acc accV ∧ dcD g tt tk tv vs (items.drop (i + 1)) acc env' Q)) := by
      intro env5 σ5 F5 H5 O5 acc' accV' A5 hw r5 h5 hl5
      have A5' := A3.trans A5
      have T5 := T2.mv (B3.mv.trans A5.mv)
      obtain ⟨hF, hO, _⟩ := T5.t L rfl
      obtain ⟨O6, A6, hO6⟩ := A5'.wipes vs
      rw [hw] at A6
      have hO' : O6 L = none := by
        cases z : O6 L with
        | none => rfl
        | some i => have q := hO6 L i z; rw [hO] at q; exact (nomatch q)
      have neO : ∀ a i, O6 a = some i → a ≠ L := fun a i z e => by subst e; rw [hO'] at z; cases z
      refine ⟨wipeD env5 vs, F5, O6, acc', accV', ⟨⟨A6.mv.ff, fun a o z q ok => ?_, A6.mv.fn, A6.mv.on, A6.mv.tb.trans (.upd (.inr ⟨_, hl5, rfl⟩))⟩, ⟨fun a o z => ?_, fun a i z => ?_, fun j b hb => ?_, A6.si.len, A6.si.tab.upd (.inr ⟨_, hl5, rfl⟩)⟩⟩, fun j b hb => (wipeD_none vs env5 j b hb).2, (e2.trans B3.mv.ff).trans A5.mv.ff,
        ⟨fun b e => by subst e; exact ⟨hF, hO', _, upd_same, rfl⟩, T5.nw⟩, upd_same, r5, h5⟩
      · have ne : a ≠ L := fun e => by
          subst e
          rcases T5.nw a rfl with z2 | ⟨k, z2⟩
          · rw [z] at z2; cases z2
          · rw [q] at z2; cases z2
        rw [upd_ne ne]
        exact A6.mv.fr a o z q ok
      · have ne : a ≠ L := fun e => by subst e; rw [hF] at z; cases z
        rw [upd_ne ne]
        exact A6.si.sub a o z
      · rw [upd_ne (neO a i z)]
        exact A6.si.own a i z
      · obtain ⟨w, g1, g2, g3⟩ := A6.si.slot j b hb
        exact ⟨w, g1, g2.mono (fun _ _ x => x) (fun a o p z => by rw [upd_ne (neO a j p)]; exact z) (fun _ x => x), g3⟩
    refine ⟨io, env2, F3, O2, d, _, A3.si, r3, h2, ?_⟩
    intro env4 σ4 O4 A4 hag h4
    have hw4 : L2.wipe σ4 vs = L2.wipe σ vs := (hag vs hsl).trans (wipe_in fun _ z => z)
    refine ⟨hw4, io, env4, F3, O4, _, noX, A4.si, h4, ?_, kx0⟩
    intro b env5 F5 O5 H5 A5 h5
    have A45 := A4.trans A5
    have T3 := T2.mv B3.mv
    have l3 : H3 L = some (.dK accV) := T2.keep B3.mv rfl hl2
    have l5 : H5 L = some (.dK accV) := T3.keep A45.mv rfl l3
    cases b with
    | false =>
      refine iteF ?_
      have z := again A45 hw4 (RepK.mono (B3.mv.ff.trans A45.mv.ff) r2) h5 l5
      rw [upd_self l5] at z
      exact z
    | true =>
      refine iteT ⟨io, env5, F5, O5, _, noX, A5.si, h5, ?_, kx0⟩
      intro y' n env6 F6 O6 H6 w P A6 T6 r6 h6
      have A6' := A6.frz T6
      have A46 := A45.trans A6'
      have r6' := A6.frz_rep r6
      refine ⟨io, env6, _, O6, _, noX, A6'.si, h6, ?_, kx0⟩
      intro z' n' env7 F7 O7 H7 wv P7 A7 T7 r7 h7
      have A7' := A7.frz T7
      have A47 := A46.trans A7'
      have l7 : H7 L = some (.dK accV) := T3.keep A47.mv rfl l3
      have r8 := RepK.mono (B3.mv.ff.trans A47.mv.ff) r2
      cases ek : keyD y' with
      | none => rw [ek] at h7; exact h7.elim
      | some key =>
        rw [ek] at h7
        have el : accV.length = acc.length := by
          have := congrArg List.length (RepK.keys r2).1
          rw [List.length_map, List.length_map] at this
          exact this.symm
        exact ⟨accV, key, keyD_v ek r6', l7, by rw [el]; exact h7.1, again A47 hw4 (r8.put (A7.frz_rep r7)) h7.2 l7⟩
  · refine .inl ⟨T.stop i H2 (e2.trans A2.si.sub) (by omega), ?_⟩
    rw [List.drop_of_length_le (by omega)] at h2
    exact kQ (.dK acc) 1 env2 F2 O2 H2 (.ref L) (fun b => b = L) ⟨A2.mv, A2.si.unwipe hn2⟩ T2 (NewL.own (o := .dK accV) r2 hl2) h2
theorem dc_read {K : PySem.W.Frag} {mg : MG} {vs : List Nat} (hsl : ∀ i ∈ g.slots, i ∈ vs) : ∀ σ H Qh, rdE K mg (eDc it g tt tk tv vs) W σ H Qh →
    tDc (rdI K mg it W) (rdG K mg g) (rdT K mg tt fun _ _ _ _ => False) (rdE K mg tk fun _ _ _ _ => False) (rdE K mg tv fun _ _ _ _ => False) vs σ H Qh := by
  rintro σ H Qh ⟨io, env, F, O, Q, R, I, h, kQ, kX⟩
  refine ⟨io, env, F, O, _, _, I, h, ?_, kX⟩
  intro items env1 F1 O1 H1 J A1 T h1 L hL
  exact dc_rest hsl kQ A1 T h1 L hL
theorem de_dc (own : List (Str × Nat)) (hc : X.calm = true) (hN : X.N.Nodup) (hi : DI X tg iter it) (ok : BlkOk X.N X.env.scope scope own)
    (hg : ∀ (s : Shared) (H : Hp) (C : Addr) (cl : List (Str × Addr)) (fp : List Addr), DGt (X.blk s H scope (compEnvC scope cl C X.env) fp) tg g)
    (ht : ∀ (s : Shared) (H : Hp) (C : Addr) (cl : List (Str × Addr)) (fp : List Addr), DPTs (X.blk s H scope (compEnvC scope cl C X.env) fp) ifs tt)
    (hk : ∀ (s : Shared) (H : Hp) (C : Addr) (cl : List (Str × Addr)) (fp : List Addr), DE (X.blk s H scope (compEnvC scope cl C X.env) fp) kx tk)
    (he : ∀ (s : Shared) (H : Hp) (C : Addr) (cl : List (Str × Addr)) (fp : List Addr), DE (X.blk s H scope (compEnvC scope cl C X.env) fp) vx tv)
    (hv : own.map (·.2) = vs := by rfl) (hsl : ∀ i ∈ g.slots, i ∈ vs := by decide) (hs : ∀ x, foldedSetIterable iter X.env x = pure x := by intro _; rfl) : DE X (.DictComp kx vx [⟨tg, iter, ifs, 0⟩] scope pos) (eDc it g tt tk tv vs) := by
  subst hv
  exact fun W tks => peI (pe_dc (g := rdG X.K X.mg g) (tt := rdT X.K X.mg tt fun _ _ _ _ => False) (tk := rdE X.K X.mg tk fun _ _ _ _ => False) (tv := rdE X.K X.mg tv fun _ _ _ _ => False) hc hN (hi W tks) ok hg (fun s H C cl fp => ht s H C cl fp _ takes00) (fun s H C cl fp => hk s H C cl fp _ takes00) (fun s H C cl fp => he s H C cl fp _ takes00) hs) (dc_read hsl)
end
/-! ### f(c = .., b = .., a = ..), the parameters being a, b, c -/
theorem krev {K : PySem.W.Frag} {x qual : Str} {st : Stmt} {f : Addr} {fd : FuncData} {ps : List Str} (ks : List Str) (Fu : Fun K x qual st f fd)
    (h : ∀ (kV doc pm : Value) (an : Option Addr) (cdv ct : Value) (ws : List Value), ws.length = ks.length → bindArgs (PySem.W.fnOf x qual (defArgs st) (defBody st) (defScope st) .none kV doc pm an cdv ct) ⟨[], ks.zip ws⟩ = pure (ps.zip ws.reverse)) :
    KBn K fd ps 0 ks (fun _ ws => ws.reverse) (fun _ zs => zs.reverse) := by
  obtain ⟨oc, od, kV, doc, pm, an, cdv, ct, osl, rfl, lk, hcd⟩ := Fu.ex
  refine ⟨fun s us ws _ l1 l2 => ?_, fun _ r => r.reverse⟩
  match us, l1 with
  | [], _ => exact .of_eq (h kV doc pm an cdv ct ws l2)
def eCallRv (ms : Ms) (S : DSp) (t : GAT) : ET := fun env Q R => t env (fun gs env1 => callD ms S gs.reverse env1 Q R) R
theorem GaR.app {K : PySem.W.Frag} {mg : MG} {F : Hp} {σ : L2.St} : ∀ {gs hs : List Ga} {vs ws : List V}, GaR K mg F σ gs vs → GaR K mg F σ hs ws → GaR K mg F σ (gs ++ hs) (vs ++ ws)
  | [], _, _, _, h, g => by rw [show _ = [] from h]; exact g
  | .inl d :: gs, _, _, ws, ⟨v, r, h1, h2, h3⟩, g => ⟨v, r ++ ws, by subst h1; rfl, h2, GaR.app h3 g⟩
  | .inr k :: gs, _, _, ws, ⟨v, r, h1, h2, h3⟩, g => ⟨v, r ++ ws, by subst h1; rfl, h2, GaR.app h3 g⟩
theorem GaR.rev {K : PySem.W.Frag} {mg : MG} {F : Hp} {σ : L2.St} : ∀ {gs : List Ga} {vs : List V}, GaR K mg F σ gs vs → GaR K mg F σ gs.reverse vs.reverse
  | [], _, h => by rw [show _ = [] from h]; exact rfl
  | .inl d :: gs, _, ⟨v, r, h1, h2, h3⟩ => by
    subst h1
    rw [List.reverse_cons, List.reverse_cons]
    exact GaR.app (GaR.rev h3) ⟨v, [], rfl, h2, rfl⟩
  | .inr k :: gs, _, ⟨v, r, h1, h2, h3⟩ => by
    subst h1
    rw [List.reverse_cons, List.reverse_cons]
    exact GaR.app (GaR.rev h3) ⟨v, [], rfl, h2, rfl⟩
section
variable {X : Cx} {k : Nat} {f : Addr} {fd : FuncData} {ps ks : List Str} {ms : Ms} {S : DSp} {x : Str} {st : Stmt} {p pos : Pos} {kws : List Keyword} {t : GAT}
def tKwR (n : Nat) (sp : Sp) (E : L2.St → XK) (tk : TA) : TE := fun σ H Q => tk σ H fun zs H2 => zs.length = n ∧ sp zs.reverse H2 Q (E σ)
theorem pe_kwR {sp : Sp} {E : L2.St → XK} {tk : TA} (Fn : FnOk X.prog X.w X.K X.mg X.base (L2N.CX X.prog X.w) k f fd ps sp) (hr : Room k X.A) (hg : Gl X x) (hm : X.mg x = some (.ref f)) (hk : PySem.W.keepIn X.K (.ref f) = true)
    (hb : KBn X.K fd ps 0 ks (fun _ ws => ws.reverse) (fun _ zs => zs.reverse)) (hx : ∀ σ, PassesAt (L2N.CX X.prog X.w) X σ (E σ)) (hkw : PK X kws tk) (hall : (backToKw pos (keywordEach kws X.env)).all (·.1.isSome) = true) (hks : (backToKw pos (keywordEach kws X.env)).filterMap (·.1) = ks)
    (hdb : (x == ("__debug__" : Str)) = false) (hpl : ((backTo pos (starEach [] X.env)).any (·.1) || (backToKw pos (keywordEach kws X.env)).any (·.1.isNone)) = false) : PE X (.Call (.Name x p) [] kws pos) (tKwR ks.length sp E tk) := by
  refine ⟨fun pins s σ H Q I h => ?_⟩
  refine wpAny_Call_Name_kw (ld_glob I hg hm ?_ hdb)
  refine PySem.W.callWith_KW0 (h₀ := X.base) I.ok.mod.kin hk hall ?_ hpl
  refine thn (hkw.run pos pins s σ H _ I h) fun ws s2 ⟨zs, H2, I2, rz, l2, q2⟩ => ⟨I2.kIn, ?_⟩
  rw [hks]
  have r2 : Vals zs.reverse ws.reverse := rz.reverse
  refine wpAny_call (codeAny_mono (Fn.run X.A X.stack s2 H2 ⟨[], ks.zip ws⟩ ws.reverse zs.reverse Q (E σ) hr I2.env0 (hb.to s2 [] ws I2.kIn rfl (rz.length.symm.trans l2)) r2 q2) fun r s' hq => ?_)
  cases r with
  | error e => exact hx σ pins H2 s2 e s' I2 hq
  | ok fl =>
    cases fl with
    | ret u => exact I2.after hq
    | next => exact False.elim hq
    | brk => exact False.elim hq
    | cont => exact False.elim hq
theorem dc_rv (ks : List Str) (C : Cal X.prog X.w X.K X.mg X.base x st k ps ms S) (hr : Room k X.A) (hkw : DGK X kws t)
    (h : ∀ (kV doc pm : Value) (an : Option Addr) (cdv ct : Value) (ws : List Value), ws.length = ks.length → bindArgs (PySem.W.fnOf x x (defArgs st) (defBody st) (defScope st) .none kV doc pm an cdv ct) ⟨[], ks.zip ws⟩ = pure (ps.zip ws.reverse)) (hlen : ms.length = ks.length) (hg : Gl X x := by rfl)
    (hall : (backToKw pos (keywordEach kws X.env)).all (·.1.isSome) = true := by rfl) (hks : (backToKw pos (keywordEach kws X.env)).filterMap (·.1) = ks := by rfl)
    (hdb : (x == ("__debug__" : Str)) = false := by decide) (hpl : ((backTo pos (starEach [] X.env)).any (·.1) || (backToKw pos (keywordEach kws X.env)).any (·.1.isNone)) = false := by rfl) :
    DE X (.Call (.Name x p) [] kws pos) (eCallRv ms S t) := by
  obtain ⟨f, fd, h1, h2, h3, h4⟩ := C
  intro W tk
  refine peI (pe_kwR (E := fun σ cls d H => W cls d σ H) h4 hr hg h2 h1.kp (krev ks h1 h) (fun σ => passAt tk σ) (hkw W tk) hall hks hdb hpl) ?_
  rintro σ H Qh ⟨io, env, F, O, Q, R, I, h, kQ, kX⟩
  refine ⟨io, env, F, O, _, R, I, h, ?_, kX⟩
  intro gs env1 F1 O1 H1 vs A1 r1 h1
  have z := call_read A1.si r1.rev h1 (kQ.mv A1) (kX.mv A1)
  refine ⟨?_, z⟩
  obtain ⟨F0, O0, ds, post, _, _, _, ar, _⟩ := z
  have l := ar.len.1
  rw [List.length_reverse] at l
  rw [l, hlen]
end
/-! ### an expression that is run with all that stands frozen: what is owned stays owned, the outcome bears no address -/
def fz1 : Option Bd → Option Bd
  | none => none
  | some b => some { b with n := 0 }
def frzEnv (env : DEnv) : DEnv := env.map fz1
theorem frzEnv_len (env : DEnv) : (frzEnv env).length = env.length := List.length_map ..
theorem frzEnv_get {env : DEnv} {i : Nat} {b : Bd} (h : (frzEnv env)[i]? = some (some b)) : ∃ b', env[i]? = some (some b') ∧ b = { b' with n := 0 } := by
  unfold frzEnv at h
  rw [List.getElem?_map] at h
  cases e : env[i]? with
  | none => rw [e] at h; cases h
  | some o =>
    rw [e] at h
    cases o with
    | none => cases h
    | some c => exact ⟨c, rfl, by cases h; rfl⟩
/-- what may be handed out -/
def outFz (d : D) (n : Nat) (Q : Qn) : Prop := match d, n with
  | .non, _ => Q .non 0
  | .bl b, _ => Q (.bl b) 0
  | .int i, _ => Q (.int i) 0
  | .str s, _ => Q (.str s) 0
  | .lst ds, _ + 1 => ds.all D.leaf = true ∧ Q (.lst ds) 1
  | .dK kvs, _ + 1 => (kvs.all fun kv => kv.2.leaf) = true ∧ Q (.dK kvs) 1
  | _, _ => False
def eFz (t : ET) : ET := fun env Q _ => t (frzEnv env) (fun d n _ => outFz d n fun d n => Q d n env) noX
section
variable {K : PySem.W.Frag} {mg : MG} {F F' H : Hp}
theorem leafO {n : Nat} {P : AP} {d : D} {v : V} (hl : d.leaf = true) (h : RepO K mg F' H n P d v) : Rep K mg F' d v := by
  cases n <;> (cases d <;> first | exact h | cases hl)
theorem ros_leaf {n : Nat} : ∀ {ds : List D} {P : AP} {vs : List V}, ds.all D.leaf = true → ROs (RepO K mg F' H n) P ds vs → ROs (RepO K mg F H 0) P ds vs
  | [], _, _, _, h => h
  | d :: ds, P, _, hl, ⟨v, r, P1, P2, h1, h2, h3, h4, h5, h6⟩ => by
    obtain ⟨l1, l2⟩ : d.leaf = true ∧ ds.all D.leaf = true := by simpa using hl
    refine ⟨v, r, P1, P2, h1, h2, h3, h4, ?_, ros_leaf l2 h6⟩
    have := leafO (n := n) l1 h5
    exact leaf_rep (F := F') l1 this
end
theorem fz_read {K : PySem.W.Frag} {mg : MG} {t : ET} {W : WX} : ∀ σ H Qh, rdE K mg (eFz t) W σ H Qh → rdE K mg t W σ H Qh := by
  rintro σ H Qh ⟨io, env, F, O, Q, R, I, q, k, kx⟩
  have I2 : SI K mg io (frzEnv env) σ (noT H) (fun _ => none) H := ⟨fun a o z => (noT_some z).1, (fun a i z => by cases z), fun i b hb => by
    obtain ⟨b', h1, h2⟩ := frzEnv_get hb
    obtain ⟨v, g1, g2, g3⟩ := I.slot i b' h1
    subst h2
    exact ⟨v, g1, I.noT_rep g2, g3⟩, by rw [frzEnv_len]; exact I.len, I.noT_tab⟩
  refine ⟨io, frzEnv env, noT H, fun _ => none, _, noX, I2, q, ?_, fun x env' σ' F' O' H' cls dx A r z => z.elim⟩
  intro d n env' F' O' H' v P A T r z
  have sm : Same (noT H) H' := fun a o e => A.mv.fr a o (noT_some e).1 rfl fun _ => (noT_some e).2
  have A0 := At.extT I sm A.mv.tb
  have T0 : Tp O H F O H' P := ⟨fun a p => by
    have hn : H a = none := by
      rcases T.nw a p with z | ⟨i, z⟩
      · exact z
      · cases z
    exact ⟨I.freeF hn, I.freeO hn, (T.t a p).2.2⟩, fun a p => by
      rcases T.nw a p with z | ⟨i, z⟩
      · exact .inl z
      · cases z⟩
  have lf : ∀ d : D, d.leaf = true → RepO K mg F' H' n P d v → Q d 0 env → Qh v H' := fun d hl r q => k d 0 env F O H' v P0 A0 Tp.none (leaf_rep (F := F') hl (leafO hl r)) q
  cases d with
  | non => exact lf .non rfl r z
  | bl b => exact lf (.bl b) rfl r z
  | int i => exact lf (.int i) rfl r z
  | str s => exact lf (.str s) rfl r z
  | lst ds =>
    cases n with
    | zero => exact z.elim
    | succ n =>
      obtain ⟨a, vs, P', h1, h2, h3, h4, h5, h6⟩ := r
      exact k (.lst ds) 1 env F O H' v P A0 T0 ⟨a, vs, P', h1, h2, h3, h4, h5, ros_leaf z.1 h6⟩ z.2
  | dK kvs =>
    cases n with
    | zero => exact z.elim
    | succ n =>
      obtain ⟨a, vs, P', h1, h2, h3, h4, h5, h6, h7⟩ := r
      have z1 : (kvs.map (·.2)).all D.leaf = true := by rw [List.all_map]; exact z.1
      exact k (.dK kvs) 1 env F O H' v P A0 T0 ⟨a, vs, P', h1, h2, h3, h4, h5, h6, ros_leaf z1 h7⟩ z.2
  | _ => cases n <;> exact z.elim
theorem de_fz {X : Cx} {e : Expr} {t : ET} (h : DE X e t) : DE X e (eFz t) := fun W tk => peI (h W tk) fz_read
/-! ### x = {k: v for ..}, x = [..] run with all frozen -/
section
variable {X : Cx}
theorem ps_setDc {i : Nat} {y : Str} {py : Pos} {kx vx tg iter : Expr} {ifs : List Expr} {scope : Scope} {own : List (Str × Nat)} {pos spos : Pos} {wi : TI} {g : TG} {tt : TT} {tk tv : TE} (hc : X.calm = true) (hN : X.N.Nodup) (hy : X.N[i]? = some y) (hyl : X.env.scope.names.lookup y = some .local)
    (hsw : swapsWith (.DictComp kx vx [⟨tg, iter, ifs, 0⟩] scope pos) (some (.Name y py)) spos.line X.env = pure true) (hi : PI X tg iter wi) (ok : BlkOk X.N X.env.scope scope own)
    (hg : ∀ (s : Shared) (H : Hp) (C : Addr) (cl : List (Str × Addr)) (fp : List Addr), PG (X.blk s H scope (compEnvC scope cl C X.env) fp) tg g) (ht : ∀ (s : Shared) (H : Hp) (C : Addr) (cl : List (Str × Addr)) (fp : List Addr), PTs (X.blk s H scope (compEnvC scope cl C X.env) fp) ifs tt)
    (hk : ∀ (s : Shared) (H : Hp) (C : Addr) (cl : List (Str × Addr)) (fp : List Addr), PE (X.blk s H scope (compEnvC scope cl C X.env) fp) kx tk)
    (he : ∀ (s : Shared) (H : Hp) (C : Addr) (cl : List (Str × Addr)) (fp : List Addr), PE (X.blk s H scope (compEnvC scope cl C X.env) fp) vx tv) (hs : ∀ x, foldedSetIterable iter X.env x = pure x := by intro _; rfl) :
    PS X (.Assign [.Name y py] (.DictComp kx vx [⟨tg, iter, ifs, 0⟩] scope pos) spos) (tAsg (tDc wi g tt tk tv (own.map (·.2))) (gName i)) := by
  refine ⟨fun pins s σ H D I h => ?_⟩
  rw [exec_Assign_Name_used _ _ _ _ hsw]
  refine wpAny_bind (wpAny_standAt (wpAny_bind ?_))
  show wpAny _ X.A (do let _ ← comprehension (.DictComp kx vx [⟨tg, iter, ifs, 0⟩] scope pos) scope X.env (firstIterPos [⟨tg, iter, ifs, 0⟩] pos) newDict false (eval iter X.env) (some (assign (.Name y py) X.env))) _ _ s
  have h : tDc wi g tt tk tv (own.map (·.2)) σ H (fun x H1 => gName i x σ H1 D.nx) := h
  refine wpAny_bind (thn (dc_core (Qf := fun _ s' => SP X pins D .next s') hc hN I hi ok hg ht hk he hs h fun L C s' m H' I' q hn f => ?_) fun _ s' hq => wpAny_pure (wpAny_pure hq))
  show wpAny _ _ (assign (.Name y py) X.env (.ref L)) _ _ _
  refine wpAny_assign_Name (store_ok2 (v := V.ref L) I' hN hy (.inl hyl) rfl (fun s2 I2 ⟨a, sb, ha⟩ => ?_) (.inr hyl))
  obtain ⟨f0, f1, f2, f3, f4, f5⟩ := f
  have haC : C ≠ a := by
    rcases ha with z | z
    · rw [z]; exact f1
    · exact fun e => f4 y a z e.symm
  refine ⟨m, hn.sameBut sb haC, fun h3 sb3 => ?_⟩
  exact ⟨_, H', I2.turned (t' := s2.toks) (fun b o hb e => (sb3.2 b hb).trans e) f0 f1 f3 f4 f5, q⟩
variable {elt kx vx tg iter : Expr} {ifs : List Expr} {scope : Scope} {vs : List Nat} {g : Tg} {it : ITd} {tt : TTd} {te tk tv : ET} {pos spos py : Pos} {i : Nat} {y : Str}
theorem set_ke {K : PySem.W.Frag} {mg : MG} {io : Nat → Option V} {σ : L2.St} {F H : Hp} {O : OW} {D : DEnds} {Dn : Ends} (k1 : ∀ env' σ' F' O' H', At K mg io F O H env' σ' F' O' H' → D.nx env' → Dn.nx σ' H') (i : Nat) :
    KE K mg io σ F O H (fun d n env1 => D.nx (env1.set i (some ⟨d, n, false⟩))) (fun x H1 => gName i x σ H1 Dn.nx) := by
  intro d n env1 F1 O1 H1 v P A1 T1 r1 h1
  exact k1 _ _ _ _ _ (A1.set T1 r1) h1
theorem ds_setDc (own : List (Str × Nat)) (hc : X.calm = true) (hN : X.N.Nodup) (hi : DI X tg iter it) (ok : BlkOk X.N X.env.scope scope own)
    (hg : ∀ (s : Shared) (H : Hp) (C : Addr) (cl : List (Str × Addr)) (fp : List Addr), DGt (X.blk s H scope (compEnvC scope cl C X.env) fp) tg g)
    (ht : ∀ (s : Shared) (H : Hp) (C : Addr) (cl : List (Str × Addr)) (fp : List Addr), DPTs (X.blk s H scope (compEnvC scope cl C X.env) fp) ifs tt)
    (hk : ∀ (s : Shared) (H : Hp) (C : Addr) (cl : List (Str × Addr)) (fp : List Addr), DE (X.blk s H scope (compEnvC scope cl C X.env) fp) kx tk)
    (he : ∀ (s : Shared) (H : Hp) (C : Addr) (cl : List (Str × Addr)) (fp : List Addr), DE (X.blk s H scope (compEnvC scope cl C X.env) fp) vx tv)
    (hsw : swapsWith (.DictComp kx vx [⟨tg, iter, ifs, 0⟩] scope pos) (some (.Name y py)) spos.line X.env = pure true) (hy : X.N[i]? = some y := by rfl) (hyl : X.env.scope.names.lookup y = some .local := by rfl)
    (hv : own.map (·.2) = vs := by rfl) (hsl : ∀ i ∈ g.slots, i ∈ vs := by decide) (hs : ∀ x, foldedSetIterable iter X.env x = pure x := by intro _; rfl) : DS X (.Assign [.Name y py] (.DictComp kx vx [⟨tg, iter, ifs, 0⟩] scope pos) spos) (sdSet i (eDc it g tt tk tv vs)) := by
  subst hv
  intro W tks
  refine psI (ps_setDc (g := rdG X.K X.mg g) (tt := rdT X.K X.mg tt fun _ _ _ _ => False) (tk := rdE X.K X.mg tk fun _ _ _ _ => False) (tv := rdE X.K X.mg tv fun _ _ _ _ => False) hc hN hy hyl hsw (hi W tks) ok hg (fun s H C cl fp => ht s H C cl fp _ takes00) (fun s H C cl fp => hk s H C cl fp _ takes00) (fun s H C cl fp => he s H C cl fp _ takes00) hs) ?_
  rintro Dn σ H ⟨io, env, F, O, D, I, h, k1, k2, k3, k4, k5⟩
  exact dc_read (W := W) hsl σ H _ ⟨io, env, F, O, _, _, I, h, set_ke k1 i, k5⟩
theorem ds_setDcF (own : List (Str × Nat)) (hc : X.calm = true) (hN : X.N.Nodup) (hi : DI X tg iter it) (ok : BlkOk X.N X.env.scope scope own)
    (hg : ∀ (s : Shared) (H : Hp) (C : Addr) (cl : List (Str × Addr)) (fp : List Addr), DGt (X.blk s H scope (compEnvC scope cl C X.env) fp) tg g)
    (ht : ∀ (s : Shared) (H : Hp) (C : Addr) (cl : List (Str × Addr)) (fp : List Addr), DPTs (X.blk s H scope (compEnvC scope cl C X.env) fp) ifs tt)
    (hk : ∀ (s : Shared) (H : Hp) (C : Addr) (cl : List (Str × Addr)) (fp : List Addr), DE (X.blk s H scope (compEnvC scope cl C X.env) fp) kx tk)
    (he : ∀ (s : Shared) (H : Hp) (C : Addr) (cl : List (Str × Addr)) (fp : List Addr), DE (X.blk s H scope (compEnvC scope cl C X.env) fp) vx tv)
    (hsw : swapsWith (.DictComp kx vx [⟨tg, iter, ifs, 0⟩] scope pos) (some (.Name y py)) spos.line X.env = pure true) (hy : X.N[i]? = some y := by rfl) (hyl : X.env.scope.names.lookup y = some .local := by rfl)
    (hv : own.map (·.2) = vs := by rfl) (hsl : ∀ i ∈ g.slots, i ∈ vs := by decide) (hs : ∀ x, foldedSetIterable iter X.env x = pure x := by intro _; rfl) : DS X (.Assign [.Name y py] (.DictComp kx vx [⟨tg, iter, ifs, 0⟩] scope pos) spos) (sdSet i (eFz (eDc it g tt tk tv vs))) := by
  subst hv
  intro W tks
  refine psI (ps_setDc (g := rdG X.K X.mg g) (tt := rdT X.K X.mg tt fun _ _ _ _ => False) (tk := rdE X.K X.mg tk fun _ _ _ _ => False) (tv := rdE X.K X.mg tv fun _ _ _ _ => False) hc hN hy hyl hsw (hi W tks) ok hg (fun s H C cl fp => ht s H C cl fp _ takes00) (fun s H C cl fp => hk s H C cl fp _ takes00) (fun s H C cl fp => he s H C cl fp _ takes00) hs) ?_
  rintro Dn σ H ⟨io, env, F, O, D, I, h, k1, k2, k3, k4, k5⟩
  exact dc_read (W := W) hsl σ H _ (fz_read σ H _ ⟨io, env, F, O, _, _, I, h, set_ke k1 i, k5⟩)
theorem ds_setLcF (own : List (Str × Nat)) (hc : X.calm = true) (hN : X.N.Nodup) (hi : DI X tg iter it) (ok : BlkOk X.N X.env.scope scope own)
    (hg : ∀ (s : Shared) (H : Hp) (C : Addr) (cl : List (Str × Addr)) (fp : List Addr), DGt (X.blk s H scope (compEnvC scope cl C X.env) fp) tg g)
    (ht : ∀ (s : Shared) (H : Hp) (C : Addr) (cl : List (Str × Addr)) (fp : List Addr), DPTs (X.blk s H scope (compEnvC scope cl C X.env) fp) ifs tt)
    (he : ∀ (s : Shared) (H : Hp) (C : Addr) (cl : List (Str × Addr)) (fp : List Addr), DE (X.blk s H scope (compEnvC scope cl C X.env) fp) elt te)
    (hsw : swapsWith (.ListComp elt [⟨tg, iter, ifs, 0⟩] scope pos) (some (.Name y py)) spos.line X.env = pure true) (hy : X.N[i]? = some y := by rfl) (hyl : X.env.scope.names.lookup y = some .local := by rfl)
    (hv : own.map (·.2) = vs := by rfl) (hsl : ∀ i ∈ g.slots, i ∈ vs := by decide) (hs : ∀ x, foldedSetIterable iter X.env x = pure x := by intro _; rfl) : DS X (.Assign [.Name y py] (.ListComp elt [⟨tg, iter, ifs, 0⟩] scope pos) spos) (sdSet i (eFz (eLc it g tt te vs))) := by
  subst hv
  intro W tk
  refine psI (ps_setLc (g := rdG X.K X.mg g) (tt := rdT X.K X.mg tt fun _ _ _ _ => False) (te := rdE X.K X.mg te fun _ _ _ _ => False) hc hN hy hyl hsw (hi W tk) ok hg (fun s H C cl fp => ht s H C cl fp _ takes00) (fun s H C cl fp => he s H C cl fp _ takes00) hs) ?_
  rintro Dn σ H ⟨io, env, F, O, D, I, h, k1, k2, k3, k4, k5⟩
  exact lc_read (W := W) hsl σ H _ (fz_read σ H _ ⟨io, env, F, O, _, _, I, h, set_ke k1 i, k5⟩)
end
end DL
set_option Elab.async false
set_option linter.all false
set_option maxRecDepth 100000
/-! DM2: the data layer: != of dicts one of which is empty or of another length; small things on dicts. -/
namespace DL
open PySem L2 PySem.Spec PyProof.Rows
variable [Tbs]
def rNeE0 : R2 := fun x y H Q => ∃ (a b : Addr) (ka kb : List (Key × V)), x = .ref a ∧ y = .ref b ∧ Rd H a (.dK ka) ∧ Rd H b (.dK kb) ∧ (ka.length = 0 ∨ ka.length ≠ kb.length) ∧ Q (.bl (!(ka.length == kb.length))) H
theorem op_neE0 {X : Cx} (hu : X.A.units + 64 < cLine) : OpR X (compareOp .NotEq) rNeE0 := by
  intro pins s σ H x y v u Q I rx ry h
  obtain ⟨a, b, ka, kb, rfl, rfl, h1, h2, hl, q⟩ := h
  cases rx
  cases ry
  obtain ⟨z1, lo1, vs1, rel1, dd1⟩ := dk_rd I.hok h1
  obtain ⟨z2, lo2, vs2, rel2, dd2⟩ := dk_rd I.hok h2
  have l1 := rel1.length
  have l2 := rel2.length
  refine PySem.W.keq_ne (r := true) lo1 lo2 dd1 dd2 (by omega) (fun e => ?_) (fin_bl I q (by simp [l1, l2]))
  rcases hl with hl | hl
  · rw [List.length_eq_zero_iff.mp (l1.symm.trans hl)]
    exact .nil
  · exact absurd (l1.trans (e.trans l2.symm)) hl
def rNeE (K : PySem.W.Frag) : R2 := fun x y H Q => rNeA K x y H Q ∨ rNeE0 x y H Q
def odNeE : OT2
  | .dK ka, .dK kb, Q => (ka.length = 0 ∨ ka.length ≠ kb.length) ∧ Q (.bl (!(ka.length == kb.length))) 0
  | x, y, Q => odNe x y Q
section
variable {X : Cx}
theorem op_neE (hu : X.A.units + 64 < cLine) : OpR X (compareOp .NotEq) (rNeE X.K) := (op_neA hu).or (op_neE0 hu)
theorem okNeE : Ok2 X (rNeE X.K) odNeE := by
  intro F H x y v w Q Qh e r1 r2 h k
  have old : odNe x y Q → rNeE X.K v w H Qh := fun h => .inl (okNe F H x y v w Q Qh e r1 r2 h k)
  cases x with
  | dK ka =>
    cases y with
    | dK kb =>
      obtain ⟨a, vs, rfl, g1, g2⟩ := r1
      obtain ⟨b, ws, rfl, t1, t2⟩ := r2
      have l1 : vs.length = ka.length := by have := congrArg List.length (RepK.keys g2).1; simpa using this.symm
      have l2 : ws.length = kb.length := by have := congrArg List.length (RepK.keys t2).1; simpa using this.symm
      exact .inr ⟨a, b, vs, ws, rfl, rfl, rd_mono e g1, rd_mono e t1, by rw [l1, l2]; exact h.1, by rw [l1, l2]; exact k.old (.bl _) _ rfl h.2⟩
    | _ => exact old h
  | _ => exact old h
end
/-! ### dicts made over a list of names -/
theorem look_over {α : Type} (n : α → Int) (g : α → D) {l : List α} {x : α} (hx : x ∈ l) (hd : l.Pairwise fun a b => n a ≠ n b) : lookD (l.map fun y => ((.inl (n y) : Key), g y)) (.inl (n x)) = some (g x) := by
  induction l with
  | nil => cases hx
  | cons y l ih =>
    obtain ⟨h1, h2⟩ := List.pairwise_cons.mp hd
    rw [List.map_cons, lookD_cons]
    rcases List.mem_cons.mp hx with z | z
    · subst z
      rw [if_pos rfl]
    · rw [if_neg (fun w => h1 x z (by injection w)), ih z h2]
theorem look_not {α : Type} (n : α → Int) (g : α → D) (i : Int) : ∀ {l : List α}, (∀ y ∈ l, n y ≠ i) → lookD (l.map fun y => ((.inl (n y) : Key), g y)) (.inl i) = none
  | [], _ => rfl
  | y :: l, h => by
    rw [List.map_cons, lookD_cons, if_neg (fun w => h y List.mem_cons_self (by injection w)), look_not n g i fun z hz => h z (List.mem_cons_of_mem _ hz)]
theorem look_some_over {α : Type} (n : α → Int) (g : α → D) (i : Int) {l : List α} : (lookD (l.map fun y => ((.inl (n y) : Key), g y)) (.inl i)).isSome = l.any fun y => decide (n y = i) := by
  induction l with
  | nil => rfl
  | cons y l ih =>
    rw [List.map_cons, lookD_cons, List.any_cons]
    by_cases h : n y = i
    · rw [h, if_pos rfl, decide_eq_true rfl]; rfl
    · rw [if_neg (fun w => h (by injection w)), ih, decide_eq_false h, Bool.false_or]
/-- a store at a key that stands -/
theorem put_over {α : Type} (n : α → Int) (g : α → D) (i : Int) (v : D) {l : List α} (h : ∃ y ∈ l, n y = i) : putD (l.map fun y => ((.inl (n y) : Key), g y)) (.inl i) v = l.map fun y => ((.inl (n y) : Key), if n y = i then v else g y) := by
  unfold putD
  have ha : ((l.map fun y => ((.inl (n y) : Key), g y)).any fun kv => decide (kv.1 = .inl i)) = true := by
    obtain ⟨y, hy, e⟩ := h
    rw [List.any_eq_true]
    exact ⟨_, List.mem_map.mpr ⟨y, hy, rfl⟩, by rw [e]; exact decide_eq_true rfl⟩
  rw [ha]
  show (l.map fun y => ((.inl (n y) : Key), g y)).map _ = _
  rw [List.map_map]
  refine List.map_congr_left fun y _ => ?_
  by_cases h : n y = i
  · simp [h]
  · have : ¬ (Sum.inl (n y) : Key) = .inl i := fun w => h (by injection w)
    simp [h]
/-- a store at a new key -/
theorem put_new {α : Type} (n : α → Int) (g : α → D) {l : List α} {x : α} (h : ∀ y ∈ l, n y ≠ n x) : putD (l.map fun y => ((.inl (n y) : Key), g y)) (.inl (n x)) (g x) = (l ++ [x]).map fun y => ((.inl (n y) : Key), g y) := by
  unfold putD
  have ha : ((l.map fun y => ((.inl (n y) : Key), g y)).any fun kv => decide (kv.1 = .inl (n x))) = false := by
    rw [List.any_eq_false]
    intro kv hk
    obtain ⟨y, hy, rfl⟩ := List.mem_map.mp hk
    have : ¬ (Sum.inl (n y) : Key) = .inl (n x) := fun w => h y hy (by injection w)
    simp [this]
  rw [ha, List.map_append]
  rfl
/-- a dict comprehension with keys that are all unlike -/
theorem dc_new {α : Type} {g : Tg} {tk tv : ET} {vs : List Nat} {E : DEnv} (inj : α → D) (n : α → Int) (f : α → D) {Q : QE} : ∀ (xs done : List α), xs.length + done.length ≤ 1000 → (done ++ xs).Pairwise (fun a b => n a ≠ n b) →
    (∀ x ∈ xs, ∀ (A : Key → D → DEnv → Prop), A (.inl (n x)) (f x) E →
      bindT g (inj x) E fun env1 => tk env1 (fun k _ env3 => tv env3 (fun v _ env4 => match keyD k with | some key => A key v (wipeD env4 vs) | none => False) noX) noX) →
    Q (.dK ((done ++ xs).map fun y => ((.inl (n y) : Key), f y))) 1 E → dcD g ttYes tk tv vs (xs.map inj) (done.map fun y => ((.inl (n y) : Key), f y)) E Q
  | [], done, _, _, _, k => by
    rw [List.append_nil] at k
    exact k
  | x :: xs, done, hl, hp, hs, k => by
    have hl' : xs.length + done.length + 1 ≤ 1000 := by simp at hl; omega
    have fresh : ∀ y ∈ done, n y ≠ n x := fun y hy => (List.pairwise_append.mp hp).2.2 y hy x List.mem_cons_self
    refine hs x List.mem_cons_self (fun key v e => (done.map fun y => ((.inl (n y) : Key), f y)).length < sizeLine ∧ dcD g ttYes tk tv vs (xs.map inj) (putD (done.map fun y => ((.inl (n y) : Key), f y)) key v) e Q) ⟨ms_lt (by rw [List.length_map]; omega), ?_⟩
    rw [put_new n f fresh]
    refine dc_new inj n f xs (done ++ [x]) (by simp; omega) (by rw [List.append_assoc]; exact hp) (fun y hy => hs y (List.mem_cons_of_mem _ hy)) ?_
    rw [List.append_assoc]
    exact k
theorem look_mem {κ : Type} [DecidableEq κ] (k : κ) : ∀ kvs : List (κ × D), (lookD kvs k).isSome = decide (k ∈ kvs.map (·.1))
  | [] => rfl
  | (k0, d) :: r => by
    rw [lookD_cons, List.map_cons]
    by_cases h : k0 = k
    · rw [if_pos h, h]; simp
    · rw [if_neg h, look_mem k r]
      simp [show ¬ k = k0 from fun z => h z.symm]
theorem enum_get {ds : List D} {i : Nat} {x : D} (h : (enumD ds)[i]? = some x) : i < ds.length ∧ x = .tup [.int (i : Int), ds.getD i .non] := by
  unfold enumD at h
  obtain ⟨j, hj, rfl⟩ := get_map h
  obtain ⟨h1, h2⟩ := List.getElem?_eq_some_iff.mp hj
  rw [List.length_range] at h1
  rw [List.getElem_range] at h2
  subst h2
  exact ⟨h1, rfl⟩
end DL
set_option Elab.async false
set_option linter.all false
set_option maxRecDepth 100000
/-! DN1: the data layer: bits; dicts with tuple keys (len, list, get, pop); list.pop(i), remove, index; in by depth; [::-1]. -/
namespace DL
open PySem L2 PySem.Spec PyProof.Rows
variable [Tbs]
/-! ### bits -/
def odShl : OT2
  | .int i, .int j, Q => CPow i j ∧ Q (.int (i * 2 ^ j.toNat)) 0
  | _, _, _ => False
def odShr : OT2
  | .int i, .int j, Q => 0 ≤ j ∧ Q (.int (i / 2 ^ j.toNat)) 0
  | _, _, _ => False
def odAnd : OT2
  | .int i, .int j, Q => Q (.int (Builtin.bitAnd i j)) 0
  | _, _, _ => False
def odOr : OT2
  | .int i, .int j, Q => Q (.int (Builtin.bitOr i j)) 0
  | _, _, _ => False
section
variable {X : Cx}
theorem okShl : Ok2 X (rI CPow fun i j => .int (i * 2 ^ j.toNat)) odShl := ok_rI fun x y Q h => by
  cases x <;> cases y <;> first | exact (show False from h).elim | skip
  exact ⟨_, _, rfl, rfl, h.1, .int _, rfl, rfl, h.2⟩
theorem okShr : Ok2 X (rI (fun _ j => 0 ≤ j) fun i j => .int (i / 2 ^ j.toNat)) odShr := ok_rI fun x y Q h => by
  cases x <;> cases y <;> first | exact (show False from h).elim | skip
  exact ⟨_, _, rfl, rfl, h.1, .int _, rfl, rfl, h.2⟩
theorem op_andD : OpR X (binaryOp .BitAnd) (rI (fun _ _ => True) fun i j => .int (Builtin.bitAnd i j)) := fun pins s σ H x y v u Q I rx ry ⟨i, j, a, b, _, q⟩ => op_and pins s σ H x y v u Q I rx ry ⟨i, j, a, b, q⟩
theorem op_orD : OpR X (binaryOp .BitOr) (rI (fun _ _ => True) fun i j => .int (Builtin.bitOr i j)) := fun pins s σ H x y v u Q I rx ry ⟨i, j, a, b, _, q⟩ => op_or pins s σ H x y v u Q I rx ry ⟨i, j, a, b, q⟩
theorem okAnd : Ok2 X (rI (fun _ _ => True) fun i j => .int (Builtin.bitAnd i j)) odAnd := ok_rI fun x y Q h => by
  cases x <;> cases y <;> first | exact (show False from h).elim | skip
  exact ⟨_, _, rfl, rfl, trivial, .int _, rfl, rfl, h⟩
theorem okOr : Ok2 X (rI (fun _ _ => True) fun i j => .int (Builtin.bitOr i j)) odOr := ok_rI fun x y Q h => by
  cases x <;> cases y <;> first | exact (show False from h).elim | skip
  exact ⟨_, _, rfl, rfl, trivial, .int _, rfl, rfl, h⟩
variable {a b : Expr} {ta tb : ET} {pa pb : PUT} {pos : Pos}
theorem pu_shl (ha : PU X a pa) (hb : PU X b pb) : PU X (.BinOp a .LShift b pos) (tP2 odShl pa pb) := pu_bin (fun _ _ x y => pe_op op_shl x y) okShl ha hb
theorem pu_shr (ha : PU X a pa) (hb : PU X b pb) : PU X (.BinOp a .RShift b pos) (tP2 odShr pa pb) := pu_bin (fun _ _ x y => pe_op op_shr x y) okShr ha hb
theorem pu_and (ha : PU X a pa) (hb : PU X b pb) : PU X (.BinOp a .BitAnd b pos) (tP2 odAnd pa pb) := pu_bin (fun _ _ x y => pe_op op_andD x y) okAnd ha hb
theorem pu_or (ha : PU X a pa) (hb : PU X b pb) : PU X (.BinOp a .BitOr b pos) (tP2 odOr pa pb) := pu_bin (fun _ _ x y => pe_op op_orD x y) okOr ha hb
theorem de_shl (ha : DE X a ta) (hb : DE X b tb) : DE X (.BinOp a .LShift b pos) (tO2 odShl ta tb) := de_bin (fun _ _ x y => pe_op op_shl x y) okShl ha hb
theorem de_shr (ha : DE X a ta) (hb : DE X b tb) : DE X (.BinOp a .RShift b pos) (tO2 odShr ta tb) := de_bin (fun _ _ x y => pe_op op_shr x y) okShr ha hb
end

/-! ### dicts with tuple keys: len, list -/
def odLenT : OTN
  | [.dT kvs], Q => Q (.int kvs.length) 0
  | xs, Q => odLen xs Q
def rLenTR : List V → Hp → VK → Prop := fun xs H Q => ∃ a kvs, xs = [V.ref a] ∧ Rd H a (.dT kvs) ∧ Q (.int ((kvs.length : Nat) : Int)) H
section
variable {X : Cx}
theorem call_lenTR : CallR X (.builtin "len") rLenTR := by
  intro pins s σ H xs us Q I r h
  obtain ⟨p, kvs, rfl, hp, q⟩ := h
  obtain ⟨u, rfl, rx⟩ := vals1 r
  obtain rfl : u = .ref p := rx
  obtain ⟨z, hd, ys, rel, dd⟩ := dt_rd I.hok hp
  have hl : kvs.length = ys.length := Paired.length rel
  refine call_len_dictH hd dd (by rw [← hl]; rw [sizeLine_eq] at z; omega) ?_
  rw [← hl]
  exact ⟨.int ((kvs.length : Nat) : Int), H, I.tok _, ⟨_, rfl⟩, q⟩
def rLenB (K : PySem.W.Frag) : List V → Hp → VK → Prop := fun xs H Q => rLenA K xs H Q ∨ rLenTR xs H Q
theorem call_lenB : CallR X (.builtin "len") (rLenB X.K) := call_lenA.or call_lenTR
theorem okLenT : OkN X (rLenB X.K) odLenT := by
  intro F H xs vs Q Qh e r h k
  match xs, h, r with
  | [], h, _ => exact (show False from h).elim
  | [x], h, r =>
    cases x with
    | dT ds =>
      obtain ⟨v, _, rfl, r1, rfl⟩ := r
      obtain ⟨a, ws, rfl, g1, g2⟩ := r1
      have el : ws.length = ds.length := by have := congrArg List.length (RepT.keys g2).1; simpa using this.symm
      exact .inr ⟨a, ws, rfl, rd_mono e g1, by rw [el]; exact k.old (.int _) _ rfl h⟩
    | _ => exact .inl (okLen F H _ vs Q Qh e r h k)
  | x :: y :: l, h, r => cases x <;> exact (show False from h).elim
/-- list(d), d a dict with tuple keys -/
def odListT : OTN
  | [.dT kvs], Q => Q (.lst (kvs.map fun kv => .tup (kv.1.map kD))) 1
  | _, _ => False
theorem reps_kd {K : PySem.W.Frag} {mg : MG} {F : Hp} : ∀ ks : List Key, Reps K mg F (ks.map kD) (ks.map kV)
  | [] => rfl
  | .inl i :: r => ⟨_, _, rfl, rfl, reps_kd r⟩
  | .inr i :: r => ⟨_, _, rfl, rfl, reps_kd r⟩
theorem reps_isKeys {K : PySem.W.Frag} {mg : MG} {F H : Hp} {T : AP} (hT : ∀ b, T b → F b = H b) : ∀ {kvs : List (List Key × D)} {vs : List (List Key × V)} {bs : List Addr}, kvs.map (·.1) = vs.map (·.1) → IsKeys H vs bs → (∀ b ∈ bs, T b) →
    Reps K mg F (kvs.map fun kv => D.tup (kv.1.map kD)) (bs.map V.ref)
  | kvs, [], [], hk, _, _ => by
    cases kvs with
    | nil => rfl
    | cons _ _ => simp at hk
  | [], p :: vs, b :: bs, hk, _, _ => by simp at hk
  | kv :: kvs, p :: vs, b :: bs, hk, h, hb => by
    have hk2 : kv.1 = p.1 ∧ kvs.map (·.1) = vs.map (·.1) := by simpa using hk
    cases h with
    | cons h1 h2 =>
      refine ⟨_, _, rfl, ⟨b, _, rfl, (hT b (hb b List.mem_cons_self)).trans h1, ?_⟩, reps_isKeys hT hk2.2 h2 fun c hc => hb c (List.mem_cons_of_mem _ hc)⟩
      rw [hk2.1]
      exact reps_kd p.1
theorem isKeys_tup {H : Hp} : ∀ {vs : List (List Key × V)} {bs : List Addr}, IsKeys H vs bs → ∀ b ∈ bs, ∃ ws, H b = some (.tup ws)
  | [], [], _, b, hb => by cases hb
  | p :: vs, c :: bs, h, b, hb => by
    cases h with
    | cons h1 h2 =>
      rcases List.mem_cons.mp hb with e | hb
      · subst e; exact ⟨_, h1⟩
      · exact isKeys_tup h2 b hb
theorem okListT : OkN X (fun xs H Q => ∃ d kvs, xs = [V.ref d] ∧ Rd H d (.dT kvs) ∧ ∀ p bs, H p = none → IsKeys H kvs bs → Q (.ref p) (upd H p (.lst (bs.map V.ref)))) odListT := by
  intro F H xs vs Q Qh e r h k
  match xs, h, r with
  | [], h, _ => exact (show False from h).elim
  | [x], h, r =>
    obtain ⟨v, _, rfl, r1, rfl⟩ := r
    cases x with
    | dT ds =>
      obtain ⟨a, ws, rfl, g1, g2⟩ := r1
      refine ⟨a, ws, rfl, rd_mono e g1, fun p bs hp hk => ?_⟩
      refine (k.gen (fun b => b ∈ bs) H (Same.refl _) (isKeys_tup hk)).2 _ (.lst (bs.map V.ref)) p hp ?_ h
      exact reps_isKeys (T := fun b => b ∈ bs) (fun b hb => laid_in (P := fun b => b ∈ bs) hb) (RepT.keys g2).1 hk fun b hb => hb
    | _ => exact (show False from h).elim
  | x :: y :: l, h, _ => cases x <;> exact (show False from h).elim
variable {e : Expr} {pe : PUT} {te : ET} {p pos : Pos}
theorem pu_lenT (B : Blt X.mg) (ha : PU X e pe) (hg : Gl X "len" := by rfl) (he : starEach [e] X.env = (false, eval e X.env) :: starEach [] X.env := by rfl) : PU X (.Call (.Name "len" p) [e] [] pos) (tPN odLenT (apCons pe apNil)) :=
  pu_blt call_lenB okLenT B.len boot_len (pua_cons ha pua_nil he) hg (by decide) (by decide) he rfl
theorem pu_listT (hc : X.calm = true) (B : Blt X.mg) (ha : PU X e pe) (hg : Gl X "list" := by rfl) (he : starEach [e] X.env = (false, eval e X.env) :: starEach [] X.env := by rfl) : PU X (.Call (.Name "list" p) [e] [] pos) (tPN odListT (apCons pe apNil)) :=
  pu_ty (call_list_dT hc) okListT B.list boot_list (pua_cons ha pua_nil he) hg (by decide) (by decide) he rfl
end
end DL
set_option Elab.async false
set_option linter.all false
set_option maxRecDepth 100000
/-! DN2: the data layer: d.get(k, x), d.pop(k), l.pop(i), l.remove(x), in and index by depth, [::-1]. -/
namespace DL
open PySem L2 PySem.Spec PyProof.Rows
variable [Tbs]
/-! ### d.get(k, x) -/
def getDD : D → D → D → (D → Prop) → Prop
  | .dK kvs, y, z, Q => match keyD y with | some k => Q ((lookD kvs k).getD z) | none => False
  | .dT kvs, .tup ks, z, Q => match keysD ks with | some k => Q ((lookD kvs k).getD z) | none => False
  | _, _, _, _ => False
def isDct : D → Prop → Prop
  | .dK _, p => p
  | .dT _, p => p
  | _, _ => False
def pGet2 (td ty tz : PUT) : PUT := fun env Q => td env fun d => isDct d (ty env fun y => tz env fun z => getDD d y z Q)
section
variable {X : Cx} {o e f : Expr} {td ty tz : PUT} {apos cpos : Pos}
theorem pu_get2 (hu : X.A.units + 1 < cLine) (ho : PU X o td) (he : PU X e ty) (hf : PU X f tz) (hbase : attributeBase o "get" X.env (eval o X.env) = eval o X.env := by rfl)
    (hfew : ((backTo cpos (starEach [e, f] X.env)).all (fun x => !x.1) && (backToKw cpos (keywordEach [] X.env)).all (fun x => x.1.isSome)
    && decide (([e, f] : List Expr).length + ([] : List Keyword).length + (if ([] : List Keyword).isEmpty then 0 else 1) < 30)) = true := by rfl) (hline : (apos.endLine == cpos.line) = true := by rfl)
    (ht : backTo cpos (starEach [e, f] X.env) = [(false, eval e X.env), (false, eval f X.env)] := by rfl) : PU X (.Call (.Attribute o "get" apos) [e, f] [] cpos) (pGet2 td ty tz) := by
  refine peI (pe_dget2 hu ho he hf ⟨hbase, hfew, hline, ht⟩) ?_
  rintro σ H Qh ⟨io, env, F, O, Q, I, h, kQ⟩
  refine ⟨io, env, F, O, _, I, h, fun d v H1 e1 r1 h1 => ?_⟩
  cases d <;> first | exact (show False from h1).elim | skip
  · rename_i kvs
    obtain ⟨a, vs, rfl, g1, g2⟩ := r1
    refine ⟨a, rfl, .inl ⟨_, g1⟩, io, env, F, O, _, I.ext e1, h1, fun y w H2 e2 r2 h2 => ⟨io, env, F, O, _, (I.ext e1).ext e2, h2, fun z u H3 e3 r3 h3 => ?_⟩⟩
    have h3 : (match keyD y with | some k => Q ((lookD kvs k).getD z) | none => False) := by cases y <;> exact h3
    cases ek : keyD y with
    | none => rw [ek] at h3; exact h3.elim
    | some k =>
      rw [ek] at h3
      have ew := keyD_v ek r2
      have l := RepK.look k (RepK.mono (e2.trans e3) g2)
      refine ⟨_, .inl ⟨vs, k, rd_mono (e2.trans e3) g1, ew, rfl⟩, ?_⟩
      refine kQ _ _ H3 ((e1.trans e2).trans e3) ?_ h3
      cases el : lookD kvs k with
      | none => rw [el] at l; rw [l]; exact r3
      | some d =>
        rw [el] at l
        obtain ⟨v, hv, rv⟩ := l
        rw [hv]
        exact rv
  · rename_i kvs
    obtain ⟨a, vs, rfl, g1, g2⟩ := r1
    refine ⟨a, rfl, .inr ⟨_, g1⟩, io, env, F, O, _, I.ext e1, h1, fun y w H2 e2 r2 h2 => ⟨io, env, F, O, _, (I.ext e1).ext e2, h2, fun z u H3 e3 r3 h3 => ?_⟩⟩
    cases y <;> first | exact (show False from h3).elim | skip
    rename_i ks
    obtain ⟨b, ws, rfl, q1, q2⟩ := r2
    have h3 : (match keysD ks with | some k => Q ((lookD kvs k).getD z) | none => False) := h3
    cases ek : keysD ks with
    | none => rw [ek] at h3; exact h3.elim
    | some k =>
      rw [ek] at h3
      have ew := keysD_v ek q2
      subst ew
      have l := RepT.look k (RepT.mono (e2.trans e3) g2)
      refine ⟨_, .inr ⟨vs, k, b, rd_mono (e2.trans e3) g1, rfl, e3 _ _ q1, rfl⟩, ?_⟩
      refine kQ _ _ H3 ((e1.trans e2).trans e3) ?_ h3
      cases el : lookD kvs k with
      | none => rw [el] at l; rw [l]; exact r3
      | some d =>
        rw [el] at l
        obtain ⟨v, hv, rv⟩ := l
        rw [hv]
        exact rv
end
/-! ### d.pop(k) -/
theorem meetsPop1 {prog : Program} {w : World} {κ : Type} [DecidableEq κ] {knd : HeapKind prog w κ} {d b : Addr} {k : κ} (hd : (d == sysModules) = false) :
    MeetsIn prog w (Builtin.«dict.pop» ⟨[.ref d, .ref b], []⟩) (fun A R s => ∃ xs p, knd.room A.in1 ∧ knd.is s.heap k b ∧ s.heap.DictOfH knd d xs ∧ xs.length ≤ sizeLine ∧ atKey xs k = some p ∧
      ∀ h' tk, h'.DictOfH knd d (DT.dropH xs k) → Heap.SameBut d s.heap h' → R (.ok (.ret p.2)) { s with heap := h', toks := tk }) :=
  .of_wp fun A R s ⟨xs, p, hu, hkey, hm, hsz, hp0, hsome⟩ => by
    obtain ⟨o, es, ep, ho, hc, hdat, he, his, hn⟩ := id hm
    have hes : es.size = xs.length := size_of_entries he
    have hpart : (keyPart (Value.ref b)).isSome = false := rfl
    unfold Builtin.«dict.pop»
    refine wpAny_bind ?_
    unfold Builtin.Dict.keyAndDefault
    refine wpAny_bind (wpAny_notOrdered_dict hm.typeIs ?_)
    show wpAny _ _ (pure (d, Value.ref b, none)) _ _ s
    refine wpAny_pure ?_
    simp only [hpart, Bool.false_eq_true, if_false]
    refine wpAny_bind (wpAny_dictEntries ho hdat (wpAny_bind (wpAny_pure ?_)))
    cases hem : es.isEmpty with
    | true =>
      have h0 : xs = [] := by
        have z : es.size = 0 := by simpa using hem
        exact List.length_eq_zero_iff.mp (by omega)
      rw [h0] at hp0
      cases hp0
    | false =>
      simp only [Bool.false_eq_true, if_false]
      refine wpAny_bind (DT.takeH hu hkey hm hsz (fun hno => ?_) fun p' e hp hev h' hm' hs' => ?_)
      · rw [hno] at hp0; cases hp0
      · rw [hp0] at hp
        cases hp
        simp only [Option.isNone_some, Bool.false_eq_true, if_false]
        exact wpAny_bind (wpAny_letGo (wpAny_pure ⟨e.val, rfl, by rw [hev]; exact hsome h' _ hm' hs'⟩))
def rPopT1 : V → List V → Hp → VK → Prop := fun x xs H Q => ∃ (a : Addr) (kvs : List (List L2.Key × V)) (k : List L2.Key) (b : Addr) (v : V), x = .ref a ∧ xs = [.ref b] ∧ H a = some (.dT kvs) ∧ H b = some (.tup (k.map kV)) ∧
  valV kvs k = some v ∧ Q v (upd H a (.dT (dropK kvs k)))
theorem mt_popT1 {X : Cx} (hu : X.A.units + 1 < cLine) : MtR X "dict.pop" rPopT1 := by
  intro pins s σ H x xs v us Q I rx rxs h
  obtain ⟨a, kvs, k, b, v0, rfl, rfl, ha, hb, hv, q1⟩ := h
  cases rx
  obtain ⟨u1, rfl, r1⟩ := vals1 rxs
  cases r1
  obtain ⟨z, hd, xs', rel, dd⟩ := dt_of I.hok ha
  have hz : xs'.length ≤ sizeLine := by rw [← Paired.length rel]; exact z
  have r := rel.val k
  rw [hv] at r
  obtain ⟨p, hp, rv⟩ : ∃ p, atKey xs' k = some p ∧ RelV v0 p.2 := by
    cases ep : atKey xs' k with
    | none => rw [ep] at r; exact (show False from r).elim
    | some p => rw [ep] at r; exact ⟨p, rfl, r⟩
  refine call_meetsIn PySem.F.slot_dict_pop dd.typeIs PySem.F.entry_dict_pop (PySem.F.args_dict_pop_2 _ _) (meetsPop1 (knd := tupleKind (mixKind X.prog X.w)) (k := k) hd)
    ⟨xs', p, tupleKind_room_in1 hu, key_of I.hok hb, dd, hz, hp, fun h' tk dd' hs => ?_⟩
  obtain ⟨o, es, ep, hq, h2, h3, h4, _, h5⟩ := dd'
  have I2 : Inv X pins σ (upd H a (.dT (dropK kvs k))) { s with heap := h', toks := tk } :=
    d_write I (by rw [ha]; exact True.intro) hs ⟨o, hq⟩ ⟨Nat.le_trans (dropK_le kvs k) z, hd, _, (DX.KT_drop k rel).keeps (fun c ys ec => (by rw [upd_ne (ne_of ec ha (fun z => nomatch z))]; exact ec)), o, es, ep, hq, h2, h3, h4, h5⟩
  show EP X pins σ Q p.2 _
  exact ⟨v0, _, I2, rv, q1⟩
/-! ### l.remove(x) by depth -/
def rRemD (K : PySem.W.Frag) : V → List V → Hp → VK → Prop := fun x xs H Q => ∃ (a : Addr) (vs : List V) (y : V) (d : PyData) (ds : List PyData) (j : Nat) (z : PyData), x = V.ref a ∧ xs = [y] ∧ H a = some (.lst vs) ∧ DpAll K H vs ds ∧ Dp K H y d ∧
  SeqAt.shaped (.list ds) = true ∧ SeqAt.shaped d = true ∧ ds[j]? = some z ∧ PyData.eqv z d = true ∧ (∀ (m : Nat) (z' : PyData), m < j → ds[m]? = some z' → PyData.eqv z' d = false) ∧ Q .non (upd H a (.lst (vs.eraseIdx j)))
theorem mt_removeD {X : Cx} (hu : X.A.units + 65 < cLine) : MtR X "list.remove" (rRemD X.K) := by
  intro pins s σ H x xs v us Q I rx rxs h
  obtain ⟨a, vs, y, d, ds, j, z, rfl, rfl, hH, ha, hy, sl, sd, hz, hzj, hno, q⟩ := h
  cases rx
  obtain ⟨uy, rfl, ry⟩ := vals1 rxs
  obtain ⟨bs, r1⟩ := Dp.reads I d y uy hy ry
  have hxs : PyData.canLayAll0 ds = true := SeqAt.canLay_of_shaped sl
  have hroom : X.A.units + 1 + min (PyData.depthAll ds) d.depth < cLine := room_in_shaped sd hu
  obtain ⟨hlen, its, n, rv, hl, ho⟩ := I.lstM hH
  obtain ⟨as, h4⟩ := Dp.readsAll I ds _ its ha rv
  have hn : its.length = ds.length := SeqAt.ReadsAll.length ds its as h4
  have hmap : its.map (SeqAt.readOf s.heap) = ds := SeqAt.readsAll_map ds its as hxs h4
  have hsl := sizeLine_eq
  obtain ⟨hjd, _⟩ := List.getElem?_eq_some_iff.mp hz
  have hjl : j < its.length := by omega
  have hj : j < its.toArray.size := by simpa using hjl
  have at_ : ∀ (m : Nat) (hm : m < its.toArray.size) (z' : PyData), ds[m]? = some z' → SeqAt.readOf s.heap its.toArray[m] = z' := by
    intro m hm z' hz'
    have hml : m < its.length := by simpa using hm
    rw [← hmap, List.getElem?_map, List.getElem?_eq_getElem hml] at hz'
    have e1 : SeqAt.readOf s.heap its[m] = z' := Option.some.inj (show some (SeqAt.readOf s.heap its[m]) = some z' from hz')
    simpa using e1
  refine call_meets PySem.F.slot_list_remove ⟨_, ho, rfl⟩ PySem.F.entry_list_remove (PySem.F.args_list_remove_2 _ _)
    (SeqAt.list_removeAt a its.toArray n none #[] uy (fun u => PyData.eqv (SeqAt.readOf s.heap u) d) j hj ?_ ?_ (by rw [List.size_toArray]; omega)) ⟨ho, SeqAt.items_eqAt (vs := its.toArray) (show ReadsAll s.heap its.toArray.toList ds as from h4) r1 hxs (SeqAt.canLay_of_shaped sd) hroom, ?_⟩
  · show PyData.eqv (SeqAt.readOf s.heap its.toArray[j]) d = true
    rw [at_ j hj z hz]
    exact hzj
  · intro m hm hmj
    have hmd : m < ds.length := by omega
    have hz' : ds[m]? = some ds[m] := List.getElem?_eq_getElem hmd
    show PyData.eqv (SeqAt.readOf s.heap its.toArray[m]) d = false
    rw [at_ m hm _ hz']
    exact hno m _ hmj hz'
  · refine ⟨.non, _, I.lset (its' := its.eraseIdx j) hH ho ?_ (rv.eraseIdx j) ?_, rfl, q⟩
    · show its.toArray.eraseIdxIfInBounds j = (its.eraseIdx j).toArray
      rw [List.eraseIdxIfInBounds_toArray]
    · have := len_erase vs j
      omega
end DL
set_option Elab.async false
set_option linter.all false
set_option maxRecDepth 100000
/-! DN3: the data layer: statements x.m(e) that turn a local's own container; in and index by depth; [::-1]; a local's slice. -/
namespace DL
open PySem L2 PySem.Spec PyProof.Rows
variable [Tbs]
/-! ### x.m(e) turns x -/
abbrev OTU := D → D → (D → Prop) → Prop
def isC (T : String) : D → Bool
  | .lst _ => T == "list"
  | .dK _ => T == "dict"
  | .dT _ => T == "dict"
  | _ => false
def sdMut (T : String) (od : OTU) (i : Nat) (te : PUT) : SD := fun env D => match gt env i with
  | some b => whenB (isC T b.d) (whenB (Nat.beq b.n 1) (te env fun x => od b.d x fun d' => D.nx (env.set i (some { b with d := d' }))))
  | none => False
theorem whenB_of {b : Bool} {p : Prop} (h : whenB b p) : b = true ∧ p := by cases b with | true => exact ⟨rfl, h⟩ | false => exact h.elim
/-- what the method does to an owned container -/
def OkU (X : Cx) (r : V → List V → Hp → VK → Prop) (od : OTU) : Prop := ∀ (F H : Hp) (P : AP) (d x : D) (v w : V) (k : D → Prop) (Qh : VK), Same F H → RepO X.K X.mg F H 1 P d v → Rep X.K X.mg H x w → od d x k →
  (∀ p o d' u, P p → isTp o = false → RepO X.K X.mg F (upd H p o) 1 P d' v → k d' → Qh u (upd H p o)) → r v [w] H Qh
section
variable {X : Cx} {e : Expr} {te : PUT} {apos cpos pos : Pos} {T id : String} {m : Str} {r : V → List V → Hp → VK → Prop} {od : OTU}
theorem ds_mut (pa : PlainAttrs T) (slot : Slot T m id) (hty : typeOf (.builtin id) = pure (.type "method_descriptor")) (hm : MtR X id r) (ok : OkU X r od)
    (i : Nat) {x : Str} {pos' : Pos} (he : PU X e te) (hN : X.N[i]? = some x := by rfl) (hv : Vis X.env.scope x := by first | exact Or.inl rfl | exact Or.inr (Or.inl rfl) | exact Or.inr (Or.inr rfl)) (hd : (x == ("__debug__" : Str)) = false := by decide)
    (hcd : (x == ("__classdict__" : Str)) = false := by decide) (hbase : attributeBase (.Name x pos') m X.env (eval (.Name x pos') X.env) = eval (.Name x pos') X.env := by rfl)
    (hfew : ((backTo cpos (starEach [e] X.env)).all (fun x => !x.1) && (backToKw cpos (keywordEach [] X.env)).all (fun x => x.1.isSome)
      && decide (([e] : List Expr).length + ([] : List Keyword).length + (if ([] : List Keyword).isEmpty then 0 else 1) < 30)) = true := by rfl)
    (hline : (apos.endLine == cpos.line) = true := by rfl) (hs : starEach (e :: []) X.env = (false, eval e X.env) :: starEach [] X.env := by rfl) (hplain : (backTo cpos (starEach [] X.env)).any (·.1) = false := by rfl)
    (hsw : swapsWith (.Call (.Attribute (.Name x pos') m apos) [e] [] cpos) none pos.line X.env = pure false := by rfl) : DS X (.Expr (.Call (.Attribute (.Name x pos') m apos) [e] [] cpos) pos) (sdMut T od i te) := by
  intro W tk
  refine psI (ps_expr (pe_bm pa slot hty hm (pe_var hN hv hd hcd) (pa_cons he pa_nil hs) hbase hfew hline hs hplain) hsw) ?_
  rintro Dn σ H ⟨io, env, F, O, D, I, h, k1, k2, k3, k4, k5⟩
  unfold sdMut at h
  cases e0 : gt env i with
  | none => rw [e0] at h; exact h.elim
  | some b =>
    rw [e0] at h
    obtain ⟨hC, h⟩ := whenB_of h
    obtain ⟨h1, h⟩ := whenB_of h
    have hn := Nat.eq_of_beq_eq_true h1
    obtain ⟨v, s1, s2, s3⟩ := I.slot i b (gt_some e0)
    rw [hn] at s2
    have ty : tyV X.K T v H := by
      obtain ⟨bd, bn, bio⟩ := b
      cases bd <;> first | exact (Bool.false_ne_true hC).elim | skip
      · obtain ⟨a, vs, rfl, q, _⟩ := ro_lst s2
        exact .inl ⟨eq_of_beq hC, vs, .inl (.inl q)⟩
      · obtain ⟨a, vs, rfl, q, _⟩ := ro_dK s2
        exact .inr (.inr (.inl ⟨eq_of_beq hC, .inl ⟨vs, q⟩⟩))
      · obtain ⟨a, vs, rfl, q, _⟩ := ro_dT s2
        exact .inr (.inr (.inl ⟨eq_of_beq hC, .inr ⟨vs, q⟩⟩))
    refine ⟨v, s1, ty, io, env, F, O, _, I, h, fun x w H1 e1 r1 q => ?_⟩
    have A1 := (At.start I).ext e1
    obtain ⟨v', u, P1, t1, t2, t3, t4⟩ := A1.store (p := []) (gt_some e0) hn rfl
    have ev : v' = v := by rw [s1] at t1; exact (Option.some.inj (Option.some.inj t1)).symm
    subst ev
    obtain rfl : u = v' := t2
    exact ok F H1 P1 b.d x _ w _ _ A1.si.sub t3 r1 q fun p o d' u hp nt ro hk => k1 _ _ _ _ _ (t4 p o d' hp nt ro) hk
end
/-! ### d.pop(k), l.pop(i), l.remove(x) -/
def dropD {κ : Type} [DecidableEq κ] (kvs : List (κ × D)) (k : κ) : List (κ × D) := kvs.filter fun kv => decide (kv.1 ≠ k)
def odPopD : OTU
  | .dT kvs, .tup ks, k => match keysD ks with | some key => (lookD kvs key).isSome = true ∧ k (.dT (dropD kvs key)) | none => False
  | _, _, _ => False
def odPopL : OTU
  | .lst ds, .int i, k => (-(2 ^ 63) ≤ i ∧ i < 2 ^ 63) ∧ match seqIndex? i ds.length with | some j => j < ds.length ∧ k (.lst (ds.eraseIdx j)) | none => False
  | _, _, _ => False
def odRem : OTU
  | .lst ds, x, k => ∃ (j : Nat) (z : PyData), (D.pys ds)[j]? = some z ∧ PyData.eqv z x.py = true ∧ (∀ (m : Nat) (z' : PyData), m < j → (D.pys ds)[m]? = some z' → PyData.eqv z' x.py = false) ∧
    SeqAt.shaped (D.lst ds).py = true ∧ SeqAt.shaped x.py = true ∧ k (.lst (ds.eraseIdx j))
  | _, _, _ => False
section
variable {K : PySem.W.Frag} {mg : MG} {F : Hp}
theorem RepT.drop : ∀ {kvs : List (List Key × D)} {vs : List (List Key × V)} (k : List Key), RepT K mg F kvs vs → RepT K mg F (dropD kvs k) (dropK vs k)
  | [], _, _, h => by cases (show _ = ([] : List (List Key × V)) from h); rfl
  | (k0, d) :: r, _, k, ⟨v, t, h1, h2, h3⟩ => by
    subst h1
    have ih := RepT.drop k h3
    by_cases e : k0 = k
    · have z1 : dropD ((k0, d) :: r) k = dropD r k := List.filter_cons_of_neg (by simp [e])
      have z2 : dropK ((k0, v) :: t) k = dropK t k := List.filter_cons_of_neg (by simp [e])
      rw [z1, z2]; exact ih
    · have z1 : dropD ((k0, d) :: r) k = (k0, d) :: dropD r k := List.filter_cons_of_pos (by simp [e])
      have z2 : dropK ((k0, v) :: t) k = (k0, v) :: dropK t k := List.filter_cons_of_pos (by simp [e])
      rw [z1, z2]; exact ⟨v, _, rfl, h2, ih⟩
theorem Reps.erase : ∀ {ds : List D} {vs : List V} (j : Nat), Reps K mg F ds vs → Reps K mg F (ds.eraseIdx j) (vs.eraseIdx j)
  | [], _, j, h => by cases (show _ = ([] : List V) from h); simp [Reps]
  | _ :: _, _, 0, ⟨v, r, h1, h2, h3⟩ => by subst h1; exact h3
  | _ :: _, _, j + 1, ⟨v, r, h1, h2, h3⟩ => by subst h1; exact ⟨v, _, rfl, h2, Reps.erase j h3⟩
end
section
variable {X : Cx}
theorem okPopD : OkU X rPopT1 odPopD := by
  intro F H P d x v w k Qh e r rx h kk
  cases d <;> first | exact (show False from h).elim | skip
  cases x <;> first | exact (show False from h).elim | skip
  rename_i kvs ks
  obtain ⟨a, vs, rfl, g1, gp, g2⟩ := ro_dT r
  obtain ⟨b, ws, rfl, q1, q2⟩ := rx
  have h : (match keysD ks with | some key => (lookD kvs key).isSome = true ∧ k (.dT (dropD kvs key)) | none => False) := h
  cases ek : keysD ks with
  | none => rw [ek] at h; exact h.elim
  | some key =>
    rw [ek] at h
    have ew := keysD_v ek q2
    subst ew
    have l := RepT.look key g2
    cases el : lookD kvs key with
    | none => have h1 : (lookD kvs key).isSome = true := h.1; rw [el] at h1; cases h1
    | some d0 =>
      rw [el] at l
      obtain ⟨u, hu, ru⟩ := l
      exact ⟨a, vs, key, b, u, rfl, rfl, g1, q1, hu, kk a _ _ u gp rfl (ro_dT_mk upd_same gp (RepT.drop key g2)) h.2⟩
theorem okPopL : OkU X rPopAt odPopL := by
  intro F H P d x v w k Qh e r rx h kk
  cases d <;> first | exact (show False from h).elim | skip
  cases x <;> first | exact (show False from h).elim | skip
  rename_i ds i
  obtain ⟨a, vs, rfl, g1, gp, g2⟩ := ro_lst r
  cases (show w = _ from rx)
  have h : (-(2 ^ 63) ≤ i ∧ i < 2 ^ 63) ∧ (match seqIndex? i ds.length with | some j => j < ds.length ∧ k (.lst (ds.eraseIdx j)) | none => False) := h
  obtain ⟨⟨b1, b2⟩, h⟩ := h
  have hl := g2.length
  cases ej : seqIndex? i ds.length with
  | none => rw [ej] at h; exact h.elim
  | some j =>
    rw [ej] at h
    have hj : j < vs.length := by rw [hl]; exact h.1
    exact ⟨a, vs, i, j, vs[j], rfl, rfl, g1, b1, b2, by rw [hl]; exact ej, List.getElem?_eq_getElem hj, kk a _ _ _ gp rfl (ro_lst_mk upd_same gp (Reps.erase j g2)) h.2⟩
theorem okRem : OkU X (rRemD X.K) odRem := by
  intro F H P d x v w k Qh e r rx h kk
  cases d <;> first | exact (show False from h).elim | skip
  rename_i ds
  obtain ⟨a, vs, rfl, g1, gp, g2⟩ := ro_lst r
  obtain ⟨j, z, h1, h2, h3, h4, h5, h6⟩ := h
  have sl : SeqAt.shaped (.list (D.pys ds)) = true := by rw [D.py] at h4; exact h4
  exact ⟨a, vs, w, x.py, D.pys ds, j, z, rfl, rfl, g1, dps_of (Reps.mono e g2) (SeqAt.canLay_of_shaped sl), dp_of rx (SeqAt.canLay_of_shaped h5), sl, h5, h1, h2, h3, kk a _ _ _ gp rfl (ro_lst_mk upd_same gp (Reps.erase j g2)) h6⟩
end
section
variable {X : Cx} {e : Expr} {te : PUT} {apos cpos pos : Pos}
theorem ds_popD (i : Nat) {x : Str} {pos' : Pos} (hu : X.A.units + 1 < cLine) (he : PU X e te) (hN : X.N[i]? = some x := by rfl) (hv : Vis X.env.scope x := by first | exact Or.inl rfl | exact Or.inr (Or.inl rfl) | exact Or.inr (Or.inr rfl)) (hd : (x == ("__debug__" : Str)) = false := by decide)
    (hcd : (x == ("__classdict__" : Str)) = false := by decide) (hbase : attributeBase (.Name x pos') "pop" X.env (eval (.Name x pos') X.env) = eval (.Name x pos') X.env := by rfl)
    (hfew : ((backTo cpos (starEach [e] X.env)).all (fun x => !x.1) && (backToKw cpos (keywordEach [] X.env)).all (fun x => x.1.isSome)
      && decide (([e] : List Expr).length + ([] : List Keyword).length + (if ([] : List Keyword).isEmpty then 0 else 1) < 30)) = true := by rfl)
    (hline : (apos.endLine == cpos.line) = true := by rfl) (hs : starEach (e :: []) X.env = (false, eval e X.env) :: starEach [] X.env := by rfl) (hplain : (backTo cpos (starEach [] X.env)).any (·.1) = false := by rfl)
    (hsw : swapsWith (.Call (.Attribute (.Name x pos') "pop" apos) [e] [] cpos) none pos.line X.env = pure false := by rfl) : DS X (.Expr (.Call (.Attribute (.Name x pos') "pop" apos) [e] [] cpos) pos) (sdMut "dict" odPopD i te) :=
  ds_mut PySem.F.plainAttrs_dict PySem.F.slot_dict_pop PySem.F.type_dict_pop (mt_popT1 hu) okPopD i he hN hv hd hcd hbase hfew hline hs hplain hsw
theorem ds_popL (i : Nat) {x : Str} {pos' : Pos} (he : PU X e te) (hN : X.N[i]? = some x := by rfl) (hv : Vis X.env.scope x := by first | exact Or.inl rfl | exact Or.inr (Or.inl rfl) | exact Or.inr (Or.inr rfl)) (hd : (x == ("__debug__" : Str)) = false := by decide)
    (hcd : (x == ("__classdict__" : Str)) = false := by decide) (hbase : attributeBase (.Name x pos') "pop" X.env (eval (.Name x pos') X.env) = eval (.Name x pos') X.env := by rfl)
    (hfew : ((backTo cpos (starEach [e] X.env)).all (fun x => !x.1) && (backToKw cpos (keywordEach [] X.env)).all (fun x => x.1.isSome)
      && decide (([e] : List Expr).length + ([] : List Keyword).length + (if ([] : List Keyword).isEmpty then 0 else 1) < 30)) = true := by rfl)
    (hline : (apos.endLine == cpos.line) = true := by rfl) (hs : starEach (e :: []) X.env = (false, eval e X.env) :: starEach [] X.env := by rfl) (hplain : (backTo cpos (starEach [] X.env)).any (·.1) = false := by rfl)
    (hsw : swapsWith (.Call (.Attribute (.Name x pos') "pop" apos) [e] [] cpos) none pos.line X.env = pure false := by rfl) : DS X (.Expr (.Call (.Attribute (.Name x pos') "pop" apos) [e] [] cpos) pos) (sdMut "list" odPopL i te) :=
  ds_mut PySem.F.plainAttrs_list PySem.F.slot_list_pop PySem.F.type_list_pop mt_popAt okPopL i he hN hv hd hcd hbase hfew hline hs hplain hsw
theorem ds_remove (i : Nat) {x : Str} {pos' : Pos} (hu : X.A.units + 65 < cLine) (he : PU X e te) (hN : X.N[i]? = some x := by rfl) (hv : Vis X.env.scope x := by first | exact Or.inl rfl | exact Or.inr (Or.inl rfl) | exact Or.inr (Or.inr rfl)) (hd : (x == ("__debug__" : Str)) = false := by decide)
    (hcd : (x == ("__classdict__" : Str)) = false := by decide) (hbase : attributeBase (.Name x pos') "remove" X.env (eval (.Name x pos') X.env) = eval (.Name x pos') X.env := by rfl)
    (hfew : ((backTo cpos (starEach [e] X.env)).all (fun x => !x.1) && (backToKw cpos (keywordEach [] X.env)).all (fun x => x.1.isSome)
      && decide (([e] : List Expr).length + ([] : List Keyword).length + (if ([] : List Keyword).isEmpty then 0 else 1) < 30)) = true := by rfl)
    (hline : (apos.endLine == cpos.line) = true := by rfl) (hs : starEach (e :: []) X.env = (false, eval e X.env) :: starEach [] X.env := by rfl) (hplain : (backTo cpos (starEach [] X.env)).any (·.1) = false := by rfl)
    (hsw : swapsWith (.Call (.Attribute (.Name x pos') "remove" apos) [e] [] cpos) none pos.line X.env = pure false := by rfl) : DS X (.Expr (.Call (.Attribute (.Name x pos') "remove" apos) [e] [] cpos) pos) (sdMut "list" odRem i te) :=
  ds_mut PySem.F.plainAttrs_list PySem.F.slot_list_remove PySem.F.type_list_remove (mt_removeD hu) okRem i he hN hv hd hcd hbase hfew hline hs hplain hsw
end
end DL
set_option Elab.async false
set_option linter.all false
set_option maxRecDepth 100000
/-! DN4: the data layer: in and index by depth; [::-1]; a local's slice; a call whose first argument is a new list. -/
namespace DL
open PySem L2 PySem.Spec PyProof.Rows
variable [Tbs]
theorem hu65_of {k : Nat} {A : Around} (r : Room k A) : A.units + 65 < cLine := by have := r.un; omega
/-! ### x in ds, by depth -/
def inDp (f : Bool → Bool) : OT2
  | x, .lst ds, Q => SeqAt.shaped x.py = true ∧ SeqAt.shaped (D.lst ds).py = true ∧ Q (.bl (f ((D.pys ds).any fun z => PyData.eqv z x.py))) 0
  | _, _, _ => False
abbrev odInD : OT2 := inDp fun b => b
abbrev odNotInD : OT2 := inDp fun b => !b
section
variable {X : Cx}
theorem okInD : Ok2 X (rInD X.K) odInD := by
  intro F H x y v w Q Qh e r1 r2 h k
  cases y <;> first | exact (show False from h).elim | skip
  obtain ⟨h1, h2, q⟩ := h
  exact ⟨x.py, D.pys _, dp_of (r1.mono e) (SeqAt.canLay_of_shaped h1), by have := dp_of (r2.mono e) (SeqAt.canLay_of_shaped h2); rw [D.py] at this; exact this, h1, by rw [D.py] at h2; exact h2, k.old (.bl _) _ rfl q⟩
theorem okNotInD : Ok2 X (rNotInD X.K) odNotInD := by
  intro F H x y v w Q Qh e r1 r2 h k
  cases y <;> first | exact (show False from h).elim | skip
  obtain ⟨h1, h2, q⟩ := h
  exact ⟨x.py, D.pys _, dp_of (r1.mono e) (SeqAt.canLay_of_shaped h1), by have := dp_of (r2.mono e) (SeqAt.canLay_of_shaped h2); rw [D.py] at this; exact this, h1, by rw [D.py] at h2; exact h2, k.old (.bl _) _ rfl q⟩
end
/-! ### ds.index(x), by depth -/
def indexD (d x : D) (Q : D → Prop) : Prop := match d with
  | .lst ds => ∃ (j : Nat) (z : PyData), (D.pys ds)[j]? = some z ∧ PyData.eqv z x.py = true ∧ (∀ (m : Nat) (z' : PyData), m < j → (D.pys ds)[m]? = some z' → PyData.eqv z' x.py = false) ∧
    SeqAt.shaped (D.lst ds).py = true ∧ SeqAt.shaped x.py = true ∧ Q (.int (j : Nat))
  | _ => False
def isLs : D → Prop → Prop
  | .lst _, p => p
  | _, _ => False
def pIndex (to te : PUT) : PUT := fun env Q => to env fun d => isLs d (te env fun x => indexD d x Q)
section
variable {X : Cx} {o e : Expr} {to te : PUT} {apos cpos pos : Pos}
theorem pu_index (hu : X.A.units + 65 < cLine) (ho : PU X o to) (he : PU X e te) (hbase : attributeBase o "index" X.env (eval o X.env) = eval o X.env := by rfl)
    (hfew : ((backTo cpos (starEach (e :: []) X.env)).all (fun x => !x.1) && (backToKw cpos (keywordEach [] X.env)).all (fun x => x.1.isSome)
      && decide ((e :: []).length + ([] : List Keyword).length + (if ([] : List Keyword).isEmpty then 0 else 1) < 30)) = true := by rfl)
    (hline : (apos.endLine == cpos.line) = true := by rfl) (hs : starEach (e :: []) X.env = (false, eval e X.env) :: starEach [] X.env := by rfl) (hplain : (backTo cpos (starEach [] X.env)).any (·.1) = false := by rfl) :
    PU X (.Call (.Attribute o "index" apos) [e] [] cpos) (pIndex to te) := by
  refine peI (pe_bm PySem.F.plainAttrs_list PySem.F.slot_list_index PySem.F.type_list_index (mt_indexD hu) ho (pa_cons he pa_nil hs) hbase hfew hline hs hplain) ?_
  rintro σ H Qh ⟨io, env, F, O, Q, I, h, kQ⟩
  refine ⟨io, env, F, O, _, I, h, fun d v H1 e1 r1 h1 => ?_⟩
  cases d <;> first | exact (show False from h1).elim | skip
  rename_i ds
  obtain ⟨a, vs, rfl, g1, g2⟩ := id r1
  refine ⟨.inl ⟨rfl, vs, .inl g1⟩, io, env, F, O, _, I.ext e1, h1, fun x w H2 e2 r2 h2 => ?_⟩
  obtain ⟨j, z, q1, q2, q3, q4, q5, q6⟩ := h2
  have sl : SeqAt.shaped (.list (D.pys ds)) = true := by rw [D.py] at q4; exact q4
  have dp := dp_of (r1.mono e2) (SeqAt.canLay_of_shaped q4)
  rw [D.py] at dp
  exact ⟨a, w, x.py, D.pys ds, j, z, rfl, rfl, dp, dp_of r2 (SeqAt.canLay_of_shaped q5), sl, q5, q1, q2, q3, kQ (.int _) _ H2 (e1.trans e2) rfl q6⟩
end
/-! ### xs[::-1] -/
def odRevS : OT1
  | .lst ds, Q => Q (.lst ds.reverse) 1
  | _, _ => False
section
variable {X : Cx} {e : Expr} {te : ET} {k : Nat} {p1 p2 p3 pos : Pos}
theorem de_revS (he : DE X e te) : DE X (.Subscript e (.Slice none none (some (.UnaryOp .USub (.Constant (.int 1) k p1) p2)) p3) pos) (tO1 odRevS te) :=
  de_un1 (r1 := fun x H1 Q => ∃ a xs, x = .ref a ∧ SqL X.K H1 a xs ∧ ∀ p, H1 p = none → Q (.ref p) (upd H1 p (.lst xs.reverse))) (fun _ x => pe_revL x) (by
    intro F H x v Q Qh e r h k
    cases x <;> first | exact (show False from h).elim | skip
    obtain ⟨a, vs, rfl, g1, g2⟩ := r
    exact ⟨a, vs, rfl, .inl (rd_mono e g1), fun p hp => k.new (.lst _) (.lst _) p hp g2.reverse h⟩) he
end
/-! ### x[lo:hi], x a local that stays owned -/
def eSlL (i : Nat) (lo hi : OPt) : ET := fun env Q _ => match gt env i with
  | some b => isLs b.d (lo env fun l => hi env fun h => odSl b.d l h fun z n => Q z n (env.set i (some { b with n := min b.n 1 })))
  | none => False
section
variable {X : Cx} {lo hi : Option Expr} {pl ph : OPt} {p2 pos : Pos}
theorem de_sll (i : Nat) {x : Str} {pos' : Pos} (hl : PUO X lo pl) (hh : PUO X hi ph) (hN : X.N[i]? = some x := by rfl)
    (hv : Vis X.env.scope x := by first | exact Or.inl rfl | exact Or.inr (Or.inl rfl) | exact Or.inr (Or.inr rfl)) (hd : (x == ("__debug__" : Str)) = false := by decide) (hcd : (x == ("__classdict__" : Str)) = false := by decide) :
    DE X (.Subscript (.Name x pos') (.Slice lo hi none p2) pos) (eSlL i pl ph) := by
  intro W tk
  refine peI (pe_slice sl_any (pe_var hN hv hd hcd) hl hh) ?_
  rintro σ H Qh ⟨io, env, F, O, Q, R, I, h, kQ, kX⟩
  unfold eSlL at h
  cases e0 : gt env i with
  | none => rw [e0] at h; exact h.elim
  | some b =>
    rw [e0] at h
    obtain ⟨v, s1, s2, s3⟩ := I.slot i b (gt_some e0)
    refine ⟨v, s1, ?_⟩
    obtain ⟨bd, bn, bio⟩ := b
    cases bd <;> first | exact (show False from h).elim | skip
    rename_i ds
    refine ⟨io, env, F, O, _, I, h, fun l H1 e1 h1 => ⟨io, env, F, O, _, I.ext e1, h1, fun u H2 e2 h2 => ?_⟩⟩
    have A2 := (At.start I).ext (e1.trans e2)
    obtain ⟨F3, O3, A3, sm⟩ := A2.shallow (gt_some e0)
    obtain ⟨vv, t1, t2, _⟩ := A3.si.slot i { d := .lst ds, n := min bn 1, io := bio } (by
      have hl : i < env.length := (List.getElem?_eq_some_iff.mp (gt_some e0)).1
      rw [List.getElem?_set_self hl])
    have evv : vv = v := by rw [s1] at t1; exact (Option.some.inj (Option.some.inj t1)).symm
    subst evv
    obtain ⟨a, vs, rfl, g1, g2⟩ := sh_lst (n := min bn 1) (by omega) A3.si.sub t2
    exact .inl ⟨a, vs, rfl, .inl g1, fun p hp => (Fin.of kQ A3).new (.lst _) (.lst _) p hp (reps_cut g2) h2⟩
end
end DL
set_option Elab.async false
set_option linter.all false
set_option maxRecDepth 100000
/-! DN5: the data layer: sorted, max and min by depth; sets of tuples of ints: len(set(x)), sorted(set(x)). -/
namespace DL
open PySem L2 PySem.Spec PyProof.Rows PySem.W
variable [Tbs]
section
variable {K : PySem.W.Frag} {mg : MG} {F H : Hp}
/-- pairs of data and values -/
def PR (K : PySem.W.Frag) (mg : MG) (F : Hp) (p : D × V) : Prop := Rep K mg F p.1 p.2
theorem reps_zip : ∀ {ds : List D} {vs : List V}, Reps K mg F ds vs → (∀ p ∈ ds.zip vs, Rep K mg F p.1 p.2) ∧ (ds.zip vs).map (·.1) = ds ∧ (ds.zip vs).map (·.2) = vs
  | [], _, h => by cases (show _ = ([] : List V) from h); exact ⟨fun p hp => (nomatch hp), rfl, rfl⟩
  | d :: ds, _, ⟨v, r, h1, h2, h3⟩ => by
    subst h1
    obtain ⟨a, b, c⟩ := reps_zip h3
    refine ⟨fun p hp => ?_, congrArg (d :: ·) b, congrArg (v :: ·) c⟩
    rcases List.mem_cons.mp hp with e | hp
    · subst e; exact h2
    · exact a p hp
theorem zip_reps : ∀ {ps : List (D × V)}, (∀ p ∈ ps, Rep K mg F p.1 p.2) → Reps K mg F (ps.map (·.1)) (ps.map (·.2))
  | [], _ => rfl
  | p :: ps, h => ⟨_, _, rfl, h p List.mem_cons_self, zip_reps fun q hq => h q (List.mem_cons_of_mem _ hq)⟩
end
theorem pys_map : ∀ ds : List D, D.pys ds = ds.map D.py
  | [] => rfl
  | d :: ds => by rw [D.pys, pys_map ds]; rfl
/-- sorted(xs): the pairs of values and what they read as -/
def rSortedD (K : PySem.W.Frag) : List V → Hp → VK → Prop := fun vs H Q => ∃ (a : Addr) (bs : List (V × PyData)), vs = [V.ref a] ∧ SqL K H a (bs.map (·.1)) ∧ (∀ b ∈ bs, Dp K H b.1 b.2) ∧ AllAlike (bs.map (·.2)) ∧ Sortable (bs.map (·.2)) ∧ bs.length ≤ 1000 ∧
  (∀ b ∈ bs, b.2.depth ≤ 30) ∧ ∀ p, H p = none → Q (.ref p) (upd H p (.lst ((bs.mergeSort (dataLe false fun b => b.2)).map (·.1))))
theorem each_vals : ∀ {bs : List (V × PyData)} {us : List Value}, Vals (bs.map (·.1)) us → EachIs (fun (u : Value) (b : V × PyData) => RelV b.1 u) us bs
  | [], _, h => by cases h; exact .nil
  | b :: bs, _, h => by cases h with | cons r t => exact .cons r (each_vals t)
theorem vals_each : ∀ {bs : List (V × PyData)} {us : List Value}, EachIs (fun (u : Value) (b : V × PyData) => RelV b.1 u) us bs → Vals (bs.map (·.1)) us
  | [], _, h => by cases h; exact .nil
  | b :: bs, _, h => by cases h with | cons r t => exact .cons r (vals_each t)
section
variable {X : Cx}
theorem each_reads {pins : List (Addr × Obj)} {σ : L2.St} {H : Hp} {s : Shared} (I : Inv X pins σ H s) : ∀ {bs : List (V × PyData)} {us : List Value}, (∀ b ∈ bs, Dp X.K H b.1 b.2) → Vals (bs.map (·.1)) us → EachIs (fun (u : Value) (b : V × PyData) => ∃ as, Reads s.heap u b.2 as) us bs
  | [], _, _, h => by cases h; exact .nil
  | b :: bs, _, hd, h => by
    cases h with
    | cons r t =>
      obtain ⟨as, q⟩ := Dp.reads I b.2 b.1 _ (hd b List.mem_cons_self) r
      exact .cons ⟨as, q⟩ (each_reads I (fun c hc => hd c (List.mem_cons_of_mem _ hc)) t)
theorem cr_sortedD (hu : X.A.units + 64 < cLine) : CallR X (.builtin "sorted") (rSortedD X.K) := by
  intro pins s σ H vs us Q I r h
  obtain ⟨a, bs, rfl, hs, hd, ha, hk, hl, hdp, q⟩ := h
  obtain ⟨its, rv, hL, hz⟩ := I.list hs
  rw [Vals.ref1 r]
  have hsl := sizeLine_eq
  refine sorted_data (enc := fun b : V × PyData => b.2) hL.isList (each_vals rv) (each_reads I hd rv) ha hk (by omega) (fun b hb => by have := hdp b hb; omega) fun out h1 h2 => ?_
  obtain ⟨ep, he'⟩ := PyProof.Rows.sortedAll_at s.heap its out.toArray
  have hlen : ((bs.mergeSort (dataLe false fun b => b.2)).map (·.1)).length ≤ sizeLine := by rw [List.length_map, List.length_mergeSort]; omega
  exact ⟨.ref _, upd H (s.heap.objs.size + 1) (.lst ((bs.mergeSort (dataLe false fun b => b.2)).map (·.1))), I.laid (t' := s.toks) (fun _ _ => PyProof.Rows.sortedAll_old) (Nat.le_succ _) ⟨hlen, out, ep, vals_each h2, he'⟩, rfl, q _ (I.hok.fresh (Nat.le_succ _))⟩
/-- max(xs) of a list -/
def rMaxD (K : PySem.W.Frag) : List V → Hp → VK → Prop := fun vs H Q => ∃ (a : Addr) (xs : List V) (d : PyData) (ds : List PyData), vs = [V.ref a] ∧ SqL K H a xs ∧ DpAll K H xs (d :: ds) ∧ AlikeAll (d :: ds) ∧ PyData.depthAll (d :: ds) ≤ 30 ∧
  ∀ (i : Nat) v, xs[i]? = some v → (d :: ds)[i]? = some (maxD d ds) → Q v H
theorem maxD_mem : ∀ (ds : List PyData) (d : PyData), maxD d ds ∈ d :: ds
  | [], d => List.mem_cons_self
  | e :: ds, d => by
    show maxD (if dataLt d e then e else d) ds ∈ _
    rcases List.mem_cons.mp (maxD_mem ds (if dataLt d e then e else d)) with h | h
    · rw [h]
      split
      · exact List.mem_cons_of_mem _ List.mem_cons_self
      · exact List.mem_cons_self
    · exact List.mem_cons_of_mem _ (List.mem_cons_of_mem _ h)
theorem cr_maxDp (hc : X.calm = true) (hu : X.A.units + 64 < cLine) : CallR X (.builtin "max") (rMaxD X.K) := by
  intro pins s σ H vs us Q I r h
  obtain ⟨a, xs, d, ds, rfl, hs, hd, ha, hdp, q⟩ := h
  obtain ⟨its, rv, hL, hz⟩ := I.list hs
  rw [Vals.ref1 r]
  obtain ⟨as, hr⟩ := Dp.readsAll I (d :: ds) xs its hd rv
  refine max_list_data (I.ok.hd hc) hL.isList (x := d) (xs := ds) hr ha (by omega) fun i v h' tk bs hv hm hk => ?_
  have hv' : its[i]? = some v := by simpa using hv
  obtain ⟨bs2, r2, hi, hmem, _⟩ := readsAll_atA (vs := its.toArray) hr i v hv
  have hz : (d :: ds)[i]? = some ((d :: ds).getD i .none) := by rw [List.getD_eq_getElem?_getD, List.getElem?_eq_getElem hi]; rfl
  have e : (d :: ds).getD i .none = maxD d ds := alike_unique _ _ v _ _ (ha.1 _ hmem _ (maxD_mem ds d)) (reads_keeps hk r2) hm
  rw [e] at hz
  have hx : i < xs.length := by rw [rv.length]; exact (List.getElem?_eq_some_iff.mp hv').1
  obtain ⟨u, hu', ru⟩ := rv.get (List.getElem?_eq_getElem hx)
  rw [hv'] at hu'
  cases hu'
  exact ⟨xs[i], H, I.kept (t' := tk) hk, ru, q i _ (List.getElem?_eq_getElem hx) hz⟩
/-! at data -/
def odSortedD : OTN
  | [.lst ds], Q => ds.length ≤ 1000 ∧ SeqAt.shaped (D.lst ds).py = true ∧ AllAlike (D.pys ds) ∧ Sortable (D.pys ds) ∧ (∀ d ∈ ds, d.py.depth ≤ 30) ∧ Q (.lst (ds.mergeSort (dataLe false D.py))) 1
  | _, _ => False
theorem okSortedD : OkN X (rSortedD X.K) odSortedD := by
  intro F H xs vs Q Qh e r h k
  match xs, h, r with
  | [], h, _ => exact (show False from h).elim
  | [x], h, r =>
    cases x with
    | lst ds =>
      obtain ⟨v, _, rfl, r1, rfl⟩ := r
      obtain ⟨a, ws, rfl, g1, g2⟩ := r1
      obtain ⟨h1, h2, h3, h4, h5, h6⟩ := h
      obtain ⟨z1, z2, z3⟩ := reps_zip g2
      have lay : PyData.canLayAll0 (D.pys ds) = true := by have := SeqAt.canLay_of_shaped h2; rw [D.py] at this; simpa [PyData.canLay0] using this
      have lay1 : ∀ ds : List D, PyData.canLayAll0 (D.pys ds) = true → ∀ d ∈ ds, d.py.canLay0 = true := by
        intro ds
        induction ds with
        | nil => intro _ d hd; cases hd
        | cons d ds ih =>
          intro h c hc
          have h' : d.py.canLay0 = true ∧ PyData.canLayAll0 (D.pys ds) = true := by simpa [D.pys, PyData.canLayAll0] using h
          rcases List.mem_cons.mp hc with e | hc
          · subst e; exact h'.1
          · exact ih h'.2 c hc
      have ez : (ds.zip ws).map (fun p : D × V => p.1.py) = D.pys ds := by rw [pys_map, ← z2, List.map_map, z2]; rfl
      refine ⟨a, (ds.zip ws).map fun p => (p.2, p.1.py), rfl, ?_, fun b hb => ?_, ?_, ?_, ?_, fun b hb => ?_, fun p hp => ?_⟩
      · rw [List.map_map]
        have : (ds.zip ws).map ((fun x : V × PyData => x.1) ∘ fun p : D × V => (p.2, p.1.py)) = ws := z3
        rw [this]
        exact .inl (rd_mono e g1)
      · obtain ⟨p, hp, rfl⟩ := List.mem_map.mp hb
        have hpd : p.1 ∈ ds := by rw [← z2]; exact List.mem_map.mpr ⟨p, hp, rfl⟩
        exact dp_of ((z1 p hp).mono e) (lay1 ds lay p.1 hpd)
      · rw [List.map_map]
        have : (ds.zip ws).map ((fun x : V × PyData => x.2) ∘ fun p : D × V => (p.2, p.1.py)) = D.pys ds := ez
        rw [this]; exact h3
      · rw [List.map_map]
        have : (ds.zip ws).map ((fun x : V × PyData => x.2) ∘ fun p : D × V => (p.2, p.1.py)) = D.pys ds := ez
        rw [this]; exact h4
      · have := congrArg List.length z2
        rw [List.length_map] at this ⊢
        omega
      · obtain ⟨p, hp, rfl⟩ := List.mem_map.mp hb
        exact h5 p.1 (by rw [← z2]; exact List.mem_map.mpr ⟨p, hp, rfl⟩)
      · have s1 : ((ds.zip ws).mergeSort fun p q => dataLe false D.py p.1 q.1).map (·.1) = ds.mergeSort (dataLe false D.py) := by
          rw [sort_maps (s := dataLe false D.py) (fun p : D × V => p.1) (fun _ _ _ _ => rfl), z2]
        have s2 : (((ds.zip ws).mergeSort fun p q => dataLe false D.py p.1 q.1).map fun p => (p.2, p.1.py)) = ((ds.zip ws).map fun p => (p.2, p.1.py)).mergeSort (dataLe false fun b : V × PyData => b.2) :=
          sort_maps (fun p : D × V => (p.2, p.1.py)) (fun _ _ _ _ => rfl)
        rw [← s2, List.map_map]
        refine k.new (.lst (ds.mergeSort (dataLe false D.py))) (.lst _) p hp ?_ h6
        rw [← s1]
        exact zip_reps fun q hq => z1 q ((List.mergeSort_perm _ _).mem_iff.mp hq)
    | _ => exact (show False from h).elim
  | x :: y :: l, h, _ => cases x <;> exact (show False from h).elim
def maxQ (d : D) (Q : Qn) : Prop := match d with
  | .lst (x :: xs) => AlikeAll (x.py :: D.pys xs) ∧ PyData.canLayAll0 (x.py :: D.pys xs) = true ∧ PyData.depthAll (x.py :: D.pys xs) ≤ 30 ∧ ∀ (i : Nat) z, (x :: xs)[i]? = some z → z.py = maxD x.py (D.pys xs) → Q z 0
  | _ => False
def odMaxD : OTN
  | [d], Q => maxQ d Q
  | _, _ => False
theorem okMaxD : OkN X (rMaxD X.K) odMaxD := by
  intro F H xs vs Q Qh e r h k
  match xs, h, r with
  | [], h, _ => exact (show False from h).elim
  | [x], h, r =>
    cases x with
    | lst ds =>
      cases ds with
      | nil => exact (show False from h).elim
      | cons x xs =>
        obtain ⟨v, _, rfl, r1, rfl⟩ := r
        obtain ⟨a, ws, rfl, g1, g2⟩ := r1
        obtain ⟨h1, h2, h3, h4⟩ := h
        refine ⟨a, ws, x.py, D.pys xs, rfl, .inl (rd_mono e g1), dps_of (ds := x :: xs) (Reps.mono e g2) h2, h1, h3, fun i v hv hm => ?_⟩
        obtain ⟨d, hd, rd⟩ := g2.get' hv
        have hz : (D.pys (x :: xs))[i]? = some (maxD x.py (D.pys xs)) := hm
        rw [pys_map, List.getElem?_map, hd] at hz
        exact k.old d v rd (h4 i d hd (Option.some.inj hz))
    | _ => exact (show False from h).elim
  | x :: y :: l, h, _ => exact (show False from h).elim
/-- min of a list of ints -/
def odMinI : OTN
  | [.lst ds], Q => someO (intsD ds) fun ns => 0 < ns.length ∧ ∀ m, m ∈ ns → (∀ y, y ∈ ns → m ≤ y) → Q (.int m) 0
  | _, _ => False
theorem okMinI : OkN X (rMin X.K) odMinI := by
  intro F H xs vs Q Qh e r h k
  match xs, h, r with
  | [], h, _ => exact (show False from h).elim
  | [x], h, r =>
    cases x with
    | lst ds =>
      obtain ⟨v, _, rfl, r1, rfl⟩ := r
      obtain ⟨a, ws, rfl, g1, g2⟩ := r1
      obtain ⟨ns, en, h1, h2⟩ := someO_of h
      have ew := intsD_v en g2
      subst ew
      exact ⟨a, ns, rfl, .inl (rd_mono e g1), h1, fun m q1 q2 => k.old (.int m) _ rfl (h2 m q1 q2)⟩
    | _ => exact (show False from h).elim
  | x :: y :: l, h, _ => cases x <;> exact (show False from h).elim
variable {e : Expr} {te : ET} {p pos : Pos}
theorem de_sorted (hu : X.A.units + 64 < cLine) (hm : X.mg "sorted" = none) (ha : DE X e te) (hg : Gl X "sorted" := by rfl) (he : starEach [e] X.env = (false, eval e X.env) :: starEach [] X.env := by rfl) : DE X (.Call (.Name "sorted" p) [e] [] pos) (tON odSortedD (aCons te aNil)) :=
  de_blt (cr_sortedD hu) okSortedD hm (by decide +kernel) (da_cons ha da_nil he) hg (by decide) (by decide) he rfl
theorem de_maxD (hc : X.calm = true) (hu : X.A.units + 64 < cLine) (hm : X.mg "max" = none) (ha : DE X e te) (hg : Gl X "max" := by rfl) (he : starEach [e] X.env = (false, eval e X.env) :: starEach [] X.env := by rfl) : DE X (.Call (.Name "max" p) [e] [] pos) (tON odMaxD (aCons te aNil)) :=
  de_blt (cr_maxDp hc hu) okMaxD hm (by decide +kernel) (da_cons ha da_nil he) hg (by decide) (by decide) he rfl
theorem de_minI (hc : X.calm = true) (hm : X.mg "min" = none) (ha : DE X e te) (hg : Gl X "min" := by rfl) (he : starEach [e] X.env = (false, eval e X.env) :: starEach [] X.env := by rfl) : DE X (.Call (.Name "min" p) [e] [] pos) (tON odMinI (aCons te aNil)) :=
  de_blt (cr_min hc) okMinI hm (by decide +kernel) (da_cons ha da_nil he) hg (by decide) (by decide) he rfl
end
end DL
set_option Elab.async false
set_option linter.all false
set_option maxRecDepth 100000
/-! DN6: the data layer: len(set(x)), sorted(set(x)), x a list of tuples of ints. -/
namespace DL
open PySem L2 PySem.Spec PyProof.Rows PySem.W
variable [Tbs]
abbrev tupI (k : List Int) : D := .tup (k.map .int)
def tupsI : List D → Option (List (List Int))
  | [] => some []
  | .tup is :: ds => match intsD is, tupsI ds with
    | some k, some ks => some (k :: ks)
    | _, _ => none
  | _ :: _ => none
section
variable {K : PySem.W.Frag} {mg : MG} {F : Hp}
theorem tupsI_v : ∀ {ds : List D} {ks : List (List Int)} {vs : List V}, tupsI ds = some ks → Reps K mg F ds vs → ∃ ps : List (Addr × List Int), vs = ps.map (fun p => V.ref p.1) ∧ ps.map (·.2) = ks ∧ ∀ p ∈ ps, F p.1 = some (.tup (p.2.map V.int))
  | [], ks, vs, h, r => by
    cases (show vs = [] from r)
    cases h
    exact ⟨[], rfl, rfl, fun p hp => nomatch hp⟩
  | d :: ds, ks, vs, h, ⟨v, t, h1, h2, h3⟩ => by
    cases d <;> first | (cases h; done) | skip
    rename_i is
    unfold tupsI at h
    cases e1 : intsD is with
    | none => rw [e1] at h; cases h
    | some k =>
      cases e2 : tupsI ds with
      | none => rw [e1, e2] at h; cases h
      | some ks' =>
        rw [e1, e2] at h
        cases h
        obtain ⟨ps, q1, q2, q3⟩ := tupsI_v e2 h3
        obtain ⟨b, ws, rfl, g1, g2⟩ := h2
        have ew := intsD_v e1 g2
        subst ew
        refine ⟨(b, k) :: ps, by rw [h1, q1]; rfl, by rw [List.map_cons, q2], fun p hp => ?_⟩
        rcases List.mem_cons.mp hp with e | hp
        · subst e; exact g1
        · exact q3 p hp
theorem reps_tupI : ∀ {ps : List (Addr × List Int)}, (∀ p ∈ ps, F p.1 = some (.tup (p.2.map V.int))) → Reps K mg F ((ps.map (·.2)).map tupI) (ps.map fun p => V.ref p.1)
  | [], _ => rfl
  | p :: ps, h => ⟨_, _, rfl, ⟨p.1, _, rfl, h p List.mem_cons_self, rep_intsV p.2⟩, reps_tupI fun q hq => h q (List.mem_cons_of_mem _ hq)⟩
where rep_intsV : ∀ ns : List Int, Reps K mg F (ns.map D.int) (ns.map V.int)
  | [] => rfl
  | n :: ns => ⟨_, _, rfl, rfl, rep_intsV ns⟩
end
/-- what set(x) holds -/
def setOf (d : D) (Q : List (List Int) → Prop) : Prop := match d with
  | .lst ds => someO (tupsI ds) fun ks => ks.length < 64 ∧ ∀ L : List (List Int), L.Nodup → (∀ k, k ∈ L ↔ k ∈ ks) → Q L
  | _ => False
def sortSetOf (d : D) (Q : List (List Int) → Prop) : Prop := match d with
  | .lst ds => someO (tupsI ds) fun ks => ks.length < 64 ∧ (∀ k ∈ ks, k.length = 2 ∧ ∀ m ∈ k, 0 ≤ m ∧ m < 10 ^ 12) ∧ ∀ L : List (List Int), L.Nodup → (∀ k, k ∈ L ↔ k ∈ ks) → Q L
  | _ => False
def rLenSetT (P : Program) (w : World) : List V → Hp → VK → Prop := fun xs H Q => ∃ (a : Addr) (L : List (Addr × List Int)), xs = [V.ref a] ∧ H a = some (SetTO P w a L) ∧ ((L.map (·.2)).Nodup → Q (.int ((L.length : Nat) : Int)) H)
section
variable {X : Cx}
theorem call_lenSetT : CallR X (.builtin "len") (rLenSetT X.prog X.w) := by
  intro pins s σ H xs us Q I r h
  obtain ⟨a, L, rfl, ha, q⟩ := h
  rw [Vals.ref1 r]
  have R0 : SetT0 X.prog X.w s.heap a L := (I.hok a _ ha).1
  obtain ⟨es, ep, t, ⟨o, ho, hx, hd⟩, h2, h3, h4, h5, h6, h7, h8⟩ := R0.ex
  have hs : es.size = L.length := by
    have h := congrArg List.length h2
    unfold L2.rowsOf at h
    rw [Array.length_toList, List.length_map] at h
    exact h
  have hf : t.fits es.size = true := by
    have h1 := h3.sz
    rw [List.length_map] at h1
    unfold SetTable.fits SetTable.fill
    rw [h3.dm, Bool.and_eq_true, beq_iff_eq, decide_eq_true_eq]
    show t.place.size = es.size ∧ t.place.size + 0 ≤ t.mask
    omega
  refine call_len_set ho hx hd hf (by omega) ?_
  rw [hs]
  exact ⟨.int _, H, I.tok _, ⟨_, rfl⟩, q h4⟩
variable {e : Expr} {te : ET} {p p2 pos pos2 : Pos}
def eLenSet (te : ET) : ET := fun env Q R => te env (fun d _ env1 => setOf d fun L => Q (.int ((L.length : Nat) : Int)) 0 env1) R
def eSortSet (te : ET) : ET := fun env Q R => te env (fun d _ env1 => sortSetOf d fun L => Q (.lst (L.map tupI)) 1 env1) R
theorem de_lenSet (hc : X.calm = true) (hu : X.A.units + 64 < cLine) (B : Blt X.mg) (hm : X.mg "set" = none) (ha : DE X e te) (hg : Gl X "len" := by rfl) (hg2 : Gl X "set" := by rfl) (he : starEach [e] X.env = (false, eval e X.env) :: starEach [] X.env := by rfl)
    (he2 : starEach [.Call (.Name "set" p2) [e] [] pos2] X.env = (false, eval (.Call (.Name "set" p2) [e] [] pos2) X.env) :: starEach [] X.env := by rfl) : DE X (.Call (.Name "len" p) [.Call (.Name "set" p2) [e] [] pos2] [] pos) (eLenSet te) := by
  intro W tk
  refine peI (pe_callB call_lenSetT hg B.len boot_len (pa_cons (pe_callTy (cr_setOfT hc hu) hg2 hm (by decide +kernel) (pa_cons (ha W tk) pa_nil he) (by decide) (by decide) he rfl) pa_nil he2) (by decide) (by decide) he2 rfl) ?_
  rintro σ H Qh ⟨io, env, F, O, Q, R, I, h, kQ, kX⟩
  refine ⟨io, env, F, O, _, R, I, h, ?_, kX⟩
  intro d n env1 F1 O1 H1 v P A1 T1 r1 h1
  have A1' := A1.frz T1
  have r1' := A1.frz_rep r1
  cases d <;> first | exact (show False from h1).elim | skip
  rename_i ds
  obtain ⟨ks, ek, hl, hq⟩ := someO_of h1
  obtain ⟨a, ws, rfl, g1, g2⟩ := r1'
  obtain ⟨ps, rfl, rfl, q3⟩ := tupsI_v ek g2
  refine ⟨a, ps, rfl, .inl (rd_mono A1'.si.sub g1), fun q hq => .inl (.inl (A1'.si.sub _ _ (q3 q hq))), by simpa using hl, fun b L hb h3 h4 => ⟨b, L, rfl, upd_same, fun nd => ?_⟩⟩
  have A2 := A1'.ext (same_upd (o := SetTO X.prog X.w b L) hb)
  refine (Fin.of kQ A2).old (.int ((L.length : Nat) : Int)) _ rfl ?_
  have q := hq (L.map (·.2)) nd fun k => ⟨fun hk => ?_, fun hk => ?_⟩
  · have q : Q (.int (((L.map (·.2)).length : Nat) : Int)) 0 env1 := q
    rw [List.length_map] at q; exact q
  · obtain ⟨p, hp, rfl⟩ := List.mem_map.mp hk
    exact List.mem_map.mpr ⟨p, h3 p hp, rfl⟩
  · obtain ⟨p, hp, rfl⟩ := List.mem_map.mp hk
    exact h4 p hp
theorem de_sortSet (hc : X.calm = true) (hu : X.A.units + 64 < cLine) (hm : X.mg "set" = none) (hm2 : X.mg "sorted" = none) (ha : DE X e te) (hg : Gl X "sorted" := by rfl) (hg2 : Gl X "set" := by rfl) (he : starEach [e] X.env = (false, eval e X.env) :: starEach [] X.env := by rfl)
    (he2 : starEach [.Call (.Name "set" p2) [e] [] pos2] X.env = (false, eval (.Call (.Name "set" p2) [e] [] pos2) X.env) :: starEach [] X.env := by rfl) : DE X (.Call (.Name "sorted" p) [.Call (.Name "set" p2) [e] [] pos2] [] pos) (eSortSet te) := by
  intro W tk
  refine peI (pe_callB (cr_sortedT hc) hg hm2 (by decide +kernel) (pa_cons (pe_callTy (cr_setOfT hc hu) hg2 hm (by decide +kernel) (pa_cons (ha W tk) pa_nil he) (by decide) (by decide) he rfl) pa_nil he2) (by decide) (by decide) he2 rfl) ?_
  rintro σ H Qh ⟨io, env, F, O, Q, R, I, h, kQ, kX⟩
  refine ⟨io, env, F, O, _, R, I, h, ?_, kX⟩
  intro d n env1 F1 O1 H1 v P A1 T1 r1 h1
  have A1' := A1.frz T1
  have r1' := A1.frz_rep r1
  cases d <;> first | exact (show False from h1).elim | skip
  rename_i ds
  obtain ⟨ks, ek, hl, hb2, hq⟩ := someO_of h1
  obtain ⟨a, ws, rfl, g1, g2⟩ := r1'
  obtain ⟨ps, rfl, rfl, q3⟩ := tupsI_v ek g2
  refine ⟨a, ps, rfl, .inl (rd_mono A1'.si.sub g1), fun q hq => .inl (.inl (A1'.si.sub _ _ (q3 q hq))), by simpa using hl, fun b L hb h3 h4 => ?_⟩
  have A2 := A1'.ext (same_upd (o := SetTO X.prog X.w b L) hb)
  have sub : ∀ q ∈ L, laid F1 P H1 q.1 = some (.tup (q.2.map V.int)) := fun q hq => q3 q (h3 q hq)
  refine ⟨b, L, 2, 10 ^ 12, rfl, upd_same, fun q hq => .inl (.inl (A2.si.sub _ _ (sub q hq))), by decide, fun q hq => hb2 q.2 (List.mem_map.mpr ⟨q, h3 q hq, rfl⟩), fun L' p pm nd hl' pw hp => ?_⟩
  refine (Fin.of kQ A2).new (.lst ((L'.map (fun x : Addr × List Int => x.2)).map tupI)) (.lst (L'.map fun q : Addr × List Int => V.ref q.1)) p hp (reps_tupI (K := X.K) (mg := X.mg) fun q hq => sub q (pm.mem_iff.mp hq)) ?_
  refine hq (L'.map (·.2)) nd fun k => ⟨fun hk => ?_, fun hk => ?_⟩
  · obtain ⟨q, hq, rfl⟩ := List.mem_map.mp hk
    exact List.mem_map.mpr ⟨q, h3 q (pm.mem_iff.mp hq), rfl⟩
  · obtain ⟨q, hq, rfl⟩ := List.mem_map.mp hk
    exact (pm.map (·.2)).mem_iff.mpr (h4 q hq)
end
end DL
set_option Elab.async false
set_option linter.all false
set_option maxRecDepth 100000
/-! DN7: the data layer: zip of a list and a list, or of a tuple and a list. -/
namespace DL
open PySem L2 PySem.Spec PyProof.Rows
variable [Tbs]
/-- the tuple at a and the list at b as they stand at each turn, the items in new pairs -/
def ItzX (K : PySem.W.Frag) (a b : Addr) : It :=
  ⟨fun i H => ∃ (xs ys : List V) (x y : V), SqT K H a xs ∧ SqL K H b ys ∧ xs[i]? = some x ∧ ys[i]? = some y,
    fun i H v H' => ∃ T x y, v = .ref T ∧ H T = none ∧ H' = upd H T (.tup [x, y]) ∧ (∀ xs, SqT K H a xs → xs[i]? = some x) ∧ ∀ ys, SqL K H b ys → ys[i]? = some y,
    fun i H => ∃ xs ys : List V, SqT K H a xs ∧ SqL K H b ys ∧ (xs.length ≤ i ∨ ys.length ≤ i)⟩
section
variable {P : Program} {w : World} {A : Around}
theorem endT (hh : A.handled = none) {it t : Addr} {items : Array Value} {i : Nat} (h : items[i]? = none) : Draws P w A it [it, t] i (fun _ _ => True) (fun j h => j = i ∧ h.IsTupleIter it t i ∧ h.IsTuple t items) :=
  ⟨fun _ _ st => let ⟨ob, ho, _⟩ := st.2.1; ⟨ob, ho⟩, fun _ _ _ st hk => ⟨st.1, st.2.1.at fun ob q => hk it (by simp) ob q, st.2.2.at fun ob q => hk t (by simp) ob q⟩, fun j _ _ _ hj st => absurd hj (by rw [st.1]; exact Nat.lt_irrefl i),
    fun s' QQ EE st kE => wpAny_nextOf_tuple_end hh st.2.1 st.2.2 h kE⟩
theorem endL (hh : A.handled = none) {it t : Addr} {items : Array Value} {i : Nat} (h : items[i]? = none) : Draws P w A it [it, t] i (fun _ _ => True) (fun j h => j = i ∧ h.IsListIter it t i ∧ h.IsList t items) :=
  ⟨fun _ _ st => let ⟨ob, ho, _⟩ := st.2.1; ⟨ob, ho⟩, fun _ _ _ st hk => ⟨st.1, st.2.1.at fun ob q => hk it (by simp) ob q, st.2.2.at fun ob q => hk t (by simp) ob q⟩, fun j _ _ _ hj st => absurd hj (by rw [st.1]; exact Nat.lt_irrefl i),
    fun s' QQ EE st kE => wpAny_nextOf_list_end hh st.2.1 st.2.2 h kE⟩
end
theorem turn_zipX {P : Program} {w : World} {K : PySem.W.Frag} {elts : List Expr} {kk : Nat} {tpos : Pos} {a b z TI TO i1 i2 : Addr} (D : ZipSep2 z TI TO i1 i2 [i1, a] [i2, b]) :
    Turn P w K (.Tuple elts kk tpos) (ItzX K a b) [z, TI, TO, i1, i2] z (fun i h => IsZip h z TI TO .none ∧ IsTupOf2 h TI (.ref i1) (.ref i2) ∧ (∃ x y, IsTupOf2 h TO x y) ∧ h.IsTupleIter i1 a i ∧ h.IsListIter i2 b i ∧ a ≠ i1 ∧ b ≠ i2) where
  mem := by simp
  obj := fun i h st c hc => by
    obtain ⟨hz, hTI, ⟨x, y, hTO⟩, ⟨o1, e1, _, d1⟩, ⟨o2, e2, _, d2⟩, _⟩ := st
    have e' : c = z ∨ c = TI ∨ c = TO ∨ c = i1 ∨ c = i2 := by simpa using hc
    rcases e' with q | q | q | q | q
    · rw [q]; exact ⟨_, hz, fun v q => nomatch q⟩
    · rw [q]; exact ⟨_, hTI, fun v q => nomatch q⟩
    · rw [q]; exact ⟨_, hTO, fun v q => nomatch q⟩
    · rw [q]; exact ⟨o1, e1, fun v q => by rw [d1] at q; cases q⟩
    · rw [q]; exact ⟨o2, e2, fun v q => by rw [d2] at q; cases q⟩
  keep := fun i h h' st k => by
    obtain ⟨hz, hTI, ⟨x, y, hTO⟩, h1, h2, r⟩ := st
    exact ⟨k z (by simp) _ hz, k TI (by simp) _ hTI, ⟨x, y, k TO (by simp) _ hTO⟩, h1.at fun o q => k i1 (by simp) o q, h2.at fun o q => k i2 (by simp) o q, r⟩
  item := by
    intro X hP hw hK hc i pins s σ H E I hf st hg
    subst hP hw hK
    obtain ⟨hz, hTI, ⟨x0, y0, hTO⟩, h1, h2, na, nb⟩ := st
    obtain ⟨xs, ys, x, y, hqx, hqy, hx, hy⟩ := hg
    obtain ⟨its, rv, p, _⟩ := I.tuple hqx
    obtain ⟨its2, rv2, p2, _⟩ := I.list hqy
    obtain ⟨u, hu, ru⟩ := rv.get hx
    obtain ⟨u2, hu2, ru2⟩ := rv2.get hy
    have hh : X.A.in1.handled = none := I.ok.hd hc
    have hzl : z < s.heap.objs.size := Heap.lt_size hz
    have hl1 : i < its.toArray.size := by have := (List.getElem?_eq_some_iff.mp hu).1; simpa using this
    have hl2 : i < its2.toArray.size := by have := (List.getElem?_eq_some_iff.mp hu2).1; simpa using this
    refine wpAny_pyNext_zipD2_item (A := X.A) D (Draws.tuple hh i1 a na its.toArray) (Draws.list hh i2 b nb its2.toArray) hz hTI hTO ⟨h1, p⟩ ⟨h2, p2.isList⟩ hl1 hl2 fun x1 x2 h' tk q1 q2 z' TO' st1 st2 hT hsz hk => ?_
    have ex1 : x1 = u := by
      rw [show its.toArray[i]? = some u by simpa using hu] at q1
      exact (Option.some.inj q1).symm
    have ex2 : x2 = u2 := by
      rw [show its2.toArray[i]? = some u2 by simpa using hu2] at q2
      exact (Option.some.inj q2).symm
    subst ex1 ex2
    refine ⟨_, rfl, wpAny_letOwnedTupleGo_zip (s := { s with heap := h', toks := tk }) z' fun h'' z'' sb => ?_⟩
    have hT2 : h''.get? s.heap.objs.size = some { cls := .type "tuple", data := .seq #[x1, x2] } := (sb.2 _ (Nat.ne_of_gt hzl)).trans hT
    have nw : ObjOk X.prog X.w (upd H s.heap.objs.size (.tup [x, y])) h'' s.heap.objs.size (.tup [x, y]) :=
      ⟨by show 2 ≤ sizeLine; decide, [x1, x2], .cons ru (.cons ru2 .nil), ⟨_, hT2, rfl, _, rfl⟩⟩
    have I1 : Inv X pins σ (upd H s.heap.objs.size (.tup [x, y])) { s with heap := h'', toks := tk } :=
      I.turnedNew (ch := [z, TI, TO, i1, i2]) (fun c o hb q => (sb.2 c (fun q' => hb (by simp [q']))).trans (hk c o (fun q' => hb (by simp [q'])) (fun q' => hb (by simp [q'])) (fun q' => hb (by simp [q'])) (fun q' => hb (by simp [q'])) q)) hf (Nat.le_refl _) nw
    refine ⟨.ref s.heap.objs.size, _, I1, rfl, ⟨_, x, y, rfl, I.hok.fresh (Nat.le_refl _), rfl, fun l hl => by rw [I.tuple_inj hl hqx]; exact hx, fun l hl => by rw [I.list_inj hl hqy]; exact hy⟩, ⟨z'', ?_, ⟨x1, x2, ?_⟩, ?_, ?_, na, nb⟩, fun c hcm => ?_⟩
    · exact (sb.2 _ D.TIz).trans (hk _ _ D.TIz D.TITO D.TIi1 D.TIi2 hTI)
    · exact (sb.2 _ D.TOz).trans TO'
    · exact st1.1.at fun o q => (sb.2 _ D.zi1.symm).trans q
    · exact st2.1.at fun o q => (sb.2 _ D.zi2.symm).trans q
    · have hlt : c < s.heap.objs.size := by
        have e' : c = z ∨ c = TI ∨ c = TO ∨ c = i1 ∨ c = i2 := by simpa using hcm
        rcases e' with q | q | q | q | q
        · rw [q]; exact hzl
        · rw [q]; exact Heap.lt_size hTI
        · rw [q]; exact Heap.lt_size hTO
        · rw [q]; obtain ⟨_, e1, _⟩ := h1; exact Heap.lt_size e1
        · rw [q]; obtain ⟨_, e2, _⟩ := h2; exact Heap.lt_size e2
      rw [upd_ne (Nat.ne_of_lt hlt)]
      exact (hf c hcm).1
  done := by
    intro X hP hw hK hc i pins s σ H E I hf st hg
    subst hP hw hK
    obtain ⟨hz, hTI, ⟨x0, y0, hTO⟩, h1, h2, na, nb⟩ := st
    obtain ⟨xs, ys, hqx, hqy, hend⟩ := hg
    obtain ⟨its, rv, p, _⟩ := I.tuple hqx
    obtain ⟨its2, rv2, p2, _⟩ := I.list hqy
    have l1 := rv.length
    have l2 := rv2.length
    have hh : X.A.in1.handled = none := I.ok.hd hc
    have fin : ∀ h' tk, (∀ c o, c ≠ z → c ≠ TO → c ≠ i1 → c ≠ i2 → s.heap.get? c = some o → h'.get? c = some o) → (none : Option Value) = none ∧ Inv X pins σ H { s with heap := h', toks := tk } := fun h' tk hk =>
      ⟨rfl, I.turnedL (t' := tk) (ch := [z, TI, TO, i1, i2]) (fun c o hb q => hk c o (fun q' => hb (by simp [q'])) (fun q' => hb (by simp [q'])) (fun q' => hb (by simp [q'])) (fun q' => hb (by simp [q'])) q) hf⟩
    by_cases c1 : its.length ≤ i
    · have e1 : its.toArray[i]? = none := by simp; omega
      by_cases c2 : its2.length ≤ i
      · have e2 : its2.toArray[i]? = none := by simp; omega
        exact wpAny_pyNext_zipD2_end (A := X.A) D (endT hh e1) (endL hh e2) hz hTI hTO ⟨rfl, h1, p⟩ ⟨rfl, h2, p2.isList⟩ (Nat.le_refl _) (Nat.le_refl _) (.inl rfl) fin
      · exact wpAny_pyNext_zipD2_end (A := X.A) D (endT hh e1) (Draws.list hh i2 b nb its2.toArray) hz hTI hTO ⟨rfl, h1, p⟩ ⟨h2, p2.isList⟩ (Nat.le_refl _) (by simp; omega) (.inl rfl) fin
    · have c2 : its2.length ≤ i := by omega
      have e2 : its2.toArray[i]? = none := by simp; omega
      exact wpAny_pyNext_zipD2_end (A := X.A) D (Draws.tuple hh i1 a na its.toArray) (endL hh e2) hz hTI hTO ⟨h1, p⟩ ⟨rfl, h2, p2.isList⟩ (by simp; omega) (Nat.le_refl _) (.inr rfl) fin
  self := fun A i s Q E st h => wpAny_pyIter_zip st.1 h
def iZipX (K : PySem.W.Frag) (ta : TA) : TI := fun σ H R => ta σ H fun vs H1 => ∃ a b xs ys, vs = [.ref a, .ref b] ∧ ((SqL K H1 a xs ∧ SqL K H1 b ys ∧ R (Itz K a b) H1) ∨ (SqT K H1 a xs ∧ SqL K H1 b ys ∧ R (ItzX K a b) H1))
theorem pi_zipX {X : Cx} {e e2 : Expr} {ta : TA} {p pos tpos : Pos} {elts : List Expr} {kk : Nat} (hg : Gl X "zip") (hm : X.mg "zip" = none) (ha : PA X [e, e2] ta)
    (hs : starEach [e, e2] X.env = (false, eval e X.env) :: starEach [e2] X.env := by rfl) (hpl : (backTo pos (starEach [e2] X.env)).any (·.1) = false := by rfl) :
    PI X (.Tuple elts kk tpos) (.Call (.Name "zip" p) [e, e2] [] pos) (iZipX X.K ta) := by
  refine ⟨fun pins s σ H R I h => ?_⟩
  refine Call_ (ld_blt I hg hm PyProof.Rows.boot_zip (PyProof.Rows.callWith_type1 (thn (ha.run pos pins s σ H _ I h) fun us s1 ⟨vs, H1, I1, r1, q1⟩ => ?_) hs hpl))
  obtain ⟨a, b, xs, ys, ex, q1⟩ := q1
  subst ex
  obtain ⟨u1, u2, rfl, ra, rb⟩ := vals2 r1
  cases (show u1 = Value.ref a from ra)
  cases (show u2 = Value.ref b from rb)
  have fresh5 : ∀ c, c ∈ [s1.heap.objs.size + 4, s1.heap.objs.size + 2, s1.heap.objs.size + 3, s1.heap.objs.size, s1.heap.objs.size + 1] → FpOk X pins H1 c := fun c hcm => by
    have e' : c = s1.heap.objs.size + 4 ∨ c = s1.heap.objs.size + 2 ∨ c = s1.heap.objs.size + 3 ∨ c = s1.heap.objs.size ∨ c = s1.heap.objs.size + 1 := by simpa using hcm
    have hle : s1.heap.objs.size ≤ c := by
      rcases e' with z | z | z | z | z
      · rw [z]; exact Nat.le_add_right _ _
      · rw [z]; exact Nat.le_add_right _ _
      · rw [z]; exact Nat.le_add_right _ _
      · rw [z]; exact Nat.le_refl _
      · rw [z]; exact Nat.le_add_right _ _
    exact I1.fpOk hle (I1.hok.fresh hle)
  rcases q1 with ⟨hqx, hqy, q⟩ | ⟨hqx, hqy, q⟩
  · obtain ⟨its, rv, p1, _⟩ := I1.list hqx
    obtain ⟨its2, rv2, p2, _⟩ := I1.list hqy
    refine call_zip_2 p1.isList p2.isList fun h' hz hTI hTO h1 h2 hsz hk => wpAny_pyIter_zip hz ?_
    have I2 : Inv X pins σ H1 { s1 with heap := h' } := I1.kept (t' := s1.toks) hk
    exact ⟨s1.heap.objs.size + 4, [s1.heap.objs.size + 4, s1.heap.objs.size + 2, s1.heap.objs.size + 3, s1.heap.objs.size, s1.heap.objs.size + 1], _, _, H1, rfl, I2, turn_zip (PySem.W.ktu_apart s1.heap.objs.size a b p1.lt p2.lt), ⟨hz, hTI, ⟨_, _, hTO⟩, h1, h2⟩, fresh5, q⟩
  · obtain ⟨its, rv, p1, _⟩ := I1.tuple hqx
    obtain ⟨its2, rv2, p2, _⟩ := I1.list hqy
    have pt : s1.heap.IsTuple a its.toArray := p1
    have al : a < s1.heap.objs.size := by obtain ⟨_, q, _⟩ := pt; exact Heap.lt_size q
    have bl : b < s1.heap.objs.size := p2.lt
    refine zip_begins2 (begins_tuple a its.toArray) (begins_list b its2.toArray) pt p2.isList fun h' hz hTI hTO h1 h2 hsz hk => wpAny_pyIter_zip hz ?_
    have I2 : Inv X pins σ H1 { s1 with heap := h' } := I1.kept (t' := s1.toks) hk
    exact ⟨s1.heap.objs.size + 4, [s1.heap.objs.size + 4, s1.heap.objs.size + 2, s1.heap.objs.size + 3, s1.heap.objs.size, s1.heap.objs.size + 1], _, _, H1, rfl, I2,
      turn_zipX (zip_sep2 (fun c hc => by cases List.mem_singleton.mp hc; exact al) (fun c hc => by cases List.mem_singleton.mp hc; exact bl)), ⟨hz, hTI, ⟨_, _, hTO⟩, ⟨_, h1, rfl, rfl⟩, ⟨_, h2, rfl, rfl⟩, Nat.ne_of_lt al, Nat.ne_of_lt (Nat.lt_succ_of_lt bl)⟩, fresh5, q⟩
theorem sql_mono {K : PySem.W.Frag} {F F' : Hp} (e : Same F F') {a : Addr} {xs : List V} (h : SqL K F a xs) : SqL K F' a xs := by
  rcases h with h | h
  · exact .inl (rd_mono e h)
  · exact .inr h
theorem itok_zipX {K : PySem.W.Frag} {mg : MG} {F : Hp} {a b : Addr} {ds es : List D} {vs ws : List V} (h1 : SqT K F a vs) (h2 : Reps K mg F ds vs) (g1 : SqL K F b ws) (g2 : Reps K mg F es ws) : ItOk K mg (ItzX K a b) (zipD ds es) F where
  go := fun i H e hi => by
    rw [zipD_len] at hi
    have hv : i < vs.length := by rw [h2.length]; omega
    have hw : i < ws.length := by rw [g2.length]; omega
    exact ⟨vs, ws, vs[i], ws[i], sqt_mono e h1, sql_mono e g1, List.getElem?_eq_getElem hv, List.getElem?_eq_getElem hw⟩
  stop := fun i H e hi => ⟨vs, ws, sqt_mono e h1, sql_mono e g1, by rw [zipD_len] at hi; rw [h2.length, g2.length]; omega⟩
  yld := by
    rintro i H v H' e hi ⟨T, x, y, rfl, hT, rfl, q1, q2⟩
    obtain ⟨d, hd, rd⟩ := h2.get' (q1 vs (sqt_mono e h1))
    obtain ⟨d2, hd2, rd2⟩ := g2.get' (q2 ws (sql_mono e g1))
    exact ⟨_, zipD_get hd hd2, .inr (.inl ⟨T, [d, d2], [x, y], rfl, hT, rfl, rfl, ⟨x, _, rfl, rd, y, _, rfl, rd2, rfl⟩⟩)⟩
def odZipX : List D → (List D → Prop) → Prop
  | [.lst ds, .lst es], Q => Q (zipD ds es)
  | [.tup ds, .lst es], Q => Q (zipD ds es)
  | _, _ => False
section
variable {X : Cx} {e e2 : Expr} {ta : AT} {p pos tpos : Pos} {elts : List Expr} {kk : Nat}
theorem di_zipX (hm : X.mg "zip" = none) (ha : DA X [e, e2] ta) (hg : Gl X "zip" := by rfl) (hs : starEach [e, e2] X.env = (false, eval e X.env) :: starEach [e2] X.env := by rfl) (hpl : (backTo pos (starEach [e2] X.env)).any (·.1) = false := by rfl) :
    DI X (.Tuple elts kk tpos) (.Call (.Name "zip" p) [e, e2] [] pos) (itN odZipX ta) := by
  intro W tk
  refine piI (pi_zipX hg hm (ha W tk) hs hpl) ?_
  rintro σ H R' ⟨io, env, F, O, Q, R, I, q, k, kX⟩
  refine ⟨io, env, F, O, _, R, I, q, ?_, kX⟩
  intro xs env1 F1 O1 H1 vs A1 r1 h1
  match xs, h1, r1 with
  | [.lst ds, .lst es], h1, r1 =>
    obtain ⟨v, _, rfl, ⟨a, vs, rfl, g1, g2⟩, w, _, rfl, ⟨b, ws, rfl, t1, t2⟩, rfl⟩ := r1
    exact ⟨a, b, vs, ws, rfl, .inl ⟨.inl (rd_mono A1.si.sub g1), .inl (rd_mono A1.si.sub t1), k _ env1 F1 O1 H1 _ A1 (itok_zip g1 g2 t1 t2) h1⟩⟩
  | [.tup ds, .lst es], h1, r1 =>
    obtain ⟨v, _, rfl, ⟨a, vs, rfl, g1, g2⟩, w, _, rfl, ⟨b, ws, rfl, t1, t2⟩, rfl⟩ := r1
    exact ⟨a, b, vs, ws, rfl, .inr ⟨.inl (.inl (A1.si.sub _ _ g1)), .inl (rd_mono A1.si.sub t1), k _ env1 F1 O1 H1 _ A1 (itok_zipX (.inl (.inl g1)) g2 (.inl t1) t2) h1⟩⟩
end
end DL
set_option Elab.async false
set_option linter.all false
set_option maxRecDepth 100000
/-! DN8: the data layer: frozen runs that end with tuples of plain things; a call whose first argument is a new container. -/
namespace DL
open PySem L2 PySem.Spec PyProof.Rows
variable [Tbs]
mutual
/-- tuples, down to plain things -/
def tupD : D → Bool
  | .tup ds => tupDs ds
  | .non => true | .bl _ => true | .int _ => true | .str _ => true
  | .lst _ => false | .dK _ => false | .dT _ => false | .obj _ _ => false | .fn _ => false | .ktu _ => false | .exn _ _ _ => false | .hole => false
def tupDs : List D → Bool
  | [] => true
  | d :: ds => tupD d && tupDs ds
end
abbrev tupsOf (H : Hp) : AP := fun a => ∃ vs, H a = some (.tup vs)
section
variable {K : PySem.W.Frag} {mg : MG} {F F' H' : Hp}
mutual
theorem rep_tup (sm : Same F' H') : ∀ {d : D} {v : V}, tupD d = true → Rep K mg F' d v → Rep K mg (laid F (tupsOf H') H') d v
  | .tup ds, _, h, ⟨a, vs, h1, h2, h3⟩ => ⟨a, vs, h1, by rw [laid_in (P := tupsOf H') ⟨vs, sm _ _ h2⟩]; exact sm _ _ h2, reps_tup sm h h3⟩
  | .non, _, _, h => h
  | .bl _, _, _, h => h
  | .int _, _, _, h => h
  | .str _, _, _, h => h
theorem reps_tup (sm : Same F' H') : ∀ {ds : List D} {vs : List V}, tupDs ds = true → Reps K mg F' ds vs → Reps K mg (laid F (tupsOf H') H') ds vs
  | [], _, _, h => h
  | d :: ds, _, h, ⟨v, r, h1, h2, h3⟩ =>
    have hh : tupD d = true ∧ tupDs ds = true := Bool.and_eq_true_iff.mp (by rw [tupDs] at h; exact h)
    ⟨v, r, h1, rep_tup sm hh.1 h2, reps_tup sm hh.2 h3⟩
end
end
def outFzT (d : D) (n : Nat) (Q : Qn) : Prop := match d with
  | .lst ds => match n with | 0 => False | _ + 1 => tupDs ds = true ∧ Q (.lst ds) 1
  | .tup ds => tupDs ds = true ∧ Q (.tup ds) 0
  | .non => Q .non 0
  | .bl b => Q (.bl b) 0
  | .int i => Q (.int i) 0
  | .str s => Q (.str s) 0
  | _ => False
def eFzT (t : ET) : ET := fun env Q _ => t (frzEnv env) (fun d n _ => outFzT d n fun d n => Q d n env) noX
theorem ros_tup {K : PySem.W.Frag} {mg : MG} {F F' H' : Hp} {n : Nat} (sm : Same F' H') : ∀ {ds : List D} {P : AP} {vs : List V}, tupDs ds = true → ROs (RepO K mg F' H' n) P ds vs → ROs (RepO K mg (laid F (tupsOf H') H') H' 0) P ds vs
  | [], _, _, _, h => h
  | d :: ds, _, _, h, ⟨v, r, P1, P2, h1, h2, h3, h4, h5, h6⟩ =>
    have hh : tupD d = true ∧ tupDs ds = true := Bool.and_eq_true_iff.mp (by rw [tupDs] at h; exact h)
    ⟨v, r, P1, P2, h1, h2, h3, h4, rep_tup sm hh.1 (by
      have h5 := h5
      cases d <;> first | (cases n <;> exact h5) | (cases (show false = true from hh.1))), ros_tup sm hh.2 h6⟩
theorem fzT_read {K : PySem.W.Frag} {mg : MG} {t : ET} {W : WX} : ∀ σ H Qh, rdE K mg (eFzT t) W σ H Qh → rdE K mg t W σ H Qh := by
  rintro σ H Qh ⟨io, env, F, O, Q, R, I, q, k, kx⟩
  have I2 : SI K mg io (frzEnv env) σ (noT H) (fun _ => none) H := ⟨fun a o z => (noT_some z).1, (fun a i z => by cases z), fun i b hb => by
    obtain ⟨b', h1, h2⟩ := frzEnv_get hb
    obtain ⟨v, g1, g2, g3⟩ := I.slot i b' h1
    subst h2
    exact ⟨v, g1, I.noT_rep g2, g3⟩, by rw [frzEnv_len]; exact I.len, I.noT_tab⟩
  refine ⟨io, frzEnv env, noT H, fun _ => none, _, noX, I2, q, ?_, fun x env' σ' F' O' H' cls dx A r z => z.elim⟩
  intro d n env' F' O' H' v P A T r z
  have sm : Same (noT H) H' := fun a o e => A.mv.fr a o (noT_some e).1 rfl fun _ => (noT_some e).2
  have A0 := (At.extT I sm A.mv.tb).ground (P := tupsOf H') fun a h => h
  have T0 : Tp O H (laid F (tupsOf H') H') O H' P := ⟨fun a p => by
    have hn : H a = none := by
      rcases T.nw a p with z | ⟨i, z⟩
      · exact z
      · cases z
    obtain ⟨_, _, o, ho, nt⟩ := T.t a p
    refine ⟨?_, I.freeO hn, o, ho, nt⟩
    rw [laid_out fun ⟨vs, hv⟩ => by rw [ho] at hv; cases hv; cases nt]
    exact I.freeF hn, fun a p => by
      rcases T.nw a p with z | ⟨i, z⟩
      · exact .inl z
      · cases z⟩
  have lf : ∀ d : D, d.leaf = true → RepO K mg F' H' n P d v → Q d 0 env → Qh v H' := fun d hl r q => k d 0 env _ O H' v P0 A0 Tp.none (leaf_rep (F := F') hl (leafO hl r)) q
  cases d with
  | non => exact lf .non rfl r z
  | bl b => exact lf (.bl b) rfl r z
  | int i => exact lf (.int i) rfl r z
  | str s => exact lf (.str s) rfl r z
  | tup ds =>
    have r' : Rep K mg F' (.tup ds) v := sh_tup r
    exact k (.tup ds) 0 env _ O H' v P0 A0 Tp.none (rep_tup A.si.sub (by rw [tupD]; exact z.1) r') z.2
  | lst ds =>
    cases n with
    | zero => exact z.elim
    | succ n =>
      obtain ⟨a, vs, P', h1, h2, h3, h4, h5, h6⟩ := r
      exact k (.lst ds) 1 env _ O H' v P A0 T0 ⟨a, vs, P', h1, h2, h3, h4, h5, ros_tup A.si.sub z.1 h6⟩ z.2
  | _ => exact z.elim
theorem de_fzT {X : Cx} {e : Expr} {t : ET} (h : DE X e t) : DE X e (eFzT t) := fun W tk => peI (h W tk) fzT_read
end DL
set_option Elab.async false
set_option linter.all false
set_option maxRecDepth 100000
/-! DN9: the data layer: a call whose first argument is a new container that the callee may turn. -/
namespace DL
open PySem L2 PySem.Spec PyProof.Rows
variable [Tbs]
section
variable {K : PySem.W.Frag} {mg : MG} {io : Nat → Option V} {env : DEnv} {σ : L2.St} {F F2 F' H H2 H' : Hp} {O O2 Oc O' : OW} {P : AP}
theorem call_tmp (A : At K mg io F O H env σ F2 O2 H2) (T : Tp O H F2 O2 H2 P) (m : Mv F2 Oc H2 F' O' H') (sub : Same F' H') (hOc : ∀ a i, Oc a = some i → P a) : At K mg io F O H env σ F' O2 H' ∧ ∀ P', Tp Oc H2 F' O' H' P' → Tp O H F' O2 H' P' := by
  have nP : ∀ {a i}, O2 a = some i → ¬ P a := fun {a i} e p => by rw [(T.t a p).2.1] at e; cases e
  have ocn : ∀ {a}, ¬ P a → Oc a = none := fun {a} p => by
    cases e : Oc a with
    | none => rfl
    | some i => exact absurd (hOc a i e) p
  have nw : ∀ {a}, P a → H a = none ∨ ∃ i, O a = some i := fun {a} p => T.nw a p
  have stay : ∀ {a i}, O2 a = some i → F' a = none ∧ ∀ o, H2 a = some o → H' a = some o := fun {a i} e => by
    obtain ⟨f0, o, h0, n0⟩ := A.si.own a i e
    refine ⟨?_, fun o h => m.fr a o h (ocn (nP e)) (okT_of (by rw [h] at h0; cases h0; exact n0))⟩
    cases z : F' a with
    | none => rfl
    | some u =>
      rcases m.fn a u z with z | z | ⟨j, z⟩ | ⟨vs, z⟩
      · rw [f0] at z; cases z
      · rw [h0] at z; cases z
      · exact absurd (hOc a j z) (nP e)
      · rw [h0] at z; cases z; cases n0
  refine ⟨⟨⟨A.mv.ff.trans m.ff, fun a o h q ok => ?_, fun a o h => ?_, A.mv.on, A.mv.tb.trans m.tb⟩, ⟨sub, fun a i e => ?_, fun i b hb => ?_, A.si.len, A.si.tab.mv (fun a i z => ⟨(T.t a (hOc a i z)).1, (T.t a (hOc a i z)).2.2⟩) m⟩⟩, fun P' T' => ⟨fun a p => ?_, fun a p => ?_⟩⟩
  · refine m.fr a o (A.mv.fr a o h q ok) (ocn fun p => ?_) ok
    rcases nw p with z | ⟨i, z⟩
    · rw [h] at z; cases z
    · rw [q] at z; cases z
  · rcases m.fn a o h with z | z | ⟨j, z⟩ | ⟨vs, z⟩
    · exact A.mv.fn a o z
    · exact .inr ((A.mv.back (.inl z)).imp id .inl)
    · exact .inr ((nw (hOc a j z)).imp id .inl)
    · cases e : H a with
      | none => exact .inr (.inl rfl)
      | some u =>
        cases q : O a with
        | some i => exact .inr (.inr (.inl ⟨i, rfl⟩))
        | none =>
          rcases A.mv.stay e q with y | ⟨_, _, _, y⟩
          · rw [z] at y
            exact .inr (.inr (.inr ⟨vs, y.symm⟩))
          · rw [z] at y; cases y
  · obtain ⟨f0, o, h0, n0⟩ := A.si.own a i e
    exact ⟨(stay e).1, o, (stay e).2 o h0, n0⟩
  · obtain ⟨v, g1, g2, g3⟩ := A.si.slot i b hb
    exact ⟨v, g1, g2.mono m.ff (fun a o p h => (stay p).2 o h) (fun _ x => x), g3⟩
  · obtain ⟨t1, t2, t3⟩ := T'.t a p
    refine ⟨t1, ?_, t3⟩
    cases e : O2 a with
    | none => rfl
    | some i =>
      obtain ⟨f0, o, h0, n0⟩ := A.si.own a i e
      rcases T'.nw a p with z | ⟨j, z⟩
      · rw [h0] at z; cases z
      · exact absurd (hOc a j z) (nP e)
  · rcases T'.nw a p with z | ⟨j, z⟩
    · exact A.mv.back (.inl z)
    · exact nw (hOc a j z)
end
def eCallT (m : Nat) (ms : Ms) (S : DSp) (te : ET) (t : AT) : ET := fun env Q R => te env (fun x n env1 => whenB (Nat.beq n m) (t env1 (fun ds env2 => noneArgs ms ds (S (x :: ds) { rt := fun d n _ => Q d n env2, ex := fun x _ => R x env2 })) R)) R
section
variable {X : Cx} {k : Nat} {ps : List Str} {ms : Ms} {S : DSp} {x : Str} {st : Stmt} {p pos : Pos} {e : Expr} {es : List Expr} {te : ET} {t : AT}
theorem dc_callT (m : Nat) (C : Cal X.prog X.w X.K X.mg X.base x st k ps (some m :: ms) S) (hr : Room k X.A) (he : DE X e te) (ha : DA X es t) (hg : Gl X x := by rfl) (hdb : (x == ("__debug__" : Str)) = false := by decide)
    (hs : starEach (e :: es) X.env = (false, eval e X.env) :: starEach es X.env := by rfl) (hpl : (backTo pos (starEach es X.env)).any (·.1) = false := by rfl) : DE X (.Call (.Name x p) (e :: es) [] pos) (eCallT m ms S te t) := by
  obtain ⟨f, fd, h1, h2, h3, h4⟩ := C
  intro W tk
  refine peI (pe_callSD (E := fun σ cls d H => W cls d σ H) h4 hr hg h2 h1.kp h3 .nil (fun σ => passAt tk σ) (pa_cons (he W tk) (ha W tk) hs) hdb hs hpl) ?_
  rintro σ H Qh ⟨io, env, F, O, Q, R, I, h, kQ, kX⟩
  refine ⟨io, env, F, O, _, R, I, h, ?_, kX⟩
  intro x n env1 F1 O1 H1 v P A1 T1 r1 q1
  obtain ⟨hn, qq⟩ := whenB_of q1
  obtain rfl := Nat.eq_of_beq_eq_true hn
  refine ⟨io, env1, F1, O1, _, R, A1.si, qq, ?_, kX.mv A1⟩
  intro ds env2 F2 O2 H2 vs A2 r2 q2
  have A12 := A1.trans A2
  have T2 := T1.mv A2.mv
  have r1' := RepO.mv T1 A2.mv r1
  classical
  have hOc : ∀ a i, (if P a then some 0 else none : Option Nat) = some i → P a := fun a i z => by
    by_cases p : P a
    · exact p
    · rw [if_neg p] at z; cases z
  obtain ⟨q3, ar⟩ := noneArgs_ok (j := 1) (H := H2) (O := fun a => if P a then some 0 else none) q2 r2
  show spOf X.K X.mg (some n :: ms) S (v :: (vs ++ [])) H2 Qh _
  rw [List.append_nil]
  refine ⟨F2, fun a => if P a then some 0 else none, x :: ds, _, A2.si.sub, fun a i z => ?_, A2.si.tab, ⟨x, ds, v, vs, rfl, rfl, r1'.mono (fun _ _ x => x) (fun _ _ _ x => x) fun a p => if_pos p, ar⟩, q3, fun d n os F' O' H' w P' m sub own out T r z => ?_, fun y os F' O' H' cls dx m sub own out r z => ?_⟩
  · have p := hOc a i z
    exact ⟨(T2.t a p).1, (T2.t a p).2.2⟩
  · obtain ⟨A3, T3⟩ := call_tmp A12 T2 m sub hOc
    exact kQ d n env2 F' O2 H' w P' A3 (T3 P' T) r z
  · obtain ⟨A3, _⟩ := call_tmp A12 T2 m sub hOc
    exact kX y env2 σ F' O2 H' cls dx A3 r z
end
end DL
set_option Elab.async false
set_option linter.all false
set_option maxRecDepth 100000
/-! DN10: the data layer: [e for k, v in d.items()], d a local dict with tuple keys. -/
namespace DL
open PySem L2 PySem.Spec PyProof.Rows
variable [Tbs]
/-- the pairs of the locked dict at d, each a new tuple of the key's own tuple and the value -/
def Itit (d : Addr) (o : Obj) (kvs : List (List Key × V)) : It :=
  ⟨fun i H => H d = some (.frz o (.dT kvs)) ∧ i < kvs.length, fun i H x H' => ∃ T q k v, kvs[i]? = some (k, v) ∧ x = .ref T ∧ H T = none ∧ H q = some (.tup (k.map kV)) ∧ H' = upd H T (.tup [.ref q, v]), fun i H => H d = some (.frz o (.dT kvs)) ∧ kvs.length ≤ i⟩
theorem frzT2 {X : Cx} {pins : List (Addr × Obj)} {σ : L2.St} {H : Hp} {s : Shared} {d : Addr} {o : Obj} {kvs : List (List Key × V)} (I : Inv X pins σ H s) (h : H d = some (.frz o (.dT kvs))) :
    (d == sysModules) = false ∧ s.heap.get? d = some o ∧ o.ExactDict ∧ ∃ (es : Array DictEntry) (ep : Nat), o.data = .dict es ep ∧ es.size = kvs.length ∧
      ∀ (i : Nat) (k : List Key) (v : V), kvs[i]? = some (k, v) → ∃ (en : DictEntry) (q : Addr), es[i]? = some en ∧ en.key = .ref q ∧ H q = some (.tup (k.map kV)) ∧ RelV v en.val := by
  obtain ⟨hd, z, hs, xs, pr, o', es, ep, ho, hx, hdt, he, _⟩ := I.hok d _ h
  rw [hd] at ho
  cases ho
  refine ⟨hs, hd, hx, es, ep, hdt, ?_, fun i k v e => ?_⟩
  · have l1 : es.size = xs.length := size_of_entries he
    have l2 : kvs.length = xs.length := Paired.length pr
    omega
  · obtain ⟨b, hb, e1, e2, e3⟩ := paired_get pr e
    have q := entry_at he i
    rw [hb] at q
    exact ⟨_, b.2.1, q, rfl, e2, e3⟩
theorem turn_itemsT {P : Program} {w : World} {K : PySem.W.Frag} {d : Addr} {o : Obj} {es : Array DictEntry} {ep : Nat} {kvs : List (List Key × V)} {elts : List Expr} {kk : Nat} {tpos : Pos} (it : Addr) (hod : o.data = .dict es ep) :
    Turn P w K (.Tuple elts kk tpos) (Itit d o kvs) [it] it (fun i h => ∃ ok ov, IsItemIter h it d i kvs.length ep ok ov) where
  mem := by simp
  obj := fun i h st b hb => by
    have e : b = it := by simpa using hb
    subst e
    obtain ⟨ok, ov, e⟩ := st
    exact ⟨_, e, fun v z => nomatch z⟩
  keep := fun i h h' st k => let ⟨ok, ov, e⟩ := st; ⟨ok, ov, k it (by simp) _ e⟩
  item := by
    intro X hP hw hK hc i pins s σ H E I hf st hg
    subst hP hw hK
    obtain ⟨hd, hi⟩ := hg
    obtain ⟨hs, hgd, hx, es', ep', hdt, hsz, ent⟩ := frzT2 I hd
    obtain ⟨rfl, rfl⟩ := dict_ep hod hdt
    obtain ⟨⟨k, v⟩, hkv⟩ : ∃ p, kvs[i]? = some p := ⟨kvs[i], List.getElem?_eq_getElem hi⟩
    obtain ⟨en, q, hen, hkey, hq, rv⟩ := ent i k v hkv
    obtain ⟨ok, ov, he⟩ := st
    rw [← hsz] at he
    have hlt : it < s.heap.objs.size := Heap.lt_size he
    have hie : i < es'.size := by omega
    refine DT.nextI he ⟨o, hgd, hx, hdt⟩ hie fun h' ho hT hz hk => ?_
    have een : es'[i] = en := by rw [Array.getElem?_eq_getElem hie] at hen; exact Option.some.inj hen
    rw [een, hkey] at ho hT
    refine ⟨_, rfl, wpAny_letOwnedTupleGo_items (s := { s with heap := h' }) ho fun h'' he' sb => ?_⟩
    have hT2 : h''.get? s.heap.objs.size = some { cls := .type "tuple", data := .seq #[.ref q, en.val] } := (sb.2 _ (Nat.ne_of_gt hlt)).trans hT
    have new : ObjOk X.prog X.w (upd H s.heap.objs.size (.tup [.ref q, v])) h'' s.heap.objs.size (.tup [.ref q, v]) :=
      ⟨by show 2 ≤ sizeLine; decide, [.ref q, en.val], .cons rfl (.cons rv .nil), ⟨_, hT2, rfl, _, rfl⟩⟩
    have I1 : Inv X pins σ (upd H s.heap.objs.size (.tup [.ref q, v])) { s with heap := h'' } :=
      I.turnedNew (t' := s.toks) (ch := [it]) (fun b ob hb e => (sb.2 b (by simpa using hb)).trans (hk b ob (by simpa using hb) e)) hf (Nat.le_refl _) new
    refine ⟨.ref s.heap.objs.size, _, I1, rfl, ⟨_, q, k, v, hkv, rfl, I.hok.fresh (Nat.le_refl _), hq, rfl⟩, ⟨.ref q, en.val, ?_⟩, fun b hb => ?_⟩
    · rw [← hsz]; exact he'
    · have e : b = it := by simpa using hb
      rw [e, upd_ne (Nat.ne_of_lt hlt)]
      exact (hf it (by simp)).1
  done := by
    intro X hP hw hK hc i pins s σ H E I hf st hg
    subst hP hw hK
    obtain ⟨hd, hi⟩ := hg
    obtain ⟨f0, f1, f2, f3, f4, f5⟩ := hf it (by simp)
    obtain ⟨hs, hgd, hx, es', ep', hdt, hsz, ent⟩ := frzT2 I hd
    obtain ⟨rfl, rfl⟩ := dict_ep hod hdt
    obtain ⟨ok, ov, he⟩ := st
    rw [← hsz] at he
    exact DT.endI (I.ok.hd hc) he ⟨o, hgd, hx, hdt⟩ (by omega) fun h' eb => ⟨rfl, I.turned (t' := s.toks) (fun b ob hb e => eb b ob hb e) f0 f1 f3 f4 f5⟩
  self := fun A i s Q E st h => let ⟨_, _, e⟩ := st; PySem.W.kcp_self e h
def iItemsT (td : TE) : TI := fun σ H R => td σ H fun x H1 => ∃ d o kvs, x = .ref d ∧ H1 d = some (.frz o (.dT kvs)) ∧ R (Itit d o kvs) H1
section
variable {X : Cx} {e : Expr} {td : TE} {apos cpos tpos : Pos} {elts : List Expr} {kk : Nat}
theorem pi_itemsT (he : PE X e td) (hbase : attributeBase e "items" X.env (eval e X.env) = eval e X.env := by rfl) (hline : (apos.endLine == cpos.line) = true := by rfl) :
    PI X (.Tuple elts kk tpos) (.Call (.Attribute e "items" apos) [] [] cpos) (iItemsT td) := by
  refine ⟨fun pins s σ H R I h => ?_⟩
  refine wpAny_Call_method (T := "dict") (id := "dict.items") hbase rfl hline F.plainAttrs_dict F.slot_dict_items F.type_dict_items (thn (he.run pins s σ H _ I h) fun u s1 ⟨x, H1, I1, rx, d, o, kvs, ex, hd, q⟩ => ?_)
  subst ex
  obtain rfl : u = Value.ref d := rx
  obtain ⟨hs, hgd, hx, es, ep, hdt, hsz, _⟩ := frzT2 I1 hd
  have raw : DT.Raw s1.heap d es ep := ⟨o, hgd, hx, hdt⟩
  refine ⟨raw.typeIs, fun b eb => by cases eb; exact ⟨o, hgd, hx.2.1⟩, ?_⟩
  have I2 : Inv X pins σ H1 { s1 with heap := s1.heap.push { cls := .type "dict_items", data := .fields #[.ref d] } } := I1.kept (t' := s1.toks) fun b ob q => Heap.get?_push_of_some _ q
  have fin : wpAny (model X.prog X.w) X.A (pyIter (.ref s1.heap.objs.size)) (PIE X pins σ (.Tuple elts kk tpos) R) X.xe { s1 with heap := s1.heap.push { cls := .type "dict_items", data := .fields #[.ref d] } } := by
    refine DT.iterI (d := d) (es := es) (ep := ep) ⟨_, Heap.get?_push_size _ rfl, rfl, rfl⟩ (raw.push _) (pi_one (tk := s1.toks) I2 _ (turn_itemsT _ hdt) ⟨.none, .none, ?_⟩ q)
    rw [← hsz]
    exact Heap.get?_push_size _ rfl
  show wpAny _ _ (callWith cpos (.builtin "dict.items") [.ref d] [] []) _ X.xe s1
  exact method_meetsIn F.slot_dict_items F.entry_dict_items rfl (PySem.evalArgs_none ⟨rfl, raw.typeIs, F.args_dict_items_1 _, _, DT.meetsItems (es := es) (ep := ep) hs, raw, fin⟩)
end
/-- the pairs as data -/
def itemsD (kvs : List (List Key × D)) : List D := kvs.map fun kv => .tup [.tup (kv.1.map kD), kv.2]
theorem itok_itemsT {K : PySem.W.Frag} {mg : MG} {F : Hp} {d : Addr} {o : Obj} {kvs : List (List Key × D)} {vs : List (List Key × V)} (h1 : F d = some (.frz o (.dT vs))) (h2 : RepT K mg F kvs vs) : ItOk K mg (Itit d o vs) (itemsD kvs) F := by
  obtain ⟨hk, hr⟩ := RepT.keys h2
  have hl : vs.length = kvs.length := by have := congrArg List.length hk; simpa using this.symm
  refine ⟨fun i H e hi => ⟨e _ _ h1, by rw [itemsD, List.length_map] at hi; omega⟩, fun i H e hi => ⟨e _ _ h1, by rw [itemsD, List.length_map] at hi; omega⟩, ?_⟩
  rintro i H v H' e hi ⟨T, q, k, u, hkv, rfl, hT, hq, rfl⟩
  have hu : (vs.map (·.2))[i]? = some u := by rw [List.getElem?_map, hkv]; rfl
  obtain ⟨x, hx, rx⟩ := hr.get' hu
  have e1 : (kvs.map (·.1))[i]? = some k := by rw [hk, List.getElem?_map, hkv]; rfl
  rw [List.getElem?_map] at e1 hx
  cases ek : kvs[i]? with
  | none => rw [ek] at e1; cases e1
  | some p =>
    rw [ek] at e1 hx
    have e1 : p.1 = k := Option.some.inj e1
    have e2 : p.2 = x := Option.some.inj hx
    have sm : Same F (laid F (fun a => a = q) H) := laid_same fun a ob h _ => e _ _ h
    refine ⟨.tup [.tup (p.1.map kD), p.2], by rw [itemsD, List.getElem?_map, ek]; rfl, .inr (.inr ⟨fun a => a = q, T, _, _, rfl, hT, rfl, rfl, fun a ha => by subst ha; exact ⟨_, hq⟩, ?_⟩)⟩
    refine ⟨.ref q, _, rfl, ⟨q, _, rfl, (laid_in (P := fun a => a = q) rfl).trans hq, ?_⟩, u, _, rfl, by rw [e2]; exact rx.mono sm, rfl⟩
    rw [e1]
    exact reps_kd k
def itemsOf (d : D) (k : List D → Prop) : Prop := match d with
  | .dT kvs => k (itemsD kvs)
  | _ => False
/-- [e for k, v in d.items() if ..], d a local that bears a dict with tuple keys -/
def eLcIT (i : Nat) (g : Tg) (tt : TTd) (te : ET) (vs : List Nat) : ET := fun env Q _ => match gt env i with
  | some b => itemsOf b.d fun items => lcD g tt te vs items [] (wipeD (env.set i (some { b with n := 0 })) vs) Q
  | none => False
theorem itemsOf_of {d : D} {k : List D → Prop} (h : itemsOf d k) : ∃ kvs, d = .dT kvs ∧ k (itemsD kvs) := by cases d <;> first | exact ⟨_, rfl, h⟩ | exact h.elim
section
variable {X : Cx} {elt : Expr} {ifs : List Expr} {scope : Scope} {vs : List Nat} {g : Tg} {tt : TTd} {te : ET} {pos px apos cpos tpos : Pos} {x : Str} {elts : List Expr} {kk : Nat}
theorem de_lcIT (i : Nat) (own : List (Str × Nat)) (hc : X.calm = true) (hN : X.N.Nodup) (ok : BlkOk X.N X.env.scope scope own)
    (hg : ∀ (s : Shared) (H : Hp) (C : Addr) (cl : List (Str × Addr)) (fp : List Addr), DGt (X.blk s H scope (compEnvC scope cl C X.env) fp) (.Tuple elts kk tpos) g)
    (ht : ∀ (s : Shared) (H : Hp) (C : Addr) (cl : List (Str × Addr)) (fp : List Addr), DPTs (X.blk s H scope (compEnvC scope cl C X.env) fp) ifs tt)
    (he : ∀ (s : Shared) (H : Hp) (C : Addr) (cl : List (Str × Addr)) (fp : List Addr), DE (X.blk s H scope (compEnvC scope cl C X.env) fp) elt te)
    (hv : own.map (·.2) = vs := by rfl) (hsl : ∀ i ∈ g.slots, i ∈ vs := by decide) (hs : ∀ z, foldedSetIterable (.Call (.Attribute (.Name x px) "items" apos) [] [] cpos) X.env z = pure z := by intro _; rfl) (hNi : X.N[i]? = some x := by rfl)
    (hvi : Vis X.env.scope x := by first | exact Or.inl rfl | exact Or.inr (Or.inl rfl) | exact Or.inr (Or.inr rfl)) (hd : (x == ("__debug__" : Str)) = false := by decide) (hcd : (x == ("__classdict__" : Str)) = false := by decide)
    (hbase : attributeBase (.Name x px) "items" X.env (eval (.Name x px) X.env) = eval (.Name x px) X.env := by rfl) (hline : (apos.endLine == cpos.line) = true := by rfl) :
    DE X (.ListComp elt [⟨.Tuple elts kk tpos, .Call (.Attribute (.Name x px) "items" apos) [] [] cpos, ifs, 0⟩] scope pos) (eLcIT i g tt te vs) := by
  subst hv
  intro W tk
  have base := pe_lc (pos := pos) (g := rdG X.K X.mg g) (tt := rdT X.K X.mg tt fun _ _ _ _ => False) (te := rdE X.K X.mg te fun _ _ _ _ => False) hc hN (pi_itemsT (elts := elts) (kk := kk) (tpos := tpos) (pe_var hNi hvi hd hcd) hbase hline) ok hg (fun s H C cl fp => ht s H C cl fp _ takes00) (fun s H C cl fp => he s H C cl fp _ takes00) hs
  refine peI (pe_either (pe_lock base) base) ?_
  rintro σ H Qh ⟨io, env, F, O, Q, R, I, h, kQ, kX⟩
  unfold eLcIT at h
  cases eb : gt env i with
  | none => rw [eb] at h; exact h.elim
  | some b =>
    rw [eb] at h
    obtain ⟨kvs, hd', h⟩ := itemsOf_of h
    obtain ⟨A0, v, h1, r⟩ := (At.start I).fzSlot (gt_some eb)
    rw [hd'] at r
    obtain ⟨a, ws, rfl, rr, rk⟩ := r
    have kQ0 := kQ.mv A0
    rcases rr with rr | ⟨o, rr⟩
    · refine .inl ⟨a, .dT ws, A0.si.sub _ _ rr, True.intro, fun od => ?_⟩
      have I1 := A0.si.lock (od := od) rr rfl
      refine ⟨.ref a, h1, a, od, ws, rfl, upd_same, ?_⟩
      intro L hL
      exact lc_rest hsl (KE.lock A0.si rr rfl kQ0) (At.start I1) (itok_itemsT upd_same (RepT.sees (sees_lock rr rfl) rk)) h L hL
    · refine .inr ⟨.ref a, h1, a, o, ws, rfl, A0.si.sub _ _ rr, ?_⟩
      intro L hL
      exact lc_rest hsl kQ0 (At.start A0.si) (itok_itemsT rr rk) h L hL
end
end DL
set_option Elab.async false
set_option linter.all false
set_option maxRecDepth 100000
/-! DN11: the data layer: x += int; a, b = e, f by way of a tuple. -/
namespace DL
open PySem L2 PySem.Spec PyProof.Rows
variable [Tbs]
def augI (g : Int → Int → Int) (i : Nat) (x y : D) (env : DEnv) (k : DEnv → Prop) : Prop := match x, y with
  | .int a, .int c => k (env.set i (some ⟨.int (g a c), 0, false⟩))
  | _, _ => False
def sdAug (g : Int → Int → Int) (i : Nat) (te : PUT) : SD := fun env D => match gt env i with
  | some b => te env fun y => augI g i b.d y env D.nx
  | none => False
section
variable {X : Cx} {i : Nat} {x : Str} {e : Expr} {te : PUT} {pos pos' : Pos} {op : Operator} {g : Int → Int → Int}
theorem ds_aug (ho : PIp X op (ipI g)) (hN : X.N.Nodup) (he : PU X e te) (hi : X.N[i]? = some x := by rfl) (hx : Loc X.env.scope x := by first | exact Or.inl rfl | exact Or.inr rfl) (hf : X.fn x = true ∨ X.env.scope.names.lookup x = some .local := by first | exact .inl rfl | exact .inr rfl) :
    DS X (.AugAssign (.Name x pos') op e pos) (sdAug g i te) := by
  intro W tk
  refine psI (ps_aug hN hi hx he ho hf) ?_
  rintro Dn σ H ⟨io, env, F, O, D, I, h, k1, k2, k3, k4, k5⟩
  unfold sdAug at h
  cases e0 : gt env i with
  | none => rw [e0] at h; exact h.elim
  | some b =>
    rw [e0] at h
    obtain ⟨v, s1, s2, s3⟩ := I.slot i b (gt_some e0)
    refine ⟨v, s1, io, env, F, O, _, I, h, fun y w H1 e1 r1 h1 => ?_⟩
    obtain ⟨bd, bn, bio⟩ := b
    cases bd <;> first | exact (show False from h1).elim | skip
    cases y <;> first | exact (show False from h1).elim | skip
    rename_i a c
    have ev : v = .int a := by cases bn <;> exact s2
    cases (show w = _ from r1)
    subst ev
    exact ⟨a, c, rfl, rfl, k1 _ _ _ _ _ (((At.start I).ext e1).set (n := 0) (P := P0) (d := .int (g a c)) Tp.none rfl) h1⟩
theorem ds_add (hN : X.N.Nodup) (he : PU X e te) (hi : X.N[i]? = some x := by rfl) (hx : Loc X.env.scope x := by first | exact Or.inl rfl | exact Or.inr rfl) (hf : X.fn x = true ∨ X.env.scope.names.lookup x = some .local := by first | exact .inl rfl | exact .inr rfl) :
    DS X (.AugAssign (.Name x pos') .Add e pos) (sdAug (fun a c => a + c) i te) := ds_aug ip_add hN he hi hx hf
theorem ds_subA (hN : X.N.Nodup) (he : PU X e te) (hi : X.N[i]? = some x := by rfl) (hx : Loc X.env.scope x := by first | exact Or.inl rfl | exact Or.inr rfl) (hf : X.fn x = true ∨ X.env.scope.names.lookup x = some .local := by first | exact .inl rfl | exact .inr rfl) :
    DS X (.AugAssign (.Name x pos') .Sub e pos) (sdAug (fun a c => a - c) i te) := ds_aug ip_sub hN he hi hx hf
end
section
variable {X : Cx} {i j : Nat} {x y : Str} {a b : Expr} {ta tb : ET} {px py pt pos : Pos} {kt k2 : Nat} {pt2 : Pos}
theorem ds_parT (hc : X.calm = true) (hN : X.N.Nodup) (ha : DE X a ta) (hb : DE X b tb) (hi : X.N[i]? = some x := by rfl) (hj : X.N[j]? = some y := by rfl)
    (hx : Loc X.env.scope x := by first | exact Or.inl rfl | exact Or.inr rfl) (hy : Loc X.env.scope y := by first | exact Or.inl rfl | exact Or.inr rfl)
    (hfx : X.fn x = true ∨ X.env.scope.names.lookup x = some .local := by first | exact .inl rfl | exact .inr rfl) (hfy : X.fn y = true ∨ X.env.scope.names.lookup y = some .local := by first | exact .inl rfl | exact .inr rfl)
    (s1 : starEach [a, b] X.env = (false, eval a X.env) :: starEach [b] X.env := by rfl) (s2 : starEach [b] X.env = (false, eval b X.env) :: starEach [] X.env := by rfl)
    (hs : swapsWithSole [.Tuple [.Name x px, .Name y py] kt pt] (.Tuple [a, b] k2 pt2) pos.line X.env = pure false := by rfl) (hw : swappedStores [.Tuple [.Name x px, .Name y py] kt pt] (.Tuple [a, b] k2 pt2) X.env = pure none := by rfl)
    (h1 : List.map (fun x => x.snd) (assignEach [.Tuple [.Name x px, .Name y py] kt pt] X.env) = [assign (.Tuple [.Name x px, .Name y py] kt pt) X.env] := by rfl)
    (q1 : (assignEach (.Name x px :: [.Name y py]) X.env).map (·.2) = assign (.Name x px) X.env :: (assignEach [.Name y py] X.env).map (·.2) := by rfl) (q2 : (assignEach (.Name y py :: []) X.env).map (·.2) = assign (.Name y py) X.env :: (assignEach [] X.env).map (·.2) := by rfl)
    (hn : (assignEach [.Name x px, .Name y py] X.env).length = 2 := by rfl) (hst : (assignEach [.Name x px, .Name y py] X.env).findIdx? (·.1) = none := by rfl) :
    DS X (.Assign [.Tuple [.Name x px, .Name y py] kt pt] (.Tuple [a, b] k2 pt2) pos) (sdPar i j ta tb) := by
  intro W tk
  refine psI (ps_asg (pe_tup (pa_cons (ha W tk) (pa_cons (hb W tk) pa_nil s2) s1)) (pg_tup hc (pgs_cons (pg_name hN hi hx hfx) (pgs_cons (pg_name hN hj hy hfy) pgs_nil q2) q1) hn hst) hs hw (h1 := h1)) ?_
  rintro Dn σ H ⟨io, env, F, O, D, I, h, k1, k2, k3, k4, k5⟩
  refine ⟨io, env, F, O, _, _, I, h, ?_, k5⟩
  intro d n env1 F1 O1 H1 v P A1 T1 r1 h1
  refine ⟨io, env1, F1, O1, _, _, A1.si, h1, ?_, k5.mv A1⟩
  intro e m env2 F2 O2 H2 w P2 A2 T2 r2 h2
  refine ⟨by show 2 ≤ sizeLine; decide, fun p hp => ?_⟩
  have A := (A1.trans A2).ext (same_upd (o := .tup [v, w]) hp)
  have M : Mv F2 O2 H2 F2 O2 (upd H2 p (.tup [v, w])) := ((At.start A2.si).ext (same_upd hp)).mv
  have T1' := (T1.mv A2.mv).mv M
  have T2' := (Tp.after A1.mv T2).mv M
  refine ⟨p, [v, w], rfl, .inl (.inl upd_same), rfl, v, [w], rfl, w, [], rfl, rfl, ?_⟩
  exact k1 _ _ _ _ _ ((A.set (i := i) T1' ((r1.mv T1 A2.mv).mv (T1.mv A2.mv) M)).set (i := j) (T1'.putO T2' (T1.disj T2)) (r2.mv T2 M)) h2
end
end DL
set_option Elab.async false
set_option linter.all false
set_option maxRecDepth 100000
set_option maxHeartbeats 2000000
/-! DE1: try with several clauses that bind names (turned from HandS's clauses without names and its one clause with a name). -/
namespace DL
open PySem PySem.Spec PyProof.Rows L2 L2N
variable [Tbs]
/-- what the clauses wish of an exception of the body, one after the other; each binds its slot -/
def wNames (K : PySem.W.Frag) (Wout : WX) (D : Ends) : List (Value × Nat × (Addr → Value → Option Addr → TS)) → WX
  | [] => Wout
  | (c, i, ts) :: r => fun cls d σ H => ∃ b, PySem.W.exmOne K cls c = some b ∧
    (b = true → ∀ a, H a = none → ts a cls d { nx := fun σ' H' => D.nx (σ'.set i none) H', rt := D.rt, bk := fun σ' H' => D.bk (σ'.set i none) H', ct := fun σ' H' => D.ct (σ'.set i none) H' } (σ.set i (some (.ref a))) H) ∧ (b = false → wNames K Wout D r cls d σ H)
inductive HdsN (X : Cx) : List ExceptHandler → List (Value × Nat × (Addr → Value → Option Addr → TS)) → Prop
  | nil : HdsN X [] []
  | cons {x n : Str} {c : Value} {i : Nat} {ts : Addr → Value → Option Addr → TS} {b₀ : Stmt} {suite : List Stmt} {np pos' : Pos} {hds : List ExceptHandler} {l : List (Value × Nat × (Addr → Value → Option Addr → TS))} (hN : X.N.Nodup) (hi : X.N[i]? = some n) (hln : X.env.kindOf n = some .local) (hc : Names X x c)
      (hsu : ∀ (a : Addr) (oe : Obj) (cls : Value) (d : Option Addr) (pn : List (Addr × Obj)), Zn cls d oe → (∃ vs, oe.data = .fields vs) → PSs (X.suite a ((a, oe) :: pn)) (b₀ :: suite) (ts a cls d)) (r : HdsN X hds l) :
      HdsN X (.ExceptHandler (some (.Name x np)) (some n) (b₀ :: suite) pos' :: hds) ((c, i, ts) :: l)
section
variable {X : Cx} {body : List Stmt} {h₀ : ExceptHandler} {hds : List ExceptHandler} {l : List (Value × Nat × (Addr → Value → Option Addr → TS))} {pos : Pos} {tb : WX → TS} {Wout : WX}
theorem ps_try_names (hs : X.stack = X.env :: X.outer) (hf : X.env.frame = some X.env.locals) (tk : Takes X Wout)
    (hb : ∀ (W : WX) (pn : List (Addr × Obj)) (xe : Value → Shared → Prop), Takes (X.tr pn xe) W → PassesOwn (model X.prog X.w) X.A X.env xe → PSs (X.tr pn xe) body (tb W))
    (hh : HdsN X (h₀ :: hds) l) : PS X (.Try body (h₀ :: hds) [] [] pos) (fun D σ H => tb (wNames X.K Wout D l) D σ H) := by
  refine ⟨fun pins s σ H D I h => ?_⟩
  have ok := I.ok
  have hfr : X.A.frames = some (X.env :: X.outer) := by rw [ok.frames, hs]
  refine wpAny_Try_except ?_
  refine wpAny_mono ((hb (wNames X.K Wout D l) (X.pn ++ pins) (fun e s₁ => wpAny (model X.prog X.w) X.A (noteFrame e X.env) (fun _ s₂ => wpAny (model X.prog X.w) X.A (setFlight e none) (fun _ s₃ =>
    wpAny (model X.prog X.w) X.A (handleBy e X.env (h₀ :: hds)) (SP X pins D) X.xe s₃) X.xe s₂) X.xe s₁) (fun u s' xx => ?_) PassesOwn.looking).run [] s σ H D (I.toTry _) h) (fun f s1 hsp => ?_) (fun e s1 he => he)
  · -- the catch
    obtain ⟨a, B, sI, pins', σ', H', cls, d, rfl, J', nb, up, sky, na, os, ag, w⟩ := xx
    have J : Inv X pins σ' H' sI := J'.ofTry ok
    have sky' : Sky B (X.env :: X.outer) a (Zn cls d) X.env.locals s'.heap := by rw [← hs]; exact sky
    show wpAny (model X.prog X.w) X.A (noteFrame (.ref a) X.env) _ _ _
    refine Sky.land Zn.steady hfr hf sky' fun h3 fl3 up3 => ?_
    have J3 : Inv X pins σ' H' { s' with heap := h3 } := J.landed nb fl3.1 (up.trans up3) os ag
    obtain ⟨oe3, vs3, he3, hz3, hd3⟩ := fl3.there
    have notFr : ∀ {h : Heap} {o : Obj} {vs : Array Value}, h.FunFrames B (X.env :: X.outer) → h.get? a = some o → o.data = .fields vs → a ∉ frs (X.env :: X.outer) := fun {h o vs} ff e dd hm => by
      obtain ⟨_, o', e', hnf⟩ := ff.mem hm
      rw [e] at e'; cases e'
      exact hnf _ dd
    have nfr := notFr fl3.2.2.1 he3 hd3
    have nL : a ≠ X.env.locals := fun z => nfr (List.mem_filterMap.mpr ⟨X.env, List.mem_cons_self, by rw [hf, z]⟩)
    have nF : a ∉ X.fs := fun hm => by
      obtain ⟨e, he, q⟩ := List.mem_filterMap.mp hm
      exact nfr (List.mem_filterMap.mpr ⟨e, List.mem_cons_of_mem _ he, q⟩)
    have S3 := J3.suite he3 hd3 na nL nF
    have go : ∀ {hds' : List ExceptHandler} {l' : List (Value × Nat × (Addr → Value → Option Addr → TS))}, HdsN X hds' l' → wNames X.K Wout D l' cls d σ' H' →
        wpAny (model X.prog X.w) X.A (handleBy (.ref a) X.env hds') (SP X pins D) X.xe { s' with heap := h3 } := by
      intro hds' l' hk
      induction hk with
      | nil =>
        intro w
        refine wpAny_handleBy_nil ?_
        obtain ⟨k1, k2, k3, oe, vs, T, oT, ts', he, hz, hd, h1, hr⟩ := id fl3
        unfold PySem.passOn
        refine wpAny_bind (wpAny_field he hd h1 ?_)
        rw [if_neg (show ¬ ((Value.ref T == Value.none) = true) from by simp)]
        have fin : wpAny (model X.prog X.w) X.A (setFlight (.ref a) X.env.frame) (fun _ s4 => wpAny (model X.prog X.w) X.A (throw (.ref a) : Sem Flow) (SP X pins D) X.xe s4) X.xe { s' with heap := h3 } := by
          rw [hf]
          refine HandSPX.setFlight_upZ fl3 fun h4 hh4 up4 => wpAny_throw (tk _ _ ?_)
          exact ⟨a, B, sI, pins, σ', H', cls, d, rfl, J, nb, (up.trans up3).trans up4, .inr (.inr (by rw [hs]; exact hh4)), na, os, ag, w⟩
        first
          | exact wpAny_bind (wpAny_pure (wpAny_bind fin))
          | exact wpAny_bind fin
      | @cons x n c i ts b₀ suite np pos' hds2 l2 hN hi hln hc hsu r ih =>
        intro w
        obtain ⟨b, hb1, hyes, hno⟩ := w
        refine wpAny_handleBy_cons (codeAny_handlers_test ?_) (by intro q; cases q)
        have LT : PySem.W.Looks (model X.prog X.w) h3 (typeOf (.ref a)) cls := fun A Q E s k q => wpAny_typeOf_ref (k _ _ he3) (by rw [hz3.1]; exact q)
        have LM := PySem.W.exm_one (M := model X.prog X.w) (J3.kIn) LT hb1
        have test : ∀ {Q : Value → Shared → Prop} {E : Value → Shared → Prop}, Q c { s' with heap := h3 } → wpAny (model X.prog X.w) (X.A.mark (some (.ref a))) (eval (.Name x np) X.env) Q E { s' with heap := h3 } := fun {Q E} q => by
          obtain ⟨hg, hdbg, hm | ⟨hm, hv, hnn⟩⟩ := hc
          · exact ld_glob (X := X.suite a ((a, oe3) :: (X.pn ++ pins))) S3 hg hm q hdbg
          · exact ld_blt (X := X.suite a ((a, oe3) :: (X.pn ++ pins))) S3 hg hm hv q hnn hdbg
        refine test (LM.here ?_)
        cases b with
        | true =>
          have hloc : Loc X.env.scope n := .inl hln
          refine codeAny_handlers_suite_as ?_
          refine HandSPX.lands_againZ fl3 fun h4 fl4 up4 => ?_
          have J4 : Inv X pins σ' H' { s' with heap := h4 } := J.landed nb fl4.1 ((up.trans up3).trans up4) os ag
          obtain ⟨oe4, vs4, he4, hz4, hd4⟩ := fl4.there
          have S4 := J4.suite he4 hd4 na nL nF
          refine store_ok (X := X.suite a ((a, oe4) :: (X.pn ++ pins))) (v := .ref a) S4 hN hi hloc rfl (fun s5 S5 => ?_) (.inr hln)
          refine wpAny_mono ((hsu a oe4 cls d (X.pn ++ pins) hz4 ⟨_, hd4⟩).run [] s5 _ H' _ S5 (hyes rfl a na)) (fun f s6 hsp => ?_) (fun _ _ z => False.elim z)
          have end_ : ∀ {σ6 : L2.St} {H6 : Hp} {Q : Shared → Prop}, Inv (X.suite a ((a, oe4) :: (X.pn ++ pins))) [] σ6 H6 s6 → (∀ s7, Inv X pins (σ6.set i none) H6 s7 → Q s7) →
              wpAny (model X.prog X.w) X.A (do bindName X.env n .none; unbindBehindTheSuite X.env n pos') (fun _ s7 => Q s7) X.xe s6 := fun {σ6 H6 Q} S6 hq => gone_ok (S6.unsuite ok) hN hi hln hq
          cases f with
          | next =>
            obtain ⟨σ6, H6, S6, q6⟩ := hsp
            exact end_ S6 fun s7 J7 => ⟨_, _, J7, q6⟩
          | brk =>
            obtain ⟨σ6, H6, S6, q6⟩ := hsp
            exact end_ S6 fun s7 J7 => ⟨_, _, J7, q6⟩
          | cont =>
            obtain ⟨σ6, H6, S6, q6⟩ := hsp
            exact end_ S6 fun s7 J7 => ⟨_, _, J7, q6⟩
          | ret u =>
            obtain ⟨v6, σ6, H6, S6, r6, q6⟩ := hsp
            exact end_ S6 fun s7 J7 => ⟨_, _, _, J7, r6, q6⟩
        | false =>
          show wpAny _ X.A (handleBy (.ref a) X.env hds2) _ _ _
          exact ih (hno rfl)
    exact go hh w
  · cases f with
    | next =>
      obtain ⟨σ', H', J', q⟩ := hsp
      exact wpAny_execs_nil ⟨σ', H', J'.ofTry ok, q⟩
    | brk =>
      obtain ⟨σ', H', J', q⟩ := hsp
      exact ⟨σ', H', J'.ofTry ok, q⟩
    | cont =>
      obtain ⟨σ', H', J', q⟩ := hsp
      exact ⟨σ', H', J'.ofTry ok, q⟩
    | ret u =>
      obtain ⟨v, σ', H', J', r, q⟩ := hsp
      exact ⟨v, σ', H', J'.ofTry ok, r, q⟩
end
end DL
set_option Elab.async false
set_option linter.all false
set_option maxRecDepth 100000
set_option maxHeartbeats 2000000
/-! DE2: the data layer: exceptions of own classes over ValueError whose __init__ keeps one value: made, raised. -/
namespace DL
open PySem PySem.Spec PyProof.Rows L2
variable [Tbs]
/-! ### C(e): its context is None (HandS's pmk_oex, told with the context) -/
section
variable {X : Cx} {e : Expr} {es : List Expr} {ta : TA} {p pos : Pos}
theorem pmk_oexN {CX : CXT} {x : Str} {C fI : Addr} {k : Nat} {fd : FuncData} {ps : List Str} {sp : Sp} (T : OexC X.K C) (iC : PySem.W.findIn X.K (.ref C) "__init__" = some (some (.ref fI))) (tI : PySem.W.typeIn X.K (.ref fI) = some (.type "function"))
    (F1 : FnOk X.prog X.w X.K X.mg X.base CX k fI fd ps sp) (hr : Room (k + 1) X.A) (hb : Binds X.K fd ps []) (hx : Passes CX X (fun _ _ _ => False)) (hg : Gl X x) (hm : X.mg x = some (.ref C)) (ha : PA X (e :: es) ta)
    (hdb : (x == ("__debug__" : Str)) = false := by decide) (he : starEach (e :: es) X.env = (false, eval e X.env) :: starEach es X.env := by rfl) (hpl : (backTo pos (starEach es X.env)).any (·.1) = false := by rfl) :
    L2N.PMk X (.Call (.Name x p) (e :: es) [] pos) (tMkO C sp [] ta) := by
  intro pins s σ H Q I h
  obtain ⟨nm, q, N, bs, bm, sn, sub, ab, col, dd, k0, k1, k2, k3, k5, hC, hbm⟩ := T.cls
  refine wpAny_Call_Name_kw (ld_glob I hg hm ?_ hdb)
  refine PySem.W.callWith_K (h₀ := X.base) I.ok.mod.kin T.kC (thn (ha.run pos pins s σ H _ I h) fun us s1 ⟨vs, H1, I1, r1, hz, q1⟩ => ⟨I1.kIn, ?_⟩) he hpl
  show wpAny _ _ (call (.ref C) us) _ _ _
  obtain ⟨hp, g, dr, tk, os⟩ := s1
  have hsz : hp.objs.size ≤ hp.objs.size + 1 := Nat.le_succ _
  have hn : H1 (hp.objs.size + 1) = none := I1.hok.fresh hsz
  have hq := q1 (hp.objs.size + 1) hn
  rw [List.append_nil] at hq
  have kk : ∀ b o, hp.get? b = some o → ((hp.push (PySem.W.kdv_tup us)).push (PySem.HandSPX.excO C hp.objs.size)).get? b = some o := fun b o e => Heap.get?_push_of_some _ (Heap.get?_push_of_some _ e)
  have hget : ((hp.push (PySem.W.kdv_tup us)).push (PySem.HandSPX.excO C hp.objs.size)).get? (hp.objs.size + 1) = some (PySem.HandSPX.excO C hp.objs.size) := by heap_get
  have I2 : Inv X pins σ (upd H1 (hp.objs.size + 1) (exo (hp.objs.size + 1) C none)) ⟨(hp.push (PySem.W.kdv_tup us)).push (PySem.HandSPX.excO C hp.objs.size), g, dr, tk, os⟩ :=
    I1.laid (t' := tk) (a := hp.objs.size + 1) (o := exo (hp.objs.size + 1) C none) (h' := (hp.push (PySem.W.kdv_tup us)).push (PySem.HandSPX.excO C hp.objs.size)) kk hsz (exo_ok hget)
  have r2 : Vals (V.ref (hp.objs.size + 1) :: vs) (Value.ref (hp.objs.size + 1) :: us) := .cons rfl r1
  have hl : (Value.ref (hp.objs.size + 1) :: us ++ []).length = ps.length := by
    have e := r2.length
    rw [F1.len _ _ _ _ hq] at e
    rw [List.append_nil]
    exact e.symm
  have hus : us.length ≤ sizeLine := by
    rw [← Paired.length r1, sizeLine_eq]
    omega
  have b2 := hb _ (Value.ref (hp.objs.size + 1) :: us) I2.kIn hl
  rw [List.append_nil] at b2
  refine wpAny_call (PySem.HandSPX.call_own F.excBase_ValueError (fun Y => PySem.HandSPX.refsVE_contains Y bm hbm) (I1.kIn _ _ hC) (PySem.W.looks_findIn I1.kIn iC) (fun self => PySem.W.bind_fn I1.kIn self tI) hus
    (codeAny_mono (F1.run _ X.stack _ _ ⟨Value.ref (hp.objs.size + 1) :: us, []⟩ (Value.ref (hp.objs.size + 1) :: us) _ _ (fun _ _ _ => False) (hr.make C us []) (I2.env0.make C us []) b2 r2 hq) fun r s' hq' => ?_))
  cases r with
  | error er => exact hx pins σ _ _ er s' I2 hq'
  | ok fl =>
    cases fl with
    | ret u =>
      obtain ⟨v, H2, os2, bare2, un2, hok2, rv, ev, d, fs, ea, ed, hd1, q2⟩ := hq'
      subst ev
      obtain ⟨h2, g2, d2, t2, os'⟩ := s'
      obtain ⟨t0, G, J, kG, ge, hoe, na⟩ := mk_end0 (d2 := d2) (t2 := t2) I1 hsz kk un2 hok2 os2 bare2 ea ed hd1
      refine ⟨rv, ⟨hp.objs.size + 1, _, _, ⟨G, g2, d2, t2, os'⟩, _, .ref C, some d, rfl, J, kG, ge, hoe, ⟨rfl, rfl, fun vs hv => ?_⟩, rfl, rfl, na, rfl, bare2, raises_own T.exC T.tyC, q2⟩⟩
      cases hv
      rfl
    | next => exact False.elim hq'
    | brk => exact False.elim hq'
    | cont => exact False.elim hq'
end
/-! ### def __init__(self, value=None): self.value = value -/
def iSp (K : PySem.W.Frag) : Sp := fun vs H Q _ => ∃ (a C : Addr) (y : V), vs = [.ref a, y] ∧ OexC K C ∧ PySem.W.findIn K (.ref C) "value" = some none ∧ H a = some (exo a C none) ∧
  ∀ dx, H dx = none → dx ≠ a → Q .non (upd (upd H dx (exd dx [("value", y)])) a (exo a C (some dx)))
section
variable {P : Program} {w : World} {K : PySem.W.Frag} {mg : MG} {base : Heap} {qual : Str} {st : Stmt} {f : Addr} {fd : FuncData} {p1 p2 p3 p4 : Pos} {k : Nat}
theorem init_ok (Fu : FunD K "__init__" qual (defArgs st) (defBody st) (defScope st) [.non] [] f fd) (Sc : FnScope ["self", "value"] ["self", "value"] (defScope st))
    (hb : defBody st = [.Assign [.Attribute (.Name "self" p1) "value" p2] (.Name "value" p3) p4])
    (v1 : (defScope st).names.lookup ("self" : Str) = some NameKind.local) (v2 : (defScope st).names.lookup ("value" : Str) = some NameKind.local) :
    FnOk P w K mg base (L2N.CX P w) (k + 1) f fd ["self", "value"] (iSp K) := by
  refine Fu.ok Sc (fun vs H Q E ⟨a, C, y, e, _⟩ => by rw [e]; rfl) (fun cdv A outer s H vs Q E hr h => ?_)
  obtain ⟨a, C, y, rfl, T, nv, ea, q⟩ := h
  rw [hb]
  refine ⟨_, pss_one (ps_ost (pe_var (i := 0) rfl (.inl v1) (by decide) (by decide)) (pe_var (i := 1) rfl (.inl v2) (by decide) (by decide)) rfl), ?_⟩
  refine ⟨y, rfl, .ref a, rfl, a, C, rfl, T, nv, .inl ⟨ea, fun dx h1 h2 => q dx h1 h2⟩⟩
end
/-! ### raise C(e) -/
/-- C stands for a class of one's own that keeps one value -/
structure ExcD (K : PySem.W.Frag) (mg : MG) (fI C : Addr) (x : Str) : Prop where
  at_ : mg x = some (.ref C)
  ox : OexC K C
  xf : XfC K C
  xc : ExcC K C
  nv : PySem.W.findIn K (.ref C) "value" = some none
  ini : PySem.W.findIn K (.ref C) "__init__" = some (some (.ref fI))
/-- the __init__ that all have -/
def Ini (P : Program) (w : World) (K : PySem.W.Frag) (mg : MG) (base : Heap) (k : Nat) (fI : Addr) : Prop :=
  ∃ fd, PySem.W.typeIn K (.ref fI) = some (.type "function") ∧ Binds K fd ["self", "value"] [] ∧ FnOk P w K mg base (L2N.CX P w) k fI fd ["self", "value"] (iSp K)
theorem passNo {X : Cx} : Passes (L2N.CX X.prog X.w) X (fun _ _ _ => False) := fun _ _ _ _ _ _ _ h => by
  obtain ⟨_, _, _, _, _, _, _, _, _, _, _, _, z⟩ := h
  exact z.elim
def sdRaise (x : Str) (te : ET) : SD := fun env D => te env (fun d _ env1 => D.ex ⟨x, [("value", d)]⟩ env1) D.ex
section
variable {X : Cx} {e : Expr} {te : ET} {p pos pos' : Pos} {x : Str} {k : Nat} {fI C : Addr}
theorem ds_raise (hc : X.calm = true) (E : ExcD X.K X.mg fI C x) (N : Ini X.prog X.w X.K X.mg X.base k fI) (hr : Room (k + 1) X.A) (he : DE X e te) (hg : Gl X x := by rfl) (hdb : (x == ("__debug__" : Str)) = false := by decide)
    (hs : starEach [e] X.env = (false, eval e X.env) :: starEach [] X.env := by rfl) (hpl : (backTo pos (starEach [] X.env)).any (·.1) = false := by rfl) :
    DS X (.Raise (some (.Call (.Name x p) [e] [] pos)) none pos') (sdRaise x te) := by
  obtain ⟨fd, tI, hb, F1⟩ := N
  intro W tk
  refine psI (L2N.ps_raise hc tk (pmk_oexN E.ox E.ini tI F1 hr hb passNo hg E.at_ (pa_cons (he W tk) pa_nil hs) hdb hs hpl)) ?_
  rintro Dn σ H ⟨io, env, F, O, D, I, h, k1, k2, k3, k4, k5⟩
  refine ⟨io, env, F, O, _, _, I, h, ?_, k5⟩
  intro d n env1 F1 O1 H1 v P A1 T1 r1 q1
  have A1' := A1.frz T1
  have r1' := A1.frz_rep r1
  refine ⟨(show 1 ≤ 1000 by decide), fun a ha => ⟨a, C, v, rfl, E.ox, E.nv, upd_same, fun dx hdx hne => ⟨rfl, dx, [("value", v)], upd_same, ?_, ?_, ?_⟩⟩⟩
  · rw [upd_ne hne, upd_same]
  · rw [upd_ne hne] at hdx
    exact hdx
  · rw [upd_ne hne] at hdx
    have e1 : upd (del (upd (upd (upd H1 a (exo a C none)) dx (exd dx [("value", v)])) a (exo a C (some dx))) a) dx (.xd [("value", v)]) = upd H1 dx (.xd [("value", v)]) := by
      funext b
      by_cases hb : b = dx
      · rw [hb, upd_same, upd_same]
      · rw [upd_ne hb, upd_ne hb]
        by_cases hba : b = a
        · rw [hba, del_same, ha]
        · rw [del_ne hba, upd_ne hba, upd_ne hb, upd_ne hba]
    rw [e1]
    exact k5 ⟨x, [("value", d)]⟩ env1 σ _ O1 _ (.ref C) (some dx) (A1'.tup hdx) ⟨C, dx, [("value", v)], rfl, E.at_, rfl, upd_same, ⟨v, [], rfl, Rep.mono (same_upd (A1'.si.freeF hdx)) r1', rfl⟩⟩ q1
end
end DL
set_option Elab.async false
set_option linter.all false
set_option maxRecDepth 100000
set_option maxHeartbeats 2000000
/-! DE3: the data layer: try with clauses that bind names; what an except suite asks of its exception. -/
namespace DL
open PySem PySem.Spec PyProof.Rows L2
variable [Tbs]
/-- one clause: the class's name, the slot that it binds, the suite (the exception's address, its dict's, what it bears) -/
abbrev DH := Str × Nat × (Addr → Addr → Exc → SD)
/-- what the clauses do with an exception of the body -/
def hN (kin : Str → Str → Option Bool) : List DH → DEnds → QX
  | [], D => D.ex
  | (c, i, ts) :: r, D => fun x env => match kin x.cls c with
    | some true => ∀ a d, ts a d x (env.set i (some ⟨.exn a d x.fs, 0, false⟩))
        { nx := fun e => D.nx (e.set i none), rt := D.rt, bk := fun e => D.bk (e.set i none), ct := fun e => D.ct (e.set i none), ex := fun _ _ => False }
    | some false => hN kin r D x env
    | none => False
def sdTry (kin : Str → Str → Option Bool) (tb : SD) (l : List DH) : SD := fun env D => tb env { D with ex := hN kin l D }
def tsX (K : PySem.W.Frag) (mg : MG) (g : Str → Option Bool) (ts : Addr → Addr → Exc → SD) : Addr → Value → Option Addr → TS := fun a cls d Dn σ H =>
  ∃ C dd y, cls = .ref C ∧ d = some dd ∧ mg y.cls = some (.ref C) ∧ g y.cls = some true ∧ rdS K mg (ts a dd y) (fun _ _ _ _ => False) Dn σ H
inductive HdD (X : Cx) (kin : Str → Str → Option Bool) : List ExceptHandler → List DH → List (Value × Nat × (Addr → Value → Option Addr → TS)) → Prop
  | nil : HdD X kin [] [] []
  | cons {x n : Str} {c : Value} {i : Nat} {ts : Addr → Addr → Exc → SD} {b₀ : Stmt} {suite : List Stmt} {np pos' : Pos} {hds : List ExceptHandler} {L : List DH} {l : List (Value × Nat × (Addr → Value → Option Addr → TS))}
      (hNd : X.N.Nodup) (hi : X.N[i]? = some n) (hln : X.env.kindOf n = some .local) (hc : Names X x c) (hk : ∀ y b C, kin y x = some b → X.mg y = some (.ref C) → PySem.W.exmOne X.K (.ref C) c = some b)
      (hsu : ∀ (a : Addr) (oe : Obj) (C d : Addr) (pn : List (Addr × Obj)) (y : Exc), L2N.Zn (.ref C) (some d) oe → (∃ vs, oe.data = .fields vs) → X.mg y.cls = some (.ref C) → kin y.cls x = some true → DSs (X.suite a ((a, oe) :: pn)) (b₀ :: suite) (ts a d y)) (r : HdD X kin hds L l) :
      HdD X kin (.ExceptHandler (some (.Name x np)) (some n) (b₀ :: suite) pos' :: hds) ((x, i, ts) :: L) ((c, i, tsX X.K X.mg (fun s => kin s x) ts) :: l)
section
variable {X : Cx} {kin : Str → Str → Option Bool}
theorem HdD.ok {hds : List ExceptHandler} {L : List DH} {l : List (Value × Nat × (Addr → Value → Option Addr → TS))} (h : HdD X kin hds L l) : HdsN X hds l := by
  induction h with
  | nil => exact .nil
  | cons hNd hi hln hc hk hsu r ih =>
    refine .cons hNd hi hln hc (fun a oe cls d pn hz hf => ⟨fun pins s σ H D I h => ?_⟩) ih
    obtain ⟨C, dd, y, rfl, rfl, hm, hg, h⟩ := h
    exact (hsu a oe C dd pn y hz hf hm hg _ takes00).run pins s σ H D I h
theorem HdD.ex {hds : List ExceptHandler} {L : List DH} {l : List (Value × Nat × (Addr → Value → Option Addr → TS))} (hh : HdD X kin hds L l) {io : Nat → Option V} {F H : Hp} {O : OW} {D : DEnds} {Dn : Ends} {W : WX}
    (k1 : ∀ env' σ' F' O' H', At X.K X.mg io F O H env' σ' F' O' H' → D.nx env' → Dn.nx σ' H')
    (k2 : ∀ d n env' σ' F' O' H' v P, At X.K X.mg io F O H env' σ' F' O' H' → Tp O H F' O' H' P → RepO X.K X.mg F' H' n P d v → D.rt d n env' → Dn.rt v H')
    (k3 : ∀ env' σ' F' O' H', At X.K X.mg io F O H env' σ' F' O' H' → D.bk env' → Dn.bk σ' H') (k4 : ∀ env' σ' F' O' H', At X.K X.mg io F O H env' σ' F' O' H' → D.ct env' → Dn.ct σ' H') (k5 : KX X.K X.mg io F O H D.ex W) :
    KX X.K X.mg io F O H (hN kin L D) (wNames X.K W Dn l) := by
  induction hh with
  | nil => exact k5
  | @cons x n c i ts b₀ suite np pos' hds L l hNd hi hln hc hk hsu r ih =>
    intro y env1 σ1 F1 O1 H1 cls dx A1 r1 q
    obtain ⟨C, d, vs, rfl, hm, rfl, f1, f2⟩ := id r1
    have q : (match kin y.cls x with
      | some true => ∀ a d, ts a d y (env1.set i (some ⟨.exn a d y.fs, 0, false⟩))
          { nx := fun e => D.nx (e.set i none), rt := D.rt, bk := fun e => D.bk (e.set i none), ct := fun e => D.ct (e.set i none), ex := fun _ _ => False }
      | some false => hN kin L D y env1
      | none => False) := q
    cases e : kin y.cls x with
    | none => rw [e] at q; exact q.elim
    | some b =>
      rw [e] at q
      refine ⟨b, hk _ _ _ e hm, fun hb a ha => ?_, fun hb => ?_⟩
      · subst hb
        have q := q a d
        have e : (fun s => kin s x) y.cls = some true := e
        have A2 := A1.set (i := i) (n := 0) (P := P0) (d := .exn a d y.fs) (v := .ref a) Tp.none ⟨rfl, vs, f1, f2⟩
        refine ⟨C, d, y, rfl, rfl, hm, e, io, _, F1, _, _, A2.si, q, ?_, ?_, ?_, ?_, ?_⟩
        · exact fun env2 σ2 F2 O2 H2 A3 q2 => k1 _ _ _ _ _ ((A2.trans A3).wipe i none) q2
        · exact fun d2 n2 env2 σ2 F2 O2 H2 v P A3 T3 r3 q3 => k2 _ _ _ _ _ _ _ _ _ (A2.trans A3) (Tp.after A2.mv T3) r3 q3
        · exact fun env2 σ2 F2 O2 H2 A3 q2 => k3 _ _ _ _ _ ((A2.trans A3).wipe i none) q2
        · exact fun env2 σ2 F2 O2 H2 A3 q2 => k4 _ _ _ _ _ ((A2.trans A3).wipe i none) q2
        · exact fun _ _ _ _ _ _ _ _ _ _ z => z.elim
      · subst hb
        exact ih y env1 σ1 F1 O1 H1 _ _ A1 r1 q
variable {body : List Stmt} {h₀ : ExceptHandler} {hds : List ExceptHandler} {L : List DH} {l : List (Value × Nat × (Addr → Value → Option Addr → TS))} {pos : Pos} {tb : SD}
theorem ds_try (hs : X.stack = X.env :: X.outer) (hf : X.env.frame = some X.env.locals)
    (hb : ∀ (pn : List (Addr × Obj)) (xe : Value → Shared → Prop), PassesOwn (model X.prog X.w) X.A X.env xe → DSs (X.tr pn xe) body tb)
    (hh : HdD X kin (h₀ :: hds) L l) : DS X (.Try body (h₀ :: hds) [] [] pos) (sdTry kin tb L) := by
  intro W tk
  refine psI (ps_try_names (tb := fun W' => rdS X.K X.mg tb W') hs hf tk (fun W' pn xe tk' hp => hb pn xe hp W' tk') hh.ok) ?_
  rintro Dn σ H ⟨io, env, F, O, D, I, h, k1, k2, k3, k4, k5⟩
  exact ⟨io, env, F, O, { D with ex := hN kin L D }, I, h, k1, k2, k3, k4, hh.ex k1 k2 k3 k4 k5⟩
end
/-! ### e.value, isinstance(e, C) -/
theorem RepF.look {K : PySem.W.Frag} {mg : MG} {F : Hp} {f : Str} {d : D} : ∀ {ds : List (Str × D)} {vs : List (Str × V)}, RepF K mg F ds vs → ds.lookup f = some d → ∃ v, vs.lookup f = some v ∧ Rep K mg F d v
  | [], _, _, h => nomatch h
  | (k, e) :: ds, _, ⟨v, r, h1, h2, h3⟩, h => by
    subst h1
    rw [List.lookup_cons] at h ⊢
    cases q : f == k with
    | true =>
      rw [q] at h
      cases h
      exact ⟨v, rfl, h2⟩
    | false =>
      rw [q] at h
      exact RepF.look h3 h
theorem exn_rep {K : PySem.W.Frag} {mg : MG} {F H : Hp} {n : Nat} {P : AP} {a d : Addr} {fs : List (Str × D)} {v : V} (h : RepO K mg F H n P (.exn a d fs) v) : v = .ref a ∧ ∃ vs, F d = some (.xd vs) ∧ RepF K mg F fs vs := by
  cases n <;> exact h
/-- e.f, e the exception that the suite holds -/
def pXf (i : Nat) (a d : Addr) (f : Str) : PUT := fun env Q => match gt env i with
  | some ⟨.exn a' d' fs, _, _⟩ => a' = a ∧ d' = d ∧ someD (fs.lookup f) Q
  | _ => False
/-- isinstance(e, T) -/
def pXis (i : Nat) (a d : Addr) (ob : Option Bool) : PUT := fun env Q => match ob with
  | some b => match gt env i with
    | some ⟨.exn a' d' _, _, _⟩ => a' = a ∧ d' = d ∧ Q (.bl b)
    | _ => False
  | none => False
section
variable {X : Cx} {a C d : Addr} {oe : Obj} {pn : List (Addr × Obj)} {x n : Str} {i : Nat} {p p1 p2 pos : Pos} {e2 : Expr}
theorem pu_xf {f : Str} (T : XfC X.K C) (hno : PySem.W.findIn X.K (.ref C) f = some none) (hz : L2N.Zn (.ref C) (some d) oe) (hf : ∃ vs, oe.data = .fields vs) (hN : X.N[i]? = some n) (hv : Vis X.env.scope n)
    (hd : (n == ("__debug__" : Str)) = false := by decide) (hcd : (n == ("__classdict__" : Str)) = false := by decide)
    (hb : attributeBase (.Name n p) f X.env (eval (.Name n p) X.env) = eval (.Name n p) X.env := by rfl) : PU (X.suite a ((a, oe) :: pn)) (.Attribute (.Name n p) f pos) (pXf i a d f) := by
  refine peI (pe_xf T hno hz.zc hf (pe_var (X := X.suite a ((a, oe) :: pn)) hN hv hd hcd) hb) ?_
  rintro σ H Qh ⟨io, env, F, O, Q, I, h, k⟩
  unfold pXf at h
  cases e : gt env i with
  | none => rw [e] at h; exact h.elim
  | some b =>
    rw [e] at h
    obtain ⟨bd, bn, bio⟩ := b
    cases bd <;> first | exact (show False from h).elim | skip
    rename_i a' d' fs
    have h : a' = a ∧ d' = d ∧ someD (fs.lookup f) Q := h
    obtain ⟨rfl, rfl, hx⟩ := h
    obtain ⟨v, h1, h2, _⟩ := I.slot i _ (gt_some e)
    obtain ⟨rfl, vs, g1, g2⟩ := exn_rep h2
    obtain ⟨y, ey, hq⟩ := someD_of hx
    obtain ⟨v, l1, l2⟩ := RepF.look g2 ey
    exact ⟨_, h1, rfl, rfl, d', vs, v, rfl, I.sub _ _ g1, l1, k y v H (Same.refl _) (Rep.mono I.sub l2) hq⟩
end
end DL
set_option Elab.async false
set_option linter.all false
set_option maxRecDepth 100000
set_option maxHeartbeats 2000000
/-! DE4: the data layer: isinstance of the exception that a suite holds. -/
namespace DL
open PySem PySem.Spec PyProof.Rows L2
variable [Tbs]
/-- e2 names a class -/
def ClE (X : Cx) (e2 : Expr) (c : V) (cv : Value) : Prop := PE X e2 (tC c) ∧ ∀ u, RelV c u → u = cv
section
variable {X : Cx} {x : Str} {p pos : Pos} {C : Addr}
theorem cl_own (hg : Gl X x) (hm : X.mg x = some (.ref C)) (hd : (x == ("__debug__" : Str)) = false := by decide) : ClE X (.Name x p) (.ref C) (.ref C) :=
  ⟨pe_glob hg hm rfl hd, fun u r => r⟩
theorem cl_VE (hg : Gl X "ValueError") (hm : X.mg "ValueError" = none) : ClE X (.Name "ValueError" p) (.ty "ValueError") (.type "ValueError") :=
  ⟨⟨fun pins s σ H Q I h => ld_blt I hg hm PyProof.Rows.Boot.«ValueError» ⟨.ty "ValueError", H, I, rfl, h⟩ (by decide) (by decide)⟩, fun u r => r⟩
end
def rIsD (K : PySem.W.Frag) (C a d : Addr) : List V → Hp → VK → Prop := fun xs H Q => ∃ (c : V) (cv : Value) (b : Bool) (fs : List (Str × V)), xs = [.ref a, c] ∧ H d = some (.xd fs) ∧ (∀ u, RelV c u → u = cv) ∧ PySem.W.kitOne K (.ref C) cv = some b ∧ Q (.bl b) H
section
variable {X : Cx} {a C d : Addr} {oe : Obj} {pn : List (Addr × Obj)} {n : Str} {i : Nat} {p p1 p2 pos : Pos} {e2 : Expr}
theorem exn_at {pins : List (Addr × Obj)} {σ : L2.St} {H : Hp} {s : Shared} {fs : List (Str × V)} (I : Inv (X.suite a ((a, oe) :: pn)) pins σ H s) (hz : L2N.Zn (.ref C) (some d) oe) (hf : ∃ vs, oe.data = .fields vs) (ea : H d = some (.xd fs)) : ∃ od, PySem.W.InstAt s.heap a oe C (some od) := by
  obtain ⟨ha, _⟩ := I.pin (a, oe) (List.mem_append_left _ List.mem_cons_self)
  obtain ⟨vs, hd⟩ := hf
  have hx : ObjOk X.prog X.w H s.heap d (.xd fs) := I.hok d _ ea
  obtain ⟨mA, hns, hr⟩ := hx
  obtain ⟨od, ho, hl⟩ := lookIn_ns hns
  exact ⟨od, ha, hz.1, by unfold PySem.W.notCls; rw [hd] <;> rfl, by rw [hz.2.1]; exact ho⟩
theorem kit_exn (T : ExcC X.K C) {od : Option Obj} : PySem.W.KitX X.K (.ref a) (.ref C) (fun h => PySem.W.InstAt h a oe C od) :=
  PySem.W.kitx_exc (by obtain ⟨cd, hc, _⟩ := PySem.W.any_some T.hd; rw [hc]; rfl) T.hg T.hk T.hs T.ha T.hn T.ht T.hm
theorem call_isD (T : ExcC X.K C) (hz : L2N.Zn (.ref C) (some d) oe) (hf : ∃ vs, oe.data = .fields vs) : CallR (X.suite a ((a, oe) :: pn)) (.builtin "isinstance") (rIsD X.K C a d) := by
  intro pins s σ H xs us Q I r h
  obtain ⟨c, cv, b, fs, rfl, ea, hcv, e, q⟩ := h
  obtain ⟨u1, u2, rfl, r1, r2⟩ := vals2 r
  cases (show u1 = Value.ref a from r1)
  have ec := hcv _ r2
  subst ec
  obtain ⟨od, J⟩ := exn_at I hz hf ea
  exact PySem.W.kia_one (kit_exn T) I.kIn J e (fun z => nomatch z) fun tk => ⟨.bl b, H, I.kept (t' := tk) fun _ _ z => z, rfl, q⟩
theorem pu_xis {ob : Option Bool} {c : V} {cv : Value} (T : ExcC X.K C) (hz : L2N.Zn (.ref C) (some d) oe) (hf : ∃ vs, oe.data = .fields vs) (hT : ClE (X.suite a ((a, oe) :: pn)) e2 c cv) (hk : ∀ b, ob = some b → PySem.W.kitOne X.K (.ref C) cv = some b)
    (hm : X.mg "isinstance" = none) (hN : X.N[i]? = some n) (hv : Vis X.env.scope n) (hg : Gl X "isinstance" := by rfl) (hd : (n == ("__debug__" : Str)) = false := by decide) (hcd : (n == ("__classdict__" : Str)) = false := by decide)
    (h1 : starEach [.Name n p1, e2] X.env = (false, eval (.Name n p1) X.env) :: starEach [e2] X.env := by rfl) (h2 : starEach [e2] X.env = (false, eval e2 X.env) :: starEach [] X.env := by rfl) (hpl : (backTo pos (starEach [e2] X.env)).any (·.1) = false := by rfl) :
    PU (X.suite a ((a, oe) :: pn)) (.Call (.Name "isinstance" p) [.Name n p1, e2] [] pos) (pXis i a d ob) := by
  refine peI (pe_callB (X := X.suite a ((a, oe) :: pn)) (call_isD T hz hf) hg hm PyProof.Rows.boot_isinstance (pa_cons (pe_var (X := X.suite a ((a, oe) :: pn)) hN hv hd hcd) (pa_cons hT.1 pa_nil h2) h1) (by decide) (by decide) h1 hpl) ?_
  rintro σ H Qh ⟨io, env, F, O, Q, I, h, k⟩
  unfold pXis at h
  cases ob with
  | none => exact h.elim
  | some b =>
    have h : (match gt env i with
      | some ⟨.exn a' d' _, _, _⟩ => a' = a ∧ d' = d ∧ Q (.bl b)
      | _ => False) := h
    cases e : gt env i with
    | none => rw [e] at h; exact h.elim
    | some bd =>
      rw [e] at h
      obtain ⟨bd, bn, bio⟩ := bd
      cases bd <;> first | exact (show False from h).elim | skip
      rename_i a' d' fs
      have h : a' = a ∧ d' = d ∧ Q (.bl b) := h
      obtain ⟨rfl, rfl, hq⟩ := h
      obtain ⟨v, h1, h2, _⟩ := I.slot i _ (gt_some e)
      obtain ⟨rfl, vs, g1, g2⟩ := exn_rep h2
      exact ⟨_, h1, c, cv, b, vs, rfl, I.sub _ _ g1, hT.2, hk b rfl, k (.bl b) _ H (Same.refl _) rfl hq⟩
end
end DL
set_option Elab.async false
set_option linter.all false
set_option maxRecDepth 100000
set_option maxHeartbeats 2000000
/-! DE5: the data layer: defs called while an exception is handled. -/
namespace DL
open PySem PySem.Spec PyProof.Rows L2
variable [Tbs]
section
variable {P : Program} {w : World} {K : PySem.W.Frag} {mg : MG} {base : Heap}
theorem okDH {x qual : Str} {st : Stmt} {f : Addr} {fd : FuncData} {N ps : List Str} {k : Nat} {ms : Ms} {S : DSp} {τ : SD} (Fu : Fun K x qual st f fd) (Sc : FnScope N ps (defScope st)) (hl : ms.length = ps.length)
    (hb : ∀ (cdv : Value) (A : Around) (outer : List Env) (s : Shared) (H : Hp) (E : XK) (p : Addr × Obj), L2H.Hot1 A p → L2H.RoomH k (A.deeper (envOfC qual (defScope st) s.heap.objs.size f cdv)) →
      DSs (L2H.cxH (L2N.CX P w) P w K mg base N qual (defScope st) f cdv A outer s H E p) (defBody st) τ)
    (hs : ∀ ds post, S ds post → ds.length = ms.length → τ (env0 ms ds N.length) (endsOf ms post)) : L2H.FnH P w K mg base (L2N.CX P w) (k + 1) f fd ps (spOf K mg ms S) := by
  obtain ⟨oc, od, kV, doc, pm, an, cdv, ct, osl, rfl, lk, hcd⟩ := Fu.ex
  refine L2H.fn_ofH lk hcd Sc (fun vs H Q E ⟨F, O, ds, post, h1, h2, _, h3, h4, _⟩ => by rw [h3.len.1, hl]) (fun A outer s H vs Q E p hot hr h => ?_)
  obtain ⟨F, O, ds, post, h1, h2, ht, h3, h4, k1, k2⟩ := h
  refine ⟨_, hb cdv A outer s H E p hot hr (fun cls d _ H => E cls d H) (L2N.takes_of rfl rfl rfl rfl), ?_⟩
  have hpl : ps.length ≤ N.length := by
    have := congrArg List.length Sc.pre
    rw [List.length_take] at this
    omega
  have hvl : vs.length = ms.length := h3.len.1
  have I : SI K mg (fun i => vs[i]?) (env0 ms ds N.length) (L2.start N vs) F O H := ⟨h1, h2, fun i b hb => by
    obtain ⟨v, g1, g2⟩ := env0_get h3 hb
    refine ⟨v, ?_, by rw [Nat.zero_add] at g2; exact g2, fun _ => g1⟩
    unfold L2.start
    rw [List.getElem?_append_left (by rw [List.length_map]; exact (List.getElem?_eq_some_iff.mp g1).1), List.getElem?_map, g1]
    rfl, by
    rw [env0_len]
    unfold L2.start
    rw [List.length_append, List.length_map, List.length_replicate]
    omega, ht⟩
  refine ⟨_, _, F, O, endsOf ms post, I, hs ds post h4 h3.len.2, fun env' σ' F' O' H' A q => ?_, fun d n env' σ' F' O' H' v P A T r q => ?_, fun _ _ _ _ _ _ q => q.elim, fun _ _ _ _ _ _ q => q.elim, fun x env' σ' F' O' H' cls dx A r q => ?_⟩
  · obtain ⟨os, g1, g2⟩ := outs_get A.si q
    exact k1 .non 0 os F' O' H' .non P0 A.mv A.si.sub A.si.own g1 Tp.none rfl g2
  · obtain ⟨os, g1, g2⟩ := outs_get A.si q
    exact k1 d n os F' O' H' v P A.mv A.si.sub A.si.own g1 T r g2
  · obtain ⟨os, g1, g2⟩ := outs_get A.si q
    exact k2 x os F' O' H' cls dx A.mv A.si.sub A.si.own g1 r g2
/-- a def of the module keeps a promise while an exception is handled -/
def CalH (P : Program) (w : World) (K : PySem.W.Frag) (mg : MG) (base : Heap) (x : Str) (st : Stmt) (k : Nat) (ps : List Str) (ms : Ms) (S : DSp) : Prop :=
  ∃ f fd, Fun K x x st f fd ∧ mg x = some (.ref f) ∧ Binds K fd ps [] ∧ L2H.FnH P w K mg base (L2N.CX P w) k f fd ps (spOf K mg ms S)
theorem calH_mk {x : Str} {st : Stmt} {k : Nat} {ps N : List Str} {ms : Ms} {S : DSp} {τ : SD} (Fu : FunAt K mg x st) (Sc : FnScope N ps (defScope st)) (hl : ms.length = ps.length)
    (hbi : ∀ (kV doc pm : Value) (an : Option Addr) (cdv ct : Value) (us : List Value), us.length = ps.length → bindArgs (PySem.W.fnOf x x (defArgs st) (defBody st) (defScope st) .none kV doc pm an cdv ct) ⟨us, []⟩ = pure (ps.zip us))
    (hb : ∀ (f : Addr) (cdv : Value) (A : Around) (outer : List Env) (s : Shared) (H : Hp) (E : XK) (p : Addr × Obj), L2H.Hot1 A p → L2H.RoomH k (A.deeper (envOfC x (defScope st) s.heap.objs.size f cdv)) → DSs (L2H.cxH (L2N.CX P w) P w K mg base N x (defScope st) f cdv A outer s H E p) (defBody st) τ)
    (hs : ∀ ds post, S ds post → ds.length = ms.length → τ (env0 ms ds N.length) (endsOf ms post)) : CalH P w K mg base x st (k + 1) ps ms S := by
  obtain ⟨f, fd, h1, h2⟩ := Fu
  exact ⟨f, fd, h1, h2, h1.binds hbi, okDH h1 Sc hl (hb f) hs⟩
end
section
variable {X : Cx} {k : Nat} {ps : List Str} {ms : Ms} {S : DSp} {x : Str} {st : Stmt} {p pos : Pos} {e : Expr} {es : List Expr} {t : GAT}
theorem dc_callH (C : CalH X.prog X.w X.K X.mg X.base x st k ps ms S) (hr : L2H.RoomH k X.A) (hc : L2H.HotC X) (ha : DGA X (e :: es) t) (hg : Gl X x := by rfl) (hdb : (x == ("__debug__" : Str)) = false := by decide)
    (he : starEach (e :: es) X.env = (false, eval e X.env) :: starEach es X.env := by rfl) (hpl : (backTo pos (starEach es X.env)).any (·.1) = false := by rfl) : DE X (.Call (.Name x p) (e :: es) [] pos) (eCall ms S [] t) := by
  obtain ⟨f, fd, h1, h2, h3, Fn⟩ := C
  intro W tk
  refine peI (L2H.pe_callH (E := fun σ cls d H => W cls d σ H) Fn hr hc hg h2 h1.kp h3 (fun σ => passAt tk σ) (ha W tk) hdb he hpl) ?_
  rintro σ H Qh ⟨io, env, F, O, Q, R, I, h, kQ, kX⟩
  refine ⟨io, env, F, O, _, R, I, h, ?_, kX⟩
  intro gs env1 F1 O1 H1 vs A1 r1 h1
  rw [List.map_nil, List.append_nil] at h1
  exact call_read A1.si r1 h1 (kQ.mv A1) (kX.mv A1)
/-- in an except suite -/
theorem hot_suite {a : Addr} {oe : Obj} {cls : Value} {d : Option Addr} {pn : List (Addr × Obj)} (hz : L2N.Zn cls d oe) (hf : ∃ vs, oe.data = .fields vs) : L2H.HotC (X.suite a ((a, oe) :: pn)) := by
  obtain ⟨vs, hv⟩ := hf
  exact ⟨(a, oe), ⟨rfl, vs, hv, hz.2.2 vs hv⟩, List.mem_cons_self⟩
theorem hot_def {CX : CXT} {P : Program} {w : World} {K : PySem.W.Frag} {mg : MG} {base : Heap} {N : List Str} {qual : Str} {scope : Scope} {f : Addr} {cd : Value} {A : Around} {outer : List Env} {s : Shared} {H : Hp} {E : XK} {p : Addr × Obj} (h : L2H.Hot1 A p) :
    L2H.HotC (L2H.cxH CX P w K mg base N qual scope f cd A outer s H E p) := ⟨p, ⟨h.1, h.2⟩, List.mem_singleton.mpr rfl⟩
end
end DL
set_option Elab.async false
set_option linter.all false
set_option maxRecDepth 100000
set_option maxHeartbeats 2000000
/-! DE6: the data layer: what the printed derivations of raise, try and except suites call. -/
namespace DL
open PySem PySem.Spec PyProof.Rows L2
variable [Tbs]
/-- a class of one's own stands under its name, and may be made -/
def ExcN (P : Program) (w : World) (K : PySem.W.Frag) (mg : MG) (base : Heap) (k : Nat) (x : Str) : Prop := ∃ fI C j, j + 1 ≤ k ∧ ExcD K mg fI C x ∧ Ini P w K mg base j fI
theorem ExcN.up {P : Program} {w : World} {K : PySem.W.Frag} {mg : MG} {base : Heap} {j k : Nat} {x : Str} (h : ExcN P w K mg base j x) (l : j ≤ k) : ExcN P w K mg base k x := by
  obtain ⟨fI, C, i, h1, h2, h3⟩ := h
  exact ⟨fI, C, i, by omega, h2, h3⟩
/-- what the classes' table says is so -/
structure KinOk (K : PySem.W.Frag) (mg : MG) (kin : Str → Str → Option Bool) : Prop where
  exm : ∀ y c b C C2, kin y c = some b → mg y = some (.ref C) → mg c = some (.ref C2) → PySem.W.exmOne K (.ref C) (.ref C2) = some b
  kit : ∀ y c b C C2, kin y c = some b → mg y = some (.ref C) → mg c = some (.ref C2) → PySem.W.kitOne K (.ref C) (.ref C2) = some b
  ve : ∀ y b C, kin y "ValueError" = some b → mg y = some (.ref C) → PySem.W.kitOne K (.ref C) (.type "ValueError") = some b
  cls : ∀ y c b C, kin y c = some b → mg y = some (.ref C) → ExcC K C ∧ XfC K C ∧ PySem.W.findIn K (.ref C) "value" = some none
  nov : mg "ValueError" = none
abbrev ClsAt (mg : MG) (x : Str) : Prop := ∃ C, mg x = some (.ref C)
def HdE (X : Cx) (kin : Str → Str → Option Bool) (hds : List ExceptHandler) (L : List DH) : Prop := ∃ l, HdD X kin hds L l
section
variable {X : Cx} {kin : Str → Str → Option Bool} {x n : Str} {i : Nat} {ts : Addr → Addr → Exc → SD} {b₀ : Stmt} {suite : List Stmt} {np pos' : Pos} {hds : List ExceptHandler} {h₀ : ExceptHandler} {L : List DH}
theorem hde_nil : HdE X kin [] [] := ⟨[], .nil⟩
theorem hde_cons (Kn : KinOk X.K X.mg kin) (M : ClsAt X.mg x) (hNd : X.N.Nodup) 
    (hsu : ∀ (a : Addr) (oe : Obj) (C d : Addr) (pn : List (Addr × Obj)) (y : Exc), L2N.Zn (.ref C) (some d) oe → (∃ vs, oe.data = .fields vs) → X.mg y.cls = some (.ref C) → kin y.cls x = some true → DSs (X.suite a ((a, oe) :: pn)) (b₀ :: suite) (ts a d y)) (r : HdE X kin hds L)
    (hi : X.N[i]? = some n := by rfl) (hln : X.env.kindOf n = some .local := by rfl) (hg : Gl X x := by rfl) (hd : (x == ("__debug__" : Str)) = false := by decide) :
    HdE X kin (.ExceptHandler (some (.Name x np)) (some n) (b₀ :: suite) pos' :: hds) ((x, i, ts) :: L) := by
  obtain ⟨C2, hm⟩ := M
  obtain ⟨l, h⟩ := r
  exact ⟨_, .cons hNd hi hln ⟨hg, hd, .inl hm⟩ (fun y b C h1 h2 => Kn.exm y x b C C2 h1 h2 hm) hsu h⟩
theorem ds_tryE {body : List Stmt} {pos : Pos} {tb : SD} (hh : HdE X kin (h₀ :: hds) L) (hb : ∀ (pn : List (Addr × Obj)) (xe : Value → Shared → Prop), PassesOwn (model X.prog X.w) X.A X.env xe → DSs (X.tr pn xe) body tb)
    (hs : X.stack = X.env :: X.outer := by rfl) (hf : X.env.frame = some X.env.locals := by rfl) : DS X (.Try body (h₀ :: hds) [] [] pos) (sdTry kin tb L) := by
  obtain ⟨l, h⟩ := hh
  exact ds_try hs hf hb h
variable {e : Expr} {te : ET} {p p1 pos : Pos} {k : Nat}
theorem ds_raiseN (hc : X.calm = true) (E : ExcN X.prog X.w X.K X.mg X.base k x) (hr : Room k X.A) (he : DE X e te) (hg : Gl X x := by rfl) (hdb : (x == ("__debug__" : Str)) = false := by decide)
    (hs : starEach [e] X.env = (false, eval e X.env) :: starEach [] X.env := by rfl) (hpl : (backTo pos (starEach [] X.env)).any (·.1) = false := by rfl) :
    DS X (.Raise (some (.Call (.Name x p) [e] [] pos)) none pos') (sdRaise x te) := by
  obtain ⟨fI, C, j, h1, h2, h3⟩ := E
  exact ds_raise hc h2 h3 (hr.mono h1) he hg hdb hs hpl
end
section
variable {X : Cx} {kin : Str → Str → Option Bool} {a C d : Addr} {oe : Obj} {pn : List (Addr × Obj)} {x T n : Str} {y : Exc} {b : Bool} {p p1 p2 pos : Pos}
theorem pu_xfK (i : Nat) (Kn : KinOk X.K X.mg kin) (hz : L2N.Zn (.ref C) (some d) oe) (hf : ∃ vs, oe.data = .fields vs) (hm : X.mg y.cls = some (.ref C)) (hk : kin y.cls x = some b) (hN : X.N[i]? = some n := by rfl)
    (hv : Vis X.env.scope n := by first | exact Or.inl rfl | exact Or.inr (Or.inl rfl) | exact Or.inr (Or.inr rfl)) (hd : (n == ("__debug__" : Str)) = false := by decide) (hcd : (n == ("__classdict__" : Str)) = false := by decide)
    (hb : attributeBase (.Name n p) "value" X.env (eval (.Name n p) X.env) = eval (.Name n p) X.env := by rfl) : PU (X.suite a ((a, oe) :: pn)) (.Attribute (.Name n p) "value" pos) (pXf i a d "value") := by
  obtain ⟨_, h2, h3⟩ := Kn.cls _ _ _ _ hk hm
  exact pu_xf h2 h3 hz hf hN hv hd hcd hb
theorem pu_xisK (i : Nat) (Kn : KinOk X.K X.mg kin) (hz : L2N.Zn (.ref C) (some d) oe) (hf : ∃ vs, oe.data = .fields vs) (hm : X.mg y.cls = some (.ref C)) (hk : kin y.cls x = some b) (M : ClsAt X.mg T) (hmi : X.mg "isinstance" = none) (hN : X.N[i]? = some n := by rfl)
    (hv : Vis X.env.scope n := by first | exact Or.inl rfl | exact Or.inr (Or.inl rfl) | exact Or.inr (Or.inr rfl)) (hgT : Gl X T := by rfl) (hdT : (T == ("__debug__" : Str)) = false := by decide) (hg : Gl X "isinstance" := by rfl) (hd : (n == ("__debug__" : Str)) = false := by decide) (hcd : (n == ("__classdict__" : Str)) = false := by decide)
    (h1 : starEach [.Name n p1, .Name T p2] X.env = (false, eval (.Name n p1) X.env) :: starEach [.Name T p2] X.env := by rfl) (h2 : starEach [.Name T p2] X.env = (false, eval (.Name T p2) X.env) :: starEach [] X.env := by rfl) (hpl : (backTo pos (starEach [.Name T p2] X.env)).any (·.1) = false := by rfl) :
    PU (X.suite a ((a, oe) :: pn)) (.Call (.Name "isinstance" p) [.Name n p1, .Name T p2] [] pos) (pXis i a d (kin y.cls T)) := by
  obtain ⟨C2, hm2⟩ := M
  obtain ⟨t1, _, _⟩ := Kn.cls _ _ _ _ hk hm
  exact pu_xis t1 hz hf (cl_own (X := X.suite a ((a, oe) :: pn)) hgT hm2 hdT) (fun b' e => Kn.kit _ _ _ _ _ e hm hm2) hmi hN hv hg hd hcd h1 h2 hpl
theorem pu_xisV (i : Nat) (Kn : KinOk X.K X.mg kin) (hz : L2N.Zn (.ref C) (some d) oe) (hf : ∃ vs, oe.data = .fields vs) (hm : X.mg y.cls = some (.ref C)) (hk : kin y.cls x = some b) (hmi : X.mg "isinstance" = none) (hN : X.N[i]? = some n := by rfl)
    (hv : Vis X.env.scope n := by first | exact Or.inl rfl | exact Or.inr (Or.inl rfl) | exact Or.inr (Or.inr rfl)) (hgT : Gl X "ValueError" := by rfl) (hg : Gl X "isinstance" := by rfl) (hd : (n == ("__debug__" : Str)) = false := by decide) (hcd : (n == ("__classdict__" : Str)) = false := by decide)
    (h1 : starEach [.Name n p1, .Name "ValueError" p2] X.env = (false, eval (.Name n p1) X.env) :: starEach [.Name "ValueError" p2] X.env := by rfl) (h2 : starEach [.Name "ValueError" p2] X.env = (false, eval (.Name "ValueError" p2) X.env) :: starEach [] X.env := by rfl) (hpl : (backTo pos (starEach [.Name "ValueError" p2] X.env)).any (·.1) = false := by rfl) :
    PU (X.suite a ((a, oe) :: pn)) (.Call (.Name "isinstance" p) [.Name n p1, .Name "ValueError" p2] [] pos) (pXis i a d (kin y.cls "ValueError")) := by
  obtain ⟨t1, _, _⟩ := Kn.cls _ _ _ _ hk hm
  exact pu_xis t1 hz hf (cl_VE (X := X.suite a ((a, oe) :: pn)) hgT Kn.nov) (fun b' e => Kn.ve _ _ _ e hm) hmi hN hv hg hd hcd h1 h2 hpl
end
theorem huH_of {k : Nat} {A : Around} (r : L2H.RoomH k A) : A.units + 1 < cLine := by have := r.un; omega
theorem _root_.L2H.RoomH.units {k : Nat} {A : Around} (r : L2H.RoomH k A) : A.units + 64 < cLine := by have := r.un; omega
end DL
set_option Elab.async false
set_option linter.all false
set_option maxRecDepth 100000
set_option maxHeartbeats 2000000
/-! DE7: the data layer: e.value as a value. -/
namespace DL
open PySem PySem.Spec PyProof.Rows L2
variable [Tbs]
def eXf (i : Nat) (a d : Addr) (f : Str) : ET := fun env Q _ => match gt env i with
  | some ⟨.exn a' d' fs, _, _⟩ => a' = a ∧ d' = d ∧ someD (fs.lookup f) fun y => Q y 0 env
  | _ => False
section
variable {X : Cx} {kin : Str → Str → Option Bool} {a C d : Addr} {oe : Obj} {pn : List (Addr × Obj)} {x n : Str} {y : Exc} {b : Bool} {p pos : Pos}
theorem de_xfK (i : Nat) (Kn : KinOk X.K X.mg kin) (hz : L2N.Zn (.ref C) (some d) oe) (hf : ∃ vs, oe.data = .fields vs) (hm : X.mg y.cls = some (.ref C)) (hk : kin y.cls x = some b) (hN : X.N[i]? = some n := by rfl)
    (hv : Vis X.env.scope n := by first | exact Or.inl rfl | exact Or.inr (Or.inl rfl) | exact Or.inr (Or.inr rfl)) (hd : (n == ("__debug__" : Str)) = false := by decide) (hcd : (n == ("__classdict__" : Str)) = false := by decide)
    (hb : attributeBase (.Name n p) "value" X.env (eval (.Name n p) X.env) = eval (.Name n p) X.env := by rfl) : DE (X.suite a ((a, oe) :: pn)) (.Attribute (.Name n p) "value" pos) (eXf i a d "value") := by
  obtain ⟨_, T, hno⟩ := Kn.cls _ _ _ _ hk hm
  intro W tk
  refine peI (pe_xf T hno hz.zc hf (pe_var (X := X.suite a ((a, oe) :: pn)) hN hv hd hcd) hb) ?_
  rintro σ H Qh ⟨io, env, F, O, Q, R, I, h, k, kx⟩
  unfold eXf at h
  cases e : gt env i with
  | none => rw [e] at h; exact h.elim
  | some b =>
    rw [e] at h
    obtain ⟨bd, bn, bio⟩ := b
    cases bd <;> first | exact (show False from h).elim | skip
    rename_i a' d' fs
    have h : a' = a ∧ d' = d ∧ someD (fs.lookup ("value" : Str)) (fun y => Q y 0 env) := h
    obtain ⟨rfl, rfl, hx⟩ := h
    obtain ⟨v, h1, h2, _⟩ := I.slot i _ (gt_some e)
    obtain ⟨rfl, vs, g1, g2⟩ := exn_rep h2
    obtain ⟨y, ey, hq⟩ := someD_of hx
    obtain ⟨v, l1, l2⟩ := RepF.look g2 ey
    exact ⟨_, h1, rfl, rfl, d', vs, v, rfl, I.sub _ _ g1, l1, k y 0 env F O H v P0 (At.start I) Tp.none l2 hq⟩
end
theorem roomH_mark {k : Nat} {A : Around} (r : Room k A) (h : Option Value) : L2H.RoomH k (A.mark h) := ⟨r.dp, r.un⟩
end DL
set_option Elab.async false
set_option linter.all false
set_option maxRecDepth 100000
set_option maxHeartbeats 2000000
/-! DE8: the data layer: the facts of exception classes, checked on the part of the heap that a law's head reads. -/
namespace DL
open PySem PySem.Spec PyProof.Rows L2
variable [Tbs]
def oexK (K : PySem.W.Frag) (C : Addr) : Bool := match K.lookup C with
  | some ⟨.type "type", _, .cls cd, sl⟩ => (match cd.mro, sl.toList with
    | .ref C' :: bm, [_, _, _, _, some (.builtin n), _] => C' == C && n == "ValueError.__new__" && !cd.hasDel && cd.hasDict && PySem.HandSPX.refsVE bm
    | _, _ => false)
  | _ => false
def oexB (K : PySem.W.Frag) (C : Addr) : Bool := oexK K C && (decide (PySem.W.findIn K (.ref C) "__setattr__" = some (some (.builtin "object.__setattr__"))) && (decide (PySem.W.subIn K (.ref C) (.type "BaseException") = some true) &&
  (decide (PySem.W.typeIn K (.ref C) = some (.type "type")) && PySem.W.keepIn K (.ref C))))
theorem oexK_ok {K : PySem.W.Frag} {C : Addr} (q : oexK K C = true) : ∃ nm qn N bs bm sn sub ab col dd k0 k1 k2 k3 k5, K.lookup C = some (excClassObj nm qn C N bs bm true sn sub ab col dd k0 k1 k2 k3 k5 "ValueError.__new__") ∧ PySem.HandSPX.refsVE bm = true := by
  unfold oexK at q
  split at q
  · rename_i dd cd sl ho
    split at q
    · rename_i C' bm k0 k1 k2 k3 n k5 hm hs
      simp only [Bool.and_eq_true, beq_iff_eq, Bool.not_eq_true'] at q
      obtain ⟨⟨⟨⟨rfl, rfl⟩, hdel⟩, hdict⟩, hv⟩ := q
      obtain ⟨nm, bs, mro, ns, qn, hd, sn, sub, ab, col, del⟩ := cd
      dsimp only at hm hdel hdict
      subst hm hdel hdict
      have hsl : sl = #[k0, k1, k2, k3, some (.builtin "ValueError.__new__"), k5] := by
        obtain ⟨l⟩ := sl
        simp only at hs
        rw [hs]
      subst hsl
      exact ⟨nm, qn, ns, bs, bm, sn, sub, ab, col, dd, k0, k1, k2, k3, k5, ho, hv⟩
    · cases q
  · cases q
theorem oexB_ok {K : PySem.W.Frag} {C : Addr} (h : oexB K C = true) : OexC K C := by
  obtain ⟨h1, h⟩ := Bool.and_eq_true_iff.mp h
  obtain ⟨h2, h⟩ := Bool.and_eq_true_iff.mp h
  obtain ⟨h3, h⟩ := Bool.and_eq_true_iff.mp h
  obtain ⟨h4, h5⟩ := Bool.and_eq_true_iff.mp h
  exact ⟨oexK_ok h1, of_decide_eq_true h2, of_decide_eq_true h3, of_decide_eq_true h4, h5⟩
def excB (K : PySem.W.Frag) (C : Addr) : Bool :=
  decide (PySem.W.findIn K (.ref C) "__getattribute__" = some (some (.builtin "BaseException.__getattribute__"))) && (decide (PySem.W.findIn K (.ref C) "__getattr__" = some none) && (decide (PySem.W.subIn K (.ref C) (.type "BaseException") = some true) && (PySem.W.hasDictIn K C &&
  (decide (PySem.W.findIn K (.ref C) "__class__" = some (some (.builtin "object.__class__"))) && (decide (PySem.W.specialIn K (.builtin "object.__class__") "__get__" = some (some (.builtin "getset_descriptor.__get__"))) && (decide (PySem.W.takesIn K (.builtin "object.__class__") = some true) && decide (PySem.W.mroIn K C (.type "object") = some true)))))))
theorem excB_ok {K : PySem.W.Frag} {C : Addr} (h : excB K C = true) : ExcC K C := by
  obtain ⟨h1, h⟩ := Bool.and_eq_true_iff.mp h
  obtain ⟨h2, h⟩ := Bool.and_eq_true_iff.mp h
  obtain ⟨h3, h⟩ := Bool.and_eq_true_iff.mp h
  obtain ⟨h4, h⟩ := Bool.and_eq_true_iff.mp h
  obtain ⟨h5, h⟩ := Bool.and_eq_true_iff.mp h
  obtain ⟨h6, h⟩ := Bool.and_eq_true_iff.mp h
  obtain ⟨h7, h8⟩ := Bool.and_eq_true_iff.mp h
  exact ⟨of_decide_eq_true h1, of_decide_eq_true h2, of_decide_eq_true h3, h4, of_decide_eq_true h5, of_decide_eq_true h6, of_decide_eq_true h7, of_decide_eq_true h8⟩
/-- a class: root is the one that has the __init__ -/
def clsB (K : PySem.W.Frag) (root x : Str) : Bool := decide (PySem.W.nsIn K mainGlobals x = some (some (.ref (He.ga K x)))) && (oexB K (He.ga K x) && (xfB K (He.ga K x) && (excB K (He.ga K x) &&
  (decide (PySem.W.findIn K (.ref (He.ga K x)) "value" = some none) && (decide (PySem.W.findIn K (.ref (He.ga K x)) "__init__" = some (some (.ref (He.ma K (He.ga K root) "__init__")))) && decide (PySem.W.kitOne K (.ref (He.ga K x)) (.type "ValueError") = some true))))))
/-- the classes' table: names, each with all that it is -/
def tabB (K : PySem.W.Frag) (root : Str) (tab : List (Str × List Str)) : Bool :=
  decide (PySem.W.nsIn K mainGlobals "ValueError" = some none) && (decide (PySem.W.typeIn K (.ref (He.ma K (He.ga K root) "__init__")) = some (.type "function")) && ((tab.all fun p => clsB K root p.1) && (tab.all fun p => tab.all fun q =>
    decide (PySem.W.exmOne K (.ref (He.ga K p.1)) (.ref (He.ga K q.1)) = some (p.2.any fun z => decide (z = q.1))) && decide (PySem.W.kitOne K (.ref (He.ga K p.1)) (.ref (He.ga K q.1)) = some (p.2.any fun z => decide (z = q.1))))))
def kinOf (tab : List (Str × List Str)) (y c : Str) : Option Bool := match tab.lookup y with
  | some l => if ((tab.any fun q => decide (q.1 = c)) || decide (c = "ValueError")) = true then some (l.any fun z => decide (z = c)) else none
  | none => none
section
variable {K : PySem.W.Frag} {h : Heap} {mg : MG} {root : Str} {tab : List (Str × List Str)}
theorem clsB_ok (X : K.In h) (G : h.Ns mainGlobals mg) {x : Str} (c : clsB K root x = true) : ExcD K mg (He.ma K (He.ga K root) "__init__") (He.ga K x) x ∧ PySem.W.kitOne K (.ref (He.ga K x)) (.type "ValueError") = some true := by
  obtain ⟨h1, c⟩ := Bool.and_eq_true_iff.mp c
  obtain ⟨h2, c⟩ := Bool.and_eq_true_iff.mp c
  obtain ⟨h3, c⟩ := Bool.and_eq_true_iff.mp c
  obtain ⟨h4, c⟩ := Bool.and_eq_true_iff.mp c
  obtain ⟨h5, c⟩ := Bool.and_eq_true_iff.mp c
  obtain ⟨h6, h7⟩ := Bool.and_eq_true_iff.mp c
  exact ⟨⟨PySem.W.mg_of X G (of_decide_eq_true h1), oexB_ok h2, xfB_ok h3, excB_ok h4, of_decide_eq_true h5, of_decide_eq_true h6⟩, of_decide_eq_true h7⟩
theorem tab_cls (X : K.In h) (G : h.Ns mainGlobals mg) (c : tabB K root tab = true) {p : Str × List Str} (hp : p ∈ tab) : ExcD K mg (He.ma K (He.ga K root) "__init__") (He.ga K p.1) p.1 ∧ PySem.W.kitOne K (.ref (He.ga K p.1)) (.type "ValueError") = some true := by
  obtain ⟨_, c⟩ := Bool.and_eq_true_iff.mp c
  obtain ⟨_, c⟩ := Bool.and_eq_true_iff.mp c
  obtain ⟨c, _⟩ := Bool.and_eq_true_iff.mp c
  exact clsB_ok X G (List.all_eq_true.mp c p hp)
theorem tab_at (X : K.In h) (G : h.Ns mainGlobals mg) (c : tabB K root tab = true) {x : Str} (hx : (tab.any fun q => decide (q.1 = x)) = true) : ClsAt mg x := by
  obtain ⟨q, hq, e⟩ := List.any_eq_true.mp hx
  have e : q.1 = x := of_decide_eq_true e
  subst e
  exact ⟨_, (tab_cls X G c hq).1.at_⟩
theorem tab_kin (X : K.In h) (G : h.Ns mainGlobals mg) (c : tabB K root tab = true) (hv : ∀ p ∈ tab, (p.2.any fun z => decide (z = ("ValueError" : Str))) = true) : KinOk K mg (kinOf tab) := by
  have split : ∀ {y z : Str} {b : Bool}, kinOf tab y z = some b → ∃ l, (y, l) ∈ tab ∧ b = (l.any fun w => decide (w = z)) ∧ ((∃ q ∈ tab, q.1 = z) ∨ z = "ValueError") := fun {y z b} e => by
    unfold kinOf at e
    cases q : tab.lookup y with
    | none => rw [q] at e; cases e
    | some l =>
      rw [q] at e
      dsimp only at e
      split at e
      · rename_i g
        cases e
        refine ⟨l, PySem.mem_of_lookup q, rfl, ?_⟩
        rcases Bool.or_eq_true_iff.mp g with g | g
        · obtain ⟨w, hw, ew⟩ := List.any_eq_true.mp g
          exact .inl ⟨w, hw, of_decide_eq_true ew⟩
        · exact .inr (of_decide_eq_true g)
      · cases e
  have c0 := c
  obtain ⟨n1, c⟩ := Bool.and_eq_true_iff.mp c
  obtain ⟨n2, c⟩ := Bool.and_eq_true_iff.mp c
  obtain ⟨n3, n4⟩ := Bool.and_eq_true_iff.mp c
  have nv : mg "ValueError" = none := PySem.W.mg_none_of X G (of_decide_eq_true n1)
  have both : ∀ {p q : Str × List Str}, p ∈ tab → q ∈ tab → PySem.W.exmOne K (.ref (He.ga K p.1)) (.ref (He.ga K q.1)) = some (p.2.any fun z => decide (z = q.1)) ∧ PySem.W.kitOne K (.ref (He.ga K p.1)) (.ref (He.ga K q.1)) = some (p.2.any fun z => decide (z = q.1)) := fun {p q} hp hq => by
    have := List.all_eq_true.mp (List.all_eq_true.mp n4 p hp) q hq
    obtain ⟨a, b⟩ := Bool.and_eq_true_iff.mp this
    exact ⟨of_decide_eq_true a, of_decide_eq_true b⟩
  have at1 : ∀ {y : Str} {l : List Str} {C : Addr}, (y, l) ∈ tab → mg y = some (.ref C) → C = He.ga K y := fun {y l C} hy hm => by
    have := (tab_cls X G c0 hy).1.at_
    rw [hm] at this
    injection this with this
    injection this
  refine ⟨fun y z b C C2 e m1 m2 => ?_, fun y z b C C2 e m1 m2 => ?_, fun y b C e m1 => ?_, fun y z b C e m1 => ?_, nv⟩
  · obtain ⟨l, hl, rfl, g⟩ := split e
    rcases g with ⟨q, hq, rfl⟩ | rfl
    · rw [at1 hl m1, at1 (l := q.2) hq m2]
      exact (both hl hq).1
    · rw [nv] at m2; cases m2
  · obtain ⟨l, hl, rfl, g⟩ := split e
    rcases g with ⟨q, hq, rfl⟩ | rfl
    · rw [at1 hl m1, at1 (l := q.2) hq m2]
      exact (both hl hq).2
    · rw [nv] at m2; cases m2
  · obtain ⟨l, hl, rfl, _⟩ := split e
    rw [at1 hl m1, hv _ hl]
    exact (tab_cls X G c0 hl).2
  · obtain ⟨l, hl, _, _⟩ := split e
    have E := (tab_cls X G c0 hl).1
    rw [at1 hl m1]
    exact ⟨E.xc, E.xf, E.nv⟩
end
end DL
set_option Elab.async false
set_option linter.all false
set_option maxRecDepth 100000
set_option maxHeartbeats 2000000
/-! DE9: the data layer: a law's head with facts of exception classes. -/
namespace DL
open PySem PySem.Spec PyProof.Rows L2
variable [Tbs]
def obsX (n : Nat) (fa : List He.Fa) (fn : List He.DefD) (ex : PySem.W.Frag → Bool) (g : Addr → Option Obj) : He.AlD × Bool := (He.obsD fa fn (noL (He.frG g (He.asD g n))), ex (noL (He.frG g (He.asD g n))))
def hookX (n : Nat) (fa : List He.Fa) (fn : List He.DefD) (ex : PySem.W.Frag → Bool) : PySem.W.Hook where
  α := He.AlD × Bool
  obs := fun s => obsX n fa fn ex s.heap.get?
  val := fun _ => (He.valD fn, true)
  says := fun _ h => ∃ K : PySem.W.Frag, K.In h ∧ NoLst K ∧ He.SaysD fa fn K ∧ ex K = true
  of := fun _ _ e => ⟨_, noL_in, noL_no, congrArg (fun z : He.AlD × Bool => z.1) e, congrArg (fun z : He.AlD × Bool => z.2) e⟩
  keeps := fun _ _ _ ⟨K, hK, n, c⟩ k => ⟨K, PySem.W.Frag.In.keeps hK k, n, c⟩
theorem obsX_eq {n : Nat} {fa : List He.Fa} {fn : List He.DefD} {ex : PySem.W.Frag → Bool} {g : Addr → Option Obj} {s : Shared} (h : ∀ a, g a = s.heap.get? a) : obsX n fa fn ex g = (hookX n fa fn ex).obs s := by
  have e : g = s.heap.get? := funext h
  rw [e] <;> rfl
section
variable {P : Program} {w : World} {K : PySem.W.Frag} {mg : MG} {base : Heap} {fa : List He.Fa} {fn : List He.DefD} {root qual : Str} {st : Stmt} {p1 p2 p3 p4 : Pos} {tab : List (Str × List Str)} {h : Heap}
theorem ini_of (c : He.SaysD fa fn K) (i : Nat) (t : tabB K root tab = true) (Sc : FnScope ["self", "value"] ["self", "value"] (defScope st))
    (hb : defBody st = [.Assign [.Attribute (.Name "self" p1) "value" p2] (.Name "value" p3) p4])
    (v1 : (defScope st).names.lookup ("self" : Str) = some NameKind.local) (v2 : (defScope st).names.lookup ("value" : Str) = some NameKind.local)
    (hbi : ∀ (T : Addr) (kV doc pm : Value) (an : Option Addr) (cdv ct : Value) (us its : List Value), us.length = 2 → its.length = 1 →
      ∃ k, bindArgs (PySem.W.fnOf "__init__" qual (defArgs st) (defBody st) (defScope st) (.ref T) kV doc pm an cdv ct) ⟨us, []⟩ = seqItems? (.ref T) >>= k ∧ k (some its.toArray) = pure ((["self", "value"] : List Str).zip (us ++ its.drop 1)))
    (hi : fn[i]? = some ⟨(root, some "__init__"), "__init__", qual, defArgs st, defBody st, defScope st, [.non], []⟩) : Ini P w K mg base 1 (He.ma K (He.ga K root) "__init__") := by
  obtain ⟨fd, F⟩ := c.def_ i hi
  obtain ⟨_, t⟩ := Bool.and_eq_true_iff.mp t
  obtain ⟨t2, _⟩ := Bool.and_eq_true_iff.mp t
  have F2 : FunD K "__init__" qual (defArgs st) (defBody st) (defScope st) [V.non] [] (He.ma K (He.ga K root) "__init__") fd := F
  obtain ⟨ds, r, b⟩ := F2.binds1 (ps := ["self", "value"]) 2 1 (by simp) rfl hbi
  cases r
  exact ⟨fd, of_decide_eq_true t2, b, init_ok (k := 0) F2 Sc hb v1 v2⟩
theorem excn_of (X : K.In h) (G : h.Ns mainGlobals mg) (t : tabB K root tab = true) (I : Ini P w K mg base 1 (He.ma K (He.ga K root) "__init__")) {x : Str} (hx : (tab.any fun q => decide (q.1 = x)) = true) : ExcN P w K mg base 2 x := by
  obtain ⟨q, hq, e⟩ := List.any_eq_true.mp hx
  have e : q.1 = x := of_decide_eq_true e
  subst e
  exact ⟨_, _, 1, Nat.le_refl _, (tab_cls X G t hq).1, I⟩
end
end DL
set_option Elab.async false
set_option linter.all false
set_option maxRecDepth 100000
set_option maxHeartbeats 2000000
/-! DT1: the data layer: more of texts: upper, count, find, str(int), int(text), split with a bound. -/
namespace DL
open PySem PySem.Spec PyProof.Rows L2
variable [Tbs]
def odUpper : OTM
  | .str a, [], Q => a.length ≤ 5592405 ∧ Q (.str (Txt.upper a)) 0
  | _, _, _ => False
def odCount : OTM
  | .str a, [.str b], Q => Q (.int (Txt.count a b)) 0
  | _, _, _ => False
def odFind : OTM
  | .str a, [.str b], Q => Q (.int (Txt.find a b)) 0
  | _, _, _ => False
def odSplitM : OTM
  | .str a, [.str b, .int k], Q => ((b.length == 0) = false ∧ -(2 ^ 63) ≤ k ∧ k < 2 ^ 63 ∧ a.length + 2 ≤ sizeLine) ∧ Q (.lst ((Txt.splitMax a b k).map .str)) 1
  | _, _, _ => False
def odStrI : OTN
  | [.int i], Q => i.natAbs.log2 < 1920 ∧ Q (.str (toString i : Str)) 0
  | [.str s], Q => Q (.str s) 0
  | _, _ => False
def odIntS : OTN
  | [.str a], Q => a.length ≤ 640 ∧ match PySem.intText? a with | some n => Q (.int n) 0 | none => False
  | _, _ => False
section
variable {X : Cx}
theorem okUpper : OkM X (fun x xs H Q => ∃ a, x = .str a ∧ xs = [] ∧ a.length ≤ 5592405 ∧ Q (.str (Txt.upper a)) H) odUpper := by
  intro F H x xs v vs Q Qh e r1 r2 h k
  cases x <;> first | exact (show False from h).elim | skip
  cases (show v = _ from r1)
  match xs, h, r2 with
  | [], h, r2 => exact ⟨_, rfl, r2, h.1, k.old (.str _) _ rfl h.2⟩
theorem okCount : OkM X (fun x xs H Q => ∃ a b, x = .str a ∧ xs = [.str b] ∧ Q (.int (Txt.count a b)) H) odCount := by
  intro F H x xs v vs Q Qh e r1 r2 h k
  cases x <;> first | exact (show False from h).elim | skip
  cases (show v = _ from r1)
  match xs, h, r2 with
  | [.str b], h, r2 =>
    obtain ⟨v, _, rfl, rv, rfl⟩ := r2
    cases (show v = _ from rv)
    exact ⟨_, b, rfl, rfl, k.old (.int _) _ rfl h⟩
theorem okFind : OkM X (fun x xs H Q => ∃ a b, x = .str a ∧ xs = [.str b] ∧ Q (.int (Txt.find a b)) H) odFind := by
  intro F H x xs v vs Q Qh e r1 r2 h k
  cases x <;> first | exact (show False from h).elim | skip
  cases (show v = _ from r1)
  match xs, h, r2 with
  | [.str b], h, r2 =>
    obtain ⟨v, _, rfl, rv, rfl⟩ := r2
    cases (show v = _ from rv)
    exact ⟨_, b, rfl, rfl, k.old (.int _) _ rfl h⟩
theorem okStrI : OkN X (fun xs H Q => (∃ i, xs = [.int i] ∧ i.natAbs.log2 < 1920 ∧ Q (.str (toString i)) H) ∨ ∃ a, xs = [.str a] ∧ Q (.str a) H) odStrI := by
  intro F H xs vs Q Qh e r h k
  match xs, h, r with
  | [.int i], h, r =>
    obtain ⟨v, _, rfl, rv, rfl⟩ := r
    cases (show v = _ from rv)
    exact .inl ⟨i, rfl, h.1, k.old (.str _) _ rfl h.2⟩
  | [.str s], h, r =>
    obtain ⟨v, _, rfl, rv, rfl⟩ := r
    cases (show v = _ from rv)
    exact .inr ⟨s, rfl, k.old (.str _) _ rfl h⟩
theorem okIntS : OkN X (fun xs H Q => ∃ a n, xs = [.str a] ∧ PySem.intText? a = some n ∧ a.length ≤ 640 ∧ Q (.int n) H) odIntS := by
  intro F H xs vs Q Qh e r h k
  match xs, h, r with
  | [.str a], h, r =>
    obtain ⟨v, _, rfl, rv, rfl⟩ := r
    cases (show v = _ from rv)
    have h : a.length ≤ 640 ∧ match PySem.intText? a with | some n => Q (.int n) 0 | none => False := h
    obtain ⟨h1, h2⟩ := h
    cases e2 : PySem.intText? a with
    | none => rw [e2] at h2; exact h2.elim
    | some n =>
      rw [e2] at h2
      exact ⟨a, n, rfl, e2, h1, k.old (.int _) _ rfl h2⟩
end
theorem call_strA {X : Cx} : CallR X (.type "str") (fun xs H Q => (∃ i, xs = [.int i] ∧ i.natAbs.log2 < 1920 ∧ Q (.str (toString i)) H) ∨ ∃ a, xs = [.str a] ∧ Q (.str a) H) := by
  intro pins s σ H xs us Q I r h
  rcases h with h | ⟨a, rfl, q⟩
  · exact call_str_int pins s σ H xs us Q I r h
  · exact SkE.call_str_str pins s σ H _ us Q I r ⟨a, rfl, q⟩
section
variable {X : Cx} {e : Expr} {pe : PUT} {p pos : Pos}
theorem pu_strI (B : Blt X.mg) (ha : PU X e pe) (hg : Gl X "str" := by rfl) (he : starEach [e] X.env = (false, eval e X.env) :: starEach [] X.env := by rfl) : PU X (.Call (.Name "str" p) [e] [] pos) (tPN odStrI (apCons pe apNil)) :=
  pu_ty call_strA okStrI B.str boot_str (pua_cons ha pua_nil he) hg (by decide) (by decide) he rfl
theorem pu_intS (B : Blt X.mg) (ha : PU X e pe) (hg : Gl X "int" := by rfl) (he : starEach [e] X.env = (false, eval e X.env) :: starEach [] X.env := by rfl) : PU X (.Call (.Name "int" p) [e] [] pos) (tPN odIntS (apCons pe apNil)) :=
  pu_ty call_int_str okIntS B.int boot_int (pua_cons ha pua_nil he) hg (by decide) (by decide) he rfl
end
end DL
set_option Elab.async false
set_option linter.all false
set_option maxRecDepth 100000
set_option maxHeartbeats 2000000
/-! DG1: a lambda without parameters handed to a def that calls it (turned from HandS's with the context of exceptions told). -/
namespace DL
open PySem PySem.Spec PyProof.Rows L2 LamX
section
variable {X : Cx} {pins : List (Addr × Obj)} {σ : L2.St} {H : Hp} {s : Shared}
/-- the lambda is made: its code object is new, or found in the table -/
theorem lam_make3 {T : List (Addr × Str)} {c P : Addr} {params : Arguments} {body : Expr} {scope : Scope} {pos : Pos} {E : Value → Shared → Prop} {Q : Value → Shared → Prop} (I : Inv X pins σ H s) (TB : TabB X.base X.mg c P) (hcode : X.env.code = .ref c)
    (hm : (P, X.env.qual ++ "<lambda>") ∈ T) (hu : ∀ p ∈ T, p.1 = P → p.2 = X.env.qual ++ "<lambda>") (hT : Tabs T H) (hdef : defaultsOf params X.env = ([], [])) (hfree : ∀ y ∈ scope.names, y.2 = .free → ∃ c, X.env.cells.lookup y.1 = some c)
    (h : ∀ (f c' : Addr) (pm ctv : Value) (H1 : Hp) (s' : Shared), Inv X pins σ H1 s' → (∀ b o, H b = some o → b ≠ P → H1 b = some o) → Tabs T H1 →
      s'.heap.get? f = some (PySem.W.kla_obj "<lambda>" (X.env.qual ++ "<lambda>") params body scope (cloFrom X.env.cells scope.names []) pm c' ctv) → H1 f = none → f ∉ frs X.stack → H1 c' = some (CodeO c' (X.env.qual ++ "<lambda>")) → Q (.ref f) s') :
    wpAny (model X.prog X.w) X.A (eval (.Lambda params body scope pos) X.env) Q E s := by
  obtain ⟨ps, hP, ht, ha⟩ := hT _ hm
  refine PySem.W.kla_eval hdef ?_
  have bP : s.heap.BuiltinsAt X.mg P := TB.bm.keeps I.bk
  have hP' : s.heap.get? P = some { cls := .none, data := .fields ps } := I.hok P _ hP
  have nofr : ∀ f, s.heap.objs.size ≤ f → f ∉ frs X.stack := fun f hf z => by
    rcases List.mem_cons.mp (I.stkSub _ z) with e | e
    · have h1 := I.lt
      rw [← e] at h1
      exact Nat.lt_irrefl _ (Nat.lt_of_lt_of_le h1 hf)
    · exact I.nofs hf e
  cases hc : codeAmong pos ps.toList with
  | none =>
    refine PySem.W.kla_makeFunction (mg := X.mg) (c := c) (P := P) (ps := ps) (closure_ok hfree) I.ok.glob (I.mod.glob.keeps I.bk) hcode (TB.code.keeps I.bk) hP' ht hc TB.gP bP fun c' ctv h' tk hx hge hlt hrec htb => ?_
    obtain ⟨c2, oc, vs, t, e2, hoc, hd, hv⟩ := hrec
    cases e2
    have hsz : s.heap.objs.size ≤ h'.objs.size := Nat.le_trans hge (Nat.le_of_lt hlt)
    have nC : H c' = none := I.hok.fresh hge
    have I1 := inv_table (t' := tk) (more := #[rawInt pos.line, rawInt pos.col, .ref c']) (h' := h'.push (PySem.W.kla_obj "<lambda>" (X.env.qual ++ "<lambda>") params body scope (cloFrom X.env.cells scope.names []) ((X.mg "__name__").getD .none) c' ctv)) I hP
      (fun b o hb e => Heap.get?_push_of_some _ (hx b o hb e)) (Heap.get?_push_of_some _ htb) hge ⟨oc, vs, t, Heap.get?_push_of_some _ hoc, hd, hv⟩
    have hE : ∀ b o, H b = some o → b ≠ P → (upd (upd H P (.tbl (ps ++ #[rawInt pos.line, rawInt pos.col, .ref c']))) c' (CodeO c' (X.env.qual ++ "<lambda>"))) b = some o := fun b o e n => by
      rw [upd_ne (ne_of_none e nC), upd_ne n]
      exact e
    have nPO : ∀ {b q}, H b = some (CodeO b q) → b ≠ P := fun {b q} e z => by
      rw [z, hP] at e
      exact codeO_ne ps (Option.some.inj e).symm
    have eL : (ps ++ #[rawInt pos.line, rawInt pos.col, .ref c']).toList = ps.toList ++ [rawInt pos.line, rawInt pos.col, .ref c'] := by simp
    refine h h'.objs.size c' ((X.mg "__name__").getD .none) ctv _ _ I1 hE (fun p hp => ?_) (Heap.get?_push_size _ rfl) ?_ (nofr _ hsz) upd_same
    · by_cases hb : p.1 = P
      · rw [hu p hp hb, hb]
        refine ⟨_, by rw [upd_ne (ne_of_none hP nC), upd_same], by rw [eL]; exact PySem.TriplesOk_snoc _ _ _ _ ht, fun p' cv hcv => ?_⟩
        rw [eL] at hcv
        rcases among_app _ ht hcv with z | z
        · obtain ⟨c0, e1, e2⟩ := ha p' cv z
          exact ⟨c0, e1, hE _ _ e2 (nPO e2)⟩
        · exact ⟨c', z, upd_same⟩
      · obtain ⟨ps', a1, a2, a3⟩ := hT p hp
        refine ⟨ps', by rw [upd_ne (ne_of_none a1 nC), upd_ne hb]; exact a1, a2, fun p' cv hcv => ?_⟩
        obtain ⟨c0, e1, e2⟩ := a3 p' cv hcv
        exact ⟨c0, e1, hE _ _ e2 (nPO e2)⟩
    · have n1 : h'.objs.size ≠ c' := Nat.ne_of_gt hlt
      have n2 : h'.objs.size ≠ P := Nat.ne_of_gt (Nat.lt_of_lt_of_le (Heap.lt_size hP') hsz)
      rw [upd_ne n1, upd_ne n2]
      exact I.hok.fresh hsz
  | some cv =>
    obtain ⟨c', e, hco⟩ := ha pos cv hc
    subst e
    refine PySem.W.kla_makeFunctionHit (mg := X.mg) (c := c) (P := P) (ps := ps) (closure_ok hfree) I.ok.glob (I.mod.glob.keeps I.bk) hcode (TB.code.keeps I.bk) hP' ht hc bP fun ctv h' tk hx hsz => ?_
    have I1 : Inv X pins σ H { s with heap := h'.push (PySem.W.kla_obj "<lambda>" (X.env.qual ++ "<lambda>") params body scope (cloFrom X.env.cells scope.names []) ((X.mg "__name__").getD .none) c' ctv), toks := tk } := I.kept fun b o e => Heap.get?_push_of_some _ (hx b o e)
    exact h h'.objs.size c' ((X.mg "__name__").getD .none) ctv H _ I1 (fun _ _ e _ => e) hT (Heap.get?_push_size _ rfl) (I.hok.fresh hsz) (nofr _ hsz) hco
end
/-- the body's context, exceptions told with their context -/
def lamN (X : Cx) (A : Around) (outer : List Env) (s : Shared) (H : Hp) (E : XK) (scope : Scope) (f c' : Addr) : Cx :=
  (lamCx X A outer s H E scope f c').wish fun e s' => wpAny (model X.prog X.w) (A.deeper (lamEnv X scope s.heap.objs.size f c')) (leaving (lamEnv X scope s.heap.objs.size f c') e) (fun _ s'' => L2N.CX X.prog X.w outer H s E e s'') (fun e' s'' => L2N.CX X.prog X.w outer H s E e' s'') s'
theorem takes_lam {X : Cx} {A : Around} {outer : List Env} {s : Shared} {H : Hp} {E : XK} {scope : Scope} {f c' : Addr} : Takes (lamN X A outer s H E scope f c') (fun cls d _ H => E cls d H) := L2N.takes_of rfl rfl rfl rfl
section
variable {X : Cx} {pins : List (Addr × Obj)} {σ : L2.St} {H HZ : Hp} {s s1 : Shared}
/-- x(), in the def that got the lambda -/
theorem pe_actN {CXg : CXT} {Eg : XK} {Ng : List Str} {qg : Str} {sg : Scope} {g f c' : Addr} {cdg pm ctv : Value} {params : Arguments} {body : Expr} {scope : Scope} {k i : Nat} {a : Str} {pn : List (Addr × Obj)} {xe : Value → Shared → Prop} {W : WX} {tb : XK → TE} {p1 p2 : Pos}
    (I : Inv X pins σ H s) (L : LamS X.env.scope scope) (hf : s.heap.get? f = some (PySem.W.kla_obj "<lambda>" (X.env.qual ++ "<lambda>") params body scope (cloFrom X.env.cells scope.names []) pm c' ctv)) (hfn : H f = none) (hfr : f ∉ frs X.stack)
    (hbind : bindArgs (PySem.W.kla_fn "<lambda>" (X.env.qual ++ "<lambda>") params body scope (cloFrom X.env.cells scope.names []) pm (.ref c') ctv) ⟨[], []⟩ = pure [])
    (tk : Takes ((cxOf CXg X.prog X.w X.K X.mg X.base Ng qg sg g cdg X.A X.stack s H Eg).tr pn xe) W) (hr : Room (k + 1) (X.A.deeper (envOfC qg sg s.heap.objs.size g cdg)))
    (hbody : ∀ (A : Around) (outer : List Env) (s : Shared) (H : Hp) (E : XK), Room k (A.deeper (lamEnv X scope s.heap.objs.size f c')) → PE (lamN X A outer s H E scope f c') body (tb E))
    (hN : Ng[i]? = some a) (hv : Vis sg a) (hd : (a == ("__debug__" : Str)) = false := by decide) (hcd : (a == ("__classdict__" : Str)) = false := by decide) :
    PE ((cxOf CXg X.prog X.w X.K X.mg X.base Ng qg sg g cdg X.A X.stack s H Eg).tr pn xe) (.Call (.Name a p1) [] [] p2)
      (fun σZ HZ Q => σZ[i]? = some (some (.ref f)) ∧ HZ c' = some (CodeO c' (X.env.qual ++ "<lambda>")) ∧ tb (fun cls d H => W cls d σZ H) σ HZ Q) := by
  refine ⟨fun pinsZ sZ σZ HZ Q IZ h => ?_⟩
  obtain ⟨hs, hc, ht⟩ := h
  refine wpAny_Call_Name_kw (thn ((pe_var (pos := p1) (i := i) hN hv hd hcd).run pinsZ sZ σZ HZ (fun v H1 => v = .ref f ∧ H1 = HZ) IZ ⟨.ref f, hs, rfl, rfl⟩) fun u s1 ⟨v, H1, I1, r1, q1⟩ => ?_)
  obtain ⟨ev, eH⟩ := q1
  subst ev
  rw [eH] at I1
  obtain rfl : u = Value.ref f := r1
  have of1 : s1.heap.get? f = some (PySem.W.kla_obj "<lambda>" (X.env.qual ++ "<lambda>") params body scope (cloFrom X.env.cells scope.names []) pm c' ctv) := I1.base.keep f _ hf hfn hfr (fun z => nomatch (show f ∈ ([] : List Addr) from z))
  refine PySem.W.callWith_F0 ⟨_, _, _, _, of1⟩ ?_
  have un : Un (frs X.stack) [] H HZ s.heap s1.heap := I1.base
  obtain ⟨⟨oc, vs, t, hoc, hdc, hvc⟩, _, _⟩ := I1.hok c' _ hc
  have rc : codeAny (model X.prog X.w) (X.A.deeper (envOfC qg sg s.heap.objs.size g cdg)) (.call (.ref f) ⟨[], []⟩) (CR (L2N.CX X.prog X.w) (envOfC qg sg s.heap.objs.size g cdg :: X.stack) X.prog X.w HZ s1 Q (fun cls d H => W cls d σZ H)) s1 := by
    refine PySem.W.kla_callFunE hr.depth of1 rfl L.co L.gen rfl ⟨c', oc, vs, t, rfl, hoc, hdc, hvc⟩ ?_
    rw [hbind]
    refine wpAny_pure (wpAny_newFunctionEnv (fun y hy => (L.own y hy).2) (fun y hy => absurd hy (by simp)) (fun h₁ hns hsb => ⟨I1.nolimit.fresh _ hsb, ?_⟩) L.kind)
    show codeAny _ _ (.expr body (lamEnv X scope s1.heap.objs.size f c')) _ _
    have kp : ∀ b o, s1.heap.get? b = some o → h₁.get? b = some o := fun b o e => hsb.extBut b o (Nat.ne_of_lt (Heap.lt_size e)) (Heap.get?_push_of_some _ e)
    have J : Inv (lamN X (X.A.deeper (envOfC qg sg s.heap.objs.size g cdg)) (envOfC qg sg s.heap.objs.size g cdg :: X.stack) s1 HZ (fun cls d H => W cls d σZ H) scope f c') [] σ HZ { s1 with heap := h₁, toks := s1.toks + ([] : List (Str × Value)).length } :=
      (lam_start2 I L I1.env0 hr.hd un hns kp).wish _
    refine PySem.W.kla_codeExpr (wpAny_mono ((hbody _ _ s1 HZ _ (hr.deeper _)).run [] _ _ HZ Q J ht) (fun v s' hq => ?_) fun e s' hq => hq)
    obtain ⟨w', H', J', rv, q⟩ := hq
    exact ⟨w', H', J'.os, J'.bare, J'.base, J'.hok, rv, q⟩
  have hx := passAt tk σZ
  refine wpAny_call (codeAny_mono rc fun r s' hq => ?_)
  cases r with
  | error e => exact hx pinsZ HZ s1 e s' I1 hq
  | ok fl =>
    cases fl with
    | ret u => exact I1.after hq
    | next => exact False.elim hq
    | brk => exact False.elim hq
    | cont => exact False.elim hq
end
/-- the context of the def that gets the lambda -/
abbrev getC (X : Cx) (Ng : List Str) (x : Str) (sg : Scope) (g : Addr) (cdg : Value) (s : Shared) (H : Hp) : Cx := cxOf (L2N.CX X.prog X.w) X.prog X.w X.K X.mg X.base Ng x sg g cdg X.A X.stack s H fun _ _ _ => False
section
variable {X : Cx}
/-- x(lambda: body); G: what the def makes of it -/
theorem pe_lamN {T : List (Addr × Str)} {x a : Str} {g c P : Addr} {k : Nat} {st : Stmt} {fd : FuncData} {Ng : List Str} {params : Arguments} {body : Expr} {scope : Scope} {t : XK → TE} {TT : (WX → TS) → L2.St → Hp → VK → Prop} {p lpos pos : Pos} (hg : Gl X x) (hm : X.mg x = some (.ref g))
    (Fu : Fun X.K x x st g fd) (hb : L2.Binds X.K fd [a] []) (Sg : FnScope Ng [a] (defScope st)) (hNg : Ng[0]? = some a) (hva : Vis (defScope st) a)
    (TB : TabB X.base X.mg c P) (hcode : X.env.code = .ref c) (hmT : (P, X.env.qual ++ "<lambda>") ∈ T) (hu : ∀ p ∈ T, p.1 = P → p.2 = X.env.qual ++ "<lambda>") (hr : Room (k + 2) X.A) (L : LamS X.env.scope scope) (hdef : defaultsOf params X.env = ([], []))
    (hbind : ∀ (q : Str) (cl : List (Str × Addr)) (pm cv ctv : Value), bindArgs (PySem.W.kla_fn "<lambda>" q params body scope cl pm cv ctv) ⟨[], []⟩ = pure [])
    (hbody : ∀ (A : Around) (outer : List Env) (s : Shared) (H : Hp) (E : XK) (f c' : Addr), Room k (A.deeper (lamEnv X scope s.heap.objs.size f c')) → PE (lamN X A outer s H E scope f c') body (t E))
    (hG : ∀ (cdg : Value) (s : Shared) (H : Hp) (Q : VK) (f : Addr) (tc : WX → TS),
      (∀ (W : WX) (pn : List (Addr × Obj)) (xe : Value → Shared → Prop) (p1 p2 p3 : Pos), Takes ((getC X Ng x (defScope st) g cdg s H).tr pn xe) W →
        PSs ((getC X Ng x (defScope st) g cdg s H).tr pn xe) [.Expr (.Call (.Name a p1) [] [] p2) p3] (tc W)) → TT tc (L2.start Ng [.ref f]) H Q →
      ∃ τ, PSs (getC X Ng x (defScope st) g cdg s H) (defBody st) τ ∧ τ { nx := fun _ H' => Q .non H', rt := Q } (L2.start Ng [.ref f]) H)
    (hsw : ∀ (p1 p2 p3 : Pos) (s : Shared) (H : Hp) (cdg : Value) (pn : List (Addr × Obj)) (xe : Value → Shared → Prop), swapsWith (.Call (.Name a p1) [] [] p2) none p3.line ((getC X Ng x (defScope st) g cdg s H).tr pn xe).env = pure false)
    (hdb : (x == ("__debug__" : Str)) = false := by decide) (hd : (a == ("__debug__" : Str)) = false := by decide) (hcd : (a == ("__classdict__" : Str)) = false := by decide) :
    PE X (.Call (.Name x p) [.Lambda params body scope lpos] [] pos) (fun σ H Q => Tabs T H ∧ ∀ H1 f c', (∀ b o, H b = some o → b ≠ P → H1 b = some o) → Tabs T H1 → H1 c' = some (CodeO c' (X.env.qual ++ "<lambda>")) →
      TT (fun W D σZ HZ => σZ[0]? = some (some (.ref f)) ∧ HZ c' = some (CodeO c' (X.env.qual ++ "<lambda>")) ∧ t (fun cls d H => W cls d σZ H) σ HZ fun _ H' => D.nx σZ H') (L2.start Ng [.ref f]) H1 Q) := by
  refine ⟨fun pins s σ H Q I h => ?_⟩
  obtain ⟨hT, h⟩ := h
  obtain ⟨oc, od, kV, doc, pm, an, cdv, ct, osl, rfl, lk, hcg⟩ := Fu.ex
  refine wpAny_Call_Name_kw (ld_glob I hg hm ?_ hdb)
  refine PySem.W.callWith_K (h₀ := X.base) I.ok.mod.kin Fu.kp ?_ (by rfl) (by rfl)
  show wpAny _ _ (spliced ((false, eval (.Lambda params body scope lpos) X.env) :: backTo pos (starEach [] X.env))) _ _ s
  refine Calls.spliced_cons (lam_make3 I TB hcode hmT hu hT hdef (L.has I.ok) fun f c' pm' ctv H1 s' I1 eN T1 hf hfn hfr hco => ?_)
  refine Calls.spliced_nil ⟨I1.kIn, ?_⟩
  have rc : codeAny (model X.prog X.w) X.A (.call (.ref g) ⟨[.ref f], []⟩) (CR (L2N.CX X.prog X.w) X.stack X.prog X.w H1 s' Q fun _ _ _ => False) s' := by
    refine run_ofS (N := Ng) (ps := [a]) (us := [.ref f]) (vs := [.ref f]) lk hcg Sg hr I1.env0 (hb s' [.ref f] I1.kIn rfl) (.cons rfl .nil) rfl fun hr' => ?_
    refine hG cdv s' H1 Q f _ (fun W pn xe p1 p2 p3 tk => ?_) (h H1 f c' eN T1 hco)
    refine pss_one (psI (ps_expr (pe_actN (X := X) (i := 0) (p1 := p1) (p2 := p2) (W := W) I1 L hf hfn hfr (hbind _ _ _ _ _) tk hr' (fun A outer s H E hr2 => hbody A outer s H E f c' hr2) hNg hva hd hcd) (hsw p1 p2 p3 s' H1 cdv pn xe)) ?_)
    exact fun D σZ HZ q => q
  refine wpAny_call (codeAny_mono rc fun r s2 hq => ?_)
  cases r with
  | error e =>
    obtain ⟨a, B, H', cls, d, _, _, _, _, _, _, _, z⟩ := hq
    exact z.elim
  | ok fl =>
    cases fl with
    | ret u => exact I1.after hq
    | next => exact False.elim hq
    | brk => exact False.elim hq
    | cont => exact False.elim hq
end
end DL
set_option Elab.async false
set_option linter.all false
set_option maxRecDepth 100000
set_option maxHeartbeats 2000000
/-! DG2: the data layer: told(lambda: body), told a def that calls it in a try and hands out what its clauses make of an exception. -/
namespace DL
open PySem PySem.Spec PyProof.Rows L2 LamX
variable [Tbs]
/-- the def at hand may make lambdas -/
structure LamOk (X : Cx) : Prop where
  ex : ∃ c P, X.env.code = .ref c ∧ TabB X.base X.mg c P ∧ (P, X.env.qual ++ "<lambda>") ∈ Tbs.T ∧ ∀ p ∈ Tbs.T, p.1 = P → p.2 = X.env.qual ++ "<lambda>"
def envN (n : Nat) : DEnv := List.replicate n none
def heardE (tr : SD) (n : Nat) (env1 : DEnv) (Q : QE) : DEnds where
  nx := fun e => tr e { nx := fun _ => Q .non 0 env1, rt := fun d k _ => Q d k env1 }
  rt := fun d k _ => Q d k env1
/-- slots' containers are frozen -/
def frzL : List Nat → DEnv → DEnv
  | [], env => env
  | i :: is, env => match gt env i with
    | some b => frzL is (env.set i (some { b with n := 0 }))
    | none => frzL is env
/-- what is known of the slots behind an exception: the turned arguments as they are, the frozen ones as they were -/
def keep1 : Option Bd → Option Bd → Option Bd
  | some a, some b => match a.io, b.io with
    | true, true => some b
    | _, _ => match a.n with
      | 0 => some a
      | _ => none
  | some a, none => match a.n with
    | 0 => some a
    | _ => none
  | none, _ => none
def keepX : DEnv → DEnv → DEnv
  | [], _ => []
  | a :: r, [] => keep1 a none :: keepX r []
  | a :: r, b :: s => keep1 a b :: keepX r s
theorem keep1_some {a b : Option Bd} {c : Bd} (h : keep1 a b = some c) : (∃ a', a = some a' ∧ a'.io = true ∧ b = some c ∧ c.io = true) ∨ (a = some c ∧ c.n = 0) := by
  cases a with
  | none => cases h
  | some a =>
    have fin : ∀ {x : Option Bd}, (match a.n with | 0 => some a | _ => none) = some c → (∃ a', some a = some a' ∧ a'.io = true ∧ x = some c ∧ c.io = true) ∨ (some a = some c ∧ c.n = 0) := fun {x} z => by
      cases e : a.n with
      | zero => rw [e] at z; cases z; exact .inr ⟨rfl, e⟩
      | succ n => rw [e] at z; cases z
    cases b with
    | none => exact fin h
    | some b =>
      have h : (match a.io, b.io with
        | true, true => some b
        | _, _ => match a.n with
          | 0 => some a
          | _ => none) = some c := h
      cases e1 : a.io with
      | false => rw [e1] at h; exact fin h
      | true =>
        cases e2 : b.io with
        | false => rw [e1, e2] at h; exact fin h
        | true =>
          rw [e1, e2] at h
          have z : b = c := Option.some.inj h
          exact .inl ⟨a, rfl, e1, by rw [z], by rw [← z]; exact e2⟩
theorem keepX_len : ∀ (e f : DEnv), (keepX e f).length = e.length
  | [], _ => rfl
  | a :: r, [] => by simp [keepX, keepX_len r []]
  | a :: r, b :: s => by simp [keepX, keepX_len r s]
theorem keepX_get : ∀ {e f : DEnv} {i : Nat} {c : Bd}, (keepX e f)[i]? = some (some c) → (∃ a', e[i]? = some (some a') ∧ a'.io = true ∧ f[i]? = some (some c) ∧ c.io = true) ∨ (e[i]? = some (some c) ∧ c.n = 0)
  | [], _, _, _, h => by simp [keepX] at h
  | a :: r, [], 0, c, h => by
    rcases keep1_some (show keep1 a none = some c by simpa [keepX] using h) with ⟨_, _, _, z, _⟩ | ⟨z, n⟩
    · cases z
    · exact .inr ⟨by simp [z], n⟩
  | a :: r, b :: s, 0, c, h => by
    rcases keep1_some (show keep1 a b = some c by simpa [keepX] using h) with ⟨a', z, q, w, w2⟩ | ⟨z, n⟩
    · exact .inl ⟨a', by simp [z], q, by simp [w], w2⟩
    · exact .inr ⟨by simp [z], n⟩
  | a :: r, [], i + 1, c, h => by
    rcases keepX_get (e := r) (f := []) (i := i) (by simpa [keepX] using h) with ⟨a', z, q, w, w2⟩ | ⟨z, n⟩
    · simp at w
    · exact .inr ⟨by simpa using z, n⟩
  | a :: r, b :: s, i + 1, c, h => by
    rcases keepX_get (e := r) (f := s) (i := i) (by simpa [keepX] using h) with ⟨a', z, q, w, w2⟩ | ⟨z, n⟩
    · exact .inl ⟨a', by simpa using z, q, by simpa using w, w2⟩
    · exact .inr ⟨by simpa using z, n⟩
section
variable {K : PySem.W.Frag} {mg : MG} {io : Nat → Option V} {env env2 : DEnv} {σ σ2 : L2.St} {F F0 F2 H H0 H2 : Hp} {O O0 O2 : OW}
theorem At.keepX (A0 : At K mg io F0 O0 H0 env σ F O H) (A : At K mg io F O H env2 σ2 F2 O2 H2) : At K mg io F0 O0 H0 (keepX env env2) σ F2 O2 H2 where
  mv := A0.mv.trans A.mv
  si := ⟨A.si.sub, A.si.own, fun i b h => by
    rcases keepX_get h with ⟨a, h1, h2, h3, h4⟩ | ⟨h1, h2⟩
    · obtain ⟨v, s1, s2, s3⟩ := A0.si.slot i a h1
      obtain ⟨w, t1, t2, t3⟩ := A.si.slot i b h3
      have e1 := s3 h2
      have e2 := t3 h4
      rw [e1] at e2
      have e3 : v = w := Option.some.inj e2
      subst e3
      exact ⟨v, s1, t2, t3⟩
    · obtain ⟨v, s1, s2, s3⟩ := A0.si.slot i b h1
      rw [h2] at s2 ⊢
      exact ⟨v, s1, Rep.mono A.mv.ff s2, s3⟩, by rw [keepX_len]; exact A0.si.len, A.si.tab⟩
theorem At.frzL : ∀ {is : List Nat} {env : DEnv} {F O : _}, At K mg io F0 O0 H0 env σ F O H → ∃ F' O', At K mg io F0 O0 H0 (DL.frzL is env) σ F' O' H
  | [], _, F, O, A => ⟨F, O, A⟩
  | i :: is, env, F, O, A => by
    unfold DL.frzL
    cases e : gt env i with
    | none => exact At.frzL (is := is) A
    | some b => exact At.frzL (is := is) (A.fzSlot (gt_some e)).1
end
/-- slots held fast: as io while the lambda runs -/
def setIo (f : Bool) : List Nat → DEnv → DEnv
  | [], env => env
  | i :: is, env => match gt env i with
    | some b => setIo f is (env.set i (some { b with io := f }))
    | none => setIo f is env
def ioM (ks : List Nat) (σ : L2.St) (io : Nat → Option V) : Nat → Option V := fun i => if i ∈ ks then (σ[i]?).join else io i
theorem setIo_len {f : Bool} : ∀ {ks : List Nat} {env : DEnv}, (setIo f ks env).length = env.length
  | [], _ => rfl
  | i :: is, env => by
    unfold setIo
    split
    · rw [setIo_len, List.length_set]
    · exact setIo_len
theorem gt_none : ∀ {env : DEnv} {i : Nat} {b : Bd}, gt env i = none → env[i]? ≠ some (some b)
  | [], i, _, _ => by simp
  | x :: _, 0, b, h => by
    have h : x = none := h
    subst h
    simp
  | _ :: r, i + 1, b, h => by
    simpa using gt_none (env := r) (i := i) h
theorem setIo_get {f : Bool} : ∀ {ks : List Nat} {env : DEnv} {i : Nat} {b : Bd}, (setIo f ks env)[i]? = some (some b) → ∃ b0, env[i]? = some (some b0) ∧ b.d = b0.d ∧ b.n = b0.n ∧ (i ∉ ks → b.io = b0.io) ∧ (i ∈ ks → b.io = f)
  | [], _, _, b, h => ⟨b, h, rfl, rfl, fun _ => rfl, fun z => nomatch z⟩
  | j :: is, env, i, b, h => by
    unfold setIo at h
    split at h
    · rename_i b1 e1
      obtain ⟨b0, g1, g2, g3, g4, g5⟩ := setIo_get h
      have e1 := gt_some e1
      by_cases q : i = j
      · subst q
        have hl : i < env.length := (List.getElem?_eq_some_iff.mp e1).1
        rw [List.getElem?_set_self hl] at g1
        have g1 : b0 = { b1 with io := f } := (Option.some.inj (Option.some.inj g1)).symm
        subst g1
        exact ⟨b1, e1, g2, g3, fun z => absurd List.mem_cons_self z, fun _ => by
          by_cases m : i ∈ is
          · exact g5 m
          · exact g4 m⟩
      · rw [List.getElem?_set_ne (Ne.symm q)] at g1
        exact ⟨b0, g1, g2, g3, fun z => g4 fun m => z (List.mem_cons_of_mem _ m), fun z => g5 ((List.mem_cons.mp z).resolve_left q)⟩
    · rename_i e1
      obtain ⟨b0, g1, g2, g3, g4, g5⟩ := setIo_get h
      refine ⟨b0, g1, g2, g3, fun z => g4 fun m => z (List.mem_cons_of_mem _ m), fun z => ?_⟩
      rcases List.mem_cons.mp z with z | z
      · subst z
        exact absurd g1 (gt_none e1)
      · exact g5 z
section
variable {K : PySem.W.Frag} {mg : MG} {io : Nat → Option V} {env : DEnv} {σ σ2 : L2.St} {F F0 H H0 : Hp} {O O0 : OW} {ks : List Nat}
theorem SI.mark (J : SI K mg io env σ F O H) : SI K mg (ioM ks σ io) (setIo true ks env) σ F O H :=
  ⟨J.sub, J.own, fun i b h => by
    obtain ⟨b0, g1, g2, g3, g4, g5⟩ := setIo_get h
    obtain ⟨v, s1, s2, s3⟩ := J.slot i b0 g1
    refine ⟨v, s1, by rw [g2, g3]; exact s2, fun z => ?_⟩
    unfold ioM
    by_cases m : i ∈ ks
    · rw [if_pos m, s1]; rfl
    · rw [if_neg m]; exact s3 (by rw [← g4 m]; exact z), by rw [setIo_len]; exact J.len, J.tab⟩
theorem SI.unmark (J : SI K mg (ioM ks σ2 io) env σ F O H) : SI K mg io (setIo false ks env) σ F O H :=
  ⟨J.sub, J.own, fun i b h => by
    obtain ⟨b0, g1, g2, g3, g4, g5⟩ := setIo_get h
    obtain ⟨v, s1, s2, s3⟩ := J.slot i b0 g1
    refine ⟨v, s1, by rw [g2, g3]; exact s2, fun z => ?_⟩
    by_cases m : i ∈ ks
    · rw [g5 m] at z; cases z
    · have s3 := s3 (by rw [← g4 m]; exact z)
      unfold ioM at s3
      rw [if_neg m] at s3
      exact s3, by rw [setIo_len]; exact J.len, J.tab⟩
theorem At.unmark (A : At K mg (ioM ks σ2 io) F0 O0 H0 env σ F O H) : At K mg io F0 O0 H0 (setIo false ks env) σ F O H := ⟨A.mv, A.si.unmark⟩
end
/-- n: the told def's names; fs: what the lambda captures, frozen; ks: what is held fast -/
def eLam (kin : Str → Str → Option Bool) (L : List DH) (tr : SD) (n : Nat) (fs ks : List Nat) (tb : ET) : ET := fun env Q R =>
  tb (setIo true ks (frzL fs env)) (fun _ _ env1 => (heardE tr n (setIo false ks env1) Q).nx (envN n)) fun y env1 => hN kin L (heardE tr n (setIo false ks (keepX (setIo true ks (frzL fs env)) env1)) Q) y (envN n)
section
variable {X : Cx} {kin : Str → Str → Option Bool} {x a : Str} {k : Nat} {st : Stmt} {Ng : List Str} {params : Arguments} {body : Expr} {scope : Scope} {L : List DH} {tr : SD} {tb : ET} {fs ks : List Nat} {p lpos pos p1 p2 p3 p4 : Pos} {h₀ : ExceptHandler} {hds : List ExceptHandler} {rest : List Stmt}
theorem de_heard (hbd : defBody st = .Try [.Expr (.Call (.Name a p1) [] [] p2) p3] (h₀ :: hds) [] [] p4 :: rest)
    (Hd : ∀ (g : Addr) (cdg : Value) (s : Shared) (H : Hp), HdE (getC X Ng x (defScope st) g cdg s H) kin (h₀ :: hds) L ∧ DSs (getC X Ng x (defScope st) g cdg s H) rest tr)
    (Fu : FunAt X.K X.mg x st) (Sg : FnScope Ng [a] (defScope st)) (hNg : Ng[0]? = some a) (hva : Vis (defScope st) a)
    (hbi : ∀ (kV doc pm : Value) (an : Option Addr) (cdv ct : Value) (us : List Value), us.length = [a].length → bindArgs (PySem.W.fnOf x x (defArgs st) (defBody st) (defScope st) .none kV doc pm an cdv ct) ⟨us, []⟩ = pure ([a].zip us))
    (LO : LamOk X) (hr : Room (k + 2) X.A) (hL : lamSB X.env.scope scope = true) (hdef : defaultsOf params X.env = ([], []))
    (hbind : ∀ (q : Str) (cl : List (Str × Addr)) (pm cv ctv : Value), bindArgs (PySem.W.kla_fn "<lambda>" q params body scope cl pm cv ctv) ⟨[], []⟩ = pure [])
    (hbody : ∀ (A : Around) (outer : List Env) (s : Shared) (H : Hp) (E : XK) (f c' : Addr), Room k (A.deeper (lamEnv X scope s.heap.objs.size f c')) → DE (lamN X A outer s H E scope f c') body tb)
    (hsw : ∀ (g : Addr) (p1 p2 p3 : Pos) (s : Shared) (H : Hp) (cdg : Value) (pn : List (Addr × Obj)) (xe : Value → Shared → Prop), swapsWith (.Call (.Name a p1) [] [] p2) none p3.line ((getC X Ng x (defScope st) g cdg s H).tr pn xe).env = pure false)
    (hg : Gl X x := by rfl) (hdb : (x == ("__debug__" : Str)) = false := by decide) (hd : (a == ("__debug__" : Str)) = false := by decide) (hcd : (a == ("__classdict__" : Str)) = false := by decide) :
    DE X (.Call (.Name x p) [.Lambda params body scope lpos] [] pos) (eLam kin L tr Ng.length fs ks tb) := by
  obtain ⟨c, P, l1, l2, l3, l4⟩ := LO.ex
  obtain ⟨g, fd, F, hm⟩ := Fu
  intro W tk
  let DD : VK → Ends := fun Q => { nx := fun σ' H' => rdS X.K X.mg tr (fun _ _ _ _ => False) { nx := fun _ H' => Q .non H', rt := Q } σ' H', rt := Q }
  refine peI (pe_lamN (T := Tbs.T) (t := fun E => rdE X.K X.mg tb fun cls d _ H => E cls d H)
    (TT := fun tc σ H Q => ∀ (cdg : Value) (s : Shared) (H0 : Hp) (l : List (Value × Nat × (Addr → Value → Option Addr → TS))), HdD (getC X Ng x (defScope st) g cdg s H0) kin (h₀ :: hds) L l → tc (wNames X.K (fun _ _ _ _ => False) (DD Q) l) (DD Q) σ H)
    hg hm F (F.binds hbi) Sg hNg hva l2 l1 l3 l4 hr (lamS_by hL) hdef hbind (fun A outer s H E f c' hr2 => hbody A outer s H E f c' hr2 _ takes_lam) (fun cdg s H Q f tc htc ht => ?_) (hsw g) hdb hd hcd) ?_
  · obtain ⟨⟨l, hl⟩, hrest⟩ := Hd g cdg s H
    rw [hbd]
    refine ⟨_, pss_cons (ps_try_names (X := getC X Ng x (defScope st) g cdg s H) rfl rfl takes00 (fun W pn xe tk' _ => htc W pn xe p1 p2 p3 tk') hl.ok) (hrest _ takes00), ht cdg s H l hl⟩
  · rintro σ H Qh ⟨io, env, F0, O, Q, R, I, h, kQ, kX⟩
    refine ⟨fun q hq => (I.tab q.1 q.2 hq).1, fun H1 f c' eN T1 hco cdg s H0 l hl => ⟨?_, hco, ?_⟩⟩
    · unfold L2.start
      rfl
    -- the caller's state behind the making
    have kt : ∀ {b : Addr} {o : HO}, H b = some o → ¬ isTab b → H1 b = some o := fun {b o} e n => eN b o e fun z => n ⟨_, z.symm ▸ l3⟩
    have tm : TabMv H H1 := fun b q hq => ⟨fun ps _ => let ⟨ps', e, _⟩ := T1 (b, q) hq; ⟨ps', e⟩, fun _ => T1 (b, q) hq⟩
    have A0 : At X.K X.mg io F0 O H env σ F0 O H1 := At.extT I (fun b o e => kt (noT_some e).1 (noT_some e).2) tm
    obtain ⟨F1, O1, A1⟩ := At.frzL (is := fs) A0
    -- the told def's state
    have SIc : ∀ {io2 : Nat → Option V} {env2 : DEnv} {σ2 : L2.St} {F2 H2 : Hp} {O2 : OW}, SI X.K X.mg io2 env2 σ2 F2 O2 H2 → SI X.K X.mg io (envN Ng.length) (L2.start Ng [.ref f]) F2 (fun _ => none) H2 := fun {io2 env2 σ2 F2 H2 O2} J => by
      refine ⟨J.sub, (fun a i z => by cases z), (fun i b hb => ?_), ?_, J.tab⟩
      · unfold envN at hb
        rw [List.getElem?_replicate] at hb
        split at hb
        · cases hb
        · cases hb
      · have hpl : 1 ≤ Ng.length := by
          cases Ng with
          | nil => simp at hNg
          | cons _ _ => simp
        unfold envN L2.start
        rw [List.length_replicate, List.length_append, List.length_map, List.length_replicate]
        simp
        omega
    -- what the told def gives is given to the caller
    have give : ∀ {env2 : DEnv} {F2 H2 : Hp} {O2 : OW}, At X.K X.mg io F0 O H env2 σ F2 O2 H2 → ∀ {d : D} {n : Nat} {env3 : DEnv} {σ3 : L2.St} {F3 H3 : Hp} {O3 : OW} {v : V} {P' : AP}, At X.K X.mg io F2 (fun _ => none) H2 env3 σ3 F3 O3 H3 → Tp (fun _ => none) H2 F3 O3 H3 P' →
        RepO X.K X.mg F3 H3 n P' d v → Q d n env2 → Qh v H3 := fun {env2 F2 H2 O2} A2 {d n env3 σ3 F3 H3 O3 v P'} A3 T3 r q => by
      obtain ⟨A4, TT⟩ := call_tmp A2 (P := P0) Tp.none A3.mv A3.si.sub (fun a i z => nomatch z)
      exact kQ d n env2 F3 O2 H3 v P' A4 (TT P' T3) r q
    have nxt : ∀ {env2 : DEnv} {F2 H2 : Hp} {O2 : OW}, At X.K X.mg io F0 O H env2 σ F2 O2 H2 → ∀ {e : DEnv} {σ3 : L2.St} {F3 H3 : Hp} {O3 : OW}, At X.K X.mg io F2 (fun _ => none) H2 e σ3 F3 O3 H3 →
        (heardE tr Ng.length env2 Q).nx e → (DD Qh).nx σ3 H3 := fun {env2 F2 H2 O2} A2 {e σ3 F3 H3 O3} A3 q =>
      ⟨io, e, F3, O3, _, A3.si, q, fun env4 σ4 F4 O4 H4 A4 z => give A2 (A3.trans A4) Tp.none (show RepO X.K X.mg F4 H4 0 P0 .non .non from rfl) z, fun d n env4 σ4 F4 O4 H4 v P A4 T4 r z => give A2 (A3.trans A4) (Tp.after A3.mv T4) r z, fun _ _ _ _ _ _ z => z.elim, fun _ _ _ _ _ _ z => z.elim, fun _ _ _ _ _ _ _ _ _ _ z => z.elim⟩
    refine ⟨ioM ks σ io, _, F1, O1, _, _, A1.si.mark, h, ?_, ?_⟩
    · intro d n env2 F2 O2 H2 v P A2 T2 r2 q
      exact nxt (A1.trans A2.unmark) (At.start (SIc A2.si)) q
    · intro y env2 σ2 F2 O2 H2 cls dx A2 r2 q
      have A02 := A1.trans ((At.start A1.si.mark).keepX A2).unmark
      refine hl.ex (io := io) (F := F2) (H := H2) (O := fun _ => none) (D := heardE tr Ng.length (setIo false ks (keepX (setIo true ks (frzL fs env)) env2)) Q) (Dn := DD Qh) (W := fun _ _ _ _ => False) (fun e σ3 F3 O3 H3 A3 z => nxt A02 A3 z) (fun d n e σ3 F3 O3 H3 v P A3 T3 r z => give A02 A3 T3 r z)
        (fun _ _ _ _ _ _ z => z.elim) (fun _ _ _ _ _ _ z => z.elim) (fun _ _ _ _ _ _ _ _ _ _ z => z.elim) y _ _ F2 _ H2 cls dx (At.start (SIc A2.si)) r2 q
end
end DL
set_option Elab.async false
set_option linter.all false
set_option maxRecDepth 100000
set_option maxHeartbeats 2000000
/-! DG3: the data layer: defs that make lambdas: their promise, the head's facts of their tables, the law's end. -/
namespace DL
open PySem PySem.Spec PyProof.Rows L2 LamX
section
variable [Tbs]
/-- the name that x's lambdas bear -/
def lamQ (x : Str) : Str := (x ++ ".<locals>.") ++ "<lambda>"
/-- x's code object and its table -/
def LamD (K : PySem.W.Frag) (mg : MG) (base : Heap) (x : Str) : Prop := ∃ c P, PySem.W.tabIn K x = some (c, P) ∧ TabB base mg c P ∧ (P, lamQ x) ∈ Tbs.T ∧ ∀ p ∈ Tbs.T, p.1 = P → p.2 = lamQ x
variable {P : Program} {w : World} {K : PySem.W.Frag} {mg : MG} {base h : Heap} {x : Str} {st : Stmt} {k : Nat} {ps N : List Str} {ms : Ms} {S : DSp}
theorem tabIn_code {c Pt f : Addr} {cdv : Value} (X : K.In h) (G : h.Ns mainGlobals mg) (e : PySem.W.tabIn K x = some (c, Pt)) (hm : mg x = some (.ref f)) (hc : CodeOf K f cdv) : cdv = .ref c := by
  obtain ⟨oc, od, fd, osl, lk, hcd⟩ := hc
  unfold PySem.W.tabIn at e
  split at e
  · rename_i f' hf
    have e1 := PySem.W.mg_of X G hf
    rw [hm] at e1
    cases e1
    rw [lk] at e
    dsimp only at e
    split at e
    · rename_i c2 hc2
      split at e
      · split at e
        · cases e
          rw [← hcd, hc2]
        · cases e
      · cases e
    · cases e
  · cases e
theorem Cal.fixT {f : Addr} {fd : FuncData} (C : Cal P w K mg base x st k ps ms S) (F : Fun K x x st f fd) (hm : mg x = some (.ref f)) : FnOk P w K mg base (L2N.CX P w) k f fd ps (spOf K mg ms S) := by
  obtain ⟨f', fd', h1, h2, h3, h4⟩ := C
  rw [hm] at h2
  cases h2
  obtain ⟨oc, od, kV, doc, pm, an, cdv, ct, osl, e1, l1, c1⟩ := F.ex
  obtain ⟨oc', od', kV', doc', pm', an', cdv', ct', osl', e1', l1', c1'⟩ := h1.ex
  rw [l1] at l1'
  have e : fd = fd' := by injection l1' with z; injection z with _ _ z; injection z
  rw [e]
  exact h4
theorem cal_mkT {τ : SD} (X : K.In h) (G : h.Ns mainGlobals mg) (L : LamD K mg base x) (Fu : FunAt K mg x st) (Sc : FnScope N ps (defScope st)) (hl : ms.length = ps.length)
    (hbi : ∀ (kV doc pm : Value) (an : Option Addr) (cdv ct : Value) (us : List Value), us.length = ps.length → bindArgs (PySem.W.fnOf x x (defArgs st) (defBody st) (defScope st) .none kV doc pm an cdv ct) ⟨us, []⟩ = pure (ps.zip us))
    (hb : ∀ (f : Addr) (cdv : Value) (A : Around) (outer : List Env) (s : Shared) (H : Hp) (E : XK), LamOk (cxOf (L2N.CX P w) P w K mg base N x (defScope st) f cdv A outer s H E) → Room k (A.deeper (envOfC x (defScope st) s.heap.objs.size f cdv)) →
      DSs (cxOf (L2N.CX P w) P w K mg base N x (defScope st) f cdv A outer s H E) (defBody st) τ)
    (hs : ∀ ds post, S ds post → ds.length = ms.length → τ (env0 ms ds N.length) (endsOf ms post)) : Cal P w K mg base x st (k + 1) ps ms S := by
  obtain ⟨f, fd, h1, h2⟩ := Fu
  obtain ⟨c, Pt, l1, l2, l3, l4⟩ := L
  exact ⟨f, fd, h1, h2, h1.binds hbi, okD h1 Sc hl (fun cdv A outer s H E hc hr => hb f cdv A outer s H E ⟨c, Pt, tabIn_code X G l1 h2 hc, l2, l3, l4⟩ hr) hs⟩
end
/-! ### the head -/
def isTabO (o : Obj) : Bool := match o with
  | ⟨.none, _, .fields _, _⟩ => true
  | _ => false
def noLT (K : PySem.W.Frag) : PySem.W.Frag := K.filter fun p => !isSeqL p.2 && !isTabO p.2
theorem noLT_no {K : PySem.W.Frag} : NoLst (noLT K) := fun a o h => by
  have := (List.mem_filter.mp (lookup_mem h)).2
  simp only [Bool.and_eq_true, Bool.not_eq_true'] at this
  exact this.1
theorem noLT_in {as : List Addr} {h : Heap} : (noLT (He.frG h.get? as)).In h := fun a o e => by
  have m := (List.mem_filter.mp (lookup_mem e)).1
  unfold He.frG at m
  obtain ⟨b, _, hb⟩ := List.mem_filterMap.mp m
  cases q : h.get? b with
  | none => rw [q] at hb; cases hb
  | some x => rw [q] at hb; cases hb; exact q
def obsY (n : Nat) (fa : List He.Fa) (fn : List He.DefD) (ex : PySem.W.Frag → Bool) (g : Addr → Option Obj) : He.AlD × Bool := (He.obsD fa fn (noLT (He.frG g (He.asD g n))), ex (noLT (He.frG g (He.asD g n))))
def hookY (n : Nat) (fa : List He.Fa) (fn : List He.DefD) (ex : PySem.W.Frag → Bool) : PySem.W.Hook where
  α := He.AlD × Bool
  obs := fun s => obsY n fa fn ex s.heap.get?
  val := fun _ => (He.valD fn, true)
  says := fun _ h => ∃ K : PySem.W.Frag, K.In h ∧ NoLst K ∧ He.SaysD fa fn K ∧ ex K = true
  of := fun _ _ e => ⟨_, noLT_in, noLT_no, congrArg (fun z : He.AlD × Bool => z.1) e, congrArg (fun z : He.AlD × Bool => z.2) e⟩
  keeps := fun _ _ _ ⟨K, hK, n, c⟩ k => ⟨K, PySem.W.Frag.In.keeps hK k, n, c⟩
theorem obsY_eq {n : Nat} {fa : List He.Fa} {fn : List He.DefD} {ex : PySem.W.Frag → Bool} {g : Addr → Option Obj} {s : Shared} (h : ∀ a, g a = s.heap.get? a) : obsY n fa fn ex g = (hookY n fa fn ex).obs s := by
  have e : g = s.heap.get? := funext h
  rw [e] <;> rfl
def nodB : List Addr → Bool
  | [] => true
  | a :: r => !r.contains a && nodB r
/-- the tables of the defs xs -/
def lamTs (K : PySem.W.Frag) (xs : List Str) : List (Addr × Addr × Str) := xs.filterMap fun x => (PySem.W.tabIn K x).map fun p => (p.1, p.2, x)
def lamB (K : PySem.W.Frag) (xs : List Str) : Bool := (xs.all fun x => match PySem.W.tabIn K x with
  | some (_, P) => (K.lookup P).isNone
  | none => false) && nodB ((lamTs K xs).map (·.2.1))
theorem nodB_nd : ∀ {l : List Addr}, nodB l = true → l.Nodup
  | [], _ => List.nodup_nil
  | a :: r, h => by
    obtain ⟨h1, h2⟩ := Bool.and_eq_true_iff.mp h
    refine List.nodup_cons.mpr ⟨fun z => ?_, nodB_nd h2⟩
    rw [Bool.not_eq_true'] at h1
    rw [List.contains_iff_mem.mpr z] at h1
    cases h1
abbrev tbsOf (K : PySem.W.Frag) (xs : List Str) : Tbs := ⟨(lamTs K xs).map fun p => (p.2.1, lamQ p.2.2)⟩
theorem lamTs_mem {K : PySem.W.Frag} {xs : List Str} {p : Addr × Addr × Str} : p ∈ lamTs K xs ↔ p.2.2 ∈ xs ∧ PySem.W.tabIn K p.2.2 = some (p.1, p.2.1) := by
  unfold lamTs
  rw [List.mem_filterMap]
  constructor
  · rintro ⟨x, hx, e⟩
    cases q : PySem.W.tabIn K x with
    | none => rw [q] at e; cases e
    | some c => rw [q] at e; cases e; exact ⟨hx, q⟩
  · rintro ⟨hx, e⟩
    exact ⟨p.2.2, hx, by rw [e]; rfl⟩
theorem nodup_map_inj {α β : Type} {f : α → β} : ∀ {l : List α} {a b : α}, (l.map f).Nodup → a ∈ l → b ∈ l → f a = f b → a = b
  | [], _, _, _, h, _, _ => by cases h
  | c :: l, a, b, nd, ha, hb, e => by
    obtain ⟨n1, n2⟩ := List.nodup_cons.mp (show (f c :: l.map f).Nodup from nd)
    rcases List.mem_cons.mp ha with rfl | ha
    · rcases List.mem_cons.mp hb with rfl | hb
      · rfl
      · exact absurd (List.mem_map.mpr ⟨b, hb, e.symm⟩) n1
    · rcases List.mem_cons.mp hb with rfl | hb
      · exact absurd (show f b ∈ l.map f from List.mem_map.mpr ⟨a, ‹a ∈ l›, e⟩) n1
      · exact nodup_map_inj n2 ha hb e
theorem lamD_of {K : PySem.W.Frag} {mg : MG} {base : Heap} {xs : List Str} (hB : lamB K xs = true) (TB : ∀ p ∈ (lamTs K xs).map (fun p => (p.1, p.2.1)), TabB base mg p.1 p.2) : ∀ x ∈ xs, @LamD (tbsOf K xs) K mg base x := fun x hx => by
  obtain ⟨h1, h2⟩ := Bool.and_eq_true_iff.mp hB
  have h3 := List.all_eq_true.mp h1 x hx
  split at h3
  · rename_i c P e
    have m : (c, P, x) ∈ lamTs K xs := lamTs_mem.mpr ⟨hx, e⟩
    refine ⟨c, P, e, TB (c, P) (List.mem_map.mpr ⟨_, m, rfl⟩), List.mem_map.mpr ⟨_, m, rfl⟩, fun p hp ep => ?_⟩
    obtain ⟨q, hq, rfl⟩ := List.mem_map.mp hp
    have : q = (c, P, x) := nodup_map_inj (f := fun p : Addr × Addr × Str => p.2.1) (nodB_nd h2) hq m ep
    rw [this]
  · cases h3
/-- a law's end with tables: xs, the defs that make lambdas -/
theorem walk_ofL {l : PySem.W.OpenLaw} {n k : Nat} {q : Program} {loose : List Str} {XP : (Str → Option Value) → Heap → Prop} {YP : World → Heap → Prop} {d : DefRec} {x : Str} (xs : List Str)
    (hn : l.most = some n) (hn2 : n ≤ sizeLine) (hdf : d.params.defaults = []) (hr : Room k callerA) (hrec : ∀ x ∈ xs, ∃ e, (recsOf q).find? (fun e => e.name == x) = some e)
    (F : ∀ (w : World) (mg : Str → Option Value) (fa : Addr) (h : Heap), YP w h → h.Ns mainGlobals mg → mg d.name = some (.ref fa) →
      ∃ (K : PySem.W.Frag) (fd : FuncData) (sp : Sp), K.In h ∧ lamB K xs = true ∧ (∀ (s : Shared) (u : Value), BindsTo s fd ⟨[u], []⟩ [(x, u)]) ∧
        (∀ (H : Hp) (a : Addr) (ns : List Int), ns.length ≤ n → (∀ z ∈ ns, Builtin.Int.intBits z ≤ 1048576) → (∀ p ∈ lamTs K xs, H p.2.1 = some (.tbl #[])) → SqL K H a (ns.map V.int) → sp [.ref a] H (fun v _ => v = .bl true) fun _ _ _ => False) ∧
        ∀ base : Heap, K.In base → base.Ns mainGlobals mg → (∀ p ∈ (lamTs K xs).map (fun p => (p.1, p.2.1)), TabB base mg p.1 p.2) → FnOk l.prog w K mg base (L2N.CX l.prog w) k fa fd [x] sp) :
    PySem.W.WalkO q loose XP YP l.row.toRowW d [] (fun f vs => PySem.call f vs) := by
  refine Att.attach_callB hn hdf fun w s₀ s₁ mg mb fa o pm cd doc a vs ns G Y ho hd hcd hmg hobj hints hlen hbits hg => ?_
  obtain ⟨K, fd, sp, KX, hB, hb, hsp, hF⟩ := F w mg fa _ Y G.T.g hmg
  obtain ⟨h1, h2⟩ := Bool.and_eq_true_iff.mp hB
  have tf : ∀ p ∈ (lamTs K xs).map (fun p => (p.1, p.2.1)), PySem.W.CodeHd s₁.heap p.1 p.2 ∧ s₁.heap.get? p.2 = some (PySem.W.tabObj #[]) := fun p hp => by
    obtain ⟨q, hq, rfl⟩ := List.mem_map.mp hp
    obtain ⟨m1, m2⟩ := lamTs_mem.mp hq
    obtain ⟨e, he⟩ := hrec _ m1
    exact PySem.W.tab_of G.T KX he m2
  refine law_callTs (cs := (lamTs K xs).map fun p => (p.1, p.2.1)) KX G.T.g G.T.b G.T.builtins G.T.nolimit hg (fun p hp => (tf p hp).2) (fun p hp => ?_) (fun p hp => (tf p hp).1) G.T.bmain hobj hints (Nat.le_trans hlen hn2) hr hF hb
    (fun H hH hS => hsp H a ns hlen hbits (fun p hp => hH (p.1, p.2.1) (List.mem_map.mpr ⟨p, hp, rfl⟩)) hS) fun H e s' => CX_none
  obtain ⟨q, hq, rfl⟩ := List.mem_map.mp hp
  obtain ⟨m1, m2⟩ := lamTs_mem.mp hq
  have h3 := List.all_eq_true.mp h1 _ m1
  rw [m2] at h3
  exact Option.isNone_iff_eq_none.mp h3
theorem law_endL {P : Program} {w : World} {K : PySem.W.Frag} {mg : MG} {st : Stmt} {k : Nat} {ms : Ms} {S : DSp} {f : Addr} {xs : List Str} (nl : NoLst K) (Fu : FunAt K mg "law" st) (hf : mg "law" = some (.ref f)) (hms : ms = [none])
    (hbi : ∀ (kV doc pm : Value) (an : Option Addr) (cdv ct : Value) (us : List Value), us.length = ["script"].length → bindArgs (PySem.W.fnOf "law" "law" (defArgs st) (defBody st) (defScope st) .none kV doc pm an cdv ct) ⟨us, []⟩ = pure ((["script"] : List Str).zip us))
    (hB : lamB K xs = true) (C : ∀ base : Heap, (∀ x ∈ xs, @LamD (tbsOf K xs) K mg base x) → @Cal (tbsOf K xs) P w K mg base "law" st k ["script"] ms S) (hS : ∀ ns : List Int, ∀ post : DPost, post.rt (.bl true) 0 [] → ns.length ≤ 63 → S [.lst (ns.map .int)] post) :
    ∃ (fd : FuncData) (sp : Sp), (∀ (s : Shared) (u : Value), BindsTo s fd ⟨[u], []⟩ [("script", u)]) ∧
        (∀ (H : Hp) (a : Addr) (ns : List Int), ns.length ≤ 63 → (∀ z ∈ ns, Builtin.Int.intBits z ≤ 1048576) → (∀ p ∈ lamTs K xs, H p.2.1 = some (.tbl #[])) → SqL K H a (ns.map V.int) → sp [.ref a] H (fun v _ => v = .bl true) fun _ _ _ => False) ∧
        ∀ base : Heap, K.In base → base.Ns mainGlobals mg → (∀ p ∈ (lamTs K xs).map (fun p => (p.1, p.2.1)), TabB base mg p.1 p.2) → FnOk P w K mg base (L2N.CX P w) k f fd ["script"] sp := by
  obtain ⟨f', fd, F, hf'⟩ := Fu
  rw [hf] at hf'
  cases hf'
  refine ⟨fd, @spOf (tbsOf K xs) K mg ms S, fun s u => ?_, fun H a ns hl _ hT hs => ?_, fun base _ _ TB => ?_⟩
  · obtain ⟨oc, od, kV, doc, pm, an, cdv, ct, osl, rfl, _, _⟩ := F.ex
    exact .of_eq (hbi kV doc pm an cdv ct [u] rfl)
  · subst hms
    have isT : ∀ {b : Addr}, @isTab (tbsOf K xs) b → H b = some (.tbl #[]) := fun {b} ⟨q, hq⟩ => by
      obtain ⟨p, hp, e⟩ := List.mem_map.mp hq
      cases e
      exact hT p hp
    have rl := nl.sql hs
    have ha : @noT (tbsOf K xs) H a = H a := @noT_out (tbsOf K xs) _ _ fun z => by
      have := isT z
      rcases rl with rl | ⟨o, rl⟩ <;> rw [this] at rl <;> cases rl
    refine ⟨@noT (tbsOf K xs) H, fun _ => none, [.lst (ns.map .int)], { rt := fun d n os => d = .bl true ∧ n = 0, ex := fun _ _ => False }, fun a o z => (@noT_some (tbsOf K xs) _ _ _ z).1, (fun a i h => by cases h), (fun b q hq => ⟨⟨#[], isT ⟨q, hq⟩, True.intro, fun pos cv hc => ?_⟩, @noT_in (tbsOf K xs) _ _ ⟨q, hq⟩⟩),
      ⟨_, [], _, [], rfl, rfl, ⟨a, ns.map V.int, rfl, ?_, rep_ints ns⟩, rfl, rfl⟩, hS ns _ ⟨rfl, rfl⟩ hl, ?_, ?_⟩
    · have z : codeAmong pos [] = some cv := hc
      simp [codeAmong] at z
    · unfold L2.Rd
      rw [ha]
      exact rl
    · intro d n os F' O' H' v P _ _ _ _ _ r q
      obtain ⟨rfl, rfl⟩ := q
      exact r
    · intro x os F' O' H' cls dx _ _ _ _ _ q
      exact q
  · exact @Cal.fixT (tbsOf K xs) P w K mg base _ _ _ _ _ _ _ _ (C base (lamD_of hB TB)) F hf
end DL
set_option Elab.async false
set_option linter.all false
set_option maxRecDepth 100000
set_option maxHeartbeats 2000000
/-! DG4: the data layer: isinstance(e, (A, B)), e the exception that a suite holds. -/
namespace DL
open PySem PySem.Spec PyProof.Rows L2
variable [Tbs]
def obAny (kin : Str → Str → Option Bool) (y : Str) : List Str → Option Bool
  | [] => some false
  | x :: r => match kin y x with
    | some true => some true
    | some false => obAny kin y r
    | none => none
def rIsDT (K : PySem.W.Frag) (C a d : Addr) : List V → Hp → VK → Prop := fun xs H Q => ∃ (tp : Addr) (cs : List Addr) (b : Bool) (fs : List (Str × V)), xs = [.ref a, .ref tp] ∧ H tp = some (.tup (cs.map V.ref)) ∧ H d = some (.xd fs) ∧ PySem.W.kitAny K (.ref C) (cs.map Value.ref) = some b ∧ Q (.bl b) H
section
variable {X : Cx} {a C d : Addr} {oe : Obj} {pn : List (Addr × Obj)} {n : Str} {i : Nat} {p p1 p2 pos : Pos} {e2 : Expr}
theorem refs_of {cs : List Addr} : ∀ {us : List Value}, Vals (cs.map V.ref) us → us = cs.map Value.ref := by
  induction cs with
  | nil => intro us r; cases r; rfl
  | cons c cs ih =>
    intro us r
    cases r with
    | cons r1 r2 =>
      cases (show _ = Value.ref c from r1)
      rw [ih r2]
      rfl
theorem call_isDT (T : ExcC X.K C) (hz : L2N.Zn (.ref C) (some d) oe) (hf : ∃ vs, oe.data = .fields vs) : CallR (X.suite a ((a, oe) :: pn)) (.builtin "isinstance") (rIsDT X.K C a d) := by
  intro pins s σ H xs us Q I r h
  obtain ⟨tp, cs, b, fs, rfl, hT, ea, e, q⟩ := h
  obtain ⟨u1, u2, rfl, r1, r2⟩ := vals2 r
  cases (show u1 = Value.ref a from r1)
  cases (show u2 = Value.ref tp from r2)
  obtain ⟨od, J⟩ := exn_at I hz hf ea
  obtain ⟨_, its, rv, o, h1, h2, n, h3⟩ := (show ObjOk (X.suite a ((a, oe) :: pn)).prog (X.suite a ((a, oe) :: pn)).w H s.heap tp (.tup (cs.map V.ref)) from I.hok tp _ hT)
  have e3 := refs_of rv
  subst e3
  obtain ⟨oc, od', dt, sl⟩ := o
  simp only at h2 h3
  subst h2 h3
  exact PySem.W.kia_tup (kit_exn T) I.kIn J h1 e (fun z => nomatch z) fun tk => ⟨.bl b, H, I.kept (t' := tk) fun _ _ z => z, rfl, q⟩
/-- names of own classes -/
inductive ClsE (X : Cx) : List Expr → List Str → Prop
  | nil : ClsE X [] []
  | cons {x : Str} {p : Pos} {es : List Expr} {xs : List Str} (hg : Gl X x) (M : ClsAt X.mg x) (hd : (x == ("__debug__" : Str)) = false) (hs : starEach (.Name x p :: es) X.env = (false, eval (.Name x p) X.env) :: starEach es X.env) (r : ClsE X es xs) : ClsE X (.Name x p :: es) (x :: xs)
theorem ClsE.pa {es : List Expr} {xs : List Str} (h : ClsE X es xs) : ∃ (cs : List Addr) (t : TA), PA X es t ∧ cs.length = xs.length ∧ (∀ σ H Q, Q (cs.map V.ref) H → t σ H Q) ∧ ∀ (kin : Str → Str → Option Bool) (y : Str) (C : Addr), KinOk X.K X.mg kin → X.mg y = some (.ref C) → ∀ b, obAny kin y xs = some b → PySem.W.kitAny X.K (.ref C) (cs.map Value.ref) = some b := by
  induction h with
  | nil => exact ⟨[], _, pa_nil, rfl, fun σ H Q q => q, fun kin y C _ _ b e => by cases e; rfl⟩
  | @cons x p es xs hg M hd hs r ih =>
    obtain ⟨cs, t, h1, h2, h3, h4⟩ := ih
    obtain ⟨C2, hm2⟩ := M
    refine ⟨C2 :: cs, _, pa_cons (pe_glob (v := .ref C2) hg hm2 rfl hd) h1 hs, by simp [h2], fun σ H Q q => h3 _ _ _ q, fun kin y C Kn hm b e => ?_⟩
    unfold obAny at e
    cases ek : kin y x with
    | none => rw [ek] at e; cases e
    | some c =>
      rw [ek] at e
      have z := Kn.kit _ _ _ _ _ ek hm hm2
      show (match PySem.W.kitOne X.K (.ref C) (.ref C2) with
        | some true => some true
        | some false => PySem.W.kitAny X.K (.ref C) (cs.map Value.ref)
        | none => none) = some b
      rw [z]
      cases c with
      | true => exact e
      | false => exact h4 kin y C Kn hm b e
variable {kin : Str → Str → Option Bool} {x : Str} {y : Exc} {b : Bool} {es : List Expr} {xs : List Str} {kk : Nat} {tpos : Pos}
theorem pu_xisT (i : Nat) (Kn : KinOk X.K X.mg kin) (hz : L2N.Zn (.ref C) (some d) oe) (hf : ∃ vs, oe.data = .fields vs) (hm : X.mg y.cls = some (.ref C)) (hk : kin y.cls x = some b) (M : ClsE (X.suite a ((a, oe) :: pn)) es xs) (hmi : X.mg "isinstance" = none) (hl : xs.length ≤ sizeLine)
    (hN : X.N[i]? = some n := by rfl) (hv : Vis X.env.scope n := by first | exact Or.inl rfl | exact Or.inr (Or.inl rfl) | exact Or.inr (Or.inr rfl)) (hg : Gl X "isinstance" := by rfl) (hd : (n == ("__debug__" : Str)) = false := by decide) (hcd : (n == ("__classdict__" : Str)) = false := by decide)
    (h1 : starEach [.Name n p1, .Tuple es kk tpos] X.env = (false, eval (.Name n p1) X.env) :: starEach [.Tuple es kk tpos] X.env := by rfl) (h2 : starEach [.Tuple es kk tpos] X.env = (false, eval (.Tuple es kk tpos) X.env) :: starEach [] X.env := by rfl) (hpl : (backTo pos (starEach [.Tuple es kk tpos] X.env)).any (·.1) = false := by rfl) :
    PU (X.suite a ((a, oe) :: pn)) (.Call (.Name "isinstance" p) [.Name n p1, .Tuple es kk tpos] [] pos) (pXis i a d (obAny kin y.cls xs)) := by
  obtain ⟨cs, t, c1, c2, c3, c4⟩ := M.pa
  obtain ⟨t1, _, _⟩ := Kn.cls _ _ _ _ hk hm
  refine peI (pe_callB (X := X.suite a ((a, oe) :: pn)) (call_isDT t1 hz hf) hg hmi PyProof.Rows.boot_isinstance (pa_cons (pe_var (X := X.suite a ((a, oe) :: pn)) hN hv hd hcd) (pa_cons (pe_tup c1) pa_nil h2) h1) (by decide) (by decide) h1 hpl) ?_
  rintro σ H Qh ⟨io, env, F, O, Q, I, h, k⟩
  unfold pXis at h
  cases eo : obAny kin y.cls xs with
  | none => rw [eo] at h; exact h.elim
  | some b' =>
    rw [eo] at h
    have h : (match gt env i with
      | some ⟨.exn a' d' _, _, _⟩ => a' = a ∧ d' = d ∧ Q (.bl b')
      | _ => False) := h
    cases e : gt env i with
    | none => rw [e] at h; exact h.elim
    | some bd =>
      rw [e] at h
      obtain ⟨bd, bn, bio⟩ := bd
      cases bd <;> first | exact (show False from h).elim | skip
      rename_i a' d' fs
      have h : a' = a ∧ d' = d ∧ Q (.bl b') := h
      obtain ⟨rfl, rfl, hq⟩ := h
      obtain ⟨v, h1, h2, _⟩ := I.slot i _ (gt_some e)
      obtain ⟨rfl, vs, g1, g2⟩ := exn_rep h2
      refine ⟨_, h1, c3 _ _ _ ⟨by rw [List.length_map, c2]; exact hl, fun tp hp => ?_⟩⟩
      exact ⟨tp, cs, b', vs, rfl, upd_same, same_upd hp _ _ (I.sub _ _ g1), c4 kin y.cls C Kn hm b' eo, k (.bl b') _ _ (same_upd hp) rfl hq⟩
end
end DL
set_option Elab.async false
set_option linter.all false
set_option maxRecDepth 100000
set_option maxHeartbeats 2000000
/-! DG5: the data layer: tuple(range(n)). -/
namespace DL
open PySem PySem.Spec PyProof.Rows L2
variable [Tbs]
def eTupRg (t : AT) : ET := fun env Q R => t env (fun xs env1 => match xs with
  | [.int j] => RgOk 0 j ∧ Q (.tup (rngD 0 j.toNat)) 0 env1
  | _ => False) R
theorem de_tupRg1 {X : Cx} {a : Expr} {ta : ET} {p p2 pos pos2 : Pos} (hc : X.calm = true) (hm : X.mg "tuple" = none) (hm2 : X.mg "range" = none) (ha : DE X a ta) (hg : Gl X "tuple" := by rfl) (hg2 : Gl X "range" := by rfl)
    (na : starEach [a] X.env = (false, eval a X.env) :: starEach [] X.env := by rfl)
    (ne : starEach [.Call (.Name "range" p2) [a] [] pos2] X.env = (false, eval (.Call (.Name "range" p2) [a] [] pos2) X.env) :: starEach [] X.env := by rfl) :
    DE X (.Call (.Name "tuple" p) [.Call (.Name "range" p2) [a] [] pos2] [] pos) (eTupRg (aCons ta aNil)) := by
  intro W tk
  refine peI (pe_tupRg hc hg hm (prg_1 hg2 hm2 (ha W tk) na) ne) ?_
  rintro σ H Qh ⟨io, env, F, O, Q, R, I, h, kQ, kX⟩
  refine ⟨io, env, F, O, _, R, I, h, ?_, kX⟩
  intro x n env1 F1 O1 H1 v P A1 T1 r1 h2
  cases x <;> first | exact (show False from h2).elim | skip
  rename_i j
  have ev : v = .int j := by cases n <;> exact r1
  refine ⟨j, ev, h2.1, fun q hq => ?_⟩
  refine (Fin.of kQ A1).tup (rngD 0 j.toNat) (rgV 0 j) q hq ?_ h2.2
  have := reps_rg (K := X.K) (mg := X.mg) (F := F1) 0 j
  rw [Int.sub_zero] at this
  exact this
end DL
set_option Elab.async false
set_option linter.all false
set_option maxRecDepth 100000
set_option maxHeartbeats 2000000
/-! DG6: the data layer: < by depth, [x, ..] * n, {tuple: v}. -/
namespace DL
open PySem PySem.Spec PyProof.Rows L2
variable [Tbs]
/-! ### a < b, alike data -/
def rLtDat (K : PySem.W.Frag) : R2 := fun x y H Q => ∃ d e, Dp K H x d ∧ Dp K H y e ∧ PySem.W.alike d e = true ∧ d ≠ .none ∧ d.depth ≤ 30 ∧ Q (.bl (PySem.W.dataLt d e)) H
def odLtDat : OT2 := fun x y Q => x.py.canLay0 = true ∧ y.py.canLay0 = true ∧ PySem.W.alike x.py y.py = true ∧ x.py ≠ .none ∧ x.py.depth ≤ 30 ∧ Q (.bl (PySem.W.dataLt x.py y.py)) 0
section
variable {X : Cx}
theorem op_ltDat (hu : X.A.units + 64 < cLine) : OpR X (compareOp .Lt) (rLtDat X.K) := by
  intro pins s σ H x y v u Q I rx ry h
  obtain ⟨d, e, hd, he, ha, hn, hp, q⟩ := h
  obtain ⟨as, r1⟩ := Dp.reads I d x v hd rx
  obtain ⟨bs, r2⟩ := Dp.reads I e y u he ry
  exact PySem.W.lt_data r1 r2 ha hn (by omega) ⟨.bl _, H, I, rfl, q⟩
theorem okLtDat : Ok2 X (rLtDat X.K) odLtDat := by
  intro F H x y v w Q Qh e r1 r2 h k
  obtain ⟨h1, h2, h3, h4, h5, h6⟩ := h
  exact ⟨_, _, dp_of (Rep.mono e r1) h1, dp_of (Rep.mono e r2) h2, h3, h4, h5, k.old (.bl _) _ rfl h6⟩
end
/-! ### [..] * n, the list new -/
def odRep : D → Nat → D → Qn → Prop
  | .lst ds, 1, .int k, Q => -(2 ^ 63) ≤ k ∧ k < 2 ^ 63 ∧ ds.length * k.toNat ≤ sizeLine ∧ Q (.lst (List.replicate k.toNat ds).flatten) 1
  | _, _, _, _ => False
theorem odRep_of {x y : D} {n : Nat} {Q : Qn} (h : odRep x n y Q) : ∃ ds k, x = .lst ds ∧ n = 1 ∧ y = .int k ∧ -(2 ^ 63) ≤ k ∧ k < 2 ^ 63 ∧ ds.length * k.toNat ≤ sizeLine ∧ Q (.lst (List.replicate k.toNat ds).flatten) 1 := by
  unfold odRep at h
  split at h
  · exact ⟨_, _, rfl, rfl, rfl, h⟩
  · exact h.elim
def eRep (ta tb : ET) : ET := fun env Q R => ta env (fun x n env1 => tb env1 (fun y _ env2 => odRep x n y fun z m => Q z m env2) R) R
theorem reps_rep {K : PySem.W.Frag} {mg : MG} {F : Hp} {ds : List D} {vs : List V} (h : Reps K mg F ds vs) : ∀ n : Nat, Reps K mg F (List.replicate n ds).flatten (List.replicate n vs).flatten
  | 0 => rfl
  | n + 1 => by
    rw [List.replicate_succ, List.replicate_succ, List.flatten_cons, List.flatten_cons]
    exact Reps.append h (reps_rep h n)
theorem de_rep {X : Cx} {a b : Expr} {ta tb : ET} {pos : Pos} (ha : DE X a ta) (hb : DE X b tb) : DE X (.BinOp a .Mult b pos) (eRep ta tb) := by
  intro W tk
  refine peI (pe_op op_rep (ha W tk) (hb W tk)) ?_
  rintro σ H Qh ⟨io, env, F, O, Q, R, I, h, kQ, kX⟩
  refine ⟨io, env, F, O, _, R, I, h, ?_, kX⟩
  intro x n env1 F1 O1 H1 v P A1 T1 r1 h1
  refine ⟨io, env1, F1, O1, _, R, A1.si, h1, ?_, kX.mv A1⟩
  intro y m env2 F2 O2 H2 w P2 A2 T2 r2 h2
  obtain ⟨ds, k, rfl, rfl, rfl, q1, q2, q3, q4⟩ := odRep_of h2
  have ew : w = .int k := by cases m <;> exact r2
  obtain ⟨l, vs, rfl, g1, gp, g2⟩ := ro_lst r1
  have g3 := T1.keep A2.mv gp g1
  refine ⟨l, k, vs, rfl, ew, g3, q1, q2, by rw [g2.length]; exact q3, fun p hp => ?_⟩
  exact (Fin.of kQ (A1.trans A2)).new (.lst _) (.lst _) p hp (reps_rep (Reps.mono A2.mv.ff g2) _) q4
/-! ### {tuple: v} -/
theorem wpAny_Dict_subH {prog : Program} {w : World} {K : Type} [DecidableEq K] {knd : HeapKind prog w K} {A : Around} {E : Value → Shared → Prop} {s : Shared} {env : Env} {keys : List (Option Expr)} {values : List Expr} {pos : Pos} {pairs : List (Sem Value × Sem Value)} {Q : Value → Shared → Prop} (hu : knd.room A)
    (hshape : (evalEachOpt keys env).zip ((evalEach values env).map fun v => do let x ← v; standAt pos; pure x) = pairs.map fun p => (some p.1, p.2)) (h0 : pairs ≠ []) (hlen : pairs.length ≤ 15)
    (h : wpAny (model prog w) A (evalPairs pairs) (fun vs s₁ => ∃ ps, CarriesH knd s₁.heap vs ps ∧ s₁.heap.DictOfH knd s.heap.objs.size [] ∧
      ∀ h' tk, h'.DictOfH knd s.heap.objs.size (storedAllH [] ps) → Heap.SameBut s.heap.objs.size s₁.heap h' → Q (.ref s.heap.objs.size) { s₁ with heap := h', toks := tk }) E
      { s with heap := s.heap.push { cls := .type "dict", data := .dict #[] } }) :
    wpAny (model prog w) A (eval (.Dict keys values pos) env) Q E s := by
  rw [arm_eval_Dict, hshape, dictDisplay_pairs pairs h0 (by omega)]
  exact wpAny_bind (wpAny_standAt (wpAny_bind (wpAny_subDictH (knd := knd) (Q := fun d s' => wpAny (model prog w) A (pure (Value.ref d)) Q E s') hu hlen
    (wpAny_mono h (fun vs s₁ h₁ => by obtain ⟨ps, hc, hm, hq⟩ := h₁; exact ⟨ps, hc, hm, fun h' tk a b => wpAny_pure (hq h' tk a b)⟩) fun _ _ e => e))))
theorem vv_one {x y : V} {ws : List (Value × Value)} (h : VV [(x, y)] ws) : ∃ u w, ws = [(u, w)] ∧ RelV x u ∧ RelV y w := by
  cases h with
  | cons r1 rn =>
    cases rn
    exact ⟨_, _, rfl, r1.1, r1.2⟩
theorem pe_dispT {X : Cx} {k v : Expr} {tk tv : TE} {pos : Pos} (hu : X.A.units + 1 < cLine) (hk : PE X k tk) (hv : PE X v tv) : PE X (.Dict [some k] [v] pos)
    (fun σ H Q => ∀ p, H p = none → tPairs [(tk, tv)] σ (upd H p (.dT [])) fun ps H2 => H2 p = some (.dT []) ∧ ∃ (b : Addr) (key : List Key) (y : V), ps = [(.ref b, y)] ∧ H2 b = some (.tup (key.map kV)) ∧ Q (.ref p) (upd H2 p (.dT [(key, y)]))) := by
  refine ⟨fun pins s σ H Q I q => ?_⟩
  have hn := I.hok.fresh (Nat.le_refl s.heap.objs.size)
  have I1 := I.laid (a := s.heap.objs.size) (o := .dT []) (h' := s.heap.push { cls := .type "dict", data := .dict #[] }) (t' := s.toks) (fun _ _ q => Heap.get?_push_of_some _ q) (Nat.le_refl _) (dt_empty s.heap I.big)
  refine wpAny_Dict_subH (knd := tupleKind (mixKind X.prog X.w)) (show X.A.units < cLine by omega) (zip_pairTrees [some k] [v] X.env pos rfl rfl) (by intro z; cases z) (show 1 ≤ 15 by decide) ?_
  refine thn ((pps_cons (pos := pos) hk hv pps_nil).run pins _ σ _ (fun ps H2 => H2 s.heap.objs.size = some (.dT []) ∧ ∃ (b : Addr) (key : List Key) (y : V), ps = [(.ref b, y)] ∧ H2 b = some (.tup (key.map kV)) ∧ Q (.ref s.heap.objs.size) (upd H2 s.heap.objs.size (.dT [(key, y)]))) I1 (q _ hn)) fun ws s2 ⟨ps, H2, I2, rel, e, b, key, y, ep, eb, q2⟩ => ?_
  · subst ep
    obtain ⟨z, hd, xs, r0, dd⟩ := dt_of I2.hok e
    obtain ⟨w1, w2, ew, rk, rv⟩ := vv_one rel
    subst ew
    have exs : xs = [] := by
      have := Paired.length r0
      cases xs with
      | nil => rfl
      | cons _ _ => simp at this
    subst exs
    have ew1 : w1 = Value.ref b := rk
    subst ew1
    · 
      refine ⟨[(key, b, w2)], ⟨rfl, rfl, key_of I2.hok eb, trivial⟩, dd, fun h' tk' dd' hs => ?_⟩
      obtain ⟨o, es, en, hq, h2, h3, h4, _, h5⟩ := dd'
      refine ⟨.ref s.heap.objs.size, _, d_write (t' := tk') I2 (by rw [e]; exact True.intro) hs ⟨o, hq⟩ (ob := .dT [(key, y)]) ⟨by show 1 ≤ sizeLine; decide, hd, [(key, b, w2)], .cons ⟨rfl, ?_, rv⟩ .nil, o, es, en, hq, h2, h3, h4, h5⟩, rfl, q2⟩
      show upd H2 s.heap.objs.size (.dT [(key, y)]) b = some (.tup (key.map kV))
      rw [upd_ne (fun z => by rw [z, e] at eb; cases eb)]
      exact eb
def eDispT (tk tv : ET) : ET := fun env Q R => tk env (fun k _ env1 => tv env1 (fun v _ env2 => match k with
  | .tup ks => match keysD ks with | some key => Q (.dT [(key, v)]) 1 env2 | none => False
  | _ => False) R) R
theorem de_dispT {X : Cx} {k v : Expr} {tk tv : ET} {pos : Pos} (hu : X.A.units + 1 < cLine) (hk : DE X k tk) (hv : DE X v tv) : DE X (.Dict [some k] [v] pos) (eDispT tk tv) := by
  intro W tt
  refine peI (pe_dispT hu (hk W tt) (hv W tt)) ?_
  rintro σ H Qh ⟨io, env, F, O, Q, R, I, h, kQ, kX⟩ p hp
  have A0 := (At.start I).ext (same_upd (o := .dT []) hp)
  have T0 : Tp O H F O (upd H p (.dT [])) (fun b => b = p) := (At.start I).tp_new (o := .dT []) hp rfl
  refine ⟨io, env, F, O, _, R, A0.si, h, ?_, kX.mv A0⟩
  intro x n env1 F1 O1 H1 xv P1 A1 T1 r1 h1
  have A1' := A1.frz T1
  refine ⟨io, env1, _, O1, _, R, A1'.si, h1, ?_, (kX.mv A0).mv A1'⟩
  intro y m env2 F2 O2 H2 yv P2 A2 T2 r2 h2
  have A2' := A2.frz T2
  have A := (A0.trans A1').trans A2'
  have T := (T0.mv A1'.mv).mv A2'.mv
  cases x <;> first | exact (show False from h2).elim | skip
  rename_i ks
  have h2 : (match keysD ks with | some key => Q (.dT [(key, y)]) 1 env2 | none => False) := h2
  cases ek : keysD ks with
  | none => rw [ek] at h2; exact h2.elim
  | some key =>
    rw [ek] at h2
    obtain ⟨b, vs, eb, gb, gs⟩ := A1.frz_rep r1
    have ex := keysD_v ek gs
    subst ex
    obtain ⟨A3, T3⟩ := A.hand T (p := p) (o := .dT [(key, yv)]) rfl rfl
    refine ⟨(T0.mv A1'.mv).keep A2'.mv rfl (T0.keep A1'.mv rfl upd_same), b, key, yv, by rw [eb], A2'.si.sub _ _ (A2'.mv.ff _ _ gb), ?_⟩
    exact kQ (.dT [(key, y)]) 1 env2 _ O2 _ (.ref p) (fun b => b = p) A3 T3 (NewL.own (z := .dT [(key, y)]) (o := .dT [(key, yv)]) ⟨yv, [], rfl, A2.frz_rep r2, rfl⟩ upd_same) h2
end DL
set_option Elab.async false
set_option linter.all false
set_option maxRecDepth 100000
set_option maxHeartbeats 2000000
/-! DG7: the data layer: x[::-1] of a tuple. -/
namespace DL
open PySem PySem.Spec PyProof.Rows L2
section
variable {prog : Program} {w : World} {A : Around} {E : Value → Shared → Prop} {s : Shared}
theorem applied_rev {sl : Addr} {u : Tok} {n : Nat} {Q : Int × Int × Nat → Shared → Prop} (hs : s.heap.IsSliceOf sl .none .none (.int (-1) u)) (h : Q ((n : Int) - 1, -1, n) s) : wpAny (model prog w) A (Builtin.Slice.sliceApplied (.ref sl) (pure (n : Int))) Q E s := by
  obtain ⟨os, hos, hcs, hds⟩ := id hs
  unfold Builtin.Slice.sliceApplied Builtin.Slice.sliceFields
  refine wpAny_bind (wpAny_bind (wpAny_field hos hds (x := .none) rfl (wpAny_bind (wpAny_field hos hds (x := .none) rfl (wpAny_bind (wpAny_field hos hds (x := .int (-1) u) rfl (wpAny_pure ?_)))))))
  refine wpAny_bind (HT.slicePart_ (.int (-1) u) ?_)
  show wpAny _ _ (if ((-1 : Int) == 0) = true then _ else _) _ _ s
  rw [if_neg (by decide)]
  refine wpAny_bind (HT.slicePart_ .none (wpAny_bind (HT.slicePart_ .none (wpAny_bind (wpAny_pure ?_)))))
  have e : Builtin.Slice.slicePlaces ((n : Int) - 1) (-1) (-1) = n := by
    unfold Builtin.Slice.slicePlaces
    rw [if_neg (by decide)]
    split
    · rw [show (- -1 : Int) = 1 by decide, Int.ediv_one]; omega
    · omega
  show wpAny _ _ (pure ((n : Int) - 1, (-1 : Int), Builtin.Slice.slicePlaces ((n : Int) - 1) (-1) (-1))) _ _ s
  rw [e]
  exact wpAny_pure h
theorem pick_rev (xs : Array Value) : ((List.range xs.size).filterMap fun (k : Nat) => xs[((xs.size : Int) - 1 + (k : Int) * (-1)).toNat]?) = xs.toList.reverse := by
  have e : (List.range xs.size).filterMap (fun (k : Nat) => xs[((xs.size : Int) - 1 + (k : Int) * (-1)).toNat]?) = ((List.range xs.size).map fun k => xs.size - 1 - k).filterMap (xs[·]?) := by
    rw [List.filterMap_map]
    congr 1
    funext k
    have : ((xs.size : Int) - 1 + (k : Int) * (-1)).toNat = xs.size - 1 - k := by omega
    rw [this]
    rfl
  rw [e, PySem.W.krv_range, List.filterMap_reverse, PySem.W.krv_all]
theorem getItem_tuple_rev {t sl : Addr} {items : Array Value} {u : Tok} {Q : Value → Shared → Prop} (ht : IsTup s.heap t items) (hs : s.heap.IsSliceOf sl .none .none (.int (-1) u))
    (h : Q (.ref s.heap.objs.size) { s with heap := s.heap.push { cls := .type "tuple", data := .seq items.toList.reverse.toArray } }) (hsz : items.size ≤ sizeLine) : wpAny (model prog w) A (getItem (.ref t) (.ref sl)) Q E s := by
  have htake : sizeOk (.seq items.toList.reverse.toArray) := by
    show items.toList.reverse.toArray.size ≤ sizeLine
    rw [List.size_toArray, List.length_reverse, Array.length_toList]
    exact hsz
  obtain ⟨os, hos, hcs, hds⟩ := id hs
  have hTs : s.TypeIs (.ref sl) "slice" := ⟨os, hos, hcs⟩
  unfold getItem
  try with_reducible refine wpAny_holding ?_
  first | refine wpAny_bind (wpAny_pure ?_) | skip
  refine wpAny_bind (wpAny_sequenceKey ht.typeIs (by decide) ?_)
  refine wpAny_bind (wpAny_callSpecial?_slot (name := Str.ofString "__getitem__") ht.typeIs PyProof.Rows.slot_tuple_getitem
    (wpAny_call_entry PyProof.Rows.slot_tuple_getitem ht.typeIs entry_tuple_getitem ?_ (args_tuple_getitem _ _)))
  show wpAny _ _ (Builtin.Tuple.tupleItemsOf (.ref t) >>= _) _ _ s
  refine wpAny_bind (PyProof.Rows.tupleItemsOf_ ht ?_)
  refine wpAny_bind (wpAny_typeOf hTs ?_)
  rw [if_pos (by decide)]
  refine wpAny_bind (applied_rev hs ?_)
  have hno : ¬ ((((items.size : Int) - 1) == 0 && (-1 : Int) == 1 && items.size == items.size) = true) := by
    intro q
    rw [Bool.and_eq_true, Bool.and_eq_true] at q
    exact absurd (eq_of_beq q.1.2) (by decide)
  show wpAny _ _ (if (((items.size : Int) - 1) == 0 && (-1 : Int) == 1 && items.size == items.size) = true then _ else _) _ _ s
  rw [if_neg hno, pick_rev]
  first
    | exact wpAny_bind (m := Builtin.Tuple.tupleExact _) (wpAny_newObj_type (wpAny_pure ⟨_, rfl, wpAny_pure h⟩) htake)
    | exact wpAny_bind (m := Builtin.Tuple.tupleExact _) (wpAny_newObj_type (wpAny_bind (wpAny_pure (wpAny_pure ⟨_, rfl, wpAny_pure h⟩))) htake)
    | exact wpAny_bind (wpAny_bind (m := Builtin.Tuple.tupleExact _) (wpAny_newObj_type (wpAny_pure (wpAny_pure ⟨_, rfl, wpAny_pure h⟩)) htake))
    | exact wpAny_bind (wpAny_bind (m := Builtin.Tuple.tupleExact _) (wpAny_newObj_type (wpAny_pure ⟨_, rfl, wpAny_pure h⟩) htake))
end
variable [Tbs]
/-- a list's or a tuple's items, turned round -/
def tRevA (K : PySem.W.Frag) (te : TE) : TE := fun σ H Q => te σ H fun x H1 => ∃ a xs, x = .ref a ∧ ((SqL K H1 a xs ∧ ∀ p, H1 p = none → Q (.ref p) (upd H1 p (.lst xs.reverse))) ∨ (SqT K H1 a xs ∧ ∀ p, H1 p = none → Q (.ref p) (upd H1 p (.tup xs.reverse))))
theorem pe_revA {X : Cx} {e : Expr} {te : TE} {k : Nat} {p1 p2 p3 pos : Pos} (he : PE X e te) : PE X (.Subscript e (.Slice none none (some (.UnaryOp .USub (.Constant (.int 1) k p1) p2)) p3) pos) (tRevA X.K te) := by
  refine ⟨fun pins s σ H Q I h => ?_⟩
  refine Subscript_ (thn (he.run pins s σ H _ I h) fun v s1 ⟨x, H1, I1, r1, q1⟩ => ?_)
  obtain ⟨a, xs, ex, q⟩ := q1
  subst ex
  cases r1
  have hst : PO X (some (.UnaryOp .USub (.Constant (.int 1) k p1) p2)) (tPart (tUn (rU fun i => .int (-i)) (tC (.int 1)))) := po_some (pe_un un_neg pe_int)
  refine wpAny_Slice (thn (po_none.run pins s1 σ H1 (fun o H2 => o = none ∧ H2 = H1) I1 ⟨rfl, rfl⟩) fun vl s2 ⟨l, H2, I2, pl, el, e2⟩ => ?_)
  subst el e2
  refine thn (po_none.run pins s2 σ H2 (fun o H3 => o = none ∧ H3 = H2) I2 ⟨rfl, rfl⟩) fun vu s3 ⟨u, H3, I3, pu, eu, e3⟩ => ?_
  subst eu e3
  refine thn (hst.run pins s3 σ H3 (fun o H4 => o = some (-1) ∧ H4 = H3) I3 ⟨1, rfl, -1, rfl, rfl, rfl⟩) fun vs s4 ⟨o, H4, I4, ps, eo, e4⟩ => ?_
  subst eo e4
  have I5 : Inv X pins σ H4 { s4 with heap := s4.heap.push { cls := .type "slice", data := .fields #[vl, vu, vs] } } := I4.kept (t' := s4.toks) fun b ob q => Heap.get?_push_of_some _ q
  show wpAny (model X.prog X.w) X.A (subscriptTail e (.Slice none none (some (.UnaryOp .USub (.Constant (.int 1) k p1) p2)) p3) (.ref a) (.ref s4.heap.objs.size)) (EP X pins σ Q) X.xe { s4 with heap := s4.heap.push { cls := .type "slice", data := .fields #[vl, vu, vs] } }
  rcases q with ⟨hx, q⟩ | ⟨hx, q⟩
  · obtain ⟨its, r, ht, hz⟩ := I5.list hx
    have hlen := r.length
    refine tail_any (ops := [.ref a, .ref s4.heap.objs.size]) ht.isList.typeIs (PySem.slot_list_getitem.lookup) ?_ (by with_unfolding_all rfl)
    refine wpAny_getItem_list_slice ht.isList (Heap.IsSliceOf.new _ vl vu vs) pl pu ps (by decide) ?_ (by rw [List.size_toArray]; omega)
    rw [PySem.W.krv_pick]
    refine ⟨.ref _, _, I5.laid (t' := s4.toks) (o := .lst xs.reverse) (fun b ob q => Heap.get?_push_of_some _ q) (Nat.le_refl _) ?_, rfl, q _ (I5.hok.fresh (Nat.le_refl _))⟩
    exact ⟨by rw [List.length_reverse]; exact hz, _, 0, r.reverse, Heap.get?_push_size _ rfl⟩
  · obtain ⟨its, r, ht, hz⟩ := I5.tuple hx
    have hlen := r.length
    cases pl
    cases pu
    cases ps
    refine tail_any (ops := [.ref a, .ref s4.heap.objs.size]) ht.typeIs (PyProof.Rows.slot_tuple_getitem.lookup) ?_ (by with_unfolding_all rfl)
    refine getItem_tuple_rev ht (Heap.IsSliceOf.new _ _ _ _) ?_ (by rw [List.size_toArray]; omega)
    refine ⟨.ref _, _, I5.laid (t' := s4.toks) (o := .tup xs.reverse) (fun b ob q => Heap.get?_push_of_some _ q) (Nat.le_refl _) ?_, rfl, q _ (I5.hok.fresh (Nat.le_refl _))⟩
    exact ⟨by rw [List.length_reverse]; exact hz, _, r.reverse, IsTup.new _ _⟩
def odRevT : OT1
  | .lst ds, Q => Q (.lst ds.reverse) 1
  | .tup ds, Q => Q (.tup ds.reverse) 0
  | _, _ => False
theorem de_revA {X : Cx} {e : Expr} {te : ET} {k : Nat} {p1 p2 p3 pos : Pos} (he : DE X e te) : DE X (.Subscript e (.Slice none none (some (.UnaryOp .USub (.Constant (.int 1) k p1) p2)) p3) pos) (tO1 odRevT te) :=
  de_un1 (r1 := fun x H1 Q => ∃ a xs, x = .ref a ∧ ((SqL X.K H1 a xs ∧ ∀ p, H1 p = none → Q (.ref p) (upd H1 p (.lst xs.reverse))) ∨ (SqT X.K H1 a xs ∧ ∀ p, H1 p = none → Q (.ref p) (upd H1 p (.tup xs.reverse))))) (fun _ x => pe_revA x) (by
    intro F H x v Q Qh e r h k
    cases x <;> first | exact (show False from h).elim | skip
    · obtain ⟨a, vs, rfl, g1, g2⟩ := r
      exact ⟨a, vs, rfl, .inr ⟨.inl (.inl (e _ _ g1)), fun p hp => k.tup _ _ p hp g2.reverse h⟩⟩
    · obtain ⟨a, vs, rfl, g1, g2⟩ := r
      exact ⟨a, vs, rfl, .inl ⟨.inl (rd_mono e g1), fun p hp => k.new (.lst _) (.lst _) p hp g2.reverse h⟩⟩) he
end DL
set_option Elab.async false
set_option linter.all false
set_option maxRecDepth 100000
set_option maxHeartbeats 4000000
/-! what gen.py has printed of the text: slots, transformers, derivations -/
namespace K84
open PySem L2 PySem.Spec PyProof.Rows DL
def top (i : Nat) : Stmt := PySem.Challenge.pw_sparehouses_k84_whole_least_repack.main.body.getD i (.Pass ⟨0, 0, 0, 0⟩)
abbrev s_is_integer : Stmt := top 6
abbrev ms_is_integer : Ms := [none]
abbrev s_is_within : Stmt := top 7
abbrev ms_is_within : Ms := [none, none, none]
abbrev s_is_row : Stmt := top 8
abbrev ms_is_row : Ms := [none]
abbrev s_is_load : Stmt := top 14
abbrev ms_is_load : Ms := [none]
abbrev s_check_loads : Stmt := top 15
abbrev ms_check_loads : Ms := [none]
abbrev s_costs_behind : Stmt := top 16
abbrev ms_costs_behind : Ms := [none, none]
abbrev s_least_repack : Stmt := top 17
abbrev ms_least_repack : Ms := [none, none]
abbrev s__law_taken : Stmt := top 19
abbrev ms__law_taken : Ms := [some 1, none]
abbrev s__law_pick : Stmt := top 20
abbrev ms__law_pick : Ms := [some 1, none]
abbrev s__law_alike : Stmt := top 21
abbrev ms__law_alike : Ms := [none, none]
abbrev s__law_best : Stmt := top 22
abbrev ms__law_best : Ms := [none, none]
abbrev s__law_heard : Stmt := top 23
abbrev ms__law_heard : Ms := [none]
abbrev s__law_choices : Stmt := top 24
abbrev ms__law_choices : Ms := [none, none]
abbrev s__law_packs : Stmt := top 25
abbrev ms__law_packs : Ms := [some 1, none, none]
abbrev s__law_right : Stmt := top 26
abbrev ms__law_right : Ms := [none, none, none]
abbrev s__law_bad : Stmt := top 27
abbrev ms__law_bad : Ms := [some 1, none]
abbrev s_law : Stmt := top 28
abbrev ms_law : Ms := [none]
def ctab : List (Str × List Str) := [("HouseError", ["HouseError", "ValueError"]), ("BadMany", ["BadMany", "HouseError", "ValueError"]), ("BadPacks", ["BadPacks", "HouseError", "ValueError"]), ("NotEnough", ["NotEnough", "HouseError", "ValueError"])]
abbrev kin : Str → Str → Option Bool := kinOf ctab
def meth (s : Stmt) (i : Nat) : Stmt := match s with
  | .ClassDef _ _ _ b _ _ _ _ _ _ _ => b.getD i (.Pass ⟨0, 0, 0, 0⟩)
  | _ => .Pass ⟨0, 0, 0, 0⟩
abbrev s_HouseError___init__ : Stmt := meth (top 1) 0
abbrev N_is_integer : List Str := ["thing"]
theorem sc_is_integer : FnScope N_is_integer ["thing"] (defScope s_is_integer) := ⟨rfl, rfl, rfl, by decide +kernel, rfl, by decide +kernel, by decide +kernel⟩
def t_is_integer : SD :=
    sdRet (eAnd (eP (pIs (pVar 0) [.int])) (eNot (eP (pIs (pVar 0) [.bool]))))
theorem d_is_integer {P : Program} {w : World} {K : PySem.W.Frag} {mg : MG} {base : Heap} {k : Nat} (B : Blt mg) (f : Addr) (cdv : Value) (A : Around) (outer : List Env) (s : Shared) (H : Hp) (E : XK) (hr : Room k (A.deeper (envOfC "is_integer" (defScope s_is_integer) s.heap.objs.size f cdv))) :
    DSs (cxOf (L2N.CX P w) P w K mg base N_is_integer "is_integer" (defScope s_is_integer) f cdv A outer s H E) (defBody s_is_integer) (t_is_integer) :=
  have hu := hu_of hr
  dss_one (ds_ret (de_and (de_pu (pu_is (pu_var 0) (kd_int B) B.isinstance boot_isinstance)) (de_one (de_not (de_pu (pu_is (pu_var 0) (kd_bool B) B.isinstance boot_isinstance))))))
theorem c_is_integer {P : Program} {w : World} {K : PySem.W.Frag} {mg : MG} {base : Heap} {k : Nat} {S : DSp} (Fu : FunAt K mg "is_integer" s_is_integer) (B : Blt mg) (hs : ∀ ds post, S ds post → ds.length = ms_is_integer.length → t_is_integer (env0 ms_is_integer ds N_is_integer.length) (endsOf ms_is_integer post)) : Cal P w K mg base "is_integer" s_is_integer (k + 1) ["thing"] ms_is_integer S :=
  cal_mk Fu sc_is_integer rfl (fun _ _ _ _ _ _ us hl => match us, hl with | [_], _ => rfl) (d_is_integer B) hs
abbrev N_is_within : List Str := ["thing", "least", "most"]
theorem sc_is_within : FnScope N_is_within ["thing", "least", "most"] (defScope s_is_within) := ⟨rfl, rfl, rfl, by decide +kernel, rfl, by decide +kernel, by decide +kernel⟩
def t_is_within (S_is_integer : DSp) : SD :=
    sdRet (eAnd (eCall ms_is_integer S_is_integer [] (gaVal (eVar 0) (gaNil))) (eP (pChain odLe odLe (pVar 1) (pVar 0) (pVar 2))))
theorem d_is_within {P : Program} {w : World} {K : PySem.W.Frag} {mg : MG} {base : Heap} {k : Nat} {S_is_integer : DSp} (B : Blt mg) (C_is_integer : Cal P w K mg base "is_integer" s_is_integer k ["thing"] ms_is_integer S_is_integer) (f : Addr) (cdv : Value) (A : Around) (outer : List Env) (s : Shared) (H : Hp) (E : XK) (hr : Room k (A.deeper (envOfC "is_within" (defScope s_is_within) s.heap.objs.size f cdv))) :
    DSs (cxOf (L2N.CX P w) P w K mg base N_is_within "is_within" (defScope s_is_within) f cdv A outer s H E) (defBody s_is_within) (t_is_within S_is_integer) :=
  have hu := hu_of hr
  dss_one (ds_ret (de_and (dc_call C_is_integer hr (dg_val (de_var 0) (dg_nil))) (de_one (de_pu (pu_chain (op_leD) (op_leD) okCmp okCmp (pu_var 1) (pu_var 0) (pu_var 2))))))
theorem c_is_within {P : Program} {w : World} {K : PySem.W.Frag} {mg : MG} {base : Heap} {k : Nat} {S_is_integer : DSp} {S : DSp} (Fu : FunAt K mg "is_within" s_is_within) (B : Blt mg) (C_is_integer : Cal P w K mg base "is_integer" s_is_integer k ["thing"] ms_is_integer S_is_integer) (hs : ∀ ds post, S ds post → ds.length = ms_is_within.length → t_is_within S_is_integer (env0 ms_is_within ds N_is_within.length) (endsOf ms_is_within post)) : Cal P w K mg base "is_within" s_is_within (k + 1) ["thing", "least", "most"] ms_is_within S :=
  cal_mk Fu sc_is_within rfl (fun _ _ _ _ _ _ us hl => match us, hl with | [_, _, _], _ => rfl) (d_is_within B C_is_integer) hs
abbrev N_is_row : List Str := ["thing"]
theorem sc_is_row : FnScope N_is_row ["thing"] (defScope s_is_row) := ⟨rfl, rfl, rfl, by decide +kernel, rfl, by decide +kernel, by decide +kernel⟩
def t_is_row : SD :=
    sdRet (eP (pIs (pVar 0) [.list, .tuple]))
theorem d_is_row {P : Program} {w : World} {K : PySem.W.Frag} {mg : MG} {base : Heap} {k : Nat} (B : Blt mg) (f : Addr) (cdv : Value) (A : Around) (outer : List Env) (s : Shared) (H : Hp) (E : XK) (hr : Room k (A.deeper (envOfC "is_row" (defScope s_is_row) s.heap.objs.size f cdv))) :
    DSs (cxOf (L2N.CX P w) P w K mg base N_is_row "is_row" (defScope s_is_row) f cdv A outer s H E) (defBody s_is_row) (t_is_row) :=
  have hu := hu_of hr
  dss_one (ds_ret (de_pu (pu_isT (pu_var 0) (.cons (kd_list B) (.cons (kd_tuple B) (.nil) rfl) rfl) (show 2 ≤ sizeLine by decide) B.isinstance boot_isinstance)))
theorem c_is_row {P : Program} {w : World} {K : PySem.W.Frag} {mg : MG} {base : Heap} {k : Nat} {S : DSp} (Fu : FunAt K mg "is_row" s_is_row) (B : Blt mg) (hs : ∀ ds post, S ds post → ds.length = ms_is_row.length → t_is_row (env0 ms_is_row ds N_is_row.length) (endsOf ms_is_row post)) : Cal P w K mg base "is_row" s_is_row (k + 1) ["thing"] ms_is_row S :=
  cal_mk Fu sc_is_row rfl (fun _ _ _ _ _ _ us hl => match us, hl with | [_], _ => rfl) (d_is_row B) hs
abbrev N_is_load : List Str := ["thing"]
theorem sc_is_load : FnScope N_is_load ["thing"] (defScope s_is_load) := ⟨rfl, rfl, rfl, by decide +kernel, rfl, by decide +kernel, by decide +kernel⟩
def t_is_load (S_is_within : DSp) : SD :=
    sdSeq (sdIf (ttOr (ttNot (ttPB (pIs (pVar 0) [.tuple]))) (ttPB (tP2 odNe (tPN odLen (apCons (pVar 0) apNil)) (pC (.int 2)))))
    (sdRet (eP (pC (.bl false))))
    (sdNil))
    (sdRet (eAnd (eCall ms_is_within S_is_within [] (gaVal (eIxL 0 (eP (pC (.int 0)))) (gaVal (eP (pC (.int 0))) (gaVal (eP (pC (.int 60000))) (gaNil))))) (eCall ms_is_within S_is_within [] (gaVal (eIxL 0 (eP (pC (.int 1)))) (gaVal (eP (pC (.int 0))) (gaVal (eP (pC (.int 60000))) (gaNil)))))))
theorem d_is_load {P : Program} {w : World} {K : PySem.W.Frag} {mg : MG} {base : Heap} {k : Nat} {S_is_within : DSp} (B : Blt mg) (G_MOST_LOAD : GlD mg "MOST_LOAD" (.int 60000)) (C_is_within : Cal P w K mg base "is_within" s_is_within k ["thing", "least", "most"] ms_is_within S_is_within) (f : Addr) (cdv : Value) (A : Around) (outer : List Env) (s : Shared) (H : Hp) (E : XK) (hr : Room k (A.deeper (envOfC "is_load" (defScope s_is_load) s.heap.objs.size f cdv))) :
    DSs (cxOf (L2N.CX P w) P w K mg base N_is_load "is_load" (defScope s_is_load) f cdv A outer s H E) (defBody s_is_load) (t_is_load S_is_within) :=
  have hu := hu_of hr
  dss_cons (ds_if ((dt_or (dt_not (dt_pu (pu_is (pu_var 0) (kd_tuple B) B.isinstance boot_isinstance))) (dt_or1 (dt_cmp (op_neA hr.units) okNe (pu_len B (pu_var 0)) (pu_int) (nomark _)))).dt)
    (dss_one (ds_ret (de_pu (pu_bl))))
    (dss_nil))
    (dss_one (ds_ret (de_and (dc_call C_is_within hr (dg_val (de_ixl 0 hu (de_pu (pu_int))) (dg_val (de_pu (pu_int)) (dg_val (de_pu (pu_gd G_MOST_LOAD)) (dg_nil))))) (de_one (dc_call C_is_within hr (dg_val (de_ixl 0 hu (de_pu (pu_int))) (dg_val (de_pu (pu_int)) (dg_val (de_pu (pu_gd G_MOST_LOAD)) (dg_nil)))))))))
theorem c_is_load {P : Program} {w : World} {K : PySem.W.Frag} {mg : MG} {base : Heap} {k : Nat} {S_is_within : DSp} {S : DSp} (Fu : FunAt K mg "is_load" s_is_load) (B : Blt mg) (G_MOST_LOAD : GlD mg "MOST_LOAD" (.int 60000)) (C_is_within : Cal P w K mg base "is_within" s_is_within k ["thing", "least", "most"] ms_is_within S_is_within) (hs : ∀ ds post, S ds post → ds.length = ms_is_load.length → t_is_load S_is_within (env0 ms_is_load ds N_is_load.length) (endsOf ms_is_load post)) : Cal P w K mg base "is_load" s_is_load (k + 1) ["thing"] ms_is_load S :=
  cal_mk Fu sc_is_load rfl (fun _ _ _ _ _ _ us hl => match us, hl with | [_], _ => rfl) (d_is_load B G_MOST_LOAD C_is_within) hs
abbrev N_check_loads : List Str := ["packs", "index", "load"]
theorem sc_check_loads : FnScope N_check_loads ["packs"] (defScope s_check_loads) := ⟨rfl, rfl, rfl, by decide +kernel, rfl, by decide +kernel, by decide +kernel⟩
def b_check_loads_1 (S_is_row : DSp) (S_is_load : DSp) : SD :=
    sdIf (ttNot (ttB (eCall ms_is_load S_is_load [] (gaVal (eVar 2) (gaNil)))))
    (sdRaise "BadPacks" (eVar 1))
    (sdNil)
def t_check_loads (S_is_row : DSp) (S_is_load : DSp) : SD :=
    sdSeq (sdIf (ttOr (ttNot (ttB (eCall ms_is_row S_is_row [] (gaVal (eVar 0) (gaNil))))) (ttPB (tP2 odGt (tPN odLen (apCons (pVar 0) apNil)) (pC (.int 60)))))
    (sdRaise "BadPacks" (eP (tP1 odNeg (pC (.int 1)))))
    (sdNil))
    (sdFor (itN odEnumA (aCons (eVar 0) (aNil))) (.tu [.nm 1, .nm 2])
    (b_check_loads_1 S_is_row S_is_load))
theorem d_check_loads {P : Program} {w : World} {K : PySem.W.Frag} {mg : MG} {base : Heap} {k : Nat} {S_is_row : DSp} {S_is_load : DSp} (B : Blt mg) (G_MOST_PACKS : GlD mg "MOST_PACKS" (.int 60)) (C_is_row : Cal P w K mg base "is_row" s_is_row k ["thing"] ms_is_row S_is_row) (C_is_load : Cal P w K mg base "is_load" s_is_load k ["thing"] ms_is_load S_is_load) (X_BadPacks : ExcN P w K mg base k "BadPacks") (f : Addr) (cdv : Value) (A : Around) (outer : List Env) (s : Shared) (H : Hp) (E : XK) (hr : Room k (A.deeper (envOfC "check_loads" (defScope s_check_loads) s.heap.objs.size f cdv))) :
    DSs (cxOf (L2N.CX P w) P w K mg base N_check_loads "check_loads" (defScope s_check_loads) f cdv A outer s H E) (defBody s_check_loads) (t_check_loads S_is_row S_is_load) :=
  have hu := hu_of hr
  dss_cons (ds_if ((dt_or (dt_not (dt_val (dc_call C_is_row hr (dg_val (de_var 0) (dg_nil))))) (dt_or1 (dt_cmp (op_gtD) okCmp (pu_len B (pu_var 0)) (pu_gd G_MOST_PACKS) (nomark _)))).dt)
    (dss_one (ds_raiseN rfl X_BadPacks hr (de_pu (pu_neg (pu_int)))))
    (dss_nil))
    (dss_one (ds_for (passes_of rfl) rfl (di_enum B.enumerate (da_cons (de_var 0) (da_nil))) (dgt_tu rfl (dgts_cons (dgt_nm 1 sc_check_loads.nd) (dgts_cons (dgt_nm 2 sc_check_loads.nd) (dgts_nil))))
    (dss_one (ds_if (dt_not (dt_val (dc_call C_is_load hr (dg_val (de_var 2) (dg_nil)))))
    (dss_one (ds_raiseN rfl X_BadPacks hr (de_var 1)))
    (dss_nil)))))
theorem c_check_loads {P : Program} {w : World} {K : PySem.W.Frag} {mg : MG} {base : Heap} {k : Nat} {S_is_row : DSp} {S_is_load : DSp} {S : DSp} (Fu : FunAt K mg "check_loads" s_check_loads) (B : Blt mg) (G_MOST_PACKS : GlD mg "MOST_PACKS" (.int 60)) (C_is_row : Cal P w K mg base "is_row" s_is_row k ["thing"] ms_is_row S_is_row) (C_is_load : Cal P w K mg base "is_load" s_is_load k ["thing"] ms_is_load S_is_load) (X_BadPacks : ExcN P w K mg base k "BadPacks") (hs : ∀ ds post, S ds post → ds.length = ms_check_loads.length → t_check_loads S_is_row S_is_load (env0 ms_check_loads ds N_check_loads.length) (endsOf ms_check_loads post)) : Cal P w K mg base "check_loads" s_check_loads (k + 1) ["packs"] ms_check_loads S :=
  cal_mk Fu sc_check_loads rfl (fun _ _ _ _ _ _ us hl => match us, hl with | [_], _ => rfl) (d_check_loads B G_MOST_PACKS C_is_row C_is_load X_BadPacks) hs
abbrev N_costs_behind : List Str := ["packs", "want", "rows", "live", "dead", "behind", "row", "much", "rest"]
theorem sc_costs_behind : FnScope N_costs_behind ["packs", "want"] (defScope s_costs_behind) := ⟨rfl, rfl, rfl, by decide +kernel, rfl, by decide +kernel, by decide +kernel⟩
def b_costs_behind_1 : SD :=
    sdSeq (sdSet 8 (eIxL 5 (eP (tPN odMax2 (apCons (pC (.int 0)) (apCons (tP2 odSub (pVar 7) (pVar 4)) apNil))))))
    (sdIf (ttAnd (ttPB (tP2 odNotN (pVar 8) (pC .non))) (ttOr (ttPB (tP2 odIsN (tP2 odIx (pVar 6) (pVar 7)) (pC .non))) (ttPB (tP2 odLt (tP2 odAdd (tP2 odAdd (pVar 8) (tP2 odMul (pC (.int 64)) (pVar 3))) (pC (.int 1))) (tP2 odIx (pVar 6) (pVar 7))))))
    (sdSetI 6 (eVar 7) (eP (tP2 odAdd (tP2 odAdd (pVar 8) (tP2 odMul (pC (.int 64)) (pVar 3))) (pC (.int 1)))))
    (sdNil))
def b_costs_behind_2 : SD :=
    sdSeq (sdSet 5 (eIxL 2 (eP (tP1 odNeg (pC (.int 1))))))
    (sdSeq (sdSet 6 (tON odList (aCons (eVar 5) aNil)))
    (sdSeq (sdFor (itN odRng2 (aCons (eP (pC (.int 1))) (aCons (eP (tP2 odAdd (pVar 1) (pC (.int 1)))) (aNil)))) (.nm 7)
    (b_costs_behind_1))
    (sdApp 2 (eVar 6))))
def t_costs_behind : SD :=
    sdSeq (sdSet 2 (tON odLst (aCons (tO2 odAdd (tON odLst (aCons (eP (pC (.int 0))) (aNil))) (eRep (tON odLst (aCons (eP (pC .non)) (aNil))) (eVar 1))) (aNil))))
    (sdSeq (sdFor (itSeq (tO1 odRevT (eVar 0))) (.tu [.nm 3, .nm 4])
    (b_costs_behind_2))
    (sdRet (tO1 odRevT (eVar 2))))
theorem d_costs_behind {P : Program} {w : World} {K : PySem.W.Frag} {mg : MG} {base : Heap} {k : Nat} (B : Blt mg) (G_STEP : GlD mg "STEP" (.int 64)) (f : Addr) (cdv : Value) (A : Around) (outer : List Env) (s : Shared) (H : Hp) (E : XK) (hr : Room k (A.deeper (envOfC "costs_behind" (defScope s_costs_behind) s.heap.objs.size f cdv))) :
    DSs (cxOf (L2N.CX P w) P w K mg base N_costs_behind "costs_behind" (defScope s_costs_behind) f cdv A outer s H E) (defBody s_costs_behind) (t_costs_behind) :=
  have hu := hu_of hr
  dss_cons (ds_set sc_costs_behind.nd (de_lst (da_cons (de_add (de_lst (da_cons (de_pu (pu_int)) (da_nil))) (de_rep (de_lst (da_cons (de_pu (pu_non)) (da_nil))) (de_var 1))) (da_nil))))
    (dss_cons (ds_for (passes_of rfl) rfl (di_seq (de_revA (de_var 0))) (dgt_tu rfl (dgts_cons (dgt_nm 3 sc_costs_behind.nd) (dgts_cons (dgt_nm 4 sc_costs_behind.nd) (dgts_nil))))
    (dss_cons (ds_set sc_costs_behind.nd (de_ixl 2 hu (de_pu (pu_neg (pu_int)))))
    (dss_cons (ds_set sc_costs_behind.nd (de_list rfl B (de_var 5)))
    (dss_cons (ds_for (passes_of rfl) rfl (di_rng2 B.range (da_cons (de_pu (pu_int)) (da_cons (de_pu (pu_add (pu_var 1) (pu_int))) (da_nil)))) (dgt_nm 7 sc_costs_behind.nd)
    (dss_cons (ds_set sc_costs_behind.nd (de_ixl 5 hu (de_pu (pu_max rfl B (pu_int) (pu_sub (pu_var 7) (pu_var 4))))))
    (dss_one (ds_if ((dt_and (dt_cmp (op_notN) okNotN (pu_var 8) (pu_non) (nomark _)) (dt_and1 ((dt_or (dt_cmp (op_isN) okIsN (pu_ix hu (pu_var 6) (pu_var 7)) (pu_non) (nomark _)) (dt_or1 (dt_cmp (op_ltD) okCmp (pu_add (pu_add (pu_var 8) (pu_mul (pu_gd G_STEP) (pu_var 3))) (pu_int)) (pu_ix hu (pu_var 6) (pu_var 7)) (nomark _)))).dt))).dt)
    (dss_one (ds_setI 6 hu (de_pu (pu_add (pu_add (pu_var 8) (pu_mul (pu_gd G_STEP) (pu_var 3))) (pu_int))) (de_var 7)))
    (dss_nil)))))
    (dss_one (ds_append 2 (de_var 6)))))))
    (dss_one (ds_ret (de_revA (de_var 2)))))
theorem c_costs_behind {P : Program} {w : World} {K : PySem.W.Frag} {mg : MG} {base : Heap} {k : Nat} {S : DSp} (Fu : FunAt K mg "costs_behind" s_costs_behind) (B : Blt mg) (G_STEP : GlD mg "STEP" (.int 64)) (hs : ∀ ds post, S ds post → ds.length = ms_costs_behind.length → t_costs_behind (env0 ms_costs_behind ds N_costs_behind.length) (endsOf ms_costs_behind post)) : Cal P w K mg base "costs_behind" s_costs_behind (k + 1) ["packs", "want"] ms_costs_behind S :=
  cal_mk Fu sc_costs_behind rfl (fun _ _ _ _ _ _ us hl => match us, hl with | [_, _], _ => rfl) (d_costs_behind B G_STEP) hs
abbrev N_least_repack : List Str := ["packs", "want", "total", "load", "costs", "found", "much", "index", "live", "dead", "rest"]
theorem sc_least_repack : FnScope N_least_repack ["packs", "want"] (defScope s_least_repack) := ⟨rfl, rfl, rfl, by decide +kernel, rfl, by decide +kernel, by decide +kernel⟩
def e_least_repack_1 (S_check_loads : DSp) (S_is_within : DSp) (S_costs_behind : DSp) : ET :=
    eIxL 3 (eP (pC (.int 1)))
def b_least_repack_1 (S_check_loads : DSp) (S_is_within : DSp) (S_costs_behind : DSp) : SD :=
    sdSeq (sdSet 10 (tO2 odIx (eIxL 4 (eP (tP2 odAdd (pVar 7) (pC (.int 1))))) (eP (tPN odMax2 (apCons (pC (.int 0)) (apCons (tP2 odSub (pVar 6) (pVar 9)) apNil))))))
    (sdIf (ttAnd (ttPB (tP2 odGt (pVar 6) (pC (.int 0)))) (ttAnd (ttPB (tP2 odNotN (pVar 10) (pC .non))) (ttPB (tP2 odEq (tP2 odAdd (tP2 odAdd (pVar 10) (tP2 odMul (pC (.int 64)) (pVar 8))) (pC (.int 1))) (tP2 odIx (tP2 odIx (pVar 4) (pVar 7)) (pVar 6))))))
    (sdSeq (sdApp 5 (eVar 7))
    (sdSet 6 (eP (tPN odMax2 (apCons (pC (.int 0)) (apCons (tP2 odSub (pVar 6) (pVar 9)) apNil))))))
    (sdNil))
def t_least_repack (S_check_loads : DSp) (S_is_within : DSp) (S_costs_behind : DSp) : SD :=
    sdSeq (sdDrop (eCall ms_check_loads S_check_loads [] (gaVal (eVar 0) (gaNil))))
    (sdSeq (sdIf (ttNot (ttB (eCall ms_is_within S_is_within [] (gaVal (eVar 1) (gaVal (eP (pC (.int 0))) (gaVal (eP (pC (.int 5000))) (gaNil)))))))
    (sdRaise "BadMany" (eVar 1))
    (sdNil))
    (sdSeq (sdSet 2 (tON odSum (aCons (eLc (itSeq (eVar 0)) (.nm 3) (ttYes) (e_least_repack_1 S_check_loads S_is_within S_costs_behind) [3]) aNil)))
    (sdSeq (sdIf (ttPB (tP2 odLt (pVar 2) (pVar 1)))
    (sdRaise "NotEnough" (eVar 2))
    (sdNil))
    (sdSeq (sdSet 4 (eCall ms_costs_behind S_costs_behind [] (gaVal (eVar 0) (gaVal (eVar 1) (gaNil)))))
    (sdSeq (sdSet 5 (eNew (.lst []) 1))
    (sdSeq (sdSet 6 (eVar 1))
    (sdSeq (sdFor (itN odEnumA (aCons (eVar 0) (aNil))) (.tu [.nm 7, .tu [.nm 8, .nm 9]])
    (b_least_repack_1 S_check_loads S_is_within S_costs_behind))
    (sdRet (tON odTuple (aCons (eVar 5) aNil))))))))))
theorem d_least_repack {P : Program} {w : World} {K : PySem.W.Frag} {mg : MG} {base : Heap} {k : Nat} {S_check_loads : DSp} {S_is_within : DSp} {S_costs_behind : DSp} (B : Blt mg) (G_MOST_WANT : GlD mg "MOST_WANT" (.int 5000)) (G_STEP : GlD mg "STEP" (.int 64)) (C_check_loads : Cal P w K mg base "check_loads" s_check_loads k ["packs"] ms_check_loads S_check_loads) (C_is_within : Cal P w K mg base "is_within" s_is_within k ["thing", "least", "most"] ms_is_within S_is_within) (C_costs_behind : Cal P w K mg base "costs_behind" s_costs_behind k ["packs", "want"] ms_costs_behind S_costs_behind) (X_BadMany : ExcN P w K mg base k "BadMany") (X_NotEnough : ExcN P w K mg base k "NotEnough") (f : Addr) (cdv : Value) (A : Around) (outer : List Env) (s : Shared) (H : Hp) (E : XK) (hr : Room k (A.deeper (envOfC "least_repack" (defScope s_least_repack) s.heap.objs.size f cdv))) :
    DSs (cxOf (L2N.CX P w) P w K mg base N_least_repack "least_repack" (defScope s_least_repack) f cdv A outer s H E) (defBody s_least_repack) (t_least_repack S_check_loads S_is_within S_costs_behind) :=
  have hu := hu_of hr
  dss_cons (ds_expr (dc_call C_check_loads hr (dg_val (de_var 0) (dg_nil))))
    (dss_cons (ds_if (dt_not (dt_val (dc_call C_is_within hr (dg_val (de_var 1) (dg_val (de_pu (pu_int)) (dg_val (de_pu (pu_gd G_MOST_WANT)) (dg_nil)))))))
    (dss_one (ds_raiseN rfl X_BadMany hr (de_var 1)))
    (dss_nil))
    (dss_cons (ds_set sc_least_repack.nd (de_sumc rfl B (de_lc [(("load" : Str), 3)] rfl sc_least_repack.nd (di_seq (de_var 0)) (blkOk_by (N := N_least_repack) (sc := defScope s_least_repack) (by decide +kernel)) (fun _ _ _ _ _ => dgt_nm 3 sc_least_repack.nd) (fun _ _ _ _ _ => dpts_nil) (fun _ _ _ _ _ => de_ixl 3 hu (de_pu (pu_int))))))
    (dss_cons (ds_if (dt_cmp (op_ltD) okCmp (pu_var 2) (pu_var 1) (nomark _))
    (dss_one (ds_raiseN rfl X_NotEnough hr (de_var 2)))
    (dss_nil))
    (dss_cons (ds_set sc_least_repack.nd (dc_call C_costs_behind hr (dg_val (de_var 0) (dg_val (de_var 1) (dg_nil)))))
    (dss_cons (ds_set sc_least_repack.nd (de_nil 1))
    (dss_cons (ds_set sc_least_repack.nd (de_var 1))
    (dss_cons (ds_for (passes_of rfl) rfl (di_enum B.enumerate (da_cons (de_var 0) (da_nil))) (dgt_tu rfl (dgts_cons (dgt_nm 7 sc_least_repack.nd) (dgts_cons (dgt_tu rfl (dgts_cons (dgt_nm 8 sc_least_repack.nd) (dgts_cons (dgt_nm 9 sc_least_repack.nd) (dgts_nil)))) (dgts_nil))))
    (dss_cons (ds_set sc_least_repack.nd (de_ix hu (de_ixl 4 hu (de_pu (pu_add (pu_var 7) (pu_int)))) (de_pu (pu_max rfl B (pu_int) (pu_sub (pu_var 6) (pu_var 9))))))
    (dss_one (ds_if ((dt_and (dt_cmp (op_gtD) okCmp (pu_var 6) (pu_int) (nomark _)) (dt_and (dt_cmp (op_notN) okNotN (pu_var 10) (pu_non) (nomark _)) (dt_and1 (dt_cmp (op_eqA hr.units) okEq (pu_add (pu_add (pu_var 10) (pu_mul (pu_gd G_STEP) (pu_var 8))) (pu_int)) (pu_ix hu (pu_ix hu (pu_var 4) (pu_var 7)) (pu_var 6)) (nomark _))))).dt)
    (dss_cons (ds_append 5 (de_var 7))
    (dss_one (ds_set sc_least_repack.nd (de_pu (pu_max rfl B (pu_int) (pu_sub (pu_var 6) (pu_var 9)))))))
    (dss_nil)))))
    (dss_one (ds_ret (de_tuple B (de_var 5)))))))))))
theorem c_least_repack {P : Program} {w : World} {K : PySem.W.Frag} {mg : MG} {base : Heap} {k : Nat} {S_check_loads : DSp} {S_is_within : DSp} {S_costs_behind : DSp} {S : DSp} (Fu : FunAt K mg "least_repack" s_least_repack) (B : Blt mg) (G_MOST_WANT : GlD mg "MOST_WANT" (.int 5000)) (G_STEP : GlD mg "STEP" (.int 64)) (C_check_loads : Cal P w K mg base "check_loads" s_check_loads k ["packs"] ms_check_loads S_check_loads) (C_is_within : Cal P w K mg base "is_within" s_is_within k ["thing", "least", "most"] ms_is_within S_is_within) (C_costs_behind : Cal P w K mg base "costs_behind" s_costs_behind k ["packs", "want"] ms_costs_behind S_costs_behind) (X_BadMany : ExcN P w K mg base k "BadMany") (X_NotEnough : ExcN P w K mg base k "NotEnough") (hs : ∀ ds post, S ds post → ds.length = ms_least_repack.length → t_least_repack S_check_loads S_is_within S_costs_behind (env0 ms_least_repack ds N_least_repack.length) (endsOf ms_least_repack post)) : Cal P w K mg base "least_repack" s_least_repack (k + 1) ["packs", "want"] ms_least_repack S :=
  cal_mk Fu sc_least_repack rfl (fun _ _ _ _ _ _ us hl => match us, hl with | [_, _], _ => rfl) (d_least_repack B G_MOST_WANT G_STEP C_check_loads C_is_within C_costs_behind X_BadMany X_NotEnough) hs
abbrev N__law_taken : List Str := ["row", "many", "found", "cell"]
theorem sc__law_taken : FnScope N__law_taken ["row", "many"] (defScope s__law_taken) := ⟨rfl, rfl, rfl, by decide +kernel, rfl, by decide +kernel, by decide +kernel⟩
def t__law_taken : SD :=
    sdSeq (sdIf (ttPB (tP2 odGt (tP2 odIx (pVar 0) (pC (.int 3))) (pC (.int 0))))
    (sdSeq (sdSet 2 (eP (tP2 odMod (tPN odInt (apCons (tP2 odIx (pVar 0) (pC (.int 3))) apNil)) (pVar 1))))
    (sdSeq (sdSetI 0 (eP (pC (.int 3))) (eP (tP2 odDiv (tP2 odIx (pVar 0) (pC (.int 3))) (pVar 1))))
    (sdRetV 2)))
    (sdNil))
    (sdSeq (sdSetI 0 (eP (pC (.int 1))) (eP (tP2 odAdd (tP2 odIx (pVar 0) (pC (.int 1))) (pC (.int 1)))))
    (sdSeq (sdIf (ttPB (tP2 odGt (tP2 odIx (pVar 0) (pC (.int 1))) (tPN odLen (apCons (tP2 odIx (pVar 0) (pC (.int 0))) apNil))))
    (sdSeq (sdSetI 0 (eP (pC (.int 2))) (eP (tP2 odMod (tPN odInt (apCons (tP2 odAdd (tP2 odMul (tP2 odIx (pVar 0) (pC (.int 2))) (pC (.int 48271))) (pC (.int 11))) apNil)) (pC (.int 2147483647)))))
    (sdRet (eP (tP2 odMod (tPN odInt (apCons (tP2 odDiv (tP2 odIx (pVar 0) (pC (.int 2))) (pC (.int 7))) apNil)) (pVar 1)))))
    (sdNil))
    (sdSeq (sdSet 3 (tO2 odIx (eIxL 0 (eP (pC (.int 0)))) (eP (tP2 odSub (tP2 odIx (pVar 0) (pC (.int 1))) (pC (.int 1))))))
    (sdSeq (sdSetI 0 (eP (pC (.int 2))) (eP (tP2 odMod (tPN odInt (apCons (tP2 odAdd (tP2 odAdd (tP2 odMul (tP2 odIx (pVar 0) (pC (.int 2))) (pC (.int 48271))) (pVar 3)) (pC (.int 11))) apNil)) (pC (.int 2147483647)))))
    (sdSeq (sdIf (ttPB (tP2 odGe (pVar 3) (tP2 odPow (pC (.int 10)) (pC (.int 18)))))
    (sdSetI 0 (eP (pC (.int 3))) (eP (tP2 odDiv (pVar 3) (pVar 1))))
    (sdNil))
    (sdRet (eP (tP2 odMod (tPN odInt (apCons (pVar 3) apNil)) (pVar 1)))))))))
theorem d__law_taken {P : Program} {w : World} {K : PySem.W.Frag} {mg : MG} {base : Heap} {k : Nat} (B : Blt mg) (f : Addr) (cdv : Value) (A : Around) (outer : List Env) (s : Shared) (H : Hp) (E : XK) (hr : Room k (A.deeper (envOfC "_law_taken" (defScope s__law_taken) s.heap.objs.size f cdv))) :
    DSs (cxOf (L2N.CX P w) P w K mg base N__law_taken "_law_taken" (defScope s__law_taken) f cdv A outer s H E) (defBody s__law_taken) (t__law_taken) :=
  have hu := hu_of hr
  dss_cons (ds_if (dt_cmp (op_gtD) okCmp (pu_ix hu (pu_var 0) (pu_int)) (pu_int) (nomark _))
    (dss_cons (ds_set sc__law_taken.nd (de_pu (pu_mod (pu_int1 B (pu_ix hu (pu_var 0) (pu_int))) (pu_var 1))))
    (dss_cons (ds_setI 0 hu (de_pu (pu_div (pu_ix hu (pu_var 0) (pu_int)) (pu_var 1))) (de_pu (pu_int)))
    (dss_one (ds_retv 2))))
    (dss_nil))
    (dss_cons (ds_setI 0 hu (de_pu (pu_add (pu_ix hu (pu_var 0) (pu_int)) (pu_int))) (de_pu (pu_int)))
    (dss_cons (ds_if (dt_cmp (op_gtD) okCmp (pu_ix hu (pu_var 0) (pu_int)) (pu_len B (pu_ix hu (pu_var 0) (pu_int))) (nomark _))
    (dss_cons (ds_setI 0 hu (de_pu (pu_mod (pu_int1 B (pu_add (pu_mul (pu_ix hu (pu_var 0) (pu_int)) (pu_int)) (pu_int))) (pu_int))) (de_pu (pu_int)))
    (dss_one (ds_ret (de_pu (pu_mod (pu_int1 B (pu_div (pu_ix hu (pu_var 0) (pu_int)) (pu_int))) (pu_var 1))))))
    (dss_nil))
    (dss_cons (ds_set sc__law_taken.nd (de_ix hu (de_ixl 0 hu (de_pu (pu_int))) (de_pu (pu_sub (pu_ix hu (pu_var 0) (pu_int)) (pu_int)))))
    (dss_cons (ds_setI 0 hu (de_pu (pu_mod (pu_int1 B (pu_add (pu_add (pu_mul (pu_ix hu (pu_var 0) (pu_int)) (pu_int)) (pu_var 3)) (pu_int))) (pu_int))) (de_pu (pu_int)))
    (dss_cons (ds_if (dt_cmp (op_geD) okCmp (pu_var 3) (pu_pow (pu_int) (pu_int)) (nomark _))
    (dss_one (ds_setI 0 hu (de_pu (pu_div (pu_var 3) (pu_var 1))) (de_pu (pu_int))))
    (dss_nil))
    (dss_one (ds_ret (de_pu (pu_mod (pu_int1 B (pu_var 3)) (pu_var 1))))))))))
theorem c__law_taken {P : Program} {w : World} {K : PySem.W.Frag} {mg : MG} {base : Heap} {k : Nat} {S : DSp} (Fu : FunAt K mg "_law_taken" s__law_taken) (B : Blt mg) (hs : ∀ ds post, S ds post → ds.length = ms__law_taken.length → t__law_taken (env0 ms__law_taken ds N__law_taken.length) (endsOf ms__law_taken post)) : Cal P w K mg base "_law_taken" s__law_taken (k + 1) ["row", "many"] ms__law_taken S :=
  cal_mk Fu sc__law_taken rfl (fun _ _ _ _ _ _ us hl => match us, hl with | [_, _], _ => rfl) (d__law_taken B) hs
abbrev N__law_pick : List Str := ["row", "some"]
theorem sc__law_pick : FnScope N__law_pick ["row", "some"] (defScope s__law_pick) := ⟨rfl, rfl, rfl, by decide +kernel, rfl, by decide +kernel, by decide +kernel⟩
def t__law_pick (S__law_taken : DSp) : SD :=
    sdRet (eIxL 1 (eCall ms__law_taken S__law_taken [] (gaIoL 0 (gaVal (eP (tPN odLen (apCons (pVar 1) apNil))) (gaNil)))))
theorem d__law_pick {P : Program} {w : World} {K : PySem.W.Frag} {mg : MG} {base : Heap} {k : Nat} {S__law_taken : DSp} (B : Blt mg) (C__law_taken : Cal P w K mg base "_law_taken" s__law_taken k ["row", "many"] ms__law_taken S__law_taken) (f : Addr) (cdv : Value) (A : Around) (outer : List Env) (s : Shared) (H : Hp) (E : XK) (hr : Room k (A.deeper (envOfC "_law_pick" (defScope s__law_pick) s.heap.objs.size f cdv))) :
    DSs (cxOf (L2N.CX P w) P w K mg base N__law_pick "_law_pick" (defScope s__law_pick) f cdv A outer s H E) (defBody s__law_pick) (t__law_pick S__law_taken) :=
  have hu := hu_of hr
  dss_one (ds_ret (de_ixl 1 hu (dc_call C__law_taken hr (dg_iol 0 (dg_val (de_pu (pu_len B (pu_var 1))) (dg_nil))))))
theorem c__law_pick {P : Program} {w : World} {K : PySem.W.Frag} {mg : MG} {base : Heap} {k : Nat} {S__law_taken : DSp} {S : DSp} (Fu : FunAt K mg "_law_pick" s__law_pick) (B : Blt mg) (C__law_taken : Cal P w K mg base "_law_taken" s__law_taken k ["row", "many"] ms__law_taken S__law_taken) (hs : ∀ ds post, S ds post → ds.length = ms__law_pick.length → t__law_pick S__law_taken (env0 ms__law_pick ds N__law_pick.length) (endsOf ms__law_pick post)) : Cal P w K mg base "_law_pick" s__law_pick (k + 1) ["row", "some"] ms__law_pick S :=
  cal_mk Fu sc__law_pick rfl (fun _ _ _ _ _ _ us hl => match us, hl with | [_, _], _ => rfl) (d__law_pick B C__law_taken) hs
abbrev N__law_alike : List Str := ["found", "due", "k", "key"]
theorem sc__law_alike : FnScope N__law_alike ["found", "due"] (defScope s__law_alike) := ⟨rfl, rfl, rfl, by decide +kernel, rfl, by decide +kernel, by decide +kernel⟩
def q__law_alike_1 (S__law_alike : DSp) : TTd :=
    ttNot (ttB (eCall ms__law_alike S__law_alike [] (gaVal (eIxL 0 (eVar 2)) (gaVal (eIxL 1 (eVar 2)) (gaNil)))))
def q__law_alike_2 (S__law_alike : DSp) : TTd :=
    ttNot (ttB (eCall ms__law_alike S__law_alike [] (gaVal (eIxL 0 (eVar 3)) (gaVal (eIxL 1 (eVar 3)) (gaNil)))))
def t__law_alike (S__law_alike : DSp) : SD :=
    sdSeq (sdIf (ttPB (pIs (pVar 1) [.tuple, .list]))
    (sdSeq (sdIf (ttOr (ttNot (ttPB (pIs (pVar 0) [.tuple, .list]))) (ttPB (tP2 odNe (pIs (pVar 0) [.list]) (pIs (pVar 1) [.list]))))
    (sdRet (eP (pC (.bl false))))
    (sdNil))
    (sdSeq (sdIf (ttPB (tP2 odNe (tPN odLen (apCons (pVar 0) apNil)) (tPN odLen (apCons (pVar 1) apNil))))
    (sdRet (eP (pC (.bl false))))
    (sdNil))
    (sdRet (tO2 odEq (eLc (itN odRng1 (aCons (eP (tPN odLen (apCons (pVar 1) apNil))) (aNil))) (.nm 2) (q__law_alike_1 S__law_alike) (eVar 2) [2]) (eNew (.lst []) 1)))))
    (sdNil))
    (sdSeq (sdIf (ttPB (pIs (pVar 1) [.dict]))
    (sdSeq (sdIf (ttOr (ttNot (ttPB (pIs (pVar 0) [.dict]))) (ttB (tO2 odNe (tON odList (aCons (eVar 0) aNil)) (tON odList (aCons (eVar 1) aNil)))))
    (sdRet (eP (pC (.bl false))))
    (sdNil))
    (sdRet (tO2 odEq (eLcK 1 (.nm 3) (q__law_alike_2 S__law_alike) (eVar 3) [3]) (eNew (.lst []) 1))))
    (sdNil))
    (sdSeq (sdIf (ttOr (ttPB (tP2 odIsN (pVar 1) (pC .non))) (ttPB (pIs (pVar 1) [.str])))
    (sdRet (eAnd (eP (tP2 odEq (pVar 0) (pVar 1))) (eP (tP2 odEq (pIs (pVar 0) [.str]) (pIs (pVar 1) [.str])))))
    (sdNil))
    (sdRet (eAnd (eP (pIs (pVar 0) [.int])) (eAnd (eP (tP2 odEq (pIs (pVar 0) [.bool]) (pIs (pVar 1) [.bool]))) (eP (tP2 odEq (pVar 0) (pVar 1))))))))
theorem d__law_alike {P : Program} {w : World} {K : PySem.W.Frag} {mg : MG} {base : Heap} {k : Nat} {S__law_alike : DSp} (B : Blt mg) (C__law_alike : Cal P w K mg base "_law_alike" s__law_alike k ["found", "due"] ms__law_alike S__law_alike) (f : Addr) (cdv : Value) (A : Around) (outer : List Env) (s : Shared) (H : Hp) (E : XK) (hr : Room k (A.deeper (envOfC "_law_alike" (defScope s__law_alike) s.heap.objs.size f cdv))) :
    DSs (cxOf (L2N.CX P w) P w K mg base N__law_alike "_law_alike" (defScope s__law_alike) f cdv A outer s H E) (defBody s__law_alike) (t__law_alike S__law_alike) :=
  have hu := hu_of hr
  dss_cons (ds_if (dt_pu (pu_isT (pu_var 1) (.cons (kd_tuple B) (.cons (kd_list B) (.nil) rfl) rfl) (show 2 ≤ sizeLine by decide) B.isinstance boot_isinstance))
    (dss_cons (ds_if ((dt_or (dt_not (dt_pu (pu_isT (pu_var 0) (.cons (kd_tuple B) (.cons (kd_list B) (.nil) rfl) rfl) (show 2 ≤ sizeLine by decide) B.isinstance boot_isinstance))) (dt_or1 (dt_cmp (op_neA hr.units) okNe (pu_is (pu_var 0) (kd_list B) B.isinstance boot_isinstance) (pu_is (pu_var 1) (kd_list B) B.isinstance boot_isinstance) (nomark _)))).dt)
    (dss_one (ds_ret (de_pu (pu_bl))))
    (dss_nil))
    (dss_cons (ds_if (dt_cmp (op_neA hr.units) okNe (pu_len B (pu_var 0)) (pu_len B (pu_var 1)) (nomark _))
    (dss_one (ds_ret (de_pu (pu_bl))))
    (dss_nil))
    (dss_one (ds_ret (de_cmp (op_eqA hr.units) okEq (de_lc [(("k" : Str), 2)] rfl sc__law_alike.nd (di_rng1 B.range (da_cons (de_pu (pu_len B (pu_var 1))) (da_nil))) (blkOk_by (N := N__law_alike) (sc := defScope s__law_alike) (by decide +kernel)) (fun _ _ _ _ _ => dgt_nm 2 sc__law_alike.nd) (fun _ _ _ _ _ => dpts_one (dt_not (dt_val (dc_call C__law_alike hr (dg_val (de_ixl 0 hu (de_var 2)) (dg_val (de_ixl 1 hu (de_var 2)) (dg_nil))))))) (fun _ _ _ _ _ => de_var 2)) (de_nil 1) (nomark _))))))
    (dss_nil))
    (dss_cons (ds_if (dt_pu (pu_is (pu_var 1) (kd_dict B) B.isinstance boot_isinstance))
    (dss_cons (ds_if ((dt_or (dt_not (dt_pu (pu_is (pu_var 0) (kd_dict B) B.isinstance boot_isinstance))) (dt_or1 (dt_cmpE (op_neA hr.units) okNe (de_list rfl B (de_var 0)) (de_list rfl B (de_var 1)) (nomark _)))).dt)
    (dss_one (ds_ret (de_pu (pu_bl))))
    (dss_nil))
    (dss_one (ds_ret (de_cmp (op_eqA hr.units) okEq (de_lcK 1 [(("key" : Str), 3)] rfl sc__law_alike.nd (blkOk_by (N := N__law_alike) (sc := defScope s__law_alike) (by decide +kernel)) (fun _ _ _ _ _ => dgt_nm 3 sc__law_alike.nd) (fun _ _ _ _ _ => dpts_one (dt_not (dt_val (dc_call C__law_alike hr (dg_val (de_ixl 0 hu (de_var 3)) (dg_val (de_ixl 1 hu (de_var 3)) (dg_nil))))))) (fun _ _ _ _ _ => de_var 3)) (de_nil 1) (nomark _)))))
    (dss_nil))
    (dss_cons (ds_if ((dt_or (dt_cmp (op_isN) okIsN (pu_var 1) (pu_non) (nomark _)) (dt_or1 (dt_pu (pu_is (pu_var 1) (kd_str B) B.isinstance boot_isinstance)))).dt)
    (dss_one (ds_ret (de_and (de_pu (pu_cmp (op_eqA hr.units) okEq (pu_var 0) (pu_var 1) (nomark _))) (de_one (de_pu (pu_cmp (op_eqA hr.units) okEq (pu_is (pu_var 0) (kd_str B) B.isinstance boot_isinstance) (pu_is (pu_var 1) (kd_str B) B.isinstance boot_isinstance) (nomark _)))))))
    (dss_nil))
    (dss_one (ds_ret (de_and (de_pu (pu_is (pu_var 0) (kd_int B) B.isinstance boot_isinstance)) (de_and (de_pu (pu_cmp (op_eqA hr.units) okEq (pu_is (pu_var 0) (kd_bool B) B.isinstance boot_isinstance) (pu_is (pu_var 1) (kd_bool B) B.isinstance boot_isinstance) (nomark _))) (de_one (de_pu (pu_cmp (op_eqA hr.units) okEq (pu_var 0) (pu_var 1) (nomark _))))))))))
theorem c__law_alike {P : Program} {w : World} {K : PySem.W.Frag} {mg : MG} {base : Heap} {k : Nat} {S__law_alike : DSp} {S : DSp} (Fu : FunAt K mg "_law_alike" s__law_alike) (B : Blt mg) (C__law_alike : Cal P w K mg base "_law_alike" s__law_alike k ["found", "due"] ms__law_alike S__law_alike) (hs : ∀ ds post, S ds post → ds.length = ms__law_alike.length → t__law_alike S__law_alike (env0 ms__law_alike ds N__law_alike.length) (endsOf ms__law_alike post)) : Cal P w K mg base "_law_alike" s__law_alike (k + 1) ["found", "due"] ms__law_alike S :=
  cal_mk Fu sc__law_alike rfl (fun _ _ _ _ _ _ us hl => match us, hl with | [_, _], _ => rfl) (d__law_alike B C__law_alike) hs
abbrev N__law_best : List Str := ["packs", "want", "best", "back", "at", "live", "dead", "row", "much", "rest", "one"]
theorem sc__law_best : FnScope N__law_best ["packs", "want"] (defScope s__law_best) := ⟨rfl, rfl, rfl, by decide +kernel, rfl, by decide +kernel, by decide +kernel⟩
def b__law_best_1 : SD :=
    sdSeq (sdSet 9 (eIxL 2 (eP (tPN odMax2 (apCons (pC (.int 0)) (apCons (tP2 odSub (pVar 8) (pVar 6)) apNil))))))
    (sdIf (ttAnd (ttPB (tP2 odGt (pVar 6) (pC (.int 0)))) (ttPB (tP2 odNotN (pVar 9) (pC .non))))
    (sdSeq (sdSet 10 (tON odTup (aCons (tO2 odAdd (eIxL 9 (eP (pC (.int 0)))) (eVar 5)) (aCons (eP (tP2 odAdd (tP2 odIx (pVar 9) (pC (.int 1))) (pC (.int 1)))) (aCons (tO2 odAdd (tON odTup (aCons (eVar 4) (aNil))) (eIxL 9 (eP (pC (.int 2))))) (aNil))))))
    (sdIf (ttOr (ttPB (tP2 odIsN (tP2 odIx (pVar 7) (pVar 8)) (pC .non))) (ttPB (tP2 odLtDat (pVar 10) (tP2 odIx (pVar 7) (pVar 8)))))
    (sdSetI 7 (eVar 8) (eVar 10))
    (sdNil)))
    (sdNil))
def b__law_best_2 : SD :=
    sdSeq (sdSet 4 (eP (tP2 odSub (tP2 odSub (tPN odLen (apCons (pVar 0) apNil)) (pC (.int 1))) (pVar 3))))
    (sdSeq (sdAsg (.tu [.nm 5, .nm 6]) (eIxL 0 (eVar 4)))
    (sdSeq (sdSet 7 (tON odList (aCons (eVar 2) aNil)))
    (sdSeq (sdFor (itN odRng2 (aCons (eP (pC (.int 1))) (aCons (eP (tP2 odAdd (pVar 1) (pC (.int 1)))) (aNil)))) (.nm 8)
    (b__law_best_1))
    (sdSet 2 (eVar 7)))))
def t__law_best : SD :=
    sdSeq (sdSet 2 (tO2 odAdd (tON odLst (aCons (tON odTup (aCons (eP (pC (.int 0))) (aCons (eP (pC (.int 0))) (aCons (tON odTup (aNil)) (aNil))))) (aNil))) (eRep (tON odLst (aCons (eP (pC .non)) (aNil))) (eVar 1))))
    (sdSeq (sdFor (itN odRng1 (aCons (eP (tPN odLen (apCons (pVar 0) apNil))) (aNil))) (.nm 3)
    (b__law_best_2))
    (sdRet (eIxL 2 (eVar 1))))
theorem d__law_best {P : Program} {w : World} {K : PySem.W.Frag} {mg : MG} {base : Heap} {k : Nat} (B : Blt mg) (f : Addr) (cdv : Value) (A : Around) (outer : List Env) (s : Shared) (H : Hp) (E : XK) (hr : Room k (A.deeper (envOfC "_law_best" (defScope s__law_best) s.heap.objs.size f cdv))) :
    DSs (cxOf (L2N.CX P w) P w K mg base N__law_best "_law_best" (defScope s__law_best) f cdv A outer s H E) (defBody s__law_best) (t__law_best) :=
  have hu := hu_of hr
  dss_cons (ds_set sc__law_best.nd (de_add (de_lst (da_cons (de_tup (da_cons (de_pu (pu_int)) (da_cons (de_pu (pu_int)) (da_cons (de_tup (da_nil)) (da_nil))))) (da_nil))) (de_rep (de_lst (da_cons (de_pu (pu_non)) (da_nil))) (de_var 1))))
    (dss_cons (ds_for (passes_of rfl) rfl (di_rng1 B.range (da_cons (de_pu (pu_len B (pu_var 0))) (da_nil))) (dgt_nm 3 sc__law_best.nd)
    (dss_cons (ds_set sc__law_best.nd (de_pu (pu_sub (pu_sub (pu_len B (pu_var 0)) (pu_int)) (pu_var 3))))
    (dss_cons (ds_asg (de_ixl 0 hu (de_var 4)) (dgt_tu rfl (dgts_cons (dgt_nm 5 sc__law_best.nd) (dgts_cons (dgt_nm 6 sc__law_best.nd) (dgts_nil)))))
    (dss_cons (ds_set sc__law_best.nd (de_list rfl B (de_var 2)))
    (dss_cons (ds_for (passes_of rfl) rfl (di_rng2 B.range (da_cons (de_pu (pu_int)) (da_cons (de_pu (pu_add (pu_var 1) (pu_int))) (da_nil)))) (dgt_nm 8 sc__law_best.nd)
    (dss_cons (ds_set sc__law_best.nd (de_ixl 2 hu (de_pu (pu_max rfl B (pu_int) (pu_sub (pu_var 8) (pu_var 6))))))
    (dss_one (ds_if ((dt_and (dt_cmp (op_gtD) okCmp (pu_var 6) (pu_int) (nomark _)) (dt_and1 (dt_cmp (op_notN) okNotN (pu_var 9) (pu_non) (nomark _)))).dt)
    (dss_cons (ds_set sc__law_best.nd (de_tup (da_cons (de_add (de_ixl 9 hu (de_pu (pu_int))) (de_var 5)) (da_cons (de_pu (pu_add (pu_ix hu (pu_var 9) (pu_int)) (pu_int))) (da_cons (de_add (de_tup (da_cons (de_var 4) (da_nil))) (de_ixl 9 hu (de_pu (pu_int)))) (da_nil))))))
    (dss_one (ds_if ((dt_or (dt_cmp (op_isN) okIsN (pu_ix hu (pu_var 7) (pu_var 8)) (pu_non) (nomark _)) (dt_or1 (dt_cmp (op_ltDat hr.units) okLtDat (pu_var 10) (pu_ix hu (pu_var 7) (pu_var 8)) (nomark _)))).dt)
    (dss_one (ds_setI 7 hu (de_var 10) (de_var 8)))
    (dss_nil))))
    (dss_nil)))))
    (dss_one (ds_set sc__law_best.nd (de_var 7))))))))
    (dss_one (ds_ret (de_ixl 2 hu (de_var 1)))))
theorem c__law_best {P : Program} {w : World} {K : PySem.W.Frag} {mg : MG} {base : Heap} {k : Nat} {S : DSp} (Fu : FunAt K mg "_law_best" s__law_best) (B : Blt mg) (hs : ∀ ds post, S ds post → ds.length = ms__law_best.length → t__law_best (env0 ms__law_best ds N__law_best.length) (endsOf ms__law_best post)) : Cal P w K mg base "_law_best" s__law_best (k + 1) ["packs", "want"] ms__law_best S :=
  cal_mk Fu sc__law_best rfl (fun _ _ _ _ _ _ us hl => match us, hl with | [_, _], _ => rfl) (d__law_best B) hs
abbrev N__law_choices : List Str := ["packs", "want", "best", "mask", "some", "at", "one"]
theorem sc__law_choices : FnScope N__law_choices ["packs", "want"] (defScope s__law_choices) := ⟨rfl, rfl, rfl, by decide +kernel, rfl, by decide +kernel, by decide +kernel⟩
def q__law_choices_1 : TTd :=
    ttPB (tP2 odEq (tP2 odMod (tPN odInt (apCons (tP2 odShr (pVar 3) (pVar 5)) apNil)) (pC (.int 2))) (pC (.int 1)))
def e__law_choices_1 : ET :=
    tO2 odIx (eIxL 0 (eVar 5)) (eP (pC (.int 1)))
def e__law_choices_2 : ET :=
    tO2 odIx (eIxL 0 (eVar 5)) (eP (pC (.int 0)))
def b__law_choices_1 : SD :=
    sdIf (ttPB (tP2 odLt (pVar 3) (tP2 odShl (pC (.int 1)) (tPN odLen (apCons (pVar 0) apNil)))))
    (sdSeq (sdSet 4 (tON odTuple (aCons (eLc (itN odRng1 (aCons (eP (tPN odLen (apCons (pVar 0) apNil))) (aNil))) (.nm 5) (q__law_choices_1) (eVar 5) [5]) aNil)))
    (sdIf (ttB (tO2 odGe (tON odSum (aCons (eLc (itSeq (eVar 4)) (.nm 5) (ttYes) (e__law_choices_1) [5]) aNil)) (eVar 1)))
    (sdSeq (sdSet 6 (tON odTup (aCons (tON odSum (aCons (eLc (itSeq (eVar 4)) (.nm 5) (ttYes) (e__law_choices_2) [5]) aNil)) (aCons (eP (tPN odLen (apCons (pVar 4) apNil))) (aCons (eVar 4) (aNil))))))
    (sdSet 2 (eIf (ttOr (ttPB (tP2 odIsN (pVar 2) (pC .non))) (ttPB (tP2 odLtDat (pVar 6) (pVar 2)))) (eVar 6) (eVar 2))))
    (sdNil)))
    (sdNil)
def t__law_choices : SD :=
    sdSeq (sdSet 2 (eP (pC .non)))
    (sdSeq (sdFor (itN odRng1 (aCons (eP (tP2 odPow (pC (.int 2)) (pC (.int 9)))) (aNil))) (.nm 3)
    (b__law_choices_1))
    (sdRetV 2))
theorem d__law_choices {P : Program} {w : World} {K : PySem.W.Frag} {mg : MG} {base : Heap} {k : Nat} (B : Blt mg) (f : Addr) (cdv : Value) (A : Around) (outer : List Env) (s : Shared) (H : Hp) (E : XK) (hr : Room k (A.deeper (envOfC "_law_choices" (defScope s__law_choices) s.heap.objs.size f cdv))) :
    DSs (cxOf (L2N.CX P w) P w K mg base N__law_choices "_law_choices" (defScope s__law_choices) f cdv A outer s H E) (defBody s__law_choices) (t__law_choices) :=
  have hu := hu_of hr
  dss_cons (ds_set sc__law_choices.nd (de_pu (pu_non)))
    (dss_cons (ds_for (passes_of rfl) rfl (di_rng1 B.range (da_cons (de_pu (pu_pow (pu_int) (pu_int))) (da_nil))) (dgt_nm 3 sc__law_choices.nd)
    (dss_one (ds_if (dt_cmp (op_ltD) okCmp (pu_var 3) (pu_shl (pu_int) (pu_len B (pu_var 0))) (nomark _))
    (dss_cons (ds_set sc__law_choices.nd (de_tuple B (de_lc [(("at" : Str), 5)] rfl sc__law_choices.nd (di_rng1 B.range (da_cons (de_pu (pu_len B (pu_var 0))) (da_nil))) (blkOk_by (N := N__law_choices) (sc := defScope s__law_choices) (by decide +kernel)) (fun _ _ _ _ _ => dgt_nm 5 sc__law_choices.nd) (fun _ _ _ _ _ => dpts_one (dt_cmp (op_eqA hr.units) okEq (pu_mod (pu_int1 B (pu_shr (pu_var 3) (pu_var 5))) (pu_int)) (pu_int) (nomark _))) (fun _ _ _ _ _ => de_var 5))))
    (dss_one (ds_if (dt_cmpE (op_geD) okCmp (de_sumc rfl B (de_lc [(("at" : Str), 5)] rfl sc__law_choices.nd (di_seq (de_var 4)) (blkOk_by (N := N__law_choices) (sc := defScope s__law_choices) (by decide +kernel)) (fun _ _ _ _ _ => dgt_nm 5 sc__law_choices.nd) (fun _ _ _ _ _ => dpts_nil) (fun _ _ _ _ _ => de_ix hu (de_ixl 0 hu (de_var 5)) (de_pu (pu_int))))) (de_var 1) (nomark _))
    (dss_cons (ds_set sc__law_choices.nd (de_tup (da_cons (de_sumc rfl B (de_lc [(("at" : Str), 5)] rfl sc__law_choices.nd (di_seq (de_var 4)) (blkOk_by (N := N__law_choices) (sc := defScope s__law_choices) (by decide +kernel)) (fun _ _ _ _ _ => dgt_nm 5 sc__law_choices.nd) (fun _ _ _ _ _ => dpts_nil) (fun _ _ _ _ _ => de_ix hu (de_ixl 0 hu (de_var 5)) (de_pu (pu_int))))) (da_cons (de_pu (pu_len B (pu_var 4))) (da_cons (de_var 4) (da_nil))))))
    (dss_one (ds_set sc__law_choices.nd (de_ifExp ((dt_or (dt_cmp (op_isN) okIsN (pu_var 2) (pu_non) (nomark _)) (dt_or1 (dt_cmp (op_ltDat hr.units) okLtDat (pu_var 6) (pu_var 2) (nomark _)))).dt) (de_var 6) (de_var 2)))))
    (dss_nil))))
    (dss_nil))))
    (dss_one (ds_retv 2)))
theorem c__law_choices {P : Program} {w : World} {K : PySem.W.Frag} {mg : MG} {base : Heap} {k : Nat} {S : DSp} (Fu : FunAt K mg "_law_choices" s__law_choices) (B : Blt mg) (hs : ∀ ds post, S ds post → ds.length = ms__law_choices.length → t__law_choices (env0 ms__law_choices ds N__law_choices.length) (endsOf ms__law_choices post)) : Cal P w K mg base "_law_choices" s__law_choices (k + 1) ["packs", "want"] ms__law_choices S :=
  cal_mk Fu sc__law_choices rfl (fun _ _ _ _ _ _ us hl => match us, hl with | [_, _], _ => rfl) (d__law_choices B) hs
abbrev N__law_packs : List Str := ["row", "many", "most", "few", "k", "found", "way"]
theorem sc__law_packs : FnScope N__law_packs ["row", "many", "most"] (defScope s__law_packs) := ⟨rfl, rfl, rfl, by decide +kernel, rfl, by decide +kernel, by decide +kernel⟩
def e__law_packs_1 (S__law_taken : DSp) (S__law_pick : DSp) : ET :=
    tON odTup (aCons (eCall ms__law_taken S__law_taken [] (gaIoL 0 (gaVal (eP (tP2 odAdd (pVar 2) (pC (.int 1)))) (gaNil)))) (aCons (eCall ms__law_taken S__law_taken [] (gaIoL 0 (gaVal (eP (tP2 odAdd (pVar 2) (pC (.int 1)))) (gaNil)))) (aNil)))
def b__law_packs_1 (S__law_taken : DSp) (S__law_pick : DSp) : SD :=
    sdSeq (sdSet 6 (eCall ms__law_taken S__law_taken [] (gaIoL 0 (gaVal (eP (pC (.int 6))) (gaNil)))))
    (sdIf (ttPB (tP2 odEq (pVar 6) (pC (.int 0))))
    (sdApp 5 (eCall ms__law_pick S__law_pick [] (gaIoL 0 (gaVal (eVar 3) (gaNil)))))
    (sdIf (ttPB (tP2 odEq (pVar 6) (pC (.int 1))))
    (sdApp 5 (tON odTup (aCons (eP (pC (.int 0))) (aCons (eCall ms__law_taken S__law_taken [] (gaIoL 0 (gaVal (eP (tP2 odAdd (pVar 2) (pC (.int 1)))) (gaNil)))) (aNil)))))
    (sdIf (ttPB (tP2 odEq (pVar 6) (pC (.int 2))))
    (sdApp 5 (tON odTup (aCons (eCall ms__law_taken S__law_taken [] (gaIoL 0 (gaVal (eP (tP2 odAdd (pVar 2) (pC (.int 1)))) (gaNil)))) (aCons (eP (pC (.int 0))) (aNil)))))
    (sdApp 5 (tON odTup (aCons (eCall ms__law_taken S__law_taken [] (gaIoL 0 (gaVal (eP (tP2 odAdd (pVar 2) (pC (.int 1)))) (gaNil)))) (aCons (eCall ms__law_taken S__law_taken [] (gaIoL 0 (gaVal (eP (tP2 odAdd (pVar 2) (pC (.int 1)))) (gaNil)))) (aNil))))))))
def t__law_packs (S__law_taken : DSp) (S__law_pick : DSp) : SD :=
    sdSeq (sdSet 3 (eLc (itN odRng1 (aCons (eP (pC (.int 2))) (aNil))) (.nm 4) (ttYes) (e__law_packs_1 S__law_taken S__law_pick) [4]))
    (sdSeq (sdSet 5 (eNew (.lst []) 1))
    (sdSeq (sdFor (itN odRng1 (aCons (eVar 1) (aNil))) (.nm 4)
    (b__law_packs_1 S__law_taken S__law_pick))
    (sdRetV 5)))
theorem d__law_packs {P : Program} {w : World} {K : PySem.W.Frag} {mg : MG} {base : Heap} {k : Nat} {S__law_taken : DSp} {S__law_pick : DSp} (B : Blt mg) (C__law_taken : Cal P w K mg base "_law_taken" s__law_taken k ["row", "many"] ms__law_taken S__law_taken) (C__law_pick : Cal P w K mg base "_law_pick" s__law_pick k ["row", "some"] ms__law_pick S__law_pick) (f : Addr) (cdv : Value) (A : Around) (outer : List Env) (s : Shared) (H : Hp) (E : XK) (hr : Room k (A.deeper (envOfC "_law_packs" (defScope s__law_packs) s.heap.objs.size f cdv))) :
    DSs (cxOf (L2N.CX P w) P w K mg base N__law_packs "_law_packs" (defScope s__law_packs) f cdv A outer s H E) (defBody s__law_packs) (t__law_packs S__law_taken S__law_pick) :=
  have hu := hu_of hr
  dss_cons (ds_setLc [(("k" : Str), 4)] rfl sc__law_packs.nd (di_rng1 B.range (da_cons (de_pu (pu_int)) (da_nil))) (blkOk_by (N := N__law_packs) (sc := defScope s__law_packs) (by decide +kernel)) (fun _ _ _ _ _ => dgt_nm 4 sc__law_packs.nd) (fun _ _ _ _ _ => dpts_nil) (fun _ _ _ _ _ => de_tup (da_cons (dc_call C__law_taken hr (dg_iol 0 (dg_val (de_pu (pu_add (pu_var 2) (pu_int))) (dg_nil)))) (da_cons (dc_call C__law_taken hr (dg_iol 0 (dg_val (de_pu (pu_add (pu_var 2) (pu_int))) (dg_nil)))) (da_nil)))) rfl)
    (dss_cons (ds_set sc__law_packs.nd (de_nil 1))
    (dss_cons (ds_for (passes_of rfl) rfl (di_rng1 B.range (da_cons (de_var 1) (da_nil))) (dgt_nm 4 sc__law_packs.nd)
    (dss_cons (ds_set sc__law_packs.nd (dc_call C__law_taken hr (dg_iol 0 (dg_val (de_pu (pu_int)) (dg_nil)))))
    (dss_one (ds_if (dt_cmp (op_eqA hr.units) okEq (pu_var 6) (pu_int) (nomark _))
    (dss_one (ds_append 5 (dc_call C__law_pick hr (dg_iol 0 (dg_val (de_var 3) (dg_nil))))))
    (dss_one (ds_if (dt_cmp (op_eqA hr.units) okEq (pu_var 6) (pu_int) (nomark _))
    (dss_one (ds_append 5 (de_tup (da_cons (de_pu (pu_int)) (da_cons (dc_call C__law_taken hr (dg_iol 0 (dg_val (de_pu (pu_add (pu_var 2) (pu_int))) (dg_nil)))) (da_nil))))))
    (dss_one (ds_if (dt_cmp (op_eqA hr.units) okEq (pu_var 6) (pu_int) (nomark _))
    (dss_one (ds_append 5 (de_tup (da_cons (dc_call C__law_taken hr (dg_iol 0 (dg_val (de_pu (pu_add (pu_var 2) (pu_int))) (dg_nil)))) (da_cons (de_pu (pu_int)) (da_nil))))))
    (dss_one (ds_append 5 (de_tup (da_cons (dc_call C__law_taken hr (dg_iol 0 (dg_val (de_pu (pu_add (pu_var 2) (pu_int))) (dg_nil)))) (da_cons (dc_call C__law_taken hr (dg_iol 0 (dg_val (de_pu (pu_add (pu_var 2) (pu_int))) (dg_nil)))) (da_nil))))))))))))))
    (dss_one (ds_retv 5))))
theorem c__law_packs {P : Program} {w : World} {K : PySem.W.Frag} {mg : MG} {base : Heap} {k : Nat} {S__law_taken : DSp} {S__law_pick : DSp} {S : DSp} (Fu : FunAt K mg "_law_packs" s__law_packs) (B : Blt mg) (C__law_taken : Cal P w K mg base "_law_taken" s__law_taken k ["row", "many"] ms__law_taken S__law_taken) (C__law_pick : Cal P w K mg base "_law_pick" s__law_pick k ["row", "some"] ms__law_pick S__law_pick) (hs : ∀ ds post, S ds post → ds.length = ms__law_packs.length → t__law_packs S__law_taken S__law_pick (env0 ms__law_packs ds N__law_packs.length) (endsOf ms__law_packs post)) : Cal P w K mg base "_law_packs" s__law_packs (k + 1) ["row", "many", "most"] ms__law_packs S :=
  cal_mk Fu sc__law_packs rfl (fun _ _ _ _ _ _ us hl => match us, hl with | [_, _, _], _ => rfl) (d__law_packs B C__law_taken C__law_pick) hs
abbrev N__law_right : List Str := ["packs", "want", "due", "held"]
theorem sc__law_right : FnScope N__law_right ["packs", "want", "due"] (defScope s__law_right) := ⟨rfl, rfl, rfl, by decide +kernel, rfl, by decide +kernel, by decide +kernel⟩
def t__law_right (S__law_alike : DSp) (S_least_repack : DSp) : SD :=
    sdSeq (sdSet 3 (tON odList (aCons (eVar 0) aNil)))
    (sdSeq (sdIf (ttOr (ttNot (ttB (eCall ms__law_alike S__law_alike [] (gaVal (eCall ms_least_repack S_least_repack [] (gaVal (eVar 0) (gaVal (eVar 1) (gaNil)))) (gaVal (eVar 2) (gaNil)))))) (ttPB (tP2 odNe (pVar 0) (pVar 3))))
    (sdRet (eP (pC (.bl false))))
    (sdNil))
    (sdRet (eCall ms__law_alike S__law_alike [] (gaVal (eCallSw ms_least_repack S_least_repack (gaVal (eVar 1) (gaVal (tON odTuple (aCons (eVar 0) aNil)) (gaNil)))) (gaVal (eVar 2) (gaNil))))))
theorem d__law_right {P : Program} {w : World} {K : PySem.W.Frag} {mg : MG} {base : Heap} {k : Nat} {S__law_alike : DSp} {S_least_repack : DSp} (B : Blt mg) (C__law_alike : Cal P w K mg base "_law_alike" s__law_alike k ["found", "due"] ms__law_alike S__law_alike) (C_least_repack : Cal P w K mg base "least_repack" s_least_repack k ["packs", "want"] ms_least_repack S_least_repack) (f : Addr) (cdv : Value) (A : Around) (outer : List Env) (s : Shared) (H : Hp) (E : XK) (hr : Room k (A.deeper (envOfC "_law_right" (defScope s__law_right) s.heap.objs.size f cdv))) :
    DSs (cxOf (L2N.CX P w) P w K mg base N__law_right "_law_right" (defScope s__law_right) f cdv A outer s H E) (defBody s__law_right) (t__law_right S__law_alike S_least_repack) :=
  have hu := hu_of hr
  dss_cons (ds_set sc__law_right.nd (de_list rfl B (de_var 0)))
    (dss_cons (ds_if ((dt_or (dt_not (dt_val (dc_call C__law_alike hr (dg_val (dc_call C_least_repack hr (dg_val (de_var 0) (dg_val (de_var 1) (dg_nil)))) (dg_val (de_var 2) (dg_nil)))))) (dt_or1 (dt_cmp (op_neA hr.units) okNe (pu_var 0) (pu_var 3) (nomark _)))).dt)
    (dss_one (ds_ret (de_pu (pu_bl))))
    (dss_nil))
    (dss_one (ds_ret (dc_call C__law_alike hr (dg_val (dc_sw C_least_repack hr (dgk_val (de_var 1) (dgk_val (de_tuple B (de_var 0)) (dgk_nil))) (fun _ _ _ _ _ _ _ _ => rfl) rfl) (dg_val (de_var 2) (dg_nil)))))))
theorem c__law_right {P : Program} {w : World} {K : PySem.W.Frag} {mg : MG} {base : Heap} {k : Nat} {S__law_alike : DSp} {S_least_repack : DSp} {S : DSp} (Fu : FunAt K mg "_law_right" s__law_right) (B : Blt mg) (C__law_alike : Cal P w K mg base "_law_alike" s__law_alike k ["found", "due"] ms__law_alike S__law_alike) (C_least_repack : Cal P w K mg base "least_repack" s_least_repack k ["packs", "want"] ms_least_repack S_least_repack) (hs : ∀ ds post, S ds post → ds.length = ms__law_right.length → t__law_right S__law_alike S_least_repack (env0 ms__law_right ds N__law_right.length) (endsOf ms__law_right post)) : Cal P w K mg base "_law_right" s__law_right (k + 1) ["packs", "want", "due"] ms__law_right S :=
  cal_mk Fu sc__law_right rfl (fun _ _ _ _ _ _ us hl => match us, hl with | [_, _, _], _ => rfl) (d__law_right B C__law_alike C_least_repack) hs
variable [Tbs]
abbrev N__law_heard : List Str := ["ask", "e"]
theorem sc__law_heard : FnScope N__law_heard ["ask"] (defScope s__law_heard) := ⟨rfl, rfl, rfl, by decide +kernel, rfl, by decide +kernel, by decide +kernel⟩
def L__law_heard : List DH :=
    ("BadMany", 1, fun a d y => sdRet (tON odTup (aCons (eP (pC (.str ("many" : Str)))) (aCons (eXf 1 a d "value") (aCons (eP (pXis 1 a d (kin y.cls "HouseError"))) (aCons (eP (pXis 1 a d (obAny kin y.cls [("BadPacks" : Str), ("NotEnough" : Str)]))) (aNil))))))) :: ("BadPacks", 1, fun a d y => sdRet (tON odTup (aCons (eP (pC (.str ("packs" : Str)))) (aCons (eXf 1 a d "value") (aCons (eP (pXis 1 a d (kin y.cls "HouseError"))) (aCons (eP (pXis 1 a d (obAny kin y.cls [("BadMany" : Str), ("NotEnough" : Str)]))) (aNil))))))) :: ("NotEnough", 1, fun a d y => sdRet (tON odTup (aCons (eP (pC (.str ("enough" : Str)))) (aCons (eXf 1 a d "value") (aCons (eP (pXis 1 a d (kin y.cls "HouseError"))) (aCons (eP (pXis 1 a d (obAny kin y.cls [("BadMany" : Str), ("BadPacks" : Str)]))) (aNil))))))) :: []
def tr__law_heard : SD :=
    sdRet (tON odTup (aNil))
theorem hx__law_heard {X : Cx} {k : Nat} {params : Arguments} {body : Expr} {scope : Scope} {tb : ET} {fs ks : List Nat} {p lpos pos : Pos} (B : Blt X.mg) (Kn : KinOk X.K X.mg kin) (M_NotEnough : ClsAt X.mg "NotEnough") (M_HouseError : ClsAt X.mg "HouseError") (M_BadPacks : ClsAt X.mg "BadPacks") (M_BadMany : ClsAt X.mg "BadMany") (Fu : FunAt X.K X.mg "_law_heard" s__law_heard) (LO : LamOk X) (hr : Room (k + 2) X.A)
    (hbody : ∀ (A : Around) (outer : List Env) (s : Shared) (H : Hp) (E : XK) (f c' : Addr), Room k (A.deeper (LamX.lamEnv X scope s.heap.objs.size f c')) → DE (lamN X A outer s H E scope f c') body tb)
    (hL : LamX.lamSB X.env.scope scope = true) (hdef : defaultsOf params X.env = ([], [])) (hbind : ∀ (q : Str) (cl : List (Str × Addr)) (pm cv ctv : Value), bindArgs (PySem.W.kla_fn "<lambda>" q params body scope cl pm cv ctv) ⟨[], []⟩ = pure []) (hg : Gl X "_law_heard" := by rfl) :
    DE X (.Call (.Name "_law_heard" p) [.Lambda params body scope lpos] [] pos) (eLam kin L__law_heard tr__law_heard 2 fs ks tb) :=
  de_heard (X := X) (x := "_law_heard") (st := s__law_heard) (Ng := N__law_heard) (a := "ask") rfl (fun g cdg s H => ⟨hde_cons (i := 1) Kn M_BadMany sc__law_heard.nd (fun a oe C d pn y hz hf hm hk => dss_one (ds_ret (de_tup (da_cons (de_pu (pu_str)) (da_cons (de_xfK 1 Kn hz hf hm hk) (da_cons (de_pu (pu_xisK 1 Kn hz hf hm hk M_HouseError B.isinstance)) (da_cons (de_pu (pu_xisT 1 Kn hz hf hm hk (.cons (by rfl) M_BadPacks (by decide) (by rfl) (.cons (by rfl) M_NotEnough (by decide) (by rfl) (.nil))) B.isinstance (show 2 ≤ sizeLine by decide))) (da_nil)))))))) (hde_cons (i := 1) Kn M_BadPacks sc__law_heard.nd (fun a oe C d pn y hz hf hm hk => dss_one (ds_ret (de_tup (da_cons (de_pu (pu_str)) (da_cons (de_xfK 1 Kn hz hf hm hk) (da_cons (de_pu (pu_xisK 1 Kn hz hf hm hk M_HouseError B.isinstance)) (da_cons (de_pu (pu_xisT 1 Kn hz hf hm hk (.cons (by rfl) M_BadMany (by decide) (by rfl) (.cons (by rfl) M_NotEnough (by decide) (by rfl) (.nil))) B.isinstance (show 2 ≤ sizeLine by decide))) (da_nil)))))))) (hde_cons (i := 1) Kn M_NotEnough sc__law_heard.nd (fun a oe C d pn y hz hf hm hk => dss_one (ds_ret (de_tup (da_cons (de_pu (pu_str)) (da_cons (de_xfK 1 Kn hz hf hm hk) (da_cons (de_pu (pu_xisK 1 Kn hz hf hm hk M_HouseError B.isinstance)) (da_cons (de_pu (pu_xisT 1 Kn hz hf hm hk (.cons (by rfl) M_BadMany (by decide) (by rfl) (.cons (by rfl) M_BadPacks (by decide) (by rfl) (.nil))) B.isinstance (show 2 ≤ sizeLine by decide))) (da_nil)))))))) (hde_nil))), dss_one (ds_ret (de_tup (da_nil)))⟩) Fu sc__law_heard rfl (.inl rfl) (fun _ _ _ _ _ _ us hl => match us, hl with | [_], _ => rfl) LO hr hL hdef hbind hbody (fun _ _ _ _ _ _ _ _ _ => rfl) hg
abbrev N__law_bad : List Str := ["row", "packs", "at", "bad", "some", "strange", "thing"]
theorem sc__law_bad : FnScope N__law_bad ["row", "packs"] (defScope s__law_bad) := ⟨rfl, rfl, rfl, by decide +kernel, rfl, by decide +kernel, by decide +kernel⟩
def k__law_bad_1 (S__law_taken : DSp) (S__law_pick : DSp) (S__law_alike : DSp) (S_least_repack : DSp) : SD :=
    sdRet (eCall ms__law_alike S__law_alike [] (gaVal (eLam kin L__law_heard tr__law_heard 2 [1, 5] [] (eCall ms_least_repack S_least_repack [] (gaVal (eVar 1) (gaVal (eVar 5) (gaNil))))) (gaVal (tON odTup (aCons (eP (pC (.str ("many" : Str)))) (aCons (eVar 5) (aCons (eP (pC (.bl true))) (aCons (eP (pC (.bl false))) (aNil)))))) (gaNil))))
def k__law_bad_2 (S__law_taken : DSp) (S__law_pick : DSp) (S__law_alike : DSp) (S_least_repack : DSp) : SD :=
    sdSeq (sdIf (ttNot (ttB (eCall ms__law_alike S__law_alike [] (gaVal (eLam kin L__law_heard tr__law_heard 2 [6, 5] [] (eCall ms_least_repack S_least_repack [] (gaVal (eVar 6) (gaVal (eVar 5) (gaNil))))) (gaVal (tON odTup (aCons (eP (pC (.str ("packs" : Str)))) (aCons (eP (tP1 odNeg (pC (.int 1)))) (aCons (eP (pC (.bl true))) (aCons (eP (pC (.bl false))) (aNil)))))) (gaNil))))))
    (sdRet (eP (pC (.bl false))))
    (sdNil))
    (k__law_bad_1 S__law_taken S__law_pick S__law_alike S_least_repack)
def k__law_bad_3 (S__law_taken : DSp) (S__law_pick : DSp) (S__law_alike : DSp) (S_least_repack : DSp) : SD :=
    sdSeq (sdSet 6 (eCall ms__law_pick S__law_pick [] (gaIoL 0 (gaVal (tON odLst (aCons (eP (pC .non)) (aCons (eP (pC (.int 7))) (aCons (eP (pC (.str ("packs" : Str)))) (aCons (eNew (.dK []) 1) (aCons (eDispT (tON odTup (aCons (eP (pC (.int 1))) (aCons (eP (pC (.int 1))) (aNil)))) (eP (pC (.int 1)))) (aCons (eP (pC (.bl true))) (aCons (eRep (tON odLst (aCons (tON odTup (aCons (eP (pC (.int 1))) (aCons (eP (pC (.int 1))) (aNil)))) (aNil))) (eP (pC (.int 61)))) (aCons (eRep (tON odLst (aCons (eP (pC .non)) (aNil))) (eP (pC (.int 61)))) (aNil)))))))))) (gaNil)))))
    (k__law_bad_2 S__law_taken S__law_pick S__law_alike S_least_repack)
def k__law_bad_4 (S__law_taken : DSp) (S__law_pick : DSp) (S__law_alike : DSp) (S_least_repack : DSp) : SD :=
    sdSeq (sdIf (ttNot (ttB (eCall ms__law_alike S__law_alike [] (gaVal (eLam kin L__law_heard tr__law_heard 2 [4, 5] [] (eCall ms_least_repack S_least_repack [] (gaVal (eVar 4) (gaVal (eVar 5) (gaNil))))) (gaVal (tON odTup (aCons (eP (pC (.str ("packs" : Str)))) (aCons (eVar 2) (aCons (eP (pC (.bl true))) (aCons (eP (pC (.bl false))) (aNil)))))) (gaNil))))))
    (sdRet (eP (pC (.bl false))))
    (sdNil))
    (k__law_bad_3 S__law_taken S__law_pick S__law_alike S_least_repack)
def k__law_bad_5 (S__law_taken : DSp) (S__law_pick : DSp) (S__law_alike : DSp) (S_least_repack : DSp) : SD :=
    sdSeq (sdPar 4 5 (tO2 odAdd (tO2 odAdd (eSl (eVar 1) (oNone) (oSome (eVar 2))) (tON odLst (aCons (eVar 3) (aNil)))) (eSl (eVar 1) (oSome (eVar 2)) (oSome (eP (pC (.int 59)))))) (eCall ms__law_pick S__law_pick [] (gaIoL 0 (gaVal (tON odLst (aCons (eP (tP1 odNeg (pC (.int 1)))) (aCons (eP (pC (.int 5001))) (aCons (eP (pC .non)) (aCons (eP (pC (.bl true))) (aCons (eP (pC (.str ("3" : Str)))) (aCons (eNew (.lst []) 1) (aCons (eP (tP2 odPow (pC (.int 10)) (pC (.int 30)))) (aNil))))))))) (gaNil)))))
    (k__law_bad_4 S__law_taken S__law_pick S__law_alike S_least_repack)
def k__law_bad_6 (S__law_taken : DSp) (S__law_pick : DSp) (S__law_alike : DSp) (S_least_repack : DSp) : SD :=
    sdSeq (sdSet 3 (eCall ms__law_pick S__law_pick [] (gaIoL 0 (gaVal (tON odLst (aCons (eP (pC .non)) (aCons (eP (pC (.int 5))) (aCons (tON odTup (aNil)) (aCons (tON odTup (aCons (eP (pC (.int 1))) (aNil))) (aCons (tON odTup (aCons (eP (pC (.int 1))) (aCons (eP (pC (.int 2))) (aCons (eP (pC (.int 3))) (aNil))))) (aCons (tON odLst (aCons (eP (pC (.int 1))) (aCons (eP (pC (.int 2))) (aNil)))) (aCons (tON odTup (aCons (eP (tP1 odNeg (pC (.int 1)))) (aCons (eP (pC (.int 2))) (aNil)))) (aCons (tON odTup (aCons (eP (pC (.int 1))) (aCons (eP (tP1 odNeg (pC (.int 1)))) (aNil)))) (aCons (tON odTup (aCons (eP (pC (.int 60001))) (aCons (eP (pC (.int 0))) (aNil)))) (aCons (tON odTup (aCons (eP (pC (.int 0))) (aCons (eP (pC (.int 60001))) (aNil)))) (aCons (tON odTup (aCons (eP (pC (.bl true))) (aCons (eP (pC (.int 1))) (aNil)))) (aCons (tON odTup (aCons (eP (pC (.int 1))) (aCons (eP (pC .non)) (aNil)))) (aCons (eP (pC (.str ("ab" : Str)))) (aCons (eNew (.dK []) 1) (aNil)))))))))))))))) (gaNil)))))
    (k__law_bad_5 S__law_taken S__law_pick S__law_alike S_least_repack)
def t__law_bad (S__law_taken : DSp) (S__law_pick : DSp) (S__law_alike : DSp) (S_least_repack : DSp) : SD :=
    sdSeq (sdSet 2 (eCall ms__law_taken S__law_taken [] (gaIoL 0 (gaVal (eP (tP2 odAdd (tPN odLen (apCons (pSl (pVar 1) (opNone) (opSome (pC (.int 59)))) apNil)) (pC (.int 1)))) (gaNil)))))
    (k__law_bad_6 S__law_taken S__law_pick S__law_alike S_least_repack)
theorem d__law_bad {P : Program} {w : World} {K : PySem.W.Frag} {mg : MG} {base : Heap} {k : Nat} {S__law_taken : DSp} {S__law_pick : DSp} {S__law_alike : DSp} {S_least_repack : DSp} (B : Blt mg) (C__law_taken : Cal P w K mg base "_law_taken" s__law_taken k ["row", "many"] ms__law_taken S__law_taken) (C__law_pick : Cal P w K mg base "_law_pick" s__law_pick k ["row", "some"] ms__law_pick S__law_pick) (C__law_alike : Cal P w K mg base "_law_alike" s__law_alike k ["found", "due"] ms__law_alike S__law_alike) (C_least_repack : Cal P w K mg base "least_repack" s_least_repack k ["packs", "want"] ms_least_repack S_least_repack) (Kn : KinOk K mg kin) (M_NotEnough : ClsAt mg "NotEnough") (M_HouseError : ClsAt mg "HouseError") (M_BadPacks : ClsAt mg "BadPacks") (M_BadMany : ClsAt mg "BadMany") (F__law_heard : FunAt K mg "_law_heard" s__law_heard) (f : Addr) (cdv : Value) (A : Around) (outer : List Env) (s : Shared) (H : Hp) (E : XK) (LO : LamOk (cxOf (L2N.CX P w) P w K mg base N__law_bad "_law_bad" (defScope s__law_bad) f cdv A outer s H E)) (hr : Room (k + 2) (A.deeper (envOfC "_law_bad" (defScope s__law_bad) s.heap.objs.size f cdv))) :
    DSs (cxOf (L2N.CX P w) P w K mg base N__law_bad "_law_bad" (defScope s__law_bad) f cdv A outer s H E) (defBody s__law_bad) (t__law_bad S__law_taken S__law_pick S__law_alike S_least_repack) :=
  have hu := hu_of hr
  dss_cons (ds_set sc__law_bad.nd (dc_call (C__law_taken.up (Nat.le_add_right _ 2)) hr (dg_iol 0 (dg_val (de_pu (pu_add (pu_len B (pu_slice (pu_var 1) (puo_none) (puo_some (pu_int)))) (pu_int))) (dg_nil)))))
    (dss_cons (ds_set sc__law_bad.nd (dc_call (C__law_pick.up (Nat.le_add_right _ 2)) hr (dg_iol 0 (dg_val (de_lst (da_cons (de_pu (pu_non)) (da_cons (de_pu (pu_int)) (da_cons (de_tup (da_nil)) (da_cons (de_tup (da_cons (de_pu (pu_int)) (da_nil))) (da_cons (de_tup (da_cons (de_pu (pu_int)) (da_cons (de_pu (pu_int)) (da_cons (de_pu (pu_int)) (da_nil))))) (da_cons (de_lst (da_cons (de_pu (pu_int)) (da_cons (de_pu (pu_int)) (da_nil)))) (da_cons (de_tup (da_cons (de_pu (pu_neg (pu_int))) (da_cons (de_pu (pu_int)) (da_nil)))) (da_cons (de_tup (da_cons (de_pu (pu_int)) (da_cons (de_pu (pu_neg (pu_int))) (da_nil)))) (da_cons (de_tup (da_cons (de_pu (pu_int)) (da_cons (de_pu (pu_int)) (da_nil)))) (da_cons (de_tup (da_cons (de_pu (pu_int)) (da_cons (de_pu (pu_int)) (da_nil)))) (da_cons (de_tup (da_cons (de_pu (pu_bl)) (da_cons (de_pu (pu_int)) (da_nil)))) (da_cons (de_tup (da_cons (de_pu (pu_int)) (da_cons (de_pu (pu_non)) (da_nil)))) (da_cons (de_pu (pu_str)) (da_cons (de_dK 1) (da_nil)))))))))))))))) (dg_nil)))))
    (dss_cons (ds_parT (i := 4) (j := 5) rfl sc__law_bad.nd (de_add (de_add (de_slice (de_var 1) (do_none) (do_some (de_var 2))) (de_lst (da_cons (de_var 3) (da_nil)))) (de_slice (de_var 1) (do_some (de_var 2)) (do_some (de_pu (pu_int))))) (dc_call (C__law_pick.up (Nat.le_add_right _ 2)) hr (dg_iol 0 (dg_val (de_lst (da_cons (de_pu (pu_neg (pu_int))) (da_cons (de_pu (pu_int)) (da_cons (de_pu (pu_non)) (da_cons (de_pu (pu_bl)) (da_cons (de_pu (pu_str)) (da_cons (de_nil 1) (da_cons (de_pu (pu_pow (pu_int) (pu_int))) (da_nil))))))))) (dg_nil)))))
    (dss_cons (ds_if (dt_not (dt_val (dc_call (C__law_alike.up (Nat.le_add_right _ 2)) hr (dg_val (hx__law_heard (fs := [4, 5]) (ks := []) B Kn M_NotEnough M_HouseError M_BadPacks M_BadMany F__law_heard LO hr (fun _ _ _ _ _ _ _ hr => have hu := hu_of hr; dc_call C_least_repack hr (dg_val (de_var 4) (dg_val (de_var 5) (dg_nil)))) (by kernel_rfl) rfl (fun _ _ _ _ _ => rfl)) (dg_val (de_tup (da_cons (de_pu (pu_str)) (da_cons (de_var 2) (da_cons (de_pu (pu_bl)) (da_cons (de_pu (pu_bl)) (da_nil)))))) (dg_nil))))))
    (dss_one (ds_ret (de_pu (pu_bl))))
    (dss_nil))
    (dss_cons (ds_set sc__law_bad.nd (dc_call (C__law_pick.up (Nat.le_add_right _ 2)) hr (dg_iol 0 (dg_val (de_lst (da_cons (de_pu (pu_non)) (da_cons (de_pu (pu_int)) (da_cons (de_pu (pu_str)) (da_cons (de_dK 1) (da_cons (de_dispT hu (de_tup (da_cons (de_pu (pu_int)) (da_cons (de_pu (pu_int)) (da_nil)))) (de_pu (pu_int))) (da_cons (de_pu (pu_bl)) (da_cons (de_rep (de_lst (da_cons (de_tup (da_cons (de_pu (pu_int)) (da_cons (de_pu (pu_int)) (da_nil)))) (da_nil))) (de_pu (pu_int))) (da_cons (de_rep (de_lst (da_cons (de_pu (pu_non)) (da_nil))) (de_pu (pu_int))) (da_nil)))))))))) (dg_nil)))))
    (dss_cons (ds_if (dt_not (dt_val (dc_call (C__law_alike.up (Nat.le_add_right _ 2)) hr (dg_val (hx__law_heard (fs := [6, 5]) (ks := []) B Kn M_NotEnough M_HouseError M_BadPacks M_BadMany F__law_heard LO hr (fun _ _ _ _ _ _ _ hr => have hu := hu_of hr; dc_call C_least_repack hr (dg_val (de_var 6) (dg_val (de_var 5) (dg_nil)))) (by kernel_rfl) rfl (fun _ _ _ _ _ => rfl)) (dg_val (de_tup (da_cons (de_pu (pu_str)) (da_cons (de_pu (pu_neg (pu_int))) (da_cons (de_pu (pu_bl)) (da_cons (de_pu (pu_bl)) (da_nil)))))) (dg_nil))))))
    (dss_one (ds_ret (de_pu (pu_bl))))
    (dss_nil))
    (dss_one (ds_ret (dc_call (C__law_alike.up (Nat.le_add_right _ 2)) hr (dg_val (hx__law_heard (fs := [1, 5]) (ks := []) B Kn M_NotEnough M_HouseError M_BadPacks M_BadMany F__law_heard LO hr (fun _ _ _ _ _ _ _ hr => have hu := hu_of hr; dc_call C_least_repack hr (dg_val (de_var 1) (dg_val (de_var 5) (dg_nil)))) (by kernel_rfl) rfl (fun _ _ _ _ _ => rfl)) (dg_val (de_tup (da_cons (de_pu (pu_str)) (da_cons (de_var 5) (da_cons (de_pu (pu_bl)) (da_cons (de_pu (pu_bl)) (da_nil)))))) (dg_nil)))))))))))
theorem c__law_bad {P : Program} {w : World} {K : PySem.W.Frag} {mg : MG} {base : Heap} {k : Nat} {S__law_taken : DSp} {S__law_pick : DSp} {S__law_alike : DSp} {S_least_repack : DSp} {S : DSp} {h : Heap} (XK : K.In h) (GN : h.Ns mainGlobals mg) (LD : LamD K mg base "_law_bad") (Fu : FunAt K mg "_law_bad" s__law_bad) (B : Blt mg) (C__law_taken : Cal P w K mg base "_law_taken" s__law_taken k ["row", "many"] ms__law_taken S__law_taken) (C__law_pick : Cal P w K mg base "_law_pick" s__law_pick k ["row", "some"] ms__law_pick S__law_pick) (C__law_alike : Cal P w K mg base "_law_alike" s__law_alike k ["found", "due"] ms__law_alike S__law_alike) (C_least_repack : Cal P w K mg base "least_repack" s_least_repack k ["packs", "want"] ms_least_repack S_least_repack) (Kn : KinOk K mg kin) (M_NotEnough : ClsAt mg "NotEnough") (M_HouseError : ClsAt mg "HouseError") (M_BadPacks : ClsAt mg "BadPacks") (M_BadMany : ClsAt mg "BadMany") (F__law_heard : FunAt K mg "_law_heard" s__law_heard) (hs : ∀ ds post, S ds post → ds.length = ms__law_bad.length → t__law_bad S__law_taken S__law_pick S__law_alike S_least_repack (env0 ms__law_bad ds N__law_bad.length) (endsOf ms__law_bad post)) : Cal P w K mg base "_law_bad" s__law_bad ((k + 2) + 1) ["row", "packs"] ms__law_bad S :=
  cal_mkT XK GN LD Fu sc__law_bad rfl (fun _ _ _ _ _ _ us hl => match us, hl with | [_, _], _ => rfl) (d__law_bad B C__law_taken C__law_pick C__law_alike C_least_repack Kn M_NotEnough M_HouseError M_BadPacks M_BadMany F__law_heard) hs
abbrev N_law : List Str := ["script", "row", "most", "packs", "total", "load", "want", "small", "many", "much", "wide", "k"]
theorem sc_law : FnScope N_law ["script"] (defScope s_law) := ⟨rfl, rfl, rfl, by decide +kernel, rfl, by decide +kernel, by decide +kernel⟩
def e_law_1 (S__law_pick : DSp) (S__law_packs : DSp) (S__law_taken : DSp) (S__law_right : DSp) (S__law_choices : DSp) (S__law_alike : DSp) (S_least_repack : DSp) (S__law_best : DSp) (S__law_bad : DSp) : ET :=
    eIxL 5 (eP (pC (.int 1)))
def b_law_1 (S__law_pick : DSp) (S__law_packs : DSp) (S__law_taken : DSp) (S__law_right : DSp) (S__law_choices : DSp) (S__law_alike : DSp) (S_least_repack : DSp) (S__law_best : DSp) (S__law_bad : DSp) : SD :=
    sdIf (ttNot (ttB (eCall ms__law_right S__law_right [] (gaVal (eVar 3) (gaVal (eVar 6) (gaVal (tO2 odIx (eCall ms__law_choices S__law_choices [] (gaVal (eVar 3) (gaVal (eVar 6) (gaNil)))) (eP (pC (.int 2)))) (gaNil)))))))
    (sdRet (eP (pC (.bl false))))
    (sdNil)
def e_law_2 (S__law_pick : DSp) (S__law_packs : DSp) (S__law_taken : DSp) (S__law_right : DSp) (S__law_choices : DSp) (S__law_alike : DSp) (S_least_repack : DSp) (S__law_best : DSp) (S__law_bad : DSp) : ET :=
    eIxL 5 (eP (pC (.int 1)))
def e_law_3 (S__law_pick : DSp) (S__law_packs : DSp) (S__law_taken : DSp) (S__law_right : DSp) (S__law_choices : DSp) (S__law_alike : DSp) (S_least_repack : DSp) (S__law_best : DSp) (S__law_bad : DSp) : ET :=
    tON odTup (aCons (eP (tP2 odSub (pC (.int 60000)) (pVar 11))) (aCons (eP (pC (.int 85))) (aNil)))
def k_law_1 (S__law_pick : DSp) (S__law_packs : DSp) (S__law_taken : DSp) (S__law_right : DSp) (S__law_choices : DSp) (S__law_alike : DSp) (S_least_repack : DSp) (S__law_best : DSp) (S__law_bad : DSp) : SD :=
    sdRet (eAnd (eCall ms__law_bad S__law_bad [] (gaIoL 1 (gaVal (eVar 3) (gaNil)))) (eAnd (eCall ms__law_bad S__law_bad [] (gaIoL 1 (gaVal (eVar 8) (gaNil)))) (eCall ms__law_right S__law_right [] (gaVal (eVar 3) (gaVal (eP (pC (.int 0))) (gaVal (tON odTup (aNil)) (gaNil)))))))
def k_law_2 (S__law_pick : DSp) (S__law_packs : DSp) (S__law_taken : DSp) (S__law_right : DSp) (S__law_choices : DSp) (S__law_alike : DSp) (S_least_repack : DSp) (S__law_best : DSp) (S__law_bad : DSp) : SD :=
    sdSeq (sdIf (ttB (tO2 odEq (eCall ms__law_taken S__law_taken [] (gaIoL 1 (gaVal (eP (pC (.int 16))) (gaNil)))) (eP (pC (.int 0)))))
    (sdSeq (sdSet 10 (tO2 odAdd (eLc (itN odRng1 (aCons (eP (pC (.int 59))) (aNil))) (.nm 11) (ttYes) (e_law_3 S__law_pick S__law_packs S__law_taken S__law_right S__law_choices S__law_alike S_least_repack S__law_best S__law_bad) [11]) (tON odLst (aCons (tON odTup (aCons (eP (pC (.int 0))) (aCons (eIf (ttPB (tP2 odGt (pVar 6) (pC (.int 9)))) (eP (pC (.int 60000))) (eP (pC (.int 0)))) (aNil)))) (aNil)))))
    (sdIf (ttNot (ttB (eCall ms__law_right S__law_right [] (gaVal (eVar 10) (gaVal (eP (pC (.int 5000))) (gaVal (eIf (ttPB (tP2 odGt (pVar 6) (pC (.int 9)))) (tON odTup (aCons (eP (pC (.int 59))) (aNil))) (eTupRg (aCons (eP (pC (.int 59))) (aNil)))) (gaNil)))))))
    (sdRet (eP (pC (.bl false))))
    (sdNil)))
    (sdNil))
    (k_law_1 S__law_pick S__law_packs S__law_taken S__law_right S__law_choices S__law_alike S_least_repack S__law_best S__law_bad)
def k_law_3 (S__law_pick : DSp) (S__law_packs : DSp) (S__law_taken : DSp) (S__law_right : DSp) (S__law_choices : DSp) (S__law_alike : DSp) (S_least_repack : DSp) (S__law_best : DSp) (S__law_bad : DSp) : SD :=
    sdSeq (sdIf (ttOr (ttNot (ttB (eCall ms__law_right S__law_right [] (gaVal (eVar 8) (gaVal (eVar 6) (gaVal (tO2 odIx (eCall ms__law_best S__law_best [] (gaVal (eVar 8) (gaVal (eVar 6) (gaNil)))) (eP (pC (.int 2)))) (gaNil))))))) (ttNot (ttB (eCall ms__law_right S__law_right [] (gaVal (eVar 8) (gaVal (eP (pC (.int 0))) (gaVal (tON odTup (aNil)) (gaNil))))))))
    (sdRet (eP (pC (.bl false))))
    (sdNil))
    (k_law_2 S__law_pick S__law_packs S__law_taken S__law_right S__law_choices S__law_alike S_least_repack S__law_best S__law_bad)
def k_law_4 (S__law_pick : DSp) (S__law_packs : DSp) (S__law_taken : DSp) (S__law_right : DSp) (S__law_choices : DSp) (S__law_alike : DSp) (S_least_repack : DSp) (S__law_best : DSp) (S__law_bad : DSp) : SD :=
    sdSeq (sdSet 6 (eCall ms__law_taken S__law_taken [] (gaIoL 1 (gaVal (eP (tP2 odAdd (tPN odMin2 (apCons (pVar 9) (apCons (pC (.int 24)) apNil))) (pC (.int 1)))) (gaNil)))))
    (k_law_3 S__law_pick S__law_packs S__law_taken S__law_right S__law_choices S__law_alike S_least_repack S__law_best S__law_bad)
def k_law_5 (S__law_pick : DSp) (S__law_packs : DSp) (S__law_taken : DSp) (S__law_right : DSp) (S__law_choices : DSp) (S__law_alike : DSp) (S_least_repack : DSp) (S__law_best : DSp) (S__law_bad : DSp) : SD :=
    sdSeq (sdSet 9 (tON odSum (aCons (eLc (itSeq (eVar 8)) (.nm 5) (ttYes) (e_law_2 S__law_pick S__law_packs S__law_taken S__law_right S__law_choices S__law_alike S_least_repack S__law_best S__law_bad) [5]) aNil)))
    (k_law_4 S__law_pick S__law_packs S__law_taken S__law_right S__law_choices S__law_alike S_least_repack S__law_best S__law_bad)
def k_law_6 (S__law_pick : DSp) (S__law_packs : DSp) (S__law_taken : DSp) (S__law_right : DSp) (S__law_choices : DSp) (S__law_alike : DSp) (S_least_repack : DSp) (S__law_best : DSp) (S__law_bad : DSp) : SD :=
    sdSeq (sdSet 8 (eCall ms__law_packs S__law_packs [] (gaIoL 1 (gaVal (eCall ms__law_pick S__law_pick [] (gaIoL 1 (gaVal (tON odLst (aCons (eP (pC (.int 12))) (aCons (eP (pC (.int 20))) (aCons (eP (pC (.int 33))) (aCons (eP (pC (.int 60))) (aNil)))))) (gaNil)))) (gaVal (eVar 7) (gaNil))))))
    (k_law_5 S__law_pick S__law_packs S__law_taken S__law_right S__law_choices S__law_alike S_least_repack S__law_best S__law_bad)
def k_law_7 (S__law_pick : DSp) (S__law_packs : DSp) (S__law_taken : DSp) (S__law_right : DSp) (S__law_choices : DSp) (S__law_alike : DSp) (S_least_repack : DSp) (S__law_best : DSp) (S__law_bad : DSp) : SD :=
    sdSeq (sdSet 7 (eCall ms__law_pick S__law_pick [] (gaIoL 1 (gaVal (tON odLst (aCons (eP (pC (.int 2))) (aCons (eP (pC (.int 4))) (aCons (eP (pC (.int 7))) (aNil))))) (gaNil)))))
    (k_law_6 S__law_pick S__law_packs S__law_taken S__law_right S__law_choices S__law_alike S_least_repack S__law_best S__law_bad)
def k_law_8 (S__law_pick : DSp) (S__law_packs : DSp) (S__law_taken : DSp) (S__law_right : DSp) (S__law_choices : DSp) (S__law_alike : DSp) (S_least_repack : DSp) (S__law_best : DSp) (S__law_bad : DSp) : SD :=
    sdSeq (sdIf (ttPB (tP2 odLt (pVar 4) (pC (.int 5000))))
    (sdSeq (sdSet 6 (eCall ms__law_pick S__law_pick [] (gaIoL 1 (gaVal (tON odLst (aCons (eP (tP2 odAdd (pVar 4) (pC (.int 1)))) (aCons (eP (pC (.int 5000))) (aCons (tO2 odAdd (eP (tP2 odAdd (pVar 4) (pC (.int 1)))) (eCall ms__law_taken S__law_taken [] (gaIoL 1 (gaVal (eP (tP2 odSub (pC (.int 5000)) (pVar 4))) (gaNil))))) (aNil))))) (gaNil)))))
    (sdIf (ttNot (ttB (eCall ms__law_alike S__law_alike [] (gaVal (eLam kin L__law_heard tr__law_heard 2 [3, 6] [1] (eCall ms_least_repack S_least_repack [] (gaVal (eVar 3) (gaVal (eVar 6) (gaNil))))) (gaVal (tON odTup (aCons (eP (pC (.str ("enough" : Str)))) (aCons (eVar 4) (aCons (eP (pC (.bl true))) (aCons (eP (pC (.bl false))) (aNil)))))) (gaNil))))))
    (sdRet (eP (pC (.bl false))))
    (sdNil)))
    (sdNil))
    (k_law_7 S__law_pick S__law_packs S__law_taken S__law_right S__law_choices S__law_alike S_least_repack S__law_best S__law_bad)
def k_law_9 (S__law_pick : DSp) (S__law_packs : DSp) (S__law_taken : DSp) (S__law_right : DSp) (S__law_choices : DSp) (S__law_alike : DSp) (S_least_repack : DSp) (S__law_best : DSp) (S__law_bad : DSp) : SD :=
    sdSeq (sdFor (itSeq (tON odLst (aCons (eCall ms__law_taken S__law_taken [] (gaIoL 1 (gaVal (eP (tP2 odAdd (tPN odMin2 (apCons (pVar 4) (apCons (pC (.int 5000)) apNil))) (pC (.int 1)))) (gaNil)))) (aCons (eP (tPN odMin2 (apCons (pVar 4) (apCons (pC (.int 5000)) apNil)))) (aCons (eP (tPN odMax2 (apCons (pC (.int 0)) (apCons (tP2 odSub (tPN odMin2 (apCons (pVar 4) (apCons (pC (.int 5000)) apNil))) (pC (.int 1))) apNil)))) (aNil)))))) (.nm 6)
    (b_law_1 S__law_pick S__law_packs S__law_taken S__law_right S__law_choices S__law_alike S_least_repack S__law_best S__law_bad))
    (k_law_8 S__law_pick S__law_packs S__law_taken S__law_right S__law_choices S__law_alike S_least_repack S__law_best S__law_bad)
def k_law_10 (S__law_pick : DSp) (S__law_packs : DSp) (S__law_taken : DSp) (S__law_right : DSp) (S__law_choices : DSp) (S__law_alike : DSp) (S_least_repack : DSp) (S__law_best : DSp) (S__law_bad : DSp) : SD :=
    sdSeq (sdSet 4 (tON odSum (aCons (eLc (itSeq (eVar 3)) (.nm 5) (ttYes) (e_law_1 S__law_pick S__law_packs S__law_taken S__law_right S__law_choices S__law_alike S_least_repack S__law_best S__law_bad) [5]) aNil)))
    (k_law_9 S__law_pick S__law_packs S__law_taken S__law_right S__law_choices S__law_alike S_least_repack S__law_best S__law_bad)
def k_law_11 (S__law_pick : DSp) (S__law_packs : DSp) (S__law_taken : DSp) (S__law_right : DSp) (S__law_choices : DSp) (S__law_alike : DSp) (S_least_repack : DSp) (S__law_best : DSp) (S__law_bad : DSp) : SD :=
    sdSeq (sdSet 3 (eCall ms__law_packs S__law_packs [] (gaIoL 1 (gaVal (eCall ms__law_pick S__law_pick [] (gaIoL 1 (gaVal (tON odLst (aCons (eP (pC (.int 3))) (aCons (eP (pC (.int 4))) (aCons (eP (pC (.int 5))) (aCons (eP (pC (.int 6))) (aCons (eP (pC (.int 7))) (aCons (eP (pC (.int 2))) (aCons (eP (pC (.int 1))) (aCons (eP (pC (.int 0))) (aCons (eP (pC (.int 9))) (aNil))))))))))) (gaNil)))) (gaVal (eVar 2) (gaNil))))))
    (k_law_10 S__law_pick S__law_packs S__law_taken S__law_right S__law_choices S__law_alike S_least_repack S__law_best S__law_bad)
def k_law_12 (S__law_pick : DSp) (S__law_packs : DSp) (S__law_taken : DSp) (S__law_right : DSp) (S__law_choices : DSp) (S__law_alike : DSp) (S_least_repack : DSp) (S__law_best : DSp) (S__law_bad : DSp) : SD :=
    sdSeq (sdSet 2 (eCall ms__law_pick S__law_pick [] (gaIoL 1 (gaVal (tON odLst (aCons (eP (pC (.int 4))) (aCons (eP (pC (.int 10))) (aCons (eP (pC (.int 3))) (aCons (eP (pC (.int 1))) (aCons (eP (pC (.int 600))) (aCons (eP (pC (.int 60000))) (aNil)))))))) (gaNil)))))
    (k_law_11 S__law_pick S__law_packs S__law_taken S__law_right S__law_choices S__law_alike S_least_repack S__law_best S__law_bad)
def t_law (S__law_pick : DSp) (S__law_packs : DSp) (S__law_taken : DSp) (S__law_right : DSp) (S__law_choices : DSp) (S__law_alike : DSp) (S_least_repack : DSp) (S__law_best : DSp) (S__law_bad : DSp) : SD :=
    sdSeq (sdSet 1 (tON odLst (aCons (eVar 0) (aCons (eP (pC (.int 0))) (aCons (eP (pC (.int 15963084))) (aCons (eP (pC (.int 0))) (aNil)))))))
    (k_law_12 S__law_pick S__law_packs S__law_taken S__law_right S__law_choices S__law_alike S_least_repack S__law_best S__law_bad)
theorem d_law {P : Program} {w : World} {K : PySem.W.Frag} {mg : MG} {base : Heap} {k : Nat} {S__law_pick : DSp} {S__law_packs : DSp} {S__law_taken : DSp} {S__law_right : DSp} {S__law_choices : DSp} {S__law_alike : DSp} {S_least_repack : DSp} {S__law_best : DSp} {S__law_bad : DSp} (B : Blt mg) (C__law_pick : Cal P w K mg base "_law_pick" s__law_pick k ["row", "some"] ms__law_pick S__law_pick) (C__law_packs : Cal P w K mg base "_law_packs" s__law_packs k ["row", "many", "most"] ms__law_packs S__law_packs) (C__law_taken : Cal P w K mg base "_law_taken" s__law_taken k ["row", "many"] ms__law_taken S__law_taken) (C__law_right : Cal P w K mg base "_law_right" s__law_right k ["packs", "want", "due"] ms__law_right S__law_right) (C__law_choices : Cal P w K mg base "_law_choices" s__law_choices k ["packs", "want"] ms__law_choices S__law_choices) (C__law_alike : Cal P w K mg base "_law_alike" s__law_alike k ["found", "due"] ms__law_alike S__law_alike) (C_least_repack : Cal P w K mg base "least_repack" s_least_repack k ["packs", "want"] ms_least_repack S_least_repack) (C__law_best : Cal P w K mg base "_law_best" s__law_best k ["packs", "want"] ms__law_best S__law_best) (C__law_bad : Cal P w K mg base "_law_bad" s__law_bad k ["row", "packs"] ms__law_bad S__law_bad) (Kn : KinOk K mg kin) (M_NotEnough : ClsAt mg "NotEnough") (M_HouseError : ClsAt mg "HouseError") (M_BadPacks : ClsAt mg "BadPacks") (M_BadMany : ClsAt mg "BadMany") (F__law_heard : FunAt K mg "_law_heard" s__law_heard) (f : Addr) (cdv : Value) (A : Around) (outer : List Env) (s : Shared) (H : Hp) (E : XK) (LO : LamOk (cxOf (L2N.CX P w) P w K mg base N_law "law" (defScope s_law) f cdv A outer s H E)) (hr : Room (k + 2) (A.deeper (envOfC "law" (defScope s_law) s.heap.objs.size f cdv))) :
    DSs (cxOf (L2N.CX P w) P w K mg base N_law "law" (defScope s_law) f cdv A outer s H E) (defBody s_law) (t_law S__law_pick S__law_packs S__law_taken S__law_right S__law_choices S__law_alike S_least_repack S__law_best S__law_bad) :=
  have hu := hu_of hr
  dss_cons (ds_set sc_law.nd (de_lst (da_cons (de_var 0) (da_cons (de_pu (pu_int)) (da_cons (de_pu (pu_int)) (da_cons (de_pu (pu_int)) (da_nil)))))))
    (dss_cons (ds_set sc_law.nd (dc_call (C__law_pick.up (Nat.le_add_right _ 2)) hr (dg_iol 1 (dg_val (de_lst (da_cons (de_pu (pu_int)) (da_cons (de_pu (pu_int)) (da_cons (de_pu (pu_int)) (da_cons (de_pu (pu_int)) (da_cons (de_pu (pu_int)) (da_cons (de_pu (pu_int)) (da_nil)))))))) (dg_nil)))))
    (dss_cons (ds_set sc_law.nd (dc_call (C__law_packs.up (Nat.le_add_right _ 2)) hr (dg_iol 1 (dg_val (dc_call (C__law_pick.up (Nat.le_add_right _ 2)) hr (dg_iol 1 (dg_val (de_lst (da_cons (de_pu (pu_int)) (da_cons (de_pu (pu_int)) (da_cons (de_pu (pu_int)) (da_cons (de_pu (pu_int)) (da_cons (de_pu (pu_int)) (da_cons (de_pu (pu_int)) (da_cons (de_pu (pu_int)) (da_cons (de_pu (pu_int)) (da_cons (de_pu (pu_int)) (da_nil))))))))))) (dg_nil)))) (dg_val (de_var 2) (dg_nil))))))
    (dss_cons (ds_set sc_law.nd (de_sumc rfl B (de_lc [(("load" : Str), 5)] rfl sc_law.nd (di_seq (de_var 3)) (blkOk_by (N := N_law) (sc := defScope s_law) (by decide +kernel)) (fun _ _ _ _ _ => dgt_nm 5 sc_law.nd) (fun _ _ _ _ _ => dpts_nil) (fun _ _ _ _ _ => de_ixl 5 hu (de_pu (pu_int))))))
    (dss_cons (ds_for (passes_of rfl) rfl (di_seq (de_lst (da_cons (dc_call (C__law_taken.up (Nat.le_add_right _ 2)) hr (dg_iol 1 (dg_val (de_pu (pu_add (pu_min rfl B (pu_var 4) (pu_int)) (pu_int))) (dg_nil)))) (da_cons (de_pu (pu_min rfl B (pu_var 4) (pu_int))) (da_cons (de_pu (pu_max rfl B (pu_int) (pu_sub (pu_min rfl B (pu_var 4) (pu_int)) (pu_int)))) (da_nil)))))) (dgt_nm 6 sc_law.nd)
    (dss_one (ds_if (dt_not (dt_val (dc_call (C__law_right.up (Nat.le_add_right _ 2)) hr (dg_val (de_var 3) (dg_val (de_var 6) (dg_val (de_ix hu (dc_call (C__law_choices.up (Nat.le_add_right _ 2)) hr (dg_val (de_var 3) (dg_val (de_var 6) (dg_nil)))) (de_pu (pu_int))) (dg_nil)))))))
    (dss_one (ds_ret (de_pu (pu_bl))))
    (dss_nil))))
    (dss_cons (ds_if (dt_cmp (op_ltD) okCmp (pu_var 4) (pu_int) (nomark _))
    (dss_cons (ds_set sc_law.nd (dc_call (C__law_pick.up (Nat.le_add_right _ 2)) hr (dg_iol 1 (dg_val (de_lst (da_cons (de_pu (pu_add (pu_var 4) (pu_int))) (da_cons (de_pu (pu_int)) (da_cons (de_add (de_pu (pu_add (pu_var 4) (pu_int))) (dc_call (C__law_taken.up (Nat.le_add_right _ 2)) hr (dg_iol 1 (dg_val (de_pu (pu_sub (pu_int) (pu_var 4))) (dg_nil))))) (da_nil))))) (dg_nil)))))
    (dss_one (ds_if (dt_not (dt_val (dc_call (C__law_alike.up (Nat.le_add_right _ 2)) hr (dg_val (hx__law_heard (fs := [3, 6]) (ks := [1]) B Kn M_NotEnough M_HouseError M_BadPacks M_BadMany F__law_heard LO hr (fun _ _ _ _ _ _ _ hr => have hu := hu_of hr; dc_call C_least_repack hr (dg_val (de_var 3) (dg_val (de_var 6) (dg_nil)))) (by kernel_rfl) rfl (fun _ _ _ _ _ => rfl)) (dg_val (de_tup (da_cons (de_pu (pu_str)) (da_cons (de_var 4) (da_cons (de_pu (pu_bl)) (da_cons (de_pu (pu_bl)) (da_nil)))))) (dg_nil))))))
    (dss_one (ds_ret (de_pu (pu_bl))))
    (dss_nil))))
    (dss_nil))
    (dss_cons (ds_set sc_law.nd (dc_call (C__law_pick.up (Nat.le_add_right _ 2)) hr (dg_iol 1 (dg_val (de_lst (da_cons (de_pu (pu_int)) (da_cons (de_pu (pu_int)) (da_cons (de_pu (pu_int)) (da_nil))))) (dg_nil)))))
    (dss_cons (ds_set sc_law.nd (dc_call (C__law_packs.up (Nat.le_add_right _ 2)) hr (dg_iol 1 (dg_val (dc_call (C__law_pick.up (Nat.le_add_right _ 2)) hr (dg_iol 1 (dg_val (de_lst (da_cons (de_pu (pu_int)) (da_cons (de_pu (pu_int)) (da_cons (de_pu (pu_int)) (da_cons (de_pu (pu_int)) (da_nil)))))) (dg_nil)))) (dg_val (de_var 7) (dg_nil))))))
    (dss_cons (ds_set sc_law.nd (de_sumc rfl B (de_lc [(("load" : Str), 5)] rfl sc_law.nd (di_seq (de_var 8)) (blkOk_by (N := N_law) (sc := defScope s_law) (by decide +kernel)) (fun _ _ _ _ _ => dgt_nm 5 sc_law.nd) (fun _ _ _ _ _ => dpts_nil) (fun _ _ _ _ _ => de_ixl 5 hu (de_pu (pu_int))))))
    (dss_cons (ds_set sc_law.nd (dc_call (C__law_taken.up (Nat.le_add_right _ 2)) hr (dg_iol 1 (dg_val (de_pu (pu_add (pu_min rfl B (pu_var 9) (pu_int)) (pu_int))) (dg_nil)))))
    (dss_cons (ds_if ((dt_or (dt_not (dt_val (dc_call (C__law_right.up (Nat.le_add_right _ 2)) hr (dg_val (de_var 8) (dg_val (de_var 6) (dg_val (de_ix hu (dc_call (C__law_best.up (Nat.le_add_right _ 2)) hr (dg_val (de_var 8) (dg_val (de_var 6) (dg_nil)))) (de_pu (pu_int))) (dg_nil))))))) (dt_or1 (dt_not (dt_val (dc_call (C__law_right.up (Nat.le_add_right _ 2)) hr (dg_val (de_var 8) (dg_val (de_pu (pu_int)) (dg_val (de_tup (da_nil)) (dg_nil))))))))).dt)
    (dss_one (ds_ret (de_pu (pu_bl))))
    (dss_nil))
    (dss_cons (ds_if (dt_cmpE (op_eqA hr.units) okEq (dc_call (C__law_taken.up (Nat.le_add_right _ 2)) hr (dg_iol 1 (dg_val (de_pu (pu_int)) (dg_nil)))) (de_pu (pu_int)) (nomark _))
    (dss_cons (ds_set sc_law.nd (de_add (de_lc [(("k" : Str), 11)] rfl sc_law.nd (di_rng1 B.range (da_cons (de_pu (pu_int)) (da_nil))) (blkOk_by (N := N_law) (sc := defScope s_law) (by decide +kernel)) (fun _ _ _ _ _ => dgt_nm 11 sc_law.nd) (fun _ _ _ _ _ => dpts_nil) (fun _ _ _ _ _ => de_tup (da_cons (de_pu (pu_sub (pu_int) (pu_var 11))) (da_cons (de_pu (pu_int)) (da_nil))))) (de_lst (da_cons (de_tup (da_cons (de_pu (pu_int)) (da_cons (de_ifExp (dt_cmp (op_gtD) okCmp (pu_var 6) (pu_int) (nomark _)) (de_pu (pu_int)) (de_pu (pu_int))) (da_nil)))) (da_nil)))))
    (dss_one (ds_if (dt_not (dt_val (dc_call (C__law_right.up (Nat.le_add_right _ 2)) hr (dg_val (de_var 10) (dg_val (de_pu (pu_int)) (dg_val (de_ifExp (dt_cmp (op_gtD) okCmp (pu_var 6) (pu_int) (nomark _)) (de_tup (da_cons (de_pu (pu_int)) (da_nil))) (de_tupRg1 rfl B.tuple B.range (de_pu (pu_int)))) (dg_nil)))))))
    (dss_one (ds_ret (de_pu (pu_bl))))
    (dss_nil))))
    (dss_nil))
    (dss_one (ds_ret (de_and (dc_call (C__law_bad.up (Nat.le_add_right _ 2)) hr (dg_iol 1 (dg_val (de_var 3) (dg_nil)))) (de_and (dc_call (C__law_bad.up (Nat.le_add_right _ 2)) hr (dg_iol 1 (dg_val (de_var 8) (dg_nil)))) (de_one (dc_call (C__law_right.up (Nat.le_add_right _ 2)) hr (dg_val (de_var 3) (dg_val (de_pu (pu_int)) (dg_val (de_tup (da_nil)) (dg_nil)))))))))))))))))))))
theorem c_law {P : Program} {w : World} {K : PySem.W.Frag} {mg : MG} {base : Heap} {k : Nat} {S__law_pick : DSp} {S__law_packs : DSp} {S__law_taken : DSp} {S__law_right : DSp} {S__law_choices : DSp} {S__law_alike : DSp} {S_least_repack : DSp} {S__law_best : DSp} {S__law_bad : DSp} {S : DSp} {h : Heap} (XK : K.In h) (GN : h.Ns mainGlobals mg) (LD : LamD K mg base "law") (Fu : FunAt K mg "law" s_law) (B : Blt mg) (C__law_pick : Cal P w K mg base "_law_pick" s__law_pick k ["row", "some"] ms__law_pick S__law_pick) (C__law_packs : Cal P w K mg base "_law_packs" s__law_packs k ["row", "many", "most"] ms__law_packs S__law_packs) (C__law_taken : Cal P w K mg base "_law_taken" s__law_taken k ["row", "many"] ms__law_taken S__law_taken) (C__law_right : Cal P w K mg base "_law_right" s__law_right k ["packs", "want", "due"] ms__law_right S__law_right) (C__law_choices : Cal P w K mg base "_law_choices" s__law_choices k ["packs", "want"] ms__law_choices S__law_choices) (C__law_alike : Cal P w K mg base "_law_alike" s__law_alike k ["found", "due"] ms__law_alike S__law_alike) (C_least_repack : Cal P w K mg base "least_repack" s_least_repack k ["packs", "want"] ms_least_repack S_least_repack) (C__law_best : Cal P w K mg base "_law_best" s__law_best k ["packs", "want"] ms__law_best S__law_best) (C__law_bad : Cal P w K mg base "_law_bad" s__law_bad k ["row", "packs"] ms__law_bad S__law_bad) (Kn : KinOk K mg kin) (M_NotEnough : ClsAt mg "NotEnough") (M_HouseError : ClsAt mg "HouseError") (M_BadPacks : ClsAt mg "BadPacks") (M_BadMany : ClsAt mg "BadMany") (F__law_heard : FunAt K mg "_law_heard" s__law_heard) (hs : ∀ ds post, S ds post → ds.length = ms_law.length → t_law S__law_pick S__law_packs S__law_taken S__law_right S__law_choices S__law_alike S_least_repack S__law_best S__law_bad (env0 ms_law ds N_law.length) (endsOf ms_law post)) : Cal P w K mg base "law" s_law ((k + 2) + 1) ["script"] ms_law S :=
  cal_mkT XK GN LD Fu sc_law rfl (fun _ _ _ _ _ _ us hl => match us, hl with | [_], _ => rfl) (d_law B C__law_pick C__law_packs C__law_taken C__law_right C__law_choices C__law_alike C_least_repack C__law_best C__law_bad Kn M_NotEnough M_HouseError M_BadPacks M_BadMany F__law_heard) hs
end K84
set_option Elab.async false
set_option linter.all false
set_option maxRecDepth 100000
/-! k84, part a: data, the plain checks. -/
namespace K84
open PySem L2 PySem.Spec PyProof.Rows DL
/-! ### the row that the numbers are taken of -/
def Row (d : D) : Prop := ∃ (ns : List Int) (i s c : Int), d = .lst [.lst (ns.map .int), .int i, .int s, .int c] ∧ 0 ≤ i ∧ 0 ≤ s ∧ s < 2147483647
def S__law_taken : DSp := fun ds post => ∃ r m, ds = [r, .int m] ∧ Row r ∧ 0 < m ∧ m < 10 ^ 40 ∧ ∀ v r', 0 ≤ v → v < m → Row r' → post.rt (.int v) 0 [r']
theorem p_taken (ds : List D) (post : DPost) (h : S__law_taken ds post) (_ : ds.length = ms__law_taken.length) : t__law_taken (env0 ms__law_taken ds N__law_taken.length) (endsOf ms__law_taken post) := by
  obtain ⟨r, m, rfl, ⟨ns, i, s, c, rfl, hi, hs0, hs1⟩, hm0, hm1, k⟩ := h
  have mo : MulOk s 48271 := mul_small (by omega) (by omega)
  have big : ∀ a : Int, 0 ≤ a % 2147483647 ∧ a % 2147483647 < 2147483647 := fun a => ⟨Int.emod_nonneg _ (by decide), Int.emod_lt_of_pos _ (by decide)⟩
  refine brB_dec (p := 0 < c) (fun h => ?_) (fun h => ?_)
  · refine And.intro hm0 ?_
    refine And.intro ⟨hm0, hm1⟩ ?_
    exact k _ _ (Int.emod_nonneg _ (by omega)) (Int.emod_lt_of_pos _ hm0) ⟨ns, i, s, _, rfl, hi, hs0, hs1⟩
  · refine brB_dec (p := (((ns.map D.int).length : Int) < i + 1)) (fun h2 => ?_) (fun h2 => ?_)
    · refine And.intro mo ?_
      refine And.intro (by decide) ?_
      refine And.intro (by decide) ?_
      refine And.intro hm0 ?_
      exact k _ _ (Int.emod_nonneg _ (by omega)) (Int.emod_lt_of_pos _ hm0) ⟨ns, i + 1, _, c, rfl, by omega, (big _).1, (big _).2⟩
    · have hl : i.toNat < ns.length := by rw [List.length_map] at h2; omega
      have hg : getI (ns.map D.int) (i + 1 - 1) = some (.int ns[i.toNat]) := getI_int (by omega) (by rw [show i + 1 - 1 = i by omega, List.getElem?_map, List.getElem?_eq_getElem hl]; rfl)
      refine someD_mk hg ?_
      refine And.intro mo ?_
      refine And.intro (by decide) ?_
      refine And.intro ⟨by decide, by decide, by decide⟩ ?_
      refine brB_dec (p := 10 ^ (18 : Nat) ≤ ns[i.toNat]) (fun h3 => ?_) (fun h3 => ?_)
      · refine And.intro ⟨hm0, hm1⟩ ?_
        refine And.intro hm0 ?_
        exact k _ _ (Int.emod_nonneg _ (by omega)) (Int.emod_lt_of_pos _ hm0) ⟨ns, i + 1, _, _, rfl, by omega, (big _).1, (big _).2⟩
      · refine And.intro hm0 ?_
        exact k _ _ (Int.emod_nonneg _ (by omega)) (Int.emod_lt_of_pos _ hm0) ⟨ns, i + 1, _, c, rfl, by omega, (big _).1, (big _).2⟩
def S__law_pick : DSp := fun ds post => ∃ r xs, ds = [r, .lst xs] ∧ Row r ∧ xs ≠ [] ∧ xs.length ≤ 1000 ∧ ∀ x r', x ∈ xs → Row r' → post.rt x 0 [r']
theorem p_pick (ds : List D) (post : DPost) (h : S__law_pick ds post) (_ : ds.length = ms__law_pick.length) : t__law_pick S__law_taken (env0 ms__law_pick ds N__law_pick.length) (endsOf ms__law_pick post) := by
  obtain ⟨r, xs, rfl, hr, hx, hl, k⟩ := h
  have h0 : 0 < xs.length := List.length_pos_iff.mpr hx
  have e40 : (1000 : Int) < 10 ^ 40 := by decide
  have q : S__law_taken [r, .int xs.length] { rt := fun d n os => (eIxV 1 (fun env Q R => Q d n (putL [0] os env)) (env0 ms__law_pick [r, .lst xs] 2) (fun d n env => (endsOf ms__law_pick post).rt d n env) (endsOf ms__law_pick post).ex), ex := fun _ _ => False } := by
    refine ⟨r, _, rfl, hr, by omega, by omega, fun v r' v0 v1 hr' => ?_⟩
    have hg : v.toNat < xs.length := by omega
    refine someD_mk (getI_int v0 (List.getElem?_eq_getElem hg)) ?_
    exact k _ _ (List.getElem_mem hg) hr'
  obtain ⟨r0, m0, e, a, b, c, d⟩ := q
  exact ⟨r0, m0, e, a, b, c, d⟩
end K84
set_option Elab.async false
set_option linter.all false
/-! k84: the least choice, by costs, by triples, among all. -/
namespace M84
/-- a pack: live, dead -/
abbrev Pk := Nat × Nat
abbrev Tr := Nat × Nat × List Nat
def llt : List Nat → List Nat → Bool
  | [], [] => false
  | [], _ :: _ => true
  | _ :: _, [] => false
  | a :: s, b :: t => decide (a < b) || (decide (a = b) && llt s t)
/-- less: octets, packs, indexes -/
def tlt (x y : Tr) : Bool := decide (x.1 < y.1) || (decide (x.1 = y.1) && (decide (x.2.1 < y.2.1) || (decide (x.2.1 = y.2.1) && llt x.2.2 y.2.2)))
theorem llt_irr : ∀ s : List Nat, llt s s = false
  | [] => rfl
  | a :: s => by simp [llt, llt_irr s]
theorem llt_trans : ∀ {s t u : List Nat}, llt s t = true → llt t u = true → llt s u = true
  | [], [], _, h, _ => by cases h
  | [], _ :: _, [], _, h => by cases h
  | [], _ :: _, _ :: _, _, _ => rfl
  | _ :: _, [], _, h, _ => by cases h
  | _ :: _, _ :: _, [], _, h => by cases h
  | a :: s, b :: t, c :: u, h, g => by
    simp only [llt, Bool.or_eq_true, Bool.and_eq_true, decide_eq_true_eq] at h g ⊢
    rcases h with h | ⟨h, h'⟩
    · rcases g with g | ⟨g, g'⟩
      · left; omega
      · left; omega
    · rcases g with g | ⟨g, g'⟩
      · left; omega
      · right; exact ⟨by omega, llt_trans h' g'⟩
theorem llt_tri : ∀ (s t : List Nat), llt s t = false → llt t s = false → s = t
  | [], [], _, _ => rfl
  | [], _ :: _, h, _ => by cases h
  | _ :: _, [], _, h => by cases h
  | a :: s, b :: t, h, g => by
    simp only [llt, Bool.or_eq_false_iff, Bool.and_eq_false_iff, decide_eq_false_iff_not] at h g
    have e : a = b := by omega
    subst e
    rw [llt_tri s t (by rcases h.2 with z | z; exact absurd rfl z; exact z) (by rcases g.2 with z | z; exact absurd rfl z; exact z)]
theorem tlt_iff {x y : Tr} : tlt x y = true ↔ (x.1 < y.1 ∨ (x.1 = y.1 ∧ (x.2.1 < y.2.1 ∨ (x.2.1 = y.2.1 ∧ llt x.2.2 y.2.2 = true)))) := by
  simp only [tlt, Bool.or_eq_true, Bool.and_eq_true, decide_eq_true_eq]
theorem tlt_no {x y : Tr} (h : ¬ (x.1 < y.1 ∨ (x.1 = y.1 ∧ (x.2.1 < y.2.1 ∨ (x.2.1 = y.2.1 ∧ llt x.2.2 y.2.2 = true))))) : tlt x y = false := by
  cases e : tlt x y with
  | false => rfl
  | true => exact absurd (tlt_iff.mp e) h
theorem tlt_irr (x : Tr) : tlt x x = false := by simp [tlt, llt_irr]
theorem tlt_trans {x y z : Tr} (h : tlt x y = true) (g : tlt y z = true) : tlt x z = true := by
  simp only [tlt, Bool.or_eq_true, Bool.and_eq_true, decide_eq_true_eq] at h g ⊢
  rcases h with h | ⟨h, h | ⟨h1, h2⟩⟩ <;> rcases g with g | ⟨g, g | ⟨g1, g2⟩⟩
  · left; omega
  · left; omega
  · left; omega
  · left; omega
  · right; exact ⟨by omega, .inl (by omega)⟩
  · right; exact ⟨by omega, .inl (by omega)⟩
  · left; omega
  · right; exact ⟨by omega, .inl (by omega)⟩
  · right; exact ⟨by omega, .inr ⟨by omega, llt_trans h2 g2⟩⟩
theorem tlt_tri {x y : Tr} (h : tlt x y = false) (g : tlt y x = false) : x = y := by
  obtain ⟨a, b, s⟩ := x
  obtain ⟨c, d, t⟩ := y
  simp only [tlt, Bool.or_eq_false_iff, Bool.and_eq_false_iff, decide_eq_false_iff_not] at h g
  have e1 : a = c := by omega
  have e2 : b = d := by
    rcases h.2 with z | z
    · exact absurd e1 z
    · rcases g.2 with y | y
      · exact absurd e1.symm y
      · omega
  subst e1; subst e2
  have e3 : s = t := llt_tri s t (by
    rcases h.2 with z | z
    · exact absurd rfl z
    · rcases z.2 with z | z
      · exact absurd rfl z
      · exact z) (by
    rcases g.2 with z | z
    · exact absurd rfl z
    · rcases z.2 with z | z
      · exact absurd rfl z
      · exact z)
  rw [e3]
/-- the lesser of two, the first at a tie -/
def tmin (x y : Tr) : Tr := if tlt y x = true then y else x
def omin : Option Tr → Option Tr → Option Tr
  | none, y => y
  | x, none => x
  | some x, some y => some (tmin x y)
/-- p, at index i, is taken too -/
def add (i : Nat) (p : Pk) (x : Tr) : Tr := (x.1 + p.1, x.2.1 + 1, i :: x.2.2)
/-- the least choice from index i on that frees w -/
def B : Nat → List Pk → Nat → Option Tr
  | _, [], w => if w = 0 then some (0, 0, []) else none
  | i, p :: ps, w => if w = 0 then some (0, 0, []) else if 0 < p.2 then omin (B (i + 1) ps w) ((B (i + 1) ps (w - p.2)).map (add i p)) else B (i + 1) ps w
/-- the costs' row -/
def C : List Pk → Nat → Option Nat
  | [], w => if w = 0 then some 0 else none
  | p :: ps, w => if w = 0 then some 0 else match C ps (w - p.2) with
    | none => C ps w
    | some c => match C ps w with
      | none => some (c + 64 * p.1 + 1)
      | some c0 => if c + 64 * p.1 + 1 < c0 then some (c + 64 * p.1 + 1) else some c0
/-- what is taken, index by index -/
def G : Nat → List Pk → Nat → List Nat
  | _, [], _ => []
  | i, p :: ps, w => if 0 < w ∧ ∃ r, C ps (w - p.2) = some r ∧ C (p :: ps) w = some (r + 64 * p.1 + 1) then i :: G (i + 1) ps (w - p.2) else G (i + 1) ps w
theorem B_zero (i : Nat) (ps : List Pk) : B i ps 0 = some (0, 0, []) := by cases ps <;> simp [B]
theorem C_zero (ps : List Pk) : C ps 0 = some 0 := by cases ps <;> simp [C]
theorem G_zero : ∀ (i : Nat) (ps : List Pk), G i ps 0 = []
  | _, [] => rfl
  | i, p :: ps => by
    unfold G
    rw [if_neg (fun h => absurd h.1 (Nat.lt_irrefl 0)), G_zero]
/-- choices -/
inductive Sub : Nat → List Pk → Tr → Nat → Prop
  | nil {i} : Sub i [] (0, 0, []) 0
  | skip {i p ps x d} : Sub (i + 1) ps x d → Sub i (p :: ps) x d
  | take {i p ps x d} : Sub (i + 1) ps x d → Sub i (p :: ps) (add i p x) (d + p.2)
theorem Sub.none : ∀ (i : Nat) (ps : List Pk), Sub i ps (0, 0, []) 0
  | _, [] => .nil
  | i, _ :: ps => .skip (Sub.none (i + 1) ps)
theorem Sub.ge {i : Nat} {ps : List Pk} {x : Tr} {d : Nat} (h : Sub i ps x d) : ∀ j ∈ x.2.2, i ≤ j := by
  induction h with
  | nil => intro j hj; cases hj
  | skip _ ih => intro j hj; have := ih j hj; omega
  | take _ ih =>
    intro j hj
    rcases List.mem_cons.mp hj with e | hj
    · omega
    · have := ih j hj; omega
theorem Sub.cnt {i : Nat} {ps : List Pk} {x : Tr} {d : Nat} (h : Sub i ps x d) : x.2.1 = x.2.2.length ∧ x.2.1 ≤ ps.length := by
  induction h with
  | nil => exact ⟨rfl, Nat.le_refl _⟩
  | skip _ ih => exact ⟨ih.1, by simp; omega⟩
  | take _ ih => exact ⟨by simp [add, ih.1], by simp [add]; omega⟩
theorem tlt_zero {x : Tr} (h : x.2.1 = x.2.2.length) : tlt x (0, 0, []) = false := by
  obtain ⟨a, b, s⟩ := x
  simp only [tlt, Bool.or_eq_false_iff, Bool.and_eq_false_iff, decide_eq_false_iff_not]
  refine ⟨by omega, ?_⟩
  by_cases e : a = 0
  · right
    refine ⟨by omega, ?_⟩
    cases s with
    | nil => right; rfl
    | cons c s => left; simp at h; simp [h]
  · left; exact e
theorem add_lt {i : Nat} {p : Pk} {x y : Tr} : tlt (add i p x) (add i p y) = tlt x y := by
  simp [tlt, add, llt]
theorem tmin_le1 (x y : Tr) : tlt x (tmin x y) = false := by
  unfold tmin
  split
  · rename_i h
    cases e : tlt x y with
    | false => rfl
    | true => have := tlt_trans h e; rw [tlt_irr] at this; cases this
  · exact tlt_irr x
theorem tmin_le2 (x y : Tr) : tlt y (tmin x y) = false := by
  unfold tmin
  split
  · exact tlt_irr y
  · rename_i h
    cases e : tlt y x with
    | false => rfl
    | true => exact absurd e h
theorem le_trans {x y z : Tr} (h : tlt y x = false) (g : tlt z y = false) : tlt z x = false := by
  cases e : tlt z x with
  | false => rfl
  | true =>
    cases e2 : tlt x y with
    | true => have := tlt_trans e e2; rw [g] at this; cases this
    | false => have := tlt_tri e2 h; subst this; rw [g] at e; cases e
/-- a choice that takes no pack without dead octets is no worse -/
theorem B_spec : ∀ (i : Nat) (ps : List Pk) (w : Nat), (∀ x, B i ps w = some x → ∃ d, w ≤ d ∧ Sub i ps x d) ∧ (∀ y d, Sub i ps y d → w ≤ d → ∃ x, B i ps w = some x ∧ tlt y x = false)
  | i, [], w => by
    unfold B
    by_cases h : w = 0
    · rw [if_pos h]
      refine ⟨fun x e => ?_, fun y d s _ => ⟨_, rfl, tlt_zero s.cnt.1⟩⟩
      cases e
      exact ⟨0, by omega, .nil⟩
    · rw [if_neg h]
      refine ⟨fun x e => (by cases e), fun y d s hw => ?_⟩
      cases s
      omega
  | i, p :: ps, w => by
    unfold B
    by_cases h : w = 0
    · rw [if_pos h]
      refine ⟨fun x e => ?_, fun y d s _ => ⟨_, rfl, tlt_zero s.cnt.1⟩⟩
      cases e
      exact ⟨0, by omega, .none _ _⟩
    · rw [if_neg h]
      obtain ⟨a1, a2⟩ := B_spec (i + 1) ps w
      obtain ⟨b1, b2⟩ := B_spec (i + 1) ps (w - p.2)
      by_cases hp : 0 < p.2
      · rw [if_pos hp]
        refine ⟨fun x e => ?_, fun y d s hw => ?_⟩
        · cases ea : B (i + 1) ps w with
          | none =>
            rw [ea] at e
            cases eb : B (i + 1) ps (w - p.2) with
            | none => rw [eb] at e; cases e
            | some z =>
              rw [eb] at e
              cases e
              obtain ⟨d, h1, h2⟩ := b1 z eb
              exact ⟨d + p.2, by omega, .take h2⟩
          | some u =>
            rw [ea] at e
            obtain ⟨d, h1, h2⟩ := a1 u ea
            cases eb : B (i + 1) ps (w - p.2) with
            | none => rw [eb] at e; cases e; exact ⟨d, h1, .skip h2⟩
            | some z =>
              rw [eb] at e
              obtain ⟨d', h3, h4⟩ := b1 z eb
              have e : tmin u (add i p z) = x := Option.some.inj e
              subst e
              unfold tmin
              split
              · exact ⟨d' + p.2, by omega, .take h4⟩
              · exact ⟨d, h1, .skip h2⟩
        · have key : ∃ z, (B (i + 1) ps w = some z ∨ ∃ u, B (i + 1) ps (w - p.2) = some u ∧ z = add i p u) ∧ tlt y z = false := by
            cases s with
            | skip s =>
              obtain ⟨z, h1, h2⟩ := a2 y d s hw
              exact ⟨z, .inl h1, h2⟩
            | @take _ _ _ x' d' s =>
              obtain ⟨z, h1, h2⟩ := b2 x' d' s (by omega)
              exact ⟨add i p z, .inr ⟨z, h1, rfl⟩, by rw [add_lt]; exact h2⟩
          obtain ⟨z, hz, hy⟩ := key
          cases ea : B (i + 1) ps w with
          | none =>
            rcases hz with hz | ⟨u, hz, rfl⟩
            · rw [ea] at hz; cases hz
            · rw [hz]; exact ⟨_, rfl, hy⟩
          | some v =>
            cases eb : B (i + 1) ps (w - p.2) with
            | none =>
              rcases hz with hz | ⟨u, hz, rfl⟩
              · rw [ea] at hz; cases hz; exact ⟨_, rfl, hy⟩
              · rw [eb] at hz; cases hz
            | some u =>
              refine ⟨tmin v (add i p u), rfl, ?_⟩
              rcases hz with hz | ⟨u', hz, rfl⟩
              · rw [ea] at hz; cases hz
                exact le_trans (tmin_le1 _ _) hy
              · rw [eb] at hz; cases hz
                exact le_trans (tmin_le2 _ _) hy
      · rw [if_neg hp]
        refine ⟨fun x e => ?_, fun y d s hw => ?_⟩
        · obtain ⟨d, h1, h2⟩ := a1 x e
          exact ⟨d, h1, .skip h2⟩
        · cases s with
          | skip s => exact a2 y d s hw
          | @take _ _ _ x' d' s =>
            obtain ⟨z, h1, h2⟩ := a2 x' d' s (by omega)
            refine ⟨z, h1, ?_⟩
            refine le_trans h2 (tlt_no ?_)
            show ¬ (x'.1 + p.1 < x'.1 ∨ (x'.1 + p.1 = x'.1 ∧ (x'.2.1 + 1 < x'.2.1 ∨ (x'.2.1 + 1 = x'.2.1 ∧ _))))
            rintro (q | ⟨_, q | ⟨q, _⟩⟩) <;> omega
/-- the costs are those of the least choice; what is taken by them is that choice -/
theorem C_spec : ∀ (i : Nat) (ps : List Pk) (w : Nat), ps.length ≤ 60 → (B i ps w = none → C ps w = none) ∧ (∀ o c s, B i ps w = some (o, c, s) → C ps w = some (64 * o + c) ∧ c ≤ ps.length ∧ G i ps w = s)
  | i, [], w, _ => by
    unfold B C
    by_cases h : w = 0
    · rw [if_pos h, if_pos h]
      refine ⟨fun e => (by cases e), fun o c s e => ?_⟩
      cases e
      exact ⟨rfl, Nat.le_refl _, rfl⟩
    · rw [if_neg h, if_neg h]
      exact ⟨fun _ => rfl, fun o c s e => (by cases e)⟩
  | i, p :: ps, w, hl => by
    have hl' : ps.length + 1 ≤ 60 := hl
    by_cases h : w = 0
    · subst h
      rw [B_zero, C_zero, G_zero]
      refine ⟨fun e => (by cases e), fun o c s e => ?_⟩
      cases e
      exact ⟨rfl, Nat.zero_le _, rfl⟩
    · obtain ⟨a1, a2⟩ := C_spec (i + 1) ps w (by omega)
      obtain ⟨b1, b2⟩ := C_spec (i + 1) ps (w - p.2) (by omega)
      have w0 : 0 < w := by omega
      have hB : B i (p :: ps) w = if 0 < p.2 then omin (B (i + 1) ps w) ((B (i + 1) ps (w - p.2)).map (add i p)) else B (i + 1) ps w := by
        conv => lhs; unfold B
        rw [if_neg h]
      have hC : C (p :: ps) w = match C ps (w - p.2) with
          | none => C ps w
          | some c => match C ps w with
            | none => some (c + 64 * p.1 + 1)
            | some c0 => if c + 64 * p.1 + 1 < c0 then some (c + 64 * p.1 + 1) else some c0 := by
        conv => lhs; unfold C
        rw [if_neg h]
      have gT : ∀ r, C ps (w - p.2) = some r → C (p :: ps) w = some (r + 64 * p.1 + 1) → G i (p :: ps) w = i :: G (i + 1) ps (w - p.2) := fun r e1 e2 => by
        conv => lhs; unfold G
        rw [if_pos ⟨w0, r, e1, e2⟩]
      have gF : (∀ r, C ps (w - p.2) = some r → C (p :: ps) w ≠ some (r + 64 * p.1 + 1)) → G i (p :: ps) w = G (i + 1) ps w := fun z => by
        conv => lhs; unfold G
        rw [if_neg fun ⟨_, r, e1, e2⟩ => z r e1 e2]
      rw [hB]
      by_cases hp : 0 < p.2
      · rw [if_pos hp]
        cases ea : B (i + 1) ps w with
        | none =>
          have ca := a1 ea
          cases eb : B (i + 1) ps (w - p.2) with
          | none =>
            have cb := b1 eb
            rw [cb, ca] at hC
            exact ⟨fun _ => hC, fun o c s e => by cases e⟩
          | some z =>
            obtain ⟨o, c, s⟩ := z
            obtain ⟨c1, c2, c3⟩ := b2 o c s eb
            rw [c1, ca] at hC
            refine ⟨fun e => (by cases e), fun o' c' s' e => ?_⟩
            have e : add i p (o, c, s) = (o', c', s') := Option.some.inj e
            cases e
            refine ⟨by rw [hC]; show some (64 * o + c + 64 * p.1 + 1) = some (64 * (o + p.1) + (c + 1)); congr 1; omega, by simp; omega, ?_⟩
            rw [gT _ c1 hC, c3]
        | some u =>
          obtain ⟨ou, cu, su⟩ := u
          obtain ⟨u1, u2, u3⟩ := a2 ou cu su ea
          cases eb : B (i + 1) ps (w - p.2) with
          | none =>
            have cb := b1 eb
            rw [cb, u1] at hC
            refine ⟨fun e => (by cases e), fun o' c' s' e => ?_⟩
            have e : (ou, cu, su) = (o', c', s') := Option.some.inj e
            cases e
            exact ⟨hC, by simp; omega, by rw [gF fun r e1 => by rw [cb] at e1; cases e1]; exact u3⟩
          | some z =>
            obtain ⟨o, c, s⟩ := z
            obtain ⟨c1, c2, c3⟩ := b2 o c s eb
            rw [c1, u1] at hC
            have hC : C (p :: ps) w = if 64 * o + c + 64 * p.1 + 1 < 64 * ou + cu then some (64 * o + c + 64 * p.1 + 1) else some (64 * ou + cu) := hC
            refine ⟨fun e => (by cases e), fun o' c' s' e => ?_⟩
            have e : tmin (ou, cu, su) (add i p (o, c, s)) = (o', c', s') := Option.some.inj e
            by_cases hlt : 64 * o + c + 64 * p.1 + 1 < 64 * ou + cu
            · rw [if_pos hlt] at hC
              have tl : tlt (add i p (o, c, s)) (ou, cu, su) = true := by
                refine tlt_iff.mpr ?_
                show o + p.1 < ou ∨ (o + p.1 = ou ∧ (c + 1 < cu ∨ (c + 1 = cu ∧ _)))
                by_cases q : o + p.1 < ou
                · left; exact q
                · right
                  refine ⟨by omega, .inl (by omega)⟩
              unfold tmin at e
              rw [if_pos tl] at e
              cases e
              refine ⟨by rw [hC]; show some (64 * o + c + 64 * p.1 + 1) = some (64 * (o + p.1) + (c + 1)); congr 1; omega, by simp; omega, ?_⟩
              rw [gT _ c1 hC, c3]
            · rw [if_neg hlt] at hC
              by_cases heq : 64 * o + c + 64 * p.1 + 1 = 64 * ou + cu
              · -- a tie: the one that begins here is the less
                obtain ⟨_, sb⟩ := (B_spec (i + 1) ps w).1 _ ea
                have sge := sb.2.ge
                have scnt := sb.2.cnt.1
                have tl : tlt (add i p (o, c, s)) (ou, cu, su) = true := by
                  refine tlt_iff.mpr ?_
                  show o + p.1 < ou ∨ (o + p.1 = ou ∧ (c + 1 < cu ∨ (c + 1 = cu ∧ llt (i :: s) su = true)))
                  right
                  refine ⟨by omega, .inr ⟨by omega, ?_⟩⟩
                  cases su with
                  | nil => simp at scnt; omega
                  | cons a t =>
                    have := sge a List.mem_cons_self
                    simp only [llt, Bool.or_eq_true, decide_eq_true_eq]
                    left; omega
                unfold tmin at e
                rw [if_pos tl] at e
                cases e
                rw [← heq] at hC
                refine ⟨by rw [hC]; show some (64 * o + c + 64 * p.1 + 1) = some (64 * (o + p.1) + (c + 1)); congr 1; omega, by simp; omega, ?_⟩
                rw [gT _ c1 hC, c3]
              · have tl : ¬ tlt (add i p (o, c, s)) (ou, cu, su) = true := by
                  intro q
                  have q : o + p.1 < ou ∨ (o + p.1 = ou ∧ (c + 1 < cu ∨ (c + 1 = cu ∧ llt (i :: s) su = true))) := tlt_iff.mp q
                  rcases q with q | ⟨q, q2 | ⟨q2, _⟩⟩
                  · omega
                  · omega
                  · omega
                unfold tmin at e
                rw [if_neg tl] at e
                cases e
                refine ⟨hC, by simp; omega, ?_⟩
                rw [gF fun r e1 e2 => ?_]
                · exact u3
                · rw [c1] at e1; cases e1
                  rw [hC] at e2
                  exact heq (Option.some.inj e2).symm
      · rw [if_neg hp]
        have e0 : w - p.2 = w := by omega
        rw [e0] at hC
        cases ea : B (i + 1) ps w with
        | none =>
          have ca := a1 ea
          rw [ca] at hC
          exact ⟨fun _ => hC, fun o c s e => (by cases e)⟩
        | some u =>
          obtain ⟨ou, cu, su⟩ := u
          obtain ⟨u1, u2, u3⟩ := a2 ou cu su ea
          rw [u1] at hC
          have hC : C (p :: ps) w = if 64 * ou + cu + 64 * p.1 + 1 < 64 * ou + cu then some (64 * ou + cu + 64 * p.1 + 1) else some (64 * ou + cu) := hC
          rw [if_neg (by omega)] at hC
          refine ⟨fun e => (by cases e), fun o' c' s' e => ?_⟩
          cases e
          refine ⟨hC, by simp; omega, ?_⟩
          rw [gF fun r e1 e2 => ?_]
          · exact u3
          · rw [e0, u1] at e1; cases e1
            rw [hC] at e2
            have := Option.some.inj e2
            omega
/-- enough dead octets: there is a choice -/
theorem Sub.all : ∀ (i : Nat) (ps : List Pk), ∃ x, Sub i ps x (ps.map (·.2)).sum
  | _, [] => ⟨_, .nil⟩
  | i, p :: ps => by
    obtain ⟨x, h⟩ := Sub.all (i + 1) ps
    exact ⟨_, by rw [List.map_cons, List.sum_cons, Nat.add_comm]; exact .take h⟩
theorem B_some {i : Nat} {ps : List Pk} {w : Nat} (h : w ≤ (ps.map (·.2)).sum) : ∃ x, B i ps w = some x := by
  obtain ⟨x, s⟩ := Sub.all i ps
  obtain ⟨y, hy, _⟩ := (B_spec i ps w).2 x _ s h
  exact ⟨y, hy⟩
theorem Sub.fst {i : Nat} {ps : List Pk} {x : Tr} {d : Nat} (h : Sub i ps x d) : ∀ (hm : ∀ p ∈ ps, p.1 ≤ 60000), x.1 ≤ 60000 * ps.length := by
  induction h with
  | nil => intro _; exact Nat.zero_le _
  | skip _ ih => intro hm; have := ih (fun p hp => hm p (List.mem_cons_of_mem _ hp)); simp; omega
  | take _ ih => intro hm; have := ih (fun p hp => hm p (List.mem_cons_of_mem _ hp)); have := hm _ List.mem_cons_self; simp [add]; omega
end M84
set_option Elab.async false
set_option linter.all false
set_option maxRecDepth 100000
set_option maxHeartbeats 2000000
/-! k84, part b: the plain checks; alike. -/
namespace K84
open PySem L2 PySem.Spec PyProof.Rows DL
theorem mk_taken {post : DPost} {r : D} {m : Int} (hr : Row r) (h0 : 0 < m) (h1 : m < 10 ^ 40) (k : ∀ v r', 0 ≤ v → v < m → Row r' → post.rt (.int v) 0 [r']) : S__law_taken [r, .int m] post := ⟨r, m, rfl, hr, h0, h1, k⟩
theorem mk_pick {post : DPost} {r : D} {xs : List D} (hr : Row r) (h0 : xs ≠ []) (h1 : xs.length ≤ 1000) (k : ∀ x r', x ∈ xs → Row r' → post.rt x 0 [r']) : S__law_pick [r, .lst xs] post := ⟨r, xs, rfl, hr, h0, h1, k⟩
/-! ### things of any kind -/
/-- isinstance may be asked of it -/
def Kn (d : D) : Prop := ∃ t, tyS d = some t
theorem isQ {d : D} {ks : List Kd} {env : DEnv} {i : Nat} {b : Bd} {Q : D → Prop} (hb : gt env i = some b) (e : b.d = d) (h : Kn d) (k : Q (.bl (isKs d ks))) : pIs (pVar i) ks env Q := by
  obtain ⟨t, ht⟩ := h
  unfold pIs pVar
  rw [hb]
  show (match tyS b.d with | some _ => Q (.bl (isKs b.d ks)) | none => False)
  rw [e, ht]
  exact k
def isInt : D → Bool
  | .int _ => true
  | _ => false
def S_is_integer : DSp := fun ds post => ∃ d, ds = [d] ∧ Kn d ∧ post.rt (.bl (isInt d)) 0 []
theorem mk_is_integer {post : DPost} {d : D} (h : Kn d) (k : post.rt (.bl (isInt d)) 0 []) : S_is_integer [d] post := ⟨d, rfl, h, k⟩
theorem p_is_integer (ds : List D) (post : DPost) (h : S_is_integer ds post) (_ : ds.length = ms_is_integer.length) : t_is_integer (env0 ms_is_integer ds N_is_integer.length) (endsOf ms_is_integer post) := by
  obtain ⟨d, rfl, h, k⟩ := h
  obtain ⟨t, ht⟩ := h
  cases d <;> first | (cases ht; done) | exact k
def within (d : D) (lo hi : Int) : Bool := match d with
  | .int a => decide (lo ≤ a) && decide (a ≤ hi)
  | _ => false
def S_is_within : DSp := fun ds post => ∃ d lo hi, ds = [d, .int lo, .int hi] ∧ Kn d ∧ post.rt (.bl (within d lo hi)) 0 []
theorem mk_is_within {post : DPost} {d : D} {lo hi : Int} (h : Kn d) (k : post.rt (.bl (within d lo hi)) 0 []) : S_is_within [d, .int lo, .int hi] post := ⟨d, lo, hi, rfl, h, k⟩
theorem p_is_within (ds : List D) (post : DPost) (h : S_is_within ds post) (_ : ds.length = ms_is_within.length) : t_is_within S_is_integer (env0 ms_is_within ds N_is_within.length) (endsOf ms_is_within post) := by
  obtain ⟨d, lo, hi, rfl, h, k⟩ := h
  refine mk_is_integer h ?_
  obtain ⟨t, ht⟩ := h
  cases d with
  | int a =>
    have k : post.rt (.bl (decide (lo ≤ a) && decide (a ≤ hi))) 0 [] := k
    refine brB_dec (p := lo ≤ a) (fun z => ?_) (fun z => ?_)
    · rw [decide_eq_true z, Bool.true_and] at k
      exact k
    · rw [decide_eq_false z, Bool.false_and] at k
      exact k
  | _ => first | (cases ht; done) | exact k
def S_is_row : DSp := fun ds post => ∃ d, ds = [d] ∧ Kn d ∧ post.rt (.bl (isKs d [.list, .tuple])) 0 []
theorem mk_is_row {post : DPost} {d : D} (h : Kn d) (k : post.rt (.bl (isKs d [.list, .tuple])) 0 []) : S_is_row [d] post := ⟨d, rfl, h, k⟩
theorem p_is_row (ds : List D) (post : DPost) (h : S_is_row ds post) (_ : ds.length = ms_is_row.length) : t_is_row (env0 ms_is_row ds N_is_row.length) (endsOf ms_is_row post) := by
  obtain ⟨d, rfl, h, k⟩ := h
  obtain ⟨t, ht⟩ := h
  cases d <;> first | (cases ht; done) | exact k
/-! ### loads -/
def loadB : D → Bool
  | .tup [a, b] => within a 0 60000 && within b 0 60000
  | _ => false
/-- a load may be asked of it -/
def Kl (d : D) : Prop := Kn d ∧ ∀ ds, (d = .tup ds → ∀ x ∈ ds, Kn x) ∧ d ≠ .ktu ds
def S_is_load : DSp := fun ds post => ∃ d, ds = [d] ∧ Kl d ∧ post.rt (.bl (loadB d)) 0 []
theorem mk_is_load {post : DPost} {d : D} (h : Kl d) (k : post.rt (.bl (loadB d)) 0 []) : S_is_load [d] post := ⟨d, rfl, h, k⟩
theorem p_is_load (ds : List D) (post : DPost) (h : S_is_load ds post) (_ : ds.length = ms_is_load.length) : t_is_load S_is_within (env0 ms_is_load ds N_is_load.length) (endsOf ms_is_load post) := by
  obtain ⟨d, rfl, ⟨⟨t, ht⟩, hx⟩, k⟩ := h
  cases d with
  | tup ds =>
    have hx := (hx ds).1 rfl
    match ds, hx, k with
    | [], _, k => exact k
    | [_], _, k => exact k
    | [a, b], hx, k =>
      refine mk_is_within (hx a (by simp)) ?_
      have k : post.rt (.bl (within a 0 60000 && within b 0 60000)) 0 [] := k
      cases e : within a 0 60000 with
      | false => rw [e] at k; exact k
      | true =>
        rw [e, Bool.true_and] at k
        refine mk_is_within (hx b (by simp)) ?_
        exact k
    | a :: b :: c :: r, _, k =>
      exact k
  | ktu ds => exact absurd rfl (hx ds).2
  | _ => first | (cases ht; done) | exact k
/-! ### alike -/
def Good : Nat → D → Prop
  | _, .int _ => True
  | _, .non => True
  | _, .bl _ => True
  | _, .str s => (PyData.str s).canLay0 = true
  | n + 1, .lst ds => ds.length ≤ 1000 ∧ ∀ d ∈ ds, Good n d
  | n + 1, .tup ds => ds.length ≤ 1000 ∧ ∀ d ∈ ds, Good n d
  | _, _ => False
def SA : Nat → DSp
  | 0 => fun _ _ => False
  | n + 1 => fun ds post => ∃ d, ds = [d, d] ∧ Good n d ∧ post.rt (.bl true) 0 []
theorem mk_alike {post : DPost} {n : Nat} {d : D} (h : Good n d) (k : post.rt (.bl true) 0 []) : SA (n + 1) [d, d] post := ⟨d, rfl, h, k⟩
theorem alike_loop {n : Nat} {ds : List D} (X : D) (hX : ∀ (j : Nat) (hj : j < ds.length) (Q : Qn), Q ds[j] 0 → odIx X (.int (j : Int)) Q) (hg : ∀ d ∈ ds, Good n d) (a3 : Option Bd) : ∀ (m j : Nat), j + m = ds.length → ∀ Q : QE, Q (.lst []) 1 [some ⟨X, 0, false⟩, some ⟨X, 0, false⟩, none, a3] →
    lcD (.nm 2) (q__law_alike_1 (SA (n + 1))) (eVar 2) [2] ((List.range' j m).map fun (i : Nat) => D.int (i : Int)) [] [some ⟨X, 0, false⟩, some ⟨X, 0, false⟩, none, a3] Q
  | 0, j, _, Q, k => k
  | m + 1, j, hj, Q, k => by
    have hjl : j < ds.length := by omega
    rw [List.range'_succ, List.map_cons]
    refine hX j hjl _ ?_
    refine hX j hjl _ ?_
    refine mk_alike (hg _ (List.getElem_mem hjl)) ?_
    exact alike_loop X hX hg a3 m (j + 1) (by omega) Q k
theorem rng0 (n : Nat) : rngD 0 n = (List.range' 0 n).map fun (i : Nat) => D.int (i : Int) := by
  unfold rngD
  rw [List.range_eq_range']
  exact List.map_congr_left fun i _ => by rw [Int.zero_add]
theorem p_alike (n : Nat) (ds : List D) (post : DPost) (h : SA (n + 1) ds post) (_ : ds.length = ms__law_alike.length) : t__law_alike (SA n) (env0 ms__law_alike ds N__law_alike.length) (endsOf ms__law_alike post) := by
  obtain ⟨d, rfl, hg, k⟩ := h
  cases d with
  | int i =>
    refine And.intro rfl ?_
    show post.rt (.bl (decide (i = i))) 0 []
    rw [decide_eq_true rfl]
    exact k
  | bl b =>
    refine And.intro rfl ?_
    show post.rt (.bl (decide (b = b))) 0 []
    rw [decide_eq_true rfl]
    exact k
  | non =>
    refine And.intro rfl ?_
    exact k
  | str s =>
    refine And.intro rfl ?_
    show brB (decide (s = s)) (post.rt (.bl true) 0 []) (post.rt (.bl false) 0 [])
    rw [decide_eq_true rfl]
    exact k
  | lst ds =>
    cases n with
    | zero => exact hg.elim
    | succ n =>
      refine brB_not (brB_t (decide_eq_true rfl) ?_)
      refine And.intro (show -(2 ^ 62) ≤ (ds.length : Int) ∧ (ds.length : Int) < 2 ^ 62 by have := hg.1; omega) ?_
      rw [show rngD 0 ((ds.length : Int)).toNat = (List.range' 0 ds.length).map fun (i : Nat) => D.int (i : Int) by rw [show ((ds.length : Int)).toNat = ds.length by omega, rng0]]
      refine alike_loop (ds := ds) (.lst ds) (fun j hj Q q => someD_mk (getI_nat (List.getElem?_eq_getElem hj)) q) hg.2 none ds.length 0 (by omega) _ ?_
      refine eqNil (n := 1) (fun d hd => nomatch hd) (by decide) ?_
      exact k
  | tup ds =>
    cases n with
    | zero => exact hg.elim
    | succ n =>
      refine brB_not (brB_t (decide_eq_true rfl) ?_)
      refine And.intro (show -(2 ^ 62) ≤ (ds.length : Int) ∧ (ds.length : Int) < 2 ^ 62 by have := hg.1; omega) ?_
      rw [show rngD 0 ((ds.length : Int)).toNat = (List.range' 0 ds.length).map fun (i : Nat) => D.int (i : Int) by rw [show ((ds.length : Int)).toNat = ds.length by omega, rng0]]
      refine alike_loop (ds := ds) (.tup ds) (fun j hj Q q => someD_mk (getI_nat (List.getElem?_eq_getElem hj)) q) hg.2 none ds.length 0 (by omega) _ ?_
      refine eqNil (n := 1) (fun d hd => nomatch hd) (by decide) ?_
      exact k
  | _ => cases n <;> exact hg.elim
end K84
set_option Elab.async false
set_option linter.all false
set_option maxRecDepth 100000
set_option maxHeartbeats 2000000
/-! k84, part c: the check of loads. -/
namespace K84
open PySem L2 PySem.Spec PyProof.Rows DL
def sq (b : Bool) (ds : List D) : D := match b with
  | true => .lst ds
  | false => .tup ds
abbrev xv (c : Str) (d : D) : Exc := ⟨c, [("value", d)]⟩
/-- the first that is no load -/
def BadAt (xs : List D) (i : Nat) : Prop := i < xs.length ∧ (∀ q x, q < i → xs[q]? = some x → loadB x = true) ∧ ∀ x, xs[i]? = some x → loadB x = false
def S_check_loads : DSp := fun ds post => ∃ d, ds = [d] ∧ Kn d ∧
  ((isKs d [.list, .tuple] = false ∧ post.ex (xv "BadPacks" (.int (-1))) []) ∨
   ∃ b xs, d = sq b xs ∧ (60 < xs.length ∧ post.ex (xv "BadPacks" (.int (-1))) [] ∨
     xs.length ≤ 60 ∧ (∀ x ∈ xs, Kl x) ∧ ((∃ i : Nat, BadAt xs i ∧ post.ex (xv "BadPacks" (.int i)) []) ∨ ((∀ x ∈ xs, loadB x = true) ∧ post.rt .non 0 []))))
theorem enum_eq (ds : List D) : enumD ds = (List.range' 0 ds.length).map fun (i : Nat) => .tup [.int (i : Int), ds.getD i .non] := by
  unfold enumD
  rw [List.range_eq_range']
theorem cl_loop (X : D) (xs : List D) (hK : ∀ x ∈ xs, Kl x) : ∀ (m j : Nat) (o1 o2 : Option Bd), j + m = xs.length → ∀ Dn : DEnds,
    ((∀ q x, j ≤ q → xs[q]? = some x → loadB x = true) → ∀ o1 o2, Dn.nx [some ⟨X, 0, false⟩, o1, o2]) →
    (∀ i, j ≤ i → i < xs.length → (∀ q x, j ≤ q → q < i → xs[q]? = some x → loadB x = true) → (∀ x, xs[i]? = some x → loadB x = false) → ∀ env, env.length = 3 → Dn.ex (xv "BadPacks" (.int (i : Int))) env) →
    forD (.tu [.nm 1, .nm 2]) (b_check_loads_1 S_is_row S_is_load) ((List.range' j m).map fun (i : Nat) => .tup [.int (i : Int), xs.getD i .non]) [some ⟨X, 0, false⟩, o1, o2] Dn
  | 0, j, o1, o2, hj, Dn, k, _ => k (fun q x h e => by have := (List.getElem?_eq_some_iff.mp e).1; omega) o1 o2
  | m + 1, j, o1, o2, hj, Dn, k, kx => by
    have hjl : j < xs.length := by omega
    have ej := List.getElem?_eq_getElem hjl
    have eg : xs.getD j .non = xs[j] := by rw [List.getD_eq_getElem?_getD, ej]; rfl
    rw [List.range'_succ, List.map_cons, eg]
    refine mk_is_load (hK _ (List.getElem_mem hjl)) ?_
    cases e : loadB xs[j] with
    | false =>
      refine kx j (Nat.le_refl _) hjl (fun q x h1 h2 _ => by omega) (fun x ex => ?_) _ rfl
      rw [ej] at ex
      cases ex
      exact e
    | true =>
      refine cl_loop X xs hK m (j + 1) _ _ (by omega) Dn (fun h => k fun q x h1 h2 => ?_) (fun i h1 h2 h3 h4 => kx i (by omega) h2 (fun q x h5 h6 h7 => ?_) h4)
      · by_cases z : q = j
        · subst z
          rw [ej] at h2
          cases h2
          exact e
        · exact h q x (by omega) h2
      · by_cases z : q = j
        · subst z
          rw [ej] at h7
          cases h7
          exact e
        · exact h3 q x (by omega) h6 h7
theorem p_check_loads (ds : List D) (post : DPost) (h : S_check_loads ds post) (_ : ds.length = ms_check_loads.length) : t_check_loads S_is_row S_is_load (env0 ms_check_loads ds N_check_loads.length) (endsOf ms_check_loads post) := by
  obtain ⟨d, rfl, hk, h⟩ := h
  refine mk_is_row hk ?_
  rcases h with ⟨h1, k⟩ | ⟨b, xs, rfl, h⟩
  · rw [h1]
    exact k
  · have er : isKs (sq b xs) [.list, .tuple] = true := by cases b <;> rfl
    rw [er]
    have go : (60 < xs.length → post.ex (xv "BadPacks" (.int (-1))) []) → (xs.length ≤ 60 → forD (.tu [.nm 1, .nm 2]) (b_check_loads_1 S_is_row S_is_load) (enumD xs) [some ⟨sq b xs, 0, false⟩, none, none] (endsOf ms_check_loads post)) →
        brB (decide ((60 : Int) < (xs.length : Int))) (post.ex (xv "BadPacks" (.int (-1))) []) (forD (.tu [.nm 1, .nm 2]) (b_check_loads_1 S_is_row S_is_load) (enumD xs) [some ⟨sq b xs, 0, false⟩, none, none] (endsOf ms_check_loads post)) := fun g1 g2 =>
      brB_dec (fun z => g1 (by omega)) (fun z => g2 (by omega))
    have fin : brB (decide ((60 : Int) < (xs.length : Int))) (post.ex (xv "BadPacks" (.int (-1))) []) (forD (.tu [.nm 1, .nm 2]) (b_check_loads_1 S_is_row S_is_load) (enumD xs) [some ⟨sq b xs, 0, false⟩, none, none] (endsOf ms_check_loads post)) := by
      rcases h with ⟨h1, k⟩ | ⟨h1, hK, h⟩
      · exact go (fun _ => k) (fun z => by omega)
      · refine go (fun z => by omega) (fun _ => ?_)
        rw [enum_eq]
        refine cl_loop (sq b xs) xs hK xs.length 0 none none (by omega) _ (fun ha o1 o2 => ?_) (fun i _ hi hb hn env he => ?_)
        · rcases h with ⟨i, ⟨b1, b2, b3⟩, _⟩ | ⟨_, k⟩
          · have := ha i _ (Nat.zero_le _) (List.getElem?_eq_getElem b1)
            rw [b3 _ (List.getElem?_eq_getElem b1)] at this
            cases this
          · exact k
        · rcases h with ⟨i', ⟨b1, b2, b3⟩, k⟩ | ⟨ha, _⟩
          · have e : i' = i := by
              rcases Nat.lt_trichotomy i' i with z | z | z
              · have := hb i' _ (Nat.zero_le _) z (List.getElem?_eq_getElem b1)
                rw [b3 _ (List.getElem?_eq_getElem b1)] at this
                cases this
              · exact z
              · have := b2 i _ z (List.getElem?_eq_getElem hi)
                rw [hn _ (List.getElem?_eq_getElem hi)] at this
                cases this
            subst e
            exact k
          · have := ha _ (List.getElem_mem hi)
            rw [hn _ (List.getElem?_eq_getElem hi)] at this
            cases this
    cases b
    · exact fin
    · exact fin
end K84
set_option Elab.async false
set_option linter.all false
set_option maxRecDepth 100000
set_option maxHeartbeats 2000000
/-! k84, part d: the costs. -/
namespace K84
open PySem L2 PySem.Spec PyProof.Rows DL M84
abbrev pk (p : Pk) : D := .tup [.int (p.1 : Nat), .int (p.2 : Nat)]
structure PkOk (ps : List Pk) : Prop where
  len : ps.length ≤ 60
  ok : ∀ p ∈ ps, p.1 ≤ 60000 ∧ p.2 ≤ 60000
def oi : Option Nat → D
  | none => .non
  | some c => .int (c : Nat)
def crow (ps : List Pk) (w : Nat) : List D := (List.range (w + 1)).map fun m => oi (C ps m)
theorem big_le {a : Nat} (h : a ≤ 100000) : a ≤ sizeLine := Nat.le_trans h (by decide)
theorem big_lt {a : Nat} (h : a ≤ 100000) : a < sizeLine := Nat.lt_of_le_of_lt h (by decide)
theorem get_row {w m : Nat} {f : Nat → D} (h : m ≤ w) : getI ((List.range (w + 1)).map f) (m : Int) = some (f m) := getI_nat (by
  rw [List.getElem?_map, List.getElem?_range (by omega)]; rfl)
theorem row_ext {w : Nat} {f g : Nat → D} (h : ∀ m ≤ w, f m = g m) : (List.range (w + 1)).map f = (List.range (w + 1)).map g :=
  List.map_congr_left fun m hm => h m (by have := List.mem_range.mp hm; omega)
theorem row_set {w j : Nat} {f g : Nat → D} (hj : j ≤ w) (h : ∀ m ≤ w, m ≠ j → f m = g m) : ((List.range (w + 1)).map f).set j (g j) = (List.range (w + 1)).map g := by
  apply List.ext_getElem
  · simp
  · intro i h1 h2
    simp at h1 h2
    rw [List.getElem_set]
    by_cases e : j = i
    · subst e; rw [if_pos rfl]; simp
    · rw [if_neg e]
      simp
      exact h i (by omega) (fun z => e z.symm)
/-- the row while it is turned from C ps to C (p :: ps) -/
def mid (p : Pk) (ps : List Pk) (w j : Nat) : List D := (List.range (w + 1)).map fun m => oi (if m < j then C (p :: ps) m else C ps m)
theorem mid_one (p : Pk) (ps : List Pk) (w : Nat) : mid p ps w 1 = crow ps w := row_ext fun m _ => by
  by_cases h : m < 1
  · have : m = 0 := by omega
    subst this
    rw [if_pos h, C_zero, C_zero]
  · rw [if_neg h]
theorem mid_end (p : Pk) (ps : List Pk) (w : Nat) : mid p ps w (w + 1) = crow (p :: ps) w := row_ext fun m hm => by rw [if_pos (by omega)]
theorem mid_same {p : Pk} {ps : List Pk} {w j : Nat} (h : C (p :: ps) j = C ps j) : mid p ps w j = mid p ps w (j + 1) := row_ext fun m _ => by
  by_cases h1 : m < j
  · rw [if_pos h1, if_pos (by omega)]
  · by_cases h2 : m = j
    · subst h2; rw [if_neg h1, if_pos (by omega), h]
    · rw [if_neg h1, if_neg (by omega)]
theorem mid_set {p : Pk} {ps : List Pk} {w j : Nat} (hj : j ≤ w) : (mid p ps w j).set j (oi (C (p :: ps) j)) = mid p ps w (j + 1) := by
  have e : oi (C (p :: ps) j) = (fun m => oi (if m < j + 1 then C (p :: ps) m else C ps m)) j := by show _ = oi (if j < j + 1 then _ else _); rw [if_pos (by omega)]
  rw [e]
  refine row_set (f := fun m => oi (if m < j then C (p :: ps) m else C ps m)) (g := fun m => oi (if m < j + 1 then C (p :: ps) m else C ps m)) hj fun m _ hm => ?_
  show oi _ = oi _
  by_cases h1 : m < j
  · rw [if_pos h1, if_pos (by omega)]
  · rw [if_neg h1, if_neg (by omega)]
theorem max0 (a b : Nat) : (if (a : Int) - (b : Int) > 0 then (a : Int) - (b : Int) else 0) = ((a - b : Nat) : Int) := by
  split <;> omega
theorem C_step {p : Pk} {ps : List Pk} {j : Nat} (hj : j ≠ 0) : C (p :: ps) j = match C ps (j - p.2) with
    | none => C ps j
    | some c => match C ps j with
      | none => some (c + 64 * p.1 + 1)
      | some c0 => if c + 64 * p.1 + 1 < c0 then some (c + 64 * p.1 + 1) else some c0 := by
  conv => lhs; unfold C
  rw [if_neg hj] <;> rfl
abbrev E_c (X : D) (w : Nat) (R : List D) (p : Pk) (bh row : List D) (b6 : Nat) (o7 o8 : Option Bd) : DEnv :=
  [some ⟨X, 0, false⟩, some ⟨.int (w : Int), 0, false⟩, some ⟨.lst R, 1, false⟩, some ⟨.int (p.1 : Nat), 0, false⟩, some ⟨.int (p.2 : Nat), 0, false⟩, some ⟨.lst bh, 0, false⟩, some ⟨.lst row, b6, false⟩, o7, o8]
theorem c_inner (X : D) (w : Nat) (hw : w ≤ 5000) (R : List D) (p : Pk) (hp : p.1 ≤ 60000 ∧ p.2 ≤ 60000) (ps : List Pk) : ∀ (m j : Nat) (o7 o8 : Option Bd), j + m = w + 1 → 1 ≤ j → ∀ Dn : DEnds,
    (∀ o7 o8, Dn.nx (E_c X w R p (crow ps w) (crow (p :: ps) w) 1 o7 o8)) →
    forD (.nm 7) b_costs_behind_1 ((List.range' j m).map fun (i : Nat) => D.int (i : Int)) (E_c X w R p (crow ps w) (mid p ps w j) 1 o7 o8) Dn
  | 0, j, o7, o8, hj, h1, Dn, k => by
    have e : j = w + 1 := by omega
    subst e
    rw [mid_end]
    exact k o7 o8
  | m + 1, j, o7, o8, hj, h1, Dn, k => by
    have hjw : j ≤ w := by omega
    rw [List.range'_succ, List.map_cons]
    have g1 : getI (crow ps w) (if (j : Int) - ((p.2 : Nat) : Int) > 0 then (j : Int) - ((p.2 : Nat) : Int) else 0) = some (oi (C ps (j - p.2))) := by
      rw [max0]; exact get_row (by omega)
    have g2 : getI (mid p ps w j) (j : Int) = some (oi (C ps j)) := by
      have := get_row (w := w) (m := j) (f := fun m => oi (if m < j then C (p :: ps) m else C ps m)) hjw
      rw [if_neg (Nat.lt_irrefl j)] at this
      exact this
    have hix : ixI (mid p ps w j).length (j : Int) = some j := ixI_nat (by unfold mid; rw [List.length_map, List.length_range]; omega)
    have st := C_step (p := p) (ps := ps) (j := j) (by omega)
    have mo : MulOk 64 ((p.1 : Nat) : Int) := mul_small (by decide) (by decide)
    -- the row is written
    have wr : ∀ c : Nat, C (p :: ps) j = some (c + 64 * p.1 + 1) → ∀ o8, setAt 6 [] (.lst (mid p ps w j)) (.int (j : Int)) (.int ((c : Int) + 64 * ((p.1 : Nat) : Int) + 1)) (E_c X w R p (crow ps w) (mid p ps w j) 1 (some ⟨.int (j : Int), 0, false⟩) o8)
        (fun e => forD (.nm 7) b_costs_behind_1 ((List.range' (j + 1) m).map fun (i : Nat) => D.int (i : Int)) e Dn) := fun c hc o8 => by
      refine setAt_lst (j := j) rfl hix ?_
      have e : D.int ((c : Int) + 64 * ((p.1 : Nat) : Int) + 1) = oi (C (p :: ps) j) := by
        rw [hc]
        show D.int _ = D.int (((c + 64 * p.1 + 1 : Nat)) : Int)
        congr 1
      rw [e, mid_set hjw]
      exact c_inner X w hw R p hp ps m (j + 1) _ _ (by omega) (by omega) Dn k
    have same : C (p :: ps) j = C ps j → ∀ o8, forD (.nm 7) b_costs_behind_1 ((List.range' (j + 1) m).map fun (i : Nat) => D.int (i : Int)) (E_c X w R p (crow ps w) (mid p ps w j) 1 (some ⟨.int (j : Int), 0, false⟩) o8) Dn := fun e o8 => by
      rw [mid_same e]
      exact c_inner X w hw R p hp ps m (j + 1) _ _ (by omega) (by omega) Dn k
    refine someD_mk g1 ?_
    cases ec : C ps (j - p.2) with
    | none =>
      rw [ec] at st
      refine And.intro rfl ?_
      exact same st _
    | some c =>
      rw [ec] at st
      refine And.intro rfl ?_
      refine someD_mk g2 ?_
      cases e0 : C ps j with
      | none =>
        rw [e0] at st
        refine And.intro rfl ?_
        refine And.intro mo ?_
        exact wr c st _
      | some c0 =>
        rw [e0] at st
        have st : C (p :: ps) j = if c + 64 * p.1 + 1 < c0 then some (c + 64 * p.1 + 1) else some c0 := st
        refine And.intro rfl ?_
        refine And.intro mo ?_
        refine someD_mk g2 ?_
        rw [e0]
        refine brB_dec (p := (c : Int) + 64 * ((p.1 : Nat) : Int) + 1 < (c0 : Int)) (fun z => ?_) (fun z => ?_)
        · rw [if_pos (by omega)] at st
          refine And.intro mo ?_
          exact wr c st _
        · rw [if_neg (by omega)] at st
          rw [← e0] at st
          exact same st _
end K84
set_option Elab.async false
set_option linter.all false
set_option maxRecDepth 100000
set_option maxHeartbeats 2000000
/-! k84, part e: the costs of all rows; the least repacking. -/
namespace K84
open PySem L2 PySem.Spec PyProof.Rows DL M84
theorem get_last {xs : List D} {x : D} : getI (xs ++ [x]) (-1) = some x := by
  unfold getI
  have e : ixI (xs ++ [x]).length (-1) = some xs.length := by
    show (match Nat.blt 0 (xs ++ [x]).length with | true => some ((xs ++ [x]).length - (0 + 1)) | false => none) = some xs.length
    rw [List.length_append, List.length_singleton, Nat.blt_eq.mpr (by omega)]
    rfl
  rw [e]
  simp
/-- the rows when m packs are still to come -/
def rows (ps : List Pk) (w m : Nat) : List D := (List.range (ps.length - m)).map (fun q => .lst (crow (ps.drop (ps.length - q)) w))
def rows' (ps : List Pk) (w m : Nat) : List D := rows ps w m ++ [.lst (crow (ps.drop m) w)]
theorem rows_next {ps : List Pk} {w m : Nat} (h : m + 1 ≤ ps.length) : rows' ps w (m + 1) ++ [.lst (crow (ps.drop m) w)] = rows' ps w m := by
  unfold rows' rows
  rw [show ps.length - m = ps.length - (m + 1) + 1 by omega, List.range_succ, List.map_append]
  congr 2
  show _ = [D.lst (crow (ps.drop (ps.length - (ps.length - (m + 1)))) w)]
  rw [show ps.length - (ps.length - (m + 1)) = m + 1 by omega]
theorem rows_rev (ps : List Pk) (w : Nat) : (rows' ps w 0).reverse = (List.range (ps.length + 1)).map fun i => .lst (crow (ps.drop i) w) := by
  have e : rows' ps w 0 = (List.range (ps.length + 1)).map fun q => D.lst (crow (ps.drop (ps.length - q)) w) := by
    unfold rows' rows
    rw [List.range_succ, List.map_append]
    simp
  rw [e, ← List.map_reverse]
  apply List.ext_getElem
  · simp
  · intro i h1 h2
    simp at h1 h2 ⊢
    rw [show ps.length - (ps.length - i) = i by omega]
theorem crow_len (ps : List Pk) (w : Nat) : (crow ps w).length = w + 1 := by unfold crow; simp
abbrev E_o (X : D) (w : Nat) (R : List D) (o3 o4 o5 o6 o7 o8 : Option Bd) : DEnv := [some ⟨X, 0, false⟩, some ⟨.int (w : Int), 0, false⟩, some ⟨.lst R, 1, false⟩, o3, o4, o5, o6, o7, o8]
theorem c_outer (X : D) (w : Nat) (hw : w ≤ 5000) (ps : List Pk) (hp : PkOk ps) : ∀ (m : Nat) (o3 o4 o5 o6 o7 o8 : Option Bd), m ≤ ps.length → ∀ Dn : DEnds, (∀ o3 o4 o5 o6 o7 o8, Dn.nx (E_o X w (rows' ps w 0) o3 o4 o5 o6 o7 o8)) →
    forD (.tu [.nm 3, .nm 4]) b_costs_behind_2 ((ps.take m).map pk).reverse (E_o X w (rows' ps w m) o3 o4 o5 o6 o7 o8) Dn
  | 0, o3, o4, o5, o6, o7, o8, hm, Dn, k => k o3 o4 o5 o6 o7 o8
  | m + 1, o3, o4, o5, o6, o7, o8, hm, Dn, k => by
    have hml : m < ps.length := by omega
    have et : ((ps.take (m + 1)).map pk).reverse = pk ps[m] :: ((ps.take m).map pk).reverse := by
      rw [List.take_succ_eq_append_getElem hml, List.map_append, List.reverse_append]
      rfl
    rw [et]
    have ed : ps.drop m = ps[m] :: ps.drop (m + 1) := List.drop_eq_getElem_cons hml
    have hpm := hp.ok _ (List.getElem_mem hml)
    have g : getI (rows' ps w (m + 1)) (-1) = some (.lst (crow (ps.drop (m + 1)) w)) := get_last
    refine someD_mk g ?_
    refine And.intro (show -(2 ^ 62) ≤ (1 : Int) ∧ (1 : Int) < 2 ^ 62 ∧ -(2 ^ 62) ≤ (w : Int) + 1 ∧ (w : Int) + 1 < 2 ^ 62 by omega) ?_
    have er : rngD 1 ((w : Int) + 1 - 1).toNat = (List.range' 1 w).map fun (i : Nat) => D.int (i : Int) := by
      rw [show ((w : Int) + 1 - 1).toNat = w by omega]
      unfold rngD
      rw [List.range'_eq_map_range, List.map_map]
      exact List.map_congr_left fun i _ => by show D.int (1 + (i : Int)) = D.int ((1 + i : Nat) : Int); congr 1
    rw [er]
    have inner := c_inner X w hw (rows' ps w (m + 1)) ps[m] hpm (ps.drop (m + 1)) w 1 o7 o8 (by omega) (Nat.le_refl 1)
    rw [mid_one] at inner
    refine inner _ (fun o7 o8 => ?_)
    refine And.intro (big_lt (by unfold rows' rows; have := hp.len; simp; omega)) ?_
    rw [← ed, rows_next hm]
    exact c_outer X w hw ps hp m _ _ _ _ _ _ (by omega) Dn k
def S_costs_behind : DSp := fun ds post => ∃ b ps, ∃ w : Nat, ds = [sq b (ps.map pk), .int (w : Int)] ∧ PkOk ps ∧ w ≤ 5000 ∧ post.rt (.lst ((List.range (ps.length + 1)).map fun i => .lst (crow (ps.drop i) w))) 1 []
theorem mk_costs_behind {post : DPost} (b : Bool) {ps : List Pk} {w : Nat} (hp : PkOk ps) (hw : w ≤ 5000) (k : post.rt (.lst ((List.range (ps.length + 1)).map fun i => .lst (crow (ps.drop i) w))) 1 []) : S_costs_behind [sq b (ps.map pk), .int (w : Int)] post := ⟨b, ps, w, rfl, hp, hw, k⟩
theorem rep_one (n : Nat) (d : D) : (List.replicate n [d]).flatten = List.replicate n d := by
  induction n with
  | zero => rfl
  | succ n ih => rw [List.replicate_succ, List.flatten_cons, ih]; rfl
theorem row0 (w : Nat) : D.int 0 :: List.replicate w D.non = crow [] w := by
  unfold crow
  rw [List.range_succ_eq_map, List.map_cons, List.map_map]
  congr 1
  refine (List.eq_replicate_iff.mpr ⟨by simp, fun b hb => ?_⟩).symm
  obtain ⟨m, _, rfl⟩ := List.mem_map.mp hb
  show oi (C [] (m + 1)) = .non
  simp [C, oi]
theorem p_costs_behind (ds : List D) (post : DPost) (h : S_costs_behind ds post) (_ : ds.length = ms_costs_behind.length) : t_costs_behind (env0 ms_costs_behind ds N_costs_behind.length) (endsOf ms_costs_behind post) := by
  obtain ⟨b, ps, w, rfl, hp, hw, k⟩ := h
  refine And.intro (big_le (by decide)) ?_
  refine And.intro (big_le (by decide)) ?_
  refine And.intro (show -(2 ^ 63) ≤ (w : Int) by omega) ?_
  refine And.intro (show (w : Int) < 2 ^ 63 by omega) ?_
  refine And.intro (big_le (by simp; omega)) ?_
  rw [show ((w : Int)).toNat = w by omega, rep_one]
  refine And.intro (big_le (by simp; omega)) ?_
  refine And.intro (big_le (by simp)) ?_
  have loop := c_outer (sq b (ps.map pk)) w hw ps hp ps.length none none none none none none (Nat.le_refl _)
  have e0 : rows' ps w ps.length = [.lst (D.int 0 :: List.replicate w D.non)] := by
    unfold rows' rows
    rw [Nat.sub_self, List.drop_length, row0]
    rfl
  rw [List.take_length, e0] at loop
  have fin : ∀ o3 o4 o5 o6 o7 o8, sdRet (tO1 odRevT (eVar 2)) (E_o (sq b (ps.map pk)) w (rows' ps w 0) o3 o4 o5 o6 o7 o8) (endsOf ms_costs_behind post) := fun o3 o4 o5 o6 o7 o8 => by
    show post.rt (.lst (rows' ps w 0).reverse) 1 []
    rw [rows_rev]
    exact k
  cases b
  · exact loop _ fin
  · exact loop _ fin
end K84
set_option Elab.async false
set_option linter.all false
set_option maxRecDepth 100000
set_option maxHeartbeats 2000000
/-! k84, part f: the least repacking. -/
namespace K84
open PySem L2 PySem.Spec PyProof.Rows DL M84
theorem someO_mk {α : Type} {o : Option α} {a : α} {k : α → Prop} (h : o = some a) (q : k a) : someO o k := by subst h; exact q
theorem intsD_map {α : Type} (f : α → Int) : ∀ l : List α, intsD (l.map fun a => D.int (f a)) = some (l.map f)
  | [] => rfl
  | a :: l => by
    show (match intsD (l.map fun a => D.int (f a)) with | some ns => some (f a :: ns) | none => none) = _
    rw [intsD_map f l]
    rfl
/-- no loads: what is told -/
def CB (d : D) (v : Int) : Prop := (isKs d [.list, .tuple] = false ∧ v = -1) ∨ ∃ b xs, d = sq b xs ∧ (60 < xs.length ∧ v = -1 ∨ xs.length ≤ 60 ∧ (∀ x ∈ xs, Kl x) ∧ ∃ i : Nat, BadAt xs i ∧ v = i)
theorem mk_check_bad {post : DPost} {d : D} {v : Int} (hk : Kn d) (h : CB d v) (k : post.ex (xv "BadPacks" (.int v)) []) : S_check_loads [d] post := by
  refine ⟨d, rfl, hk, ?_⟩
  rcases h with ⟨h1, rfl⟩ | ⟨b, xs, rfl, ⟨h1, rfl⟩ | ⟨h1, h2, i, h3, rfl⟩⟩
  · exact .inl ⟨h1, k⟩
  · exact .inr ⟨b, xs, rfl, .inl ⟨h1, k⟩⟩
  · exact .inr ⟨b, xs, rfl, .inr ⟨h1, h2, .inl ⟨i, h3, k⟩⟩⟩
theorem kl_pk (p : Pk) : Kl (pk p) := ⟨⟨_, rfl⟩, fun ds => ⟨fun e x hx => by
  cases e
  simp at hx
  rcases hx with rfl | rfl <;> exact ⟨_, rfl⟩, fun e => nomatch e⟩⟩
theorem load_pk {p : Pk} (h : p.1 ≤ 60000 ∧ p.2 ≤ 60000) : loadB (pk p) = true := by
  show ((decide (0 ≤ ((p.1 : Nat) : Int)) && decide (((p.1 : Nat) : Int) ≤ 60000)) && (decide (0 ≤ ((p.2 : Nat) : Int)) && decide (((p.2 : Nat) : Int) ≤ 60000))) = true
  rw [decide_eq_true (by omega), decide_eq_true (by omega), decide_eq_true (by omega), decide_eq_true (by omega)]
  rfl
theorem kn_sq (b : Bool) (xs : List D) : Kn (sq b xs) := by cases b <;> exact ⟨_, rfl⟩
theorem mk_check_ok {post : DPost} (b : Bool) {ps : List Pk} (hp : PkOk ps) (k : post.rt .non 0 []) : S_check_loads [sq b (ps.map pk)] post := by
  refine ⟨_, rfl, kn_sq b _, .inr ⟨b, _, rfl, .inr ⟨by rw [List.length_map]; exact hp.len, fun x hx => ?_, .inr ⟨fun x hx => ?_, k⟩⟩⟩⟩
  · obtain ⟨p, _, rfl⟩ := List.mem_map.mp hx
    exact kl_pk p
  · obtain ⟨p, h, rfl⟩ := List.mem_map.mp hx
    exact load_pk (hp.ok p h)
def tot (ps : List Pk) : Nat := (ps.map (·.2)).sum
theorem tot_int (ps : List Pk) : (ps.map fun p => ((p.2 : Nat) : Int)).sum = ((tot ps : Nat) : Int) := by
  unfold tot
  induction ps with
  | nil => rfl
  | cons p ps ih => rw [List.map_cons, List.sum_cons, ih, List.map_cons, List.sum_cons]; omega
abbrev nD (l : List Nat) : List D := l.map fun (i : Nat) => D.int (i : Int)
def S_least_repack : DSp := fun ds post => ∃ d w, ds = [d, w] ∧ Kn d ∧ Kn w ∧ ((∃ v, CB d v ∧ post.ex (xv "BadPacks" (.int v)) []) ∨
  ∃ b ps, d = sq b (ps.map pk) ∧ PkOk ps ∧ ((within w 0 5000 = false ∧ post.ex (xv "BadMany" w) []) ∨ ∃ n : Nat, w = .int n ∧ n ≤ 5000 ∧ ((tot ps < n ∧ post.ex (xv "NotEnough" (.int (tot ps : Nat))) []) ∨ (n ≤ tot ps ∧ post.rt (.tup (nD (G 0 ps n))) 0 []))))
theorem mk_least_bad {post : DPost} {d w : D} {v : Int} (hk : Kn d) (hw : Kn w) (h : CB d v) (k : post.ex (xv "BadPacks" (.int v)) []) : S_least_repack [d, w] post := ⟨d, w, rfl, hk, hw, .inl ⟨v, h, k⟩⟩
theorem mk_least_many {post : DPost} (b : Bool) {ps : List Pk} {w : D} (hp : PkOk ps) (hw : Kn w) (h : within w 0 5000 = false) (k : post.ex (xv "BadMany" w) []) : S_least_repack [sq b (ps.map pk), w] post := ⟨_, w, rfl, kn_sq b _, hw, .inr ⟨b, ps, rfl, hp, .inl ⟨h, k⟩⟩⟩
theorem mk_least_enough {post : DPost} (b : Bool) {ps : List Pk} {n : Nat} (hp : PkOk ps) (hn : n ≤ 5000) (h : tot ps < n) (k : post.ex (xv "NotEnough" (.int (tot ps : Nat))) []) : S_least_repack [sq b (ps.map pk), .int n] post := ⟨_, _, rfl, kn_sq b _, ⟨_, rfl⟩, .inr ⟨b, ps, rfl, hp, .inr ⟨n, rfl, hn, .inl ⟨h, k⟩⟩⟩⟩
theorem mk_least {post : DPost} (b : Bool) {ps : List Pk} {n : Nat} (hp : PkOk ps) (hn : n ≤ 5000) (h : n ≤ tot ps) (k : post.rt (.tup (nD (G 0 ps n))) 0 []) : S_least_repack [sq b (ps.map pk), .int n] post := ⟨_, _, rfl, kn_sq b _, ⟨_, rfl⟩, .inr ⟨b, ps, rfl, hp, .inr ⟨n, rfl, hn, .inr ⟨h, k⟩⟩⟩⟩
abbrev costs (ps : List Pk) (w : Nat) : List D := (List.range (ps.length + 1)).map fun i => .lst (crow (ps.drop i) w)
abbrev E_r (X : D) (ps : List Pk) (w t : Nat) (o3 : Option Bd) (acc : List Nat) (mu : Nat) (o7 o8 o9 o10 : Option Bd) : DEnv :=
  [some ⟨X, 0, false⟩, some ⟨.int (w : Int), 0, false⟩, some ⟨.int (t : Int), 0, false⟩, o3, some ⟨.lst (costs ps w), 1, false⟩, some ⟨.lst (nD acc), 1, false⟩, some ⟨.int (mu : Int), 0, false⟩, o7, o8, o9, o10]
theorem G_take {i : Nat} {p : Pk} {ps : List Pk} {w r : Nat} (h : 0 < w) (h1 : C ps (w - p.2) = some r) (h2 : C (p :: ps) w = some (r + 64 * p.1 + 1)) : G i (p :: ps) w = i :: G (i + 1) ps (w - p.2) := by
  conv => lhs; unfold G
  rw [if_pos ⟨h, r, h1, h2⟩]
theorem G_skip {i : Nat} {p : Pk} {ps : List Pk} {w : Nat} (h : ∀ r, 0 < w → C ps (w - p.2) = some r → C (p :: ps) w ≠ some (r + 64 * p.1 + 1)) : G i (p :: ps) w = G (i + 1) ps w := by
  conv => lhs; unfold G
  rw [if_neg fun ⟨h0, r, h1, h2⟩ => h r h0 h1 h2]
theorem r_loop (X : D) (ps : List Pk) (hp : PkOk ps) (w : Nat) (hw : w ≤ 5000) (t : Nat) (o3 : Option Bd) : ∀ (m j mu : Nat) (acc : List Nat) (o7 o8 o9 o10 : Option Bd), j + m = ps.length → mu ≤ w → acc.length ≤ j → ∀ Dn : DEnds,
    (∀ mu' o7 o8 o9 o10, Dn.nx (E_r X ps w t o3 (acc ++ G j (ps.drop j) mu) mu' o7 o8 o9 o10)) →
    forD (.tu [.nm 7, .tu [.nm 8, .nm 9]]) (b_least_repack_1 S_check_loads S_is_within S_costs_behind) ((List.range' j m).map fun (i : Nat) => .tup [.int (i : Int), (ps.map pk).getD i .non]) (E_r X ps w t o3 acc mu o7 o8 o9 o10) Dn
  | 0, j, mu, acc, o7, o8, o9, o10, hj, hmu, ha, Dn, k => by
    have e : ps.drop j = [] := List.drop_of_length_le (by omega)
    rw [e] at k
    have k := k mu o7 o8 o9 o10
    rw [show G j [] mu = [] from rfl, List.append_nil] at k
    exact k
  | m + 1, j, mu, acc, o7, o8, o9, o10, hj, hmu, ha, Dn, k => by
    have hjl : j < ps.length := by omega
    have ed : ps.drop j = ps[j] :: ps.drop (j + 1) := List.drop_eq_getElem_cons hjl
    have eg : (ps.map pk).getD j .non = pk ps[j] := by simp [hjl]
    rw [List.range'_succ, List.map_cons, eg]
    have gc : ∀ i, i ≤ ps.length → getI (costs ps w) (i : Int) = some (.lst (crow (ps.drop i) w)) := fun i hi => getI_nat (by rw [List.getElem?_map, List.getElem?_range (by omega)]; rfl)
    have gc1 : getI (costs ps w) ((j : Int) + 1) = some (.lst (crow (ps.drop (j + 1)) w)) := gc (j + 1) (by omega)
    have g1 : getI (crow (ps.drop (j + 1)) w) (if (mu : Int) - ((ps[j].2 : Nat) : Int) > 0 then (mu : Int) - ((ps[j].2 : Nat) : Int) else 0) = some (oi (C (ps.drop (j + 1)) (mu - ps[j].2))) := by
      rw [max0]; exact get_row (by omega)
    have g2 : getI (crow (ps.drop j) w) (mu : Int) = some (oi (C (ps.drop j) mu)) := get_row hmu
    have mo : MulOk 64 ((ps[j].1 : Nat) : Int) := mul_small (by decide) (by decide)
    have skip : (∀ r, 0 < mu → C (ps.drop (j + 1)) (mu - ps[j].2) = some r → C (ps.drop j) mu ≠ some (r + 64 * ps[j].1 + 1)) → ∀ o7 o8 o9 o10, forD (.tu [.nm 7, .tu [.nm 8, .nm 9]]) (b_least_repack_1 S_check_loads S_is_within S_costs_behind) ((List.range' (j + 1) m).map fun (i : Nat) => .tup [.int (i : Int), (ps.map pk).getD i .non]) (E_r X ps w t o3 acc mu o7 o8 o9 o10) Dn := fun hs o7 o8 o9 o10 => by
      refine r_loop X ps hp w hw t o3 m (j + 1) mu acc _ _ _ _ (by omega) hmu (by omega) Dn (fun mu' o7 o8 o9 o10 => ?_)
      have k := k mu' o7 o8 o9 o10
      rw [ed, G_skip (by rw [← ed]; exact hs)] at k
      exact k
    refine someD_mk gc1 ?_
    refine someD_mk g1 ?_
    refine brB_dec (p := (0 : Int) < (mu : Int)) (fun h0 => ?_) (fun h0 => ?_)
    · cases ec : C (ps.drop (j + 1)) (mu - ps[j].2) with
      | none =>
        refine And.intro rfl ?_
        exact skip (fun r _ e => by rw [ec] at e; cases e) _ _ _ _
      | some c =>
        refine And.intro rfl ?_
        refine And.intro mo ?_
        refine someD_mk (gc j (by omega)) ?_
        refine someD_mk g2 ?_
        have st := C_step (p := ps[j]) (ps := ps.drop (j + 1)) (j := mu) (by omega)
        rw [← ed, ec] at st
        obtain ⟨c', hc'⟩ : ∃ c', C (ps.drop j) mu = some c' := by
          cases e0 : C (ps.drop (j + 1)) mu with
          | none => rw [e0] at st; exact ⟨_, st⟩
          | some c0 =>
            rw [e0] at st
            have st : C (ps.drop j) mu = if c + 64 * ps[j].1 + 1 < c0 then some (c + 64 * ps[j].1 + 1) else some c0 := st
            by_cases q : c + 64 * ps[j].1 + 1 < c0
            · rw [if_pos q] at st; exact ⟨_, st⟩
            · rw [if_neg q] at st; exact ⟨_, st⟩
        rw [hc']
        refine brB_dec (p := (c : Int) + 64 * ((ps[j].1 : Nat) : Int) + 1 = (c' : Int)) (fun hq => ?_) (fun hq => ?_)
        · refine And.intro (big_lt (by rw [List.length_map]; have := hp.len; omega)) ?_
          have ea : nD acc ++ [D.int (j : Int)] = nD (acc ++ [j]) := by unfold nD; rw [List.map_append]; rfl
          rw [ea]
          have ih := r_loop X ps hp w hw t o3 m (j + 1) (mu - ps[j].2) (acc ++ [j]) (some ⟨.int (j : Int), 0, false⟩) (some ⟨.int ((ps[j].1 : Nat) : Int), 0, false⟩) (some ⟨.int ((ps[j].2 : Nat) : Int), 0, false⟩) (some ⟨.int (c : Int), 0, false⟩) (by omega) (by omega) (by rw [List.length_append]; simp; omega) Dn (fun mu' o7 o8 o9 o10 => by
            have k := k mu' o7 o8 o9 o10
            rw [ed, G_take (by omega) ec (by rw [← ed, hc']; congr 1; omega)] at k
            rw [List.append_assoc]
            exact k)
          unfold E_r at ih
          rw [← max0] at ih
          exact ih
        · exact skip (fun r _ e1 e2 => by rw [ec] at e1; cases e1; rw [hc'] at e2; have := Option.some.inj e2; omega) _ _ _ _
    · exact skip (fun r h _ => absurd (by omega) h0) _ _ _ _
theorem p_least_repack (ds : List D) (post : DPost) (h : S_least_repack ds post) (_ : ds.length = ms_least_repack.length) : t_least_repack S_check_loads S_is_within S_costs_behind (env0 ms_least_repack ds N_least_repack.length) (endsOf ms_least_repack post) := by
  obtain ⟨d, w, rfl, hk, hw, h⟩ := h
  rcases h with ⟨v, h1, k⟩ | ⟨b, ps, rfl, hp, h⟩
  · refine mk_check_bad hk h1 ?_
    exact k
  · refine mk_check_ok b hp ?_
    rcases h with ⟨h1, k⟩ | ⟨n, rfl, hn, h⟩
    · refine mk_is_within hw ?_
      rw [h1]
      exact k
    · refine mk_is_within hw ?_
      have e : within (.int (n : Int)) 0 5000 = true := by
        show (decide ((0 : Int) ≤ (n : Int)) && decide ((n : Int) ≤ 5000)) = true
        rw [decide_eq_true (by omega), decide_eq_true (by omega)]; rfl
      rw [e]
      -- behind the sum
      have tail : ∀ X : D, X = sq b (ps.map pk) → lcD (.nm 3) ttYes (e_least_repack_1 S_check_loads S_is_within S_costs_behind) [3] (ps.map pk) [] [some ⟨X, 0, false⟩, some ⟨.int (n : Int), 0, false⟩, none, none, none, none, none, none, none, none, none]
          (fun z _ env => odSum [z] fun z2 n2 => sdSeq (sdIf (ttPB (tP2 odLt (pVar 2) (pVar 1))) (sdRaise "NotEnough" (eVar 2)) (sdNil))
            (sdSeq (sdSet 4 (eCall ms_costs_behind S_costs_behind [] (gaVal (eVar 0) (gaVal (eVar 1) (gaNil))))) (sdSeq (sdSet 5 (eNew (.lst []) 1)) (sdSeq (sdSet 6 (eVar 1)) (sdSeq (sdFor (itN odEnumA (aCons (eVar 0) (aNil))) (.tu [.nm 7, .tu [.nm 8, .nm 9]])
              (b_least_repack_1 S_check_loads S_is_within S_costs_behind)) (sdRet (tON odTuple (aCons (eVar 5) aNil))))))) (env.set 2 (some ⟨z2, n2, false⟩)) (endsOf ms_least_repack post)) := fun X hX => by
        refine lc_map pk (fun p => .int ((p.2 : Nat) : Int)) ps [] (by have := hp.len; simp; omega) (fun p _ A h => h) ?_
        refine someO_mk (intsD_map (fun p : Pk => ((p.2 : Nat) : Int)) ps) ?_
        rw [tot_int]
        refine brB_dec (p := ((tot ps : Nat) : Int) < (n : Int)) (fun z => ?_) (fun z => ?_)
        · rcases h with ⟨_, k⟩ | ⟨h, _⟩
          · exact k
          · omega
        · rcases h with ⟨h, _⟩ | ⟨hle, k⟩
          · omega
          · subst hX
            refine mk_costs_behind b hp hn ?_
            have loop := r_loop (sq b (ps.map pk)) ps hp n hn (tot ps) none ps.length 0 n [] none none none none (by omega) (Nat.le_refl _) (Nat.zero_le _) { (endsOf ms_least_repack post) with nx := fun env1 => sdRet (tON odTuple (aCons (eVar 5) aNil)) env1 (endsOf ms_least_repack post) } (fun mu' o7 o8 o9 o10 => by
              rw [List.nil_append, List.drop_zero]
              exact k)
            have e := enum_eq (ps.map pk)
            rw [List.length_map] at e
            rw [← e] at loop
            cases b
            · exact loop
            · exact loop
      cases b
      · exact tail _ rfl
      · exact tail _ rfl
end K84
set_option Elab.async false
set_option linter.all false
set_option maxRecDepth 100000
set_option maxHeartbeats 2000000
/-! k84, part g: triples and their order; the least choice by triples. -/
namespace K84
open PySem L2 PySem.Spec PyProof.Rows DL M84
/-- a choice as a tuple -/
def tri (x : Tr) : D := .tup [.int (x.1 : Nat), .int (x.2.1 : Nat), .tup (nD x.2.2)]
def ot : Option Tr → D
  | none => .non
  | some x => tri x
abbrev iPy (s : List Nat) : List PyData := s.map fun (n : Nat) => PyData.int (n : Int)
theorem pys_nD (s : List Nat) : D.pys (nD s) = iPy s := by
  rw [pys_map, List.map_map]; rfl
theorem alike_ints : ∀ s t : List Nat, PySem.W.alikeAll (iPy s) (iPy t) = true
  | [], t => by cases t <;> simp [PySem.W.alikeAll]
  | _ :: _, [] => by simp [PySem.W.alikeAll]
  | a :: s, b :: t => by
    show (PySem.W.alike (.int a) (.int b) && PySem.W.alikeAll (iPy s) (iPy t)) = true
    rw [alike_ints s t]; rfl
theorem llt_data : ∀ s t : List Nat, PyProof.Rows.lexLt itemOrd (PySem.W.keyToksAll (iPy s)) (PySem.W.keyToksAll (iPy t)) = llt s t
  | [], [] => by simp [PySem.W.keyToksAll, lex_irrefl, llt]
  | [], b :: t => by
    show PyProof.Rows.lexLt itemOrd _ (PySem.W.keyToksAll (.int (b : Int) :: iPy t)) = true
    rw [PySem.W.toks_all_cons]
    simp only [List.map_nil, PySem.W.keyToksAll]
    rw [lex_diff (O := itemOrd) (by simp)]
    simp [itemLt]
  | a :: s, [] => by
    show PyProof.Rows.lexLt itemOrd (PySem.W.keyToksAll (.int (a : Int) :: iPy s)) _ = false
    rw [PySem.W.toks_all_cons]
    simp only [List.map_nil, PySem.W.keyToksAll]
    rw [lex_diff (O := itemOrd) (by simp)]
    simp [itemLt]
  | a :: s, b :: t => by
    show PyProof.Rows.lexLt itemOrd (PySem.W.keyToksAll (.int (a : Int) :: iPy s)) (PySem.W.keyToksAll (.int (b : Int) :: iPy t)) = _
    by_cases e : a = b
    · subst e
      rw [PySem.W.dataLt_all_yes (by simp [PySem.W.alike]) (by simp [PyData.eqv]), llt_data s t]
      simp [llt]
    · rw [PySem.W.dataLt_all_no (by simp [PySem.W.alike]) (by simp [PyData.eqv]; omega), PySem.W.dataLt_int]
      simp [llt, e]
theorem eqv_nD (s t : List Nat) : PyData.eqvAll (iPy s) (iPy t) = decide (s = t) := by
  induction s generalizing t with
  | nil => cases t <;> rfl
  | cons a s ih =>
    cases t with
    | nil => rfl
    | cons b t =>
      show (PyData.eqv (.int (a : Int)) (.int (b : Int)) && PyData.eqvAll (iPy s) (iPy t)) = _
      rw [ih t]
      have : PyData.eqv (.int (a : Int)) (.int (b : Int)) = decide (a = b) := by
        rw [Bool.eq_iff_iff]
        simp [PyData.eqv]
        omega
      rw [this]
      by_cases h : a = b <;> by_cases g : s = t <;> simp [h, g]
theorem tri_py (x : Tr) : (tri x).py = .tuple [.int (x.1 : Nat), .int (x.2.1 : Nat), .tuple (iPy x.2.2)] := by
  rw [← pys_nD]; rfl
theorem tri_lt (x y : Tr) : PySem.W.dataLt (tri x).py (tri y).py = tlt x y := by
  obtain ⟨a, b, s⟩ := x
  obtain ⟨c, d, t⟩ := y
  rw [tri_py, tri_py, PySem.W.dataLt_tuple]
  show PyProof.Rows.lexLt itemOrd (PySem.W.keyToksAll [.int (a : Int), .int (b : Int), .tuple (iPy s)]) (PySem.W.keyToksAll [.int (c : Int), .int (d : Int), .tuple (iPy t)]) = _
  by_cases e : a = c
  · subst e
    rw [PySem.W.dataLt_all_yes (by simp [PySem.W.alike]) (by simp [PyData.eqv])]
    by_cases e2 : b = d
    · subst e2
      rw [PySem.W.dataLt_all_yes (by simp [PySem.W.alike]) (by simp [PyData.eqv])]
      by_cases e3 : s = t
      · subst e3
        rw [PySem.W.dataLt_all_yes (by simp [PySem.W.alike, alike_ints]) (by simp [PyData.eqv, eqv_nD])]
        simp [PySem.W.keyToksAll, lex_irrefl, tlt, llt_irr]
      · rw [PySem.W.dataLt_all_no (by simp [PySem.W.alike, alike_ints]) (by simp [PyData.eqv, eqv_nD, e3]), PySem.W.dataLt_tuple, llt_data]
        simp [tlt]
    · rw [PySem.W.dataLt_all_no (by simp [PySem.W.alike]) (by simp [PyData.eqv]; omega), PySem.W.dataLt_int]
      simp [tlt, e2]
  · rw [PySem.W.dataLt_all_no (by simp [PySem.W.alike]) (by simp [PyData.eqv]; omega), PySem.W.dataLt_int]
    simp [tlt, e]
theorem tri_flat (x : Tr) : Flat 2 (tri x) := fun d hd => by
  simp at hd
  rcases hd with rfl | rfl | rfl
  · trivial
  · trivial
  · intro e he
    obtain ⟨n, _, rfl⟩ := List.mem_map.mp he
    trivial
theorem ltTri {x y : Tr} {Q : Qn} (k : Q (.bl (tlt x y)) 0) : odLtDat (tri x) (tri y) Q := by
  obtain ⟨a1, a2⟩ := flat_py 2 _ (tri_flat x)
  obtain ⟨b1, _⟩ := flat_py 2 _ (tri_flat y)
  refine ⟨a1, b1, ?_, ?_, by omega, by rw [tri_lt]; exact k⟩
  · rw [tri_py, tri_py]
    simp [PySem.W.alike, PySem.W.alikeAll, alike_ints]
  · rw [tri_py]; intro z; cases z
end K84
set_option Elab.async false
set_option linter.all false
set_option maxRecDepth 100000
set_option maxHeartbeats 2000000
/-! k84, part h: the least choice by triples. -/
namespace K84
open PySem L2 PySem.Spec PyProof.Rows DL M84
def brow (i : Nat) (ps : List Pk) (w : Nat) : List D := (List.range (w + 1)).map fun m => ot (B i ps m)
def bmid (i : Nat) (p : Pk) (ps : List Pk) (w j : Nat) : List D := (List.range (w + 1)).map fun m => ot (if m < j then B i (p :: ps) m else B (i + 1) ps m)
theorem bmid_one (i : Nat) (p : Pk) (ps : List Pk) (w : Nat) : bmid i p ps w 1 = brow (i + 1) ps w := row_ext fun m _ => by
  by_cases h : m < 1
  · have : m = 0 := by omega
    subst this
    rw [if_pos h, B_zero, B_zero]
  · rw [if_neg h]
theorem bmid_end (i : Nat) (p : Pk) (ps : List Pk) (w : Nat) : bmid i p ps w (w + 1) = brow i (p :: ps) w := row_ext fun m hm => by rw [if_pos (by omega)]
theorem bmid_same {i : Nat} {p : Pk} {ps : List Pk} {w j : Nat} (h : B i (p :: ps) j = B (i + 1) ps j) : bmid i p ps w j = bmid i p ps w (j + 1) := row_ext fun m _ => by
  by_cases h1 : m < j
  · rw [if_pos h1, if_pos (by omega)]
  · by_cases h2 : m = j
    · subst h2; rw [if_neg h1, if_pos (by omega), h]
    · rw [if_neg h1, if_neg (by omega)]
theorem bmid_set {i : Nat} {p : Pk} {ps : List Pk} {w j : Nat} (hj : j ≤ w) : (bmid i p ps w j).set j (ot (B i (p :: ps) j)) = bmid i p ps w (j + 1) := by
  have e : ot (B i (p :: ps) j) = (fun m => ot (if m < j + 1 then B i (p :: ps) m else B (i + 1) ps m)) j := by show _ = ot (if j < j + 1 then _ else _); rw [if_pos (by omega)]
  rw [e]
  refine row_set (f := fun m => ot (if m < j then B i (p :: ps) m else B (i + 1) ps m)) (g := fun m => ot (if m < j + 1 then B i (p :: ps) m else B (i + 1) ps m)) hj fun m _ hm => ?_
  show ot _ = ot _
  by_cases h1 : m < j
  · rw [if_pos h1, if_pos (by omega)]
  · rw [if_neg h1, if_neg (by omega)]
theorem B_step {i : Nat} {p : Pk} {ps : List Pk} {j : Nat} (hj : j ≠ 0) : B i (p :: ps) j = if 0 < p.2 then omin (B (i + 1) ps j) ((B (i + 1) ps (j - p.2)).map (add i p)) else B (i + 1) ps j := by
  conv => lhs; unfold B
  rw [if_neg hj]
theorem tri_add (i : Nat) (p : Pk) (x : Tr) : D.tup [.int (((x.1 : Nat) : Int) + ((p.1 : Nat) : Int)), .int (((x.2.1 : Nat) : Int) + 1), .tup (D.int (i : Int) :: nD x.2.2)] = tri (add i p x) := by
  unfold tri add nD
  simp
theorem ltAdd {i : Nat} {p : Pk} {x y : Tr} {Q : Qn} (k : Q (.bl (tlt (add i p x) y)) 0) : odLtDat (D.tup [.int (((x.1 : Nat) : Int) + ((p.1 : Nat) : Int)), .int (((x.2.1 : Nat) : Int) + 1), .tup (D.int (i : Int) :: nD x.2.2)]) (tri y) Q := by
  rw [tri_add]
  exact ltTri k
abbrev E_b (X : D) (w : Nat) (bh : List D) (n2 : Nat) (b3 : Nat) (i : Nat) (p : Pk) (row : List D) (n7 : Nat) (o8 o9 o10 : Option Bd) : DEnv :=
  [some ⟨X, 0, false⟩, some ⟨.int (w : Int), 0, false⟩, some ⟨.lst bh, n2, false⟩, some ⟨.int (b3 : Int), 0, false⟩, some ⟨.int (i : Int), 0, false⟩, some ⟨.int (p.1 : Nat), 0, false⟩, some ⟨.int (p.2 : Nat), 0, false⟩, some ⟨.lst row, n7, false⟩, o8, o9, o10]
theorem b_inner (X : D) (w : Nat) (hw : w ≤ 5000) (b3 i : Nat) (p : Pk) (hp : p.1 ≤ 60000 ∧ p.2 ≤ 60000) (ps : List Pk) (hl : ps.length ≤ 60) : ∀ (m j n2 : Nat) (o8 o9 o10 : Option Bd), j + m = w + 1 → 1 ≤ j → ∀ Dn : DEnds,
    (∀ n2 o8 o9 o10, Dn.nx (E_b X w (brow (i + 1) ps w) n2 b3 i p (brow i (p :: ps) w) 1 o8 o9 o10)) →
    forD (.nm 8) b__law_best_1 ((List.range' j m).map fun (i : Nat) => D.int (i : Int)) (E_b X w (brow (i + 1) ps w) n2 b3 i p (bmid i p ps w j) 1 o8 o9 o10) Dn
  | 0, j, n2, o8, o9, o10, hj, h1, Dn, k => by
    have e : j = w + 1 := by omega
    subst e
    rw [bmid_end]
    exact k _ o8 o9 o10
  | m + 1, j, n2, o8, o9, o10, hj, h1, Dn, k => by
    have hjw : j ≤ w := by omega
    rw [List.range'_succ, List.map_cons]
    have g1 : getI (brow (i + 1) ps w) (if (j : Int) - ((p.2 : Nat) : Int) > 0 then (j : Int) - ((p.2 : Nat) : Int) else 0) = some (ot (B (i + 1) ps (j - p.2))) := by
      rw [max0]; exact get_row (by omega)
    have g2 : getI (bmid i p ps w j) (j : Int) = some (ot (B (i + 1) ps j)) := by
      have := get_row (w := w) (m := j) (f := fun m => ot (if m < j then B i (p :: ps) m else B (i + 1) ps m)) hjw
      rw [if_neg (Nat.lt_irrefl j)] at this
      exact this
    have hix : ixI (bmid i p ps w j).length (j : Int) = some j := ixI_nat (by unfold bmid; rw [List.length_map, List.length_range]; omega)
    have st := B_step (i := i) (p := p) (ps := ps) (j := j) (by omega)
    have wr : ∀ (x : Tr) (n2 : Nat), B i (p :: ps) j = some x → ∀ o9 o10, setAt 7 [] (.lst (bmid i p ps w j)) (.int (j : Int)) (tri x) (E_b X w (brow (i + 1) ps w) n2 b3 i p (bmid i p ps w j) 1 (some ⟨.int (j : Int), 0, false⟩) o9 o10)
        (fun e => forD (.nm 8) b__law_best_1 ((List.range' (j + 1) m).map fun (i : Nat) => D.int (i : Int)) e Dn) := fun x n2 hx o9 o10 => by
      refine setAt_lst (j := j) rfl hix ?_
      have e : tri x = ot (B i (p :: ps) j) := by rw [hx]; rfl
      rw [e, bmid_set hjw]
      exact b_inner X w hw b3 i p hp ps hl m (j + 1) n2 _ _ _ (by omega) (by omega) Dn k
    have same : B i (p :: ps) j = B (i + 1) ps j → ∀ n2 o9 o10, forD (.nm 8) b__law_best_1 ((List.range' (j + 1) m).map fun (i : Nat) => D.int (i : Int)) (E_b X w (brow (i + 1) ps w) n2 b3 i p (bmid i p ps w j) 1 (some ⟨.int (j : Int), 0, false⟩) o9 o10) Dn := fun e n2 o9 o10 => by
      rw [bmid_same e]
      exact b_inner X w hw b3 i p hp ps hl m (j + 1) n2 _ _ _ (by omega) (by omega) Dn k
    refine someD_mk g1 ?_
    refine brB_dec (p := (0 : Int) < ((p.2 : Nat) : Int)) (fun hz => ?_) (fun hz => ?_)
    · rw [if_pos (by omega)] at st
      cases ec : B (i + 1) ps (j - p.2) with
      | none =>
        rw [ec] at st
        have st : B i (p :: ps) j = B (i + 1) ps j := by rw [st]; cases B (i + 1) ps j <;> rfl
        refine And.intro rfl ?_
        exact same st _ _ _
      | some x =>
        rw [ec] at st
        obtain ⟨_, sb⟩ := (B_spec (i + 1) ps (j - p.2)).1 x ec
        have cn := sb.2.cnt
        have ea := tri_add i p x
        refine And.intro rfl ?_
        refine And.intro (big_le (by simp)) ?_
        refine And.intro (big_le (by simp; omega)) ?_
        refine And.intro (big_le (by simp)) ?_
        refine someD_mk g2 ?_
        cases e0 : B (i + 1) ps j with
        | none =>
          rw [e0] at st
          refine And.intro rfl ?_
          have w1 := wr (add i p x) (min n2 1) st
          rw [← ea] at w1
          exact w1 _ _
        | some y =>
          rw [e0] at st
          have st : B i (p :: ps) j = some (tmin y (add i p x)) := st
          refine And.intro rfl ?_
          refine someD_mk g2 ?_
          rw [e0]
          have last : brB (tlt (add i p x) y) (setAt 7 [] (.lst (bmid i p ps w j)) (.int (j : Int)) (tri (add i p x)) (E_b X w (brow (i + 1) ps w) (min n2 1) b3 i p (bmid i p ps w j) 1 (some ⟨.int (j : Int), 0, false⟩) (some ⟨tri x, 0, false⟩) (some ⟨tri (add i p x), 0, false⟩))
              (fun e => forD (.nm 8) b__law_best_1 ((List.range' (j + 1) m).map fun (i : Nat) => D.int (i : Int)) e Dn))
              (forD (.nm 8) b__law_best_1 ((List.range' (j + 1) m).map fun (i : Nat) => D.int (i : Int)) (E_b X w (brow (i + 1) ps w) (min n2 1) b3 i p (bmid i p ps w j) 1 (some ⟨.int (j : Int), 0, false⟩) (some ⟨tri x, 0, false⟩) (some ⟨tri (add i p x), 0, false⟩)) Dn) := by
            refine brB_2 (fun z => ?_) (fun z => ?_)
            · exact wr (add i p x) _ (by rw [st]; unfold tmin; rw [if_pos z]) _ _
            · exact same (by rw [st, e0]; unfold tmin; rw [if_neg (by rw [z]; exact Bool.false_ne_true)]) _ _ _
          rw [← ea] at last
          refine ltAdd ?_
          exact last
    · rw [if_neg (by omega)] at st
      exact same st _ _ _
end K84
set_option Elab.async false
set_option linter.all false
set_option maxRecDepth 100000
set_option maxHeartbeats 2000000
/-! k84, part i: the least choice by triples, whole. -/
namespace K84
open PySem L2 PySem.Spec PyProof.Rows DL M84
theorem rng1 (w : Nat) : rngD 1 ((w : Int) + 1 - 1).toNat = (List.range' 1 w).map fun (i : Nat) => D.int (i : Int) := by
  rw [show ((w : Int) + 1 - 1).toNat = w by omega]
  unfold rngD
  rw [List.range'_eq_map_range, List.map_map]
  exact List.map_congr_left fun i _ => by show D.int (1 + (i : Int)) = D.int ((1 + i : Nat) : Int); congr 1
abbrev E_q (X : D) (w : Nat) (bh : List D) (n2 : Nat) (o3 o4 o5 o6 o7 o8 o9 o10 : Option Bd) : DEnv := [some ⟨X, 0, false⟩, some ⟨.int (w : Int), 0, false⟩, some ⟨.lst bh, n2, false⟩, o3, o4, o5, o6, o7, o8, o9, o10]
theorem q_loop (w : Nat) (hw : w ≤ 5000) (ps : List Pk) (hp : PkOk ps) : ∀ (m q n2 : Nat) (o3 o4 o5 o6 o7 o8 o9 o10 : Option Bd), q + m = ps.length → ∀ Dn : DEnds, (∀ n2 o3 o4 o5 o6 o7 o8 o9 o10, Dn.nx (E_q (.lst (ps.map pk)) w (brow 0 ps w) n2 o3 o4 o5 o6 o7 o8 o9 o10)) →
    forD (.nm 3) b__law_best_2 ((List.range' q m).map fun (i : Nat) => D.int (i : Int)) (E_q (.lst (ps.map pk)) w (brow m (ps.drop m) w) n2 o3 o4 o5 o6 o7 o8 o9 o10) Dn
  | 0, q, n2, o3, o4, o5, o6, o7, o8, o9, o10, hq, Dn, k => by
    rw [List.drop_zero]
    exact k n2 o3 o4 o5 o6 o7 o8 o9 o10
  | m + 1, q, n2, o3, o4, o5, o6, o7, o8, o9, o10, hq, Dn, k => by
    have hml : m < ps.length := by omega
    have ed : ps.drop m = ps[m] :: ps.drop (m + 1) := List.drop_eq_getElem_cons hml
    have hpm := hp.ok _ (List.getElem_mem hml)
    have hl := hp.len
    rw [List.range'_succ, List.map_cons]
    have e4 : (((ps.map pk).length : Nat) : Int) - 1 - (q : Int) = ((m : Nat) : Int) := by rw [List.length_map]; omega
    have g : getI (ps.map pk) ((((ps.map pk).length : Nat) : Int) - 1 - (q : Int)) = some (pk ps[m]) := by
      rw [e4]
      exact getI_nat (by rw [List.getElem?_map, List.getElem?_eq_getElem hml]; rfl)
    refine someD_mk g ?_
    refine And.intro (show -(2 ^ 62) ≤ (1 : Int) ∧ (1 : Int) < 2 ^ 62 ∧ -(2 ^ 62) ≤ (w : Int) + 1 ∧ (w : Int) + 1 < 2 ^ 62 by omega) ?_
    rw [rng1]
    have inner := fun o8 o9 o10 => b_inner (.lst (ps.map pk)) w hw q m ps[m] hpm (ps.drop (m + 1)) (by rw [List.length_drop]; omega) w 1 0 o8 o9 o10 (by omega) (Nat.le_refl 1)
    rw [bmid_one] at inner
    unfold E_b at inner
    rw [← e4] at inner
    refine inner _ _ _ _ (fun n2 o8 o9 o10 => ?_)
    rw [← ed]
    exact q_loop w hw ps hp m (q + 1) 0 _ _ _ _ _ _ _ _ (by omega) Dn k
def S__law_best : DSp := fun ds post => ∃ ps, ∃ w : Nat, ds = [.lst (ps.map pk), .int (w : Int)] ∧ PkOk ps ∧ w ≤ 5000 ∧ post.rt (ot (B 0 ps w)) 0 []
theorem mk_best {post : DPost} {ps : List Pk} {w : Nat} (hp : PkOk ps) (hw : w ≤ 5000) (k : post.rt (ot (B 0 ps w)) 0 []) : S__law_best [.lst (ps.map pk), .int (w : Int)] post := ⟨ps, w, rfl, hp, hw, k⟩
theorem row0b (n w : Nat) : D.tup [.int 0, .int 0, .tup []] :: List.replicate w D.non = brow n [] w := by
  unfold brow
  rw [List.range_succ_eq_map, List.map_cons, List.map_map]
  congr 1
  refine (List.eq_replicate_iff.mpr ⟨by simp, fun b hb => ?_⟩).symm
  obtain ⟨m, _, rfl⟩ := List.mem_map.mp hb
  show ot (B n [] (m + 1)) = .non
  simp [B, ot]
theorem p_best (ds : List D) (post : DPost) (h : S__law_best ds post) (_ : ds.length = ms__law_best.length) : t__law_best (env0 ms__law_best ds N__law_best.length) (endsOf ms__law_best post) := by
  obtain ⟨ps, w, rfl, hp, hw, k⟩ := h
  have hl := hp.len
  refine And.intro (big_le (by simp)) ?_
  refine And.intro (big_le (by simp)) ?_
  refine And.intro (big_le (by simp)) ?_
  refine And.intro (big_le (by simp)) ?_
  refine And.intro (show -(2 ^ 63) ≤ (w : Int) by omega) ?_
  refine And.intro (show (w : Int) < 2 ^ 63 by omega) ?_
  refine And.intro (big_le (by simp; omega)) ?_
  rw [show ((w : Int)).toNat = w by omega, rep_one]
  refine And.intro (big_le (by simp; omega)) ?_
  refine And.intro (show -(2 ^ 62) ≤ (((ps.map pk).length : Nat) : Int) ∧ (((ps.map pk).length : Nat) : Int) < 2 ^ 62 by rw [List.length_map]; omega) ?_
  have er : rngD 0 (((ps.map pk).length : Nat) : Int).toNat = (List.range' 0 ps.length).map fun (i : Nat) => D.int (i : Int) := by
    rw [List.length_map, Int.toNat_natCast, rng0]
  rw [er]
  have loop := q_loop w hw ps hp ps.length 0 1 none none none none none none none none (by omega)
  rw [List.drop_length, ← row0b] at loop
  refine loop _ (fun n2 o3 o4 o5 o6 o7 o8 o9 o10 => ?_)
  refine someD_mk (get_row (Nat.le_refl w)) ?_
  exact k
end K84
set_option Elab.async false
set_option linter.all false
/-! k84: all choices by masks. -/
namespace M84
def msel : Nat → List Pk → Nat → Tr × Nat
  | _, [], _ => ((0, 0, []), 0)
  | i, p :: ps, m => if m % 2 = 1 then (add i p (msel (i + 1) ps (m / 2)).1, (msel (i + 1) ps (m / 2)).2 + p.2) else msel (i + 1) ps (m / 2)
theorem msel_sub : ∀ (i : Nat) (ps : List Pk) (m : Nat), Sub i ps (msel i ps m).1 (msel i ps m).2
  | _, [], _ => .nil
  | i, p :: ps, m => by
    unfold msel
    split
    · exact .take (msel_sub (i + 1) ps (m / 2))
    · exact .skip (msel_sub (i + 1) ps (m / 2))
theorem sub_msel {i : Nat} {ps : List Pk} {x : Tr} {d : Nat} (h : Sub i ps x d) : ∃ m, m < 2 ^ ps.length ∧ msel i ps m = (x, d) := by
  induction h with
  | nil => exact ⟨0, by simp, rfl⟩
  | @skip i p ps x d _ ih =>
    obtain ⟨m, h1, h2⟩ := ih
    refine ⟨2 * m, by rw [List.length_cons, Nat.pow_succ]; omega, ?_⟩
    unfold msel
    rw [if_neg (by omega), show 2 * m / 2 = m by omega, h2]
  | @take i p ps x d _ ih =>
    obtain ⟨m, h1, h2⟩ := ih
    refine ⟨2 * m + 1, by rw [List.length_cons, Nat.pow_succ]; omega, ?_⟩
    unfold msel
    rw [if_pos (by omega), show (2 * m + 1) / 2 = m by omega, h2]
/-- the places of a mask's bits -/
def bits (n m : Nat) : List Nat := (List.range n).filter fun a => decide (m / 2 ^ a % 2 = 1)
theorem bits_succ (n m : Nat) : bits (n + 1) m = if m % 2 = 1 then 0 :: (bits n (m / 2)).map (· + 1) else (bits n (m / 2)).map (· + 1) := by
  unfold bits
  rw [List.range_succ_eq_map, List.filter_cons]
  have e : ((List.range n).map Nat.succ).filter (fun a => decide (m / 2 ^ a % 2 = 1)) = ((List.range n).filter fun a => decide (m / 2 / 2 ^ a % 2 = 1)).map (· + 1) := by
    rw [List.filter_map]
    congr 1
    apply List.filter_congr
    intro a _
    show decide (m / 2 ^ (a + 1) % 2 = 1) = _
    rw [Nat.pow_succ, Nat.mul_comm, ← Nat.div_div_eq_div_mul]
  rw [e]
  simp
theorem bits_lt {n m a : Nat} (h : a ∈ bits n m) : a < n := List.mem_range.mp (List.mem_filter.mp h).1
theorem msel_bits : ∀ (ps : List Pk) (i m : Nat), (msel i ps m).1.2.2 = (bits ps.length m).map (· + i) ∧ (msel i ps m).1.1 = ((bits ps.length m).map fun a => (ps.getD a (0, 0)).1).sum ∧ (msel i ps m).2 = ((bits ps.length m).map fun a => (ps.getD a (0, 0)).2).sum
  | [], i, m => by simp [msel, bits]
  | p :: ps, i, m => by
    obtain ⟨h1, h2, h3⟩ := msel_bits ps (i + 1) (m / 2)
    rw [List.length_cons, bits_succ]
    unfold msel
    have e : ∀ f : Pk → Nat, (((bits ps.length (m / 2)).map (· + 1)).map fun a => f ((p :: ps).getD a (0, 0))).sum = ((bits ps.length (m / 2)).map fun a => f (ps.getD a (0, 0))).sum := fun f => by
      rw [List.map_map]; rfl
    have e2 : ((bits ps.length (m / 2)).map (· + 1)).map (· + i) = (bits ps.length (m / 2)).map (· + (i + 1)) := by
      rw [List.map_map]
      exact List.map_congr_left fun a _ => by show a + 1 + i = a + (i + 1); omega
    by_cases hm : m % 2 = 1
    · rw [if_pos hm, if_pos hm, List.map_cons, List.map_cons, List.map_cons, List.sum_cons, List.sum_cons]
      refine ⟨?_, ?_, ?_⟩
      · rw [e2]
        show i :: (msel (i + 1) ps (m / 2)).1.2.2 = _
        rw [h1, Nat.zero_add]
      · have := e (·.1)
        rw [this, ← h2]
        show (msel (i + 1) ps (m / 2)).1.1 + p.1 = p.1 + _
        omega
      · have := e (·.2)
        rw [this, ← h3]
        show (msel (i + 1) ps (m / 2)).2 + p.2 = p.2 + _
        omega
    · rw [if_neg hm, if_neg hm]
      exact ⟨by rw [h1, e2], by rw [h2]; exact (e (·.1)).symm, by rw [h3]; exact (e (·.2)).symm⟩
/-- the least so far -/
structure Least (ps : List Pk) (w q : Nat) (b : Option Tr) : Prop where
  is : ∀ x, b = some x → ∃ d, w ≤ d ∧ Sub 0 ps x d
  le : ∀ m, m < q → m < 2 ^ ps.length → w ≤ (msel 0 ps m).2 → ∃ x, b = some x ∧ tlt (msel 0 ps m).1 x = false
theorem Least.zero (ps : List Pk) (w : Nat) : Least ps w 0 none := ⟨fun x e => (by cases e), fun m h => absurd h (Nat.not_lt_zero m)⟩
theorem Least.skip {ps : List Pk} {w q : Nat} {b : Option Tr} (L : Least ps w q b) (h : q < 2 ^ ps.length → ¬ w ≤ (msel 0 ps q).2) : Least ps w (q + 1) b := ⟨L.is, fun m h1 h2 h3 => by
  by_cases e : m = q
  · subst e; exact absurd h3 (h h2)
  · exact L.le m (by omega) h2 h3⟩
theorem Least.first {ps : List Pk} {w q : Nat} (L : Least ps w q none) (h : w ≤ (msel 0 ps q).2) : Least ps w (q + 1) (some (msel 0 ps q).1) := ⟨fun x e => by cases e; exact ⟨_, h, msel_sub 0 ps q⟩, fun m h1 h2 h3 => by
  by_cases e : m = q
  · subst e; exact ⟨_, rfl, tlt_irr _⟩
  · obtain ⟨x, e, _⟩ := L.le m (by omega) h2 h3
    cases e⟩
theorem Least.next {ps : List Pk} {w q : Nat} {y : Tr} (L : Least ps w q (some y)) (h : w ≤ (msel 0 ps q).2) : Least ps w (q + 1) (some (tmin y (msel 0 ps q).1)) := ⟨fun x e => by
  cases e
  unfold tmin
  split
  · exact ⟨_, h, msel_sub 0 ps q⟩
  · exact L.is y rfl, fun m h1 h2 h3 => by
  by_cases e : m = q
  · subst e; exact ⟨_, rfl, tmin_le2 _ _⟩
  · obtain ⟨x, e, hx⟩ := L.le m (by omega) h2 h3
    cases e
    exact ⟨_, rfl, M84.le_trans (tmin_le1 _ _) hx⟩⟩
theorem Least.fin {ps : List Pk} {w q : Nat} {b : Option Tr} {x : Tr} (L : Least ps w q b) (hq : 2 ^ ps.length ≤ q) (h : B 0 ps w = some x) : b = some x := by
  obtain ⟨d, h1, h2⟩ := (B_spec 0 ps w).1 x h
  obtain ⟨m, m1, m2⟩ := sub_msel h2
  obtain ⟨y, rfl, hy⟩ := L.le m (by omega) m1 (by rw [m2]; exact h1)
  rw [m2] at hy
  obtain ⟨d', d1, d2⟩ := L.is y rfl
  obtain ⟨z, e, hz⟩ := (B_spec 0 ps w).2 y d' d2 d1
  rw [h] at e
  cases e
  rw [tlt_tri hz hy]
end M84
set_option Elab.async false
set_option linter.all false
set_option maxRecDepth 100000
set_option maxHeartbeats 2000000
/-! k84, part j: all choices. -/
namespace K84
open PySem L2 PySem.Spec PyProof.Rows DL M84
theorem sumN {l : List Nat} (f : Nat → Nat) : (l.map fun a => ((f a : Nat) : Int)).sum = (((l.map f).sum : Nat) : Int) := by
  induction l with
  | nil => rfl
  | cons a l ih => rw [List.map_cons, List.sum_cons, ih, List.map_cons, List.sum_cons]; omega
theorem bit_int (m a : Nat) : decide (((m : Int) / 2 ^ a) % 2 = 1) = decide (m / 2 ^ a % 2 = 1) := by
  have e : ((m : Int) / 2 ^ a) % 2 = ((m / 2 ^ a % 2 : Nat) : Int) := by
    rw [Int.natCast_emod, Int.natCast_ediv, Int.natCast_pow]; rfl
  rw [e]
  exact decide_eq_decide.mpr (by omega)
abbrev E_h (ps : List Pk) (w : Nat) (b : Option Tr) (o3 o4 o6 : Option Bd) : DEnv := [some ⟨.lst (ps.map pk), 0, false⟩, some ⟨.int (w : Int), 0, false⟩, some ⟨ot b, 0, false⟩, o3, o4, none, o6]
/-- the mask's choice as a tuple -/
theorem sel_tri (ps : List Pk) (m : Nat) : D.tup [.int (((bits ps.length m).map fun a => (((ps.getD a (0, 0)).1 : Nat) : Int)).sum), .int (((nD (bits ps.length m)).length : Nat) : Int), .tup (nD (bits ps.length m))] = tri (msel 0 ps m).1 := by
  obtain ⟨h1, h2, h3⟩ := msel_bits ps 0 m
  have c := (msel_sub 0 ps m).cnt.1
  unfold tri
  rw [c, h1, h2, sumN (fun a => (ps.getD a (0, 0)).1)]
  simp
theorem sel_dead (ps : List Pk) (m : Nat) : ((bits ps.length m).map fun a => (((ps.getD a (0, 0)).2 : Nat) : Int)).sum = (((msel 0 ps m).2 : Nat) : Int) := by
  rw [(msel_bits ps 0 m).2.2, sumN (fun a => (ps.getD a (0, 0)).2)]
theorem h_loop (ps : List Pk) (hp : PkOk ps) (hn : ps.length ≤ 9) (w : Nat) (hw : w ≤ 5000) : ∀ (m q : Nat) (b : Option Tr) (o3 o4 o6 : Option Bd), q + m = 512 → Least ps w q b → ∀ Dn : DEnds, (∀ b o3 o4 o6, Least ps w 512 b → Dn.nx (E_h ps w b o3 o4 o6)) →
    forD (.nm 3) b__law_choices_1 ((List.range' q m).map fun (i : Nat) => D.int (i : Int)) (E_h ps w b o3 o4 o6) Dn
  | 0, q, b, o3, o4, o6, hq, L, Dn, k => by
    have e : q = 512 := by omega
    subst e
    exact k b o3 o4 o6 L
  | m + 1, q, b, o3, o4, o6, hq, L, Dn, k => by
    have hl := hp.len
    rw [List.range'_succ, List.map_cons]
    have again : ∀ b o4 o6, Least ps w (q + 1) b → forD (.nm 3) b__law_choices_1 ((List.range' (q + 1) m).map fun (i : Nat) => D.int (i : Int)) (E_h ps w b (some ⟨.int (q : Int), 0, false⟩) o4 o6) Dn := fun b o4 o6 L' =>
      h_loop ps hp hn w hw m (q + 1) b _ o4 o6 (by omega) L' Dn k
    have e2 : (1 : Int) * 2 ^ (((ps.map pk).length : Nat) : Int).toNat = ((2 ^ ps.length : Nat) : Int) := by
      rw [Int.one_mul, Int.toNat_natCast, Int.natCast_pow, List.length_map]; rfl
    refine And.intro ⟨by rw [List.length_map]; omega, by rw [List.length_map]; omega, by decide⟩ ?_
    refine brB_dec (p := (q : Int) < (1 : Int) * 2 ^ (((ps.map pk).length : Nat) : Int).toNat) (fun hz => ?_) (fun hz => ?_)
    · refine And.intro (show -(2 ^ 62) ≤ (((ps.map pk).length : Nat) : Int) ∧ (((ps.map pk).length : Nat) : Int) < 2 ^ 62 by rw [List.length_map]; omega) ?_
      have er : rngD 0 (((ps.map pk).length : Nat) : Int).toNat = (List.range ps.length).map fun (i : Nat) => D.int (i : Int) := by
        rw [List.length_map, Int.toNat_natCast]
        exact List.map_congr_left fun i _ => by rw [Int.zero_add]
      show lcD (.nm 5) q__law_choices_1 (eVar 5) [5] (rngD 0 (((ps.map pk).length : Nat) : Int).toNat) [] (E_h ps w b (some ⟨.int (q : Int), 0, false⟩) o4 o6) _
      rw [er]
      refine lc_pure (E := E_h ps w b (some ⟨.int (q : Int), 0, false⟩) o4 o6) (fun (i : Nat) => D.int (i : Int)) (fun a => decide (q / 2 ^ a % 2 = 1)) (fun (i : Nat) => D.int (i : Int)) (List.range ps.length) [] (by simp; omega) (fun a ha A B h1 h2 => ?_) ?_
      · refine And.intro (by omega) ?_
        refine And.intro (by decide) ?_
        show brB (decide (((q : Int) / 2 ^ ((a : Nat) : Int).toNat) % 2 = 1)) _ _
        rw [Int.toNat_natCast, bit_int]
        exact brB_2 (fun z => h1 z) (fun z => h2 z)
      · rw [List.nil_append]
        -- the rest of the turn
        have gp : ∀ a ∈ bits ps.length q, getI (ps.map pk) ((a : Nat) : Int) = some (pk (ps.getD a (0, 0))) := fun a ha => getI_nat (by
          have hal := bits_lt ha
          rw [List.getElem?_map, List.getElem?_eq_getElem hal, List.getD_eq_getElem?_getD, List.getElem?_eq_getElem hal]; rfl)
        have bl : (bits ps.length q).length ≤ 9 := by
          have := List.length_filter_le (fun a => decide (q / 2 ^ a % 2 = 1)) (List.range ps.length)
          unfold bits
          rw [List.length_range] at this
          omega
        show lcD (.nm 5) ttYes e__law_choices_1 [5] (nD (bits ps.length q)) [] (E_h ps w b (some ⟨.int (q : Int), 0, false⟩) (some ⟨.tup (nD (bits ps.length q)), 0, false⟩) o6) _
        refine lc_map (E := E_h ps w b (some ⟨.int (q : Int), 0, false⟩) (some ⟨.tup (nD (bits ps.length q)), 0, false⟩) o6) (fun (i : Nat) => D.int (i : Int)) (fun a => .int (((ps.getD a (0, 0)).2 : Nat) : Int)) (bits ps.length q) [] (by simp; omega) (fun a ha A h => ?_) ?_
        · exact someD_mk (gp a ha) h
        · rw [List.nil_append]
          refine someO_mk (intsD_map (fun a : Nat => (((ps.getD a (0, 0)).2 : Nat) : Int)) (bits ps.length q)) ?_
          rw [sel_dead]
          refine brB_dec (p := (w : Int) ≤ (((msel 0 ps q).2 : Nat) : Int)) (fun hd => ?_) (fun hd => ?_)
          · show lcD (.nm 5) ttYes e__law_choices_2 [5] (nD (bits ps.length q)) [] (E_h ps w b (some ⟨.int (q : Int), 0, false⟩) (some ⟨.tup (nD (bits ps.length q)), 0, false⟩) o6) _
            refine lc_map (E := E_h ps w b (some ⟨.int (q : Int), 0, false⟩) (some ⟨.tup (nD (bits ps.length q)), 0, false⟩) o6) (fun (i : Nat) => D.int (i : Int)) (fun a => .int (((ps.getD a (0, 0)).1 : Nat) : Int)) (bits ps.length q) [] (by simp; omega) (fun a ha A h => ?_) ?_
            · exact someD_mk (gp a ha) h
            · rw [List.nil_append]
              refine someO_mk (intsD_map (fun a : Nat => (((ps.getD a (0, 0)).1 : Nat) : Int)) (bits ps.length q)) ?_
              refine And.intro (big_le (by simp)) ?_
              have hd' : w ≤ (msel 0 ps q).2 := by omega
              have tail : sdSet 2 (eIf (ttOr (ttPB (tP2 odIsN (pVar 2) (pC .non))) (ttPB (tP2 odLtDat (pVar 6) (pVar 2)))) (eVar 6) (eVar 2)) (E_h ps w b (some ⟨.int (q : Int), 0, false⟩) (some ⟨.tup (nD (bits ps.length q)), 0, false⟩) (some ⟨tri (msel 0 ps q).1, 0, false⟩))
                  { nx := fun e => forD (.nm 3) b__law_choices_1 ((List.range' (q + 1) m).map fun (i : Nat) => D.int (i : Int)) e Dn, rt := Dn.rt, bk := Dn.nx, ct := fun e => forD (.nm 3) b__law_choices_1 ((List.range' (q + 1) m).map fun (i : Nat) => D.int (i : Int)) e Dn, ex := Dn.ex } := by
                cases b with
                | none =>
                  refine And.intro rfl ?_
                  exact again (some (msel 0 ps q).1) _ _ (L.first hd')
                | some y =>
                  refine And.intro rfl ?_
                  refine brB_f (b := (ot (some y)).isNon) rfl ?_
                  have fin : brB (tlt (msel 0 ps q).1 y) (forD (.nm 3) b__law_choices_1 ((List.range' (q + 1) m).map fun (i : Nat) => D.int (i : Int)) (E_h ps w (some (msel 0 ps q).1) (some ⟨.int (q : Int), 0, false⟩) (some ⟨.tup (nD (bits ps.length q)), 0, false⟩) (some ⟨tri (msel 0 ps q).1, 0, false⟩)) Dn)
                      (forD (.nm 3) b__law_choices_1 ((List.range' (q + 1) m).map fun (i : Nat) => D.int (i : Int)) (E_h ps w (some y) (some ⟨.int (q : Int), 0, false⟩) (some ⟨.tup (nD (bits ps.length q)), 0, false⟩) (some ⟨tri (msel 0 ps q).1, 0, false⟩)) Dn) := by
                    have n := L.next hd'
                    unfold tmin at n
                    refine brB_2 (fun z => ?_) (fun z => ?_)
                    · rw [if_pos z] at n
                      exact again (some (msel 0 ps q).1) _ _ n
                    · rw [if_neg (by rw [z]; exact Bool.false_ne_true)] at n
                      exact again (some y) _ _ n
                  exact ltTri (x := (msel 0 ps q).1) (y := y) (Q := fun z _ => (match z with | .bl b => brB b _ _ | _ => False)) fin
              rw [← sel_tri] at tail
              exact tail
          · exact again b _ _ (L.skip fun _ h => hd (by omega))
    · refine again b _ _ (L.skip fun h => absurd ?_ hz)
      rw [e2]
      omega
def S__law_choices : DSp := fun ds post => ∃ ps, ∃ w : Nat, ds = [.lst (ps.map pk), .int (w : Int)] ∧ PkOk ps ∧ ps.length ≤ 9 ∧ w ≤ 5000 ∧ w ≤ tot ps ∧ ∀ x, B 0 ps w = some x → post.rt (tri x) 0 []
theorem mk_choices {post : DPost} {ps : List Pk} {w : Nat} (hp : PkOk ps) (hn : ps.length ≤ 9) (hw : w ≤ 5000) (ht : w ≤ tot ps) (k : ∀ x, B 0 ps w = some x → post.rt (tri x) 0 []) : S__law_choices [.lst (ps.map pk), .int (w : Int)] post := ⟨ps, w, rfl, hp, hn, hw, ht, k⟩
theorem p_choices (ds : List D) (post : DPost) (h : S__law_choices ds post) (_ : ds.length = ms__law_choices.length) : t__law_choices (env0 ms__law_choices ds N__law_choices.length) (endsOf ms__law_choices post) := by
  obtain ⟨ps, w, rfl, hp, hn, hw, ht, k⟩ := h
  obtain ⟨x, hx⟩ := B_some (i := 0) ht
  refine And.intro ⟨by decide, by decide, by decide⟩ ?_
  refine And.intro (by decide) ?_
  show forD (.nm 3) b__law_choices_1 (rngD 0 512) (E_h ps w none none none none) _
  rw [rng0]
  refine h_loop ps hp hn w hw 512 0 none none none none rfl (Least.zero ps w) _ (fun b o3 o4 o6 L => ?_)
  have e := L.fin (by have := Nat.pow_le_pow_right (show 0 < 2 by decide) hn; omega) hx
  subst e
  exact k x hx
end K84
set_option Elab.async false
set_option linter.all false
set_option maxRecDepth 100000
set_option maxHeartbeats 2000000
/-! k84, part k: drawn packs; right choices. -/
namespace K84
open PySem L2 PySem.Spec PyProof.Rows DL M84
theorem pk_of {a b : Int} (ha : 0 ≤ a) (hb : 0 ≤ b) : D.tup [.int a, .int b] = pk (a.toNat, b.toNat) := by
  show _ = D.tup [.int ((a.toNat : Nat) : Int), .int ((b.toNat : Nat) : Int)]
  rw [Int.toNat_of_nonneg ha, Int.toNat_of_nonneg hb]
/-- loads up to most -/
def Upto (m : Nat) (ps : List Pk) : Prop := ∀ p ∈ ps, p.1 ≤ m ∧ p.2 ≤ m
theorem Upto.snoc {m : Nat} {ps : List Pk} {p : Pk} (h : Upto m ps) (hp : p.1 ≤ m ∧ p.2 ≤ m) : Upto m (ps ++ [p]) := fun q hq => by
  rcases List.mem_append.mp hq with z | z
  · exact h q z
  · rw [List.mem_singleton.mp z]; exact hp
def S__law_packs : DSp := fun ds post => ∃ r, ∃ n m : Nat, ds = [r, .int (n : Int), .int (m : Int)] ∧ Row r ∧ n ≤ 60 ∧ m ≤ 60000 ∧ ∀ ps r', ps.length = n → Upto m ps → Row r' → post.rt (.lst (ps.map pk)) 1 [r']
theorem mk_packs {post : DPost} {r : D} {n m : Nat} (hr : Row r) (hn : n ≤ 60) (hm : m ≤ 60000) (k : ∀ ps r', ps.length = n → Upto m ps → Row r' → post.rt (.lst (ps.map pk)) 1 [r']) : S__law_packs [r, .int (n : Int), .int (m : Int)] post := ⟨r, n, m, rfl, hr, hn, hm, k⟩
abbrev E_p (n m : Nat) (r : D) (fw : Option Bd) (o4 : Option Bd) (ps : Option Bd) (o6 : Option Bd) : DEnv := [some ⟨r, 1, true⟩, some ⟨.int (n : Int), 0, false⟩, some ⟨.int (m : Int), 0, false⟩, fw, o4, ps, o6]
theorem few_made (n m : Nat) (hm : m ≤ 60000) {r : D} (hr : Row r) {Q : QE} (k : ∀ fw r', fw.length = 2 → Upto m fw → Row r' → Q (.lst (fw.map pk)) 1 (E_p n m r' none none none none)) :
    lcD (.nm 4) ttYes (e__law_packs_1 S__law_taken S__law_pick) [4] (rngD 0 2) [] (E_p n m r none none none none) Q := by
  refine lc_inv (σ := D) (fun r => E_p n m r none none none none) (fun i r acc => Row r ∧ ∃ ps : List Pk, acc = ps.map pk ∧ ps.length = i ∧ Upto m ps) (by decide) ?_ ?_ r ⟨hr, [], rfl, rfl, fun s h => nomatch h⟩
  · rintro i x r acc hi ⟨hr, ps, rfl, hp, hs⟩ A B h1 h2
    refine mk_taken hr (by omega) (by omega) (fun a r1 a0 a1 hr1 => ?_)
    refine mk_taken hr1 (by omega) (by omega) (fun b r2 b0 b1 hr2 => ?_)
    refine And.intro (big_le (by simp)) ?_
    rw [pk_of a0 b0]
    refine h1 _ r2 ⟨hr2, ps ++ [(a.toNat, b.toNat)], by rw [List.map_append]; rfl, by simp [hp], hs.snoc ⟨by show a.toNat ≤ m; omega, by show b.toNat ≤ m; omega⟩⟩
  · rintro r acc ⟨hr, ps, rfl, hp, hs⟩
    exact k ps r hp hs hr
theorem p_loop (n m : Nat) (hn : n ≤ 60) (hm : m ≤ 60000) (fw : List Pk) (hf : fw.length = 2) (hu : Upto m fw) (n3 : Nat) : ∀ (q j : Nat) (ps : List Pk) (r : D) (o4 o6 : Option Bd) (n3 : Nat), j + q = n → ps.length = j → Upto m ps → Row r → ∀ Dn : DEnds,
    (∀ ps r n3 o4 o6, ps.length = n → Upto m ps → Row r → Dn.nx (E_p n m r (some ⟨.lst (fw.map pk), n3, false⟩) o4 (some ⟨.lst (ps.map pk), 1, false⟩) o6)) →
    forD (.nm 4) (b__law_packs_1 S__law_taken S__law_pick) ((List.range' j q).map fun (i : Nat) => D.int (i : Int)) (E_p n m r (some ⟨.lst (fw.map pk), n3, false⟩) o4 (some ⟨.lst (ps.map pk), 1, false⟩) o6) Dn
  | 0, j, ps, r, o4, o6, n3, hj, hp, hs, hr, Dn, k => k ps r n3 o4 o6 (by omega) hs hr
  | q + 1, j, ps, r, o4, o6, n3, hj, hp, hs, hr, Dn, k => by
    rw [List.range'_succ, List.map_cons]
    have app : ∀ (p : Pk) (r' : D) (n3 : Nat) (o6 : Option Bd), p.1 ≤ m ∧ p.2 ≤ m → Row r' → (ps.map pk).length < sizeLine ∧ forD (.nm 4) (b__law_packs_1 S__law_taken S__law_pick) ((List.range' (j + 1) q).map fun (i : Nat) => D.int (i : Int))
        (E_p n m r' (some ⟨.lst (fw.map pk), n3, false⟩) (some ⟨.int (j : Int), 0, false⟩) (some ⟨.lst (ps.map pk ++ [pk p]), 1, false⟩) o6) Dn := fun p r' n3 o6 hp' hr' => by
      refine And.intro (big_lt (by rw [List.length_map]; omega)) ?_
      have e : ps.map pk ++ [pk p] = (ps ++ [p]).map pk := by rw [List.map_append]; rfl
      rw [e]
      exact p_loop n m hn hm fw hf hu n3 q (j + 1) (ps ++ [p]) r' _ o6 n3 (by omega) (by rw [List.length_append, hp]; rfl) (hs.snoc hp') hr' Dn k
    refine mk_taken hr (by decide) (by decide) (fun way r1 _ _ hr1 => ?_)
    refine brB_dec (p := way = 0) (fun _ => ?_) (fun _ => ?_)
    · refine mk_pick hr1 (by intro z; rw [List.map_eq_nil_iff] at z; rw [z] at hf; cases hf) (by rw [List.length_map]; omega) (fun x r2 hx hr2 => ?_)
      obtain ⟨p, hp', rfl⟩ := List.mem_map.mp hx
      exact app p r2 _ _ (hu p hp') hr2
    · refine brB_dec (p := way = 1) (fun _ => ?_) (fun _ => ?_)
      · refine mk_taken hr1 (by omega) (by omega) (fun b r2 b0 b1 hr2 => ?_)
        refine And.intro (big_le (by simp)) ?_
        rw [pk_of (Int.le_refl 0) b0]
        exact app _ r2 _ _ ⟨by simp, by show b.toNat ≤ m; omega⟩ hr2
      · refine brB_dec (p := way = 2) (fun _ => ?_) (fun _ => ?_)
        · refine mk_taken hr1 (by omega) (by omega) (fun a r2 a0 a1 hr2 => ?_)
          refine And.intro (big_le (by simp)) ?_
          rw [pk_of a0 (Int.le_refl 0)]
          exact app _ r2 _ _ ⟨by show a.toNat ≤ m; omega, by simp⟩ hr2
        · refine mk_taken hr1 (by omega) (by omega) (fun a r2 a0 a1 hr2 => ?_)
          refine mk_taken hr2 (by omega) (by omega) (fun b r3 b0 b1 hr3 => ?_)
          refine And.intro (big_le (by simp)) ?_
          rw [pk_of a0 b0]
          exact app _ r3 _ _ ⟨by show a.toNat ≤ m; omega, by show b.toNat ≤ m; omega⟩ hr3
theorem p_packs (ds : List D) (post : DPost) (h : S__law_packs ds post) (_ : ds.length = ms__law_packs.length) : t__law_packs S__law_taken S__law_pick (env0 ms__law_packs ds N__law_packs.length) (endsOf ms__law_packs post) := by
  obtain ⟨r, n, m, rfl, hr, hn, hm, k⟩ := h
  refine And.intro (by decide) ?_
  refine few_made n m hm hr (fun fw r1 hf hu hr1 => ?_)
  refine And.intro (show -(2 ^ 62) ≤ (n : Int) ∧ (n : Int) < 2 ^ 62 by omega) ?_
  show forD (.nm 4) (b__law_packs_1 S__law_taken S__law_pick) (rngD 0 ((n : Int)).toNat) (E_p n m r1 (some ⟨.lst (fw.map pk), 1, false⟩) none (some ⟨.lst (([] : List Pk).map pk), 1, false⟩) none) _
  rw [Int.toNat_natCast, rng0]
  refine p_loop n m hn hm fw hf hu 1 n 0 [] r1 none none 1 (by omega) rfl (fun s h => nomatch h) hr1 _ (fun ps r' n3 o4 o6 h1 h2 h3 => ?_)
  exact k ps r' h1 h2 h3
/-! ### right -/
theorem pk_flat (p : Pk) : Flat 1 (pk p) := fun d hd => by
  simp at hd
  rcases hd with rfl | rfl <;> trivial
theorem pks_flat (ps : List Pk) : Flat 2 (.lst (ps.map pk)) := fun d hd => by
  obtain ⟨p, _, rfl⟩ := List.mem_map.mp hd
  exact pk_flat p
theorem good_nD {n : Nat} {s : List Nat} (h : s.length ≤ 1000) : Good (n + 1) (.tup (nD s)) := ⟨by rw [List.length_map]; exact h, fun d hd => by
  obtain ⟨i, _, rfl⟩ := List.mem_map.mp hd
  cases n <;> trivial⟩
theorem G_len : ∀ (i : Nat) (ps : List Pk) (w : Nat), (G i ps w).length ≤ ps.length
  | _, [], _ => Nat.le_refl _
  | i, p :: ps, w => by
    unfold G
    split
    · have := G_len (i + 1) ps (w - p.2); simp; omega
    · have := G_len (i + 1) ps w; simp; omega
def S__law_right : DSp := fun ds post => ∃ ps, ∃ w : Nat, ds = [.lst (ps.map pk), .int (w : Int), .tup (nD (G 0 ps w))] ∧ PkOk ps ∧ w ≤ 5000 ∧ w ≤ tot ps ∧ post.rt (.bl true) 0 []
theorem mk_right {post : DPost} {ps : List Pk} {w : Nat} (hp : PkOk ps) (hw : w ≤ 5000) (ht : w ≤ tot ps) (k : post.rt (.bl true) 0 []) : S__law_right [.lst (ps.map pk), .int (w : Int), .tup (nD (G 0 ps w))] post := ⟨ps, w, rfl, hp, hw, ht, k⟩
theorem p_right (ds : List D) (post : DPost) (h : S__law_right ds post) (_ : ds.length = ms__law_right.length) : t__law_right (SA 3) S_least_repack (env0 ms__law_right ds N__law_right.length) (endsOf ms__law_right post) := by
  obtain ⟨ps, w, rfl, hp, hw, ht, k⟩ := h
  have hl := hp.len
  have gd : Good 2 (.tup (nD (G 0 ps w))) := good_nD (by have := G_len 0 ps w; omega)
  refine mk_least true hp hw ht ?_
  refine mk_alike gd ?_
  have sh := shaped_flat (pks_flat ps) (by decide)
  refine And.intro sh (And.intro sh ?_)
  rw [show PyData.eqv (D.lst (ps.map pk)).py (D.lst (ps.map pk)).py = true from SeqAt.eqv_refl _ (flat_py _ _ (pks_flat ps)).1]
  refine mk_least false hp hw ht ?_
  refine mk_alike gd ?_
  exact k
end K84
set_option Elab.async false
set_option linter.all false
set_option maxRecDepth 100000
set_option maxHeartbeats 2000000
/-! k84, part l: what is heard of a call that raises. -/
namespace K84
open PySem L2 PySem.Spec PyProof.Rows DL M84
theorem hN_no {kin : Str → Str → Option Bool} {c : Str} {i : Nat} {ts : Addr → Addr → Exc → SD} {r : List DH} {D : DEnds} {x : Exc} {env : DEnv} (h : kin x.cls c = some false) (k : hN kin r D x env) : hN kin ((c, i, ts) :: r) D x env := by
  unfold hN
  rw [h]
  exact k
theorem hN_yes {kin : Str → Str → Option Bool} {c : Str} {i : Nat} {ts : Addr → Addr → Exc → SD} {r : List DH} {D : DEnds} {x : Exc} {env : DEnv} (h : kin x.cls c = some true) (k : ∀ a d, ts a d x (env.set i (some ⟨.exn a d x.fs, 0, false⟩)) { nx := fun e => D.nx (e.set i none), rt := D.rt, bk := fun e => D.bk (e.set i none), ct := fun e => D.ct (e.set i none), ex := fun _ _ => False }) : hN kin ((c, i, ts) :: r) D x env := by
  unfold hN
  rw [h]
  exact k
theorem xis_of {i : Nat} {a d : Addr} {ob : Option Bool} {b : Bool} {env : DEnv} {fs : List (Str × D)} {n : Nat} {io : Bool} {Q : D → Prop} (h : ob = some b) (hg : gt env i = some ⟨.exn a d fs, n, io⟩) (k : Q (.bl b)) : pXis i a d ob env Q := by
  subst h
  show (match gt env i with
    | some ⟨.exn a' d' _, _, _⟩ => a' = a ∧ d' = d ∧ Q (.bl b)
    | _ => False)
  rw [hg]
  exact ⟨rfl, rfl, k⟩
theorem heard_fin {s c : Str} {v : D} {o1 o2 : Option Bool} {env : DEnv} {Q : QE} {ct bk : DEnv → Prop} {nx : DEnv → Prop} (h1 : o1 = some true) (h2 : o2 = some false) (k : Q (.tup [.str s, v, .bl true, .bl false]) 0 env) (a d : Addr) :
    (sdRet (tON odTup (aCons (eP (pC (.str s))) (aCons (eXf 1 a d "value") (aCons (eP (pXis 1 a d o1)) (aCons (eP (pXis 1 a d o2)) aNil)))))) ((envN 2).set 1 (some ⟨.exn a d [("value", v)], 0, false⟩)) { nx := nx, rt := (heardE tr__law_heard 2 env Q).rt, bk := bk, ct := ct, ex := fun _ _ => False } := by
  subst h1
  subst h2
  refine And.intro rfl (And.intro rfl ?_)
  refine someD_mk (show _ = some v from rfl) ?_
  refine And.intro rfl (And.intro rfl ?_)
  refine And.intro rfl (And.intro rfl ?_)
  exact And.intro (big_le (by simp)) k
theorem kMM : kin ("BadMany" : Str) ("BadMany" : Str) = some true := by decide +kernel
theorem kMH : kin ("BadMany" : Str) ("HouseError" : Str) = some true := by decide +kernel
theorem kPM : kin ("BadPacks" : Str) ("BadMany" : Str) = some false := by decide +kernel
theorem kPP : kin ("BadPacks" : Str) ("BadPacks" : Str) = some true := by decide +kernel
theorem kPH : kin ("BadPacks" : Str) ("HouseError" : Str) = some true := by decide +kernel
theorem kEM : kin ("NotEnough" : Str) ("BadMany" : Str) = some false := by decide +kernel
theorem kEP : kin ("NotEnough" : Str) ("BadPacks" : Str) = some false := by decide +kernel
theorem kEE : kin ("NotEnough" : Str) ("NotEnough" : Str) = some true := by decide +kernel
theorem kEH : kin ("NotEnough" : Str) ("HouseError" : Str) = some true := by decide +kernel
theorem oM : obAny kin ("BadMany" : Str) [("BadPacks" : Str), ("NotEnough" : Str)] = some false := by decide +kernel
theorem oP : obAny kin ("BadPacks" : Str) [("BadMany" : Str), ("NotEnough" : Str)] = some false := by decide +kernel
theorem oE : obAny kin ("NotEnough" : Str) [("BadMany" : Str), ("BadPacks" : Str)] = some false := by decide +kernel
theorem heard_many {v : D} {env : DEnv} {Q : QE} (k : Q (.tup [.str "many", v, .bl true, .bl false]) 0 env) : hN kin L__law_heard (heardE tr__law_heard 2 env Q) (xv "BadMany" v) (envN 2) :=
  hN_yes kMM fun a d => heard_fin (c := "BadMany") kMH oM k a d
theorem heard_packs {v : D} {env : DEnv} {Q : QE} (k : Q (.tup [.str "packs", v, .bl true, .bl false]) 0 env) : hN kin L__law_heard (heardE tr__law_heard 2 env Q) (xv "BadPacks" v) (envN 2) :=
  hN_no kPM (hN_yes kPP fun a d => heard_fin (c := "BadPacks") kPH oP k a d)
theorem heard_enough {v : D} {env : DEnv} {Q : QE} (k : Q (.tup [.str "enough", v, .bl true, .bl false]) 0 env) : hN kin L__law_heard (heardE tr__law_heard 2 env Q) (xv "NotEnough" v) (envN 2) :=
  hN_no kEM (hN_no kEP (hN_yes kEE fun a d => heard_fin (c := "NotEnough") kEH oE k a d))
theorem good_heard {s : Str} {v : D} {n : Nat} (hs : (PyData.str s).canLay0 = true) (hv : Good (n + 1) v) : Good (n + 2) (.tup [.str s, v, .bl true, .bl false]) := ⟨show 4 ≤ 1000 by decide, fun d hd => by
  simp at hd
  rcases hd with rfl | rfl | rfl | rfl
  · cases n <;> exact hs
  · exact hv
  · trivial
  · trivial⟩
end K84
set_option Elab.async false
set_option linter.all false
set_option maxRecDepth 100000
set_option maxHeartbeats 2000000
/-! k84, part m: bad things. -/
namespace K84
open PySem L2 PySem.Spec PyProof.Rows DL M84
def bads : List D := [.non, .int 5, .tup [], .tup [.int 1], .tup [.int 1, .int 2, .int 3], .lst [.int 1, .int 2], .tup [.int (-1), .int 2], .tup [.int 1, .int (-1)], .tup [.int 60001, .int 0], .tup [.int 0, .int 60001], .tup [.bl true, .int 1], .tup [.int 1, .non], .str "ab", .dK []]
theorem allc {α : Type} {P : α → Prop} {x : α} {xs : List α} (h : P x) (hr : ∀ y ∈ xs, P y) : ∀ y ∈ x :: xs, P y := List.forall_mem_cons.mpr ⟨h, hr⟩
theorem alln {α : Type} {P : α → Prop} : ∀ y ∈ ([] : List α), P y := fun _ h => nomatch h
theorem kl_tup {ds : List D} (h : ∀ y ∈ ds, Kn y) : Kl (.tup ds) := ⟨⟨_, rfl⟩, fun es => ⟨fun e y hy => by cases e; exact h y hy, fun e => nomatch e⟩⟩
theorem kn_int (i : Int) : Kn (.int i) := ⟨_, rfl⟩
theorem kn_bl (i : Bool) : Kn (.bl i) := ⟨_, rfl⟩
theorem kn_non : Kn .non := ⟨_, rfl⟩
theorem bads_ok : ∀ x ∈ bads, Kl x ∧ loadB x = false :=
  have i := kn_int
  allc ⟨⟨⟨_, rfl⟩, fun es => ⟨fun e => (by cases e), fun e => (by cases e)⟩⟩, rfl⟩ <|
  allc ⟨⟨⟨_, rfl⟩, fun es => ⟨fun e => (by cases e), fun e => (by cases e)⟩⟩, rfl⟩ <|
  allc ⟨kl_tup alln, rfl⟩ <| allc ⟨kl_tup (allc (i _) alln), rfl⟩ <| allc ⟨kl_tup (allc (i _) <| allc (i _) <| allc (i _) alln), rfl⟩ <|
  allc ⟨⟨⟨_, rfl⟩, fun es => ⟨fun e => (by cases e), fun e => (by cases e)⟩⟩, rfl⟩ <|
  allc ⟨kl_tup (allc (i _) <| allc (i _) alln), by decide⟩ <| allc ⟨kl_tup (allc (i _) <| allc (i _) alln), by decide⟩ <| allc ⟨kl_tup (allc (i _) <| allc (i _) alln), by decide⟩ <| allc ⟨kl_tup (allc (i _) <| allc (i _) alln), by decide⟩ <|
  allc ⟨kl_tup (allc (kn_bl _) <| allc (i _) alln), by decide⟩ <| allc ⟨kl_tup (allc (i _) <| allc kn_non alln), by decide⟩ <|
  allc ⟨⟨⟨_, rfl⟩, fun es => ⟨fun e => (by cases e), fun e => (by cases e)⟩⟩, rfl⟩ <|
  allc ⟨⟨⟨_, rfl⟩, fun es => ⟨fun e => (by cases e), fun e => (by cases e)⟩⟩, rfl⟩ alln
def odds : List D := [.int (-1), .int 5001, .non, .bl true, .str "3", .lst [], .int (10 ^ (30 : Int).toNat)]
theorem odds_ok : ∀ x ∈ odds, Kn x ∧ within x 0 5000 = false ∧ Good 1 x :=
  allc ⟨kn_int _, by decide, trivial⟩ <| allc ⟨kn_int _, by decide, trivial⟩ <| allc ⟨kn_non, rfl, trivial⟩ <| allc ⟨kn_bl _, rfl, trivial⟩ <|
  allc ⟨⟨_, rfl⟩, rfl, (by decide +kernel : (PyData.str (Str.ofString "3")).canLay0 = true)⟩ <| allc ⟨⟨_, rfl⟩, rfl, ⟨Nat.zero_le _, fun _ h => nomatch h⟩⟩ <| allc ⟨kn_int _, by decide, trivial⟩ alln
def things (key : List Key) : List D := [.non, .int 7, .str "packs", .dK [], .dT [(key, .int 1)], .bl true, .lst (List.replicate 61 [D.tup [.int 1, .int 1]]).flatten, .lst (List.replicate 61 [D.non]).flatten]
theorem things_ok {key : List Key} : ∀ x ∈ things key, Kn x ∧ CB x (-1) :=
  have row : ∀ {ds : List D}, 60 < ds.length → CB (.lst ds) (-1) := fun h => .inr ⟨true, _, rfl, .inl ⟨h, rfl⟩⟩
  allc ⟨kn_non, .inl ⟨rfl, rfl⟩⟩ <| allc ⟨kn_int _, .inl ⟨rfl, rfl⟩⟩ <| allc ⟨⟨_, rfl⟩, .inl ⟨rfl, rfl⟩⟩ <| allc ⟨⟨_, rfl⟩, .inl ⟨rfl, rfl⟩⟩ <| allc ⟨⟨_, rfl⟩, .inl ⟨rfl, rfl⟩⟩ <|
  allc ⟨kn_bl _, .inl ⟨rfl, rfl⟩⟩ <| allc ⟨⟨_, rfl⟩, row (by decide)⟩ <| allc ⟨⟨_, rfl⟩, row (by decide)⟩ alln
/-- packs with a thing put in -/
abbrev mixed (xs : List D) (n : Nat) (b : D) : List D := (DL.cutD xs none (some (n : Int)) ++ [b]) ++ DL.cutD xs (some (n : Int)) (some 59)
theorem cut_lo {xs : List D} {n : Nat} (h : n ≤ xs.length) : DL.cutD xs none (some (n : Int)) = xs.take n := by
  unfold DL.cutD
  rw [HT.sIx_nat, show HT.sIx xs.length 0 none = 0 from rfl, Nat.min_eq_left h]
  simp
theorem cut_hi {xs : List D} {n : Nat} (h : n ≤ xs.length) : DL.cutD xs (some (n : Int)) (some 59) = (xs.drop n).take (min 59 xs.length - n) := by
  unfold DL.cutD
  rw [HT.sIx_nat, show (some (59 : Int)) = some ((59 : Nat) : Int) from rfl, HT.sIx_nat, Nat.min_eq_left h]
theorem cut_59 {xs : List D} : (DL.cutD xs none (some 59)).length = min 59 xs.length := by
  unfold DL.cutD
  rw [show (some (59 : Int)) = some ((59 : Nat) : Int) from rfl, HT.sIx_nat, show HT.sIx xs.length 0 none = 0 from rfl]
  simp
theorem mixed_bad {ps : List Pk} {n : Nat} {b : D} (hp : PkOk ps) (hn : n ≤ min 59 ps.length) (hb : Kl b ∧ loadB b = false) : CB (.lst (mixed (ps.map pk) n b)) (n : Int) := by
  have hl : n ≤ (ps.map pk).length := by rw [List.length_map]; omega
  have e : mixed (ps.map pk) n b = (ps.map pk).take n ++ ([b] ++ ((ps.map pk).drop n).take (min 59 (ps.map pk).length - n)) := by
    unfold mixed
    rw [cut_lo hl, cut_hi hl, List.append_assoc]
  have lt : ((ps.map pk).take n).length = n := by rw [List.length_take]; omega
  have mem : ∀ x ∈ ps.map pk, Kl x ∧ loadB x = true := fun x hx => by
    obtain ⟨p, h, rfl⟩ := List.mem_map.mp hx
    exact ⟨kl_pk p, load_pk (hp.ok p h)⟩
  refine .inr ⟨true, _, rfl, .inr ⟨?_, ?_, n, ⟨?_, ?_, ?_⟩, rfl⟩⟩
  · rw [e]
    simp [List.length_take, List.length_drop]
    omega
  · intro x hx
    rw [e] at hx
    rcases List.mem_append.mp hx with z | z
    · exact (mem x (List.mem_of_mem_take z)).1
    · rcases List.mem_append.mp z with z | z
      · rw [List.mem_singleton.mp z]; exact hb.1
      · exact (mem x (List.mem_of_mem_drop (List.mem_of_mem_take z))).1
  · rw [e, List.length_append, List.length_append, lt]
    simp
    omega
  · intro q x hq ex
    rw [e, List.getElem?_append_left (by rw [lt]; exact hq)] at ex
    exact (mem x (List.mem_of_mem_take (List.mem_of_getElem? ex))).2
  · intro x ex
    rw [e, List.getElem?_append_right (by rw [lt]; exact Nat.le_refl _), lt, Nat.sub_self] at ex
    cases ex
    exact hb.2
theorem mixed_len {xs : List D} {n : Nat} {b : D} (h : n ≤ xs.length) : (mixed xs n b).length ≤ xs.length + 61 := by
  unfold mixed
  rw [cut_lo h, cut_hi h]
  simp [List.length_take, List.length_drop]
  omega
end K84
set_option Elab.async false
set_option linter.all false
set_option maxRecDepth 100000
set_option maxHeartbeats 400000
/-! k84, part n: bad. -/
namespace K84
open PySem L2 PySem.Spec PyProof.Rows DL M84
def S__law_bad : DSp := fun ds post => ∃ r ps, ds = [r, .lst (ps.map pk)] ∧ Row r ∧ PkOk ps ∧ ∀ r', Row r' → post.rt (.bl true) 0 [r']
theorem mk_bad {post : DPost} {r : D} {ps : List Pk} (hr : Row r) (hp : PkOk ps) (k : ∀ r', Row r' → post.rt (.bl true) 0 [r']) : S__law_bad [r, .lst (ps.map pk)] post := ⟨r, ps, rfl, hr, hp, k⟩
abbrev KB (k : DSp → DSp → DSp → DSp → SD) : SD := k S__law_taken S__law_pick (SA 3) S_least_repack
section
variable {post : DPost} {r : D} {ps : List Pk}
theorem b1 (k : ∀ r', Row r' → post.rt (.bl true) 0 [r']) (hr : Row r) (hp : PkOk ps) {odd : D} (ho : Kn odd ∧ within odd 0 5000 = false ∧ Good 1 odd) (n5 : Nat) (a2 a3 a4 a6 : Option Bd) :
    KB k__law_bad_1 [some ⟨r, 1, true⟩, some ⟨.lst (ps.map pk), 0, false⟩, a2, a3, a4, some ⟨odd, n5, false⟩, a6] (endsOf ms__law_bad post) := by
  refine mk_least_many true hp ho.1 ho.2.1 ?_
  refine heard_many ?_
  refine And.intro (show 4 ≤ sizeLine by decide) ?_
  refine mk_alike (good_heard (by decide +kernel) ho.2.2) ?_
  exact k r hr
theorem b2 (k : ∀ r', Row r' → post.rt (.bl true) 0 [r']) (hr : Row r) (hp : PkOk ps) {odd thing : D} (ho : Kn odd ∧ within odd 0 5000 = false ∧ Good 1 odd) (ht : Kn thing ∧ CB thing (-1)) (n5 n6 : Nat) (a2 a3 a4 : Option Bd) :
    KB k__law_bad_2 [some ⟨r, 1, true⟩, some ⟨.lst (ps.map pk), 0, false⟩, a2, a3, a4, some ⟨odd, n5, false⟩, some ⟨thing, n6, false⟩] (endsOf ms__law_bad post) := by
  refine mk_least_bad ht.1 ho.1 ht.2 ?_
  refine heard_packs ?_
  refine And.intro (show 4 ≤ sizeLine by decide) ?_
  refine mk_alike (good_heard (by decide +kernel) (show Good 1 (.int (-1)) from trivial)) ?_
  exact b1 k hr hp ho _ _ _ _ _
theorem b3 (k : ∀ r', Row r' → post.rt (.bl true) 0 [r']) (hr : Row r) (hp : PkOk ps) {odd : D} (ho : Kn odd ∧ within odd 0 5000 = false ∧ Good 1 odd) (n5 : Nat) (a2 a3 a4 a6 : Option Bd) :
    KB k__law_bad_3 [some ⟨r, 1, true⟩, some ⟨.lst (ps.map pk), 0, false⟩, a2, a3, a4, some ⟨odd, n5, false⟩, a6] (endsOf ms__law_bad post) := by
  refine And.intro (show 2 ≤ sizeLine by decide) ?_
  refine And.intro (show 2 ≤ sizeLine by decide) ?_
  refine And.intro (show 1 ≤ sizeLine by decide) ?_
  refine And.intro (by decide) (And.intro (by decide) (And.intro (show 1 * 61 ≤ sizeLine by decide) ?_))
  refine And.intro (show 1 ≤ sizeLine by decide) ?_
  refine And.intro (by decide) (And.intro (by decide) (And.intro (show 1 * 61 ≤ sizeLine by decide) ?_))
  refine And.intro (show 8 ≤ sizeLine by decide) ?_
  refine mk_pick (xs := things _) hr (by unfold things; intro z; cases z) (by decide) (fun thing r2 ht hr2 => ?_)
  exact b2 k hr2 hp ho (things_ok thing ht) _ _ _ _ _
theorem b4 (k : ∀ r', Row r' → post.rt (.bl true) 0 [r']) (hr : Row r) (hp : PkOk ps) {odd bad : D} {n : Nat} (hn : n ≤ min 59 ps.length) (hb : Kl bad ∧ loadB bad = false) (ho : Kn odd ∧ within odd 0 5000 = false ∧ Good 1 odd) (n4 n5 : Nat) (a3 a6 : Option Bd) :
    KB k__law_bad_4 [some ⟨r, 1, true⟩, some ⟨.lst (ps.map pk), 0, false⟩, some ⟨.int (n : Int), 0, false⟩, a3, some ⟨.lst (mixed (ps.map pk) n bad), n4, false⟩, some ⟨odd, n5, false⟩, a6] (endsOf ms__law_bad post) := by
  refine mk_least_bad ⟨_, rfl⟩ ho.1 (mixed_bad hp hn hb) ?_
  refine heard_packs ?_
  refine And.intro (show 4 ≤ sizeLine by decide) ?_
  refine mk_alike (good_heard (by decide +kernel) (show Good 1 (.int (n : Int)) from trivial)) ?_
  exact b3 k hr hp ho _ _ _ _ _
theorem b5 (k : ∀ r', Row r' → post.rt (.bl true) 0 [r']) (hr : Row r) (hp : PkOk ps) {bad : D} {n : Nat} (hn : n ≤ min 59 ps.length) (hb : Kl bad ∧ loadB bad = false) (a4 a5 a6 : Option Bd) :
    KB k__law_bad_5 [some ⟨r, 1, true⟩, some ⟨.lst (ps.map pk), 0, false⟩, some ⟨.int (n : Int), 0, false⟩, some ⟨bad, 0, false⟩, a4, a5, a6] (endsOf ms__law_bad post) := by
  have hl := hp.len
  have hnl : n ≤ (ps.map pk).length := by rw [List.length_map]; omega
  have ml := mixed_len (b := bad) hnl
  rw [List.length_map] at ml
  have ml2 : (DL.cutD (ps.map pk) none (some (n : Int)) ++ [bad]).length + (DL.cutD (ps.map pk) (some (n : Int)) (some 59)).length ≤ 121 := by
    rw [← List.length_append]
    show (mixed (ps.map pk) n bad).length ≤ 121
    omega
  have ml1 : (DL.cutD (ps.map pk) none (some (n : Int))).length + [bad].length ≤ 121 := by
    rw [List.length_append] at ml2
    have := List.length_append (as := DL.cutD (ps.map pk) none (some (n : Int))) (bs := [bad])
    omega
  refine And.intro (show 1 ≤ sizeLine by decide) ?_
  refine And.intro (big_le (Nat.le_trans ml1 (by decide))) ?_
  refine And.intro (big_le (Nat.le_trans ml2 (by decide))) ?_
  refine And.intro ⟨by decide, by decide, by decide⟩ ?_
  refine And.intro (show 7 ≤ sizeLine by decide) ?_
  refine mk_pick (xs := odds) hr (by unfold odds; intro z; cases z) (by decide) (fun odd r3 ho hr3 => ?_)
  exact b4 k hr3 hp hn hb (odds_ok odd ho) _ _ _ _
theorem b6 (k : ∀ r', Row r' → post.rt (.bl true) 0 [r']) (hr : Row r) (hp : PkOk ps) {n : Nat} (hn : n ≤ min 59 ps.length) (a3 a4 a5 a6 : Option Bd) :
    KB k__law_bad_6 [some ⟨r, 1, true⟩, some ⟨.lst (ps.map pk), 0, false⟩, some ⟨.int (n : Int), 0, false⟩, a3, a4, a5, a6] (endsOf ms__law_bad post) := by
  refine And.intro (by decide) ?_
  refine And.intro (by decide) ?_
  refine And.intro (by decide) ?_
  refine And.intro (by decide) ?_
  refine And.intro (by decide) ?_
  refine And.intro (by decide) ?_
  refine And.intro (by decide) ?_
  refine And.intro (by decide) ?_
  refine And.intro (by decide) ?_
  refine And.intro (by decide) ?_
  refine And.intro (by decide) ?_
  refine mk_pick (xs := bads) hr (by unfold bads; intro z; cases z) (by decide) (fun bad r2 hb hr2 => ?_)
  exact b5 k hr2 hp hn (bads_ok bad hb) _ _ _
end
theorem p_bad (ds : List D) (post : DPost) (h : S__law_bad ds post) (_ : ds.length = ms__law_bad.length) : t__law_bad S__law_taken S__law_pick (SA 3) S_least_repack (env0 ms__law_bad ds N__law_bad.length) (endsOf ms__law_bad post) := by
  obtain ⟨r, ps, rfl, hr, hp, k⟩ := h
  have hl := hp.len
  have big : (100000 : Int) < 10 ^ 40 := by decide
  have len : ((DL.cutD (ps.map pk) none (some 59)).length : Int) = (min 59 ps.length : Nat) := by rw [cut_59, List.length_map]
  refine mk_taken (m := ((DL.cutD (ps.map pk) none (some 59)).length : Int) + 1) hr (by rw [len]; omega) (by rw [len]; omega) (fun at_ r1 a0 a1 hr1 => ?_)
  obtain ⟨n, rfl⟩ : ∃ n : Nat, at_ = (n : Int) := ⟨at_.toNat, by omega⟩
  exact b6 k hr1 hp (by rw [len] at a1; omega) _ _ _ _
end K84
set_option Elab.async false
set_option linter.all false
set_option maxRecDepth 100000
set_option maxHeartbeats 2000000
/-! k84, the plain law, part 3: the wide packs. -/
namespace M84
theorem sub_zero {D : Nat} : ∀ (ps : List Pk) (i : Nat) (x : Tr) (d : Nat), (∀ p ∈ ps, 0 < p.1) → Sub i (ps ++ [(0, D)]) x d → x.1 = 0 → (x = (0, 0, []) ∧ d = 0) ∨ (x = (0, 1, [i + ps.length]) ∧ d = D)
  | [], i, x, d, _, h, _ => by
    cases h with
    | skip h => cases h; exact .inl ⟨rfl, rfl⟩
    | take h => cases h; exact .inr ⟨rfl, Nat.zero_add _⟩
  | p :: ps, i, x, d, hp, h, e => by
    cases h with
    | skip h =>
      have := sub_zero ps (i + 1) x d (fun q m => hp q (List.mem_cons_of_mem _ m)) h e
      rw [show i + (p :: ps).length = i + 1 + ps.length by simp; omega]
      exact this
    | take h =>
      have := hp p List.mem_cons_self
      simp only [add] at e
      omega
theorem sub_last {D : Nat} : ∀ (ps : List Pk) (i : Nat), Sub i (ps ++ [(0, D)]) (0, 1, [i + ps.length]) D
  | [], i => by
    have := Sub.take (p := (0, D)) (Sub.nil (i := i + 1))
    simpa [add] using this
  | p :: ps, i => by
    rw [show i + (p :: ps).length = i + 1 + ps.length by simp; omega]
    exact .skip (sub_last ps (i + 1))
theorem sub_all : ∀ (ps : List Pk) (i : Nat) (x : Tr) (d : Nat), (∀ p ∈ ps, p.2 = 85) → Sub i (ps ++ [(0, 0)]) x d → ∃ k, k ≤ ps.length ∧ d = 85 * k ∧ (k = ps.length → x = ((ps.map (·.1)).sum, ps.length, List.range' i ps.length) ∨ x = ((ps.map (·.1)).sum, ps.length + 1, List.range' i (ps.length + 1)))
  | [], i, x, d, _, h => by
    cases h with
    | skip h => cases h; exact ⟨0, Nat.le_refl _, rfl, fun _ => .inl rfl⟩
    | take h => cases h; exact ⟨0, Nat.le_refl _, rfl, fun _ => .inr rfl⟩
  | p :: ps, i, x, d, hp, h => by
    cases h with
    | skip h =>
      obtain ⟨k, h1, h2, _⟩ := sub_all ps (i + 1) x d (fun q m => hp q (List.mem_cons_of_mem _ m)) h
      exact ⟨k, by simp; omega, h2, fun e => by simp at e; omega⟩
    | take h =>
      obtain ⟨k, h1, h2, h3⟩ := sub_all ps (i + 1) _ _ (fun q m => hp q (List.mem_cons_of_mem _ m)) h
      refine ⟨k + 1, by simp; omega, by rw [h2, hp p List.mem_cons_self]; omega, fun e => ?_⟩
      rcases h3 (by simpa using e) with z | z
      · left
        rw [z]
        simp [add, List.range'_succ, Nat.add_comm]
      · right
        rw [z]
        show ((ps.map (·.1)).sum + p.1, ps.length + 1 + 1, i :: List.range' (i + 1) (ps.length + 1)) = (((p :: ps).map (·.1)).sum, ps.length + 1 + 1, List.range' i (ps.length + 1 + 1))
        rw [List.range'_succ (n := ps.length + 1), List.map_cons, List.sum_cons, Nat.add_comm p.1]
theorem sub_most : ∀ (ps : List Pk) (i : Nat), (∀ p ∈ ps, p.2 = 85) → Sub i (ps ++ [(0, 0)]) ((ps.map (·.1)).sum, ps.length, List.range' i ps.length) (85 * ps.length)
  | [], i, _ => .skip .nil
  | p :: ps, i, hp => by
    have := Sub.take (p := p) (sub_most ps (i + 1) fun q m => hp q (List.mem_cons_of_mem _ m))
    rw [hp p List.mem_cons_self] at this
    have e : add i p ((ps.map (·.1)).sum, ps.length, List.range' (i + 1) ps.length) = (((p :: ps).map (·.1)).sum, (p :: ps).length, List.range' i (p :: ps).length) := by simp [add, List.range'_succ, Nat.add_comm]
    rw [e] at this
    rw [show 85 * (p :: ps).length = 85 * ps.length + 85 by simp; omega]
    exact this
/-- the wide packs -/
def wide59 : List Pk := (List.range' 0 59).map fun k => (60000 - k, 85)
theorem wide_len : wide59.length = 59 := by simp [wide59]
theorem wide_mem : ∀ p ∈ wide59, 0 < p.1 ∧ p.1 ≤ 60000 ∧ p.2 = 85 := fun p hp => by
  obtain ⟨k, hk, rfl⟩ := List.mem_map.mp hp
  have := (List.mem_range'_1.mp hk).2
  refine ⟨?_, ?_, rfl⟩
  · show 0 < 60000 - k; omega
  · show 60000 - k ≤ 60000; omega
theorem B_one {i : Nat} {ps : List Pk} {w : Nat} {x y : Tr} {d : Nat} (h : B i ps w = some x) (s : Sub i ps y d) (hd : w ≤ d) : tlt y x = false := by
  obtain ⟨x', e, q⟩ := (B_spec i ps w).2 y d s hd
  rw [h] at e
  cases e
  exact q
theorem G_wide1 : G 0 (wide59 ++ [(0, 60000)]) 5000 = [59] := by
  obtain ⟨x, hx⟩ := (B_spec 0 (wide59 ++ [(0, 60000)]) 5000).2 _ _ (sub_last wide59 0) (by decide)
  obtain ⟨d, hd, s⟩ := (B_spec 0 (wide59 ++ [(0, 60000)]) 5000).1 x hx.1
  have m := hx.2
  have z : x.1 = 0 := by
    by_cases c : 0 < x.1
    · exact absurd (show tlt (0, 1, [0 + wide59.length]) x = true from tlt_iff.mpr (.inl c)) (by rw [m]; decide)
    · omega
  rcases sub_zero wide59 0 x d (fun p hp => (wide_mem p hp).1) s z with ⟨_, e⟩ | ⟨e, _⟩
  · omega
  · have := ((C_spec 0 (wide59 ++ [(0, 60000)]) 5000 (by rw [List.length_append, wide_len]; decide)).2 x.1 x.2.1 x.2.2 hx.1).2.2
    rw [this, e, wide_len]
theorem G_wide0 : G 0 (wide59 ++ [(0, 0)]) 5000 = List.range' 0 59 := by
  obtain ⟨x, hx⟩ := (B_spec 0 (wide59 ++ [(0, 0)]) 5000).2 _ _ (sub_most wide59 0 fun p hp => (wide_mem p hp).2.2) (by rw [wide_len]; decide)
  obtain ⟨d, hd, s⟩ := (B_spec 0 (wide59 ++ [(0, 0)]) 5000).1 x hx.1
  have m := hx.2
  obtain ⟨k, h1, h2, h3⟩ := sub_all wide59 0 x d (fun p hp => (wide_mem p hp).2.2) s
  have hl := wide_len
  rcases h3 (by omega) with e | e
  · have := ((C_spec 0 (wide59 ++ [(0, 0)]) 5000 (by rw [List.length_append, wide_len]; decide)).2 x.1 x.2.1 x.2.2 hx.1).2.2
    rw [this, e, wide_len]
  · rw [e] at m
    have : tlt ((wide59.map (·.1)).sum, wide59.length, List.range' 0 wide59.length) ((wide59.map (·.1)).sum, wide59.length + 1, List.range' 0 (wide59.length + 1)) = true := tlt_iff.mpr (.inr ⟨rfl, .inl (Nat.lt_succ_self _)⟩)
    rw [this] at m
    cases m
end M84
set_option Elab.async false
set_option linter.all false
set_option maxRecDepth 100000
set_option maxHeartbeats 400000
/-! k84, part o: the law. -/
namespace K84
open PySem L2 PySem.Spec PyProof.Rows DL M84
def S_law : DSp := fun ds post => ∃ ns : List Int, ds = [.lst (ns.map .int)] ∧ post.rt (.bl true) 0 []
abbrev KL (f : DSp → DSp → DSp → DSp → DSp → DSp → DSp → DSp → DSp → SD) : SD := f S__law_pick S__law_packs S__law_taken S__law_right S__law_choices (SA 3) S_least_repack S__law_best S__law_bad
theorem mk_right0 {post : DPost} {ps : List Pk} (hp : PkOk ps) (k : post.rt (.bl true) 0 []) : S__law_right [.lst (ps.map pk), .int 0, .tup []] post := by
  have h := mk_right (post := post) (ps := ps) (w := 0) hp (by decide) (Nat.zero_le _) k
  rw [G_zero] at h
  exact h
theorem mk_rightB {post : DPost} {ps : List Pk} {w : Nat} {x : Tr} (hp : PkOk ps) (hw : w ≤ 5000) (ht : w ≤ tot ps) (hx : B 0 ps w = some x) (k : post.rt (.bl true) 0 []) : S__law_right [.lst (ps.map pk), .int (w : Int), .tup (nD x.2.2)] post := by
  have h := mk_right (post := post) hp hw ht k
  rw [((C_spec 0 ps w hp.len).2 x.1 x.2.1 x.2.2 hx).2.2] at h
  exact h
theorem pk_upto {n m : Nat} {ps : List Pk} (h1 : ps.length = n) (h2 : Upto m ps) (hn : n ≤ 60) (hm : m ≤ 60000) : PkOk ps := ⟨by omega, fun p hp => ⟨Nat.le_trans (h2 p hp).1 hm, Nat.le_trans (h2 p hp).2 hm⟩⟩
abbrev wd (c : Nat) : List Pk := wide59 ++ [(0, c)]
theorem wd_ok {c : Nat} (h : c ≤ 60000) : PkOk (wd c) := ⟨by rw [List.length_append, wide_len]; show 59 + 1 ≤ 60; decide, fun p hp => by
  rcases List.mem_append.mp hp with z | z
  · have := wide_mem p z
    omega
  · rw [List.mem_singleton.mp z]; exact ⟨show 0 ≤ 60000 by decide, h⟩⟩
theorem wd_tot (c : Nat) : 5000 ≤ tot (wd c) := by
  have e : ∀ l : List Nat, ((l.map fun k => ((60000 - k, 85) : Pk)).map (·.2)).sum = 85 * l.length := fun l => by
    induction l with
    | nil => rfl
    | cons a l ih => rw [List.map_cons, List.map_cons, List.sum_cons, ih, List.length_cons]; omega
  unfold tot wd
  rw [List.map_append, List.sum_append]
  have := e (List.range' 0 59)
  unfold wide59
  rw [this, List.length_range']
  omega
theorem wd_D (c : Nat) : ((List.range' 0 59).map fun (i : Nat) => D.tup [.int (60000 - (i : Int)), .int 85]) ++ [D.tup [.int 0, .int (c : Int)]] = (wd c).map pk := by
  unfold wd wide59
  rw [List.map_append, List.map_map]
  congr 1
abbrev wdD (c : Int) : List D := ([] ++ (List.range' 0 59).map fun (i : Nat) => D.tup [.int (60000 - (i : Int)), .int 85]) ++ [D.tup [.int 0, .int c]]
theorem mk_rightW1 {post : DPost} (k : post.rt (.bl true) 0 []) : S__law_right [.lst (wdD 60000), .int 5000, .tup [.int 59]] post := by
  have h := mk_right (post := post) (wd_ok (c := 60000) (by decide)) (w := 5000) (by decide) (wd_tot _) k
  rw [G_wide1, ← wd_D] at h
  exact h
theorem mk_rightW0 {post : DPost} (k : post.rt (.bl true) 0 []) : S__law_right [.lst (wdD 0), .int 5000, .tup (rngD 0 ((59 : Int)).toNat)] post := by
  have h := mk_right (post := post) (wd_ok (c := 0) (by decide)) (w := 5000) (by decide) (wd_tot _) k
  rw [G_wide0, ← wd_D] at h
  rw [show rngD 0 ((59 : Int)).toNat = nD (List.range' 0 59) from rng0 59]
  exact h
section
variable {post : DPost} {r : D} {ps ms : List Pk}
theorem q1 (k : post.rt (.bl true) 0 []) (hr : Row r) (hp : PkOk ps) (hm : PkOk ms) (a0 a2 a4 a5 a6 a7 a9 a10 a11 : Option Bd) (n3 n8 : Nat) :
    KL k_law_1 [a0, some ⟨r, 1, false⟩, a2, some ⟨.lst (ps.map pk), n3, false⟩, a4, a5, a6, a7, some ⟨.lst (ms.map pk), n8, false⟩, a9, a10, a11] (endsOf ms_law post) := by
  refine mk_bad hr hp (fun r1 hr1 => ?_)
  refine mk_bad hr1 hm (fun r2 hr2 => ?_)
  refine And.intro (by decide) ?_
  exact mk_right0 hp k
theorem q2 (k : post.rt (.bl true) 0 []) (hr : Row r) (hp : PkOk ps) (hm : PkOk ms) (w : Nat) (a0 a2 a4 a5 a7 a9 a10 : Option Bd) (n3 n8 : Nat) :
    KL k_law_2 [a0, some ⟨r, 1, false⟩, a2, some ⟨.lst (ps.map pk), n3, false⟩, a4, a5, some ⟨.int (w : Int), 0, false⟩, a7, some ⟨.lst (ms.map pk), n8, false⟩, a9, a10, none] (endsOf ms_law post) := by
  refine mk_taken hr (by decide) (by decide) (fun v r1 v0 v1 hr1 => ?_)
  refine brB_dec (p := v = 0) (fun _ => ?_) (fun _ => ?_)
  · refine And.intro (by decide) ?_
    rw [show rngD 0 ((59 : Int)).toNat = nD (List.range' 0 59) from rng0 59]
    refine lc_map (fun (i : Nat) => D.int (i : Int)) (fun (i : Nat) => D.tup [.int (60000 - (i : Int)), .int 85]) (List.range' 0 59) [] (by simp) (fun i _ A h => And.intro (show 2 ≤ sizeLine by decide) h) ?_
    have l60 : (([] ++ (List.range' 0 59).map fun (i : Nat) => D.tup [.int (60000 - (i : Int)), .int 85]) : List D).length + 1 ≤ sizeLine := by rw [List.nil_append, List.length_map, List.length_range']; decide
    refine brB_dec (p := (9 : Int) < (w : Int)) (fun z => ?_) (fun z => ?_)
    · refine And.intro (show 2 ≤ sizeLine by decide) ?_
      refine And.intro (show 1 ≤ sizeLine by decide) ?_
      refine And.intro l60 ?_
      refine brB_t (decide_eq_true z) ?_
      refine And.intro (show 1 ≤ sizeLine by decide) ?_
      refine mk_rightW1 ?_
      exact q1 k hr1 hp hm _ _ _ _ _ _ _ _ _ _ _
    · refine And.intro (show 2 ≤ sizeLine by decide) ?_
      refine And.intro (show 1 ≤ sizeLine by decide) ?_
      refine And.intro l60 ?_
      refine brB_f (decide_eq_false z) ?_
      refine And.intro (RgOk.of_le (by decide) (by decide) (by decide) (by decide)) ?_
      refine mk_rightW0 ?_
      exact q1 k hr1 hp hm _ _ _ _ _ _ _ _ _ _ _
  · exact q1 k hr1 hp hm _ _ _ _ _ _ _ _ _ _ _
end
end K84
set_option Elab.async false
set_option linter.all false
set_option maxRecDepth 100000
set_option maxHeartbeats 400000
/-! k84, part p: the law, its end. -/
namespace K84
open PySem L2 PySem.Spec PyProof.Rows DL M84
section
variable {post : DPost} {r : D} {ps ms : List Pk}
theorem B_tot {ps : List Pk} {w : Nat} (h : w ≤ tot ps) : ∃ x, B 0 ps w = some x := B_some h
theorem q3 (k : post.rt (.bl true) 0 []) (hr : Row r) (hp : PkOk ps) (hm : PkOk ms) (w : Nat) (hw : w ≤ 5000) (ht : w ≤ tot ms) (a0 a2 a4 a5 a7 a9 a10 : Option Bd) (n3 n8 : Nat) :
    KL k_law_3 [a0, some ⟨r, 1, false⟩, a2, some ⟨.lst (ps.map pk), n3, false⟩, a4, a5, some ⟨.int (w : Int), 0, false⟩, a7, some ⟨.lst (ms.map pk), n8, false⟩, a9, a10, none] (endsOf ms_law post) := by
  obtain ⟨x, hx⟩ := B_tot ht
  refine mk_best hm hw ?_
  rw [hx]
  refine mk_rightB hm hw ht hx ?_
  refine And.intro (by decide) ?_
  refine mk_right0 hm ?_
  exact q2 k hr hp hm w _ _ _ _ _ _ _ _ _
theorem q4 (k : post.rt (.bl true) 0 []) (hr : Row r) (hp : PkOk ps) (hm : PkOk ms) (a0 a2 a4 a5 a6 a7 a10 : Option Bd) (n3 n8 : Nat) :
    KL k_law_4 [a0, some ⟨r, 1, false⟩, a2, some ⟨.lst (ps.map pk), n3, false⟩, a4, a5, a6, a7, some ⟨.lst (ms.map pk), n8, false⟩, some ⟨.int (tot ms : Nat), 0, false⟩, a10, none] (endsOf ms_law post) := by
  refine mk_taken (m := (if (24 : Int) < ((tot ms : Nat) : Int) then 24 else ((tot ms : Nat) : Int)) + 1) hr (by split <;> omega) (by split <;> omega) (fun v r1 v0 v1 hr1 => ?_)
  obtain ⟨w, rfl⟩ : ∃ w : Nat, v = (w : Int) := ⟨v.toNat, by omega⟩
  exact q3 k hr1 hp hm w (by split at v1 <;> omega) (by split at v1 <;> omega) _ _ _ _ _ _ _ _ _
theorem q5 (k : post.rt (.bl true) 0 []) (hr : Row r) (hp : PkOk ps) (hm : PkOk ms) (a0 a2 a4 a6 a7 a9 a10 : Option Bd) (n3 n8 : Nat) :
    KL k_law_5 [a0, some ⟨r, 1, false⟩, a2, some ⟨.lst (ps.map pk), n3, false⟩, a4, none, a6, a7, some ⟨.lst (ms.map pk), n8, false⟩, a9, a10, none] (endsOf ms_law post) := by
  refine lc_map pk (fun p => .int ((p.2 : Nat) : Int)) ms [] (by have := hm.len; simp; omega) (fun p _ A h => h) ?_
  refine someO_mk (intsD_map (fun p : Pk => ((p.2 : Nat) : Int)) ms) ?_
  rw [tot_int]
  exact q4 k hr hp hm _ _ _ _ _ _ _ _ _
theorem q6 (k : post.rt (.bl true) 0 []) (hr : Row r) (hp : PkOk ps) (m : Nat) (hm : m ≤ 60000) (a0 a2 a4 a6 a8 a9 a10 : Option Bd) (n3 : Nat) :
    KL k_law_6 [a0, some ⟨r, 1, false⟩, a2, some ⟨.lst (ps.map pk), n3, false⟩, a4, none, a6, some ⟨.int (m : Int), 0, false⟩, a8, a9, a10, none] (endsOf ms_law post) := by
  refine And.intro (show 4 ≤ sizeLine by decide) ?_
  refine mk_pick hr (by intro z; cases z) (by decide) (fun x r1 hx hr1 => ?_)
  obtain ⟨n, rfl, hn⟩ : ∃ n : Nat, x = .int (n : Int) ∧ n ≤ 60 := (allc ⟨12, rfl, by decide⟩ <| allc ⟨20, rfl, by decide⟩ <| allc ⟨33, rfl, by decide⟩ <| allc ⟨60, rfl, by decide⟩ alln : ∀ x ∈ [D.int 12, D.int 20, D.int 33, D.int 60], ∃ n : Nat, x = .int (n : Int) ∧ n ≤ 60) x hx
  refine mk_packs hr1 hn hm (fun qs r2 h1 h2 hr2 => ?_)
  exact q5 k hr2 hp (pk_upto h1 h2 hn hm) _ _ _ _ _ _ _ _ _
theorem q7 (k : post.rt (.bl true) 0 []) (hr : Row r) (hp : PkOk ps) (a0 a2 a4 a6 a7 a8 a9 a10 : Option Bd) (n3 : Nat) :
    KL k_law_7 [a0, some ⟨r, 1, false⟩, a2, some ⟨.lst (ps.map pk), n3, false⟩, a4, none, a6, a7, a8, a9, a10, none] (endsOf ms_law post) := by
  refine And.intro (show 3 ≤ sizeLine by decide) ?_
  refine mk_pick hr (by intro z; cases z) (by decide) (fun x r1 hx hr1 => ?_)
  obtain ⟨n, rfl, hn⟩ : ∃ n : Nat, x = .int (n : Int) ∧ n ≤ 60000 := (allc ⟨2, rfl, by decide⟩ <| allc ⟨4, rfl, by decide⟩ <| allc ⟨7, rfl, by decide⟩ alln : ∀ x ∈ [D.int 2, D.int 4, D.int 7], ∃ n : Nat, x = .int (n : Int) ∧ n ≤ 60000) x hx
  exact q6 k hr1 hp n hn _ _ _ _ _ _ _ _
theorem lam_enough {Q : QE} {R : QX} {w : Nat} (hp : PkOk ps) (w2 : w ≤ 5000) (w1 : tot ps < w) (a0 a2 a7 a8 a9 a10 : Option Bd) (n3 n6 : Nat)
    (k : ∀ b0 b2 b7 b8 b9 b10, Q (.tup [.str "enough", .int (tot ps : Nat), .bl true, .bl false]) 0 [b0, some ⟨r, 1, false⟩, b2, some ⟨.lst (ps.map pk), 0, false⟩, some ⟨.int (tot ps : Nat), 0, false⟩, none, some ⟨.int (w : Int), 0, false⟩, b7, b8, b9, b10, none]) :
    eLam kin L__law_heard tr__law_heard 2 [3, 6] [1] (eCall ms_least_repack S_least_repack [] (gaVal (eVar 3) (gaVal (eVar 6) (gaNil)))) [a0, some ⟨r, 1, false⟩, a2, some ⟨.lst (ps.map pk), n3, false⟩, some ⟨.int (tot ps : Nat), 0, false⟩, none, some ⟨.int (w : Int), n6, false⟩, a7, a8, a9, a10, none] Q R := by
  refine mk_least_enough true hp w2 w1 ?_
  refine heard_enough ?_
  exact k _ _ _ _ _ _
theorem q8 (k : post.rt (.bl true) 0 []) (hr : Row r) (hp : PkOk ps) (a0 a2 a6 a7 a8 a9 a10 : Option Bd) (n3 : Nat) :
    KL k_law_8 [a0, some ⟨r, 1, false⟩, a2, some ⟨.lst (ps.map pk), n3, false⟩, some ⟨.int (tot ps : Nat), 0, false⟩, none, a6, a7, a8, a9, a10, none] (endsOf ms_law post) := by
  refine brB_dec (p := ((tot ps : Nat) : Int) < 5000) (fun z => ?_) (fun _ => ?_)
  · refine mk_taken hr (by omega) (by omega) (fun v r1 v0 v1 hr1 => ?_)
    refine And.intro (show 3 ≤ sizeLine by decide) ?_
    refine mk_pick hr1 (by intro z; cases z) (show 3 ≤ 1000 by decide) (fun x r2 hx hr2 => ?_)
    obtain ⟨w, rfl, w1, w2⟩ : ∃ w : Nat, x = .int (w : Int) ∧ tot ps < w ∧ w ≤ 5000 := (allc ⟨tot ps + 1, rfl, by omega, by omega⟩ <| allc ⟨5000, rfl, by omega, by omega⟩ <| allc ⟨((tot ps : Nat) + 1 + v : Int).toNat, by rw [Int.toNat_of_nonneg (by omega)], by omega, by omega⟩ alln :
      ∀ x ∈ [D.int ((tot ps : Nat) + 1), D.int 5000, D.int ((tot ps : Nat) + 1 + v)], ∃ w : Nat, x = .int (w : Int) ∧ tot ps < w ∧ w ≤ 5000) x hx
    refine lam_enough (R := noX) hp w2 w1 _ _ _ _ _ _ _ _ (fun b0 b2 b7 b8 b9 b10 => ?_)
    refine And.intro (show 4 ≤ sizeLine by decide) ?_
    refine mk_alike (good_heard (by decide +kernel) (show Good 1 (.int (tot ps : Nat)) from trivial)) ?_
    exact q7 k hr2 hp _ _ _ _ _ _ _ _ _
  · exact q7 k hr hp _ _ _ _ _ _ _ _ _
theorem wants {Q : DEnds} (hp : PkOk ps) (h9 : ps.length ≤ 9) (a0 a1 a2 a4 a5 a7 a8 a9 a10 a11 : Option Bd) : ∀ (xs : List D) (n3 : Nat) (a6 : Option Bd), (∀ x ∈ xs, ∃ w : Nat, x = .int (w : Int) ∧ w ≤ 5000 ∧ w ≤ tot ps) →
    (∀ n3 a6, Q.nx [a0, a1, a2, some ⟨.lst (ps.map pk), n3, false⟩, a4, a5, a6, a7, a8, a9, a10, a11]) →
    forD (.nm 6) (KL b_law_1) xs [a0, a1, a2, some ⟨.lst (ps.map pk), n3, false⟩, a4, a5, a6, a7, a8, a9, a10, a11] Q
  | [], n3, a6, _, k => k n3 a6
  | x :: xs, n3, a6, h, k => by
    obtain ⟨w, rfl, hw, ht⟩ := h x List.mem_cons_self
    refine mk_choices hp h9 hw ht (fun y hy => ?_)
    refine mk_rightB hp hw ht hy ?_
    exact wants hp h9 a0 a1 a2 a4 a5 a7 a8 a9 a10 a11 xs _ _ (fun z hz => h z (List.mem_cons_of_mem _ hz)) k
theorem q9 (k : post.rt (.bl true) 0 []) (hr : Row r) (hp : PkOk ps) (h9 : ps.length ≤ 9) (a0 a2 a6 a7 a8 a9 a10 : Option Bd) (n3 : Nat) :
    KL k_law_9 [a0, some ⟨r, 1, false⟩, a2, some ⟨.lst (ps.map pk), n3, false⟩, some ⟨.int (tot ps : Nat), 0, false⟩, none, a6, a7, a8, a9, a10, none] (endsOf ms_law post) := by
  refine mk_taken (m := (if (5000 : Int) < ((tot ps : Nat) : Int) then 5000 else ((tot ps : Nat) : Int)) + 1) hr (by split <;> omega) (by split <;> omega) (fun v r1 v0 v1 hr1 => ?_)
  refine And.intro (show 3 ≤ sizeLine by decide) ?_
  refine wants hp h9 _ _ _ _ _ _ _ _ _ _ _ _ _ ?_ (fun n3 a6 => q8 k hr1 hp _ _ _ _ _ _ _ _)
  have e : ∀ i : Int, 0 ≤ i → i ≤ 5000 → i ≤ ((tot ps : Nat) : Int) → ∃ w : Nat, D.int i = .int (w : Int) ∧ w ≤ 5000 ∧ w ≤ tot ps := fun i h0 h1 h2 => ⟨i.toNat, by rw [Int.toNat_of_nonneg h0], by omega, by omega⟩
  refine allc (e _ v0 ?_ ?_) <| allc (e _ ?_ ?_ ?_) <| allc (e _ ?_ ?_ ?_) alln
  all_goals (repeat' split) <;> (try split at v1) <;> omega
theorem q10 (k : post.rt (.bl true) 0 []) (hr : Row r) (hp : PkOk ps) (h9 : ps.length ≤ 9) (a0 a2 a4 a6 a7 a8 a9 a10 : Option Bd) (n3 : Nat) :
    KL k_law_10 [a0, some ⟨r, 1, false⟩, a2, some ⟨.lst (ps.map pk), n3, false⟩, a4, none, a6, a7, a8, a9, a10, none] (endsOf ms_law post) := by
  refine lc_map pk (fun p => .int ((p.2 : Nat) : Int)) ps [] (by have := hp.len; simp; omega) (fun p _ A h => h) ?_
  refine someO_mk (intsD_map (fun p : Pk => ((p.2 : Nat) : Int)) ps) ?_
  rw [tot_int]
  exact q9 k hr hp h9 _ _ _ _ _ _ _ _
theorem q11 (k : post.rt (.bl true) 0 []) (hr : Row r) (m : Nat) (hm : m ≤ 60000) (a0 a3 a4 a6 a7 a8 a9 a10 : Option Bd) :
    KL k_law_11 [a0, some ⟨r, 1, false⟩, some ⟨.int (m : Int), 0, false⟩, a3, a4, none, a6, a7, a8, a9, a10, none] (endsOf ms_law post) := by
  refine And.intro (show 9 ≤ sizeLine by decide) ?_
  refine mk_pick hr (by intro z; cases z) (by decide) (fun x r1 hx hr1 => ?_)
  obtain ⟨n, rfl, hn⟩ : ∃ n : Nat, x = .int (n : Int) ∧ n ≤ 9 := (allc ⟨3, rfl, by decide⟩ <| allc ⟨4, rfl, by decide⟩ <| allc ⟨5, rfl, by decide⟩ <| allc ⟨6, rfl, by decide⟩ <| allc ⟨7, rfl, by decide⟩ <| allc ⟨2, rfl, by decide⟩ <| allc ⟨1, rfl, by decide⟩ <| allc ⟨0, rfl, by decide⟩ <| allc ⟨9, rfl, by decide⟩ alln :
    ∀ x ∈ [D.int 3, D.int 4, D.int 5, D.int 6, D.int 7, D.int 2, D.int 1, D.int 0, D.int 9], ∃ n : Nat, x = .int (n : Int) ∧ n ≤ 9) x hx
  refine mk_packs hr1 (by omega) hm (fun qs r2 h1 h2 hr2 => ?_)
  exact q10 k hr2 (pk_upto h1 h2 (by omega) hm) (by omega) _ _ _ _ _ _ _ _ _
theorem q12 (k : post.rt (.bl true) 0 []) (hr : Row r) (a0 a2 a3 a4 a6 a7 a8 a9 a10 : Option Bd) :
    KL k_law_12 [a0, some ⟨r, 1, false⟩, a2, a3, a4, none, a6, a7, a8, a9, a10, none] (endsOf ms_law post) := by
  refine And.intro (show 6 ≤ sizeLine by decide) ?_
  refine mk_pick hr (by intro z; cases z) (by decide) (fun x r1 hx hr1 => ?_)
  obtain ⟨n, rfl, hn⟩ : ∃ n : Nat, x = .int (n : Int) ∧ n ≤ 60000 := (allc ⟨4, rfl, by decide⟩ <| allc ⟨10, rfl, by decide⟩ <| allc ⟨3, rfl, by decide⟩ <| allc ⟨1, rfl, by decide⟩ <| allc ⟨600, rfl, by decide⟩ <| allc ⟨60000, rfl, by decide⟩ alln :
    ∀ x ∈ [D.int 4, D.int 10, D.int 3, D.int 1, D.int 600, D.int 60000], ∃ n : Nat, x = .int (n : Int) ∧ n ≤ 60000) x hx
  exact q11 k hr1 n hn _ _ _ _ _ _ _ _
end
theorem p_law (ds : List D) (post : DPost) (h : S_law ds post) (_ : ds.length = ms_law.length) : KL t_law (env0 ms_law ds N_law.length) (endsOf ms_law post) := by
  obtain ⟨ns, rfl, k⟩ := h
  refine And.intro (show 4 ≤ sizeLine by decide) ?_
  exact q12 k ⟨ns, 0, 15963084, 0, rfl, by decide, by decide, by decide⟩ _ _ _ _ _ _ _ _ _
theorem law_in (ns : List Int) (post : DPost) (k : post.rt (.bl true) 0 []) (_ : ns.length ≤ 63) : S_law [.lst (ns.map .int)] post := ⟨ns, rfl, k⟩
end K84
set_option Elab.async false
set_option linter.all false
set_option maxRecDepth 100000
set_option maxHeartbeats 0
/-! the law's end, printed by genhead.py: the head's facts, the chain of promises, the theorem -/
namespace K84
open PySem PySem.Spec PyProof.Rows L2 DL
def fnL : List He.DefD :=
  [⟨("is_integer", none), "is_integer", "is_integer", defArgs s_is_integer, defBody s_is_integer, defScope s_is_integer, [], []⟩,
   ⟨("is_within", none), "is_within", "is_within", defArgs s_is_within, defBody s_is_within, defScope s_is_within, [], []⟩,
   ⟨("is_row", none), "is_row", "is_row", defArgs s_is_row, defBody s_is_row, defScope s_is_row, [], []⟩,
   ⟨("is_load", none), "is_load", "is_load", defArgs s_is_load, defBody s_is_load, defScope s_is_load, [], []⟩,
   ⟨("check_loads", none), "check_loads", "check_loads", defArgs s_check_loads, defBody s_check_loads, defScope s_check_loads, [], []⟩,
   ⟨("costs_behind", none), "costs_behind", "costs_behind", defArgs s_costs_behind, defBody s_costs_behind, defScope s_costs_behind, [], []⟩,
   ⟨("least_repack", none), "least_repack", "least_repack", defArgs s_least_repack, defBody s_least_repack, defScope s_least_repack, [], []⟩,
   ⟨("_law_taken", none), "_law_taken", "_law_taken", defArgs s__law_taken, defBody s__law_taken, defScope s__law_taken, [], []⟩,
   ⟨("_law_pick", none), "_law_pick", "_law_pick", defArgs s__law_pick, defBody s__law_pick, defScope s__law_pick, [], []⟩,
   ⟨("_law_alike", none), "_law_alike", "_law_alike", defArgs s__law_alike, defBody s__law_alike, defScope s__law_alike, [], []⟩,
   ⟨("_law_best", none), "_law_best", "_law_best", defArgs s__law_best, defBody s__law_best, defScope s__law_best, [], []⟩,
   ⟨("_law_heard", none), "_law_heard", "_law_heard", defArgs s__law_heard, defBody s__law_heard, defScope s__law_heard, [], []⟩,
   ⟨("_law_choices", none), "_law_choices", "_law_choices", defArgs s__law_choices, defBody s__law_choices, defScope s__law_choices, [], []⟩,
   ⟨("_law_packs", none), "_law_packs", "_law_packs", defArgs s__law_packs, defBody s__law_packs, defScope s__law_packs, [], []⟩,
   ⟨("_law_right", none), "_law_right", "_law_right", defArgs s__law_right, defBody s__law_right, defScope s__law_right, [], []⟩,
   ⟨("_law_bad", none), "_law_bad", "_law_bad", defArgs s__law_bad, defBody s__law_bad, defScope s__law_bad, [], []⟩,
   ⟨("law", none), "law", "law", defArgs s_law, defBody s_law, defScope s_law, [], []⟩,
   ⟨("HouseError", some "__init__"), "__init__", "HouseError.__init__", defArgs s_HouseError___init__, defBody s_HouseError___init__, defScope s_HouseError___init__, [.non], []⟩]
def faL : List He.Fa :=
  [.glo "is_integer",
   .glo "is_within",
   .glo "is_row",
   .glo "is_load",
   .glo "check_loads",
   .glo "costs_behind",
   .glo "least_repack",
   .glo "_law_taken",
   .glo "_law_pick",
   .glo "_law_alike",
   .glo "_law_best",
   .glo "_law_heard",
   .glo "_law_choices",
   .glo "_law_packs",
   .glo "_law_right",
   .glo "_law_bad",
   .glo "law",
   .free "len",
   .free "range",
   .free "list",
   .free "tuple",
   .free "int",
   .free "bool",
   .free "str",
   .free "dict",
   .free "isinstance",
   .free "all",
   .free "any",
   .free "sum",
   .free "max",
   .free "min",
   .free "enumerate",
   .free "zip",
   .free "reversed",
   .free "sorted",
   .free "set",
   .int "MOST_WANT" 5000,
   .int "STEP" 64,
   .int "MOST_PACKS" 60,
   .int "MOST_LOAD" 60000]
abbrev R : PySem.W.OpenRow := PySem.W.OpenLaw.row PySem.Challenge.rw_sparehouses_k84_whole_least_repack
abbrev lams : List Str := ["_law_bad", "law"]
def hk : PySem.W.Hook := hookY 4 faL fnL fun K => (tabB K "HouseError" ctab && lamB K lams)
def ob (s : PySem.W.SharedT) : He.AlD × Bool := obsY 4 faL fnL (fun K => (tabB K "HouseError" ctab && lamB K lams)) (HandSHeadRun.getT s)
theorem ob_eq (s : PySem.W.SharedT) : ob s = hk.obs s.abs := obsY_eq (HandSHeadRun.getT_eq s)
theorem hrec_of {q : Program} {xs : List Str} (h : (xs.all fun x => ((recsOf q).find? fun e => e.name == x).isSome) = true) : ∀ x ∈ xs, ∃ e, (recsOf q).find? (fun e => e.name == x) = some e := fun x hx => Option.isSome_iff_exists.mp (List.all_eq_true.mp h x hx)
theorem sc_init : FnScope ["self", "value"] ["self", "value"] (defScope s_HouseError___init__) := ⟨rfl, rfl, rfl, by decide +kernel, rfl, by decide +kernel, by decide +kernel⟩
theorem ini {P : Program} {w : World} {mg : MG} {K : PySem.W.Frag} {base : Heap} (c : He.SaysD faL fnL K) (t : tabB K "HouseError" ctab = true) : Ini P w K mg base 1 (He.ma K (He.ga K "HouseError") "__init__") :=
  ini_of c 17 t sc_init rfl rfl rfl (fun T kV doc pm an cdv ct us its h1 h2 => match us, its, h1, h2 with | [_, _], [_], _, _ => ⟨_, rfl, rfl⟩) rfl
def names : List PySem.Str := ([("HouseError" : PySem.Str), ("BadMany" : PySem.Str), ("BadPacks" : PySem.Str), ("NotEnough" : PySem.Str), ("is_integer" : PySem.Str), ("is_within" : PySem.Str), ("is_row" : PySem.Str), ("MOST_PACKS" : PySem.Str), ("MOST_LOAD" : PySem.Str), ("MOST_WANT" : PySem.Str), ("STEP" : PySem.Str), ("is_load" : PySem.Str), ("check_loads" : PySem.Str), ("costs_behind" : PySem.Str), ("least_repack" : PySem.Str), ("_law_taken" : PySem.Str)] : List PySem.Str) ++ ([("_law_pick" : PySem.Str), ("_law_alike" : PySem.Str), ("_law_best" : PySem.Str), ("_law_heard" : PySem.Str), ("_law_choices" : PySem.Str), ("_law_packs" : PySem.Str), ("_law_right" : PySem.Str), ("_law_bad" : PySem.Str)] : List PySem.Str)
theorem hd_run (w : World) : HandSHeadRun.RunEq R (PySem.W.view R.prog [27, 28]) hk ob 4000 names w := by
  intro os
  kernel_rfl
section
variable {P : Program} {w : World} {K : PySem.W.Frag} {mg : MG} {h : Heap} {base : Heap}
theorem blt (X : K.In h) (G : h.Ns mainGlobals mg) (c : He.SaysD faL fnL K) : Blt mg where
  len := He.free_ok X G (c.fact 17 rfl)
  range := He.free_ok X G (c.fact 18 rfl)
  list := He.free_ok X G (c.fact 19 rfl)
  tuple := He.free_ok X G (c.fact 20 rfl)
  int := He.free_ok X G (c.fact 21 rfl)
  bool := He.free_ok X G (c.fact 22 rfl)
  str := He.free_ok X G (c.fact 23 rfl)
  dict := He.free_ok X G (c.fact 24 rfl)
  isinstance := He.free_ok X G (c.fact 25 rfl)
  all := He.free_ok X G (c.fact 26 rfl)
  any := He.free_ok X G (c.fact 27 rfl)
  sum := He.free_ok X G (c.fact 28 rfl)
  max := He.free_ok X G (c.fact 29 rfl)
  min := He.free_ok X G (c.fact 30 rfl)
  enumerate := He.free_ok X G (c.fact 31 rfl)
  zip := He.free_ok X G (c.fact 32 rfl)
  reversed := He.free_ok X G (c.fact 33 rfl)
  sorted := He.free_ok X G (c.fact 34 rfl)
  set := He.free_ok X G (c.fact 35 rfl)
theorem C__law_taken (X : K.In h) (G : h.Ns mainGlobals mg) (c : He.SaysD faL fnL K) (t : tabB K "HouseError" ctab = true) : Cal P w K mg base "_law_taken" s__law_taken 1 ["row", "many"] ms__law_taken S__law_taken :=
  c__law_taken (k := 0) (fun_at X G c 7 7 rfl rfl) (blt X G c) p_taken
theorem C__law_pick (X : K.In h) (G : h.Ns mainGlobals mg) (c : He.SaysD faL fnL K) (t : tabB K "HouseError" ctab = true) : Cal P w K mg base "_law_pick" s__law_pick 2 ["row", "some"] ms__law_pick S__law_pick :=
  c__law_pick (k := 1) (fun_at X G c 8 8 rfl rfl) (blt X G c) ((C__law_taken X G c t).up (by decide)) p_pick
theorem C__law_packs (X : K.In h) (G : h.Ns mainGlobals mg) (c : He.SaysD faL fnL K) (t : tabB K "HouseError" ctab = true) : Cal P w K mg base "_law_packs" s__law_packs 3 ["row", "many", "most"] ms__law_packs S__law_packs :=
  c__law_packs (k := 2) (fun_at X G c 13 13 rfl rfl) (blt X G c) ((C__law_taken X G c t).up (by decide)) ((C__law_pick X G c t).up (by decide)) p_packs
theorem C__law_alike_0 (X : K.In h) (G : h.Ns mainGlobals mg) (c : He.SaysD faL fnL K) (t : tabB K "HouseError" ctab = true) : Cal P w K mg base "_law_alike" s__law_alike 1 ["found", "due"] ms__law_alike (SA 0) :=
  cal_zero (fun_at X G c 9 9 rfl rfl) sc__law_alike rfl (fun _ _ _ _ _ _ us hl => match us, hl with | [_, _], _ => rfl) (fun _ _ h => h)
theorem C__law_alike_1 (X : K.In h) (G : h.Ns mainGlobals mg) (c : He.SaysD faL fnL K) (t : tabB K "HouseError" ctab = true) : Cal P w K mg base "_law_alike" s__law_alike 2 ["found", "due"] ms__law_alike (SA 1) :=
  c__law_alike (fun_at X G c 9 9 rfl rfl) (blt X G c) (C__law_alike_0 X G c t) (p_alike 0)
theorem C__law_alike_2 (X : K.In h) (G : h.Ns mainGlobals mg) (c : He.SaysD faL fnL K) (t : tabB K "HouseError" ctab = true) : Cal P w K mg base "_law_alike" s__law_alike 3 ["found", "due"] ms__law_alike (SA 2) :=
  c__law_alike (fun_at X G c 9 9 rfl rfl) (blt X G c) (C__law_alike_1 X G c t) (p_alike 1)
theorem C__law_alike_3 (X : K.In h) (G : h.Ns mainGlobals mg) (c : He.SaysD faL fnL K) (t : tabB K "HouseError" ctab = true) : Cal P w K mg base "_law_alike" s__law_alike 4 ["found", "due"] ms__law_alike (SA 3) :=
  c__law_alike (fun_at X G c 9 9 rfl rfl) (blt X G c) (C__law_alike_2 X G c t) (p_alike 2)
theorem C__law_alike (X : K.In h) (G : h.Ns mainGlobals mg) (c : He.SaysD faL fnL K) (t : tabB K "HouseError" ctab = true) : Cal P w K mg base "_law_alike" s__law_alike 5 ["found", "due"] ms__law_alike (SA 3) := (C__law_alike_3 X G c t).up (by decide)
theorem C_is_row (X : K.In h) (G : h.Ns mainGlobals mg) (c : He.SaysD faL fnL K) (t : tabB K "HouseError" ctab = true) : Cal P w K mg base "is_row" s_is_row 1 ["thing"] ms_is_row S_is_row :=
  c_is_row (k := 0) (fun_at X G c 2 2 rfl rfl) (blt X G c) p_is_row
theorem C_is_integer (X : K.In h) (G : h.Ns mainGlobals mg) (c : He.SaysD faL fnL K) (t : tabB K "HouseError" ctab = true) : Cal P w K mg base "is_integer" s_is_integer 1 ["thing"] ms_is_integer S_is_integer :=
  c_is_integer (k := 0) (fun_at X G c 0 0 rfl rfl) (blt X G c) p_is_integer
theorem C_is_within (X : K.In h) (G : h.Ns mainGlobals mg) (c : He.SaysD faL fnL K) (t : tabB K "HouseError" ctab = true) : Cal P w K mg base "is_within" s_is_within 2 ["thing", "least", "most"] ms_is_within S_is_within :=
  c_is_within (k := 1) (fun_at X G c 1 1 rfl rfl) (blt X G c) ((C_is_integer X G c t).up (by decide)) p_is_within
theorem C_is_load (X : K.In h) (G : h.Ns mainGlobals mg) (c : He.SaysD faL fnL K) (t : tabB K "HouseError" ctab = true) : Cal P w K mg base "is_load" s_is_load 3 ["thing"] ms_is_load S_is_load :=
  c_is_load (k := 2) (fun_at X G c 3 3 rfl rfl) (blt X G c) (gl_int X G c 39 rfl) ((C_is_within X G c t).up (by decide)) p_is_load
theorem C_check_loads (X : K.In h) (G : h.Ns mainGlobals mg) (c : He.SaysD faL fnL K) (t : tabB K "HouseError" ctab = true) : Cal P w K mg base "check_loads" s_check_loads 4 ["packs"] ms_check_loads S_check_loads :=
  c_check_loads (k := 3) (fun_at X G c 4 4 rfl rfl) (blt X G c) (gl_int X G c 38 rfl) ((C_is_row X G c t).up (by decide)) ((C_is_load X G c t).up (by decide)) ((excn_of X G t (ini c t) (by decide)).up (by decide)) p_check_loads
theorem C_costs_behind (X : K.In h) (G : h.Ns mainGlobals mg) (c : He.SaysD faL fnL K) (t : tabB K "HouseError" ctab = true) : Cal P w K mg base "costs_behind" s_costs_behind 1 ["packs", "want"] ms_costs_behind S_costs_behind :=
  c_costs_behind (k := 0) (fun_at X G c 5 5 rfl rfl) (blt X G c) (gl_int X G c 37 rfl) p_costs_behind
theorem C_least_repack (X : K.In h) (G : h.Ns mainGlobals mg) (c : He.SaysD faL fnL K) (t : tabB K "HouseError" ctab = true) : Cal P w K mg base "least_repack" s_least_repack 5 ["packs", "want"] ms_least_repack S_least_repack :=
  c_least_repack (k := 4) (fun_at X G c 6 6 rfl rfl) (blt X G c) (gl_int X G c 36 rfl) (gl_int X G c 37 rfl) ((C_check_loads X G c t).up (by decide)) ((C_is_within X G c t).up (by decide)) ((C_costs_behind X G c t).up (by decide)) ((excn_of X G t (ini c t) (by decide)).up (by decide)) ((excn_of X G t (ini c t) (by decide)).up (by decide)) p_least_repack
theorem C__law_right (X : K.In h) (G : h.Ns mainGlobals mg) (c : He.SaysD faL fnL K) (t : tabB K "HouseError" ctab = true) : Cal P w K mg base "_law_right" s__law_right 6 ["packs", "want", "due"] ms__law_right S__law_right :=
  c__law_right (k := 5) (fun_at X G c 14 14 rfl rfl) (blt X G c) ((C__law_alike X G c t).up (by decide)) ((C_least_repack X G c t).up (by decide)) p_right
theorem C__law_choices (X : K.In h) (G : h.Ns mainGlobals mg) (c : He.SaysD faL fnL K) (t : tabB K "HouseError" ctab = true) : Cal P w K mg base "_law_choices" s__law_choices 1 ["packs", "want"] ms__law_choices S__law_choices :=
  c__law_choices (k := 0) (fun_at X G c 12 12 rfl rfl) (blt X G c) p_choices
theorem C__law_best (X : K.In h) (G : h.Ns mainGlobals mg) (c : He.SaysD faL fnL K) (t : tabB K "HouseError" ctab = true) : Cal P w K mg base "_law_best" s__law_best 1 ["packs", "want"] ms__law_best S__law_best :=
  c__law_best (k := 0) (fun_at X G c 10 10 rfl rfl) (blt X G c) p_best
section
variable [Tbs]
theorem C__law_bad (X : K.In h) (G : h.Ns mainGlobals mg) (c : He.SaysD faL fnL K) (t : tabB K "HouseError" ctab = true) (L__law_bad : LamD K mg base "_law_bad") : Cal P w K mg base "_law_bad" s__law_bad 8 ["row", "packs"] ms__law_bad S__law_bad :=
  c__law_bad (k := 5) X G L__law_bad (fun_at X G c 15 15 rfl rfl) (blt X G c) ((C__law_taken X G c t).lift.up (by decide)) ((C__law_pick X G c t).lift.up (by decide)) ((C__law_alike X G c t).lift.up (by decide)) ((C_least_repack X G c t).lift.up (by decide)) (tab_kin X G t (by decide)) (tab_at X G t (by decide)) (tab_at X G t (by decide)) (tab_at X G t (by decide)) (tab_at X G t (by decide)) (fun_at X G c 11 11 rfl rfl) p_bad
theorem C_law (X : K.In h) (G : h.Ns mainGlobals mg) (c : He.SaysD faL fnL K) (t : tabB K "HouseError" ctab = true) (L__law_bad : LamD K mg base "_law_bad") (L_law : LamD K mg base "law") : Cal P w K mg base "law" s_law 11 ["script"] ms_law S_law :=
  c_law (k := 8) X G L_law (fun_at X G c 16 16 rfl rfl) (blt X G c) ((C__law_pick X G c t).lift.up (by decide)) ((C__law_packs X G c t).lift.up (by decide)) ((C__law_taken X G c t).lift.up (by decide)) ((C__law_right X G c t).lift.up (by decide)) ((C__law_choices X G c t).lift.up (by decide)) ((C__law_alike X G c t).lift.up (by decide)) ((C_least_repack X G c t).lift.up (by decide)) ((C__law_best X G c t).lift.up (by decide)) ((C__law_bad X G c t L__law_bad).up (by decide)) (tab_kin X G t (by decide)) (tab_at X G t (by decide)) (tab_at X G t (by decide)) (tab_at X G t (by decide)) (tab_at X G t (by decide)) (fun_at X G c 11 11 rfl rfl) p_law
end
end
end K84
open PySem PySem.W PySem.Calls PyProof.Rows
theorem PySem.Challenge.cw_sparehouses_k84_whole_least_repack_holds : PySem.Challenge.rw_sparehouses_k84_whole_least_repack.Holds := by
  w_on; o_law
  refine HandSHeadRun.head_any (r := OpenLaw.row PySem.Challenge.rw_sparehouses_k84_whole_least_repack) (q := view (OpenLaw.row PySem.Challenge.rw_sparehouses_k84_whole_least_repack).prog [27, 28]) (H := K84.hk) (ob := K84.ob) (M := 4000) (loose := K84.names) (d := HandSHeadRun.topDef (OpenLaw.row PySem.Challenge.rw_sparehouses_k84_whole_least_repack).prog 28) (kwd := []) K84.ob_eq
    (by kernel_rfl) (fun s => by kernel_rfl) K84.hd_run (by kernel_rfl) (by kernel_rfl) (by kernel_rfl) (by rfl) (by first | assumption | decide +kernel) (by decide +kernel) ⟨rfl, rfl, rfl, rfl, rfl, by decide +kernel⟩ ?hw ?hc
  case hw => w_witness2
  case hc =>
    refine DL.walk_ofL (l := PySem.Challenge.rw_sparehouses_k84_whole_least_repack) (n := 63) (k := 11) (x := "script") K84.lams rfl (by decide) (by kernel_rfl) ⟨rfl, by decide, by decide⟩ (K84.hrec_of (by kernel_rfl)) ?F
    intro w mg fa h Y G hmg0
    obtain ⟨K, KX, nl, c, tl⟩ := Y
    have t := (Bool.and_eq_true_iff.mp tl).1
    have hB := (Bool.and_eq_true_iff.mp tl).2
    have hmg : mg ("law" : PySem.Str) = some (.ref fa) := by
      have e : (HandSHeadRun.topDef (OpenLaw.row PySem.Challenge.rw_sparehouses_k84_whole_least_repack).prog 28).name = ("law" : PySem.Str) := by kernel_rfl
      rw [← e]
      exact hmg0
    obtain ⟨fd, sp, h1, h2, h3⟩ := DL.law_endL (P := (PySem.Challenge.rw_sparehouses_k84_whole_least_repack).prog) (w := w) (ms := K84.ms_law) (S := K84.S_law) (k := 11) nl (DL.fun_at KX G c (x := "law") (st := K84.s_law) 16 16 rfl rfl) hmg rfl (fun _ _ _ _ _ _ us hl => match us, hl with | [_], _ => rfl) hB (fun base hL => @K84.C_law _ _ _ _ _ _ (DL.tbsOf K K84.lams) KX G c t (hL "_law_bad" (by decide)) (hL "law" (by decide))) K84.law_in
    exact ⟨K, fd, sp, KX, hB, h1, h2, h3⟩
