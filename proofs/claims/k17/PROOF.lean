import PyProof.Rows.All
import Wide.All
import OpenK.AllK
import Wide.FinOn
import HandS.ForMost
import HandS.Wide
import HandS.IsInst
import HandS.RaiseMore
import HandS.RevRange
import HandS.Style
import HandS.Zip
import HandS.Defaults
import HandS.HeadEnd
import HandS.EndBits
import HandS.HeadHook2
import HandS.New0
import KE.KStateDown
import Lean
import HandS.Head0
import HandS.Head1
import HandS.Head2
import HandS.HeadHook1
import PySem.Challenge.RW_halvedpictures_k17_flat_and_bent_rows
set_option Elab.async false
set_option linter.all false
set_option maxRecDepth 100000
set_option maxHeartbeats 0
/-! TL: what is known of the store, as trees. -/
namespace TL
open PySem PySem.Spec PyProof.Rows L2

/-- data: what never changes any more -/
inductive D where
  | non | bl (b : Bool) | int (i : Int) | str (s : Str)
  | lst (xs : List D) | tup (xs : List D)
  | dik (kvs : List (Key × D)) | dit (kvs : List (List Key × D))
  | ins (c : Nat) (fs : List (Str × D))
  | scr (ns : List Int) | oth (v : V)
/-- a tree: what is one's own and may change, its leaves data -/
inductive T where
  | frz (ov : Option V) (d : D)
  | lst (ts : List T) | tup (ts : List T)
  | dik (kvs : List (Key × T)) | dit (kvs : List (List Key × T))
  | ins (c : Nat) (fs : List (Str × T))
abbrev I (n : Int) : T := .frz none (.int n)
abbrev B (b : Bool) : T := .frz none (.bl b)
abbrev S (s : Str) : T := .frz none (.str s)
abbrev N_ : T := .frz none .non
abbrev F (d : D) : T := .frz none d

structure Cn where
  K : PySem.W.Frag
  cls : Nat → Addr

mutual
def Rep (c : Cn) (H : Hp) : D → V → Prop
  | .non, v => v = .non
  | .bl b, v => v = .bl b
  | .int i, v => v = .int i
  | .str s, v => v = .str s
  | .lst ds, v => ∃ a vs, v = .ref a ∧ H a = some (.lst vs) ∧ Reps c H ds vs
  | .tup ds, v => ∃ a vs, v = .ref a ∧ H a = some (.tup vs) ∧ Reps c H ds vs
  | .dik kvs, v => ∃ a ks, v = .ref a ∧ Rd H a (.dK ks) ∧ RepK c H kvs ks
  | .dit kvs, v => ∃ a ks, v = .ref a ∧ Rd H a (.dT ks) ∧ RepT c H kvs ks
  | .ins k fs, v => ∃ a dx gs, v = .ref a ∧ H a = some (.ins (c.cls k) dx gs) ∧ RepF c H fs gs
  | .scr ns, v => ∃ a, v = .ref a ∧ SqL c.K H a (ns.map V.int)
  | .oth u, v => v = u
def Reps (c : Cn) (H : Hp) : List D → List V → Prop
  | [], vs => vs = []
  | d :: ds, vs => ∃ v r, vs = v :: r ∧ Rep c H d v ∧ Reps c H ds r
def RepF (c : Cn) (H : Hp) : List (Str × D) → List (Str × V) → Prop
  | [], vs => vs = []
  | (f, d) :: ds, vs => ∃ v r, vs = (f, v) :: r ∧ Rep c H d v ∧ RepF c H ds r
def RepK (c : Cn) (H : Hp) : List (Key × D) → List (Key × V) → Prop
  | [], vs => vs = []
  | (f, d) :: ds, vs => ∃ v r, vs = (f, v) :: r ∧ Rep c H d v ∧ RepK c H ds r
def RepT (c : Cn) (H : Hp) : List (List Key × D) → List (List Key × V) → Prop
  | [], vs => vs = []
  | (f, d) :: ds, vs => ∃ v r, vs = (f, v) :: r ∧ Rep c H d v ∧ RepT c H ds r
end

def Ex (H H' : Hp) : Prop := ∀ a o, H a = some o → H' a = some o
theorem Ex.refl (H : Hp) : Ex H H := fun _ _ h => h
theorem Ex.trans {H H1 H2 : Hp} (a : Ex H H1) (b : Ex H1 H2) : Ex H H2 := fun x o h => b x o (a x o h)
theorem Ex.rd {H H' : Hp} (e : Ex H H') {a : Addr} {u : HO} (h : Rd H a u) : Rd H' a u := by
  rcases h with h | ⟨o, h⟩
  · exact .inl (e _ _ h)
  · exact .inr ⟨o, e _ _ h⟩
theorem Ex.sql {K : PySem.W.Frag} {H H' : Hp} (e : Ex H H') {a : Addr} {xs : List V} (h : SqL K H a xs) : SqL K H' a xs := by
  rcases h with h | h
  · exact .inl (e.rd h)
  · exact .inr h

mutual
theorem Rep.mono {c : Cn} {H H' : Hp} (e : Ex H H') : ∀ {d : D} {v : V}, Rep c H d v → Rep c H' d v
  | .non, _, h => h
  | .bl _, _, h => h
  | .int _, _, h => h
  | .str _, _, h => h
  | .lst ds, v, ⟨a, vs, h1, h2, h3⟩ => ⟨a, vs, h1, e _ _ h2, Reps.mono e h3⟩
  | .tup ds, v, ⟨a, vs, h1, h2, h3⟩ => ⟨a, vs, h1, e _ _ h2, Reps.mono e h3⟩
  | .dik kvs, v, ⟨a, ks, h1, h2, h3⟩ => ⟨a, ks, h1, e.rd h2, RepK.mono e h3⟩
  | .dit kvs, v, ⟨a, ks, h1, h2, h3⟩ => ⟨a, ks, h1, e.rd h2, RepT.mono e h3⟩
  | .ins k fs, v, ⟨a, dx, gs, h1, h2, h3⟩ => ⟨a, dx, gs, h1, e _ _ h2, RepF.mono e h3⟩
  | .scr ns, v, ⟨a, h1, h2⟩ => ⟨a, h1, e.sql h2⟩
  | .oth _, _, h => h
theorem Reps.mono {c : Cn} {H H' : Hp} (e : Ex H H') : ∀ {ds : List D} {vs : List V}, Reps c H ds vs → Reps c H' ds vs
  | [], _, h => h
  | d :: ds, vs, ⟨v, r, h1, h2, h3⟩ => ⟨v, r, h1, Rep.mono e h2, Reps.mono e h3⟩
theorem RepF.mono {c : Cn} {H H' : Hp} (e : Ex H H') : ∀ {ds : List (Str × D)} {vs : List (Str × V)}, RepF c H ds vs → RepF c H' ds vs
  | [], _, h => h
  | (f, d) :: ds, vs, ⟨v, r, h1, h2, h3⟩ => ⟨v, r, h1, Rep.mono e h2, RepF.mono e h3⟩
theorem RepK.mono {c : Cn} {H H' : Hp} (e : Ex H H') : ∀ {ds : List (Key × D)} {vs : List (Key × V)}, RepK c H ds vs → RepK c H' ds vs
  | [], _, h => h
  | (f, d) :: ds, vs, ⟨v, r, h1, h2, h3⟩ => ⟨v, r, h1, Rep.mono e h2, RepK.mono e h3⟩
theorem RepT.mono {c : Cn} {H H' : Hp} (e : Ex H H') : ∀ {ds : List (List Key × D)} {vs : List (List Key × V)}, RepT c H ds vs → RepT c H' ds vs
  | [], _, h => h
  | (f, d) :: ds, vs, ⟨v, r, h1, h2, h3⟩ => ⟨v, r, h1, Rep.mono e h2, RepT.mono e h3⟩
end

/-- sets of addresses -/
abbrev As := Addr → Prop
mutual
def TR (c : Cn) (G H : Hp) : T → As → V → Prop
  | .frz ov d, _, v => Rep c G d v ∧ ∀ u, ov = some u → v = u
  | .lst ts, F, v => ∃ p vs F1, v = .ref p ∧ F p ∧ G p = none ∧ H p = some (.lst vs) ∧ (∀ a, F1 a → F a ∧ a ≠ p) ∧ TRs c G H ts F1 vs
  | .tup ts, F, v => ∃ p vs F1, v = .ref p ∧ F p ∧ G p = none ∧ H p = some (.tup vs) ∧ (∀ a, F1 a → F a ∧ a ≠ p) ∧ TRs c G H ts F1 vs
  | .dik ts, F, v => ∃ p vs F1, v = .ref p ∧ F p ∧ G p = none ∧ H p = some (.dK vs) ∧ (∀ a, F1 a → F a ∧ a ≠ p) ∧ TRk c G H ts F1 vs
  | .dit ts, F, v => ∃ p vs F1, v = .ref p ∧ F p ∧ G p = none ∧ H p = some (.dT vs) ∧ (∀ a, F1 a → F a ∧ a ≠ p) ∧ TRt c G H ts F1 vs
  | .ins k ts, F, v => ∃ p dx vs F1, v = .ref p ∧ F p ∧ G p = none ∧ H p = some (.ins (c.cls k) dx vs) ∧ (∀ a, F1 a → F a ∧ a ≠ p) ∧ TRf c G H ts F1 vs
def TRs (c : Cn) (G H : Hp) : List T → As → List V → Prop
  | [], _, vs => vs = []
  | t :: ts, F, vs => ∃ v r F1 F2, vs = v :: r ∧ (∀ a, F1 a → F a) ∧ (∀ a, F2 a → F a ∧ ¬ F1 a) ∧ TR c G H t F1 v ∧ TRs c G H ts F2 r
def TRf (c : Cn) (G H : Hp) : List (Str × T) → As → List (Str × V) → Prop
  | [], _, vs => vs = []
  | (f, t) :: ts, F, vs => ∃ v r F1 F2, vs = (f, v) :: r ∧ (∀ a, F1 a → F a) ∧ (∀ a, F2 a → F a ∧ ¬ F1 a) ∧ TR c G H t F1 v ∧ TRf c G H ts F2 r
def TRk (c : Cn) (G H : Hp) : List (Key × T) → As → List (Key × V) → Prop
  | [], _, vs => vs = []
  | (f, t) :: ts, F, vs => ∃ v r F1 F2, vs = (f, v) :: r ∧ (∀ a, F1 a → F a) ∧ (∀ a, F2 a → F a ∧ ¬ F1 a) ∧ TR c G H t F1 v ∧ TRk c G H ts F2 r
def TRt (c : Cn) (G H : Hp) : List (List Key × T) → As → List (List Key × V) → Prop
  | [], _, vs => vs = []
  | (f, t) :: ts, F, vs => ∃ v r F1 F2, vs = (f, v) :: r ∧ (∀ a, F1 a → F a) ∧ (∀ a, F2 a → F a ∧ ¬ F1 a) ∧ TR c G H t F1 v ∧ TRt c G H ts F2 r
end

mutual
def T.data : T → D
  | .frz _ d => d
  | .lst ts => .lst (T.datas ts)
  | .tup ts => .tup (T.datas ts)
  | .dik ts => .dik (T.datak ts)
  | .dit ts => .dit (T.datat ts)
  | .ins k ts => .ins k (T.dataf ts)
def T.datas : List T → List D
  | [] => []
  | t :: ts => t.data :: T.datas ts
def T.dataf : List (Str × T) → List (Str × D)
  | [] => []
  | (f, t) :: ts => (f, t.data) :: T.dataf ts
def T.datak : List (Key × T) → List (Key × D)
  | [] => []
  | (f, t) :: ts => (f, t.data) :: T.datak ts
def T.datat : List (List Key × T) → List (List Key × D)
  | [] => []
  | (f, t) :: ts => (f, t.data) :: T.datat ts
end

section
variable {c : Cn} {G H G' H' : Hp}
mutual
/-- more of what is fixed, the own cells as they were -/
theorem TR.mono (e : Ex G G') : ∀ {t : T} {F F' : As} {v : V}, TR c G H t F v → (∀ a, F a → F' a) → (∀ a o, F a → H a = some o → H' a = some o) → (∀ a, F a → G' a = none) → TR c G' H' t F' v
  | .frz ov d, F, F', v, ⟨h1, h2⟩, _, _, _ => ⟨h1.mono e, h2⟩
  | .lst ts, F, F', v, ⟨p, vs, F1, h1, h2, h3, h4, h5, h6⟩, hf, k, g => ⟨p, vs, F1, h1, hf _ h2, g _ h2, k _ _ h2 h4, fun a ha => ⟨hf _ (h5 a ha).1, (h5 a ha).2⟩,
      TRs.mono e h6 (fun _ x => x) (fun a o ha => k a o (h5 a ha).1) fun a ha => g a (h5 a ha).1⟩
  | .tup ts, F, F', v, ⟨p, vs, F1, h1, h2, h3, h4, h5, h6⟩, hf, k, g => ⟨p, vs, F1, h1, hf _ h2, g _ h2, k _ _ h2 h4, fun a ha => ⟨hf _ (h5 a ha).1, (h5 a ha).2⟩,
      TRs.mono e h6 (fun _ x => x) (fun a o ha => k a o (h5 a ha).1) fun a ha => g a (h5 a ha).1⟩
  | .dik ts, F, F', v, ⟨p, vs, F1, h1, h2, h3, h4, h5, h6⟩, hf, k, g => ⟨p, vs, F1, h1, hf _ h2, g _ h2, k _ _ h2 h4, fun a ha => ⟨hf _ (h5 a ha).1, (h5 a ha).2⟩,
      TRk.mono e h6 (fun _ x => x) (fun a o ha => k a o (h5 a ha).1) fun a ha => g a (h5 a ha).1⟩
  | .dit ts, F, F', v, ⟨p, vs, F1, h1, h2, h3, h4, h5, h6⟩, hf, k, g => ⟨p, vs, F1, h1, hf _ h2, g _ h2, k _ _ h2 h4, fun a ha => ⟨hf _ (h5 a ha).1, (h5 a ha).2⟩,
      TRt.mono e h6 (fun _ x => x) (fun a o ha => k a o (h5 a ha).1) fun a ha => g a (h5 a ha).1⟩
  | .ins _ ts, F, F', v, ⟨p, dx, vs, F1, h1, h2, h3, h4, h5, h6⟩, hf, k, g => ⟨p, dx, vs, F1, h1, hf _ h2, g _ h2, k _ _ h2 h4, fun a ha => ⟨hf _ (h5 a ha).1, (h5 a ha).2⟩,
      TRf.mono e h6 (fun _ x => x) (fun a o ha => k a o (h5 a ha).1) fun a ha => g a (h5 a ha).1⟩
theorem TRs.mono (e : Ex G G') : ∀ {ts : List T} {F F' : As} {vs : List V}, TRs c G H ts F vs → (∀ a, F a → F' a) → (∀ a o, F a → H a = some o → H' a = some o) → (∀ a, F a → G' a = none) → TRs c G' H' ts F' vs
  | [], _, _, _, h, _, _, _ => h
  | t :: ts, F, F', vs, ⟨v, r, F1, F2, h1, h2, h3, h4, h5⟩, hf, k, g => ⟨v, r, F1, F2, h1, fun a x => hf a (h2 a x), fun a x => ⟨hf a (h3 a x).1, (h3 a x).2⟩,
      TR.mono e h4 (fun _ x => x) (fun a o x => k a o (h2 a x)) (fun a x => g a (h2 a x)), TRs.mono e h5 (fun _ x => x) (fun a o x => k a o (h3 a x).1) (fun a x => g a (h3 a x).1)⟩
theorem TRf.mono (e : Ex G G') : ∀ {ts : List (Str × T)} {F F' : As} {vs : List (Str × V)}, TRf c G H ts F vs → (∀ a, F a → F' a) → (∀ a o, F a → H a = some o → H' a = some o) → (∀ a, F a → G' a = none) → TRf c G' H' ts F' vs
  | [], _, _, _, h, _, _, _ => h
  | (f, t) :: ts, F, F', vs, ⟨v, r, F1, F2, h1, h2, h3, h4, h5⟩, hf, k, g => ⟨v, r, F1, F2, h1, fun a x => hf a (h2 a x), fun a x => ⟨hf a (h3 a x).1, (h3 a x).2⟩,
      TR.mono e h4 (fun _ x => x) (fun a o x => k a o (h2 a x)) (fun a x => g a (h2 a x)), TRf.mono e h5 (fun _ x => x) (fun a o x => k a o (h3 a x).1) (fun a x => g a (h3 a x).1)⟩
theorem TRk.mono (e : Ex G G') : ∀ {ts : List (Key × T)} {F F' : As} {vs : List (Key × V)}, TRk c G H ts F vs → (∀ a, F a → F' a) → (∀ a o, F a → H a = some o → H' a = some o) → (∀ a, F a → G' a = none) → TRk c G' H' ts F' vs
  | [], _, _, _, h, _, _, _ => h
  | (f, t) :: ts, F, F', vs, ⟨v, r, F1, F2, h1, h2, h3, h4, h5⟩, hf, k, g => ⟨v, r, F1, F2, h1, fun a x => hf a (h2 a x), fun a x => ⟨hf a (h3 a x).1, (h3 a x).2⟩,
      TR.mono e h4 (fun _ x => x) (fun a o x => k a o (h2 a x)) (fun a x => g a (h2 a x)), TRk.mono e h5 (fun _ x => x) (fun a o x => k a o (h3 a x).1) (fun a x => g a (h3 a x).1)⟩
theorem TRt.mono (e : Ex G G') : ∀ {ts : List (List Key × T)} {F F' : As} {vs : List (List Key × V)}, TRt c G H ts F vs → (∀ a, F a → F' a) → (∀ a o, F a → H a = some o → H' a = some o) → (∀ a, F a → G' a = none) → TRt c G' H' ts F' vs
  | [], _, _, _, h, _, _, _ => h
  | (f, t) :: ts, F, F', vs, ⟨v, r, F1, F2, h1, h2, h3, h4, h5⟩, hf, k, g => ⟨v, r, F1, F2, h1, fun a x => hf a (h2 a x), fun a x => ⟨hf a (h3 a x).1, (h3 a x).2⟩,
      TR.mono e h4 (fun _ x => x) (fun a o x => k a o (h2 a x)) (fun a x => g a (h2 a x)), TRt.mono e h5 (fun _ x => x) (fun a o x => k a o (h3 a x).1) (fun a x => g a (h3 a x).1)⟩
end
mutual
/-- the own cells are fixed -/
theorem TR.freeze (e : Ex G G') : ∀ {t : T} {F : As} {v : V}, TR c G H t F v → (∀ a o, F a → H a = some o → G' a = some o) → Rep c G' t.data v
  | .frz ov d, F, v, ⟨h1, _⟩, _ => h1.mono e
  | .lst ts, F, v, ⟨p, vs, F1, h1, h2, h3, h4, h5, h6⟩, k => ⟨p, vs, h1, k _ _ h2 h4, TRs.freeze e h6 fun a o x => k a o (h5 a x).1⟩
  | .tup ts, F, v, ⟨p, vs, F1, h1, h2, h3, h4, h5, h6⟩, k => ⟨p, vs, h1, k _ _ h2 h4, TRs.freeze e h6 fun a o x => k a o (h5 a x).1⟩
  | .dik ts, F, v, ⟨p, vs, F1, h1, h2, h3, h4, h5, h6⟩, k => ⟨p, vs, h1, .inl (k _ _ h2 h4), TRk.freeze e h6 fun a o x => k a o (h5 a x).1⟩
  | .dit ts, F, v, ⟨p, vs, F1, h1, h2, h3, h4, h5, h6⟩, k => ⟨p, vs, h1, .inl (k _ _ h2 h4), TRt.freeze e h6 fun a o x => k a o (h5 a x).1⟩
  | .ins _ ts, F, v, ⟨p, dx, vs, F1, h1, h2, h3, h4, h5, h6⟩, k => ⟨p, dx, vs, h1, k _ _ h2 h4, TRf.freeze e h6 fun a o x => k a o (h5 a x).1⟩
theorem TRs.freeze (e : Ex G G') : ∀ {ts : List T} {F : As} {vs : List V}, TRs c G H ts F vs → (∀ a o, F a → H a = some o → G' a = some o) → Reps c G' (T.datas ts) vs
  | [], _, _, h, _ => h
  | t :: ts, F, vs, ⟨v, r, F1, F2, h1, h2, h3, h4, h5⟩, k => ⟨v, r, h1, TR.freeze e h4 fun a o x => k a o (h2 a x), TRs.freeze e h5 fun a o x => k a o (h3 a x).1⟩
theorem TRf.freeze (e : Ex G G') : ∀ {ts : List (Str × T)} {F : As} {vs : List (Str × V)}, TRf c G H ts F vs → (∀ a o, F a → H a = some o → G' a = some o) → RepF c G' (T.dataf ts) vs
  | [], _, _, h, _ => h
  | (f, t) :: ts, F, vs, ⟨v, r, F1, F2, h1, h2, h3, h4, h5⟩, k => ⟨v, r, h1, TR.freeze e h4 fun a o x => k a o (h2 a x), TRf.freeze e h5 fun a o x => k a o (h3 a x).1⟩
theorem TRk.freeze (e : Ex G G') : ∀ {ts : List (Key × T)} {F : As} {vs : List (Key × V)}, TRk c G H ts F vs → (∀ a o, F a → H a = some o → G' a = some o) → RepK c G' (T.datak ts) vs
  | [], _, _, h, _ => h
  | (f, t) :: ts, F, vs, ⟨v, r, F1, F2, h1, h2, h3, h4, h5⟩, k => ⟨v, r, h1, TR.freeze e h4 fun a o x => k a o (h2 a x), TRk.freeze e h5 fun a o x => k a o (h3 a x).1⟩
theorem TRt.freeze (e : Ex G G') : ∀ {ts : List (List Key × T)} {F : As} {vs : List (List Key × V)}, TRt c G H ts F vs → (∀ a o, F a → H a = some o → G' a = some o) → RepT c G' (T.datat ts) vs
  | [], _, _, h, _ => h
  | (f, t) :: ts, F, vs, ⟨v, r, F1, F2, h1, h2, h3, h4, h5⟩, k => ⟨v, r, h1, TR.freeze e h4 fun a o x => k a o (h2 a x), TRt.freeze e h5 fun a o x => k a o (h3 a x).1⟩
end
end
/-- what is own becomes fixed -/
noncomputable def frzH (G H : Hp) (F : As) : Hp := open Classical in fun a => if F a then H a else G a
theorem frzH_in {G H : Hp} {F : As} {a : Addr} (h : F a) : frzH G H F a = H a := by unfold frzH; rw [if_pos h]
theorem frzH_out {G H : Hp} {F : As} {a : Addr} (h : ¬ F a) : frzH G H F a = G a := by unfold frzH; rw [if_neg h]
theorem frzH_ex {G H : Hp} {F : As} (e : Ex G H) : Ex G (frzH G H F) := fun a o h => by
  by_cases f : F a
  · rw [frzH_in f]; exact e _ _ h
  · rw [frzH_out f]; exact h
theorem frzH_le {G H : Hp} {F : As} (e : Ex G H) : Ex (frzH G H F) H := fun a o h => by
  by_cases f : F a
  · rw [frzH_in f] at h; exact h
  · rw [frzH_out f] at h; exact e _ _ h
end TL
/-! TL2: states, expressions. -/
namespace TL
open PySem PySem.Spec PyProof.Rows L2

/-- a step of the store: U is one's own ahead of it, U' behind it -/
structure Stp (G H : Hp) (U : As) (G' H' : Hp) (U' : As) : Prop where
  g : Ex G G'
  h : ∀ a o, H a = some o → ¬ U a → H' a = some o
  n : ∀ a, U' a → U a ∨ H a = none
  m : ∀ a, G' a ≠ none → G a ≠ none ∨ U a ∨ H a = none
theorem Stp.refl {G H : Hp} {U : As} : Stp G H U G H U := ⟨Ex.refl _, fun _ _ h _ => h, fun _ h => .inl h, fun _ h => .inl h⟩
theorem Stp.trans {G H G1 H1 G2 H2 : Hp} {U U1 U2 : As} (a : Stp G H U G1 H1 U1) (b : Stp G1 H1 U1 G2 H2 U2) : Stp G H U G2 H2 U2 where
  g := a.g.trans b.g
  h := fun x o e u => b.h x o (a.h x o e u) fun u1 => by
    rcases a.n x u1 with z | z
    · exact u z
    · rw [z] at e; cases e
  n := fun x u => by
    rcases b.n x u with z | z
    · exact a.n x z
    · by_cases ux : U x
      · exact .inl ux
      · right
        cases q : H x with
        | none => rfl
        | some o => rw [a.h x o q ux] at z; cases z
  m := fun x u => by
    rcases b.m x u with z | z | z
    · exact a.m x z
    · exact .inr (a.n x z)
    · by_cases ux : U x
      · exact .inr (.inl ux)
      · right; right
        cases q : H x with
        | none => rfl
        | some o => rw [a.h x o q ux] at z; cases z
/-- cells beside -/
theorem Stp.frame {G H G1 H1 : Hp} {U U1 : As} (a : Stp G H U G1 H1 U1) (F : As) : Stp G H (fun x => U x ∨ F x) G1 H1 (fun x => U1 x ∨ F x) where
  g := a.g
  h := fun x o e u => a.h x o e fun z => u (.inl z)
  n := fun x u => by
    rcases u with u | u
    · rcases a.n x u with z | z
      · exact .inl (.inl z)
      · exact .inr z
    · exact .inl (.inr u)
  m := fun x u => by
    rcases a.m x u with z | z | z
    · exact .inl z
    · exact .inr (.inl (.inl z))
    · exact .inr (.inr z)
/-- less own behind, more own ahead -/
theorem Stp.wk {G H G1 H1 : Hp} {U U1 V V1 : As} (a : Stp G H U G1 H1 U1) (h : ∀ x, U x → V x) (h1 : ∀ x, V1 x → U1 x ∨ V x ∨ H x = none) : Stp G H V G1 H1 V1 where
  g := a.g
  h := fun x o e u => a.h x o e fun z => u (h x z)
  n := fun x u => by
    rcases h1 x u with z | z
    · rcases a.n x z with y | y
      · exact .inl (h x y)
      · exact .inr y
    · exact z
  m := fun x u => by
    rcases a.m x u with z | z | z
    · exact .inl z
    · exact .inr (.inl (h x z))
    · exact .inr (.inr z)

abbrev Env := List (Option T)
def uP (P : Nat → As) : As := fun a => ∃ i, P i a
structure Amb where
  c : Cn
  G : Hp
  H : Hp
  U : As
  σ : L2.St
  keep : List Nat

/-- what the slots hold -/
structure SL (c : Cn) (G H : Hp) (σ : L2.St) (env : Env) (P : Nat → As) : Prop where
  len : σ.length = env.length
  le : Ex G H
  slot : ∀ i t, env[i]? = some (some t) → ∃ v, σ[i]? = some (some v) ∧ TR c G H t (P i) v
  dis : ∀ i j a, P i a → P j a → i = j
  own : ∀ i a, P i a → G a = none ∧ H a ≠ none
structure SR (A : Amb) (G H : Hp) (σ : L2.St) (env : Env) (P : Nat → As) : Prop extends SL A.c G H σ env P where
  base : Stp A.G A.H A.U G H (uP P)
  kp : ∀ i ∈ A.keep, σ[i]? = A.σ[i]?
/-- a value made on the way, its own cells F -/
structure Tmp (A : Amb) (G H : Hp) (P : Nat → As) (t : T) (F : As) (v : V) : Prop where
  tr : TR A.c G H t F v
  fd : ∀ a, F a → ¬ uP P a ∧ G a = none ∧ H a ≠ none
  bs : ∀ a, F a → A.U a ∨ A.H a = none

inductive Ar where
  | t (t : T) | s (i : Nat)
def ArR (c : Cn) (G H : Hp) (σ : L2.St) : List Ar → As → List V → Prop
  | [], _, vs => vs = []
  | .t t :: r, F, vs => ∃ v r' F1 F2, vs = v :: r' ∧ (∀ a, F1 a → F a) ∧ (∀ a, F2 a → F a ∧ ¬ F1 a) ∧ TR c G H t F1 v ∧ ArR c G H σ r F2 r'
  | .s i :: r, F, vs => ∃ v r', vs = v :: r' ∧ σ[i]? = some (some v) ∧ ArR c G H σ r F r'
theorem ArR.mono {c : Cn} {G H G' H' : Hp} {σ : L2.St} (e : Ex G G') : ∀ {as : List Ar} {F F' : As} {vs : List V}, ArR c G H σ as F vs → (∀ a, F a → F' a) → (∀ a o, F a → H a = some o → H' a = some o) → (∀ a, F a → G' a = none) → ArR c G' H' σ as F' vs
  | [], _, _, _, h, _, _, _ => h
  | .t t :: r, F, F', vs, ⟨v, r', F1, F2, h1, h2, h3, h4, h5⟩, hf, k, g => ⟨v, r', F1, F2, h1, fun a x => hf a (h2 a x), fun a x => ⟨hf a (h3 a x).1, (h3 a x).2⟩,
      h4.mono e (fun _ x => x) (fun a o x => k a o (h2 a x)) (fun a x => g a (h2 a x)), ArR.mono e h5 (fun _ x => x) (fun a o x => k a o (h3 a x).1) (fun a x => g a (h3 a x).1)⟩
  | .s i :: r, F, F', vs, ⟨v, r', h1, h2, h3⟩, hf, k, g => ⟨v, r', h1, h2, ArR.mono e h3 hf k g⟩
structure TmpA (A : Amb) (G H : Hp) (σ : L2.St) (P : Nat → As) (as : List Ar) (F : As) (vs : List V) : Prop where
  tr : ArR A.c G H σ as F vs
  fd : ∀ a, F a → ¬ uP P a ∧ G a = none ∧ H a ≠ none
  bs : ∀ a, F a → A.U a ∨ A.H a = none

section
variable {A : Amb} {G H G' H' : Hp} {σ : L2.St} {P P' : Nat → As} {F F' : As} {v : V} {t : T} {vs : List V} {as : List Ar}
/-- what stands beside stays -/
theorem beside (S : Stp G H (uP P) G' H' (fun a => uP P' a ∨ F' a)) (fd : ∀ a, F a → ¬ uP P a ∧ G a = none ∧ H a ≠ none) :
    (∀ a o, F a → H a = some o → H' a = some o) ∧ (∀ a, F a → ¬ uP P' a ∧ G' a = none ∧ H' a ≠ none) ∧ ∀ a, F' a → ¬ F a := by
  have k : ∀ a o, F a → H a = some o → H' a = some o := fun a o x e => S.h a o e (fd a x).1
  refine ⟨k, fun a x => ⟨fun u => ?_, ?_, ?_⟩, fun a x y => ?_⟩
  · rcases S.n a (.inl u) with z | z
    · exact (fd a x).1 z
    · exact (fd a x).2.2 z
  · cases q : G' a with
    | none => rfl
    | some o =>
      rcases S.m a (by rw [q]; exact fun z => nomatch z) with z | z | z
      · exact absurd (fd a x).2.1 z
      · exact absurd z (fd a x).1
      · exact absurd z (fd a x).2.2
  · cases q : H a with
    | none => exact absurd q (fd a x).2.2
    | some o => rw [k a o x q]; exact fun z => nomatch z
  · rcases S.n a (.inr x) with z | z
    · exact (fd a y).1 z
    · exact (fd a y).2.2 z
theorem Tmp.carry (m : Tmp A G H P t F v) (S : Stp G H (uP P) G' H' (fun a => uP P' a ∨ F' a)) : Tmp A G' H' P' t F v := by
  obtain ⟨k, fd, _⟩ := beside S m.fd
  exact ⟨m.tr.mono S.g (fun _ x => x) k (fun a x => (fd a x).2.1), fd, m.bs⟩
theorem TmpA.carry (m : TmpA A G H σ P as F vs) (S : Stp G H (uP P) G' H' (fun a => uP P' a ∨ F' a)) : TmpA A G' H' σ P' as F vs := by
  obtain ⟨k, fd, _⟩ := beside S m.fd
  exact ⟨m.tr.mono S.g (fun _ x => x) k (fun a x => (fd a x).2.1), fd, m.bs⟩
/-- a tree as data where it stands -/
theorem TR.view {c : Cn} (le : Ex G H) (h : TR c G H t F v) : Rep c H t.data v := h.freeze le fun _ _ _ e => e
end

/-- behind an expression -/
structure Res (A : Amb) (G H : Hp) (U0 : As) (σ : L2.St) (t : T) (env' : Env) (v : V) (G' H' : Hp) (P' : Nat → As) (F : As) : Prop where
  sr : SR A G' H' σ env' P'
  st : Stp G H U0 G' H' (fun a => uP P' a ∨ F a)
  tm : Tmp A G' H' P' t F v
structure ResA (A : Amb) (G H : Hp) (U0 : As) (σ : L2.St) (as : List Ar) (env' : Env) (vs : List V) (G' H' : Hp) (P' : Nat → As) (F : As) : Prop where
  sr : SR A G' H' σ env' P'
  st : Stp G H U0 G' H' (fun a => uP P' a ∨ F a)
  tm : TmpA A G' H' σ P' as F vs

/-- an expression, from these trees: what Post says of its tree and the trees behind it -/
def WE (A : Amb) (te : TE) (env : Env) (Post : T → Env → Prop) : Prop := ∀ G H σ P, SR A G H σ env P → ∀ Q : VK,
  (∀ t env' v G' H' P' F, Post t env' → Res A G H (uP P) σ t env' v G' H' P' F → Q v H') → te σ H Q
/-- as WE, a name that holds what is one's own may be handed on as the name -/
def WO (A : Amb) (te : TE) (env : Env) (Post : Ar → Env → Prop) : Prop := ∀ G H σ P, SR A G H σ env P → ∀ Q : VK,
  (∀ a env' v G' H' P' F, Post a env' → ResA A G H (uP P) σ [a] env' [v] G' H' P' F → Q v H') → te σ H Q
def WT (A : Amb) (tt : TT) (env : Env) (Post : Bool → Env → Prop) : Prop := ∀ G H σ P, SR A G H σ env P → ∀ Q : Bool → Hp → Prop,
  (∀ b env' G' H' P', Post b env' → SR A G' H' σ env' P' → Stp G H (uP P) G' H' (uP P') → Q b H') → tt σ H Q
def WA (A : Amb) (ta : TA) (env : Env) (Post : List Ar → Env → Prop) : Prop := ∀ G H σ P, SR A G H σ env P → ∀ Q : List V → Hp → Prop,
  (∀ as env' vs G' H' P' F, Post as env' → ResA A G H (uP P) σ as env' vs G' H' P' F → Q vs H') → ta σ H Q
/-- an operation upon two values -/
def WR (A : Amb) (r : R2) (a b : Ar) (env : Env) (Post : T → Env → Prop) : Prop := ∀ G H σ P x y F, SR A G H σ env P → TmpA A G H σ P [a, b] F [x, y] → ∀ Q : VK,
  (∀ t env' v G' H' P' F', Post t env' → Res A G H (fun a => uP P a ∨ F a) σ t env' v G' H' P' F' → Q v H') → r x y H Q
def WU (A : Amb) (r : V → Hp → VK → Prop) (a : Ar) (env : Env) (Post : T → Env → Prop) : Prop := ∀ G H σ P x F, SR A G H σ env P → TmpA A G H σ P [a] F [x] → ∀ Q : VK,
  (∀ t env' v G' H' P' F', Post t env' → Res A G H (fun a => uP P a ∨ F a) σ t env' v G' H' P' F' → Q v H') → r x H Q
/-- a call upon values -/
def WC (A : Amb) (r : List V → Hp → VK → Prop) (as : List Ar) (env : Env) (Post : T → Env → Prop) : Prop := ∀ G H σ P vs F, SR A G H σ env P → TmpA A G H σ P as F vs → ∀ Q : VK,
  (∀ t env' v G' H' P' F', Post t env' → Res A G H (fun a => uP P a ∨ F a) σ t env' v G' H' P' F' → Q v H') → r vs H Q

section
variable {A : Amb} {G H G' H' : Hp} {σ : L2.St} {env : Env} {P P' : Nat → As} {F F' : As} {v x y z : V} {t t1 t2 : T} {vs : List V} {as : List Ar} {ta tb te : TE} {r : R2} {Post : T → Env → Prop}

def noF : As := fun _ => False
theorem Tmp.flat {d : D} {ov : Option V} (h : Rep A.c G d v) (ho : ∀ u, ov = some u → v = u) : Tmp A G H P (.frz ov d) noF v := ⟨⟨h, ho⟩, fun _ z => z.elim, fun _ z => z.elim⟩
theorem Tmp.one (m : Tmp A G H P t F v) : TmpA A G H σ P [.t t] F [v] := ⟨⟨v, [], F, noF, rfl, fun _ h => h, fun _ h => h.elim, m.tr, rfl⟩, m.fd, m.bs⟩
theorem TmpA.one (m : TmpA A G H σ P [.t t] F [v]) : ∃ F1 : As, (∀ a, F1 a → F a) ∧ Tmp A G H P t F1 v := by
  obtain ⟨w, r, F1, F2, h1, h2, h3, h4, h5⟩ := m.tr
  cases h5
  cases h1
  exact ⟨F1, h2, h4, fun a h => m.fd a (h2 a h), fun a h => m.bs a (h2 a h)⟩
/-- nothing happened -/
theorem Res.same (s : SR A G H σ env P) (m : Tmp A G H P t F v) {U0 : As} (h : ∀ a, uP P a → U0 a) (h2 : ∀ a, F a → U0 a ∨ H a = none) : Res A G H U0 σ t env v G H P F :=
  ⟨s, Stp.refl.wk h fun a z => by
    rcases z with z | z
    · exact .inl z
    · exact .inr (h2 a z), m⟩
theorem Res.frz (s : SR A G H σ env P) {d : D} {ov : Option V} (h : Rep A.c G d v) (ho : ∀ u, ov = some u → v = u) : Res A G H (uP P) σ (.frz ov d) env v G H P noF :=
  .same s (.flat h ho) (fun _ h => h) fun _ z => z.elim
theorem Res.frz' (s : SR A G H σ env P) {d : D} {ov : Option V} (h : Rep A.c G d v) (ho : ∀ u, ov = some u → v = u) : Res A G H (fun a => uP P a ∨ F a) σ (.frz ov d) env v G H P noF :=
  .same s (.flat h ho) (fun _ h => .inl h) fun _ z => z.elim

theorem we_imp {Post' : T → Env → Prop} (h : WE A te env Post') (q : ∀ t e, Post' t e → Post t e) : WE A te env Post := fun G H σ P s Q k => h G H σ P s Q fun t e v G' H' P' F p r => k t e v G' H' P' F (q t e p) r
/-- a name of what is fixed -/
theorem we_var {i : Nat} {d : D} {ov : Option V} (h : env[i]? = some (some (.frz ov d))) (q : Post (.frz ov d) env) : WE A (tVar i) env Post := fun G H σ P s Q k => by
  obtain ⟨v, hv, tr⟩ := s.slot i _ h
  exact ⟨v, hv, k _ _ _ _ _ _ _ q (.frz s tr.1 tr.2)⟩
theorem SL.moved {c : Cn} (s : SL c G H σ env P) (i : Nat) : SL c G H σ (env.set i none) (fun j a => P j a ∧ j ≠ i) where
  len := by rw [List.length_set]; exact s.len
  le := s.le
  slot := fun j t e => by
    have ne : j ≠ i := fun z => by
      subst z
      rw [List.getElem?_set] at e
      split at e <;> simp_all
    rw [List.getElem?_set_ne (Ne.symm ne)] at e
    obtain ⟨v, hv, tr⟩ := s.slot j t e
    exact ⟨v, hv, tr.mono (Ex.refl _) (fun a h => ⟨h, ne⟩) (fun _ _ _ e => e) (fun a h => (s.own j a h).1)⟩
  dis := fun j k a h h' => s.dis j k a h.1 h'.1
  own := fun j a h => s.own j a h.1
/-- what a name holds as its own is handed over: the name has it no more -/
theorem we_move {i : Nat} (h : env[i]? = some (some t)) (q : Post t (env.set i none)) : WE A (tVar i) env Post := fun G H σ P s Q k => by
  obtain ⟨v, hv, tr⟩ := s.slot i _ h
  refine ⟨v, hv, k _ _ _ G H (fun j a => P j a ∧ j ≠ i) (P i) q ⟨⟨s.toSL.moved i, s.base.wk (fun _ h => h) fun a ⟨j, h, _⟩ => .inl ⟨j, h⟩, s.kp⟩, Stp.refl.wk (fun _ h => h) fun a z => ?_, tr, fun a z => ⟨fun ⟨j, h1, h2⟩ => h2 (s.dis _ _ _ h1 z), s.own i a z⟩, fun a z => s.base.n a ⟨i, z⟩⟩⟩
  rcases z with ⟨j, z, _⟩ | z
  · exact .inl ⟨j, z⟩
  · exact .inl ⟨i, z⟩
/-- what a name holds as its own becomes fixed -/
theorem SR.fix (s : SR A G H σ env P) (i : Nat) {t : T} (h : env[i]? = some (some t)) : ∃ v, σ[i]? = some (some v) ∧ Rep A.c (frzH G H (P i)) t.data v ∧
    SR A (frzH G H (P i)) H σ (env.set i (some (.frz none t.data))) (fun j a => P j a ∧ j ≠ i) ∧ Stp G H (uP P) (frzH G H (P i)) H (uP fun j a => P j a ∧ j ≠ i) := by
  obtain ⟨v, hv, tr⟩ := s.slot i _ h
  have e1 : Ex G (frzH G H (P i)) := frzH_ex s.le
  have rp : Rep A.c (frzH G H (P i)) t.data v := tr.freeze e1 fun a o f e => by rw [frzH_in f]; exact e
  have out : ∀ j a, j ≠ i → P j a → frzH G H (P i) a = none := fun j a ne h => by
    rw [frzH_out fun z => ne (s.dis _ _ _ h z)]
    exact (s.own j a h).1
  have st : Stp G H (uP P) (frzH G H (P i)) H (uP fun j a => P j a ∧ j ≠ i) := ⟨e1, fun _ _ e _ => e, fun a ⟨j, h, _⟩ => .inl ⟨j, h⟩, fun a z => by
    by_cases f : P i a
    · exact .inr (.inl ⟨i, f⟩)
    · rw [frzH_out f] at z; exact .inl z⟩
  refine ⟨v, hv, rp, ⟨⟨by rw [List.length_set]; exact s.len, frzH_le s.le, fun j u e => ?_, fun j k a h h' => s.dis j k a h.1 h'.1, fun j a h => ⟨out j a h.2 h.1, (s.own j a h.1).2⟩⟩, s.base.trans st, s.kp⟩, st⟩
  by_cases ne : j = i
  · subst ne
    have : u = .frz none t.data := by
      rw [List.getElem?_set] at e
      split at e
      · split at e
        · exact (Option.some.inj (Option.some.inj e)).symm
        · cases e
      · exact absurd rfl ‹_›
    subst this
    exact ⟨v, hv, rp, fun _ z => nomatch z⟩
  · rw [List.getElem?_set_ne (Ne.symm ne)] at e
    obtain ⟨w, hw, tw⟩ := s.slot j u e
    exact ⟨w, hw, tw.mono e1 (fun a h => ⟨h, ne⟩) (fun _ _ _ e => e) (fun a h => out j a ne h)⟩
theorem we_fix {i : Nat} (h : env[i]? = some (some t)) (q : Post (.frz none t.data) (env.set i (some (.frz none t.data)))) : WE A (tVar i) env Post := fun G H σ P s Q k => by
  obtain ⟨v, hv, rp, s', st⟩ := s.fix i h
  exact ⟨v, hv, k _ _ _ _ _ _ _ q ⟨s', st.wk (fun _ h => h) (fun a z => by rcases z with z | z; exact .inl z; exact z.elim), .flat rp fun _ z => nomatch z⟩⟩
theorem we_int {n : Int} (q : Post (I n) env) : WE A (tC (.int n)) env Post := fun G H σ P s Q k => k _ _ _ _ _ _ _ q (.frz s rfl fun _ z => nomatch z)
theorem we_bl {n : Bool} (q : Post (B n) env) : WE A (tC (.bl n)) env Post := fun G H σ P s Q k => k _ _ _ _ _ _ _ q (.frz s rfl fun _ z => nomatch z)
theorem we_str {n : Str} (q : Post (S n) env) : WE A (tC (.str n)) env Post := fun G H σ P s Q k => k _ _ _ _ _ _ _ q (.frz s rfl fun _ z => nomatch z)
theorem we_non (q : Post N_ env) : WE A (tC .non) env Post := fun G H σ P s Q k => k _ _ _ _ _ _ _ q (.frz s rfl fun _ z => nomatch z)
/-- a constant that is no data -/
theorem we_oth {u : V} (q : Post (.frz none (.oth u)) env) : WE A (tC u) env Post := fun G H σ P s Q k => k _ _ _ _ _ _ _ q (.frz s rfl fun _ z => nomatch z)

theorem wo_slot {i : Nat} (h : ∃ t, env[i]? = some (some t)) {Post : Ar → Env → Prop} (q : Post (.s i) env) : WO A (tVar i) env Post := fun G H σ P s Q k => by
  obtain ⟨t, h⟩ := h
  obtain ⟨v, hv, tr⟩ := s.slot i _ h
  exact ⟨v, hv, k _ _ _ _ _ _ noF q ⟨s, Stp.refl.wk (fun _ h => h) (fun a z => by rcases z with z | z; exact .inl z; exact z.elim), ⟨⟨v, [], rfl, hv, rfl⟩, fun _ z => z.elim, fun _ z => z.elim⟩⟩⟩
theorem wo_e {Post : Ar → Env → Prop} (h : WE A te env fun t e => Post (.t t) e) : WO A te env Post := fun G H σ P s Q k => h G H σ P s Q fun t e v G' H' P' F p r => k (.t t) e v G' H' P' F p ⟨r.sr, r.st, r.tm.one⟩

/-- the first one's cells, beside the second one's -/
theorem Stp.seq {G H G1 H1 G2 H2 : Hp} {U : As} {P1 P2 : Nat → As} {F1 F2 : As} (a : Stp G H U G1 H1 (fun x => uP P1 x ∨ F1 x)) (b : Stp G1 H1 (uP P1) G2 H2 (fun x => uP P2 x ∨ F2 x)) :
    Stp G H U G2 H2 (fun x => uP P2 x ∨ (F1 x ∨ F2 x)) := (a.trans (b.frame F1)).wk (fun _ h => h) fun x z => by
  rcases z with z | z | z
  · exact .inl (.inl (.inl z))
  · exact .inl (.inr z)
  · exact .inl (.inl (.inr z))
theorem ArR.app {c : Cn} : ∀ {as bs : List Ar} {F1 F2 F : As} {vs ws : List V}, ArR c G H σ as F1 vs → ArR c G H σ bs F2 ws → (∀ a, F1 a → F a) → (∀ a, F2 a → F a ∧ ¬ F1 a) → (∀ a, F a → G a = none) → ArR c G H σ (as ++ bs) F (vs ++ ws)
  | [], bs, F1, F2, F, vs, ws, h, hb, _, h2, g => by
    cases h
    exact hb.mono (Ex.refl _) (fun a x => (h2 a x).1) (fun _ _ _ e => e) fun a x => g a (h2 a x).1
  | .t t :: r, bs, F1, F2, F, vs, ws, ⟨v, r', X1, X2, e, h2, h3, h4, h5⟩, hb, k1, k2, g => by
    subst e
    refine ⟨v, r' ++ ws, X1, fun a => X2 a ∨ F2 a, rfl, fun a x => k1 a (h2 a x), fun a x => ?_, h4, ArR.app h5 hb (fun a x => .inl x) (fun a x => ⟨.inr x, fun y => (k2 a x).2 (h3 a y).1⟩) fun a x => ?_⟩
    · rcases x with x | x
      · exact ⟨k1 a (h3 a x).1, (h3 a x).2⟩
      · exact ⟨(k2 a x).1, fun y => (k2 a x).2 (h2 a y)⟩
    · rcases x with x | x
      · exact g a (k1 a (h3 a x).1)
      · exact g a (k2 a x).1
  | .s i :: r, bs, F1, F2, F, vs, ws, ⟨v, r', e, h2, h3⟩, hb, k1, k2, g => by
    subst e
    exact ⟨v, r' ++ ws, rfl, h2, ArR.app h3 hb k1 k2 g⟩
theorem TmpA.app {as bs : List Ar} {F1 F2 : As} {vs ws : List V} (m : TmpA A G H σ P as F1 vs) (n : TmpA A G H σ P bs F2 ws) (d : ∀ a, F2 a → ¬ F1 a) : TmpA A G H σ P (as ++ bs) (fun a => F1 a ∨ F2 a) (vs ++ ws) :=
  ⟨m.tr.app n.tr (fun a h => .inl h) (fun a h => ⟨.inr h, d a h⟩) (fun a h => by rcases h with h | h; exact (m.fd a h).2.1; exact (n.fd a h).2.1), fun a h => by rcases h with h | h; exact m.fd a h; exact n.fd a h,
    fun a h => by rcases h with h | h; exact m.bs a h; exact n.bs a h⟩
theorem we_op (h : WO A ta env fun a e => WO A tb e fun b e => WR A r a b e Post) : WE A (tOp r ta tb) env Post := fun G H σ P s Q k => by
  refine h G H σ P s _ fun a e1 v1 G1 H1 P1 F1 p1 r1 => ?_
  refine p1 G1 H1 σ P1 r1.sr _ fun b e2 v2 G2 H2 P2 F2 p2 r2 => ?_
  have dis := (beside r2.st r1.tm.fd).2.2
  refine p2 G2 H2 σ P2 v1 v2 _ r2.sr ((r1.tm.carry r2.st).app r2.tm dis) Q fun t e3 v G3 H3 P3 F3 p3 r3 => ?_
  exact k t e3 v G3 H3 P3 F3 p3 ⟨r3.sr, (r1.st.seq r2.st).trans r3.st, r3.tm⟩
theorem we_un {r : V → Hp → VK → Prop} (h : WO A ta env fun a e => WU A r a e Post) : WE A (tUn r ta) env Post := fun G H σ P s Q k => by
  refine h G H σ P s _ fun a e1 v1 G1 H1 P1 F1 p1 r1 => ?_
  refine p1 G1 H1 σ P1 v1 _ r1.sr r1.tm Q fun t e3 v G3 H3 P3 F3 p3 r3 => ?_
  exact k t e3 v G3 H3 P3 F3 p3 ⟨r3.sr, r1.st.trans r3.st, r3.tm⟩
theorem wa_nil {Post : List Ar → Env → Prop} (q : Post [] env) : WA A tNil env Post := fun G H σ P s Q k => k [] env [] G H P noF q ⟨s, Stp.refl.wk (fun _ h => h) (fun a z => by rcases z with z | z; exact .inl z; exact z.elim), rfl, fun _ z => z.elim, fun _ z => z.elim⟩
theorem wa_cons {tr : TA} {Post : List Ar → Env → Prop} (h : WO A ta env fun a e => WA A tr e fun as e => Post (a :: as) e) : WA A (tCons ta tr) env Post := fun G H σ P s Q k => by
  refine h G H σ P s _ fun a e1 v1 G1 H1 P1 F1 p1 r1 => ?_
  refine p1 G1 H1 σ P1 r1.sr _ fun as e2 vs G2 H2 P2 F2 p2 r2 => ?_
  exact k (a :: as) e2 (v1 :: vs) G2 H2 P2 _ p2 ⟨r2.sr, r1.st.seq r2.st, (r1.tm.carry r2.st).app r2.tm (beside r2.st r1.tm.fd).2.2⟩
theorem we_cb {r : List V → Hp → VK → Prop} {ta : TA} (h : WA A ta env fun as e => WC A r as e Post) : WE A (tCB r ta) env Post := fun G H σ P s Q k => by
  refine h G H σ P s _ fun a e1 v1 G1 H1 P1 F1 p1 r1 => ?_
  refine p1 G1 H1 σ P1 v1 _ r1.sr r1.tm Q fun t e3 v G3 H3 P3 F3 p3 r3 => ?_
  exact k t e3 v G3 H3 P3 F3 p3 ⟨r3.sr, r1.st.trans r3.st, r3.tm⟩
end
end TL
/-! TL3: tests, statements, loops, defs. -/
namespace TL
open PySem PySem.Spec PyProof.Rows L2
section
variable {A : Amb} {G H G' H' : Hp} {σ : L2.St} {env : Env} {P P' : Nat → As} {X X' : As} {v x y z : V} {t t1 t2 : T} {vs : List V} {as : List Ar} {ta tb te : TE} {r : R2}

/-! ### tests -/
theorem Res.drop {t : T} {env' : Env} (r : Res A G H (uP P) σ t env' v G' H' P' X) : Stp G H (uP P) G' H' (uP P') := r.st.wk (fun _ h => h) fun _ z => .inl (.inl z)
theorem wt_test {Post : Bool → Env → Prop} (h : WE A te env fun t e => ∃ b, t = B b ∧ Post b e) : WT A (tTest te) env Post := fun G H σ P s Q k => by
  refine h G H σ P s _ fun t e v G' H' P' F p r => ?_
  obtain ⟨b, rfl, p⟩ := p
  exact ⟨b, r.tm.tr.1, k b e G' H' P' p r.sr r.drop⟩
theorem wt_B {Post : Bool → Env → Prop} (h : WE A te env fun t e => ∃ b, t = B b ∧ Post b e) : WT A (tB te) env Post := fun G H σ P s Q k => by
  refine h G H σ P s _ fun t e v G' H' P' F p r => ?_
  obtain ⟨b, rfl, p⟩ := p
  exact ⟨b, r.tm.tr.1, k b e G' H' P' p r.sr r.drop⟩
theorem wt_not {tt : TT} {Post : Bool → Env → Prop} (h : WT A tt env fun b e => Post (!b) e) : WT A (tNot tt) env Post := fun G H σ P s Q k =>
  h G H σ P s _ fun b e G' H' P' p s' st => k (!b) e G' H' P' p s' st
theorem wt_and {tt tu : TT} {Post : Bool → Env → Prop} (h : WT A tt env fun b e => (b = true → WT A tu e Post) ∧ (b = false → Post false e)) : WT A (tAnd tt tu) env Post := fun G H σ P s Q k =>
  h G H σ P s _ fun b e G' H' P' p s' st => by
    cases b with
    | true => exact p.1 rfl G' H' σ P' s' Q fun b e G2 H2 P2 p2 s2 st2 => k b e G2 H2 P2 p2 s2 (st.trans st2)
    | false => exact k false e G' H' P' (p.2 rfl) s' st
theorem wt_or {tt tu : TT} {Post : Bool → Env → Prop} (h : WT A tt env fun b e => (b = false → WT A tu e Post) ∧ (b = true → Post true e)) : WT A (tOr tt tu) env Post := fun G H σ P s Q k =>
  h G H σ P s _ fun b e G' H' P' p s' st => by
    cases b with
    | false => exact p.1 rfl G' H' σ P' s' Q fun b e G2 H2 P2 p2 s2 st2 => k b e G2 H2 P2 p2 s2 (st.trans st2)
    | true => exact k true e G' H' P' (p.2 rfl) s' st
theorem we_not {Post : T → Env → Prop} (h : WE A te env fun t e => ∃ b, t = B b ∧ Post (B (!b)) e) : WE A (tNotV te) env Post := fun G H σ P s Q k => by
  refine h G H σ P s _ fun t e v G' H' P' F p r => ?_
  obtain ⟨b, rfl, p⟩ := p
  refine ⟨b, r.tm.tr.1, k (B (!b)) e _ G' H' P' noF p ⟨r.sr, r.st.wk (fun _ h => h) (fun a z => ?_), .flat rfl fun _ z => nomatch z⟩⟩
  rcases z with z | z
  · exact .inl (.inl z)
  · exact z.elim
theorem we_and {Post : T → Env → Prop} (h : WE A ta env fun t e => ∃ b, t = B b ∧ (b = true → WE A tb e Post) ∧ (b = false → Post (B false) e)) : WE A (tAndV ta tb) env Post := fun G H σ P s Q k => by
  refine h G H σ P s _ fun t e v G' H' P' F p r => ?_
  obtain ⟨b, rfl, p⟩ := p
  refine ⟨b, r.tm.tr.1, ?_⟩
  cases b with
  | true => exact p.1 rfl G' H' σ P' r.sr Q fun t e v G2 H2 P2 F2 p2 r2 => k t e v G2 H2 P2 F2 p2 ⟨r2.sr, r.drop.trans r2.st, r2.tm⟩
  | false => exact k (B false) e _ G' H' P' noF (p.2 rfl) ⟨r.sr, r.st.wk (fun _ h => h) (fun a z => by rcases z with z | z; exact .inl (.inl z); exact z.elim), .flat rfl fun _ z => nomatch z⟩
theorem we_or {Post : T → Env → Prop} (h : WE A ta env fun t e => ∃ b, t = B b ∧ (b = false → WE A tb e Post) ∧ (b = true → Post (B true) e)) : WE A (tOrV ta tb) env Post := fun G H σ P s Q k => by
  refine h G H σ P s _ fun t e v G' H' P' F p r => ?_
  obtain ⟨b, rfl, p⟩ := p
  refine ⟨b, r.tm.tr.1, ?_⟩
  cases b with
  | false => exact p.1 rfl G' H' σ P' r.sr Q fun t e v G2 H2 P2 F2 p2 r2 => k t e v G2 H2 P2 F2 p2 ⟨r2.sr, r.drop.trans r2.st, r2.tm⟩
  | true => exact k (B true) e _ G' H' P' noF (p.2 rfl) ⟨r.sr, r.st.wk (fun _ h => h) (fun a z => by rcases z with z | z; exact .inl (.inl z); exact z.elim), .flat rfl fun _ z => nomatch z⟩
theorem we_if {tc : TT} {Post : T → Env → Prop} (h : WT A tc env fun b e => (b = true → WE A ta e Post) ∧ (b = false → WE A tb e Post)) : WE A (tIf tc ta tb) env Post := fun G H σ P s Q k => by
  refine h G H σ P s _ fun b e G' H' P' p s' st => ?_
  cases b with
  | true => exact p.1 rfl G' H' σ P' s' Q fun t e v G2 H2 P2 F2 p2 r2 => k t e v G2 H2 P2 F2 p2 ⟨r2.sr, st.trans r2.st, r2.tm⟩
  | false => exact p.2 rfl G' H' σ P' s' Q fun t e v G2 H2 P2 F2 p2 r2 => k t e v G2 H2 P2 F2 p2 ⟨r2.sr, st.trans r2.st, r2.tm⟩
/-- a < b < c, upon flat values: the middle one is reckoned once -/
theorem we_chain {r r' : R2} {tc : TE} {Post : T → Env → Prop} (h : WO A ta env fun a e => WO A tb e fun b e => WR A r a b e fun t e => ∃ k, t = B k ∧ (k = false → Post (B false) e) ∧ (k = true → ∃ ov d, b = .t (.frz ov d) ∧ WO A tc e fun c e => WR A r' (.t (.frz ov d)) c e Post)) :
    WE A (tChain r r' ta tb tc) env Post := fun G H σ P s Q k => by
  refine h G H σ P s _ fun a e1 v1 G1 H1 P1 F1 p1 r1 => ?_
  refine p1 G1 H1 σ P1 r1.sr _ fun b e2 v2 G2 H2 P2 F2 p2 r2 => ?_
  have dis := (beside r2.st r1.tm.fd).2.2
  refine p2 G2 H2 σ P2 v1 v2 _ r2.sr ((r1.tm.carry r2.st).app r2.tm dis) _ fun t e3 v G3 H3 P3 F3 p3 r3 => ?_
  obtain ⟨b3, rfl, hf, ht⟩ := p3
  refine ⟨b3, r3.tm.tr.1, ?_⟩
  have st3 : Stp G H (uP P) G3 H3 (uP P3) := ((r1.st.seq r2.st).trans r3.st).wk (fun _ h => h) fun a z => .inl (.inl z)
  cases b3 with
  | false => exact k (B false) e3 _ G3 H3 P3 noF (hf rfl) ⟨r3.sr, st3.wk (fun _ h => h) (fun a z => by rcases z with z | z; exact .inl z; exact z.elim), .flat rfl fun _ z => nomatch z⟩
  | true =>
    obtain ⟨ov, d, rfl, hc⟩ := ht rfl
    obtain ⟨F2', _, m2⟩ := r2.tm.one
    obtain ⟨rp, ho⟩ := m2.tr
    refine hc G3 H3 σ P3 r3.sr _ fun c e4 v4 G4 H4 P4 F4 p4 r4 => ?_
    have rp4 : Rep A.c G4 d v2 := (rp.mono r3.st.g).mono r4.st.g
    have m4 : TmpA A G4 H4 σ P4 [.t (.frz ov d)] noF [v2] := (Tmp.flat rp4 ho).one
    refine p4 G4 H4 σ P4 v2 v4 _ r4.sr (m4.app r4.tm fun _ _ z => z) Q fun t e5 v G5 H5 P5 F5 p5 r5 => ?_
    refine k t e5 v G5 H5 P5 F5 p5 ⟨r5.sr, (st3.trans r4.st).trans (r5.st.wk (fun x z => ?_) fun x z => .inl z), r5.tm⟩
    rcases z with z | z | z
    · exact .inl z
    · exact z.elim
    · exact .inr z

/-! ### statements -/
def WS (A : Amb) (ts : TS) (env : Env) (nx : Env → Prop) (rt : T → Env → Prop) (bk ct : Env → Prop) : Prop := ∀ G H σ P, SR A G H σ env P → ∀ D : Ends,
  (∀ env' G' H' σ' P', nx env' → SR A G' H' σ' env' P' → Ex G G' → D.nx σ' H') →
  (∀ t env' v G' H' σ' P' F, rt t env' → SR A G' H' σ' env' P' → Tmp A G' H' P' t F v → D.rt v H') →
  (∀ env' G' H' σ' P', bk env' → SR A G' H' σ' env' P' → Ex G G' → D.bk σ' H') →
  (∀ env' G' H' σ' P', ct env' → SR A G' H' σ' env' P' → Ex G G' → D.ct σ' H') → ts D σ H
/-- a target takes a value -/
def WG (A : Amb) (W : Nat → Prop) (g : TG) (t : T) (env : Env) (Post : Env → Prop) : Prop := ∀ G H σ P v X, SR A G H σ env P → Tmp A G H P t X v → ∀ Q : L2.St → Hp → Prop,
  (∀ env' G' H' σ' P', Post env' → SR A G' H' σ' env' P' → Stp G H (fun a => uP P a ∨ X a) G' H' (uP P') → σ'.length = σ.length → (∀ j, ¬ W j → σ'[j]? = σ[j]?) → Q σ' H') → g v σ H Q
abbrev wAll : Nat → Prop := fun _ => True
variable {nx bk ct : Env → Prop} {rt : T → Env → Prop}
theorem ws_seq {t u : TS} (h : WS A t env (fun e => WS A u e nx rt bk ct) rt bk ct) : WS A (tSeq t u) env nx rt bk ct := fun G H σ P s D n rt bk ct =>
  h G H σ P s { D with nx := u D } (fun e G' H' σ' P' q s' x => q G' H' σ' P' s' D (fun e G2 H2 σ2 P2 q2 s2 x2 => n e G2 H2 σ2 P2 q2 s2 (x.trans x2)) rt (fun e G2 H2 σ2 P2 q2 s2 x2 => bk e G2 H2 σ2 P2 q2 s2 (x.trans x2))
    (fun e G2 H2 σ2 P2 q2 s2 x2 => ct e G2 H2 σ2 P2 q2 s2 (x.trans x2))) rt bk ct
theorem ws_next (h : nx env) : WS A tNext env nx rt bk ct := fun G H σ P s D n _ _ _ => n env G H σ P h s (Ex.refl _)
theorem ws_break (h : bk env) : WS A tBreak env nx rt bk ct := fun G H σ P s D _ _ n _ => n env G H σ P h s (Ex.refl _)
theorem ws_cont (h : ct env) : WS A tCont env nx rt bk ct := fun G H σ P s D _ _ _ n => n env G H σ P h s (Ex.refl _)
theorem ws_drop (h : WE A te env fun _ e => nx e) : WS A (tDrop te) env nx rt bk ct := fun G H σ P s D n _ _ _ => h G H σ P s _ fun t e v G' H' P' F q r => n e G' H' σ P' q r.sr r.st.g
theorem ws_ret (h : WE A te env rt) : WS A (tRet te) env nx rt bk ct := fun G H σ P s D _ rt _ _ => h G H σ P s _ fun t e v G' H' P' F q r => rt t e v G' H' σ P' F q r.sr r.tm
theorem ws_retN (h : rt N_ env) : WS A tRetN env nx rt bk ct := fun G H σ P s D _ rt _ _ => rt N_ env .non G H σ P noF h s (.flat rfl fun _ z => nomatch z)
theorem ws_if {tc : TT} {t u : TS} (h : WT A tc env fun b e => (b = true → WS A t e nx rt bk ct) ∧ (b = false → WS A u e nx rt bk ct)) : WS A (tIfS tc t u) env nx rt bk ct := fun G H σ P s D n rt bk ct => by
  refine h G H σ P s _ fun b e G' H' P' q s' st => ?_
  cases b with
  | true => exact q.1 rfl G' H' σ P' s' D (fun e G2 H2 σ2 P2 q2 s2 x2 => n e G2 H2 σ2 P2 q2 s2 (st.g.trans x2)) rt (fun e G2 H2 σ2 P2 q2 s2 x2 => bk e G2 H2 σ2 P2 q2 s2 (st.g.trans x2)) (fun e G2 H2 σ2 P2 q2 s2 x2 => ct e G2 H2 σ2 P2 q2 s2 (st.g.trans x2))
  | false => exact q.2 rfl G' H' σ P' s' D (fun e G2 H2 σ2 P2 q2 s2 x2 => n e G2 H2 σ2 P2 q2 s2 (st.g.trans x2)) rt (fun e G2 H2 σ2 P2 q2 s2 x2 => bk e G2 H2 σ2 P2 q2 s2 (st.g.trans x2)) (fun e G2 H2 σ2 P2 q2 s2 x2 => ct e G2 H2 σ2 P2 q2 s2 (st.g.trans x2))
theorem ws_asg {g : TG} (h : WE A te env fun t e => WG A wAll g t e nx) : WS A (tAsg te g) env nx rt bk ct := fun G H σ P s D n _ _ _ => h G H σ P s _ fun t e v G' H' P' F q r =>
  q G' H' σ P' v F r.sr r.tm _ fun e G2 H2 σ2 P2 q2 s2 x _ _ => n e G2 H2 σ2 P2 q2 s2 (r.st.g.trans x.g)
theorem Tmp.stp (s : SR A G H σ env P) (m : Tmp A G H P t X v) : Stp A.G A.H A.U G H (fun a => uP P a ∨ X a) := ⟨s.base.g, s.base.h, fun a z => by
  rcases z with z | z
  · exact s.base.n a z
  · exact m.bs a z, s.base.m⟩
theorem SR.put (s : SR A G H σ env P) (m : Tmp A G H P t X v) (i : Nat) (hi : i < env.length) (hk : i ∉ A.keep) : SR A G H (σ.set i (some v)) (env.set i (some t)) (fun j a => if j = i then X a else P j a) where
  len := by rw [List.length_set, List.length_set]; exact s.len
  le := s.le
  slot := fun j u e => by
    by_cases ne : j = i
    · subst ne
      rw [List.getElem?_set_self hi] at e
      cases e
      refine ⟨v, by rw [List.getElem?_set_self (by rw [s.len]; exact hi)], ?_⟩
      simpa using m.tr
    · rw [List.getElem?_set_ne (Ne.symm ne)] at e
      obtain ⟨w, hw, tw⟩ := s.slot j u e
      refine ⟨w, by rw [List.getElem?_set_ne (Ne.symm ne)]; exact hw, ?_⟩
      simpa [ne] using tw
  dis := fun j k a h h' => by
    by_cases e : j = i <;> by_cases e' : k = i <;> simp only [e, e', if_true, if_false] at h h'
    · rw [e, e']
    · exact absurd ⟨k, h'⟩ (m.fd a h).1
    · exact absurd ⟨j, h⟩ (m.fd a h').1
    · exact s.dis j k a h h'
  own := fun j a h => by
    by_cases e : j = i <;> simp only [e, if_true, if_false] at h
    · exact (m.fd a h).2
    · exact s.own j a h
  base := (m.stp s).wk (fun _ h => h) fun a ⟨j, h⟩ => by
    by_cases e : j = i <;> simp only [e, if_true, if_false] at h
    · exact .inl (.inr h)
    · exact .inl (.inl ⟨j, h⟩)
  kp := fun j hj => by
    have ne : i ≠ j := fun z => hk (z ▸ hj)
    rw [List.getElem?_set_ne ne]
    exact s.kp j hj
theorem wg_name {W : Nat → Prop} {i : Nat} {Post : Env → Prop} (hi : i < env.length) (hk : A.keep.contains i = false) (h : Post (env.set i (some t))) (hw : W i := by trivial) : WG A W (gName i) t env Post := fun G H σ P v X s m Q k =>
  k _ G H _ _ h (s.put m i hi fun z => by rw [List.contains_iff_mem.mpr z] at hk; cases hk) (Stp.refl.wk (fun _ h => h) fun a ⟨j, z⟩ => by
    by_cases e : j = i <;> simp only [e, if_true, if_false] at z
    · exact .inl (.inr z)
    · exact .inl (.inl ⟨j, z⟩)) (List.length_set ..) fun j hj => List.getElem?_set_ne fun (e : i = j) => hj (e ▸ hw)

/-! ### what a for walks -/
/-- an iterator of n things, the i-th one it i, as long as what is fixed stays -/
def ItR (A : Amb) (G : Hp) (J : It) (n : Nat) (it : Nat → D) : Prop := ∀ G' H σ env P, SR A G' H σ env P → Ex G G' → ∀ i, (n ≤ i → J.stop i H) ∧
  (i < n → J.go i H ∧ ∀ x H', J.yld i H x H' → ∃ G2, SR A G2 H' σ env P ∧ Ex G' G2 ∧ Stp G' H (uP P) G2 H' (uP P) ∧ Rep A.c G2 (it i) x)
def WI (A : Amb) (wi : TI) (env : Env) (Post : Nat → (Nat → D) → Env → Prop) : Prop := ∀ G H σ P, SR A G H σ env P → ∀ R : It → Hp → Prop,
  (∀ n it env' J G' H' P', Post n it env' → SR A G' H' σ env' P' → Stp G H (uP P) G' H' (uP P') → ItR A G' J n it → R J H') → wi σ H R
theorem ws_for {wi : TI} {g : TG} {tb : TS} (h : WI A wi env fun n it e => ∃ Inv : Nat → Env → Prop, Inv 0 e ∧ (∀ i e, i < n → Inv i e → WG A wAll g (.frz none (it i)) e fun e => WS A tb e (Inv (i + 1)) rt nx (Inv (i + 1))) ∧ ∀ e, Inv n e → nx e) :
    WS A (tFor wi g tb) env nx rt bk ct := fun G H σ P s D nx rt bk ct => by
  refine h G H σ P s _ fun n it e1 J G1 H1 P1 q s1 st1 itr => ?_
  obtain ⟨Inv, h0, hs, hd⟩ := q
  let PV : Nat → L2.St → Hp → Prop := fun i σ H => ∃ e G P, Inv i e ∧ SR A G H σ e P ∧ Ex G1 G
  refine ⟨fun i m σ H => m = n - i ∧ i ≤ n ∧ PV i σ H, ⟨n, by simp, Nat.zero_le _, e1, G1, P1, h0, s1, Ex.refl _⟩, ?_⟩
  rintro i m σ2 H2 ⟨rfl, hi, e2, G2, P2, q2, s2, x2⟩
  obtain ⟨stop, go⟩ := itr G2 H2 σ2 e2 P2 s2 x2 i
  by_cases hlt : i < n
  · obtain ⟨g1, yl⟩ := go hlt
    refine .inr ⟨g1, PV (i + 1), fun σ' H' p' => ⟨n - (i + 1), by omega, rfl, hlt, p'⟩, fun x H' y => ?_⟩
    obtain ⟨G3, s3, x3, st3, rp⟩ := yl x H' y
    refine hs i e2 hlt q2 G3 H' σ2 P2 x noF s3 (.flat rp fun _ z => nomatch z) _ fun e4 G4 H4 σ4 P4 q4 s4 x4 _ _ => ?_
    have x04 : Ex G1 G4 := (x2.trans x3).trans x4.g
    exact q4 G4 H4 σ4 P4 s4 _ (fun e5 G5 H5 σ5 P5 q5 s5 x5 => ⟨e5, G5, P5, q5, s5, x04.trans x5⟩) rt (fun e5 G5 H5 σ5 P5 q5 s5 x5 => nx e5 G5 H5 σ5 P5 q5 s5 (st1.g.trans (x04.trans x5)))
      (fun e5 G5 H5 σ5 P5 q5 s5 x5 => ⟨e5, G5, P5, q5, s5, x04.trans x5⟩)
  · have e : i = n := by omega
    subst e
    exact .inl ⟨stop (Nat.le_refl _), nx e2 G2 H2 σ2 P2 (hd e2 q2) s2 (st1.g.trans x2)⟩

/-! ### defs -/
inductive FO where
  | ret (t : T) (ts : Env)
  | exc (c : Nat) (fs : List (Str × T)) (ts : Env)
abbrev FS := List T → (FO → Prop) → Prop
/-- what a def at the level of trees promises, as a promise about the store -/
def spOf (c : Cn) (n : Nat) (S : FS) : Sp := fun vs H Q E => ∃ ts G P Post, ts.length = n ∧ SL c G H (vs.map some) (ts.map some) P ∧ S ts Post ∧
  (∀ t ts' v G' H' P' F, Post (.ret t ts') → SL c G' H' (vs.map some) ts' P' → Stp G H (uP P) G' H' (fun a => uP P' a ∨ F a) → TR c G' H' t F v → (∀ a, F a → ¬ uP P' a ∧ G' a = none ∧ H' a ≠ none) → Q v H') ∧
  ∀ k fs ts', ¬ Post (.exc k fs ts')
theorem spOf_len {c : Cn} {n : Nat} {S : FS} : ∀ vs H Q E, spOf c n S vs H Q E → vs.length = n := fun vs H Q E ⟨ts, G, P, Post, h, s, _⟩ => by
  have := s.len
  simpa [h] using this
def frzO : T → Option T
  | .frz ov d => some (.frz ov d)
  | _ => none
/-- the arguments behind a call: those whose names were never bound anew, and what was fixed -/
def fin (keep : List Nat) : Nat → List T → Env → Env
  | i, t :: ts, e :: es => (if keep.contains i then e else frzO t) :: fin keep (i + 1) ts es
  | i, t :: ts, [] => frzO t :: fin keep (i + 1) ts []
  | _, [], _ => []
theorem fin_length (keep : List Nat) : ∀ (ts : List T) (i : Nat) (env : Env), (fin keep i ts env).length = ts.length
  | [], _, _ => rfl
  | t :: ts, i, e :: es => by show (fin keep (i + 1) ts es).length + 1 = ts.length + 1; rw [fin_length]
  | t :: ts, i, [] => by show (fin keep (i + 1) ts []).length + 1 = ts.length + 1; rw [fin_length]
theorem fin_at (keep : List Nat) : ∀ (ts : List T) (i j : Nat) (env : Env) (t : T), (fin keep i ts env)[j]? = some (some t) → (keep.contains (i + j) = true ∧ env[j]? = some (some t)) ∨ (ts[j]? = some t ∧ ∃ ov d, t = .frz ov d)
  | [], i, j, env, t, h => by simp [fin] at h
  | u :: ts, i, 0, e :: es, t, h => by
    have h' : (if keep.contains i then e else frzO u) = some t := Option.some.inj h
    by_cases c : keep.contains i = true
    · rw [if_pos c] at h'
      subst h'
      exact .inl ⟨c, rfl⟩
    · rw [if_neg c] at h'
      cases u <;> simp [frzO] at h'
      subst h'
      exact .inr ⟨rfl, _, _, rfl⟩
  | u :: ts, i, 0, [], t, h => by
    have h' : frzO u = some t := Option.some.inj h
    cases u <;> simp [frzO] at h'
    subst h'
    exact .inr ⟨rfl, _, _, rfl⟩
  | u :: ts, i, j + 1, e :: es, t, h => by
    have := fin_at keep ts (i + 1) j es t h
    rw [show i + 1 + j = i + (j + 1) by omega] at this
    exact this
  | u :: ts, i, j + 1, [], t, h => by
    have := fin_at keep ts (i + 1) j [] t h
    rcases this with ⟨_, z⟩ | z
    · cases z
    · exact .inr z
def env0 (m : Nat) (ts : List T) : Env := ts.map some ++ List.replicate m none
/-- a def's body keeps its promise -/
theorem fn_body {c : Cn} {N : List Str} {n m : Nat} {S : FS} {t : TS} (keep : List Nat) (hk : ∀ i ∈ keep, i < n) (hm : N.length - n = m)
    (h : ∀ ts Post, S ts Post → ts.length = n → ∀ A : Amb, A.c = c → A.keep = keep → WS A t (env0 m ts)
      (fun e => Post (.ret N_ (fin keep 0 ts e))) (fun t e => Post (.ret t (fin keep 0 ts e))) (fun _ => False) (fun _ => False))
    (vs : List V) (H : Hp) (Q : VK) (E : XK) (hs : spOf c n S vs H Q E) : t { nx := fun _ H' => Q .non H', rt := Q } (L2.start N vs) H := by
  have hl := spOf_len vs H Q E hs
  obtain ⟨ts, G, P, Post, hn, s, hS, hQ, _⟩ := hs
  let A : Amb := ⟨c, G, H, uP P, L2.start N vs, keep⟩
  have P0 : ∀ i a, P i a → True := fun _ _ _ => trivial
  have lt : ∀ {i : Nat} {t : T}, (env0 m ts)[i]? = some (some t) → (ts.map some)[i]? = some (some t) := fun {i t} e => by
    unfold env0 at e
    by_cases hi : i < (ts.map some).length
    · rw [List.getElem?_append_left hi] at e; exact e
    · rw [List.getElem?_append_right (by omega), List.getElem?_replicate] at e
      split at e <;> cases e
  have s0 : SR A G H (L2.start N vs) (env0 m ts) P :=
    { len := by unfold L2.start env0; simp [hl, hn, hm]
      le := s.le
      slot := fun i t e => by
        obtain ⟨v, hv, tr⟩ := s.slot i t (lt e)
        refine ⟨v, ?_, tr⟩
        unfold L2.start
        rw [List.getElem?_append_left (List.getElem?_eq_some_iff.mp hv).1]
        exact hv
      dis := s.dis
      own := s.own
      base := Stp.refl
      kp := fun _ _ => rfl }
  have fo : ∀ t env' v G' H' σ' P' F, Post (.ret t (fin keep 0 ts env')) → SR A G' H' σ' env' P' → Tmp A G' H' P' t F v → Q v H' := fun t env' v G' H' σ' P' F q s' m' => by
    have st := m'.stp s'
    refine hQ t _ v G' H' (fun i a => P' i a ∧ i ∈ keep) F q ⟨by rw [fin_length]; simp [hn, hl], s'.le, fun i u e => ?_, fun i j a h1 h2 => s'.dis i j a h1.1 h2.1, fun i a h1 => s'.own i a h1.1⟩
      (st.wk (fun _ h => h) fun a z => ?_) m'.tr fun a z => ⟨fun ⟨j, y, _⟩ => (m'.fd a z).1 ⟨j, y⟩, (m'.fd a z).2⟩
    · rcases fin_at keep ts 0 i env' u e with ⟨k1, k2⟩ | ⟨k1, ov, d, rfl⟩
      · rw [Nat.zero_add] at k1
        have hi : i ∈ keep := List.contains_iff_mem.mp k1
        obtain ⟨w, hw, tw⟩ := s'.slot i u k2
        rw [s'.kp i hi] at hw
        refine ⟨w, ?_, tw.mono (Ex.refl _) (fun a z => ⟨z, hi⟩) (fun _ _ _ e => e) fun a z => (s'.own i a z).1⟩
        have hw' : (L2.start N vs)[i]? = some (some w) := hw
        unfold L2.start at hw'
        rw [List.getElem?_append_left (by rw [List.length_map, hl]; exact hk i hi)] at hw'
        exact hw'
      · obtain ⟨w, hw, tw⟩ := s.slot i (.frz ov d) (by rw [List.getElem?_map, k1]; rfl)
        exact ⟨w, hw, tw.1.mono st.g, tw.2⟩
    · rcases z with ⟨j, z, _⟩ | z
      · exact .inl (.inl ⟨j, z⟩)
      · exact .inl (.inr z)
  refine h ts Post hS hn A rfl rfl G H (L2.start N vs) P s0 _ (fun e G' H' σ' P' q s' _ => ?_) (fun t e v G' H' σ' P' F q s' m' => fo t e v G' H' σ' P' F q s' m') (fun _ _ _ _ _ z => z.elim) (fun _ _ _ _ _ z => z.elim)
  exact fo N_ e .non G' H' σ' P' noF q s' (.flat rfl fun _ z => nomatch z)

/-- what the arguments are, as trees -/
def argT (env : Env) : List Ar → Option (List T)
  | [] => some []
  | .t t :: r => (argT env r).map (t :: ·)
  | .s i :: r => match env[i]? with
    | some (some t) => (argT env r).map (t :: ·)
    | _ => none
/-- what was handed over by its name, behind the call -/
def backT (env : Env) : List Ar → Env → Env
  | .s i :: r, e :: es => backT (env.set i e) r es
  | .s i :: r, [] => backT (env.set i none) r []
  | .t _ :: r, _ :: es => backT env r es
  | .t _ :: r, [] => backT env r []
  | [], _ => env
def slots : List Ar → List Nat
  | [] => []
  | .t _ :: r => slots r
  | .s i :: r => i :: slots r
end
end TL
/-! TL4: calls. -/
namespace TL
open PySem PySem.Spec PyProof.Rows L2
section
variable {A : Amb} {G H G' H' : Hp} {σ : L2.St} {env : Env} {P P' : Nat → As} {X X' : As} {v x y z : V} {t t1 t2 : T} {vs : List V} {as : List Ar} {ta tb te : TE} {r : R2} {ts : List T}

theorem mem_slots : ∀ {as : List Ar} {k i : Nat}, as[k]? = some (Ar.s i) → i ∈ slots as
  | .t _ :: r, k + 1, i, h => mem_slots (as := r) (k := k) h
  | .s j :: r, 0, i, h => by cases h; exact List.mem_cons_self
  | .s j :: r, k + 1, i, h => List.mem_cons_of_mem _ (mem_slots (as := r) (k := k) h)
/-- the arguments' own cells, one by one -/
theorem args_own {c : Cn} (dis : ∀ i j a, P i a → P j a → i = j) (slot : ∀ i t, env[i]? = some (some t) → ∃ v, σ[i]? = some (some v) ∧ TR c G H t (P i) v) :
    ∀ (as : List Ar) (ts : List T) (X : As) (vs : List V), argT env as = some ts → ArR c G H σ as X vs → (slots as).Nodup → (∀ a, X a → ¬ uP P a) →
    ts.length = vs.length ∧ ∃ Pc : Nat → As, (∀ k t, ts[k]? = some t → ∃ v, vs[k]? = some v ∧ TR c G H t (Pc k) v) ∧ (∀ k j a, Pc k a → Pc j a → k = j) ∧ (∀ k a, Pc k a → X a ∨ ∃ i ∈ slots as, P i a) ∧
      ∀ (k i : Nat), as[k]? = some (Ar.s i) → ∃ v, vs[k]? = some v ∧ σ[i]? = some (some v)
  | [], ts, X, vs, h, r, _, _ => by
    cases h; cases r
    refine ⟨rfl, fun _ _ => False, fun k t e => ?_, fun _ _ _ z => z.elim, fun _ _ z => z.elim, fun k i e => ?_⟩
    · cases e
    · cases e
  | .t t :: r, ts, X, vs, h, ⟨v, r', F1, F2, e, h2, h3, h4, h5⟩, nd, fd => by
    have h' : (argT env r).map (t :: ·) = some ts := h
    cases q : argT env r with
    | none => rw [q] at h'; cases h'
    | some us =>
      rw [q] at h'
      cases h'
      subst e
      obtain ⟨l, Pc, i1, i2, i3, i4⟩ := args_own dis slot r us F2 r' q h5 nd fun a z => fd a (h3 a z).1
      have cross : ∀ k a, F1 a → Pc k a → False := fun k a z y => by
        rcases i3 k a y with w | ⟨i, _, w⟩
        · exact (h3 a w).2 z
        · exact fd a (h2 a z) ⟨i, w⟩
      refine ⟨by simp [l], fun k => match k with | 0 => F1 | k + 1 => Pc k, fun k u e => ?_, fun k j a z y => ?_, fun k a z => ?_, fun k i e => ?_⟩
      · cases k with
        | zero => cases e; exact ⟨v, rfl, h4⟩
        | succ k => exact i1 k u e
      · cases k with
        | zero => cases j with
          | zero => rfl
          | succ j => exact (cross j a z y).elim
        | succ k => cases j with
          | zero => exact (cross k a y z).elim
          | succ j => rw [i2 k j a z y]
      · cases k with
        | zero => exact .inl (h2 a z)
        | succ k =>
          rcases i3 k a z with w | w
          · exact .inl (h3 a w).1
          · exact .inr w
      · cases k with
        | zero => cases e
        | succ k => exact i4 k i e
  | .s i :: r, ts, X, vs, h, ⟨v, r', e, h2, h3⟩, nd, fd => by
    subst e
    have h' : (match env[i]? with
      | some (some t) => (argT env r).map (t :: ·)
      | _ => none) = some ts := h
    cases q0 : env[i]? with
    | none => rw [q0] at h'; cases h'
    | some o => cases o with
      | none => rw [q0] at h'; cases h'
      | some t =>
        rw [q0] at h'
        cases q : argT env r with
        | none => rw [q] at h'; cases h'
        | some us =>
          rw [q] at h'
          cases h'
          obtain ⟨ni, nd'⟩ := List.nodup_cons.mp nd
          obtain ⟨l, Pc, i1, i2, i3, i4⟩ := args_own dis slot r us X r' q h3 nd' fd
          have cross : ∀ k a, P i a → Pc k a → False := fun k a z y => by
            rcases i3 k a y with w | ⟨j, hj, w⟩
            · exact fd a w ⟨i, z⟩
            · exact ni (dis _ _ a z w ▸ hj)
          obtain ⟨w, hw, tw⟩ := slot i t q0
          rw [h2] at hw
          cases hw
          refine ⟨by simp [l], fun k => match k with | 0 => P i | k + 1 => Pc k, fun k u e => ?_, fun k j a z y => ?_, fun k a z => ?_, fun k j e => ?_⟩
          · cases k with
            | zero => cases e; exact ⟨v, rfl, tw⟩
            | succ k => exact i1 k u e
          · cases k with
            | zero => cases j with
              | zero => rfl
              | succ j => exact (cross j a z y).elim
            | succ k => cases j with
              | zero => exact (cross k a y z).elim
              | succ j => rw [i2 k j a z y]
          · cases k with
            | zero => exact .inr ⟨i, List.mem_cons_self, z⟩
            | succ k =>
              rcases i3 k a z with w | ⟨j, hj, w⟩
              · exact .inl w
              · exact .inr ⟨j, List.mem_cons_of_mem _ hj, w⟩
          · cases k with
            | zero => cases e; exact ⟨v, rfl, h2⟩
            | succ k => exact i4 k j e
theorem backT_len : ∀ (as : List Ar) (env es : Env), (backT env as es).length = env.length
  | [], _, _ => by unfold backT; rfl
  | .t _ :: r, env, [] => by unfold backT; exact backT_len r _ _
  | .t _ :: r, env, _ :: _ => by unfold backT; exact backT_len r _ _
  | .s i :: r, env, [] => by unfold backT; rw [backT_len r, List.length_set]
  | .s i :: r, env, _ :: _ => by unfold backT; rw [backT_len r, List.length_set]
/-- what a name holds behind a call -/
theorem backT_at : ∀ (as : List Ar) (env es : Env) (j : Nat) (t : T), (slots as).Nodup → (backT env as es)[j]? = some (some t) →
    (∃ k : Nat, as[k]? = some (Ar.s j) ∧ es[k]? = some (some t)) ∨ ((∀ k : Nat, as[k]? ≠ some (Ar.s j)) ∧ env[j]? = some (some t))
  | [], env, es, j, t, _, h => by
    unfold backT at h
    refine .inr ⟨fun k z => ?_, h⟩
    cases z
  | .t u :: r, env, es, j, t, nd, h => by
    have h' : (backT env r es.tail)[j]? = some (some t) := by
      cases es <;> (unfold backT at h; exact h)
    rcases backT_at r env es.tail j t nd h' with ⟨k, h1, h2⟩ | ⟨h1, h2⟩
    · refine .inl ⟨k + 1, h1, ?_⟩
      cases es with
      | nil => simp at h2
      | cons e es => exact h2
    · refine .inr ⟨fun k z => ?_, h2⟩
      cases k with
      | zero => cases z
      | succ k => exact h1 k z
  | .s i :: r, env, es, j, t, nd, h => by
    obtain ⟨ni, nd'⟩ := List.nodup_cons.mp nd
    have h' : (backT (env.set i (es[0]?.join)) r es.tail)[j]? = some (some t) := by
      cases es with
      | nil => unfold backT at h; exact h
      | cons e es => unfold backT at h; exact h
    rcases backT_at r _ es.tail j t nd' h' with ⟨k, h1, h2⟩ | ⟨h1, h2⟩
    · refine .inl ⟨k + 1, h1, ?_⟩
      cases es with
      | nil => simp at h2
      | cons e es => exact h2
    · by_cases e : i = j
      · subst e
        refine .inl ⟨0, rfl, ?_⟩
        rw [List.getElem?_set] at h2
        simp only [if_true] at h2
        split at h2
        · have h3 := Option.some.inj h2
          cases es with
          | nil => cases h3
          | cons e es =>
            have : e = some t := h3
            rw [this]; rfl
        · cases h2
      · rw [List.getElem?_set_ne e] at h2
        refine .inr ⟨fun k z => ?_, h2⟩
        cases k with
        | zero => cases z; exact e rfl
        | succ k => exact h1 k z

theorem call_core {ts : List T} (s : SR A G H σ env P) (m : TmpA A G H σ P as X vs) (ha : argT env as = some ts) (nd : (slots as).Nodup) :
    ts.length = vs.length ∧ ∃ Pc : Nat → As, SL A.c G H (vs.map some) (ts.map some) Pc ∧ ∀ ts' v t G2 H2 Pc' F3, SL A.c G2 H2 (vs.map some) ts' Pc' → Stp G H (uP Pc) G2 H2 (fun a => uP Pc' a ∨ F3 a) → TR A.c G2 H2 t F3 v →
      (∀ a, F3 a → (∀ k i : Nat, as[k]? = some (Ar.s i) → ¬ Pc' k a) ∧ G2 a = none ∧ H2 a ≠ none) → ∃ P2, Res A G H (fun a => uP P a ∨ X a) σ t (backT env as ts') v G2 H2 P2 F3 := by
  obtain ⟨hl, Pc, a1, a2, a3, a4⟩ := args_own (c := A.c) s.dis s.slot as ts X vs ha m.tr nd fun a z => (m.fd a z).1
  have pc : ∀ a, uP Pc a → uP P a ∨ X a := fun a ⟨k, z⟩ => by
    rcases a3 k a z with w | ⟨i, _, w⟩
    · exact .inr w
    · exact .inl ⟨i, w⟩
  have pcown : ∀ a, uP Pc a → G a = none ∧ H a ≠ none := fun a z => by
    rcases pc a z with ⟨i, w⟩ | w
    · exact s.own i a w
    · exact (m.fd a w).2
  refine ⟨hl, Pc, ⟨by simp [hl], s.le, fun k t e => ?_, a2, fun k a z => pcown a ⟨k, z⟩⟩, fun ts' v t G2 H2 Pc' F3 s2 st tr fd3 => ?_⟩
  · rw [List.getElem?_map] at e
    cases q : ts[k]? with
    | none => rw [q] at e; cases e
    | some u =>
      rw [q] at e
      have e' : u = t := Option.some.inj (Option.some.inj e)
      subst e'
      obtain ⟨w, hw, tw⟩ := a1 k u q
      exact ⟨w, by rw [List.getElem?_map, hw]; rfl, tw⟩
  -- cells of names that were not handed over
  have stay : ∀ j a, (∀ k : Nat, as[k]? ≠ some (Ar.s j)) → P j a → ¬ uP Pc a := fun j a nj z ⟨k, y⟩ => by
    rcases a3 k a y with w | ⟨i, hi, w⟩
    · exact (m.fd a w).1 ⟨j, z⟩
    · have e := s.dis _ _ a z w
      subst e
      exact nj_of hi nj
  have stayG : ∀ j a, (∀ k : Nat, as[k]? ≠ some (Ar.s j)) → P j a → G2 a = none ∧ H2 a ≠ none ∧ ∀ o, H a = some o → H2 a = some o := fun j a nj z => by
    have n1 := stay j a nj z
    have o1 := s.own j a z
    refine ⟨?_, ?_, fun o e => st.h a o e n1⟩
    · cases q : G2 a with
      | none => rfl
      | some o =>
        rcases st.m a (by rw [q]; exact fun z => nomatch z) with w | w | w
        · exact absurd o1.1 w
        · exact absurd w n1
        · exact absurd w o1.2
    · cases q : H a with
      | none => exact absurd q o1.2
      | some o => rw [st.h a o q n1]; exact fun z => nomatch z
  let P2 : Nat → As := fun j a => (∃ k : Nat, as[k]? = some (Ar.s j) ∧ Pc' k a) ∨ ((∀ k : Nat, as[k]? ≠ some (Ar.s j)) ∧ P j a)
  have old : ∀ j a, (∀ k : Nat, as[k]? ≠ some (Ar.s j)) → P j a → ¬ (uP Pc' a ∨ F3 a) := fun j a nj z y => by
    rcases st.n a y with w | w
    · exact stay j a nj z w
    · exact (s.own j a z).2 w
  have st2 : Stp G H (fun a => uP P a ∨ X a) G2 H2 (fun a => uP P2 a ∨ F3 a) := st.wk pc fun a z => by
    rcases z with ⟨j, ⟨k, _, y⟩ | ⟨_, y⟩⟩ | z
    · exact .inl (.inl ⟨k, y⟩)
    · exact .inr (.inl (.inl ⟨j, y⟩))
    · exact .inl (.inr z)
  have stb : Stp A.G A.H A.U G2 H2 (fun a => uP P2 a ∨ F3 a) := by
    have b : Stp A.G A.H A.U G H (fun a => uP P a ∨ X a) := ⟨s.base.g, s.base.h, fun a z => by
      rcases z with z | z
      · exact s.base.n a z
      · exact m.bs a z, s.base.m⟩
    exact b.trans st2
  refine ⟨P2, ⟨⟨⟨by rw [backT_len]; exact s.len, s2.le, fun j u e => ?_, fun i j a h1 h2 => ?_, fun j a h1 => ?_⟩, stb.wk (fun _ h => h) fun a z => .inl (.inl z), s.kp⟩, st2, tr, fun a z => ⟨fun y => ?_, (fd3 a z).2⟩, fun a z => stb.n a (.inr z)⟩⟩
  · rcases backT_at as env ts' j u nd e with ⟨k, k1, k2⟩ | ⟨k1, k2⟩
    · obtain ⟨w, hw, tw⟩ := s2.slot k u k2
      obtain ⟨w2, hw2, hs⟩ := a4 k j k1
      rw [List.getElem?_map, hw2] at hw
      have ew : w2 = w := Option.some.inj (Option.some.inj hw)
      subst ew
      exact ⟨_, hs, tw.mono (Ex.refl _) (fun a z => .inl ⟨k, k1, z⟩) (fun _ _ _ e => e) fun a z => (s2.own k a z).1⟩
    · obtain ⟨w, hw, tw⟩ := s.slot j u k2
      exact ⟨w, hw, tw.mono st.g (fun a z => .inr ⟨k1, z⟩) (fun a o z => (stayG j a k1 z).2.2 o) fun a z => (stayG j a k1 z).1⟩
  · rcases h1 with ⟨k, k1, k2⟩ | ⟨k1, k2⟩ <;> rcases h2 with ⟨l, l1, l2⟩ | ⟨l1, l2⟩
    · have e := s2.dis _ _ a k2 l2
      subst e
      rw [k1] at l1
      cases l1
      rfl
    · exact absurd (.inl ⟨k, k2⟩) (old j a l1 l2)
    · exact absurd (.inl ⟨l, l2⟩) (old i a k1 k2)
    · exact s.dis _ _ a k2 l2
  · rcases h1 with ⟨k, _, k2⟩ | ⟨k1, k2⟩
    · exact s2.own k a k2
    · exact ⟨(stayG j a k1 k2).1, (stayG j a k1 k2).2.1⟩
  · obtain ⟨j, ⟨k, k1, k2⟩ | ⟨k1, k2⟩⟩ := y
    · exact (fd3 a z).1 k j k1 k2
    · exact old j a k1 k2 (.inr z)
where nj_of : ∀ {as : List Ar} {j : Nat}, j ∈ slots as → (∀ k : Nat, as[k]? ≠ some (Ar.s j)) → False
  | .t _ :: r, j, h, n => nj_of (as := r) h fun k => n (k + 1)
  | .s i :: r, j, h, n => by
    rcases List.mem_cons.mp h with e | e
    · subst e
      exact n 0 rfl
    · exact nj_of (as := r) e fun k => n (k + 1)

/-- f(..) -/
theorem we_call {n : Nat} {Sf : FS} {E : XK} {tr : TA} {Post : T → Env → Prop} (h : WA A tr env fun as e => ∃ ts, argT e as = some ts ∧ ts.length = n ∧ (slots as).Nodup ∧ Sf ts fun o => ∃ t ts', o = .ret t ts' ∧ Post t (backT e as ts')) :
    WE A (tCall (spOf A.c n Sf) [] E tr) env Post := fun G H σ P s Q k => by
  refine h G H σ P s _ fun as e1 vs G1 H1 P1 F1 p1 r1 => ?_
  obtain ⟨ts, ha, hn, nd, hS⟩ := p1
  obtain ⟨hl, Pc, sl, co⟩ := call_core r1.sr r1.tm ha nd
  rw [List.append_nil]
  refine ⟨ts, G1, Pc, _, hn, sl, hS, fun t ts' v G2 H2 P2 F2 hp s2 st tr fd => ?_, fun k fs ts' hp => ?_⟩
  · obtain ⟨t', ts'', e, hp⟩ := hp
    cases e
    obtain ⟨P3, r3⟩ := co ts' v t G2 H2 P2 F2 s2 st tr fun a z => ⟨fun k i _ y => (fd a z).1 ⟨k, y⟩, (fd a z).2⟩
    exact k t _ v G2 H2 P3 F2 hp ⟨r3.sr, r1.st.trans r3.st, r3.tm⟩
  · obtain ⟨t', ts'', e, _⟩ := hp
    cases e
/-- the receiver of a method: an instance of the k-th class, no attribute of its own so called -/
def instT (k : Nat) (m : Str) : T → Prop
  | .frz _ (.ins c fs) => c = k ∧ (fs.map (·.1)).contains m = false
  | .ins c fs => c = k ∧ (fs.map (·.1)).contains m = false
  | _ => False
def instO (env : Env) (k : Nat) (m : Str) : Ar → Prop
  | .t t => instT k m t
  | .s i => match env[i]? with
    | some (some t) => instT k m t
    | _ => False
theorem repF_none {c : Cn} {H : Hp} {m : Str} : ∀ {fs : List (Str × D)} {gs : List (Str × V)}, RepF c H fs gs → (fs.map (·.1)).contains m = false → gs.lookup m = none
  | [], gs, h, _ => by cases h; rfl
  | (f, d) :: fs, gs, ⟨v, r, e, h1, h2⟩, hc => by
    subst e
    have hc' : ((f :: fs.map (·.1)).contains m) = false := hc
    rw [List.contains_cons] at hc'
    have hb : (m == f) = false := by cases q : (m == f); rfl; rw [q] at hc'; cases hc'
    rw [hb] at hc'
    rw [List.lookup_cons, hb]
    exact repF_none h2 hc'
theorem trf_none {c : Cn} {G H : Hp} {m : Str} : ∀ {fs : List (Str × T)} {F : As} {gs : List (Str × V)}, TRf c G H fs F gs → (fs.map (·.1)).contains m = false → gs.lookup m = none
  | [], F, gs, h, _ => by cases h; rfl
  | (f, d) :: fs, F, gs, ⟨v, r, F1, F2, e, _, _, h1, h2⟩, hc => by
    subst e
    have hc' : ((f :: fs.map (·.1)).contains m) = false := hc
    rw [List.contains_cons] at hc'
    have hb : (m == f) = false := by cases q : (m == f); rfl; rw [q] at hc'; cases hc'
    rw [hb] at hc'
    rw [List.lookup_cons, hb]
    exact trf_none h2 hc'
theorem instT_ok {t : T} {k : Nat} {m : Str} {c : Cn} (le : Ex G H) (tr : TR c G H t X v) (h : instT k m t) : ∃ p dx fs, v = .ref p ∧ H p = some (.ins (c.cls k) dx fs) ∧ fs.lookup m = none := by
  cases t with
  | frz ov d => cases d with
    | ins c fs =>
      obtain ⟨rfl, hc⟩ := h
      obtain ⟨⟨p, dx, gs, e1, e2, e3⟩, _⟩ := tr
      exact ⟨p, dx, gs, e1, le _ _ e2, repF_none e3 hc⟩
    | _ => exact h.elim
  | ins c fs =>
    obtain ⟨rfl, hc⟩ := h
    obtain ⟨p, dx, gs, F2, e1, _, _, e2, _, e3⟩ := tr
    exact ⟨p, dx, gs, e1, e2, trf_none e3 hc⟩
  | _ => exact h.elim
theorem instO_ok {a : Ar} {k : Nat} {m : Str} (s : SR A G H σ env P) (tm : TmpA A G H σ P [a] X [v]) (h : instO env k m a) : ∃ p dx fs, v = .ref p ∧ H p = some (.ins (A.c.cls k) dx fs) ∧ fs.lookup m = none := by
  cases a with
  | t t =>
    obtain ⟨F1, _, m1⟩ := tm.one
    exact instT_ok s.le m1.tr h
  | s i =>
    obtain ⟨w, r', e, hw, _⟩ := tm.tr
    cases e
    have h : (match env[i]? with
      | some (some t) => instT k m t
      | _ => False) := h
    cases q : env[i]? with
    | none => rw [q] at h; exact h.elim
    | some o => cases o with
      | none => rw [q] at h; exact h.elim
      | some t =>
        rw [q] at h
        obtain ⟨w, hw2, tr⟩ := s.slot i _ q
        rw [hw] at hw2
        cases hw2
        exact instT_ok s.le tr h
/-- o.m(..) -/
theorem we_meth {n k : Nat} {m : Str} {Sf : FS} {E : XK} {to : TE} {tr : TA} {Post : T → Env → Prop} (h : WO A to env fun a e => instO e k m a ∧ WA A tr e fun as e => ∃ ts, argT e (a :: as) = some ts ∧ ts.length = n ∧ (slots (a :: as)).Nodup ∧ Sf ts fun o => ∃ t ts', o = .ret t ts' ∧ Post t (backT e (a :: as) ts')) :
    WE A (tMeth (A.c.cls k) m (spOf A.c n Sf) [] E to tr) env Post := fun G H σ P s Q kq => by
  refine h G H σ P s _ fun a e0 v0 G0 H0 P0 F0 p0 r0 => ?_
  obtain ⟨hi, p0⟩ := p0
  obtain ⟨p, dx, fs, ev, hp, hl⟩ := instO_ok r0.sr r0.tm hi
  refine ⟨p, dx, fs, ev, hp, hl, ?_⟩
  refine p0 G0 H0 σ P0 r0.sr _ fun as e1 vs G1 H1 P1 F1 p1 r1 => ?_
  obtain ⟨ts, ha, hn, nd, hS⟩ := p1
  obtain ⟨_, Pc, sl, co⟩ := call_core r1.sr ((r0.tm.carry r1.st).app r1.tm (beside r1.st r0.tm.fd).2.2) ha nd
  rw [List.append_nil]
  refine ⟨ts, G1, Pc, _, hn, sl, hS, fun t ts' v G2 H2 P2 F2 hp s2 st tr fd => ?_, fun k fs ts' hp => ?_⟩
  · obtain ⟨t', ts'', e, hp⟩ := hp
    cases e
    obtain ⟨P3, r3⟩ := co ts' v t G2 H2 P2 F2 s2 st tr fun a z => ⟨fun k i _ y => (fd a z).1 ⟨k, y⟩, (fd a z).2⟩
    exact kq t _ v G2 H2 P3 F2 hp ⟨r3.sr, (r0.st.seq r1.st).trans r3.st, r3.tm⟩
  · obtain ⟨t', ts'', e, _⟩ := hp
    cases e
theorem not_t0 {t : T} {as : List Ar} {i : Nat} (h : (Ar.t t :: as)[0]? = some (Ar.s i)) : False := by cases h
/-- C(..) -/
theorem we_make {n k : Nat} {Sf : FS} {E : XK} {tr : TA} {Post : T → Env → Prop} (h : WA A tr env fun as e => ∃ ts, argT e as = some ts ∧ ts.length + 1 = n ∧ (slots as).Nodup ∧ Sf (.ins k [] :: ts) fun o => ∃ t ts', o = .ret N_ (some t :: ts') ∧ Post t (backT e as ts')) :
    WE A (tMake (A.c.cls k) (spOf A.c n Sf) [] E tr) env Post := fun G H σ P s Q kq => by
  refine h G H σ P s _ fun as e1 vs G1 H1 P1 F1 p1 r1 => ?_
  obtain ⟨ts, ha, hn, nd, hS⟩ := p1
  intro x dx hx hdx nx
  let H2 : Hp := upd (upd H1 dx (.own x)) x (.ins (A.c.cls k) dx [])
  have e12 : Ex H1 H2 := fun a o e => by
    show upd (upd H1 dx (.own x)) x (.ins (A.c.cls k) dx []) a = some o
    rw [upd_ne (ne_of_none e hx), upd_ne (ne_of_none e hdx)]
    exact e
  have gx : G1 x = none := by
    cases q : G1 x with
    | none => rfl
    | some o => rw [r1.sr.le _ _ q] at hx; cases hx
  have st1 : Stp G1 H1 (uP P1) G1 H2 (fun a => uP P1 a ∨ a = x) := ⟨Ex.refl _, fun a o e _ => e12 a o e, fun a z => by
    rcases z with z | z
    · exact .inl z
    · exact .inr (z ▸ hx), fun a z => .inl z⟩
  have s2 : SR A G1 H2 σ e1 P1 := ⟨⟨r1.sr.len, r1.sr.le.trans e12, fun i t e => by
    obtain ⟨w, hw, tw⟩ := r1.sr.slot i t e
    exact ⟨w, hw, tw.mono (Ex.refl _) (fun _ h => h) (fun a o _ e => e12 a o e) fun a z => (r1.sr.own i a z).1⟩, r1.sr.dis, fun i a z => ⟨(r1.sr.own i a z).1, fun q => by
      cases q2 : H1 a with
      | none => exact (r1.sr.own i a z).2 q2
      | some o => rw [e12 a o q2] at q; cases q⟩⟩, r1.sr.base.trans (st1.wk (fun _ h => h) fun a z => .inl (.inl z)), r1.sr.kp⟩
  have bx : A.U x ∨ A.H x = none := by
    by_cases u : A.U x
    · exact .inl u
    · right
      cases q : A.H x with
      | none => rfl
      | some o => rw [r1.sr.base.h x o q u] at hx; cases hx
  have m0 : TmpA A G1 H2 σ P1 [.t (.ins k [])] (fun a => a = x) [.ref x] := (⟨⟨x, dx, [], noF, rfl, rfl, gx, upd_same, fun _ z => z.elim, rfl⟩, fun a z => by
    subst z
    refine ⟨fun ⟨i, y⟩ => (r1.sr.own i a y).2 hx, gx, ?_⟩
    show upd (upd H1 dx (.own a)) a (.ins (A.c.cls k) dx []) a ≠ none
    rw [upd_same]
    exact Option.some_ne_none _, fun a z => by subst z; exact bx⟩ : Tmp A G1 H2 P1 (.ins k []) (fun a => a = x) (.ref x)).one
  have m1 : TmpA A G1 H2 σ P1 as F1 vs := r1.tm.carry st1
  have m2 := m0.app m1 fun a z y => by
    subst y
    exact (r1.tm.fd a z).2.2 hx
  have ha2 : argT e1 (.t (.ins k []) :: as) = some (.ins k [] :: ts) := by
    show (argT e1 as).map _ = _
    rw [ha]; rfl
  obtain ⟨_, Pc, sl, co⟩ := call_core s2 m2 ha2 nd
  rw [List.append_nil]
  refine ⟨.ins k [] :: ts, G1, Pc, _, by simpa using hn, sl, hS, fun t ts' v G3 H3 P3 F3 hp s3 st tr fd => ?_, fun k fs ts' hp => ?_⟩
  · obtain ⟨t', ts'', e, hp⟩ := hp
    cases e
    obtain ⟨w, hw, tw⟩ := s3.slot 0 t' rfl
    cases hw
    obtain ⟨P4, r4⟩ := co _ (.ref x) t' G3 H3 P3 (P3 0) s3 (st.wk (fun _ h => h) fun a z => by
      rcases z with z | z
      · exact .inl (.inl z)
      · exact .inl (.inl ⟨0, z⟩)) tw fun a z => ⟨fun j i e y => not_t0 (s3.dis _ _ a z y ▸ e), s3.own 0 a z⟩
    refine ⟨tr.1, kq t' _ (.ref x) G3 H3 P4 (P3 0) hp ⟨r4.sr, (r1.st.trans (st1.frame F1 |>.wk (V := fun a => uP P1 a ∨ F1 a) (V1 := fun a => uP P1 a ∨ (a = x ∨ F1 a)) (fun _ h => h) fun a z => ?_)).trans r4.st, r4.tm⟩⟩
    rcases z with z | z | z
    · exact .inl (.inl (.inl z))
    · exact .inl (.inl (.inr z))
    · exact .inl (.inr z)
  · obtain ⟨t', ts'', e, _⟩ := hp
    cases e
end
end TL
/-! TL5: operations, lists. -/
namespace TL
open PySem PySem.Spec PyProof.Rows L2
section
variable {A : Amb} {G H G' H' : Hp} {σ : L2.St} {env : Env} {P P' : Nat → As} {X X' : As} {v x y z : V} {t t1 t2 : T} {vs : List V} {as : List Ar} {ta tb te : TE} {r : R2} {ts : List T} {a b : Ar} {Post : T → Env → Prop}

/-! ### what is handed on, as data -/
def arD (env : Env) : Ar → Option D
  | .t t => some t.data
  | .s i => match env[i]? with
    | some (some t) => some t.data
    | _ => none
theorem view (s : SR A G H σ env P) (m : TmpA A G H σ P [a] X [v]) {d : D} (h : arD env a = some d) : Rep A.c H d v := by
  cases a with
  | t t =>
    cases h
    obtain ⟨F1, _, m1⟩ := m.one
    exact m1.tr.view s.le
  | s i =>
    obtain ⟨w, r', e, hw, _⟩ := m.tr
    cases e
    have h' : (match env[i]? with
      | some (some t) => some t.data
      | _ => none) = some d := h
    cases q : env[i]? with
    | none => rw [q] at h'; cases h'
    | some o => cases o with
      | none => rw [q] at h'; cases h'
      | some t =>
        rw [q] at h'
        cases h'
        obtain ⟨w, hw2, tr⟩ := s.slot i t q
        rw [hw] at hw2
        cases hw2
        exact tr.view s.le
theorem TmpA.split (m : TmpA A G H σ P (a :: as) X vs) : ∃ v ws F1 F2, vs = v :: ws ∧ (∀ a, F1 a → X a) ∧ (∀ a, F2 a → X a) ∧ TmpA A G H σ P [a] F1 [v] ∧ TmpA A G H σ P as F2 ws := by
  cases a with
  | t t =>
    obtain ⟨v, ws, F1, F2, e, h1, h2, tr, r⟩ := m.tr
    exact ⟨v, ws, F1, F2, e, h1, fun a z => (h2 a z).1, ⟨⟨v, [], F1, noF, rfl, fun _ h => h, fun _ z => z.elim, tr, rfl⟩, fun a z => m.fd a (h1 a z), fun a z => m.bs a (h1 a z)⟩, ⟨r, fun a z => m.fd a (h2 a z).1, fun a z => m.bs a (h2 a z).1⟩⟩
  | s i =>
    obtain ⟨v, ws, e, h1, r⟩ := m.tr
    exact ⟨v, ws, noF, X, e, fun _ z => z.elim, fun _ z => z, ⟨⟨v, [], rfl, h1, rfl⟩, fun _ z => z.elim, fun _ z => z.elim⟩, ⟨r, m.fd, m.bs⟩⟩
theorem TmpA.split2 (m : TmpA A G H σ P [a, b] X [x, y]) : ∃ F1 F2, (∀ a, F1 a → X a) ∧ (∀ a, F2 a → X a) ∧ TmpA A G H σ P [a] F1 [x] ∧ TmpA A G H σ P [b] F2 [y] := by
  obtain ⟨v, ws, F1, F2, e, h1, h2, m1, m2⟩ := m.split
  cases e
  exact ⟨F1, F2, h1, h2, m1, m2⟩
theorem views (s : SR A G H σ env P) : ∀ {as : List Ar} {X : As} {vs : List V} {ds : List D}, TmpA A G H σ P as X vs → as.map (arD env) = ds.map some → Reps A.c H ds vs
  | [], _, _, [], m, _ => m.tr
  | [], _, _, _ :: _, _, h => by cases h
  | a :: as, _, _, [], _, h => by cases h
  | a :: as, X, vs, d :: ds, m, h => by
    obtain ⟨v, ws, F1, F2, e, h1, h2, m1, m2⟩ := m.split
    have h' : (arD env a :: as.map (arD env)) = (some d :: ds.map some) := h
    injection h' with e1 e2
    exact ⟨v, ws, e, view s m1 e1, views s m2 e2⟩

/-! ### results that are no objects -/
theorem wr_flat {d1 d2 d : D} {v0 : V} (h1 : arD env a = some d1) (h2 : arD env b = some d2) (hv : ∀ G, Rep A.c G d v0) (hr : ∀ H x y, Rep A.c H d1 x → Rep A.c H d2 y → ∀ Q : VK, Q v0 H → r x y H Q) (q : Post (.frz none d) env) : WR A r a b env Post :=
  fun G H σ P x y X s m Q k => by
    obtain ⟨F1, F2, _, _, m1, m2⟩ := m.split2
    exact hr H x y (view s m1 h1) (view s m2 h2) Q (k _ _ v0 G H P noF q (.frz' s (hv _) fun _ z => nomatch z))
theorem wu_flat {r : V → Hp → VK → Prop} {d1 d : D} {v0 : V} (h1 : arD env a = some d1) (hv : ∀ G, Rep A.c G d v0) (hr : ∀ H x, Rep A.c H d1 x → ∀ Q : VK, Q v0 H → r x H Q) (q : Post (.frz none d) env) : WU A r a env Post :=
  fun G H σ P x X s m Q k => hr H x (view s m h1) Q (k _ _ v0 G H P noF q (.frz' s (hv _) fun _ z => nomatch z))
theorem wc_flat {r : List V → Hp → VK → Prop} {ds : List D} {d : D} {v0 : V} (h1 : as.map (arD env) = ds.map some) (hv : ∀ G, Rep A.c G d v0) (hr : ∀ H vs, Reps A.c H ds vs → ∀ Q : VK, Q v0 H → r vs H Q) (q : Post (.frz none d) env) : WC A r as env Post :=
  fun G H σ P vs X s m Q k => hr H vs (views s m h1) Q (k _ _ v0 G H P noF q (.frz' s (hv _) fun _ z => nomatch z))

/-! ### new objects -/
theorem Stp.new {p : Addr} {o : HO} {U : As} (h : H p = none) : Stp G H U G (upd H p o) (fun a => U a ∨ a = p) := ⟨Ex.refl _, fun a u e _ => by
  rw [upd_ne (ne_of_none e h)]; exact e, fun a z => by
    rcases z with z | z
    · exact .inl z
    · subst z; exact .inr h, fun _ z => .inl z⟩
theorem ex_new {p : Addr} {o : HO} (h : H p = none) : Ex H (upd H p o) := fun a u e => by
  rw [upd_ne (ne_of_none e h)]; exact e
theorem SR.beside_new (s : SR A G H σ env P) {p : Addr} {o : HO} (h : H p = none) : SR A G (upd H p o) σ env P := ⟨⟨s.len, s.le.trans (ex_new h), fun i t e => by
    obtain ⟨w, hw, tw⟩ := s.slot i t e
    exact ⟨w, hw, tw.mono (Ex.refl _) (fun _ h => h) (fun a u _ e => ex_new h a u e) fun a z => (s.own i a z).1⟩, s.dis, fun i a z => ⟨(s.own i a z).1, fun q => by
      cases q2 : H a with
      | none => exact (s.own i a z).2 q2
      | some u => rw [ex_new h a u q2] at q; cases q⟩⟩, s.base.trans ((Stp.new h).wk (fun _ h => h) fun a z => .inl (.inl z)), s.kp⟩
theorem SR.gnone (s : SR A G H σ env P) {p : Addr} (h : H p = none) : G p = none := by
  cases q : G p with
  | none => rfl
  | some o => rw [s.le _ _ q] at h; cases h
theorem SR.bnew (s : SR A G H σ env P) {p : Addr} (h : H p = none) : A.U p ∨ A.H p = none := by
  by_cases u : A.U p
  · exact .inl u
  · right
    cases q : A.H p with
    | none => rfl
    | some o => rw [s.base.h p o q u] at h; cases h
theorem trs_frz {c : Cn} {X : As} : ∀ {ds : List D} {vs : List V}, Reps c G ds vs → TRs c G H (ds.map (T.frz none)) X vs
  | [], _, h => h
  | d :: ds, vs, ⟨v, r, e, h1, h2⟩ => ⟨v, r, noF, noF, e, fun _ z => z.elim, fun _ z => z.elim, ⟨h1, fun _ z => nomatch z⟩, trs_frz h2⟩
/-- a new list of things that are one's own -/
theorem alloc_lst (s : SR A G H σ env P) (tr : TRs A.c G H ts X vs) (fd : ∀ a, X a → ¬ uP P a ∧ G a = none ∧ H a ≠ none) (bs : ∀ a, X a → A.U a ∨ A.H a = none) {p : Addr} (hp : H p = none) :
    Res A G H (fun a => uP P a ∨ X a) σ (.lst ts) env (.ref p) G (upd H p (.lst vs)) P (fun a => X a ∨ a = p) where
  sr := s.beside_new hp
  st := (Stp.new hp).wk (fun _ h => h) fun a z => by
    rcases z with z | z | z
    · exact .inl (.inl (.inl z))
    · exact .inl (.inl (.inr z))
    · exact .inl (.inr z)
  tm := ⟨⟨p, vs, X, rfl, .inr rfl, s.gnone hp, upd_same, fun a z => ⟨.inl z, fun e => by subst e; exact (fd a z).2.2 hp⟩, tr.mono (Ex.refl _) (fun _ z => z) (fun a o _ e => ex_new hp a o e) fun a z => (fd a z).2.1⟩, fun a z => by
    rcases z with z | z
    · exact ⟨(fd a z).1, (fd a z).2.1, fun q => by
        cases q2 : H a with
        | none => exact (fd a z).2.2 q2
        | some u => rw [ex_new hp a u q2] at q; cases q⟩
    · subst z
      exact ⟨fun ⟨i, y⟩ => (s.own i a y).2 hp, s.gnone hp, by rw [upd_same]; exact Option.some_ne_none _⟩, fun a z => by
    rcases z with z | z
    · exact bs a z
    · subst z; exact s.bnew hp⟩
/-- a new list of things that are fixed -/
theorem alloc_frzs (s : SR A G H σ env P) {ds : List D} (rp : Reps A.c G ds vs) {U0 : As} (h0 : ∀ a, uP P a → U0 a) {p : Addr} (hp : H p = none) :
    Res A G H U0 σ (.lst (ds.map (T.frz none))) env (.ref p) G (upd H p (.lst vs)) P (fun a => noF a ∨ a = p) := by
  have r := alloc_lst s (trs_frz (H := H) (X := noF) rp) (fun _ z => z.elim) (fun _ z => z.elim) hp
  exact ⟨r.sr, r.st.wk (fun a z => by rcases z with z | z; exact h0 a z; exact z.elim) fun a z => .inl z, r.tm⟩
theorem ex_upd {p : Addr} {o : HO} (hp : G p = none) : Ex G (upd G p o) := ex_new hp
/-- a new object that is fixed at once -/
theorem SR.fixed_new (s : SR A G H σ env P) {p : Addr} {o : HO} (hp : H p = none) : SR A (upd G p o) (upd H p o) σ env P := by
  have gp := s.gnone hp
  have ne : ∀ i a, P i a → a ≠ p := fun i a z e => by subst e; exact (s.own i a z).2 hp
  refine ⟨⟨s.len, fun a u e => ?_, fun i t e => ?_, s.dis, fun i a z => ⟨by rw [upd_ne (ne i a z)]; exact (s.own i a z).1, by rw [upd_ne (ne i a z)]; exact (s.own i a z).2⟩⟩, ?_, s.kp⟩
  · by_cases e' : a = p
    · subst e'; rw [upd_same] at e ⊢; exact e
    · rw [upd_ne e'] at e ⊢; exact s.le _ _ e
  · obtain ⟨w, hw, tw⟩ := s.slot i t e
    exact ⟨w, hw, tw.mono (ex_upd gp) (fun _ h => h) (fun a u z e => by rw [upd_ne (ne i a z)]; exact e) fun a z => by rw [upd_ne (ne i a z)]; exact (s.own i a z).1⟩
  · refine s.base.trans ⟨ex_upd gp, fun a u e _ => ex_new hp a u e, fun a z => .inl z, fun a z => ?_⟩
    by_cases e : a = p
    · subst e; exact .inr (.inr hp)
    · rw [upd_ne e] at z; exact .inl z
theorem Stp.fixed_new (s : SR A G H σ env P) {p : Addr} {o : HO} (hp : H p = none) {U : As} : Stp G H U (upd G p o) (upd H p o) U := ⟨ex_upd (s.gnone hp), fun a u e _ => ex_new hp a u e, fun a z => .inl z, fun a z => by
  by_cases e : a = p
  · subst e; exact .inr (.inr hp)
  · rw [upd_ne e] at z; exact .inl z⟩
theorem alloc_tup (s : SR A G H σ env P) {ds : List D} (rp : Reps A.c G ds vs) {U0 : As} (h0 : ∀ a, uP P a → U0 a) {p : Addr} (hp : H p = none) :
    Res A G H U0 σ (.frz none (.tup ds)) env (.ref p) (upd G p (.tup vs)) (upd H p (.tup vs)) P noF :=
  ⟨s.fixed_new hp, (Stp.fixed_new s hp (U := uP P)).wk h0 fun a z => by rcases z with z | z; exact .inl z; exact z.elim, .flat ⟨p, vs, rfl, upd_same, rp.mono (ex_upd (s.gnone hp))⟩ fun _ z => nomatch z⟩

/-- values made on the way, none handed on by name -/
def tmps : List Ar → Option (List T)
  | [] => some []
  | .t t :: r => (tmps r).map (t :: ·)
  | .s _ :: _ => none
theorem tmps_tr {c : Cn} : ∀ {as : List Ar} {ts : List T} {X : As} {vs : List V}, tmps as = some ts → ArR c G H σ as X vs → TRs c G H ts X vs
  | [], ts, _, _, h, r => by cases h; exact r
  | .t t :: as, ts, X, vs, h, ⟨v, ws, F1, F2, e, h1, h2, tr, r⟩ => by
    have h' : (tmps as).map (t :: ·) = some ts := h
    cases q : tmps as with
    | none => rw [q] at h'; cases h'
    | some us =>
      rw [q] at h'
      cases h'
      exact ⟨v, ws, F1, F2, e, h1, h2, tr, tmps_tr q r⟩
  | .s i :: as, ts, _, _, h, _ => by cases h
theorem ArR.len {c : Cn} : ∀ {as : List Ar} {X : As} {vs : List V}, ArR c G H σ as X vs → vs.length = as.length
  | [], _, _, h => by cases h; rfl
  | .t t :: as, X, vs, ⟨v, ws, F1, F2, e, h1, h2, tr, r⟩ => by subst e; simp [ArR.len r]
  | .s i :: as, X, vs, ⟨v, ws, e, h1, r⟩ => by subst e; simp [ArR.len r]
/-- [a, b, ..] -/
theorem we_lst {tr : TA} (h : WA A tr env fun as e => ∃ ts, tmps as = some ts ∧ as.length ≤ 1000 ∧ Post (.lst ts) e) : WE A (tLst tr) env Post := fun G H σ P s Q k => by
  refine h G H σ P s _ fun as e vs G1 H1 P1 F1 p1 r1 => ?_
  obtain ⟨ts, ht, hl, hp⟩ := p1
  refine ⟨by rw [r1.tm.tr.len, sizeLine_eq]; omega, fun p hn => ?_⟩
  have r2 := alloc_lst r1.sr (tmps_tr ht r1.tm.tr) r1.tm.fd r1.tm.bs hn
  exact k _ _ _ _ _ _ _ hp ⟨r2.sr, r1.st.trans r2.st, r2.tm⟩
def frzs : List T → Option (List D)
  | [] => some []
  | .frz _ d :: r => (frzs r).map (d :: ·)
  | _ :: _ => none
theorem frzs_rp {c : Cn} : ∀ {ts : List T} {ds : List D} {X : As} {vs : List V}, frzs ts = some ds → TRs c G H ts X vs → Reps c G ds vs
  | [], ds, _, _, h, r => by cases h; exact r
  | .frz ov d :: ts, ds, X, vs, h, ⟨v, ws, F1, F2, e, h1, h2, tr, r⟩ => by
    have h' : (frzs ts).map (d :: ·) = some ds := h
    cases q : frzs ts with
    | none => rw [q] at h'; cases h'
    | some us =>
      rw [q] at h'
      cases h'
      exact ⟨v, ws, e, tr.1, frzs_rp q r⟩
  | .lst _ :: _, _, _, _, h, _ => by cases h
  | .tup _ :: _, _, _, _, h, _ => by cases h
  | .dik _ :: _, _, _, _, h, _ => by cases h
  | .dit _ :: _, _, _, _, h, _ => by cases h
  | .ins _ _ :: _, _, _, _, h, _ => by cases h
/-- (a, b, ..), what stands in it is fixed -/
theorem we_tup {tr : TA} (h : WA A tr env fun as e => ∃ ts, tmps as = some ts ∧ as.length ≤ 1000 ∧ Post (.frz none (.tup (T.datas ts))) e) : WE A (tTup tr) env Post := fun G H σ P s Q k => by
  refine h G H σ P s _ fun as e vs G1 H1 P1 F1 p1 r1 => ?_
  obtain ⟨ts, ht, hl, hp⟩ := p1
  refine ⟨by rw [r1.tm.tr.len, sizeLine_eq]; omega, fun p hn => ?_⟩
  -- what stands in it is fixed first
  have e1 : Ex G1 (frzH G1 H1 F1) := frzH_ex r1.sr.le
  have rp : Reps A.c (frzH G1 H1 F1) (T.datas ts) vs := (tmps_tr ht r1.tm.tr).freeze e1 fun a o f e => by rw [frzH_in f]; exact e
  have st : Stp G1 H1 (fun a => uP P1 a ∨ F1 a) (frzH G1 H1 F1) H1 (uP P1) := ⟨e1, fun _ _ e _ => e, fun a z => .inl (.inl z), fun a z => by
    by_cases f : F1 a
    · exact .inr (.inl (.inr f))
    · rw [frzH_out f] at z; exact .inl z⟩
  have out : ∀ i a, P1 i a → frzH G1 H1 F1 a = none := fun i a z => by
    rw [frzH_out fun f => (r1.tm.fd a f).1 ⟨i, z⟩]
    exact (r1.sr.own i a z).1
  have stb : Stp A.G A.H A.U G1 H1 (fun a => uP P1 a ∨ F1 a) := ⟨r1.sr.base.g, r1.sr.base.h, fun a z => by
    rcases z with z | z
    · exact r1.sr.base.n a z
    · exact r1.tm.bs a z, r1.sr.base.m⟩
  have s2 : SR A (frzH G1 H1 F1) H1 σ e P1 := ⟨⟨r1.sr.len, frzH_le r1.sr.le, fun i t e => by
    obtain ⟨w, hw, tw⟩ := r1.sr.slot i t e
    exact ⟨w, hw, tw.mono e1 (fun _ h => h) (fun _ _ _ e => e) fun a z => out i a z⟩, r1.sr.dis, fun i a z => ⟨out i a z, (r1.sr.own i a z).2⟩⟩, stb.trans st, r1.sr.kp⟩
  have r2 := alloc_tup s2 rp (fun _ z => z) hn
  exact k _ _ _ _ _ _ _ hp ⟨r2.sr, (r1.st.trans st).trans r2.st, r2.tm⟩

/-! ### an item -/
theorem reps_at {c : Cn} : ∀ {ds : List D} {vs : List V} {j : Nat} {d : D}, Reps c H ds vs → ds[j]? = some d → ∃ v, vs[j]? = some v ∧ Rep c H d v
  | d :: ds, vs, 0, _, ⟨v, r, e, h1, h2⟩, h => by cases h; subst e; exact ⟨v, rfl, h1⟩
  | d :: ds, vs, j + 1, _, ⟨v, r, e, h1, h2⟩, h => by subst e; exact reps_at (j := j) h2 h
theorem reps_len {c : Cn} : ∀ {ds : List D} {vs : List V}, Reps c H ds vs → vs.length = ds.length
  | [], _, h => by cases h; rfl
  | d :: ds, vs, ⟨v, r, e, h1, h2⟩ => by subst e; simp [reps_len h2]
theorem trs_len {c : Cn} : ∀ {ts : List T} {X : As} {vs : List V}, TRs c G H ts X vs → vs.length = ts.length
  | [], _, _, h => by cases h; rfl
  | d :: ds, X, vs, ⟨v, r, F1, F2, e, _, _, h1, h2⟩ => by subst e; simp [trs_len h2]
theorem trs_at {c : Cn} : ∀ {ts : List T} {X : As} {vs : List V} {j : Nat} {t : T}, TRs c G H ts X vs → ts[j]? = some t → ∃ v F1, vs[j]? = some v ∧ (∀ a, F1 a → X a) ∧ TR c G H t F1 v
  | d :: ds, X, vs, 0, _, ⟨v, r, F1, F2, e, h1, h2, h3, h4⟩, h => by cases h; subst e; exact ⟨v, F1, rfl, h1, h3⟩
  | d :: ds, X, vs, j + 1, _, ⟨v, r, F1, F2, e, h1, h2, h3, h4⟩, h => by
    subst e
    obtain ⟨w, F3, q1, q2, q3⟩ := trs_at (j := j) h4 h
    exact ⟨w, F3, q1, fun a z => (h2 a (q2 a z)).1, q3⟩
theorem atI_eq {α β : Type} {xs : List α} {ys : List β} {i : Int} {x : α} (h : atI xs i = some x) (e : ys.length = xs.length) : ∃ j : Nat, xs[j]? = some x ∧ atI ys i = ys[j]? := by
  unfold atI at h ⊢
  rw [e]
  cases q : ixN xs.length i with
  | none => rw [q] at h; cases h
  | some j => rw [q] at h; exact ⟨j, h, rfl⟩
/-- an item of a list, a tuple, a text -/
def rIxA (K : PySem.W.Frag) : R2 := fun x y H Q => (rIxL K x y H Q ∨ rIxT K x y H Q) ∨ rIxS x y H Q
theorem ixA {X : Cx} : IxR X (rIxA X.K) := IxR.or (IxR.or ix_list ix_tup) ix_str
theorem wr_ix_frz {ov o2 : Option V} {ds : List D} {i : Int} {d : D} (h : atI ds i = some d) (q : Post (.frz none d) env) : WR A (rIxA A.c.K) (.t (.frz ov (.lst ds))) (.t (.frz o2 (.int i))) env Post := fun G H σ P x y X s m Q k => by
  obtain ⟨F1, F2, _, _, m1, m2⟩ := m.split2
  obtain ⟨_, _, n1⟩ := m1.one
  obtain ⟨_, _, n2⟩ := m2.one
  obtain ⟨⟨p, ws, e1, e2, e3⟩, _⟩ := n1.tr
  obtain ⟨e4, _⟩ := n2.tr
  obtain ⟨j, hj, ej⟩ := atI_eq (ys := ws) h (reps_len e3)
  obtain ⟨w, hw, rw_⟩ := reps_at e3 hj
  exact .inl (.inl ⟨p, ws, i, w, e1, e4, SqL.of (s.le _ _ e2), by rw [ej, hw], k _ _ w G H P noF q (.frz' s rw_ fun _ z => nomatch z)⟩)
theorem wr_ix_tup {ov o2 : Option V} {ds : List D} {i : Int} {d : D} (h : atI ds i = some d) (q : Post (.frz none d) env) : WR A (rIxA A.c.K) (.t (.frz ov (.tup ds))) (.t (.frz o2 (.int i))) env Post := fun G H σ P x y X s m Q k => by
  obtain ⟨F1, F2, _, _, m1, m2⟩ := m.split2
  obtain ⟨_, _, n1⟩ := m1.one
  obtain ⟨_, _, n2⟩ := m2.one
  obtain ⟨⟨p, ws, e1, e2, e3⟩, _⟩ := n1.tr
  obtain ⟨e4, _⟩ := n2.tr
  obtain ⟨j, hj, ej⟩ := atI_eq (ys := ws) h (reps_len e3)
  obtain ⟨w, hw, rw_⟩ := reps_at e3 hj
  exact .inl (.inr ⟨p, ws, i, w, e1, e4, SqT.of (s.le _ _ e2), by rw [ej, hw], k _ _ w G H P noF q (.frz' s rw_ fun _ z => nomatch z)⟩)
theorem wr_ix_str {ov o2 : Option V} {w : Str} {i : Int} {c : Nat} (hl : w.length ≤ 1000000) (h : atI w.cps.toList i = some c) (q : Post (S ⟨#[c]⟩) env) : WR A (rIxA A.c.K) (.t (.frz ov (.str w))) (.t (.frz o2 (.int i))) env Post :=
  wr_flat (d := .str ⟨#[c]⟩) rfl rfl (fun _ => rfl) (fun H x y e1 e2 Q q => .inr ⟨w, i, c, e1, e2, by rw [sizeLine_eq]; omega, h, q⟩) q
theorem wr_ix_scr {ov o2 : Option V} {ns : List Int} {i : Int} {n : Int} (h : atI ns i = some n) (q : Post (I n) env) : WR A (rIxA A.c.K) (.t (.frz ov (.scr ns))) (.t (.frz o2 (.int i))) env Post :=
  wr_flat (d := .int n) rfl rfl (fun _ => rfl) (fun H x y e1 e2 Q q => by
    obtain ⟨p, e, hs⟩ := e1
    obtain ⟨j, hj, ej⟩ := atI_eq (ys := ns.map V.int) h (by simp)
    exact .inl (.inl ⟨p, _, i, .int n, e, e2, hs, by rw [ej, List.getElem?_map, hj]; rfl, q⟩)) q
/-- an item of a list made on the way: the rest is let go -/
theorem wr_ix_tmp {o2 : Option V} {ts : List T} {i : Int} {t : T} (h : atI ts i = some t) (q : Post t env) : WR A (rIxA A.c.K) (.t (.lst ts)) (.t (.frz o2 (.int i))) env Post := fun G H σ P x y X s m Q k => by
  obtain ⟨F1, F2, h1, _, m1, m2⟩ := m.split2
  obtain ⟨F3, h3, n1⟩ := m1.one
  obtain ⟨_, _, n2⟩ := m2.one
  obtain ⟨p, ws, F4, e1, _, _, e2, h4, e3⟩ := n1.tr
  obtain ⟨e4, _⟩ := n2.tr
  obtain ⟨j, hj, ej⟩ := atI_eq (ys := ws) h (trs_len e3)
  obtain ⟨w, F5, hw, h5, tw⟩ := trs_at e3 hj
  have sub : ∀ a, F5 a → F3 a := fun a z => (h4 a (h5 a z)).1
  exact .inl (.inl ⟨p, ws, i, w, e1, e4, SqL.of e2, by rw [ej, hw], k _ _ w G H P F5 q (.same s ⟨tw, fun a z => n1.fd a (sub a z), fun a z => n1.bs a (sub a z)⟩ (fun _ z => .inl z) fun a z => .inl (.inr (h1 a (h3 a (sub a z)))))⟩)
/-- an item, itself fixed, of one's own list that a name holds -/
theorem wr_ix_slot {n : Nat} {o2 ov : Option V} {ts : List T} {i : Int} {d : D} (he : env[n]? = some (some (.lst ts))) (h : atI ts i = some (.frz ov d)) (q : Post (.frz ov d) env) : WR A (rIxA A.c.K) (.s n) (.t (.frz o2 (.int i))) env Post := fun G H σ P x y X s m Q k => by
  obtain ⟨F1, F2, h1, _, m1, m2⟩ := m.split2
  obtain ⟨_, _, n2⟩ := m2.one
  obtain ⟨w, r', e, hw, _⟩ := m1.tr
  cases e
  obtain ⟨w, hw2, p, ws, F4, e1, _, _, e2, h4, e3⟩ := s.slot n _ he
  rw [hw] at hw2
  cases hw2
  obtain ⟨e4, _⟩ := n2.tr
  obtain ⟨j, hj, ej⟩ := atI_eq (ys := ws) h (trs_len e3)
  obtain ⟨u, F5, hu, h5, tu⟩ := trs_at e3 hj
  exact .inl (.inl ⟨p, ws, i, u, e1, e4, SqL.of e2, by rw [ej, hu], k _ _ u G H P noF q (.frz' s tu.1 tu.2)⟩)

/-! ### arithmetic -/
theorem wr_I0 {g : Int → Int → Int} {o1 o2 : Option V} {i j : Int} (q : Post (I (g i j)) env) : WR A (rI0 fun i j => .int (g i j)) (.t (.frz o1 (.int i))) (.t (.frz o2 (.int j))) env Post :=
  wr_flat (d := .int (g i j)) rfl rfl (fun _ => rfl) (fun H x y e1 e2 Q q => ⟨i, j, e1, e2, q⟩) q
theorem wr_Ib {g : Int → Int → Bool} {o1 o2 : Option V} {i j : Int} (q : Post (B (g i j)) env) : WR A (rI0 fun i j => .bl (g i j)) (.t (.frz o1 (.int i))) (.t (.frz o2 (.int j))) env Post :=
  wr_flat (d := .bl (g i j)) rfl rfl (fun _ => rfl) (fun H x y e1 e2 Q q => ⟨i, j, e1, e2, q⟩) q
theorem wr_I {C : Int → Int → Prop} {g : Int → Int → Int} {o1 o2 : Option V} {i j : Int} (hc : C i j) (q : Post (I (g i j)) env) : WR A (rI C fun i j => .int (g i j)) (.t (.frz o1 (.int i))) (.t (.frz o2 (.int j))) env Post :=
  wr_flat (d := .int (g i j)) rfl rfl (fun _ => rfl) (fun H x y e1 e2 Q q => ⟨i, j, e1, e2, hc, q⟩) q
theorem wu_I {g : Int → Int} {o1 : Option V} {i : Int} (q : Post (I (g i)) env) : WU A (rU fun i => .int (g i)) (.t (.frz o1 (.int i))) env Post :=
  wu_flat (d := .int (g i)) rfl (fun _ => rfl) (fun H x e1 Q q => ⟨i, e1, q⟩) q
/-- a + b of ints, lists, texts, tuples -/
def rAddStr : R2 := fun x y H Q => ∃ i j, x = .str i ∧ y = .str j ∧ i.length + j.length ≤ sizeLine ∧ Q (.str (i ++ j)) H
def rAddA (K : PySem.W.Frag) : R2 := fun x y H Q => ((rI0 (fun i j => .int (i + j)) x y H Q ∨ rCat x y H Q) ∨ rAddStr x y H Q) ∨ rCatT K x y H Q
theorem op_addA {X : Cx} : OpR X (binaryOp .Add) (rAddA X.K) := OpR.or (OpR.or (OpR.or op_add op_cat) op_add_str) op_catT
theorem wr_add_int {o1 o2 : Option V} {i j : Int} (q : Post (I (i + j)) env) : WR A (rAddA A.c.K) (.t (.frz o1 (.int i))) (.t (.frz o2 (.int j))) env Post :=
  wr_flat (d := .int (i + j)) rfl rfl (fun _ => rfl) (fun H x y e1 e2 Q q => .inl (.inl (.inl ⟨i, j, e1, e2, q⟩))) q
theorem wr_add_str {o1 o2 : Option V} {i j : Str} (hl : i.length + j.length ≤ 1000000) (q : Post (S (i ++ j)) env) : WR A (rAddA A.c.K) (.t (.frz o1 (.str i))) (.t (.frz o2 (.str j))) env Post :=
  wr_flat (d := .str (i ++ j)) rfl rfl (fun _ => rfl) (fun H x y e1 e2 Q q => .inl (.inr ⟨i, j, e1, e2, by rw [sizeLine_eq]; omega, q⟩)) q

/-! ### == -/
def D.scal : D → D → Bool
  | .int _, .int _ => true
  | .bl _, .bl _ => true
  | .str _, .str _ => true
  | .non, .non => true
  | _, _ => false
def D.same : D → D → Bool
  | .int i, .int j => decide (i = j)
  | .bl i, .bl j => decide (i = j)
  | .str i, .str j => decide (i = j)
  | .non, .non => true
  | _, _ => false
def rEqA (K : PySem.W.Frag) : R2 := fun x y H Q => rEq x y H Q ∨ rEqD K x y H Q
def rNeA (K : PySem.W.Frag) : R2 := fun x y H Q => rNe x y H Q ∨ rNeD K x y H Q
theorem op_eqA {X : Cx} (hu : X.A.units + 64 < cLine) : OpR X (compareOp .Eq) (rEqA X.K) := OpR.or op_eq (op_eqD hu)
theorem op_neA {X : Cx} (hu : X.A.units + 64 < cLine) : OpR X (compareOp .NotEq) (rNeA X.K) := OpR.or op_ne (op_neD hu)
end
end TL
/-! TG: defs that stand under no repr; repr of data; a law's end. -/
namespace TL
open PySem PySem.Spec PyProof.Rows L2

/-- as FnOk, where no repr is under way -/
structure FnG (P : Program) (w : World) (K : PySem.W.Frag) (mg : Str → Option Value) (base : Heap) (k : Nat) (f : Addr) (fd : FuncData) (ps : List Str) (sp : Sp) : Prop where
  len : ∀ vs H Q E, sp vs H Q E → vs.length = ps.length
  run : ∀ (A : Around), A.guards = some [] → Room k A → ∀ (outer : List PySem.Env) (s : Shared) (H : Hp) (args : Args) (us : List Value) (vs : List V) (Q : VK) (E : XK),
    Env0 P w K mg base A outer s H → BindsTo s fd args (ps.zip us) → Vals vs us → sp vs H Q E → codeAny (model P w) A (.call (.ref f) args) (CR CX0 outer P w H s Q E) s
section
variable {P : Program} {w : World} {K : PySem.W.Frag} {mg : Str → Option Value} {base : Heap} {k j : Nat} {f : Addr} {fd : FuncData} {ps : List Str} {sp : Sp}
theorem FnG.of (F : FnOk P w K mg base CX0 k f fd ps sp) : FnG P w K mg base k f fd ps sp := ⟨F.len, fun A _ hr outer s H args us vs Q E e b r h => F.run A outer s H args us vs Q E hr e b r h⟩
theorem FnG.mono (F : FnG P w K mg base j f fd ps sp) (h : j ≤ k) : FnG P w K mg base k f fd ps sp := ⟨F.len, fun A g hr => F.run A g (hr.mono h)⟩
theorem fng_of {x qual : Str} {params : Arguments} {body : List Stmt} {scope : Scope} {N : List Str} (F : FunD K x qual params body scope [] [] f fd) (S : FnScope N ps scope) (len : ∀ vs H Q E, sp vs H Q E → vs.length = ps.length)
    (hb : ∀ (cdv : Value) (A : Around) (outer : List PySem.Env) (s : Shared) (H : Hp) (vs : List V) (Q : VK) (E : XK), (A.deeper (envOfC qual scope s.heap.objs.size f cdv)).guards = some [] → Room k (A.deeper (envOfC qual scope s.heap.objs.size f cdv)) → sp vs H Q E →
      ∃ t, PSs (cxOf CX0 P w K mg base N qual scope f cdv A outer s H E).nox body t ∧ t { nx := fun _ H' => Q .non H', rt := Q } (L2.start N vs) H) : FnG P w K mg base (k + 1) f fd ps sp := by
  obtain ⟨oc, od, dV, kV, doc, pm, an, cdv, ct, osl, rfl, lk, hcd, _, _⟩ := F.ex
  refine ⟨len, fun A g hr outer s H args us vs Q E e0 bd rv hsp => ?_⟩
  have hl := len _ _ _ _ hsp
  have up : ∀ (b : Addr) (o : Obj), base.get? b = some o → s.heap.get? b = some o := fun b o e => (e0.bs b o e).1
  have KX := e0.mod.kin.keeps up
  have slotOk : ∀ y ∈ ps.zip us, scope.names.lookup y.1 = some .local ∨
      (scope.names.lookup y.1 = some .cell ∧ ((cellsFrom (s.heap.objs.size + 1) scope.names []).lookup y.1).isSome = true) := by
    rintro ⟨n, v⟩ hy
    rcases S.par n (List.of_mem_zip hy).1 with q | q
    · exact Or.inl q
    · exact Or.inr ⟨q, PySem.W.cellsFrom_some _ _ _ (Or.inl q)⟩
  refine codeAny_call_function hr.depth (KX _ _ lk) rfl S.co S.gen rfl (PySem.W.codeRec_of KX hcd) (bd _ _ _ _ ?_)
  refine wpAny_newFunctionEnv_cells S.kind slotOk fun env he s1 x => ?_
  cases he
  refine ⟨(e0.mod.nolimit.keeps up).keeps x.toInCall.keep, codeAny_func ?_⟩
  obtain ⟨t, ht, hq⟩ := hb cdv A outer s H vs Q E g (hr.deeper _) hsp
  have I := inv_start (CX := CX0) (E := E) S hr.hd e0 hl rv x
  refine wpAny_mono (ht.nox.run [] s1 _ H _ I hq) (fun fl s' hs => ?_) fun e s' hs => hs
  cases fl with
  | next =>
    obtain ⟨_, H', J, q⟩ := hs
    exact ⟨V.non, H', J.os, J.bare, J.base, J.hok, rfl, q⟩
  | ret u =>
    obtain ⟨v, _, H', J, r1, q⟩ := hs
    exact ⟨v, H', J.os, J.bare, J.base, J.hok, r1, q⟩
  | brk => exact hs.elim fun _ z => z.elim fun _ z => z.2.elim
  | cont => exact hs.elim fun _ z => z.elim fun _ z => z.2.elim
end
section
variable {X : Cx} {k : Nat} {f : Addr} {fd : FuncData} {ps : List Str} {sp : Sp} {E : XK} {x : Str} {p pos : Pos} {e : Expr} {es : List Expr} {t : TA}
theorem run_fng {pins : List (Addr × Obj)} {σ : L2.St} {H : Hp} {s : Shared} {Q : VK} {us : List Value} {vs : List V} (F : FnG X.prog X.w X.K X.mg X.base k f fd ps sp) (hg : X.A.guards = some []) (hr : Room k X.A) (hb : Binds X.K fd ps [])
    (I : Inv X pins σ H s) (r : Vals vs us) (h : sp vs H Q E) : wpAny (model X.prog X.w) X.A (call (.ref f) us) (EP X pins σ Q) X.xe s := by
  have hl : us.length = ps.length := r.length.symm.trans (F.len _ _ _ _ h)
  have b := hb s us I.kIn (by rw [List.append_nil, hl])
  rw [List.append_nil] at b
  refine wpAny_call (codeAny_mono (F.run X.A hg hr X.stack s H ⟨us, []⟩ us vs Q E I.env0 b r h) ?_)
  intro r s' q
  match r, q with
  | .ok (.ret u), q => exact I.after q
/-- f(e, ..) -/
theorem pe_callG (F : FnG X.prog X.w X.K X.mg X.base k f fd ps sp) (hg : X.A.guards = some []) (hr : Room k X.A) (hgl : Gl X x) (hm : X.mg x = some (.ref f)) (hk : PySem.W.keepIn X.K (.ref f) = true) (hb : Binds X.K fd ps [])
    (ha : PA X (e :: es) t) (hd : (x == ("__debug__" : Str)) = false := by decide) (hs : starEach (e :: es) X.env = (false, eval e X.env) :: starEach es X.env := by rfl)
    (hp : (backTo pos (starEach es X.env)).any (·.1) = false := by rfl) : PE X (.Call (.Name x p) (e :: es) [] pos) (tCall sp [] E t) := ⟨fun pins s σ H Q I h => by
  refine wpAny_Call_Name_kw (ld_glob I hgl hm ?_ hd)
  refine PySem.W.callWith_K (h₀ := X.base) I.ok.mod.kin hk (thn (ha.run pos pins s σ H _ I h) ?_) hs hp
  rintro us s1 ⟨vs, H1, I1, r, q⟩
  rw [List.append_nil] at q
  exact ⟨I1.kIn, run_fng F hg hr hb I1 r q⟩⟩
/-- f() -/
theorem pe_callG0 (F : FnG X.prog X.w X.K X.mg X.base k f fd ps sp) (hg : X.A.guards = some []) (hr : Room k X.A) (hgl : Gl X x) (hm : X.mg x = some (.ref f)) (hk : PySem.W.keepIn X.K (.ref f) = true) (hb : Binds X.K fd ps [])
    (hd : (x == ("__debug__" : Str)) = false := by decide) : PE X (.Call (.Name x p) [] [] pos) (tCall sp [] E tNil) := ⟨fun pins s σ H Q I h => by
  refine wpAny_Call_Name_kw (ld_glob I hgl hm ?_ hd)
  exact PySem.W.callWith_K0 I.kIn hk (run_fng (us := []) (vs := []) F hg hr hb I .nil h)⟩

/-! ### repr -/
/-- repr(x), x data without a dict -/
def rRepr (K : PySem.W.Frag) : List V → Hp → VK → Prop := fun xs H Q => ∃ x d, xs = [x] ∧ Dp K H x d ∧ d.showable = true ∧ d.hasDict = false ∧ d.depth ≤ 100 ∧ d.shown.length ≤ sizeLine ∧ Q (.str d.shown) H
theorem repr_flat {prog : Program} {w : World} {A : Around} {E : Value → Shared → Prop} {s : Shared} {Q : Value → Shared → Prop} {u : Value} {d : PyData} {as : List Addr} (r : Reads s.heap u d as) (hs : d.showable = true) (hsz : d.shown.length ≤ sizeLine) (hr : ∀ a, u ≠ .ref a)
    (h : ∀ tk u, Q (.str d.shown u) { s with toks := tk }) : wpAny (model prog w) A (call (.builtin "repr") [u]) Q E s := by
  cases r with
  | none => exact PySem.P.repr_of_none (h _ _)
  | bool b =>
    have e : (PyData.bool b).shown = (if b then "True" else "False" : Str) := by cases b <;> simp [PyData.shown]
    refine PySem.P.repr_of_bool ?_
    rw [← e]; exact h _ _
  | int i t =>
    have hi : i.natAbs.log2 < 1920 := by
      have := hs
      simp only [PyData.showable] at this
      simpa using this
    have e : (PyData.int i).shown = (toString i : Str) := by simp [PyData.shown]
    refine PySem.P.repr_of_int hi ?_
    rw [← e]; exact h _ _
  | str x t =>
    have e : (PyData.str x).shown = reprText x := by simp [PyData.shown]
    rw [e] at hsz
    refine PySem.P.repr_of_str ?_ hsz
    rw [← e]; exact h _ _
  | list => exact absurd rfl (hr _)
  | tuple => exact absurd rfl (hr _)
  | dict => exact absurd rfl (hr _)
end
end TL
/-! TG2: repr as a call; a law's end. -/
namespace TL
open PySem PySem.Spec PyProof.Rows L2
section
variable {X : Cx}
theorem call_repr (hg : X.A.guards = some []) (hu : X.A.units + 200 < cLine) : CallR X (.builtin "repr") (rRepr X.K) := by
  intro pins s σ H xs us Q I r h
  obtain ⟨x, d, rfl, hd, hs, hn, hdp, hsz, q⟩ := h
  obtain ⟨u, rfl, ru⟩ := vals1 r
  obtain ⟨as, rd⟩ := Dp.reads I d x u hd ru
  cases u with
  | ref a =>
    refine PySem.repr_of_reads' rd hs (fun z => absurd (hn.symm.trans z) Bool.false_ne_true) hg (by omega) (fun _ _ e => e) (fun h' u tk hk => ?_) hsz
    exact ⟨.str d.shown, H, I.kept hk, ⟨u, rfl⟩, q⟩
  | _ => exact repr_flat rd hs hsz (fun _ z => nomatch z) fun tk u => ⟨.str d.shown, H, I.tok tk, ⟨u, rfl⟩, q⟩
end

/-! ### the end of a law's row -/
theorem law_end {P : Program} {w : World} {K : PySem.W.Frag} {mg mb : Str → Option Value} {k : Nat} {fa a : Addr} {fd : FuncData} {x : Str} {sp : Sp} {s1 : Shared} {vs : List Value} {ns : List Int}
    (KX : K.In s1.heap) (hns : s1.heap.Ns mainGlobals mg) (hb : s1.heap.Ns builtinsNs mb) (hbb : ∀ x : Str, x ≠ "__name__" → mb x = bootBuiltins x) (hlim : s1.heap.NoLimit) (hg : s1.gens = #[])
    (ha : s1.heap.get? a = some { cls := .type "list", data := .seq vs.toArray }) (hi : IntsAre vs ns) (hl : ns.length ≤ sizeLine) (hr : Room k callerA)
    (F : ∀ base : Heap, K.In base → base.Ns mainGlobals mg → FnG P w K mg base k fa fd [x] sp) (hbind : ∀ (s : Shared) (u : Value), BindsTo s fd ⟨[u], []⟩ [(x, u)])
    (hsp : ∀ H : Hp, Only H → SqL K H a (ns.map V.int) → sp [.ref a] H (fun v _ => v = .bl true) fun _ _ _ => False) :
    codeAny (model P w) callerA (.call (.ref fa) ⟨[.ref a], []⟩) (fun r s' => r = .ok (.ret (.bool true)) ∧ OldK s1.heap s'.heap ∧ s'.os = s1.os ∧ AllBare s'.gens) s1 := by
  have rv := vals_ints hi
  -- over any tracked part that holds the script at most
  suffices core : ∀ H : Hp, Only H → SqL K H a (ns.map V.int) → HOk P w H s1.heap → (∀ b, H b ≠ none → b = a) → (H a ≠ none → K.lookup a = none) →
      codeAny (model P w) callerA (.call (.ref fa) ⟨[.ref a], []⟩) (fun r s' => r = .ok (.ret (.bool true)) ∧ OldK s1.heap s'.heap ∧ s'.os = s1.os ∧ AllBare s'.gens) s1 by
    cases q : K.lookup a with
    | none =>
      let ob : Obj := { cls := .type "list", data := .seq vs.toArray }
      let H : Hp := fun b => if b = a then some (.frz ob (.lst (ns.map V.int))) else none
      have Ha : H a = some (.frz ob (.lst (ns.map V.int))) := if_pos rfl
      have Hn : ∀ b, b ≠ a → H b = none := fun b e => if_neg e
      refine core H (fun b => ?_) (.inl (.inr ⟨ob, Ha⟩)) (fun b u z => ?_) (fun b z => ?_) fun _ => q
      · by_cases e : b = a
        · subst e; exact .inr ⟨_, _, Ha⟩
        · exact .inl (Hn b e)
      · by_cases e : b = a
        · subst e
          rw [Ha] at z
          cases z
          exact ⟨ha, by rw [List.length_map]; exact hl, vs, _, rv, ha⟩
        · rw [Hn b e] at z; cases z
      · by_cases e : b = a
        · exact e
        · exact absurd (Hn b e) z
    | some o =>
      have e := KX a o q
      rw [ha] at e
      cases e
      exact core (fun _ => none) (fun _ => .inl rfl) (.inr ⟨_, vs.toArray, _, q, rfl, rfl, rfl, by rw [List.size_toArray, hi.length]; exact hl, by simpa using rv⟩) (fun b u z => nomatch z) (fun b z => absurd rfl z) fun z => absurd rfl z
  intro H hO hS hok hA hK
  have isA : ∀ {b : Addr} {u : HO}, H b = some u → b = a := fun {b u} z => hA b (by rw [z]; exact Option.some_ne_none _)
  have free : ∀ {b : Addr} {o : Obj} {es : Array DictEntry} {ep : Nat}, s1.heap.get? b = some o → o.data = .dict es ep → H b = none := fun {b o es ep} e d => by
    cases q : H b with
    | none => rfl
    | some u =>
      have z := isA q
      subst z
      rw [ha] at e
      cases e
      cases d
  have ns' : ∀ {b : Addr} {m : Str → Option Value}, s1.heap.Ns b m → (hidT s1.heap H).Ns b m := fun {b m} ⟨o, es, ep, e, d, r⟩ => ⟨o, es, ep, hidT_get e (free e d), d, r⟩
  have KB : K.In (hidT s1.heap H) := fun b o e => hidT_get (KX b o e) (by
    cases q : H b with
    | none => rfl
    | some u =>
      have z := isA q
      subst z
      rw [hK (by rw [q]; exact Option.some_ne_none _)] at e
      cases e)
  obtain ⟨mc, c1, c2⟩ := hlim
  have e0 : Env0 P w K mg (hidT s1.heap H) callerA [] s1 H :=
    { frames := rfl, mod := ⟨KB, ns' hns, ⟨mb, ns' hb, hbb⟩, mc, ns' c1, c2⟩, bs := fun b o e => of_hidT e, bsz := Nat.le_of_eq (hidT_size _ _), funs := trivial,
      frf := fun b hb => absurd (show b ∈ ([] : List Addr) from hb) List.not_mem_nil, hok := hok, bare := .of_eq hg }
  refine codeAny_mono ((F _ KB (ns' hns)).run callerA rfl hr [] s1 H ⟨[.ref a], []⟩ [.ref a] [.ref a] _ _ e0 (hbind s1 (.ref a)) (.cons rfl .nil) (hsp H hO hS)) ?_
  intro r s' h
  match r, h with
  | .ok (.ret u), ⟨v, H', os, bare, un, hok', rl, q⟩ =>
    have q' : v = .bl true := q
    subst q'
    have eu : u = Value.bool true := rl
    subst eu
    refine ⟨rfl, OldK.of_keep fun b o e => ?_, os, bare⟩
    cases q : H b with
    | none => exact un.keep b o e q (fun z => absurd (show b ∈ ([] : List Addr) from z) List.not_mem_nil) (by simp)
    | some u =>
      rcases hO b with z | ⟨ob, xs, z⟩
      · rw [q] at z; cases z
      · obtain ⟨e1, _⟩ := hok b _ z
        obtain ⟨e2, _⟩ := hok' b _ (un.frzs b ob _ z)
        rw [e] at e1
        cases e1
        exact e2
/-- a law over a head by facts; the script's items have at most a million bits -/
theorem walk_end {l : PySem.W.OpenLaw} {n k : Nat} {q : Program} {loose : List Str} {XP : (Str → Option Value) → Heap → Prop} {YP : World → Heap → Prop} {d : DefRec} {x : Str}
    (hn : l.most = some n) (hn2 : n ≤ sizeLine) (hdf : d.params.defaults = []) (hr : Room k callerA)
    (F : ∀ (w : World) (mg : Str → Option Value) (fa : Addr) (h : Heap), YP w h → h.Ns mainGlobals mg → mg d.name = some (.ref fa) →
      ∃ (K : PySem.W.Frag) (fd : FuncData) (sp : Sp), K.In h ∧ (∀ (s : Shared) (u : Value), BindsTo s fd ⟨[u], []⟩ [(x, u)]) ∧
        (∀ (H : Hp) (a : Addr) (ns : List Int), ns.length ≤ n → (∀ z ∈ ns, Builtin.Int.intBits z ≤ 1048576) → SqL K H a (ns.map V.int) → sp [.ref a] H (fun v _ => v = .bl true) fun _ _ _ => False) ∧
        ∀ base : Heap, K.In base → base.Ns mainGlobals mg → FnG l.prog w K mg base k fa fd [x] sp) :
    PySem.W.WalkO q loose XP YP l.row.toRowW d [] (fun f vs => PySem.call f vs) := by
  refine Att.attach_callB hn hdf ?_
  intro w s0 s1 mg mb fa o pm cd doc a vs ns G Y ho hd hcd hmg hobj hints hlen hbits hg
  obtain ⟨K, fd, sp, KX, hb, hsp, hF⟩ := F w mg fa _ Y G.T.g hmg
  exact law_end KX G.T.g G.T.b G.T.builtins G.T.nolimit hg hobj hints (Nat.le_trans hlen hn2) hr hF hb fun H _ hS => hsp H a ns hlen hbits hS
end TL
/-! TL6: iterators, comprehensions, stores, methods of lists. -/
namespace TL
open PySem PySem.Spec PyProof.Rows L2
section
variable {A : Amb} {G H G' H' : Hp} {σ : L2.St} {env : Env} {P P' : Nat → As} {X X' : As} {v x y z : V} {t t1 t2 : T} {vs : List V} {as : List Ar} {ta tb te : TE} {r : R2} {ts : List T} {a b : Ar} {Post : T → Env → Prop} {nx bk ct : Env → Prop} {rt : T → Env → Prop}

theorem fixT (s : SR A G H σ env P) (m : Tmp A G H P t X v) : SR A (frzH G H X) H σ env P ∧ Stp G H (fun a => uP P a ∨ X a) (frzH G H X) H (uP P) ∧ Rep A.c (frzH G H X) t.data v := by
  have e1 : Ex G (frzH G H X) := frzH_ex s.le
  have rp : Rep A.c (frzH G H X) t.data v := m.tr.freeze e1 fun a o f e => by rw [frzH_in f]; exact e
  have st : Stp G H (fun a => uP P a ∨ X a) (frzH G H X) H (uP P) := ⟨e1, fun _ _ e _ => e, fun a z => .inl (.inl z), fun a z => by
    by_cases f : X a
    · exact .inr (.inl (.inr f))
    · rw [frzH_out f] at z; exact .inl z⟩
  have out : ∀ i a, P i a → frzH G H X a = none := fun i a z => by
    rw [frzH_out fun f => (m.fd a f).1 ⟨i, z⟩]
    exact (s.own i a z).1
  exact ⟨⟨⟨s.len, frzH_le s.le, fun i t e => by
    obtain ⟨w, hw, tw⟩ := s.slot i t e
    exact ⟨w, hw, tw.mono e1 (fun _ h => h) (fun _ _ _ e => e) fun a z => out i a z⟩, s.dis, fun i a z => ⟨out i a z, (s.own i a z).2⟩⟩, (m.stp s).trans st, s.kp⟩, st, rp⟩

/-! ### ranges -/
theorem itr_int (J : It) (n : Nat) (f : Nat → Int) (h1 : ∀ i H, n ≤ i → J.stop i H) (h2 : ∀ i H, i < n → J.go i H) (h3 : ∀ i H x H', J.yld i H x H' → H' = H ∧ x = .int (f i)) : ItR A G J n (fun i => .int (f i)) := fun G' H σ env P s e i =>
  ⟨h1 i H, fun hi => ⟨h2 i H hi, fun x H' y => by
    obtain ⟨e1, e2⟩ := h3 i H x H' y
    subst e1
    exact ⟨G', s, Ex.refl _, Stp.refl, e2⟩⟩⟩
theorem itr_rng {lo : Int} {n : Nat} : ItR A G (Itr lo n) n (fun i => .int (lo + i)) := itr_int _ _ _ (fun _ _ h => h) (fun _ _ h => h) fun _ _ _ _ y => y
theorem itr_c {lo c : Int} {n : Nat} : ItR A G (Itc lo c n) n (fun i => .int (lo + i * c)) := itr_int _ _ _ (fun _ _ h => h) (fun _ _ h => h) fun _ _ _ _ y => y
theorem ArR.one {c : Cn} (h : ArR c G H σ [.t t] X vs) : ∃ v F1, vs = [v] ∧ (∀ a, F1 a → X a) ∧ TR c G H t F1 v := by
  obtain ⟨v, r, F1, F2, e, h1, h2, h3, h4⟩ := h
  cases h4
  exact ⟨v, F1, e, h1, h3⟩
theorem ArR.two {c : Cn} (h : ArR c G H σ [.t t1, .t t2] X vs) : ∃ v w F1 F2, vs = [v, w] ∧ TR c G H t1 F1 v ∧ TR c G H t2 F2 w := by
  obtain ⟨v, r, F1, F2, e, h1, h2, h3, h4⟩ := h
  obtain ⟨w, F3, e2, _, h5⟩ := h4.one
  subst e2
  exact ⟨v, w, F1, F3, e, h3, h5⟩
theorem ResA.drop {env' : Env} (r : ResA A G H (uP P) σ as env' vs G' H' P' X) : Stp G H (uP P) G' H' (uP P') := r.st.wk (fun _ h => h) fun _ z => .inl (.inl z)
theorem wi_rng1 {tr : TA} {Post : Nat → (Nat → D) → Env → Prop} (h : WA A tr env fun as e => ∃ o j, as = [.t (.frz o (.int j))] ∧ -(2 ^ 62) ≤ j ∧ j < 2 ^ 62 ∧ Post j.toNat (fun i => .int (0 + i)) e) : WI A (iRng1 tr) env Post := fun G H σ P s R k => by
  refine h G H σ P s _ fun as e vs G1 H1 P1 F1 p1 r1 => ?_
  obtain ⟨o, j, rfl, h1, h2, hp⟩ := p1
  obtain ⟨v, F2, rfl, _, tr⟩ := r1.tm.tr.one
  exact ⟨j, by rw [show v = .int j from tr.1], h1, h2, k _ _ _ _ _ _ _ hp r1.sr r1.drop itr_rng⟩
theorem wi_rng2 {tr : TA} {Post : Nat → (Nat → D) → Env → Prop} (h : WA A tr env fun as e => ∃ o o2 i j, as = [.t (.frz o (.int i)), .t (.frz o2 (.int j))] ∧ (-(2 ^ 62) ≤ i ∧ i < 2 ^ 62 ∧ -(2 ^ 62) ≤ j ∧ j < 2 ^ 62) ∧ Post (j - i).toNat (fun n => .int (i + n)) e) : WI A (iRng2 tr) env Post := fun G H σ P s R k => by
  refine h G H σ P s _ fun as e vs G1 H1 P1 F1 p1 r1 => ?_
  obtain ⟨o, o2, i, j, rfl, h1, hp⟩ := p1
  obtain ⟨v, w, F2, F3, rfl, tr1, tr2⟩ := r1.tm.tr.two
  exact ⟨i, j, by rw [show v = .int i from tr1.1, show w = .int j from tr2.1], h1, k _ _ _ _ _ _ _ hp r1.sr r1.drop itr_rng⟩
/-- over a list; one made on the way, or a name's own one, is fixed -/
theorem wi_list {tl : TE} {Post : Nat → (Nat → D) → Env → Prop} (h : WE A tl env fun t e => ∃ ds, t.data = .lst ds ∧ Post ds.length (fun i => ds.getD i .non) e) : WI A (iList A.c.K tl) env Post := fun G H σ P s R k => by
  refine h G H σ P s _ fun t e v G1 H1 P1 F1 p1 r1 => ?_
  obtain ⟨ds, hd, hp⟩ := p1
  obtain ⟨s2, st2, rp⟩ := fixT r1.sr r1.tm
  rw [hd] at rp
  obtain ⟨p, ws, rfl, hp2, hr⟩ := rp
  refine ⟨p, rfl, ⟨ws, SqL.of (s2.le _ _ hp2)⟩, k _ _ _ _ _ _ _ hp s2 (r1.st.trans st2) fun G' H' σ' env' P' s' ex i => ?_⟩
  have hq : SqL A.c.K H' p ws := SqL.of (s'.le _ _ (ex _ _ hp2))
  have hl := reps_len hr
  refine ⟨fun hi => ⟨ws, hq, by omega⟩, fun hi => ?_⟩
  obtain ⟨w, hw, rw_⟩ := reps_at hr (j := i) (d := ds.getD i .non) (by rw [List.getD_eq_getElem?_getD, List.getElem?_eq_getElem hi]; rfl)
  refine ⟨⟨ws, w, hq, hw⟩, fun x H2 y => ?_⟩
  obtain ⟨e1, y2⟩ := y
  subst e1
  have e2 := y2 ws hq
  rw [hw] at e2
  cases e2
  exact ⟨G', s', Ex.refl _, Stp.refl, rw_.mono ex⟩
/-- over a tuple -/
theorem wi_tup {tl : TE} {Post : Nat → (Nat → D) → Env → Prop} (h : WE A tl env fun t e => ∃ ds, t.data = .tup ds ∧ Post ds.length (fun i => ds.getD i .non) e) : WI A (iTup A.c.K tl) env Post := fun G H σ P s R k => by
  refine h G H σ P s _ fun t e v G1 H1 P1 F1 p1 r1 => ?_
  obtain ⟨ds, hd, hp⟩ := p1
  obtain ⟨s2, st2, rp⟩ := fixT r1.sr r1.tm
  rw [hd] at rp
  obtain ⟨p, ws, rfl, hp2, hr⟩ := rp
  refine ⟨p, rfl, ⟨ws, SqT.of (s2.le _ _ hp2)⟩, k _ _ _ _ _ _ _ hp s2 (r1.st.trans st2) fun G' H' σ' env' P' s' ex i => ?_⟩
  have hq : SqT A.c.K H' p ws := SqT.of (s'.le _ _ (ex _ _ hp2))
  have hl := reps_len hr
  refine ⟨fun hi => ⟨ws, hq, by omega⟩, fun hi => ?_⟩
  obtain ⟨w, hw, rw_⟩ := reps_at hr (j := i) (d := ds.getD i .non) (by rw [List.getD_eq_getElem?_getD, List.getElem?_eq_getElem hi]; rfl)
  refine ⟨⟨ws, w, hq, hw⟩, fun x H2 y => ?_⟩
  obtain ⟨e1, y2⟩ := y
  subst e1
  have e2 := y2 ws hq
  rw [hw] at e2
  cases e2
  exact ⟨G', s', Ex.refl _, Stp.refl, rw_.mono ex⟩
end
end TL
/-! TL7: comprehensions, targets, stores, methods of lists. -/
namespace TL
open PySem PySem.Spec PyProof.Rows L2
section
variable {A : Amb} {G H G' H' : Hp} {σ : L2.St} {env : Env} {P P' : Nat → As} {X X' X1 : As} {v x y z : V} {t t1 t2 : T} {vs : List V} {as : List Ar} {ta tb te : TE} {r : R2} {ts : List T} {a b : Ar} {Post : T → Env → Prop} {nx bk ct : Env → Prop} {rt : T → Env → Prop}

/-! ### one more item -/
theorem trs_app {c : Cn} : ∀ {ts us : List T} {F1 F2 F : As} {vs ws : List V}, TRs c G H ts F1 vs → TRs c G H us F2 ws → (∀ a, F1 a → F a) → (∀ a, F2 a → F a ∧ ¬ F1 a) → (∀ a, F a → G a = none) → TRs c G H (ts ++ us) F (vs ++ ws)
  | [], us, F1, F2, F, vs, ws, h, hb, _, h2, g => by
    cases h
    exact hb.mono (Ex.refl _) (fun a x => (h2 a x).1) (fun _ _ _ e => e) fun a x => g a (h2 a x).1
  | t :: r, us, F1, F2, F, vs, ws, ⟨v, r', X1, X2, e, h2, h3, h4, h5⟩, hb, k1, k2, g => by
    subst e
    refine ⟨v, r' ++ ws, X1, fun a => X2 a ∨ F2 a, rfl, fun a x => k1 a (h2 a x), fun a x => ?_, h4, trs_app h5 hb (fun a x => .inl x) (fun a x => ⟨.inr x, fun y => (k2 a x).2 (h3 a y).1⟩) fun a x => ?_⟩
    · rcases x with x | x
      · exact ⟨k1 a (h3 a x).1, (h3 a x).2⟩
      · exact ⟨(k2 a x).1, fun y => (k2 a x).2 (h2 a y)⟩
    · rcases x with x | x
      · exact g a (k1 a (h3 a x).1)
      · exact g a (k2 a x).1
/-- a list made on the way grows by things made on the way -/
theorem Tmp.grow {us : List T} {ws ws' : List V} {D : Addr} (m : Tmp A G H P (.lst ts) X (.ref D)) (n : TRs A.c G H us X1 ws) (fd : ∀ a, X1 a → ¬ uP P a ∧ G a = none ∧ H a ≠ none) (bs : ∀ a, X1 a → A.U a ∨ A.H a = none) (d : ∀ a, X1 a → ¬ X a) (hD : H D = some (.lst ws')) :
    Tmp A G (upd H D (.lst (ws' ++ ws))) P (.lst (ts ++ us)) (fun a => X a ∨ X1 a) (.ref D) := by
  obtain ⟨p, vs, F1, e, h1, h2, h3, h4, h5⟩ := m.tr
  cases e
  rw [hD] at h3
  cases h3
  have keep : ∀ a o, a ≠ D → H a = some o → upd H D (.lst (ws' ++ ws)) a = some o := fun a o ne e => by rw [upd_ne ne]; exact e
  have nn : ∀ a, H a ≠ none → upd H D (.lst (ws' ++ ws)) a ≠ none := fun a q => by
    by_cases e : a = D
    · subst e; rw [upd_same]; exact Option.some_ne_none _
    · rw [upd_ne e]; exact q
  have g : ∀ a, X a ∨ X1 a → G a = none := fun a z => by
    rcases z with z | z
    · exact (m.fd a z).2.1
    · exact (fd a z).2.1
  refine ⟨⟨D, _, fun a => F1 a ∨ X1 a, rfl, .inl h1, h2, upd_same, fun a z => ?_, ?_⟩, fun a z => ?_, fun a z => ?_⟩
  · rcases z with z | z
    · exact ⟨.inl (h4 a z).1, (h4 a z).2⟩
    · exact ⟨.inr z, fun e => d a z (by subst e; exact h1)⟩
  · refine trs_app (F1 := F1) (F2 := X1) (h5.mono (Ex.refl _) (fun _ z => z) (fun a o z e => keep a o (h4 a z).2 e) fun a z => g a (.inl (h4 a z).1)) (n.mono (Ex.refl _) (fun _ z => z) (fun a o z e => keep a o (fun q => d a z (by subst q; exact h1)) e) fun a z => g a (.inr z)) (fun a z => .inl z) (fun a z => ⟨.inr z, fun y => d a z (h4 a y).1⟩) fun a z => ?_
    rcases z with z | z
    · exact g a (.inl (h4 a z).1)
    · exact g a (.inr z)
  · rcases z with z | z
    · exact ⟨(m.fd a z).1, (m.fd a z).2.1, nn a (m.fd a z).2.2⟩
    · exact ⟨(fd a z).1, (fd a z).2.1, nn a (fd a z).2.2⟩
  · rcases z with z | z
    · exact m.bs a z
    · exact bs a z
/-- a cell of what was made on the way is written -/
theorem SR.write (s : SR A G H σ env P) {D : Addr} {o : HO} (h1 : ¬ uP P D) (h2 : G D = none) (h3 : H D ≠ none) (h4 : A.U D ∨ A.H D = none) : SR A G (upd H D o) σ env P := by
  have ne : ∀ i a, P i a → a ≠ D := fun i a z e => by subst e; exact h1 ⟨i, z⟩
  refine ⟨⟨s.len, fun a u e => ?_, fun i t e => ?_, s.dis, fun i a z => ⟨(s.own i a z).1, by rw [upd_ne (ne i a z)]; exact (s.own i a z).2⟩⟩, ⟨s.base.g, fun a u e n => ?_, s.base.n, s.base.m⟩, s.kp⟩
  · by_cases q : a = D
    · subst q; rw [h2] at e; cases e
    · rw [upd_ne q]; exact s.le _ _ e
  · obtain ⟨w, hw, tw⟩ := s.slot i t e
    exact ⟨w, hw, tw.mono (Ex.refl _) (fun _ h => h) (fun a u z e => by rw [upd_ne (ne i a z)]; exact e) fun a z => (s.own i a z).1⟩
  · by_cases q : a = D
    · subst q
      rcases h4 with z | z
      · exact absurd z n
      · rw [z] at e; cases e
    · rw [upd_ne q]; exact s.base.h a u e n
theorem Stp.write {D : Addr} {o : HO} {U : As} (h : U D) (h3 : H D ≠ none) : Stp G H U G (upd H D o) U := ⟨Ex.refl _, fun a u e n => by
  rw [upd_ne fun (q : a = D) => n (q ▸ h)]; exact e, fun a z => .inl z, fun a z => .inl z⟩

/-! ### comprehensions -/
/-- the slots of the block's own names forgotten -/
def wipeE (env : Env) : List Nat → Env
  | [] => env
  | v :: vs => (wipeE env vs).set v none
theorem wipeE_len (env : Env) : ∀ vs, (wipeE env vs).length = env.length
  | [] => rfl
  | v :: vs => by unfold wipeE; rw [List.length_set, wipeE_len env vs]
theorem wipeE_some {i : Nat} : ∀ {vs : List Nat}, (wipeE env vs)[i]? = some (some t) → env[i]? = some (some t) ∧ i ∉ vs
  | [], h => ⟨h, List.not_mem_nil⟩
  | v :: vs, h => by
    unfold wipeE at h
    by_cases e : v = i
    · subst e
      rw [List.getElem?_set] at h
      split at h
      · split at h
        · cases h
        · cases h
      · exact absurd rfl ‹_›
    · rw [List.getElem?_set_ne e] at h
      obtain ⟨h1, h2⟩ := wipeE_some (vs := vs) h
      exact ⟨h1, fun z => by
        rcases List.mem_cons.mp z with z | z
        · exact e z.symm
        · exact h2 z⟩
theorem wipe_at {i : Nat} : ∀ {vs : List Nat}, i ∉ vs → (wipe σ vs)[i]? = σ[i]?
  | [], _ => rfl
  | v :: vs, h => by
    unfold wipe
    rw [List.getElem?_set_ne fun (e : v = i) => h (e ▸ List.mem_cons_self)]
    exact wipe_at fun z => h (List.mem_cons_of_mem _ z)
theorem wipe_in {i : Nat} (hi : i < σ.length) : ∀ {vs : List Nat}, i ∈ vs → (wipe σ vs)[i]? = some none
  | v :: vs, h => by
    unfold wipe
    by_cases e : v = i
    · subst e
      rw [List.getElem?_set_self (by rw [wipe_length]; exact hi)]
    · rw [List.getElem?_set_ne e]
      rcases List.mem_cons.mp h with z | z
      · exact absurd z.symm e
      · exact wipe_in hi z
theorem wipe_ext {σ2 : L2.St} {vs : List Nat} (hl : σ2.length = σ.length) (h : ∀ j, ¬ j ∈ vs → σ2[j]? = (wipe σ vs)[j]?) : wipe σ2 vs = wipe σ vs := by
  refine List.ext_getElem? fun j => ?_
  by_cases hj : j ∈ vs
  · by_cases hi : j < σ.length
    · rw [wipe_in (by rw [hl]; exact hi) hj, wipe_in hi hj]
    · rw [List.getElem?_eq_none (by rw [wipe_length, hl]; omega), List.getElem?_eq_none (by rw [wipe_length]; omega)]
  · rw [wipe_at hj, h j hj]
theorem SR.wiped (s : SR A G H σ env P) (ws : List Nat) (hk : ∀ i ∈ A.keep, i ∉ ws) : SR A G H (wipe σ ws) (wipeE env ws) (fun j a => P j a ∧ j ∉ ws) where
  len := by rw [wipe_length, wipeE_len]; exact s.len
  le := s.le
  slot := fun i t e => by
    obtain ⟨h1, h2⟩ := wipeE_some e
    obtain ⟨w, hw, tw⟩ := s.slot i t h1
    exact ⟨w, by rw [wipe_at h2]; exact hw, tw.mono (Ex.refl _) (fun a z => ⟨z, h2⟩) (fun _ _ _ e => e) fun a z => (s.own i a z).1⟩
  dis := fun i j a h h' => s.dis i j a h.1 h'.1
  own := fun i a h => s.own i a h.1
  base := s.base.wk (fun _ h => h) fun a ⟨j, z⟩ => .inl ⟨j, z.1⟩
  kp := fun i hi => by rw [wipe_at (hk i hi)]; exact s.kp i hi
/-- behind a comprehension a name that it has bound too holds what it held, if that was fixed -/
def restore (e0 : Env) : List Nat → Env → Env
  | [], e => e
  | v :: vs, e => (restore e0 vs e).set v (match e0[v]? with
    | some (some t) => frzO t
    | _ => none)
theorem restore_len (e0 : Env) (e : Env) : ∀ vs, (restore e0 vs e).length = e.length
  | [] => rfl
  | v :: vs => by unfold restore; rw [List.length_set, restore_len e0 e vs]
theorem restore_some {e0 e : Env} {i : Nat} : ∀ {vs : List Nat}, (restore e0 vs e)[i]? = some (some t) → (i ∉ vs ∧ e[i]? = some (some t)) ∨ (∃ ov d, t = .frz ov d ∧ e0[i]? = some (some t))
  | [], h => .inl ⟨List.not_mem_nil, h⟩
  | v :: vs, h => by
    unfold restore at h
    by_cases e' : v = i
    · subst e'
      rw [List.getElem?_set] at h
      simp only [if_true] at h
      split at h
      · have h2 := Option.some.inj h
        split at h2
        · rename_i u hu
          cases u <;> simp [frzO] at h2
          subst h2
          exact .inr ⟨_, _, rfl, hu⟩
        · cases h2
      · cases h
    · rw [List.getElem?_set_ne e'] at h
      rcases restore_some (vs := vs) h with ⟨h1, h2⟩ | h1
      · refine .inl ⟨fun z => ?_, h2⟩
        rcases List.mem_cons.mp z with z | z
        · exact e' z.symm
        · exact h1 z
      · exact .inr h1
theorem we_lc {wi : TI} {g : TG} {tt : TT} {ws : List Nat} (hk : (A.keep.all fun i => !ws.contains i) = true)
    (h : WI A wi env fun n it e0 => n ≤ 100000 ∧ ∃ Inv : Nat → List T → Env → Prop, Inv 0 [] (wipeE e0 ws) ∧
      (∀ i acc e, i < n → acc.length ≤ i → Inv i acc e → WG A (fun j => j ∈ ws) g (.frz none (it i)) e fun e1 => WT A tt e1 fun b e2 => (b = true → WE A te e2 fun t e3 => Inv (i + 1) (acc ++ [t]) (wipeE e3 ws)) ∧ (b = false → Inv (i + 1) acc (wipeE e2 ws))) ∧
      ∀ acc e, acc.length ≤ n → Inv n acc e → Post (.lst acc) (restore e0 ws e)) : WE A (tLc wi g tt te ws) env Post := fun G H σ P s Q k => by
  have hk' : ∀ i ∈ A.keep, i ∉ ws := fun i hi z => by
    have := List.all_eq_true.mp hk i hi
    rw [List.contains_iff_mem.mpr z] at this
    cases this
  refine h G H σ P s _ fun n it e0 J G1 H1 P1 q s1 st1 itr => ?_
  obtain ⟨hn, Inv, h0, hs, hd⟩ := q
  intro D hD
  -- the state between two turns
  let PV : Nat → Hp → Prop := fun i H2 => ∃ acc e G2 P2 X2 accv, Inv i acc e ∧ acc.length ≤ i ∧ SR A G2 H2 (wipe σ ws) e P2 ∧ Tmp A G2 H2 P2 (.lst acc) X2 (.ref D) ∧ Stp G1 H1 (uP P1) G2 H2 (fun a => uP P2 a ∨ X2 a) ∧ H2 D = some (.lst accv) ∧ accv.length = acc.length
  have s1w := s1.wiped ws hk'
  refine ⟨fun i m H2 => m = n - i ∧ i ≤ n ∧ PV i H2, ⟨n, by simp, Nat.zero_le _, ?_⟩, ?_⟩
  · have r := alloc_lst (ts := []) (X := noF) (vs := []) s1w rfl (fun _ z => z.elim) (fun _ z => z.elim) hD
    refine ⟨[], _, G1, _, _, [], h0, Nat.le_refl _, r.sr, r.tm, (r.st.wk (V := uP P1) (fun a z => ?_) fun a z => .inl z), upd_same, rfl⟩
    rcases z with ⟨j, z⟩ | z
    · exact ⟨j, z.1⟩
    · exact z.elim
  · rintro i m H2 ⟨rfl, hi, acc, e2, G2, P2, X2, accv, q2, la, s2, m2, st2, hD2, lv⟩
    have x12 : Ex G1 G2 := st2.g
    obtain ⟨stop, go⟩ := itr G2 H2 (wipe σ ws) e2 P2 s2 x12 i
    by_cases hlt : i < n
    · obtain ⟨g1, yl⟩ := go hlt
      refine .inr ⟨g1, PV (i + 1), fun H' p' => ⟨n - (i + 1), by omega, rfl, hlt, p'⟩, fun x H' y => ?_⟩
      obtain ⟨G3, s3, x3, st3, rp⟩ := yl x H' y
      have m3 := m2.carry (F' := noF) (st3.wk (V1 := fun a => uP P2 a ∨ noF a) (fun _ h => h) fun a z => by
        rcases z with z | z
        · exact .inl z
        · exact z.elim)
      refine hs i acc e2 hlt la q2 G3 H' (wipe σ ws) P2 x noF s3 (.flat rp fun _ z => nomatch z) _ fun e4 G4 H4 σ4 P4 q4 s4 st4 l4 w4 => ?_
      have st4' : Stp G3 H' (uP P2) G4 H4 (uP P4) := ⟨st4.g, fun a o e u => st4.h a o e fun z => by
        rcases z with z | z
        · exact u z
        · exact z.elim, fun a z => by
        rcases st4.n a z with (z | z) | z
        · exact .inl z
        · exact z.elim
        · exact .inr z, fun a z => by
        rcases st4.m a z with z | (z | z) | z
        · exact .inl z
        · exact .inr (.inl z)
        · exact z.elim
        · exact .inr (.inr z)⟩
      have weq : wipe σ4 ws = wipe σ ws := wipe_ext (by rw [l4, wipe_length]) w4
      refine ⟨weq, ?_⟩
      have m4 := m3.carry (F' := noF) (st4'.wk (V1 := fun a => uP P4 a ∨ noF a) (fun _ h => h) fun a z => by
        rcases z with z | z
        · exact .inl z
        · exact z.elim)
      have st24 : Stp G2 H2 (uP P2) G4 H4 (uP P4) := st3.trans st4'
      refine q4 G4 H4 σ4 P4 s4 _ fun b e5 G5 H5 P5 q5 s5 st5 => ?_
      have m5 := m4.carry (F' := noF) (st5.wk (V1 := fun a => uP P5 a ∨ noF a) (fun _ h => h) fun a z => by
        rcases z with z | z
        · exact .inl z
        · exact z.elim)
      have st25 := st24.trans st5
      cases b with
      | false =>
        have s5w := s5.wiped ws hk'
        rw [weq] at s5w
        have hd5 : ∃ accv', H5 D = some (.lst accv') ∧ accv'.length = acc.length := by
          obtain ⟨p, vs, F1, e, _, _, h3, _, h5⟩ := m5.tr
          cases e
          exact ⟨vs, h3, trs_len h5⟩
        obtain ⟨accv', hv1, hv2⟩ := hd5
        refine ⟨acc, _, G5, _, X2, accv', q5.2 rfl, by omega, s5w, ⟨m5.tr, fun a z => ⟨fun ⟨j, y⟩ => (m5.fd a z).1 ⟨j, y.1⟩, (m5.fd a z).2⟩, m5.bs⟩, (st2.trans (st25.frame X2)).wk (fun _ h => h) fun a z => ?_, hv1, hv2⟩
        rcases z with ⟨j, z⟩ | z
        · exact .inl (.inl ⟨j, z.1⟩)
        · exact .inl (.inr z)
      | true =>
        refine q5.1 rfl G5 H5 σ4 P5 s5 _ fun t e6 y G6 H6 P6 F6 q6 r6 => ?_
        have m6 := m5.carry r6.st
        have dis := (beside r6.st m5.fd).2.2
        have hd6 : ∃ accv', H6 D = some (.lst accv') ∧ accv'.length = acc.length ∧ X2 D := by
          obtain ⟨p, vs, F1, e, hp1, _, h3, _, h5⟩ := m6.tr
          cases e
          exact ⟨vs, h3, trs_len h5, hp1⟩
        obtain ⟨accv', hv1, hv2, hX⟩ := hd6
        refine ⟨accv', hv1, by rw [hv2, sizeLine_eq]; omega, ?_⟩
        have one : TRs A.c G6 H6 [t] F6 [y] := ⟨y, [], F6, noF, rfl, fun _ h => h, fun _ z => z.elim, r6.tm.tr, rfl⟩
        have m7 := m6.grow one r6.tm.fd r6.tm.bs dis hv1
        have s7 := (r6.sr.write (o := .lst (accv' ++ [y])) (m6.fd D hX).1 (m6.fd D hX).2.1 (m6.fd D hX).2.2 (m6.bs D hX)).wiped ws hk'
        rw [weq] at s7
        refine ⟨acc ++ [t], _, G6, _, _, _, q6, by rw [List.length_append, List.length_singleton]; omega, s7, ⟨m7.tr, fun a z => ⟨fun ⟨j, y⟩ => (m7.fd a z).1 ⟨j, y.1⟩, (m7.fd a z).2⟩, m7.bs⟩, ?_, upd_same, by rw [List.length_append, List.length_append, hv2]; rfl⟩
        have stA : Stp G1 H1 (uP P1) G6 H6 (fun a => (uP P6 a ∨ F6 a) ∨ X2 a) := (st2.trans (st25.frame X2)).trans (r6.st.frame X2)
        refine (stA.trans (Stp.write (.inr hX) (m6.fd D hX).2.2)).wk (fun _ h => h) fun a z => ?_
        rcases z with ⟨j, z⟩ | z | z
        · exact .inl (.inl (.inl ⟨j, z.1⟩))
        · exact .inl (.inr z)
        · exact .inl (.inl (.inr z))
    · have e : i = n := by omega
      subst e
      refine .inl ⟨stop (Nat.le_refl _), ?_⟩
      -- the names hold again what they held
      have hres : SR A G2 H2 σ (restore e0 ws e2) (fun j a => P2 j a ∧ j ∉ ws) := by
        refine ⟨⟨?_, s2.le, fun j u eu => ?_, fun i j a h h' => s2.dis i j a h.1 h'.1, fun j a h => s2.own j a h.1⟩, s2.base.wk (fun _ h => h) fun a ⟨j, z⟩ => .inl ⟨j, z.1⟩, fun j hj => ?_⟩
        · rw [restore_len, ← s2.len, wipe_length]
        · rcases restore_some eu with ⟨h1, h2⟩ | ⟨ov, d, rfl, h1⟩
          · obtain ⟨w, hw, tw⟩ := s2.slot j u h2
            rw [wipe_at h1] at hw
            exact ⟨w, hw, tw.mono (Ex.refl _) (fun a z => ⟨z, h1⟩) (fun _ _ _ e => e) fun a z => (s2.own j a z).1⟩
          · obtain ⟨w, hw, tw⟩ := s1.slot j _ h1
            exact ⟨w, hw, tw.1.mono x12, tw.2⟩
        · have := s2.kp j hj
          rw [wipe_at (hk' j hj)] at this
          exact this
      refine k (.lst acc) _ (.ref D) G2 H2 _ X2 (hd acc e2 la q2) ⟨hres, (st1.trans st2).wk (fun _ h => h) fun a z => ?_, ⟨m2.tr, fun a z => ⟨fun ⟨j, y⟩ => (m2.fd a z).1 ⟨j, y.1⟩, (m2.fd a z).2⟩, m2.bs⟩⟩
      rcases z with ⟨j, z⟩ | z
      · exact .inl (.inl ⟨j, z.1⟩)
      · exact .inl (.inr z)
end
end TL
/-! TL8: targets, stores, methods of lists, slices. -/
namespace TL
open PySem PySem.Spec PyProof.Rows L2
section
variable {A : Amb} {G H G' H' : Hp} {σ : L2.St} {env : Env} {P P' : Nat → As} {X X' X1 : As} {v x y z : V} {t t1 t2 : T} {vs : List V} {as : List Ar} {ta tb te : TE} {r : R2} {ts : List T} {a b : Ar} {Post : T → Env → Prop} {nx bk ct : Env → Prop} {rt : T → Env → Prop}

/-! ### targets -/
def WGs (A : Amb) (W : Nat → Prop) (g : TGs) (ds : List D) (env : Env) (Post : Env → Prop) : Prop := ∀ G H σ P vs, SR A G H σ env P → Reps A.c G ds vs → ∀ Q : L2.St → Hp → Prop,
  (∀ env' G' H' σ' P', Post env' → SR A G' H' σ' env' P' → Stp G H (uP P) G' H' (uP P') → σ'.length = σ.length → (∀ j, ¬ W j → σ'[j]? = σ[j]?) → Q σ' H') → g vs σ H Q
theorem wgs_nil {W : Nat → Prop} {Post : Env → Prop} (h : Post env) : WGs A W gNil [] env Post := fun G H σ P vs s rp Q k => ⟨rp, k _ G H σ P h s Stp.refl rfl fun _ _ => rfl⟩
theorem noF_stp {U U' : As} (S : Stp G H (fun a => U a ∨ noF a) G' H' U') : Stp G H U G' H' U' := ⟨S.g, fun a o e n => S.h a o e fun z => by
    rcases z with z | z
    · exact n z
    · exact z.elim, fun a z => by
    rcases S.n a z with (z | z) | z
    · exact .inl z
    · exact z.elim
    · exact .inr z, fun a z => by
    rcases S.m a z with z | (z | z) | z
    · exact .inl z
    · exact .inr (.inl z)
    · exact z.elim
    · exact .inr (.inr z)⟩
theorem wgs_cons {W : Nat → Prop} {g : TG} {gs : TGs} {d : D} {ds : List D} {Post : Env → Prop} (h : WG A W g (.frz none d) env fun e => WGs A W gs ds e Post) : WGs A W (gCons g gs) (d :: ds) env Post := fun G H σ P vs s ⟨v, r, e, h1, h2⟩ Q k => by
  refine ⟨v, r, e, h G H σ P v noF s (.flat h1 fun _ z => nomatch z) _ fun e1 G1 H1 σ1 P1 q1 s1 st1 l1 w1 => ?_⟩
  refine q1 G1 H1 σ1 P1 r s1 (h2.mono st1.g) Q fun e2 G2 H2 σ2 P2 q2 s2 st2 l2 w2 => ?_
  exact k e2 G2 H2 σ2 P2 q2 s2 ((noF_stp st1).trans st2) (l2.trans l1) fun j hj => (w2 j hj).trans (w1 j hj)
theorem wg_tup {W : Nat → Prop} {n : Nat} {gs : TGs} {ov : Option V} {ds : List D} {Post : Env → Prop} (hn : ds.length = n) (h : WGs A W gs ds env Post) : WG A W (gTup A.c.K n gs) (.frz ov (.tup ds)) env Post := fun G H σ P v X s m Q k => by
  obtain ⟨⟨a, ws, e1, e2, e3⟩, _⟩ := m.tr
  exact ⟨a, ws, e1, SqT.of (s.le _ _ e2), by rw [reps_len e3, hn], h G H σ P ws s e3 Q fun e G' H' σ' P' q s' st l w => k e G' H' σ' P' q s' (st.wk (fun _ z => .inl z) fun _ z => .inl z) l w⟩
/-- a, b = e1, e2 -/
theorem ws_par {i j : Nat} {tr : TA} (hi : i < env.length) (hj : j < env.length) (h : WA A tr env fun as e => ∃ t1 t2, as = [.t t1, .t t2] ∧ e.length = env.length ∧ A.keep.contains i = false ∧ A.keep.contains j = false ∧ nx ((e.set i (some t1)).set j (some t2))) :
    WS A (tPar i j tr) env nx rt bk ct := fun G H σ P s D nx rt bk ct => by
  refine h G H σ P s _ fun as e vs G1 H1 P1 F1 p1 r1 => ?_
  obtain ⟨t1, t2, rfl, hl, k1, k2, hp⟩ := p1
  obtain ⟨v, r, Fa, Fb, e1, h1, h2, h3, h4⟩ := r1.tm.tr
  obtain ⟨w, Fc, e2, h5, h6⟩ := h4.one
  subst e2
  refine ⟨v, w, e1, ?_⟩
  have m1 : Tmp A G1 H1 P1 t1 Fa v := ⟨h3, fun a z => r1.tm.fd a (h1 a z), fun a z => r1.tm.bs a (h1 a z)⟩
  have s1 := r1.sr.put m1 i (by omega) (fun z => by rw [List.contains_iff_mem.mpr z] at k1; cases k1)
  have m2 : Tmp A G1 H1 (fun k a => if k = i then Fa a else P1 k a) t2 Fc w := ⟨h6, fun a z => ⟨fun ⟨k, y⟩ => ?_, (r1.tm.fd a (h2 a (h5 a z)).1).2⟩, fun a z => r1.tm.bs a (h2 a (h5 a z)).1⟩
  · have s2 := s1.put m2 j (by rw [List.length_set]; omega) (fun z => by rw [List.contains_iff_mem.mpr z] at k2; cases k2)
    exact nx _ _ _ _ _ hp s2 r1.st.g
  · by_cases e : k = i <;> simp only [e, if_true, if_false] at y
    · exact (h2 a (h5 a z)).2 y
    · exact (r1.tm.fd a (h2 a (h5 a z)).1).1 ⟨k, y⟩

/-! ### what a name holds as its own is changed in its place -/
theorem SR.modify (s : SR A G H σ env P) {n : Nat} {t0 t1 : T} {v : V} (he : env[n]? = some (some t0)) (hv : σ[n]? = some (some v)) (fd : ∀ a, X a → ¬ uP P a ∧ G a = none ∧ H a ≠ none) (bs : ∀ a, X a → A.U a ∨ A.H a = none)
    (tr : TR A.c G H' t1 (fun a => P n a ∨ X a) v) (keep : ∀ a o, ¬ P n a → H a = some o → H' a = some o) (nn : ∀ a, P n a → H' a ≠ none) :
    SR A G H' σ (env.set n (some t1)) (fun j a => P j a ∨ (j = n ∧ X a)) ∧ Stp G H (fun a => uP P a ∨ X a) G H' (uP fun j a => P j a ∨ (j = n ∧ X a)) := by
  have nP : ∀ a, uP P a → H' a ≠ none := fun a ⟨j, z⟩ => by
    by_cases q : P n a
    · exact nn a q
    · cases q2 : H a with
      | none => exact absurd q2 (s.own j a z).2
      | some o => rw [keep a o q q2]; exact Option.some_ne_none _
  have nX : ∀ a, X a → H' a ≠ none := fun a z => by
    cases q2 : H a with
    | none => exact absurd q2 (fd a z).2.2
    | some o => rw [keep a o (fun q => (fd a z).1 ⟨n, q⟩) q2]; exact Option.some_ne_none _
  have st : Stp G H (fun a => uP P a ∨ X a) G H' (uP fun j a => P j a ∨ (j = n ∧ X a)) := ⟨Ex.refl _, fun a o e u => keep a o (fun q => u (.inl ⟨n, q⟩)) e, fun a ⟨j, z⟩ => by
    rcases z with z | z
    · exact .inl (.inl ⟨j, z⟩)
    · exact .inl (.inr z.2), fun a z => .inl z⟩
  have b : Stp A.G A.H A.U G H (fun a => uP P a ∨ X a) := ⟨s.base.g, s.base.h, fun a z => by
    rcases z with z | z
    · exact s.base.n a z
    · exact bs a z, s.base.m⟩
  refine ⟨⟨⟨by rw [List.length_set]; exact s.len, fun a o e => ?_, fun j u e => ?_, fun i j a h h' => ?_, fun j a h => ?_⟩, b.trans st, s.kp⟩, st⟩
  · refine keep a o (fun q => ?_) (s.le _ _ e)
    rw [(s.own n a q).1] at e; cases e
  · by_cases ne : j = n
    · subst ne
      have hl : j < env.length := (List.getElem?_eq_some_iff.mp he).1
      rw [List.getElem?_set_self hl] at e
      cases e
      exact ⟨v, hv, tr.mono (Ex.refl _) (fun a z => by rcases z with z | z; exact .inl z; exact .inr ⟨rfl, z⟩) (fun _ _ _ e => e) fun a z => by
        rcases z with z | z
        · exact (s.own j a z).1
        · exact (fd a z).2.1⟩
    · rw [List.getElem?_set_ne (Ne.symm ne)] at e
      obtain ⟨w, hw, tw⟩ := s.slot j u e
      exact ⟨w, hw, tw.mono (Ex.refl _) (fun a z => .inl z) (fun a o z e => keep a o (fun q => ne (s.dis _ _ _ z q)) e) fun a z => (s.own j a z).1⟩
  · rcases h with h | ⟨e1, h⟩ <;> rcases h' with h' | ⟨e2, h'⟩
    · exact s.dis i j a h h'
    · exact absurd ⟨i, h⟩ (fd a h').1
    · exact absurd ⟨j, h'⟩ (fd a h).1
    · rw [e1, e2]
  · rcases h with h | ⟨e1, h⟩
    · exact ⟨(s.own j a h).1, nP a ⟨j, h⟩⟩
    · exact ⟨(fd a h).2.1, nX a h⟩
theorem trs_set {c : Cn} : ∀ {ts : List T} {F1 F2 F : As} {vs : List V} {j : Nat} {t : T} {v : V}, TRs c G H ts F1 vs → TR c G H t F2 v → (∀ a, F1 a → F a) → (∀ a, F2 a → F a ∧ ¬ F1 a) → (∀ a, F a → G a = none) → TRs c G H (ts.set j t) F (vs.set j v)
  | [], F1, F2, F, vs, j, t, v, h, _, _, _, _ => by cases h; exact rfl
  | u :: r, F1, F2, F, vs, 0, t, v, ⟨w, r', X1, X2, e, h2, h3, h4, h5⟩, hb, k1, k2, g => by
    subst e
    exact ⟨v, r', F2, X2, rfl, fun a x => (k2 a x).1, fun a x => ⟨k1 a (h3 a x).1, fun y => (k2 a y).2 (h3 a x).1⟩, hb, h5⟩
  | u :: r, F1, F2, F, vs, j + 1, t, v, ⟨w, r', X1, X2, e, h2, h3, h4, h5⟩, hb, k1, k2, g => by
    subst e
    refine ⟨w, r'.set j v, X1, fun a => X2 a ∨ F2 a, rfl, fun a x => k1 a (h2 a x), fun a x => ?_, h4, trs_set h5 hb (fun a x => .inl x) (fun a x => ⟨.inr x, fun y => (k2 a x).2 (h3 a y).1⟩) fun a x => ?_⟩
    · rcases x with x | x
      · exact ⟨k1 a (h3 a x).1, (h3 a x).2⟩
      · exact ⟨(k2 a x).1, fun y => (k2 a x).2 (h2 a y)⟩
    · rcases x with x | x
      · exact g a (k1 a (h3 a x).1)
      · exact g a (k2 a x).1
/-- a list that a name holds takes other items -/
theorem slot_list (s : SR A G H σ env P) {n : Nat} {ts us : List T} (he : env[n]? = some (some (.lst ts))) (fd : ∀ a, X a → ¬ uP P a ∧ G a = none ∧ H a ≠ none) (bs : ∀ a, X a → A.U a ∨ A.H a = none) :
    ∃ p vs F1, σ[n]? = some (some (.ref p)) ∧ H p = some (.lst vs) ∧ P n p ∧ (∀ a, F1 a → P n a ∧ a ≠ p) ∧ TRs A.c G H ts F1 vs ∧
      ∀ ws, (∀ H2, (∀ a o, a ≠ p → H a = some o → H2 a = some o) → TRs A.c G H2 us (fun a => F1 a ∨ X a) ws) →
        SR A G (upd H p (.lst ws)) σ (env.set n (some (.lst us))) (fun j a => P j a ∨ (j = n ∧ X a)) ∧ Stp G H (fun a => uP P a ∨ X a) G (upd H p (.lst ws)) (uP fun j a => P j a ∨ (j = n ∧ X a)) := by
  obtain ⟨v, hv, p, vs, F1, e1, h2, h3, h4, h5, h6⟩ := s.slot n _ he
  subst e1
  refine ⟨p, vs, F1, hv, h4, h2, h5, h6, fun ws hw => ?_⟩
  have keep : ∀ a o, a ≠ p → H a = some o → upd H p (.lst ws) a = some o := fun a o ne e => by rw [upd_ne ne]; exact e
  refine s.modify he hv fd bs (t1 := .lst us) ⟨p, ws, fun a => F1 a ∨ X a, rfl, .inl h2, h3, upd_same, fun a z => ?_, hw _ keep⟩ (fun a o n' e => keep a o (fun q => n' (q ▸ h2)) e) fun a z => ?_
  · rcases z with z | z
    · exact ⟨.inl (h5 a z).1, (h5 a z).2⟩
    · exact ⟨.inr z, fun e => (fd a z).1 ⟨n, by subst e; exact h2⟩⟩
  · by_cases q : a = p
    · subst q; rw [upd_same]; exact Option.some_ne_none _
    · rw [upd_ne q]; exact (s.own n a z).2

/-! ### xs[i] = e -/
theorem wg_sub {n : Nat} {ti : TE} {Post : Env → Prop} {W : Nat → Prop} (h : WE A ti env fun t2 e => ∃ o k, t2 = .frz o (.int k) ∧ ∃ ts j, e[n]? = some (some (.lst ts)) ∧ ixN ts.length k = some j ∧ Post (e.set n (some (.lst (ts.set j t))))) (hn : ∃ u, env[n]? = some (some u)) :
    WG A W (gSub (tVar n) ti rSetL) t env Post := fun G H σ P v X s m Q k => by
  obtain ⟨u, hu⟩ := hn
  obtain ⟨w, hw, _⟩ := s.slot n u hu
  refine ⟨w, hw, h G H σ P s _ fun t2 e1 v2 G1 H1 P1 F1 p1 r1 => ?_⟩
  obtain ⟨o, i, rfl, ts, j, he, hj, hp⟩ := p1
  have m1 := m.carry r1.st
  obtain ⟨q, ws, F2, hσ, hq, hPq, hF, tr, mk⟩ := slot_list r1.sr he m1.fd m1.bs (us := ts.set j t)
  rw [hw] at hσ
  cases hσ
  have hv2 : v2 = .int i := r1.tm.tr.1
  subst hv2
  refine ⟨q, ws, i, j, rfl, rfl, hq, by rw [trs_len tr]; exact hj, ?_⟩
  obtain ⟨s2, st2⟩ := mk (ws.set j v) fun H2 keep => trs_set (tr.mono (Ex.refl _) (fun _ z => z) (fun a o z e => keep a o (hF a z).2 e) fun a z => (r1.sr.own n a (hF a z).1).1)
    (m1.tr.mono (Ex.refl _) (fun _ z => z) (fun a o z e => keep a o (fun y => (m1.fd a z).1 ⟨n, by subst y; exact hPq⟩) e) fun a z => (m1.fd a z).2.1) (fun a z => .inl z) (fun a z => ⟨.inr z, fun y => (m1.fd a z).1 ⟨n, (hF a y).1⟩⟩) fun a z => by
      rcases z with z | z
      · exact (r1.sr.own n a (hF a z).1).1
      · exact (m1.fd a z).2.1
  refine k _ _ _ σ _ hp s2 ((r1.st.frame X).trans (st2.wk (V := fun a => (uP P1 a ∨ F1 a) ∨ X a) (fun a z => ?_) fun a z => .inl z)) rfl fun _ _ => rfl
  rcases z with z | z
  · exact .inl (.inl z)
  · exact .inr z

/-! ### methods of a list that a name holds -/
theorem ty_slot (s : SR A G H σ env P) {n : Nat} {ts : List T} (he : env[n]? = some (some (.lst ts))) : ∃ p vs, σ[n]? = some (some (.ref p)) ∧ H p = some (.lst vs) ∧ vs.length = ts.length := by
  obtain ⟨v, hv, p, vs, F1, e1, h2, h3, h4, h5, h6⟩ := s.slot n _ he
  subst e1
  exact ⟨p, vs, hv, h4, trs_len h6⟩
theorem we_append {n : Nat} {ts0 : List T} (h0 : env[n]? = some (some (.lst ts0))) {tr : TA} (h : WA A tr env fun as e => ∃ t ts, as = [.t t] ∧ e[n]? = some (some (.lst ts)) ∧ ts.length ≤ 1000000 ∧ Post N_ (e.set n (some (.lst (ts ++ [t]))))) :
    WE A (tBM A.c.K "list" rAppend (tVar n) tr) env Post := fun G H σ P s Q k => by
  obtain ⟨p0, vs0, hσ0, hp0, _⟩ := ty_slot s h0
  refine ⟨_, hσ0, .inl ⟨rfl, _, SqL.of hp0⟩, h G H σ P s _ fun as e1 vs G1 H1 P1 F1 p1 r1 => ?_⟩
  obtain ⟨t, ts, rfl, he, hl, hp⟩ := p1
  obtain ⟨y, F2, rfl, hF2, tr⟩ := r1.tm.tr.one
  obtain ⟨q, ws, F3, hσ, hq, hPq, hF, trs, mk⟩ := slot_list r1.sr he r1.tm.fd r1.tm.bs (us := ts ++ [t])
  rw [hσ0] at hσ
  cases hσ
  refine ⟨p0, ws, y, rfl, rfl, hq, by rw [trs_len trs, sizeLine_eq]; omega, ?_⟩
  obtain ⟨s2, st2⟩ := mk (ws ++ [y]) fun H2 keep => trs_app (F1 := F3) (F2 := F1) (trs.mono (Ex.refl _) (fun _ z => z) (fun a o z e => keep a o (hF a z).2 e) fun a z => (r1.sr.own n a (hF a z).1).1)
    ⟨y, [], F1, noF, rfl, fun _ z => z, fun _ z => z.elim, tr.mono (Ex.refl _) hF2 (fun a o z e => keep a o (fun y => (r1.tm.fd a (hF2 a z)).1 ⟨n, by subst y; exact hPq⟩) e) fun a z => (r1.tm.fd a (hF2 a z)).2.1, rfl⟩ (fun a z => .inl z) (fun a z => ⟨.inr z, fun y => (r1.tm.fd a z).1 ⟨n, (hF a y).1⟩⟩) fun a z => by
      rcases z with z | z
      · exact (r1.sr.own n a (hF a z).1).1
      · exact (r1.tm.fd a z).2.1
  exact k N_ _ .non _ _ _ noF hp ⟨s2, (r1.st.trans st2).wk (fun _ h => h) fun a z => by
    rcases z with z | z
    · exact .inl z
    · exact z.elim, .flat rfl fun _ z => nomatch z⟩
end
end TL
/-! TL9: calls of built-ins, comparisons, slices. -/
namespace TL
open PySem PySem.Spec PyProof.Rows L2

/-! ### plain data -/
mutual
def D.plain : D → Bool
  | .non => true | .bl _ => true | .int _ => true | .str _ => true
  | .lst ds => D.plains ds
  | .tup ds => D.plains ds
  | _ => false
def D.plains : List D → Bool
  | [] => true
  | d :: ds => d.plain && D.plains ds
end
mutual
def D.py : D → PyData
  | .non => .none | .bl b => .bool b | .int i => .int i | .str s => .str s
  | .lst ds => .list (D.pys ds)
  | .tup ds => .tuple (D.pys ds)
  | _ => .none
def D.pys : List D → List PyData
  | [] => []
  | d :: ds => d.py :: D.pys ds
end
mutual
theorem Rep.dp0 {c : Cn} {H : Hp} : ∀ (d : D) (v : V), Rep c H d v → d.plain = true → Dp c.K H v d.py
  | .non, v, h, _ => by have e : v = .non := h; rw [e]; exact .non
  | .bl b, v, h, _ => by have e : v = .bl b := h; rw [e]; exact .bl b
  | .int b, v, h, _ => by have e : v = .int b := h; rw [e]; exact .int b
  | .str b, v, h, _ => by have e : v = .str b := h; rw [e]; exact .str b
  | .lst ds, v, h, hp => by
    obtain ⟨a, vs, e, h1, h2⟩ := h
    rw [e]
    exact .lst (SqL.of h1) (Reps.dp0 ds vs h2 hp)
  | .tup ds, v, h, hp => by
    obtain ⟨a, vs, e, h1, h2⟩ := h
    rw [e]
    exact .tup (SqT.of h1) (Reps.dp0 ds vs h2 hp)
  | .dik _, _, _, hp => absurd (show false = true from hp) Bool.false_ne_true
  | .dit _, _, _, hp => absurd (show false = true from hp) Bool.false_ne_true
  | .ins _ _, _, _, hp => absurd (show false = true from hp) Bool.false_ne_true
  | .scr _, _, _, hp => absurd (show false = true from hp) Bool.false_ne_true
  | .oth _, _, _, hp => absurd (show false = true from hp) Bool.false_ne_true
theorem Reps.dp0 {c : Cn} {H : Hp} : ∀ (ds : List D) (vs : List V), Reps c H ds vs → D.plains ds = true → DpAll c.K H vs (D.pys ds)
  | [], vs, h, _ => by have e : vs = [] := h; rw [e]; exact .nil
  | d :: ds, vs, h, hp => by
    obtain ⟨v, r, e, h1, h2⟩ := h
    obtain ⟨p1, p2⟩ := Bool.and_eq_true_iff.mp (show (d.plain && D.plains ds) = true from hp)
    rw [e]
    exact .cons (Rep.dp0 d v h1 p1) (Reps.dp0 ds r h2 p2)
end
theorem Rep.dp {c : Cn} {H : Hp} {d : D} {v : V} (h : Rep c H d v) (p : d.plain = true) : Dp c.K H v d.py := Rep.dp0 d v h p
section
variable {A : Amb} {G H G' H' : Hp} {σ : L2.St} {env : Env} {P P' : Nat → As} {X X' X1 : As} {v x y z : V} {t t1 t2 : T} {vs : List V} {as : List Ar} {ta tb te : TE} {r : R2} {ts : List T} {a b : Ar} {Post : T → Env → Prop} {nx bk ct : Env → Prop} {rt : T → Env → Prop}

/-! ### == -/
theorem wr_eqA {d1 d2 : D} (h1 : arD env a = some d1) (h2 : arD env b = some d2) (p1 : d1.plain = true) (p2 : d2.plain = true) (s1 : SeqAt.shaped d1.py = true) (s2 : SeqAt.shaped d2.py = true) (q : Post (B (PyData.eqv d1.py d2.py)) env) : WR A (rEqA A.c.K) a b env Post :=
  wr_flat (d := .bl (PyData.eqv d1.py d2.py)) h1 h2 (fun _ => rfl) (fun H x y e1 e2 Q q => .inr ⟨_, _, e1.dp p1, e2.dp p2, s1, s2, q⟩) q
theorem wr_neA {d1 d2 : D} (h1 : arD env a = some d1) (h2 : arD env b = some d2) (p1 : d1.plain = true) (p2 : d2.plain = true) (s1 : SeqAt.shaped d1.py = true) (s2 : SeqAt.shaped d2.py = true) (q : Post (B (!PyData.eqv d1.py d2.py)) env) : WR A (rNeA A.c.K) a b env Post :=
  wr_flat (d := .bl (!PyData.eqv d1.py d2.py)) h1 h2 (fun _ => rfl) (fun H x y e1 e2 Q q => .inr ⟨_, _, e1.dp p1, e2.dp p2, s1, s2, q⟩) q
theorem wr_eq_int {i j : Int} {o1 o2 : Option V} (q : Post (B (decide (i = j))) env) : WR A (rEqA A.c.K) (.t (.frz o1 (.int i))) (.t (.frz o2 (.int j))) env Post :=
  wr_flat (d := .bl (decide (i = j))) rfl rfl (fun _ => rfl) (fun H x y e1 e2 Q q => by
    cases e1; cases e2
    refine .inl ⟨rfl, ?_⟩
    have e : decide (V.int i = V.int j) = decide (i = j) := by by_cases h : i = j <;> simp [h]
    rw [e]; exact q) q
theorem wr_ne_int {i j : Int} {o1 o2 : Option V} (q : Post (B (!decide (i = j))) env) : WR A (rNeA A.c.K) (.t (.frz o1 (.int i))) (.t (.frz o2 (.int j))) env Post :=
  wr_flat (d := .bl (!decide (i = j))) rfl rfl (fun _ => rfl) (fun H x y e1 e2 Q q => by
    cases e1; cases e2
    refine .inl ⟨rfl, ?_⟩
    have e : decide (V.int i = V.int j) = decide (i = j) := by by_cases h : i = j <;> simp [h]
    rw [e]; exact q) q
theorem wr_eq_bl {i j : Bool} {o1 o2 : Option V} (q : Post (B (decide (i = j))) env) : WR A (rEqA A.c.K) (.t (.frz o1 (.bl i))) (.t (.frz o2 (.bl j))) env Post :=
  wr_flat (d := .bl (decide (i = j))) rfl rfl (fun _ => rfl) (fun H x y e1 e2 Q q => by
    cases e1; cases e2
    refine .inl ⟨rfl, ?_⟩
    have e : decide (V.bl i = V.bl j) = decide (i = j) := by by_cases h : i = j <;> simp [h]
    rw [e]; exact q) q
theorem wr_ne_bl {i j : Bool} {o1 o2 : Option V} (q : Post (B (!decide (i = j))) env) : WR A (rNeA A.c.K) (.t (.frz o1 (.bl i))) (.t (.frz o2 (.bl j))) env Post :=
  wr_flat (d := .bl (!decide (i = j))) rfl rfl (fun _ => rfl) (fun H x y e1 e2 Q q => by
    cases e1; cases e2
    refine .inl ⟨rfl, ?_⟩
    have e : decide (V.bl i = V.bl j) = decide (i = j) := by by_cases h : i = j <;> simp [h]
    rw [e]; exact q) q
theorem wr_eq_str {i j : Str} {o1 o2 : Option V} (q : Post (B (decide (i = j))) env) : WR A (rEqA A.c.K) (.t (.frz o1 (.str i))) (.t (.frz o2 (.str j))) env Post :=
  wr_flat (d := .bl (decide (i = j))) rfl rfl (fun _ => rfl) (fun H x y e1 e2 Q q => by
    cases e1; cases e2
    refine .inl ⟨rfl, ?_⟩
    have e : decide (V.str i = V.str j) = decide (i = j) := by by_cases h : i = j <;> simp [h]
    rw [e]; exact q) q
theorem wr_ne_str {i j : Str} {o1 o2 : Option V} (q : Post (B (!decide (i = j))) env) : WR A (rNeA A.c.K) (.t (.frz o1 (.str i))) (.t (.frz o2 (.str j))) env Post :=
  wr_flat (d := .bl (!decide (i = j))) rfl rfl (fun _ => rfl) (fun H x y e1 e2 Q q => by
    cases e1; cases e2
    refine .inl ⟨rfl, ?_⟩
    have e : decide (V.str i = V.str j) = decide (i = j) := by by_cases h : i = j <;> simp [h]
    rw [e]; exact q) q

/-! ### len -/
abbrev rLenA (K : PySem.W.Frag) : List V → Hp → VK → Prop := fun xs H Q => ∃ x n, xs = [x] ∧ LenV K x H n ∧ Q (.int n) H
def D.len? : D → Option Nat
  | .lst ds => some ds.length
  | .tup ds => some ds.length
  | .scr ns => some ns.length
  | .str s => if s.length ≤ 1000000 then some s.length else none
  | _ => none
theorem wc_len {n : Nat} {d : D} (h : arD env a = some d) (hl : d.len? = some n) (q : Post (I n) env) : WC A (rLenA A.c.K) [a] env Post :=
  wc_flat (d := .int n) (ds := [d]) (by simp [h]) (fun _ => rfl) (fun H vs rp Q q => by
    obtain ⟨v, r, e, h1, h2⟩ := rp
    cases h2
    subst e
    cases d with
    | lst ds =>
      cases hl
      obtain ⟨p, ws, e, h1, h2⟩ := h1
      subst e
      exact ⟨_, _, rfl, .inl ⟨ws, SqL.of h1, (reps_len h2).symm⟩, q⟩
    | tup ds =>
      cases hl
      obtain ⟨p, ws, e, h1, h2⟩ := h1
      subst e
      exact ⟨_, _, rfl, .inr ⟨ws, SqT.of h1, (reps_len h2).symm⟩, q⟩
    | scr ns =>
      cases hl
      obtain ⟨p, e, h1⟩ := h1
      subst e
      exact ⟨_, _, rfl, .inl ⟨_, h1, by simp⟩, q⟩
    | str s =>
      simp only [D.len?] at hl
      split at hl
      · cases hl
        have e : v = .str s := h1
        subst e
        exact ⟨_, _, rfl, ⟨by rw [sizeLine_eq]; omega, rfl⟩, q⟩
      · cases hl
    | _ => cases hl) q

/-! ### isinstance -/
def D.tyn : D → Option String
  | .non => some "NoneType" | .bl _ => some "bool" | .int _ => some "int" | .str _ => some "str"
  | .lst _ => some "list" | .tup _ => some "tuple" | .dik _ => some "dict"
  | _ => none
theorem tyx {c : Cn} {d : D} {n : String} (h : Rep c H d v) (e : d.tyn = some n) : TyX c.K H v (.type n) := by
  cases d with
  | non => cases e; cases h; exact .base .non
  | bl b => cases e; cases h; exact .base (.bl b)
  | int b => cases e; cases h; exact .base (.int b)
  | str b => cases e; cases h; exact .base (.str b)
  | lst ds => cases e; obtain ⟨p, ws, e, h1, _⟩ := h; subst e; exact .base (.lst h1)
  | tup ds => cases e; obtain ⟨p, ws, e, h1, _⟩ := h; subst e; exact .base (.tup h1)
  | dik ds =>
    cases e; obtain ⟨p, ws, e, h1, _⟩ := h; subst e
    rcases h1 with h1 | ⟨o, h1⟩
    · exact .base (.dK h1)
    · exact .fDict h1
  | _ => cases e
/-- isinstance(x, T), T a built-in type -/
theorem wc_isi {n m : String} {d : D} {k : Bool} {o : Option V} (h : arD env a = some d) (ht : d.tyn = some n) (hk : kitB n m = some k) (q : Post (B k) env) : WC A (rIsi A.c.K) [a, .t (.frz o (.oth (.ty m)))] env Post :=
  wc_flat (d := .bl k) (ds := [d, .oth (.ty m)]) (by simp only [List.map_cons, List.map_nil, h]; rfl) (fun _ => rfl) (fun H vs rp Q q => by
    obtain ⟨v, r, e, h1, w, r', e2, h2, h3⟩ := rp
    cases h3
    cases h2
    subst e2 e
    exact ⟨v, .ty m, .type n, .type m, k, rfl, .ty m, tyx h1 ht, kit_ty hk, q⟩) q
/-- an instance: what its class says -/
theorem wc_isi_ins {k : Nat} {fs : List (Str × D)} {c : V} {u : Value} {bo : Bool} {o : Option V} (h : arD env a = some (.ins k fs)) (hc : ClsV c u) (hk : PySem.W.kitOne A.c.K (.ref (A.c.cls k)) u = some bo) (cl : Cls A.c.K (A.c.cls k))
    (f1 : PySem.W.findIn A.c.K (.ref (A.c.cls k)) "__class__" = some (some (.builtin "object.__class__"))) (f2 : PySem.W.specialIn A.c.K (.builtin "object.__class__") "__get__" = some (some (.builtin "getset_descriptor.__get__")))
    (f3 : PySem.W.takesIn A.c.K (.builtin "object.__class__") = some true) (f4 : PySem.W.mroIn A.c.K (A.c.cls k) (.type "object") = some true) (q : Post (B bo) env) : WC A (rIsi A.c.K) [a, .t (.frz o (.oth c))] env Post :=
  wc_flat (d := .bl bo) (ds := [.ins k fs, .oth c]) (by simp only [List.map_cons, List.map_nil, h]; rfl) (fun _ => rfl) (fun H vs rp Q q => by
    obtain ⟨v, r, e, h1, w, r', e2, h2, h3⟩ := rp
    cases h3
    cases h2
    subst e2 e
    obtain ⟨p, dx, gs, e3, h4, _⟩ := h1
    subst e3
    exact ⟨_, c, _, u, bo, rfl, hc, .base (.ins h4 cl f1 f2 f3 f4), hk, q⟩) q

/-! ### int, str, abs, max, min, list, tuple, repr -/
theorem wc_one {f : V → Hp → VK → Prop} {d d' : D} {v0 : V} {r : List V → Hp → VK → Prop} (h : arD env a = some d) (hv : ∀ G, Rep A.c G d' v0) (hr : ∀ H x, Rep A.c H d x → ∀ Q : VK, Q v0 H → r [x] H Q) (q : Post (.frz none d') env) : WC A r [a] env Post :=
  wc_flat (ds := [d]) (by simp [h]) hv (fun H vs rp Q q => by
    obtain ⟨v, r, e, h1, h2⟩ := rp
    cases h2
    subst e
    exact hr H v h1 Q q) q
theorem wc_two {d1 d2 d' : D} {v0 : V} {r : List V → Hp → VK → Prop} (h1 : arD env a = some d1) (h2 : arD env b = some d2) (hv : ∀ G, Rep A.c G d' v0) (hr : ∀ H x y, Rep A.c H d1 x → Rep A.c H d2 y → ∀ Q : VK, Q v0 H → r [x, y] H Q) (q : Post (.frz none d') env) : WC A r [a, b] env Post :=
  wc_flat (ds := [d1, d2]) (by simp [h1, h2]) hv (fun H vs rp Q q => by
    obtain ⟨v, r, e, h1, w, r', e2, h2, h3⟩ := rp
    cases h3
    subst e2 e
    exact hr H v w h1 h2 Q q) q
abbrev rAbs : List V → Hp → VK → Prop := fun xs H Q => ∃ i, xs = [.int i] ∧ Q (.int (if i < 0 then -i else i)) H
abbrev rMax2 : List V → Hp → VK → Prop := fun xs H Q => ∃ i j, xs = [.int i, .int j] ∧ Q (.int (if j > i then j else i)) H
abbrev rMin2 : List V → Hp → VK → Prop := fun xs H Q => ∃ i j, xs = [.int i, .int j] ∧ Q (.int (if j < i then j else i)) H
theorem wc_abs {i : Int} {o : Option V} (q : Post (I (if i < 0 then -i else i)) env) : WC A rAbs [.t (.frz o (.int i))] env Post :=
  wc_one (f := fun _ _ _ => True) (d := .int i) (d' := .int (if i < 0 then -i else i)) rfl (fun _ => rfl) (fun H x e Q q => ⟨i, by rw [show x = .int i from e], q⟩) q
theorem wc_max2 {i j : Int} {o o2 : Option V} (q : Post (I (if j > i then j else i)) env) : WC A rMax2 [.t (.frz o (.int i)), .t (.frz o2 (.int j))] env Post :=
  wc_two (d1 := .int i) (d2 := .int j) (d' := .int (if j > i then j else i)) rfl rfl (fun _ => rfl) (fun H x y e1 e2 Q q => ⟨i, j, by rw [show x = .int i from e1, show y = .int j from e2], q⟩) q
theorem wc_min2 {i j : Int} {o o2 : Option V} (q : Post (I (if j < i then j else i)) env) : WC A rMin2 [.t (.frz o (.int i)), .t (.frz o2 (.int j))] env Post :=
  wc_two (d1 := .int i) (d2 := .int j) (d' := .int (if j < i then j else i)) rfl rfl (fun _ => rfl) (fun H x y e1 e2 Q q => ⟨i, j, by rw [show x = .int i from e1, show y = .int j from e2], q⟩) q
abbrev rInt1 : List V → Hp → VK → Prop := fun xs H Q => (∃ i, xs = [.int i] ∧ Q (.int i) H) ∨ ∃ k, xs = [.bl k] ∧ Q (.int (if k then 1 else 0)) H
theorem wc_int_bl {k : Bool} {o : Option V} (q : Post (I (if k then 1 else 0)) env) : WC A rInt1 [.t (.frz o (.bl k))] env Post :=
  wc_one (f := fun _ _ _ => True) (d := .bl k) (d' := .int (if k then 1 else 0)) rfl (fun _ => rfl) (fun H x e Q q => .inr ⟨k, by rw [show x = .bl k from e], q⟩) q
abbrev rStr1 : List V → Hp → VK → Prop := fun xs H Q => ∃ i, xs = [.int i] ∧ i.natAbs.log2 < 1920 ∧ Q (.str (toString i)) H
theorem wc_str_int {i : Int} {o : Option V} (hi : i.natAbs.log2 < 1920) (q : Post (S (toString i)) env) : WC A rStr1 [.t (.frz o (.int i))] env Post :=
  wc_one (f := fun _ _ _ => True) (d := .int i) (d' := .str (toString i)) rfl (fun _ => rfl) (fun H x e Q q => ⟨i, by rw [show x = .int i from e], hi, q⟩) q
/-- what repr shows of data -/
def D.ok (d : D) : Prop := d.plain = true ∧ d.py.showable = true ∧ d.py.hasDict = false ∧ d.py.depth ≤ 100 ∧ d.py.shown.length ≤ sizeLine
theorem wc_repr {d : D} (h : arD env a = some d) (hd : d.ok) (q : Post (S d.py.shown) env) : WC A (rRepr A.c.K) [a] env Post :=
  wc_one (f := fun _ _ _ => True) (d' := .str d.py.shown) h (fun _ => rfl) (fun H x e Q q => ⟨x, d.py, rfl, e.dp hd.1, hd.2.1, hd.2.2.1, hd.2.2.2.1, hd.2.2.2.2, q⟩) q
/-- list(x) of a list or a tuple whose things are fixed -/
abbrev rListOf (K : PySem.W.Frag) : List V → Hp → VK → Prop := fun xs H Q => ∃ p ys, xs = [.ref p] ∧ (SqL K H p ys ∨ SqT K H p ys) ∧ ∀ l, H l = none → Q (.ref l) (upd H l (.lst ys))
theorem wc_list_frz {ov : Option V} {ds : List D} (q : Post (.lst (ds.map (T.frz none))) env) : WC A (rListOf A.c.K) [.t (.frz ov (.lst ds))] env Post := fun G H σ P vs X s m Q k => by
  obtain ⟨v, F1, rfl, _, tr⟩ := m.tr.one
  obtain ⟨⟨p, ws, rfl, h1, h2⟩, _⟩ := tr
  exact ⟨p, ws, rfl, .inl (SqL.of (s.le _ _ h1)), fun l hl => k _ _ _ _ _ _ _ q (alloc_frzs s h2 (fun _ z => .inl z) hl)⟩
theorem wc_list_tup {ov : Option V} {ds : List D} (q : Post (.lst (ds.map (T.frz none))) env) : WC A (rListOf A.c.K) [.t (.frz ov (.tup ds))] env Post := fun G H σ P vs X s m Q k => by
  obtain ⟨v, F1, rfl, _, tr⟩ := m.tr.one
  obtain ⟨⟨p, ws, rfl, h1, h2⟩, _⟩ := tr
  exact ⟨p, ws, rfl, .inr (SqT.of (s.le _ _ h1)), fun l hl => k _ _ _ _ _ _ _ q (alloc_frzs s h2 (fun _ z => .inl z) hl)⟩
/-- of one's own list that a name holds: its things fixed -/
theorem wc_list_slot {n : Nat} {ts : List T} {ds : List D} (he : env[n]? = some (some (.lst ts))) (hf : frzs ts = some ds) (q : Post (.lst (ds.map (T.frz none))) env) : WC A (rListOf A.c.K) [.s n] env Post := fun G H σ P vs X s m Q k => by
  obtain ⟨w, r', e, hw, e2⟩ := m.tr
  cases e2
  subst e
  obtain ⟨w2, hw2, p, ws, F4, e1, _, _, e2, h4, e3⟩ := s.slot n _ he
  rw [hw] at hw2
  cases hw2
  subst e1
  exact ⟨p, ws, rfl, .inl (SqL.of e2), fun l hl => k _ _ _ _ _ _ _ q (alloc_frzs s (frzs_rp hf e3) (fun _ z => .inl z) hl)⟩
abbrev rTupOf (K : PySem.W.Frag) : List V → Hp → VK → Prop := fun xs H Q => ∃ p ys, xs = [.ref p] ∧ ((SqL K H p ys ∧ ∀ l, H l = none → Q (.ref l) (upd H l (.tup ys))) ∨ (SqT K H p ys ∧ Q (.ref p) H))
theorem wc_tup_frz {ov : Option V} {ds : List D} (q : Post (.frz none (.tup ds)) env) : WC A (rTupOf A.c.K) [.t (.frz ov (.lst ds))] env Post := fun G H σ P vs X s m Q k => by
  obtain ⟨v, F1, rfl, _, tr⟩ := m.tr.one
  obtain ⟨⟨p, ws, rfl, h1, h2⟩, _⟩ := tr
  exact ⟨p, ws, rfl, .inl ⟨SqL.of (s.le _ _ h1), fun l hl => k _ _ _ _ _ _ _ q (alloc_tup s h2 (fun _ z => .inl z) hl)⟩⟩
theorem wc_tup_slot {n : Nat} {ts : List T} {ds : List D} (he : env[n]? = some (some (.lst ts))) (hf : frzs ts = some ds) (q : Post (.frz none (.tup ds)) env) : WC A (rTupOf A.c.K) [.s n] env Post := fun G H σ P vs X s m Q k => by
  obtain ⟨w, r', e, hw, e2⟩ := m.tr
  cases e2
  subst e
  obtain ⟨w2, hw2, p, ws, F4, e1, _, _, e2, h4, e3⟩ := s.slot n _ he
  rw [hw] at hw2
  cases hw2
  subst e1
  exact ⟨p, ws, rfl, .inl ⟨SqL.of e2, fun l hl => k _ _ _ _ _ _ _ q (alloc_tup s (frzs_rp hf e3) (fun _ z => .inl z) hl)⟩⟩
/-- a dict without things -/
theorem we_dictK (q : Post (.dik []) env) : WE A tDNewK env Post := fun G H σ P s Q k => fun p hp => by
  have r := s.beside_new (o := .dK []) hp
  refine k _ _ _ _ _ _ (fun a => a = p) q ⟨r, Stp.new hp, ⟨p, [], noF, rfl, rfl, s.gnone hp, upd_same, fun _ z => z.elim, rfl⟩, fun a z => ?_, fun a z => ?_⟩
  · subst z
    exact ⟨fun ⟨i, y⟩ => (s.own i a y).2 hp, s.gnone hp, by rw [upd_same]; exact Option.some_ne_none _⟩
  · subst z; exact s.bnew hp
end
end TL
/-! TX: defs by name. -/
namespace TL
open PySem PySem.Spec PyProof.Rows L2
theorem b_len : bootBuiltins "len" = some (.builtin "len") := by decide +kernel
theorem b_isinstance : bootBuiltins "isinstance" = some (.builtin "isinstance") := by decide +kernel
theorem b_max : bootBuiltins "max" = some (.builtin "max") := by decide +kernel
theorem b_min : bootBuiltins "min" = some (.builtin "min") := by decide +kernel
theorem b_abs : bootBuiltins "abs" = some (.builtin "abs") := by decide +kernel
theorem b_repr : bootBuiltins "repr" = some (.builtin "repr") := by decide +kernel
theorem b_sum : bootBuiltins "sum" = some (.builtin "sum") := by decide +kernel
theorem b_sorted : bootBuiltins "sorted" = some (.builtin "sorted") := by decide +kernel
theorem b_ord : bootBuiltins "ord" = some (.builtin "ord") := by decide +kernel
theorem b_divmod : bootBuiltins "divmod" = some (.builtin "divmod") := by decide +kernel
theorem b_int : bootBuiltins "int" = some (.type "int") := by decide +kernel
theorem b_str : bootBuiltins "str" = some (.type "str") := by decide +kernel
theorem b_bool : bootBuiltins "bool" = some (.type "bool") := by decide +kernel
theorem b_list : bootBuiltins "list" = some (.type "list") := by decide +kernel
theorem b_tuple : bootBuiltins "tuple" = some (.type "tuple") := by decide +kernel
theorem b_dict : bootBuiltins "dict" = some (.type "dict") := by decide +kernel
theorem b_set : bootBuiltins "set" = some (.type "set") := by decide +kernel
theorem b_ValueError : bootBuiltins "ValueError" = some (.type "ValueError") := by decide +kernel

/-- a def of the module by its name; Fo: whoever calls it -/
structure Fo (P : Program) (w : World) (K : PySem.W.Frag) (mg : Str → Option Value) (base : Heap) (k : Nat) (x : Str) (ps : List Str) (sp : Sp) : Prop where
  ex : ∃ f fd, mg x = some (.ref f) ∧ PySem.W.keepIn K (.ref f) = true ∧ Binds K fd ps [] ∧ FnOk P w K mg base CX0 k f fd ps sp
/-- Fg: whoever stands under no repr -/
structure Fg (P : Program) (w : World) (K : PySem.W.Frag) (mg : Str → Option Value) (base : Heap) (k : Nat) (x : Str) (ps : List Str) (sp : Sp) : Prop where
  ex : ∃ f fd, mg x = some (.ref f) ∧ PySem.W.keepIn K (.ref f) = true ∧ Binds K fd ps [] ∧ FnG P w K mg base k f fd ps sp
/-- a method -/
structure Fm (P : Program) (w : World) (K : PySem.W.Frag) (mg : Str → Option Value) (base : Heap) (k : Nat) (C : Addr) (m : Str) (ps : List Str) (sp : Sp) : Prop where
  ex : ∃ f fd, Cls K C ∧ Meth K C m f ∧ Binds K fd ps [] ∧ FnOk P w K mg base CX0 k f fd ps sp
/-- a class that is called -/
structure Fi (P : Program) (w : World) (K : PySem.W.Frag) (mg : Str → Option Value) (base : Heap) (k : Nat) (x : Str) (C : Addr) (ps : List Str) (sp : Sp) : Prop where
  ex : ∃ f fd, mg x = some (.ref C) ∧ Mk K C f ∧ Binds K fd ps [] ∧ FnOk P w K mg base CX0 k f fd ps sp
theorem Fo.g {P : Program} {w : World} {K : PySem.W.Frag} {mg : Str → Option Value} {base : Heap} {k : Nat} {x : Str} {ps : List Str} {sp : Sp} (h : Fo P w K mg base k x ps sp) : Fg P w K mg base k x ps sp := by
  obtain ⟨f, fd, h1, h2, h3, h4⟩ := h.ex
  exact ⟨f, fd, h1, h2, h3, .of h4⟩
section
variable {X : Cx} {k : Nat} {x m : Str} {C : Addr} {ps : List Str} {sp : Sp} {p pos apos : Pos} {e o : Expr} {es : List Expr} {t : TA} {to : TE}
theorem pe_o (h : Fo X.prog X.w X.K X.mg X.base k x ps sp) (hr : Room k X.A) (ha : PA X (e :: es) t) (hgl : Gl X x := by rfl) (hd : (x == ("__debug__" : Str)) = false := by decide)
    (hs : starEach (e :: es) X.env = (false, eval e X.env) :: starEach es X.env := by rfl) (hp : (backTo pos (starEach es X.env)).any (·.1) = false := by rfl) : PE X (.Call (.Name x p) (e :: es) [] pos) (tCall sp [] E0 t) := by
  obtain ⟨f, fd, h1, h2, h3, h4⟩ := h.ex
  exact pe_call h4 hr hgl h1 h2 h3 .nil pass0 ha hd hs hp
theorem pe_o0 (h : Fo X.prog X.w X.K X.mg X.base k x ps sp) (hr : Room k X.A) (hgl : Gl X x := by rfl) (hd : (x == ("__debug__" : Str)) = false := by decide) : PE X (.Call (.Name x p) [] [] pos) (tCall sp [] E0 tNil) := by
  obtain ⟨f, fd, h1, h2, h3, h4⟩ := h.ex
  exact pe_call0 h4 hr hgl h1 h2 h3 .nil pass0 hd
theorem pe_g (h : Fg X.prog X.w X.K X.mg X.base k x ps sp) (hg : X.A.guards = some []) (hr : Room k X.A) (ha : PA X (e :: es) t) (hgl : Gl X x := by rfl) (hd : (x == ("__debug__" : Str)) = false := by decide)
    (hs : starEach (e :: es) X.env = (false, eval e X.env) :: starEach es X.env := by rfl) (hp : (backTo pos (starEach es X.env)).any (·.1) = false := by rfl) : PE X (.Call (.Name x p) (e :: es) [] pos) (tCall sp [] E0 t) := by
  obtain ⟨f, fd, h1, h2, h3, h4⟩ := h.ex
  exact pe_callG h4 hg hr hgl h1 h2 h3 ha hd hs hp
theorem pe_g0 (h : Fg X.prog X.w X.K X.mg X.base k x ps sp) (hg : X.A.guards = some []) (hr : Room k X.A) (hgl : Gl X x := by rfl) (hd : (x == ("__debug__" : Str)) = false := by decide) : PE X (.Call (.Name x p) [] [] pos) (tCall sp [] E0 tNil) := by
  obtain ⟨f, fd, h1, h2, h3, h4⟩ := h.ex
  exact pe_callG0 h4 hg hr hgl h1 h2 h3 hd
theorem pe_i (h : Fi X.prog X.w X.K X.mg X.base k x C ps sp) (hr : Room (k + 1) X.A) (ha : PA X (e :: es) t) (hgl : Gl X x := by rfl) (hd : (x == ("__debug__" : Str)) = false := by decide)
    (hs : starEach (e :: es) X.env = (false, eval e X.env) :: starEach es X.env := by rfl) (hp : (backTo pos (starEach es X.env)).any (·.1) = false := by rfl) : PE X (.Call (.Name x p) (e :: es) [] pos) (tMake C sp [] E0 t) := by
  obtain ⟨f, fd, h1, h2, h3, h4⟩ := h.ex
  exact pe_make h2 h4 hr hgl h1 h3 .nil pass0 ha hd hs hp
theorem pe_m {pl : Sem Bool} (ho : PE X o to) (h : Fm X.prog X.w X.K X.mg X.base k C m ps sp) (hr : Room k X.A) (ha : PA X (e :: es) t)
    (hs : starEach (e :: es) X.env = (false, eval e X.env) :: starEach es X.env := by rfl) (hp : (backTo pos (starEach es X.env)).any (·.1) = false := by rfl)
    (ht : eval (.Call (.Attribute o m apos) (e :: es) [] pos) X.env = (do
      let ov ← eval o X.env
      standAt apos.atName
      let (f, first) ← holding [ov] (getMethod ov m pl)
      callWith pos f first (backTo pos (starEach (e :: es) X.env)) (backToKw pos (keywordEach [] X.env))) := by rfl) : PE X (.Call (.Attribute o m apos) (e :: es) [] pos) (tMeth C m sp [] E0 to t) := by
  obtain ⟨f, fd, h1, h2, h3, h4⟩ := h.ex
  exact pe_meth ho h1 h2 h4 hr h3 .nil pass0 ha hs hp ht
theorem pe_m0 {pl : Sem Bool} (ho : PE X o to) (h : Fm X.prog X.w X.K X.mg X.base k C m ps sp) (hr : Room k X.A)
    (ht : eval (.Call (.Attribute o m apos) [] [] pos) X.env = (do
      let ov ← eval o X.env
      standAt apos.atName
      let (f, first) ← holding [ov] (getMethod ov m pl)
      callWith pos f first (backTo pos (starEach [] X.env)) (backToKw pos (keywordEach [] X.env))) := by rfl) : PE X (.Call (.Attribute o m apos) [] [] pos) (tMeth C m sp [] E0 to tNil) := by
  obtain ⟨f, fd, h1, h2, h3, h4⟩ := h.ex
  exact pe_meth0 ho h1 h2 h4 hr h3 .nil pass0 ht
/-- an int of the module's -/
theorem pe_gint {i : Int} (h : ∃ t, X.mg x = some (.int i t)) (hg : Gl X x := by rfl) (hd : (x == ("__debug__" : Str)) = false := by decide) : PE X (.Name x pos) (tC (.int i)) := by
  obtain ⟨t, h⟩ := h
  exact pe_glob hg h ⟨t, rfl⟩ hd
theorem r200 {A : Around} (hr : Room k A) : A.units + 200 < cLine := by have := hr.un; omega
end
section
variable {P : Program} {w : World} {c : Cn} {mg : Str → Option Value} {base : Heap} {N ps : List Str} {x qual : Str} {params : Arguments} {body : List Stmt} {scope : Scope} {f : Addr} {fd : FuncData} {Sf : FS}
/-- THE RULE for a def at the level of trees -/
theorem fo_of (k n m : Nat) (keep : List Nat) (F : FunD c.K x qual params body scope [] [] f fd) (hm : mg x = some (.ref f)) (hn : ps.length = n) (sc : FnScope N ps scope)
    (hb : ∀ (kV doc pm : Value) (an : Option Addr) (cdv ct : Value) (us : List Value), us.length = ps.length → bindArgs (PySem.W.fnOf x qual params body scope .none kV doc pm an cdv ct) ⟨us, []⟩ = pure (ps.zip us))
    (hk : keep.all (fun i => decide (i < n)) = true) (hl : N.length - n = m)
    (t : TS) (ht : ∀ (cdv : Value) (A : Around) (outer : List PySem.Env) (s : Shared) (H : Hp) (E : XK), Room k (A.deeper (envOfC qual scope s.heap.objs.size f cdv)) → PSs (cxOf CX0 P w c.K mg base N qual scope f cdv A outer s H E).nox body t)
    (hw : ∀ ts Post, Sf ts Post → ts.length = n → ∀ A : Amb, A.c = c → A.keep = keep → WS A t (env0 m ts)
      (fun e => Post (.ret N_ (fin keep 0 ts e))) (fun t e => Post (.ret t (fin keep 0 ts e))) (fun _ => False) (fun _ => False)) : Fo P w c.K mg base (k + 1) x ps (spOf c n Sf) :=
  ⟨f, fd, hm, F.kp, F.bindsN hb, F.ok sc (fun vs H Q E h => by rw [spOf_len vs H Q E h, hn]) fun cdv A outer s H vs Q E hr hs =>
    ⟨t, (ht cdv A outer s H E hr).nox, fn_body keep (fun i hi => by simpa using List.all_eq_true.mp hk i hi) hl hw vs H Q E hs⟩⟩
theorem fg_of (k n m : Nat) (keep : List Nat) (F : FunD c.K x qual params body scope [] [] f fd) (hm : mg x = some (.ref f)) (hn : ps.length = n) (sc : FnScope N ps scope)
    (hb : ∀ (kV doc pm : Value) (an : Option Addr) (cdv ct : Value) (us : List Value), us.length = ps.length → bindArgs (PySem.W.fnOf x qual params body scope .none kV doc pm an cdv ct) ⟨us, []⟩ = pure (ps.zip us))
    (hk : keep.all (fun i => decide (i < n)) = true) (hl : N.length - n = m)
    (t : TS) (ht : ∀ (cdv : Value) (A : Around) (outer : List PySem.Env) (s : Shared) (H : Hp) (E : XK), (A.deeper (envOfC qual scope s.heap.objs.size f cdv)).guards = some [] → Room k (A.deeper (envOfC qual scope s.heap.objs.size f cdv)) → PSs (cxOf CX0 P w c.K mg base N qual scope f cdv A outer s H E).nox body t)
    (hw : ∀ ts Post, Sf ts Post → ts.length = n → ∀ A : Amb, A.c = c → A.keep = keep → WS A t (env0 m ts)
      (fun e => Post (.ret N_ (fin keep 0 ts e))) (fun t e => Post (.ret t (fin keep 0 ts e))) (fun _ => False) (fun _ => False)) : Fg P w c.K mg base (k + 1) x ps (spOf c n Sf) :=
  ⟨f, fd, hm, F.kp, F.bindsN hb, fng_of F sc (fun vs H Q E h => by rw [spOf_len vs H Q E h, hn]) fun cdv A outer s H vs Q E hg hr hs =>
    ⟨t, ht cdv A outer s H E hg hr, fn_body keep (fun i hi => by simpa using List.all_eq_true.mp hk i hi) hl hw vs H Q E hs⟩⟩
end
end TL
/-! TM: more operations in the forms that the texts use. -/
namespace TL
open PySem PySem.Spec PyProof.Rows L2
/-- a * b -/
def rMulA : R2 := fun x y H Q => (rI CMul (fun i j => .int (i * j)) x y H Q ∨ rI CMulW (fun i j => .int (i * j)) x y H Q) ∨ rRep x y H Q
theorem op_mulA {X : Cx} : OpR X (binaryOp .Mult) rMulA := OpR.or (OpR.or op_mul op_mulW) op_rep
def rInStr : R2 := fun x y H Q => ∃ i j, x = .str i ∧ y = .str j ∧ Q (.bl (!(Builtin.Str.occurrences j i 0 j.length 1).isEmpty)) H
def rNiStr : R2 := fun x y H Q => ∃ i j, x = .str i ∧ y = .str j ∧ Q (.bl (!(!(Builtin.Str.occurrences j i 0 j.length 1).isEmpty))) H
def rInS : R2 := fun x y H Q => ∃ (c : Nat) (z : Str), x = .str ⟨#[c]⟩ ∧ y = .str z ∧ Q (.bl (decide (c ∈ z.cps.toList))) H
def rNotInS : R2 := fun x y H Q => ∃ (c : Nat) (z : Str), x = .str ⟨#[c]⟩ ∧ y = .str z ∧ Q (.bl (!decide (c ∈ z.cps.toList))) H
def rInA (K : PySem.W.Frag) : R2 := fun x y H Q => (rIn K false x y H Q ∨ rInS x y H Q) ∨ rInStr x y H Q
def rNiA (K : PySem.W.Frag) : R2 := fun x y H Q => (rIn K true x y H Q ∨ rNotInS x y H Q) ∨ rNiStr x y H Q
theorem op_inA {X : Cx} : OpR X (compareOp .In) (rInA X.K) := OpR.or (OpR.or op_in_seq op_in_sign) op_in_str
theorem op_niA {X : Cx} : OpR X (compareOp .NotIn) (rNiA X.K) := OpR.or (OpR.or op_notIn_seq op_notIn_sign) op_notIn_str
def rIntA : List V → Hp → VK → Prop := fun xs H Q => rInt1 xs H Q ∨ ∃ a n, xs = [.str a] ∧ PySem.intText? a = some n ∧ a.length ≤ 640 ∧ Q (.int n) H
theorem call_intA {X : Cx} : CallR X (.type "int") rIntA := CallR.or call_int1 call_int_str
def rSlA (K : PySem.W.Frag) : V → Option Int → Option Int → Hp → VK → Prop := fun x lo hi H Q => rSlL K x lo hi H Q ∨ rSlS x lo hi H Q
theorem slA {X : Cx} : SlR X (rSlA X.K) := SlR.or sl_list sl_str
def tOrE (t u : TE) : TE := fun σ H Q => t σ H Q ∨ u σ H Q
theorem pe_or {X : Cx} {e : Expr} {t u : TE} (h : PE X e t) (h2 : PE X e u) : PE X e (tOrE t u) := ⟨fun pins s σ H Q I q => by
  rcases q with q | q
  · exact h.run pins s σ H Q I q
  · exact h2.run pins s σ H Q I q⟩
section
variable {A : Amb} {G H G' H' : Hp} {σ : L2.St} {env : Env} {P P' : Nat → As} {X X' X1 : As} {v x y z : V} {t t1 t2 : T} {vs : List V} {as : List Ar} {ta tb te : TE} {r : R2} {ts : List T} {a b : Ar} {Post : T → Env → Prop} {nx bk ct : Env → Prop} {rt : T → Env → Prop}
theorem wr_mul {o1 o2 : Option V} {i j : Int} (hc : CMul i j ∨ CMulW i j) (q : Post (I (i * j)) env) : WR A rMulA (.t (.frz o1 (.int i))) (.t (.frz o2 (.int j))) env Post :=
  wr_flat (d := .int (i * j)) rfl rfl (fun _ => rfl) (fun H x y e1 e2 Q q => by
    rcases hc with hc | hc
    · exact .inl (.inl ⟨i, j, e1, e2, hc, q⟩)
    · exact .inl (.inr ⟨i, j, e1, e2, hc, q⟩)) q
theorem we_orL {u : TE} (h : WE A te env Post) : WE A (tOrE te u) env Post := fun G H σ P s Q k => .inl (h G H σ P s Q k)
theorem we_orR {u : TE} (h : WE A u env Post) : WE A (tOrE te u) env Post := fun G H σ P s Q k => .inr (h G H σ P s Q k)
/-- the kinds of plain things -/
def D.isInt : D → Bool
  | .int _ => true | .bl _ => true | _ => false
def D.isBool : D → Bool
  | .bl _ => true | _ => false
def D.isStr : D → Bool
  | .str _ => true | _ => false
def D.isList : D → Bool
  | .lst _ => true | _ => false
def D.isTuple : D → Bool
  | .tup _ => true | _ => false
theorem kit_tab : (kitB "NoneType" "int" = some false ∧ kitB "bool" "int" = some true ∧ kitB "int" "int" = some true ∧ kitB "str" "int" = some false ∧ kitB "list" "int" = some false ∧ kitB "tuple" "int" = some false ∧ kitB "dict" "int" = some false) ∧
    (kitB "NoneType" "bool" = some false ∧ kitB "bool" "bool" = some true ∧ kitB "int" "bool" = some false ∧ kitB "str" "bool" = some false ∧ kitB "list" "bool" = some false ∧ kitB "tuple" "bool" = some false ∧ kitB "dict" "bool" = some false) ∧
    (kitB "NoneType" "str" = some false ∧ kitB "bool" "str" = some false ∧ kitB "int" "str" = some false ∧ kitB "str" "str" = some true ∧ kitB "list" "str" = some false ∧ kitB "tuple" "str" = some false ∧ kitB "dict" "str" = some false) ∧
    (kitB "NoneType" "list" = some false ∧ kitB "bool" "list" = some false ∧ kitB "int" "list" = some false ∧ kitB "str" "list" = some false ∧ kitB "list" "list" = some true ∧ kitB "tuple" "list" = some false ∧ kitB "dict" "list" = some false) ∧
    (kitB "NoneType" "tuple" = some false ∧ kitB "bool" "tuple" = some false ∧ kitB "int" "tuple" = some false ∧ kitB "str" "tuple" = some false ∧ kitB "list" "tuple" = some false ∧ kitB "tuple" "tuple" = some true ∧ kitB "dict" "tuple" = some false) := by decide +kernel
theorem kit_int {d : D} {n : String} (h : d.tyn = some n) : kitB n "int" = some d.isInt := by
  obtain ⟨⟨h1, h2, h3, h4, h5, h6, h7⟩, _⟩ := kit_tab
  cases d <;> cases h <;> assumption
theorem kit_bool {d : D} {n : String} (h : d.tyn = some n) : kitB n "bool" = some d.isBool := by
  obtain ⟨_, ⟨h1, h2, h3, h4, h5, h6, h7⟩, _⟩ := kit_tab
  cases d <;> cases h <;> assumption
theorem kit_str {d : D} {n : String} (h : d.tyn = some n) : kitB n "str" = some d.isStr := by
  obtain ⟨_, _, ⟨h1, h2, h3, h4, h5, h6, h7⟩, _⟩ := kit_tab
  cases d <;> cases h <;> assumption
theorem kit_list {d : D} {n : String} (h : d.tyn = some n) : kitB n "list" = some d.isList := by
  obtain ⟨_, _, _, ⟨h1, h2, h3, h4, h5, h6, h7⟩, _⟩ := kit_tab
  cases d <;> cases h <;> assumption
theorem kit_tuple {d : D} {n : String} (h : d.tyn = some n) : kitB n "tuple" = some d.isTuple := by
  obtain ⟨_, _, _, _, ⟨h1, h2, h3, h4, h5, h6, h7⟩⟩ := kit_tab
  cases d <;> cases h <;> assumption
/-- d's kind is known -/
abbrev D.typ (d : D) : Prop := ∃ n, d.tyn = some n
theorem wi_int {d : D} {o : Option V} (h : arD env a = some d) (ht : d.typ) (q : Post (B d.isInt) env) : WC A (rIsi A.c.K) [a, .t (.frz o (.oth (.ty "int")))] env Post := let ⟨_, e⟩ := ht; wc_isi h e (kit_int e) q
theorem wi_bool {d : D} {o : Option V} (h : arD env a = some d) (ht : d.typ) (q : Post (B d.isBool) env) : WC A (rIsi A.c.K) [a, .t (.frz o (.oth (.ty "bool")))] env Post := let ⟨_, e⟩ := ht; wc_isi h e (kit_bool e) q
theorem wi_str {d : D} {o : Option V} (h : arD env a = some d) (ht : d.typ) (q : Post (B d.isStr) env) : WC A (rIsi A.c.K) [a, .t (.frz o (.oth (.ty "str")))] env Post := let ⟨_, e⟩ := ht; wc_isi h e (kit_str e) q
theorem wi_list_ {d : D} {o : Option V} (h : arD env a = some d) (ht : d.typ) (q : Post (B d.isList) env) : WC A (rIsi A.c.K) [a, .t (.frz o (.oth (.ty "list")))] env Post := let ⟨_, e⟩ := ht; wc_isi h e (kit_list e) q
theorem wi_tuple {d : D} {o : Option V} (h : arD env a = some d) (ht : d.typ) (q : Post (B d.isTuple) env) : WC A (rIsi A.c.K) [a, .t (.frz o (.oth (.ty "tuple")))] env Post := let ⟨_, e⟩ := ht; wc_isi h e (kit_tuple e) q
/-- a for over a list -/
theorem ws_for_list {tl : TE} {g : TG} {tb : TS} (h : WE A tl env fun t e => ∃ ds, t.data = .lst ds ∧ ∃ Iv : Nat → Env → Prop, Iv 0 e ∧ (∀ i d e, ds[i]? = some d → Iv i e → WG A wAll g (.frz none d) e fun e => WS A tb e (Iv (i + 1)) rt nx (Iv (i + 1))) ∧ ∀ e, Iv ds.length e → nx e) :
    WS A (tFor (iList A.c.K tl) g tb) env nx rt bk ct := ws_for (wi_list (we_imp h fun t e ⟨ds, e1, Iv, h0, hs, hd⟩ => ⟨ds, e1, Iv, h0, fun i e hi q => hs i _ e (by show ds[i]? = some (ds.getD i .non); rw [List.getD_eq_getElem?_getD, List.getElem?_eq_getElem hi]; rfl) q, hd⟩))
/-- a for over range(n) -/
theorem ws_for_rng1 {tr : TA} {g : TG} {tb : TS} (h : WA A tr env fun as e => ∃ o j, as = [.t (.frz o (.int j))] ∧ -(2 ^ 62) ≤ j ∧ j < 2 ^ 62 ∧ ∃ Iv : Nat → Env → Prop, Iv 0 e ∧ (∀ (i : Nat) e, (i : Int) < j → Iv i e → WG A wAll g (I i) e fun e => WS A tb e (Iv (i + 1)) rt nx (Iv (i + 1))) ∧ ∀ e, Iv j.toNat e → nx e) :
    WS A (tFor (iRng1 tr) g tb) env nx rt bk ct := ws_for (wi_rng1 fun G H σ P s Q k => h G H σ P s Q fun as e vs G' H' P' F q r => k as e vs G' H' P' F (by
  obtain ⟨o, j, e1, h1, h2, Iv, h0, hs, hd⟩ := q
  refine ⟨o, j, e1, h1, h2, Iv, h0, fun i e hi q => ?_, hd⟩
  have := hs i e (by omega) q
  show WG A wAll g (.frz none (.int (0 + (i : Int)))) e _
  rw [Int.zero_add]
  exact this) r)
theorem we_lc_rng1 {tr : TA} {g : TG} {tt : TT} {ws : List Nat} (hk : (A.keep.all fun i => !ws.contains i) = true)
    (h : WA A tr env fun as e0 => ∃ o j, as = [.t (.frz o (.int j))] ∧ -(2 ^ 62) ≤ j ∧ j ≤ 100000 ∧ ∃ Iv : Nat → List T → Env → Prop, Iv 0 [] (wipeE e0 ws) ∧
      (∀ (i : Nat) acc e, (i : Int) < j → acc.length ≤ i → Iv i acc e → WG A (fun j => j ∈ ws) g (I i) e fun e1 => WT A tt e1 fun b e2 => (b = true → WE A te e2 fun t e3 => Iv (i + 1) (acc ++ [t]) (wipeE e3 ws)) ∧ (b = false → Iv (i + 1) acc (wipeE e2 ws))) ∧
      ∀ acc e, acc.length ≤ j.toNat → Iv j.toNat acc e → Post (.lst acc) (restore e0 ws e)) : WE A (tLc (iRng1 tr) g tt te ws) env Post := we_lc hk (wi_rng1 fun G H σ P s Q k => h G H σ P s Q fun as e vs G' H' P' F q r => k as e vs G' H' P' F (by
  obtain ⟨o, j, e1, h1, h2, Iv, h0, hs, hd⟩ := q
  refine ⟨o, j, e1, h1, by omega, by omega, Iv, h0, fun i acc e hi l q => ?_, hd⟩
  have := hs i acc e (by omega) l q
  show WG A _ g (.frz none (.int (0 + (i : Int)))) e _
  rw [Int.zero_add]
  exact this) r)
theorem wt_yes {Post : Bool → Env → Prop} (q : Post true env) : WT A tYes env Post := fun G H σ P s Q k => k true env G H P q s Stp.refl
end
end TL
/-! TN: operations in the shapes that the walk meets; branches; arithmetic. -/
namespace TL
open PySem PySem.Spec PyProof.Rows L2
section
variable {A : Amb} {G H G' H' : Hp} {σ : L2.St} {env : Env} {P P' : Nat → As} {X X' X1 : As} {v x y z : V} {t t1 t2 : T} {vs : List V} {as : List Ar} {ta tb te : TE} {r : R2} {ts : List T} {a b : Ar} {Post : T → Env → Prop} {nx bk ct : Env → Prop} {rt : T → Env → Prop}
theorem fi_int {d : D} {o o2 : Option V} (ht : d.typ) (q : Post (B d.isInt) env) : WC A (rIsi A.c.K) [.t (.frz o2 d), .t (.frz o (.oth (.ty "int")))] env Post := wi_int rfl ht q
theorem fi_bool {d : D} {o o2 : Option V} (ht : d.typ) (q : Post (B d.isBool) env) : WC A (rIsi A.c.K) [.t (.frz o2 d), .t (.frz o (.oth (.ty "bool")))] env Post := wi_bool rfl ht q
theorem fi_str {d : D} {o o2 : Option V} (ht : d.typ) (q : Post (B d.isStr) env) : WC A (rIsi A.c.K) [.t (.frz o2 d), .t (.frz o (.oth (.ty "str")))] env Post := wi_str rfl ht q
theorem fi_list {d : D} {o o2 : Option V} (ht : d.typ) (q : Post (B d.isList) env) : WC A (rIsi A.c.K) [.t (.frz o2 d), .t (.frz o (.oth (.ty "list")))] env Post := wi_list_ rfl ht q
theorem fi_tuple {d : D} {o o2 : Option V} (ht : d.typ) (q : Post (B d.isTuple) env) : WC A (rIsi A.c.K) [.t (.frz o2 d), .t (.frz o (.oth (.ty "tuple")))] env Post := wi_tuple rfl ht q
theorem fl_lst {ds : List D} {o : Option V} (q : Post (I ds.length) env) : WC A (rLenA A.c.K) [.t (.frz o (.lst ds))] env Post := wc_len rfl rfl q
theorem fl_tup {ds : List D} {o : Option V} (q : Post (I ds.length) env) : WC A (rLenA A.c.K) [.t (.frz o (.tup ds))] env Post := wc_len rfl rfl q
theorem fl_scr {ns : List Int} {o : Option V} (q : Post (I ns.length) env) : WC A (rLenA A.c.K) [.t (.frz o (.scr ns))] env Post := wc_len rfl rfl q
theorem fl_str {s : Str} {o : Option V} (hl : s.length ≤ 1000000) (q : Post (I s.length) env) : WC A (rLenA A.c.K) [.t (.frz o (.str s))] env Post := wc_len rfl (show (if s.length ≤ 1000000 then some s.length else none) = _ from if_pos hl) q
theorem datas_len : ∀ ts : List T, (T.datas ts).length = ts.length
  | [] => rfl
  | t :: ts => by show (T.datas ts).length + 1 = ts.length + 1; rw [datas_len ts]
theorem fl_slot {n : Nat} {ts : List T} (he : env[n]? = some (some (.lst ts))) (q : Post (I ts.length) env) : WC A (rLenA A.c.K) [.s n] env Post := wc_len (d := .lst (T.datas ts)) (by show (match env[n]? with | some (some t) => some t.data | _ => none) = _; rw [he]; rfl) (by show some (T.datas ts).length = some ts.length; rw [datas_len]) q
theorem fl_tmp {ts : List T} (q : Post (I ts.length) env) : WC A (rLenA A.c.K) [.t (.lst ts)] env Post := wc_len (d := .lst (T.datas ts)) rfl (by show some (T.datas ts).length = some ts.length; rw [datas_len]) q
theorem wc_int_int {i : Int} {o : Option V} (q : Post (I i) env) : WC A rIntA [.t (.frz o (.int i))] env Post :=
  wc_one (f := fun _ _ _ => True) (d := .int i) (d' := .int i) rfl (fun _ => rfl) (fun H x e Q q => .inl (.inl ⟨i, by rw [show x = .int i from e], q⟩)) q
theorem wc_intb {k : Bool} {o : Option V} (q : Post (I (if k then 1 else 0)) env) : WC A rIntA [.t (.frz o (.bl k))] env Post :=
  wc_one (f := fun _ _ _ => True) (d := .bl k) (d' := .int (if k then 1 else 0)) rfl (fun _ => rfl) (fun H x e Q q => .inl (.inr ⟨k, by rw [show x = .bl k from e], q⟩)) q
end
/-! ### branches -/
section
variable {p : Prop} [Decidable p] {P Q : Prop}
theorem br_dec (h1 : p → P) (h2 : ¬ p → Q) : (decide p = true → P) ∧ (decide p = false → Q) := ⟨fun h => h1 (of_decide_eq_true h), fun h => h2 (of_decide_eq_false h)⟩
theorem br_ndec (h1 : ¬ p → P) (h2 : p → Q) : ((!decide p) = true → P) ∧ ((!decide p) = false → Q) := ⟨fun h => h1 (by simpa using h), fun h => h2 (by simpa using h)⟩
theorem br_nndec (h1 : p → P) (h2 : ¬ p → Q) : ((!!decide p) = true → P) ∧ ((!!decide p) = false → Q) := ⟨fun h => h1 (by simpa using h), fun h => h2 (by simpa using h)⟩
theorem br_decF (h1 : ¬ p → P) (h2 : p → Q) : (decide p = false → P) ∧ (decide p = true → Q) := ⟨fun h => h1 (of_decide_eq_false h), fun h => h2 (of_decide_eq_true h)⟩
theorem br_ndecF (h1 : p → P) (h2 : ¬ p → Q) : ((!decide p) = false → P) ∧ ((!decide p) = true → Q) := ⟨fun h => h1 (by simpa using h), fun h => h2 (by simpa using h)⟩
theorem br_T {P Q : Prop} (h : P) : (true = true → P) ∧ (true = false → Q) := ⟨fun _ => h, fun h => Bool.noConfusion h⟩
theorem br_F {P Q : Prop} (h : Q) : (false = true → P) ∧ (false = false → Q) := ⟨fun h => Bool.noConfusion h, fun _ => h⟩
theorem br_T' {P Q : Prop} (h : Q) : (true = false → P) ∧ (true = true → Q) := ⟨fun h => Bool.noConfusion h, fun _ => h⟩
theorem br_F' {P Q : Prop} (h : P) : (false = false → P) ∧ (false = true → Q) := ⟨fun _ => h, fun h => Bool.noConfusion h⟩
theorem br_nT {P Q : Prop} (h : Q) : ((!true) = true → P) ∧ ((!true) = false → Q) := ⟨fun h => Bool.noConfusion h, fun _ => h⟩
theorem br_nF {P Q : Prop} (h : P) : ((!false) = true → P) ∧ ((!false) = false → Q) := ⟨fun _ => h, fun h => Bool.noConfusion h⟩
theorem br_nT' {P Q : Prop} (h : P) : ((!true) = false → P) ∧ ((!true) = true → Q) := ⟨fun _ => h, fun h => Bool.noConfusion h⟩
theorem br_nF' {P Q : Prop} (h : Q) : ((!false) = false → P) ∧ ((!false) = true → Q) := ⟨fun h => Bool.noConfusion h, fun _ => h⟩
theorem br_n {b : Bool} {P Q : Prop} (h1 : b = false → P) (h2 : b = true → Q) : ((!b) = true → P) ∧ ((!b) = false → Q) := ⟨fun h => h1 (by simpa using h), fun h => h2 (by simpa using h)⟩
theorem br_nn {b : Bool} {P Q : Prop} (h1 : b = true → P) (h2 : b = false → Q) : ((!b) = false → P) ∧ ((!b) = true → Q) := ⟨fun h => h1 (by simpa using h), fun h => h2 (by simpa using h)⟩
end
theorem ret_B {Post : FO → Prop} {b b' : Bool} {ts ts' : Env} (h : Post (.ret (B b) ts)) (e : b' = b) (e2 : ts' = ts) : Post (.ret (B b') ts') := by rw [e, e2]; exact h
/-! ### items of a list made on the way -/
def intsOf : List T → Option (List Int)
  | [] => some []
  | .frz none (.int i) :: r => (intsOf r).map (i :: ·)
  | _ => none
theorem intsOf_eq : ∀ {ts : List T} {is : List Int}, intsOf ts = some is → ts = is.map I
  | [], is, h => by cases h; rfl
  | t :: r, is, h => by
    unfold intsOf at h
    split at h
    · rename_i e; cases e
    · rename_i i r' e
      cases e
      cases q : intsOf r with
      | none => rw [q] at h; cases h
      | some is' =>
        rw [q] at h
        cases h
        rw [intsOf_eq q]; rfl
    · cases h
theorem atI_nat {α : Type} {xs : List α} {i : Int} (h0 : 0 ≤ i) (h1 : i < xs.length) : ∃ j : Nat, (j : Int) = i ∧ ∃ hj : j < xs.length, atI xs i = some (xs[j]) := by
  obtain ⟨j, rfl⟩ := Int.eq_ofNat_of_zero_le h0
  have hj : j < xs.length := by omega
  refine ⟨j, rfl, hj, ?_⟩
  unfold atI ixN
  have e1 : ¬ ((j : Int) < 0) := by omega
  simp [e1, hj]
section
variable {A : Amb} {G H G' H' : Hp} {σ : L2.St} {env : Env} {P P' : Nat → As} {X X' X1 : As} {v x y z : V} {t t1 t2 : T} {vs : List V} {as : List Ar} {ta tb te : TE} {r : R2} {ts : List T} {a b : Ar} {Post : T → Env → Prop}
theorem wr_ix_tmpI {o2 : Option V} {ts : List T} {is : List Int} {i : Int} (h : intsOf ts = some is) (h0 : 0 ≤ i) (h1 : i < is.length) (q : ∀ n, n ∈ is → Post (I n) env) : WR A (rIxA A.c.K) (.t (.lst ts)) (.t (.frz o2 (.int i))) env Post := by
  obtain ⟨j, _, hj, e⟩ := atI_nat (xs := is) h0 h1
  have e2 := intsOf_eq h
  subst e2
  obtain ⟨j2, hj2, e3⟩ := atI_eq (ys := is.map I) e (by simp)
  refine wr_ix_tmp (t := I (is[j])) ?_ (q _ (List.getElem_mem hj))
  rw [e3, List.getElem?_map, hj2]; rfl
/-- what a reading gives, fixed -/
theorem WR.fixd (h : WR A r a b env fun t e => Post (.frz none t.data) e) : WR A r a b env Post := fun G H σ P x y X s m Q k => h G H σ P x y X s m Q fun t e v G' H' P' F q r => by
  obtain ⟨s2, st2, rp⟩ := fixT r.sr r.tm
  exact k _ e v _ H' P' noF q ⟨s2, (r.st.trans st2).wk (fun _ h => h) (fun a z => by rcases z with z | z; exact .inl z; exact z.elim), .flat rp fun _ z => nomatch z⟩
theorem datas_mem : ∀ {ts : List T} {t : T}, t ∈ ts → t.data ∈ T.datas ts
  | t :: ts, u, h => by
    show u.data ∈ t.data :: T.datas ts
    rcases List.mem_cons.mp h with e | e
    · subst e; exact List.mem_cons_self
    · exact List.mem_cons_of_mem _ (datas_mem e)
theorem wr_ix_tmpD {o2 : Option V} {ts : List T} {i : Int} (h0 : 0 ≤ i) (h1 : i < ts.length) (q : ∀ d, d ∈ T.datas ts → Post (F d) env) : WR A (rIxA A.c.K) (.t (.lst ts)) (.t (.frz o2 (.int i))) env Post := by
  obtain ⟨j, _, hj, e⟩ := atI_nat (xs := ts) h0 h1
  exact WR.fixd (wr_ix_tmp e (q _ (datas_mem (List.getElem_mem hj))))
/-! ### arithmetic -/
theorem wr_pow {o1 o2 : Option V} {i j k : Int} (hc : CPow i j) (hk : i ^ j.toNat = k) (q : Post (I k) env) : WR A (rI CPow fun i j => .int (i ^ j.toNat)) (.t (.frz o1 (.int i))) (.t (.frz o2 (.int j))) env Post := by
  subst hk; exact wr_I (g := fun i j => i ^ j.toNat) hc q
theorem wr_mod {o1 o2 : Option V} {i j : Int} (hc : 0 < j) (q : ∀ r, r = i % j → 0 ≤ r → r < j → Post (I r) env) : WR A (rI (fun _ j => 0 < j) fun i j => .int (i % j)) (.t (.frz o1 (.int i))) (.t (.frz o2 (.int j))) env Post :=
  wr_I (C := fun _ j => 0 < j) (g := fun i j => i % j) hc (q _ rfl (Int.emod_nonneg _ (by omega)) (Int.emod_lt_of_pos _ hc))
theorem wr_div {o1 o2 : Option V} {i j : Int} (hc : CDivW i j) (q : Post (I (i / j)) env) : WR A (rI CDivW fun i j => .int (i / j)) (.t (.frz o1 (.int i))) (.t (.frz o2 (.int j))) env Post :=
  wr_I (C := CDivW) (g := fun i j => i / j) hc q
end
theorem cdivw {i j : Int} (h : 0 < j) (h2 : j < 10 ^ 60) : CDivW i j := ⟨h, by
  have h3 : j.natAbs < 2 ^ 200 := by
    have : (10 : Int) ^ 60 < 2 ^ 200 := by decide
    omega
  have : j.natAbs ≠ 0 := by omega
  have := (Nat.log2_lt this).mpr h3
  omega⟩
theorem cmul1 {i j : Int} (h1 : -(2 ^ 64) < i) (h2 : i < 2 ^ 64) : CMul i j ∨ CMulW i j := .inl (.inl ⟨h1, h2⟩)
theorem cmul2 {i j : Int} (h1 : -(2 ^ 64) < j) (h2 : j < 2 ^ 64) : CMul i j ∨ CMulW i j := .inl (.inr ⟨h1, h2⟩)
theorem cpow {i j : Int} (h0 : 0 ≤ j) (h1 : j ≤ 1000000) (h2 : -(2 ^ 64) < i) (h3 : i < 2 ^ 64) : CPow i j := ⟨h0, h1, by omega⟩
end TL
/-! TS: what the laws share: boxes of numbers, small data. -/
namespace TL
open PySem PySem.Spec PyProof.Rows L2
def Wk (c : Cn) (n m : Nat) (keep : List Nat) (Sf : FS) (t : TS) : Prop := ∀ ts Post, Sf ts Post → ts.length = n → ∀ A : Amb, A.c = c → A.keep = keep → WS A t (env0 m ts)
  (fun e => Post (.ret N_ (fin keep 0 ts e))) (fun t e => Post (.ret t (fin keep 0 ts e))) (fun _ => False) (fun _ => False)
/-- the laws' box of numbers: rest, seed, turns -/
def Box (m : Nat) (t : T) : Prop := ∃ a b c : Int, t = .lst [I a, I b, I c] ∧ 0 ≤ a ∧ 0 ≤ b ∧ b < 2147483647 ∧ 0 ≤ c ∧ c ≤ m
theorem box_mk {a b c : Int} {m : Nat} (h1 : 0 ≤ a) (h2 : 0 ≤ b) (h3 : b < 2147483647) (h4 : 0 ≤ c) (h5 : c ≤ m) : Box m (.lst [I a, I b, I c]) := ⟨a, b, c, rfl, h1, h2, h3, h4, h5⟩
theorem box_up {t : T} {m n : Nat} (h : Box m t) (h2 : m ≤ n) : Box n t := let ⟨a, b, c, e, h1, h3, h4, h5, h6⟩ := h; ⟨a, b, c, e, h1, h3, h4, h5, by omega⟩
theorem log2_lt {i : Int} (h : -(10 ^ 60) < i) (h2 : i < 10 ^ 60) : i.natAbs.log2 < 1920 := by
  have h3 : i.natAbs < 2 ^ 200 := by
    have : (10 : Int) ^ 60 < 2 ^ 200 := by decide
    omega
  by_cases z : i.natAbs = 0
  · rw [z]; decide
  · have := (Nat.log2_lt z).mpr h3
    omega
section
variable {A : Amb} {G H G' H' : Hp} {σ : L2.St} {env : Env} {P P' : Nat → As} {X X' X1 : As} {v x y z : V} {t t1 t2 : T} {vs : List V} {as : List Ar} {ta tb te : TE} {r : R2} {ts : List T} {a b : Ar} {Post : T → Env → Prop} {nx bk ct : Env → Prop} {rt : T → Env → Prop}
theorem wr_ix_scrI {ov o2 : Option V} {ns : List Int} {i : Int} (h0 : 0 ≤ i) (h1 : i < ns.length) (q : ∀ n, n ∈ ns → Post (I n) env) : WR A (rIxA A.c.K) (.t (.frz ov (.scr ns))) (.t (.frz o2 (.int i))) env Post := by
  obtain ⟨j, _, hj, e⟩ := atI_nat (xs := ns) h0 h1
  exact wr_ix_scr e (q _ (List.getElem_mem hj))
theorem wg_nameK {W : Nat → Prop} {i : Nat} {t : T} {K : List Nat} {Post : Env → Prop} (hi : Nat.ble (i + 1) env.length = true) (e : A.keep = K) (hk : K.contains i = false) (h : Post (env.set i (some t))) (hw : W i := by trivial) : WG A W (gName i) t env Post := wg_name (Nat.le_of_ble_eq_true hi) (e ▸ hk) h hw
theorem wc_maxR {i j : Int} {o o2 : Option V} (q : ∀ r : Int, i ≤ r → j ≤ r → (r = i ∨ r = j) → Post (I r) env) : WC A rMax2 [.t (.frz o (.int i)), .t (.frz o2 (.int j))] env Post :=
  wc_max2 (q _ (by split <;> omega) (by split <;> omega) (by split <;> omega))
theorem wc_minR {i j : Int} {o o2 : Option V} (q : ∀ r : Int, r ≤ i → r ≤ j → (r = i ∨ r = j) → Post (I r) env) : WC A rMin2 [.t (.frz o (.int i)), .t (.frz o2 (.int j))] env Post :=
  wc_min2 (q _ (by split <;> omega) (by split <;> omega) (by split <;> omega))
theorem fi_repr {d : D} {o : Option V} (hd : d.ok) (q : Post (S d.py.shown) env) : WC A (rRepr A.c.K) [.t (.frz o d)] env Post := wc_repr rfl hd q
/-- a name's own thing may be fixed ahead of any statement -/
theorem ws_fix {i : Nat} {s : TS} (h : env[i]? = some (some t)) (q : WS A s (env.set i (some (.frz none t.data))) nx rt bk ct) : WS A s env nx rt bk ct := fun G H σ P sr D n rt bk ct => by
  obtain ⟨v, hv, rp, s', st⟩ := sr.fix i h
  exact q _ _ _ _ s' D (fun e G' H' σ' P' p s2 x => n e G' H' σ' P' p s2 (st.g.trans x)) rt (fun e G' H' σ' P' p s2 x => bk e G' H' σ' P' p s2 (st.g.trans x)) (fun e G' H' σ' P' p s2 x => ct e G' H' σ' P' p s2 (st.g.trans x))
end
/-! ### loops -/
def SetsE : List Nat → Env → Env → Prop
  | [], e0, e => e = e0
  | k :: ks, e0, e => ∃ x, SetsE ks (e0.set k x) e
theorem loop_list {A : Amb} {ds : List D} {e0 : Env} {nx : Env → Prop} {rt : T → Env → Prop} {g : TG} {tb : TS} (J : Env → Nat → Env → Prop) (h0 : J e0 0 e0)
    (hs : ∀ i d e, ds[i]? = some d → J e0 i e → WG A wAll g (.frz none d) e fun e => WS A tb e (J e0 (i + 1)) rt nx (J e0 (i + 1))) (hd : ∀ e, J e0 ds.length e → nx e) :
    ∃ Iv : Nat → Env → Prop, Iv 0 e0 ∧ (∀ i d e, ds[i]? = some d → Iv i e → WG A wAll g (.frz none d) e fun e => WS A tb e (Iv (i + 1)) rt nx (Iv (i + 1))) ∧ ∀ e, Iv ds.length e → nx e := ⟨J e0, h0, hs, hd⟩
theorem loop_listP {A : Amb} {ds : List D} {e0 : Env} {nx : Env → Prop} {rt : T → Env → Prop} {g : TG} {tb : TS} {p : D → Prop} (J : Env → Nat → Env → Prop) (hp : ∀ d, d ∈ ds → p d) (h0 : J e0 0 e0)
    (hs : ∀ i d e, ds[i]? = some d → p d → J e0 i e → WG A wAll g (.frz none d) e fun e => WS A tb e (J e0 (i + 1)) rt nx (J e0 (i + 1))) (hd : ∀ e, J e0 ds.length e → nx e) :
    ∃ Iv : Nat → Env → Prop, Iv 0 e0 ∧ (∀ i d e, ds[i]? = some d → Iv i e → WG A wAll g (.frz none d) e fun e => WS A tb e (Iv (i + 1)) rt nx (Iv (i + 1))) ∧ ∀ e, Iv ds.length e → nx e := ⟨J e0, h0, fun i d e h => hs i d e h (hp d (List.mem_of_getElem? h)), hd⟩
theorem loop_rng {A : Amb} {j : Int} {e0 : Env} {nx : Env → Prop} {rt : T → Env → Prop} {g : TG} {tb : TS} (J : Env → Nat → Env → Prop) (h0 : J e0 0 e0)
    (hs : ∀ (i : Nat) e, (i : Int) < j → J e0 i e → WG A wAll g (I i) e fun e => WS A tb e (J e0 (i + 1)) rt nx (J e0 (i + 1))) (hd : ∀ e, J e0 j.toNat e → nx e) :
    ∃ Iv : Nat → Env → Prop, Iv 0 e0 ∧ (∀ (i : Nat) e, (i : Int) < j → Iv i e → WG A wAll g (I i) e fun e => WS A tb e (Iv (i + 1)) rt nx (Iv (i + 1))) ∧ ∀ e, Iv j.toNat e → nx e := ⟨J e0, h0, hs, hd⟩
theorem loop_lc {A : Amb} {j : Int} {e0 : Env} {ws : List Nat} {g : TG} {tt : TT} {te : TE} {R : List T → Env → Prop} (J : Env → Nat → List T → Env → Prop) (h0 : J (wipeE e0 ws) 0 [] (wipeE e0 ws))
    (hs : ∀ (i : Nat) acc e, (i : Int) < j → acc.length ≤ i → J (wipeE e0 ws) i acc e → WG A (fun j => j ∈ ws) g (I i) e fun e1 => WT A tt e1 fun b e2 => (b = true → WE A te e2 fun t e3 => J (wipeE e0 ws) (i + 1) (acc ++ [t]) (wipeE e3 ws)) ∧ (b = false → J (wipeE e0 ws) (i + 1) acc (wipeE e2 ws)))
    (hd : ∀ acc e, acc.length ≤ j.toNat → J (wipeE e0 ws) j.toNat acc e → R acc e) :
    ∃ Iv : Nat → List T → Env → Prop, Iv 0 [] (wipeE e0 ws) ∧
      (∀ (i : Nat) acc e, (i : Int) < j → acc.length ≤ i → Iv i acc e → WG A (fun j => j ∈ ws) g (I i) e fun e1 => WT A tt e1 fun b e2 => (b = true → WE A te e2 fun t e3 => Iv (i + 1) (acc ++ [t]) (wipeE e3 ws)) ∧ (b = false → Iv (i + 1) acc (wipeE e2 ws))) ∧
      ∀ acc e, acc.length ≤ j.toNat → Iv j.toNat acc e → R acc e := ⟨J _, h0, hs, hd⟩
theorem take_step {α : Type} {p : α → Prop} {ds : List α} {i : Nat} {x : α} (hx : ds[i]? = some x) (ha : ∀ z, z ∈ ds.take i → p z) (h : p x) : ∀ z, z ∈ ds.take (i + 1) → p z := fun z hz => by
  rw [List.take_add_one, hx] at hz
  rcases List.mem_append.mp hz with hz | hz
  · exact ha z hz
  · rcases List.mem_singleton.mp hz with rfl
    exact h
theorem take_all {α : Type} {p : α → Prop} {ds : List α} (ha : ∀ z, z ∈ ds.take ds.length → p z) : ∀ z, z ∈ ds → p z := by rwa [List.take_length] at ha
theorem all_no {α : Type} {p : α → Bool} {ds : List α} {x : α} (hx : x ∈ ds) (h : p x = false) : ds.all p = false := List.all_eq_false.mpr ⟨x, hx, by rw [h]; exact Bool.false_ne_true⟩
theorem all_yes {α : Type} {p : α → Bool} {ds : List α} (h : ∀ x, x ∈ ds → p x = true) : ds.all p = true := List.all_eq_true.mpr h
def D.typB : D → Bool
  | .scr _ => false | .oth _ => false | .dit _ => false | .ins _ _ => false | _ => true
theorem typB_ok {d : D} (h : d.typB = true) : d.typ := by cases d <;> first | exact ⟨_, rfl⟩ | cases h
theorem typs_ok {ds : List D} (h : ds.all D.typB = true) : ∀ d, d ∈ ds → d.typ := fun d hd => typB_ok (List.all_eq_true.mp h d hd)
theorem tmps_n : tmps [] = some [] := rfl
theorem tmps_c {t : T} {r : List Ar} {ts : List T} (h : tmps r = some ts) : tmps (.t t :: r) = some (t :: ts) := by show (tmps r).map (t :: ·) = _; rw [h]; rfl
theorem datas_F : ∀ ds : List D, T.datas (ds.map F) = ds
  | [] => rfl
  | d :: ds => by show d :: T.datas (ds.map F) = d :: ds; rw [datas_F ds]
theorem datas_map : ∀ ts : List T, T.datas ts = ts.map T.data
  | [] => rfl
  | d :: ds => by show d.data :: T.datas ds = d.data :: ds.map T.data; rw [datas_map ds]
theorem datas_I : ∀ ns : List Int, T.datas (ns.map I) = ns.map D.int
  | [] => rfl
  | d :: ds => by show D.int d :: T.datas (ds.map I) = D.int d :: ds.map D.int; rw [datas_I ds]
theorem datas_set : ∀ (ts : List T) (j : Nat) (t : T), T.datas (ts.set j t) = (T.datas ts).set j t.data
  | [], _, _ => rfl
  | u :: ts, 0, t => rfl
  | u :: ts, j + 1, t => by show u.data :: T.datas (ts.set j t) = u.data :: (T.datas ts).set j t.data; rw [datas_set ts]
theorem ixN_ok {n : Nat} {k : Int} (h0 : 0 ≤ k) (h1 : k < n) : ixN n k = some k.toNat := by
  unfold ixN
  have e1 : ¬ k < 0 := by omega
  have e2 : k.toNat < n := by omega
  simp [e1, h0, h1, e2]
/-! ### small data -/
structure D.sm (b w k : Nat) (d : D) : Prop where
  pl : d.plain = true
  sh : d.py.showable = true
  nd : d.py.hasDict = false
  dp : d.py.depth ≤ k
  lv : d.py.leavesShort b = true
  wt : d.py.weight ≤ w
theorem D.sm.up {b w k w' k' : Nat} {d : D} (h : d.sm b w k) (h1 : w ≤ w') (h2 : k ≤ k') : d.sm b w' k' := ⟨h.pl, h.sh, h.nd, Nat.le_trans h.dp h2, h.lv, Nat.le_trans h.wt h1⟩
theorem D.sm.ok {b w k : Nat} {d : D} (h : d.sm b w k) (h8 : 8 ≤ b) (hk : k ≤ 100) (hw : (b + 2) * w + b ≤ 16777216) : d.ok :=
  ⟨h.pl, h.sh, h.nd, Nat.le_trans h.dp hk, by
    have := PyData.shown_le b h8 _ h.lv
    have := Nat.mul_le_mul_left (b + 2) h.wt
    rw [sizeLine_eq]; omega⟩
theorem D.sm.typ {b w k : Nat} {d : D} (h : d.sm b w k) : d.typ := by
  have := h.pl
  cases d <;> first | exact ⟨_, rfl⟩ | exact absurd this (fun h => nomatch h)
theorem sm_int {i : Int} {b w n : Nat} (h : i.natAbs < 10 ^ n) (hn : 0 < n) (hb : n + 1 ≤ b) (h2 : i.natAbs < 2 ^ w) (hw : w ≤ 1900) : (D.int i).sm b (w + 1) 0 := by
  have hl : i.natAbs.log2 < w + 1 := by
    by_cases z : i.natAbs = 0
    · rw [z]; show 0 < w + 1; omega
    · have := (Nat.log2_lt z).mpr h2
      omega
  refine ⟨rfl, ?_, rfl, Nat.le_refl _, ?_, ?_⟩
  · show decide (i.natAbs.log2 < 1920) = true
    exact decide_eq_true (by omega)
  · have e := int_text_length_le10 (k := n) hn h
    show decide ((Str.ofString (toString i)).length ≤ b) = true
    rw [PySem.ofString_length]
    exact decide_eq_true (Nat.le_trans e hb)
  · show (if i == 0 then 0 else i.natAbs.log2 + 1) ≤ w + 1
    split
    · omega
    · rename_i z
      have z' : i.natAbs ≠ 0 := by
        intro e
        apply z
        have : i = 0 := by omega
        simp [this]
      have := (Nat.log2_lt z').mpr h2
      omega
theorem sm_bl {x : Bool} {b : Nat} : (D.bl x).sm b 0 0 := ⟨rfl, rfl, rfl, Nat.le_refl _, rfl, Nat.le_refl _⟩
theorem sm_non {b : Nat} : D.non.sm b 0 0 := ⟨rfl, rfl, rfl, Nat.le_refl _, rfl, Nat.le_refl _⟩
theorem sm_str {b w : Nat} {s : Str} (h : (s.cps.toList.all fun c => decide (c < 16 ^ 8)) = true) (hw : s.length ≤ w) : (D.str s).sm b w 0 := ⟨rfl, rfl, rfl, Nat.le_refl _, h, hw⟩
def D.smB (b w k : Nat) (d : D) : Bool := d.plain && d.py.showable && !d.py.hasDict && decide (d.py.depth ≤ k) && d.py.leavesShort b && decide (d.py.weight ≤ w)
theorem smB_ok {b w k : Nat} {d : D} (h : d.smB b w k = true) : d.sm b w k := by
  unfold D.smB at h
  simp only [Bool.and_eq_true, decide_eq_true_eq, Bool.not_eq_true'] at h
  obtain ⟨⟨⟨⟨⟨h1, h2⟩, h3⟩, h4⟩, h5⟩, h6⟩ := h
  exact ⟨h1, h2, h3, h4, h5, h6⟩
theorem sms {b w k : Nat} : ∀ {ds : List D}, (∀ d, d ∈ ds → d.sm b w k) → D.plains ds = true ∧ PyData.showableAll (D.pys ds) = true ∧ PyData.hasDictAll (D.pys ds) = false ∧ PyData.depthAll (D.pys ds) ≤ k ∧ PyData.leavesShortAll b (D.pys ds) = true ∧ PyData.weightAll (D.pys ds) ≤ ds.length * (w + 1)
  | [], _ => ⟨rfl, rfl, rfl, Nat.zero_le _, rfl, Nat.zero_le _⟩
  | d :: ds, h => by
    obtain ⟨h1, h2, h3, h4, h5, h6⟩ := sms (ds := ds) fun x hx => h x (List.mem_cons_of_mem _ hx)
    have q := h d List.mem_cons_self
    refine ⟨?_, ?_, ?_, ?_, ?_, ?_⟩
    · show (d.plain && D.plains ds) = true
      rw [q.pl, h1]; rfl
    · show (d.py.showable && PyData.showableAll (D.pys ds)) = true
      rw [q.sh, h2]; rfl
    · show (d.py.hasDict || PyData.hasDictAll (D.pys ds)) = false
      rw [q.nd, h3]; rfl
    · show max d.py.depth (PyData.depthAll (D.pys ds)) ≤ k
      exact Nat.max_le.mpr ⟨q.dp, h4⟩
    · show (d.py.leavesShort b && PyData.leavesShortAll b (D.pys ds)) = true
      rw [q.lv, h5]; rfl
    · show d.py.weight + 1 + PyData.weightAll (D.pys ds) ≤ (ds.length + 1) * (w + 1)
      have := q.wt
      rw [Nat.add_mul]; omega
theorem sm_lst {b w k : Nat} {ds : List D} (h : ∀ d, d ∈ ds → d.sm b w k) : (D.lst ds).sm b (ds.length * (w + 1)) (k + 1) := by
  obtain ⟨h1, h2, h3, h4, h5, h6⟩ := sms h
  exact ⟨h1, h2, h3, Nat.succ_le_succ h4, h5, h6⟩
theorem sm_tup {b w k : Nat} {ds : List D} (h : ∀ d, d ∈ ds → d.sm b w k) : (D.tup ds).sm b (ds.length * (w + 1)) (k + 1) := by
  obtain ⟨h1, h2, h3, h4, h5, h6⟩ := sms h
  exact ⟨h1, h2, h3, Nat.succ_le_succ h4, h5, h6⟩
/-- a law's own promise, from a script -/
theorem law_sp {c : Cn} {Sf : FS} {ns : List Int} {H : Hp} {a : Addr} (hS : ∀ Post : FO → Prop, Post (.ret (B true) [some (F (.scr ns))]) → Sf [F (.scr ns)] Post) (h : SqL c.K H a (ns.map V.int)) :
    spOf c 1 Sf [.ref a] H (fun v _ => v = .bl true) (fun _ _ _ => False) := by
  refine ⟨[F (.scr ns)], H, fun _ _ => False, fun o => ∃ e, o = .ret (B true) e, rfl, ⟨rfl, Ex.refl _, fun i t e => ?_, fun _ _ _ z => z.elim, fun _ _ z => z.elim⟩, hS _ ⟨_, rfl⟩, ?_, ?_⟩
  · cases i with
    | zero =>
      cases e
      exact ⟨_, rfl, ⟨a, rfl, h⟩, fun _ z => nomatch z⟩
    | succ i => cases e
  · rintro t ts' v G' H' P' F' ⟨e, h1⟩ _ _ tr _
    cases h1
    exact tr.1
  · rintro k fs ts' ⟨e, h1⟩
    cases h1
end TL
/-! TK: classes without an __init__ of their own; the head's facts of them. -/
namespace TL
open PySem PySem.Spec PyProof.Rows L2
structure Mk0 (K : PySem.W.Frag) (C : Addr) : Prop where
  makes : PySem.W.makesIn K C = true
  init : PySem.W.findIn K (.ref C) "__init__" = some (some (.builtin "object.__init__"))
  top : PySem.W.mroIn K C (.type "object") = some true
  kp : PySem.W.keepIn K (.ref C) = true
section
variable {X : Cx} {C : Addr} {pins : List (Addr × Obj)} {σ : L2.St} {H : Hp} {s : Shared} {Q : VK}
theorem run_make0 (M : Mk0 X.K C) (I : Inv X pins σ H s) (h : ∀ x dx, H x = none → H dx = none → dx ≠ x → Q (.ref x) (upd (upd H dx (.own x)) x (.ins C dx []))) :
    wpAny (model X.prog X.w) X.A (call (.ref C) []) (EP X pins σ Q) X.xe s := by
  have hq := h (s.heap.objs.size + 1) s.heap.objs.size (I.hok.fresh (Nat.le_succ _)) (I.hok.fresh (Nat.le_refl _)) (Nat.ne_of_lt (Nat.lt_succ_self _))
  have I2 := Inv.made (C := C) I
  have ho : ((s.heap.push PySem.W.emptyDict).push (PySem.W.instObj C s.heap.objs.size)).get? (s.heap.objs.size + 1) = some (PySem.W.instObj C s.heap.objs.size) := by
    have := Heap.get?_push_size (s.heap.push PySem.W.emptyDict) (o := PySem.W.instObj C s.heap.objs.size) rfl
    rwa [Heap.size_push] at this
  refine wpAny_call (make_map0 I.kIn M.makes M.init (fun self => PySem.W.Looks.of_pure (PySem.W.oi_bind self)) ?_)
  have t1 : PySem.W.Looks (model X.prog X.w) ((s.heap.push PySem.W.emptyDict).push (PySem.W.instObj C s.heap.objs.size)) (typeOf (.ref (s.heap.objs.size + 1))) (.ref C) := NwA.type_at ho rfl
  have t2 : PySem.W.Looks (model X.prog X.w) ((s.heap.push PySem.W.emptyDict).push (PySem.W.instObj C s.heap.objs.size)) (isInstance (.ref (s.heap.objs.size + 1)) (.type "object")) true := t1.andThen (PySem.W.looks_mroIn I2.kIn M.top)
  refine codeAny_call_builtin PySem.W.oi_plain PySem.W.entry_oi (@PySem.W.check_slot (model X.prog X.w) _ _ _ "object.__init__" "object" "__init__" (.ref (s.heap.objs.size + 1)) [] [] _ PySem.W.oi_kind PySem.W.oi_split t2 (NwA.oi_args_any (.ref (s.heap.objs.size + 1)) [] []) ?_)
  rw [PySem.W.oi_run]
  exact wpAny_pure ⟨rfl, V.ref (s.heap.objs.size + 1), _, I2, rfl, hq⟩
/-- C() without an __init__ -/
def tMake0 (C : Addr) : TE := fun σ H Q => ∀ x dx, H x = none → H dx = none → dx ≠ x → Q (.ref x) (upd (upd H dx (.own x)) x (.ins C dx []))
theorem pe_mk0 {x : Str} {p pos : Pos} (M : Mk0 X.K C) (hm : X.mg x = some (.ref C)) (hg : Gl X x := by rfl) (hdb : (x == ("__debug__" : Str)) = false := by decide) : PE X (.Call (.Name x p) [] [] pos) (tMake0 C) := by
  refine ⟨fun pins s σ H Q I h => ?_⟩
  refine wpAny_Call_Name_kw (ld_glob I hg hm ?_ hdb)
  exact PySem.W.callWith_K0 I.kIn M.kp (run_make0 M I h)
end
section
variable {A : Amb} {env : Env} {Post : T → Env → Prop}
/-- a new instance without attributes, fixed at once -/
theorem we_mk0 {k : Nat} (q : Post (.frz none (.ins k [])) env) : WE A (tMake0 (A.c.cls k)) env Post := fun G H σ P s Q kq => by
  intro x dx hx hdx ne
  have s1 := s.beside_new (o := .own x) hdx
  have hx1 : upd H dx (.own x) x = none := by rw [upd_ne (Ne.symm ne)]; exact hx
  have r := s1.fixed_new (o := .ins (A.c.cls k) dx []) hx1
  have st1 : Stp G H (uP P) G (upd H dx (.own x)) (uP P) := ⟨Ex.refl _, fun a o e _ => ex_new hdx a o e, fun a z => .inl z, fun a z => .inl z⟩
  have st2 := Stp.fixed_new s1 (o := .ins (A.c.cls k) dx []) hx1 (U := uP P)
  exact kq _ _ (.ref x) _ _ P noF q ⟨r, (st1.trans st2).wk (fun _ h => h) fun a z => by rcases z with z | z; exact .inl z; exact z.elim, .flat ⟨x, dx, [], rfl, upd_same, rfl⟩ fun _ z => nomatch z⟩
end
/-! ### the head's facts: classes without an __init__ -/
def mk0B (K : PySem.W.Frag) (x : Str) : Bool := PySem.W.makesIn K (He.ga K x) && (He.eqO (PySem.W.findIn K (.ref (He.ga K x)) "__init__") (some (some (.builtin "object.__init__"))) && (decide (PySem.W.mroIn K (He.ga K x) (.type "object") = some true) && PySem.W.keepIn K (.ref (He.ga K x))))
theorem mk0_ok {K : PySem.W.Frag} {x : Str} (h : mk0B K x = true) : Mk0 K (He.ga K x) := by
  obtain ⟨h1, h⟩ := He.ba h
  obtain ⟨h2, h⟩ := He.ba h
  obtain ⟨h3, h4⟩ := He.ba h
  exact ⟨h1, He.eqO_ok h2, of_decide_eq_true h3, h4⟩
def SaysX (fa : List He.Fa) (fn : List He.DefD) (xs : List Str) (K : PySem.W.Frag) : Prop := (He.obsD fa fn K, xs.all (mk0B K)) = (He.valD fn, true)
def hookX (n : Nat) (fa : List He.Fa) (fn : List He.DefD) (xs : List Str) : PySem.W.Hook where
  α := He.AlD × Bool
  obs := fun s => (He.obsDG n fa fn s.heap.get?, xs.all (mk0B (He.frG s.heap.get? (He.asD s.heap.get? n))))
  val := fun _ => (He.valD fn, true)
  says := fun _ h => ∃ K : PySem.W.Frag, K.In h ∧ SaysX fa fn xs K
  of := fun _ _ e => ⟨_, He.frG_in, e⟩
  keeps := fun _ _ _ ⟨K, hK, c⟩ k => ⟨K, PySem.W.Frag.In.keeps hK k, c⟩
def obsX (n : Nat) (fa : List He.Fa) (fn : List He.DefD) (xs : List Str) (g : Addr → Option Obj) : He.AlD × Bool := (He.obsDG n fa fn g, xs.all (mk0B (He.frG g (He.asD g n))))
theorem obsX_eq {n : Nat} {fa : List He.Fa} {fn : List He.DefD} {xs : List Str} {g : Addr → Option Obj} {s : Shared} (h : ∀ a, g a = s.heap.get? a) : obsX n fa fn xs g = (hookX n fa fn xs).obs s := by
  have e : g = s.heap.get? := funext h
  rw [e] <;> rfl
theorem SaysX.d {fa : List He.Fa} {fn : List He.DefD} {xs : List Str} {K : PySem.W.Frag} (c : SaysX fa fn xs K) : He.SaysD fa fn K := congrArg (fun z : He.AlD × Bool => z.1) c
theorem SaysX.mk {fa : List He.Fa} {fn : List He.DefD} {xs : List Str} {K : PySem.W.Frag} (c : SaysX fa fn xs K) (i : Nat) {x : Str} (h : xs[i]? = some x := by rfl) : Mk0 K (He.ga K x) :=
  mk0_ok (List.all_eq_true.mp (show xs.all (mk0B K) = true from congrArg (fun z : He.AlD × Bool => z.2) c) x (List.mem_of_getElem? h))
end TL
/-! TV: what only reads; tuples of one's own; what stands within one's own. -/
namespace TL
open PySem PySem.Spec PyProof.Rows L2
mutual
/-- no leaf leans on the store -/
def T.clean : T → Bool
  | .frz _ (.int _) => true | .frz _ (.bl _) => true | .frz _ (.str _) => true | .frz _ .non => true
  | .frz _ _ => false
  | .lst ts => T.cleans ts | .tup ts => T.cleans ts
  | _ => false
def T.cleans : List T → Bool
  | [] => true
  | t :: ts => t.clean && T.cleans ts
end
theorem cleans_I : ∀ ns : List Int, T.cleans (ns.map I) = true
  | [] => rfl
  | n :: ns => by show (true && T.cleans (ns.map I)) = true; rw [cleans_I ns]; rfl
section
variable {c : Cn} {G H G' : Hp}
mutual
theorem TR.cleaned : ∀ {t : T} {F : As} {v : V}, TR c G' H t F v → t.clean = true → (∀ a, F a → G a = none) → TR c G H t F v
  | .frz ov (.int _), F, v, h, _, _ => h
  | .frz ov (.bl _), F, v, h, _, _ => h
  | .frz ov (.str _), F, v, h, _, _ => h
  | .frz ov .non, F, v, h, _, _ => h
  | .frz ov (.lst _), F, v, h, hc, _ => absurd (show false = true from hc) Bool.false_ne_true
  | .frz ov (.tup _), F, v, h, hc, _ => absurd (show false = true from hc) Bool.false_ne_true
  | .frz ov (.dik _), F, v, h, hc, _ => absurd (show false = true from hc) Bool.false_ne_true
  | .frz ov (.dit _), F, v, h, hc, _ => absurd (show false = true from hc) Bool.false_ne_true
  | .frz ov (.ins _ _), F, v, h, hc, _ => absurd (show false = true from hc) Bool.false_ne_true
  | .frz ov (.scr _), F, v, h, hc, _ => absurd (show false = true from hc) Bool.false_ne_true
  | .frz ov (.oth _), F, v, h, hc, _ => absurd (show false = true from hc) Bool.false_ne_true
  | .lst ts, F, v, ⟨p, vs, F1, h1, h2, h3, h4, h5, h6⟩, hc, g => ⟨p, vs, F1, h1, h2, g _ h2, h4, h5, TRs.cleaned h6 hc fun a z => g a (h5 a z).1⟩
  | .tup ts, F, v, ⟨p, vs, F1, h1, h2, h3, h4, h5, h6⟩, hc, g => ⟨p, vs, F1, h1, h2, g _ h2, h4, h5, TRs.cleaned h6 hc fun a z => g a (h5 a z).1⟩
  | .dik ts, F, v, _, hc, _ => absurd (show false = true from hc) Bool.false_ne_true
  | .dit ts, F, v, _, hc, _ => absurd (show false = true from hc) Bool.false_ne_true
  | .ins _ ts, F, v, _, hc, _ => absurd (show false = true from hc) Bool.false_ne_true
theorem TRs.cleaned : ∀ {ts : List T} {F : As} {vs : List V}, TRs c G' H ts F vs → T.cleans ts = true → (∀ a, F a → G a = none) → TRs c G H ts F vs
  | [], F, vs, h, _, _ => h
  | t :: ts, F, vs, ⟨v, r, F1, F2, h1, h2, h3, h4, h5⟩, hc, g => by
    obtain ⟨c1, c2⟩ := Bool.and_eq_true_iff.mp (show (t.clean && T.cleans ts) = true from hc)
    exact ⟨v, r, F1, F2, h1, h2, h3, TR.cleaned h4 c1 fun a z => g a (h2 a z), TRs.cleaned h5 c2 fun a z => g a (h3 a z).1⟩
end
end
/-- all that stands is fixed for a while -/
abbrev Amb.fr (A : Amb) (H : Hp) (σ : L2.St) : Amb := ⟨A.c, H, H, uP fun _ => noF, σ, A.keep⟩
def vw : Option T → Option T
  | some t => some (.frz none t.data)
  | none => none
section
variable {A : Amb} {G H G' H' : Hp} {σ : L2.St} {env : Env} {P P' : Nat → As} {X X' X1 : As} {v x y z : V} {t t1 t2 : T} {vs : List V} {as : List Ar} {ta tb te : TE} {r : R2} {ts : List T} {a b : Ar} {Post : T → Env → Prop} {nx bk ct : Env → Prop} {rt : T → Env → Prop}
theorem SR.frozen (s : SR A G H σ env P) : SR (A.fr H σ) H H σ (env.map vw) (fun _ => noF) where
  len := by rw [List.length_map]; exact s.len
  le := Ex.refl _
  slot := fun i t e => by
    rw [List.getElem?_map] at e
    cases q : env[i]? with
    | none => rw [q] at e; cases e
    | some o => cases o with
      | none => rw [q] at e; cases e
      | some u =>
        rw [q] at e
        cases e
        obtain ⟨w, hw, tw⟩ := s.slot i u q
        exact ⟨w, hw, tw.view s.le, fun _ z => nomatch z⟩
  dis := fun _ _ _ z => z.elim
  own := fun _ _ z => z.elim
  base := Stp.refl
  kp := fun _ _ => rfl
theorem thawed (s : SR A G H σ env P) {G2 H2 : Hp} {U' : As} (st : Stp H H (uP fun _ => noF) G2 H2 U') : SR A G H2 σ env P ∧ Stp G H (uP P) G H2 (uP P) ∧ ∀ a, U' a → H a = none := by
  have ex : Ex H H2 := fun a o e => st.h a o e fun ⟨_, z⟩ => z
  have st2 : Stp G H (uP P) G H2 (uP P) := ⟨Ex.refl _, fun a o e _ => ex a o e, fun a z => .inl z, fun a z => .inl z⟩
  refine ⟨⟨⟨s.len, s.le.trans ex, fun i t e => ?_, s.dis, fun i a z => ⟨(s.own i a z).1, ?_⟩⟩, s.base.trans st2, s.kp⟩, st2, fun a z => ?_⟩
  · obtain ⟨w, hw, tw⟩ := s.slot i t e
    exact ⟨w, hw, tw.mono (Ex.refl _) (fun _ h => h) (fun a o _ e => ex a o e) fun a z => (s.own i a z).1⟩
  · cases q : H a with
    | none => exact absurd q (s.own i a z).2
    | some o => rw [ex a o q]; exact Option.some_ne_none _
  · rcases st.n a z with ⟨_, y⟩ | y
    · exact y.elim
    · exact y
/-- what only reads, and gives what is new or flat -/
theorem we_view (h : ∀ H σ, WE (A.fr H σ) te (env.map vw) fun t _ => t.clean = true ∧ Post t env) : WE A te env Post := fun G H σ P s Q k => by
  refine h H σ H H σ _ s.frozen Q fun t e v G2 H2 P2 F2 p r => ?_
  obtain ⟨s2, st2, new⟩ := thawed s r.st
  have nf : ∀ a, F2 a → H a = none := fun a z => new a (.inr z)
  refine k t env v G H2 P F2 p.2 ⟨s2, st2.wk (fun _ h => h) fun a z => ?_, r.tm.tr.cleaned p.1 fun a z => s.gnone (nf a z), fun a z => ⟨fun ⟨i, y⟩ => (s.own i a y).2 (nf a z), s.gnone (nf a z), (r.tm.fd a z).2.2⟩, fun a z => s.bnew (nf a z)⟩
  rcases z with z | z
  · exact .inl z
  · exact .inr (.inr (nf a z))
theorem wt_view {tt : TT} {Post : Bool → Env → Prop} (h : ∀ H σ, WT (A.fr H σ) tt (env.map vw) fun b _ => Post b env) : WT A tt env Post := fun G H σ P s Q k => by
  refine h H σ H H σ _ s.frozen Q fun b e G2 H2 P2 p _ st => ?_
  obtain ⟨s2, st2, _⟩ := thawed s st
  exact k b env G H2 P p s2 st2
/-! ### a tuple of one's own -/
theorem alloc_own (s : SR A G H σ env P) (tr : TRs A.c G H ts X vs) (fd : ∀ a, X a → ¬ uP P a ∧ G a = none ∧ H a ≠ none) (bs : ∀ a, X a → A.U a ∨ A.H a = none) {p : Addr} (hp : H p = none) :
    Res A G H (fun a => uP P a ∨ X a) σ (.tup ts) env (.ref p) G (upd H p (.tup vs)) P (fun a => X a ∨ a = p) where
  sr := s.beside_new hp
  st := (Stp.new hp).wk (fun _ h => h) fun a z => by
    rcases z with z | z | z
    · exact .inl (.inl (.inl z))
    · exact .inl (.inl (.inr z))
    · exact .inl (.inr z)
  tm := ⟨⟨p, vs, X, rfl, .inr rfl, s.gnone hp, upd_same, fun a z => ⟨.inl z, fun e => by subst e; exact (fd a z).2.2 hp⟩, tr.mono (Ex.refl _) (fun _ z => z) (fun a o _ e => ex_new hp a o e) fun a z => (fd a z).2.1⟩, fun a z => by
    rcases z with z | z
    · exact ⟨(fd a z).1, (fd a z).2.1, fun q => by
        cases q2 : H a with
        | none => exact (fd a z).2.2 q2
        | some u => rw [ex_new hp a u q2] at q; cases q⟩
    · subst z
      exact ⟨fun ⟨i, y⟩ => (s.own i a y).2 hp, s.gnone hp, by rw [upd_same]; exact Option.some_ne_none _⟩, fun a z => by
    rcases z with z | z
    · exact bs a z
    · subst z; exact s.bnew hp⟩
theorem we_tupO {tr : TA} (h : WA A tr env fun as e => ∃ ts, tmps as = some ts ∧ as.length ≤ 1000 ∧ Post (.tup ts) e) : WE A (tTup tr) env Post := fun G H σ P s Q k => by
  refine h G H σ P s _ fun as e vs G1 H1 P1 F1 p1 r1 => ?_
  obtain ⟨ts, ht, hl, hp⟩ := p1
  refine ⟨by rw [r1.tm.tr.len, sizeLine_eq]; omega, fun p hn => ?_⟩
  have r2 := alloc_own r1.sr (tmps_tr ht r1.tm.tr) r1.tm.fd r1.tm.bs hn
  exact k _ _ _ _ _ _ _ hp ⟨r2.sr, r1.st.trans r2.st, r2.tm⟩
/-! ### a, b = a tuple of one's own -/
def WGT (A : Amb) (W : Nat → Prop) (gs : TGs) (ts : List T) (env : Env) (Post : Env → Prop) : Prop := ∀ G H σ P X vs, SR A G H σ env P → TRs A.c G H ts X vs → (∀ a, X a → ¬ uP P a ∧ G a = none ∧ H a ≠ none) → (∀ a, X a → A.U a ∨ A.H a = none) → ∀ Q : L2.St → Hp → Prop,
  (∀ env' G' H' σ' P', Post env' → SR A G' H' σ' env' P' → Stp G H (fun a => uP P a ∨ X a) G' H' (uP P') → σ'.length = σ.length → (∀ j, ¬ W j → σ'[j]? = σ[j]?) → Q σ' H') → gs vs σ H Q
theorem wgt_nil {W : Nat → Prop} {Post : Env → Prop} (h : Post env) : WGT A W gNil [] env Post := fun G H σ P X vs s rp _ _ Q k => ⟨rp, k _ G H σ P h s (Stp.refl.wk (fun _ z => .inl z) fun _ z => .inl z) rfl fun _ _ => rfl⟩
theorem wgt_cons {W : Nat → Prop} {g : TG} {gs : TGs} {t : T} {ts : List T} {Post : Env → Prop} (h : WG A W g t env fun e => WGT A W gs ts e Post) : WGT A W (gCons g gs) (t :: ts) env Post := fun G H σ P X vs s tr fd bs Q k => by
  obtain ⟨v, r, F1, F2, e, h1, h2, h3, h4⟩ := tr
  refine ⟨v, r, e, h G H σ P v F1 s ⟨h3, fun a z => fd a (h1 a z), fun a z => bs a (h1 a z)⟩ _ fun e1 G1 H1 σ1 P1 q1 s1 st1 l1 w1 => ?_⟩
  have nu : ∀ a, F2 a → ¬ (uP P a ∨ F1 a) := fun a z y => by
    rcases y with y | y
    · exact (fd a (h2 a z).1).1 y
    · exact (h2 a z).2 y
  have kp : ∀ a o, F2 a → H a = some o → H1 a = some o := fun a o z e => st1.h a o e (nu a z)
  have g1 : ∀ a, F2 a → G1 a = none := fun a z => by
    cases q : G1 a with
    | none => rfl
    | some o =>
      rcases st1.m a (by rw [q]; exact Option.some_ne_none _) with y | y | y
      · exact absurd (fd a (h2 a z).1).2.1 y
      · exact absurd y (nu a z)
      · exact absurd y (fd a (h2 a z).1).2.2
  refine q1 G1 H1 σ1 P1 F2 r s1 (h4.mono st1.g (fun _ z => z) kp g1) (fun a z => ⟨fun y => ?_, g1 a z, fun y => ?_⟩) (fun a z => bs a (h2 a z).1) Q fun e2 G2 H2 σ2 P2 q2 s2 st2 l2 w2 => ?_
  · rcases st1.n a y with y | y
    · exact nu a z y
    · exact (fd a (h2 a z).1).2.2 y
  · cases q : H a with
    | none => exact (fd a (h2 a z).1).2.2 q
    | some o => rw [kp a o z q] at y; cases y
  · exact k e2 G2 H2 σ2 P2 q2 s2 ((st1.frame F2).wk (V := fun a => uP P a ∨ X a) (fun a z => by
      rcases z with (z | z) | z
      · exact .inl z
      · exact .inr (h1 a z)
      · exact .inr (h2 a z).1) (fun a z => .inl z) |>.trans st2) (l2.trans l1) fun j hj => (w2 j hj).trans (w1 j hj)
theorem wg_tupO {W : Nat → Prop} {n : Nat} {gs : TGs} {ts : List T} {Post : Env → Prop} (hn : ts.length = n) (h : WGT A W gs ts env Post) : WG A W (gTup A.c.K n gs) (.tup ts) env Post := fun G H σ P v X s m Q k => by
  obtain ⟨p, ws, F1, e1, h2, h3, h4, h5, h6⟩ := m.tr
  exact ⟨p, ws, e1, SqT.of h4, by rw [trs_len h6, hn], h G H σ P F1 ws s h6 (fun a z => m.fd a (h5 a z).1) (fun a z => m.bs a (h5 a z).1) Q fun e G' H' σ' P' q s' st l w => k e G' H' σ' P' q s' (st.wk (fun a z => by
    rcases z with z | z
    · exact .inl z
    · exact .inr (h5 a z).1) fun _ z => .inl z) l w⟩
end
end TL
/-! TW1: enumerate, zip; comprehensions without effects. -/
namespace TL
open PySem PySem.Spec PyProof.Rows L2
/-- the i-th number -/
def gi (ns : List Int) (i : Nat) : Int := ns.getD i 0
theorem gi_at {ns : List Int} {i : Nat} (h : i < ns.length) : ns[i]? = some (gi ns i) := by
  unfold gi
  rw [List.getD_eq_getElem?_getD, List.getElem?_eq_getElem h]; rfl
theorem gi_mem {ns : List Int} {i : Nat} (h : i < ns.length) : gi ns i ∈ ns := List.mem_of_getElem? (gi_at h)
theorem gi_map {n : Nat} {f : Nat → Int} {i : Nat} (h : i < n) : gi ((List.range n).map f) i = f i := by
  unfold gi
  rw [List.getD_eq_getElem?_getD, List.getElem?_map, List.getElem?_range h]; rfl
theorem ext_gi {a b : List Int} (hl : a.length = b.length) (h : ∀ i, i < a.length → gi a i = gi b i) : a = b := by
  refine List.ext_getElem? fun i => ?_
  by_cases hi : i < a.length
  · rw [gi_at hi, gi_at (hl ▸ hi), h i hi]
  · rw [List.getElem?_eq_none (by omega), List.getElem?_eq_none (by omega)]
section
variable {A : Amb} {G H G' H' : Hp} {σ : L2.St} {env : Env} {P P' : Nat → As} {X X' X1 : As} {v x y z : V} {t t1 t2 : T} {vs : List V} {as : List Ar} {ta tb te : TE} {r : R2} {ts : List T} {a b : Ar} {Post : T → Env → Prop} {nx bk ct : Env → Prop} {rt : T → Env → Prop}
/-- what was made on the way, all of it, is fixed -/
theorem fixA (s : SR A G H σ env P) (m : TmpA A G H σ P as X vs) (ht : tmps as = some ts) : SR A (frzH G H X) H σ env P ∧ Stp G H (fun a => uP P a ∨ X a) (frzH G H X) H (uP P) ∧ Reps A.c (frzH G H X) (T.datas ts) vs := by
  have e1 : Ex G (frzH G H X) := frzH_ex s.le
  have rp : Reps A.c (frzH G H X) (T.datas ts) vs := (tmps_tr ht m.tr).freeze e1 fun a o f e => by rw [frzH_in f]; exact e
  have st : Stp G H (fun a => uP P a ∨ X a) (frzH G H X) H (uP P) := ⟨e1, fun _ _ e _ => e, fun a z => .inl (.inl z), fun a z => by
    by_cases f : X a
    · exact .inr (.inl (.inr f))
    · rw [frzH_out f] at z; exact .inl z⟩
  have out : ∀ i a, P i a → frzH G H X a = none := fun i a z => by
    rw [frzH_out fun f => (m.fd a f).1 ⟨i, z⟩]
    exact (s.own i a z).1
  have stb : Stp A.G A.H A.U G H (fun a => uP P a ∨ X a) := ⟨s.base.g, s.base.h, fun a z => by
    rcases z with z | z
    · exact s.base.n a z
    · exact m.bs a z, s.base.m⟩
  exact ⟨⟨⟨s.len, frzH_le s.le, fun i t e => by
    obtain ⟨w, hw, tw⟩ := s.slot i t e
    exact ⟨w, hw, tw.mono e1 (fun _ h => h) (fun _ _ _ e => e) fun a z => out i a z⟩, s.dis, fun i a z => ⟨out i a z, (s.own i a z).2⟩⟩, stb.trans st, s.kp⟩, st, rp⟩
theorem yield_tup (s : SR A G H σ env P) {ds : List D} (rp : Reps A.c G ds vs) {p : Addr} (hp : H p = none) :
    ∃ G2, SR A G2 (upd H p (.tup vs)) σ env P ∧ Ex G G2 ∧ Stp G H (uP P) G2 (upd H p (.tup vs)) (uP P) ∧ Rep A.c G2 (.tup ds) (.ref p) :=
  ⟨upd G p (.tup vs), s.fixed_new hp, ex_upd (s.gnone hp), Stp.fixed_new s hp, p, vs, rfl, upd_same, rp.mono (ex_upd (s.gnone hp))⟩
/-- enumerate(xs) -/
theorem wi_enum {tr : TA} {Post : Nat → (Nat → D) → Env → Prop} (h : WA A tr env fun as e => ∃ t ds, as = [.t t] ∧ t.data = .lst ds ∧ Post ds.length (fun i => .tup [.int i, ds.getD i .non]) e) : WI A (iEnum A.c.K tr) env Post := fun G H σ P s R k => by
  refine h G H σ P s _ fun as e vs G1 H1 P1 F1 p1 r1 => ?_
  obtain ⟨t, ds, rfl, hd, hp⟩ := p1
  obtain ⟨s2, st2, rp⟩ := fixA r1.sr r1.tm (ts := [t]) rfl
  obtain ⟨w, r', e1, rp1, rp2⟩ := rp
  cases rp2
  subst e1
  rw [hd] at rp1
  obtain ⟨p, ws, rfl, hp2, hr⟩ := rp1
  refine ⟨p, ws, rfl, SqL.of (s2.le _ _ hp2), k _ _ _ _ _ _ _ hp s2 (r1.st.trans st2) fun G' H' σ' env' P' s' ex i => ?_⟩
  have hq : SqL A.c.K H' p ws := SqL.of (s'.le _ _ (ex _ _ hp2))
  have hl := reps_len hr
  refine ⟨fun hi => ⟨ws, hq, by omega⟩, fun hi => ?_⟩
  obtain ⟨w, hw, rw_⟩ := reps_at hr (j := i) (d := ds.getD i .non) (by rw [List.getD_eq_getElem?_getD, List.getElem?_eq_getElem hi]; rfl)
  refine ⟨⟨ws, w, hq, hw⟩, fun x H2 y => ?_⟩
  obtain ⟨T, x', rfl, hT, rfl, y2⟩ := y
  have e2 := y2 ws hq
  rw [hw] at e2
  cases e2
  exact yield_tup (ds := [.int (i : Nat), ds.getD i .non]) (vs := [.int (i : Nat), w]) s' ⟨.int (i : Nat), [w], rfl, rfl, w, [], rfl, rw_.mono ex, rfl⟩ hT
/-- zip(xs, ys) -/
theorem wi_zip {tr : TA} {Post : Nat → (Nat → D) → Env → Prop} (h : WA A tr env fun as e => ∃ t1 t2 ds es, as = [.t t1, .t t2] ∧ t1.data = .lst ds ∧ t2.data = .lst es ∧ Post (min ds.length es.length) (fun i => .tup [ds.getD i .non, es.getD i .non]) e) : WI A (iZip A.c.K tr) env Post := fun G H σ P s R k => by
  refine h G H σ P s _ fun as e vs G1 H1 P1 F1 p1 r1 => ?_
  obtain ⟨t1, t2, ds, es, rfl, hd, he, hp⟩ := p1
  obtain ⟨s2, st2, rp⟩ := fixA r1.sr r1.tm (ts := [t1, t2]) rfl
  obtain ⟨w, r', e1, rp1, w2, r2, e2, rp2, rp3⟩ := rp
  cases rp3
  subst e2 e1
  rw [hd] at rp1
  rw [he] at rp2
  obtain ⟨p, ws, rfl, hp2, hr⟩ := rp1
  obtain ⟨p', ws', rfl, hp3, hr'⟩ := rp2
  refine ⟨p, p', ws, ws', rfl, SqL.of (s2.le _ _ hp2), SqL.of (s2.le _ _ hp3), k _ _ _ _ _ _ _ hp s2 (r1.st.trans st2) fun G' H' σ' env' P' s' ex i => ?_⟩
  have hq : SqL A.c.K H' p ws := SqL.of (s'.le _ _ (ex _ _ hp2))
  have hq' : SqL A.c.K H' p' ws' := SqL.of (s'.le _ _ (ex _ _ hp3))
  have hl := reps_len hr
  have hl' := reps_len hr'
  refine ⟨fun hi => ⟨ws, ws', hq, hq', by omega⟩, fun hi => ?_⟩
  have hi1 : i < ds.length := by omega
  have hi2 : i < es.length := by omega
  obtain ⟨w, hw, rw_⟩ := reps_at hr (j := i) (d := ds.getD i .non) (by rw [List.getD_eq_getElem?_getD, List.getElem?_eq_getElem hi1]; rfl)
  obtain ⟨w', hw', rw'⟩ := reps_at hr' (j := i) (d := es.getD i .non) (by rw [List.getD_eq_getElem?_getD, List.getElem?_eq_getElem hi2]; rfl)
  refine ⟨⟨ws, ws', w, w', hq, hq', hw, hw'⟩, fun x H2 y => ?_⟩
  obtain ⟨T, x', y', rfl, hT, rfl, y2, y3⟩ := y
  have e2 := y2 ws hq
  rw [hw] at e2
  cases e2
  have e3 := y3 ws' hq'
  rw [hw'] at e3
  cases e3
  exact yield_tup (ds := [ds.getD i .non, es.getD i .non]) (vs := [w, w']) s' ⟨w, [w'], rfl, rw_.mono ex, w', [], rfl, rw'.mono ex, rfl⟩ hT
end
theorem getD_int {ns : List Int} {i : Nat} (h : i < ns.length) : (ns.map D.int).getD i .non = .int (gi ns i) := by
  rw [List.getD_eq_getElem?_getD, List.getElem?_map, gi_at h]; rfl
theorem getD_map {n : Nat} {f : Nat → D} {i : Nat} (h : i < n) : ((List.range n).map f).getD i .non = f i := by
  rw [List.getD_eq_getElem?_getD, List.getElem?_map, List.getElem?_range h]; rfl
/-! ### loops, in the shapes that the rules ask -/
section
variable {A : Amb} {env : Env} {g : TG} {tb : TS} {nx bk ct : Env → Prop} {rt : T → Env → Prop} {te : TE} {R : List T → Env → Prop}
theorem loop_n {n : Nat} {it : Nat → D} {e0 : Env} (J : Env → Nat → Env → Prop) (h0 : J e0 0 e0) (hs : ∀ i e, i < n → J e0 i e → WG A wAll g (.frz none (it i)) e fun e => WS A tb e (J e0 (i + 1)) rt nx (J e0 (i + 1))) (hd : ∀ e, J e0 n e → nx e) :
    ∃ Inv : Nat → Env → Prop, Inv 0 e0 ∧ (∀ i e, i < n → Inv i e → WG A wAll g (.frz none (it i)) e fun e => WS A tb e (Inv (i + 1)) rt nx (Inv (i + 1))) ∧ ∀ e, Inv n e → nx e := ⟨J e0, h0, hs, hd⟩
/-- a comprehension without effects: the i-th thing is f i -/
theorem lc_n {ws : List Nat} {n : Nat} {it : Nat → D} {e0 : Env} (hn : n ≤ 100000) (f : Nat → T)
    (hs : ∀ i, i < n → WG A (fun j => j ∈ ws) g (.frz none (it i)) (wipeE e0 ws) fun e1 => WE A te e1 fun t e3 => t = f i ∧ wipeE e3 ws = wipeE e0 ws)
    (q : R ((List.range n).map f) (wipeE e0 ws)) : n ≤ 100000 ∧ ∃ Inv : Nat → List T → Env → Prop, Inv 0 [] (wipeE e0 ws) ∧
      (∀ i acc e, i < n → acc.length ≤ i → Inv i acc e → WG A (fun j => j ∈ ws) g (.frz none (it i)) e fun e1 => WT A tYes e1 fun b e2 => (b = true → WE A te e2 fun t e3 => Inv (i + 1) (acc ++ [t]) (wipeE e3 ws)) ∧ (b = false → Inv (i + 1) acc (wipeE e2 ws))) ∧
      ∀ acc e, acc.length ≤ n → Inv n acc e → R acc e :=
  ⟨hn, fun i acc e => acc = (List.range i).map f ∧ e = wipeE e0 ws, ⟨rfl, rfl⟩, fun i acc e hlt hl ⟨ha, he⟩ => by
    rw [he]
    refine fun G H σ P v X s m Q k => hs i hlt G H σ P v X s m Q fun e' G' H' σ' P' q' s' st l w => k e' G' H' σ' P' (wt_yes ⟨fun _ => ?_, fun z => nomatch z⟩) s' st l w
    exact we_imp q' fun t e3 ⟨h1, h2⟩ => ⟨by rw [ha, h1, List.range_succ, List.map_append]; rfl, h2⟩, fun acc e hl ⟨ha, he⟩ => by rw [ha, he]; exact q⟩
theorem lc_rng {ws : List Nat} {j : Int} {e0 : Env} (f : Nat → T)
    (hs : ∀ i : Nat, (i : Int) < j → WG A (fun j => j ∈ ws) g (I i) (wipeE e0 ws) fun e1 => WE A te e1 fun t e3 => t = f i ∧ wipeE e3 ws = wipeE e0 ws)
    (q : R ((List.range j.toNat).map f) (wipeE e0 ws)) : ∃ Iv : Nat → List T → Env → Prop, Iv 0 [] (wipeE e0 ws) ∧
      (∀ (i : Nat) acc e, (i : Int) < j → acc.length ≤ i → Iv i acc e → WG A (fun j => j ∈ ws) g (I i) e fun e1 => WT A tYes e1 fun b e2 => (b = true → WE A te e2 fun t e3 => Iv (i + 1) (acc ++ [t]) (wipeE e3 ws)) ∧ (b = false → Iv (i + 1) acc (wipeE e2 ws))) ∧
      ∀ acc e, acc.length ≤ j.toNat → Iv j.toNat acc e → R acc e :=
  ⟨fun i acc e => acc = (List.range i).map f ∧ e = wipeE e0 ws, ⟨rfl, rfl⟩, fun i acc e hlt hl ⟨ha, he⟩ => by
    rw [he]
    refine fun G H σ P v X s m Q k => hs i hlt G H σ P v X s m Q fun e' G' H' σ' P' q' s' st l w => k e' G' H' σ' P' (wt_yes ⟨fun _ => ?_, fun z => nomatch z⟩) s' st l w
    exact we_imp q' fun t e3 ⟨h1, h2⟩ => ⟨by rw [ha, h1, List.range_succ, List.map_append]; rfl, h2⟩, fun acc e hl ⟨ha, he⟩ => by rw [ha, he]; exact q⟩
end
theorem mapI {n : Nat} {f : Nat → Int} : (List.range n).map (fun i => I (f i)) = ((List.range n).map f).map I := by rw [List.map_map]; rfl
end TL
/-! TW2: lists of numbers; what stands within one's own. -/
namespace TL
open PySem PySem.Spec PyProof.Rows L2
theorem reps_ints {c : Cn} {H : Hp} : ∀ {ns : List Int} {us : List V}, Reps c H (ns.map D.int) us → us = ns.map V.int
  | [], us, r => r
  | n :: ns, us, ⟨v, r', e, h1, h2⟩ => by rw [e, reps_ints h2, show v = .int n from h1]; rfl
section
variable {A : Amb} {G H G' H' : Hp} {σ : L2.St} {env : Env} {P P' : Nat → As} {X X' X1 : As} {v x y z : V} {t t1 t2 : T} {vs : List V} {as : List Ar} {ta tb te : TE} {r : R2} {ts : List T} {a b : Ar} {Post : T → Env → Prop} {nx bk ct : Env → Prop} {rt : T → Env → Prop}
theorem atI_gi {ns : List Int} {i : Int} (h0 : 0 ≤ i) (h1 : i < ns.length) : atI ns i = some (gi ns i.toNat) := by
  obtain ⟨j, hj, hl, e⟩ := atI_nat (xs := ns) h0 h1
  subst hj
  rw [e]
  have : gi ns j = ns[j] := by
    have := gi_at (ns := ns) hl
    rw [List.getElem?_eq_getElem hl] at this
    exact (Option.some.inj this).symm
  rw [Int.toNat_natCast, this]
theorem atI_map {α β : Type} {f : α → β} {xs : List α} {i : Int} {x : α} (h : atI xs i = some x) : atI (xs.map f) i = some (f x) := by
  obtain ⟨j, hj, ej⟩ := atI_eq (ys := xs.map f) h (by simp)
  rw [ej, List.getElem?_map, hj]; rfl
theorem atI_last {α : Type} {xs : List α} (h : xs ≠ []) : atI xs (-1) = xs[xs.length - 1]? := by
  have hl : 0 < xs.length := List.length_pos_iff.mpr h
  unfold atI ixN
  have e0 : ((-1 : Int) < 0) := by decide
  have e3 : (-1 + (xs.length : Int)).toNat = xs.length - 1 := by omega
  have e1 : (0 : Int) ≤ -1 + (xs.length : Int) := by omega
  have e4 : xs.length - 1 < xs.length := by omega
  have e5 : ¬ ((xs.length : Int) + -1 < 0) := by omega
  have e6 : ((xs.length : Int) + -1).toNat = xs.length - 1 := by omega
  have e7 : (1 : Int) ≤ xs.length := by omega
  simp [e0, e1, e3, e4, e5, e6, e7]
theorem wr_ix_slotI {n : Nat} {o2 : Option V} {ns : List Int} {i : Int} (he : env[n]? = some (some (.lst (ns.map I)))) (h0 : 0 ≤ i) (h1 : i < ns.length) (q : Post (I (gi ns i.toNat)) env) : WR A (rIxA A.c.K) (.s n) (.t (.frz o2 (.int i))) env Post :=
  wr_ix_slot he (atI_map (atI_gi h0 h1)) q
theorem wr_ix_slotL {n : Nat} {o2 : Option V} {ns : List Int} {i : Int} (he : env[n]? = some (some (.lst (ns.map I)))) (hi : i = -1) (h1 : ns ≠ []) (q : Post (I (gi ns (ns.length - 1))) env) : WR A (rIxA A.c.K) (.s n) (.t (.frz o2 (.int i))) env Post := by
  subst hi
  have hl : 0 < ns.length := List.length_pos_iff.mpr h1
  exact wr_ix_slot he (atI_map (by rw [atI_last h1]; exact gi_at (by omega))) q
theorem wr_ix_frzI {o o2 : Option V} {ns : List Int} {i : Int} (h0 : 0 ≤ i) (h1 : i < ns.length) (q : Post (I (gi ns i.toNat)) env) : WR A (rIxA A.c.K) (.t (.frz o (.lst (ns.map D.int)))) (.t (.frz o2 (.int i))) env Post :=
  wr_ix_frz (atI_map (atI_gi h0 h1)) q
theorem wr_ix_frzL {o o2 : Option V} {ns : List Int} {i : Int} (hi : i = -1) (h1 : ns ≠ []) (q : Post (I (gi ns (ns.length - 1))) env) : WR A (rIxA A.c.K) (.t (.frz o (.lst (ns.map D.int)))) (.t (.frz o2 (.int i))) env Post := by
  subst hi
  have hl : 0 < ns.length := List.length_pos_iff.mpr h1
  exact wr_ix_frz (atI_map (by rw [atI_last h1]; exact gi_at (by omega))) q
theorem wr_ix_tmpIx {o2 : Option V} {ns : List Int} {i : Int} (h0 : 0 ≤ i) (h1 : i < ns.length) (q : Post (I (gi ns i.toNat)) env) : WR A (rIxA A.c.K) (.t (.lst (ns.map I))) (.t (.frz o2 (.int i))) env Post :=
  wr_ix_tmp (atI_map (atI_gi h0 h1)) q
/-- an item of a tuple made on the way -/
theorem wr_ix_tmpT {o2 : Option V} {ts : List T} {i : Int} {t : T} (h : atI ts i = some t) (q : Post t env) : WR A (rIxA A.c.K) (.t (.tup ts)) (.t (.frz o2 (.int i))) env Post := fun G H σ P x y X s m Q k => by
  obtain ⟨F1, F2, h1, _, m1, m2⟩ := m.split2
  obtain ⟨F3, h3, n1⟩ := m1.one
  obtain ⟨_, _, n2⟩ := m2.one
  obtain ⟨p, ws, F4, e1, _, _, e2, h4, e3⟩ := n1.tr
  obtain ⟨e4, _⟩ := n2.tr
  obtain ⟨j, hj, ej⟩ := atI_eq (ys := ws) h (trs_len e3)
  obtain ⟨w, F5, hw, h5, tw⟩ := trs_at e3 hj
  have sub : ∀ a, F5 a → F3 a := fun a z => (h4 a (h5 a z)).1
  exact .inl (.inr ⟨p, ws, i, w, e1, e4, SqT.of e2, by rw [ej, hw], k _ _ w G H P F5 q (.same s ⟨tw, fun a z => n1.fd a (sub a z), fun a z => n1.bs a (sub a z)⟩ (fun _ z => .inl z) fun a z => .inl (.inr (h1 a (h3 a (sub a z)))))⟩)
theorem wr_and1 {o1 o2 : Option V} {i : Int} (q : Post (I (i % 2)) env) : WR A (rI0 fun i j => .int (Builtin.bitAnd i j)) (.t (.frz o1 (.int i))) (.t (.frz o2 (.int 1))) env Post :=
  wr_I0 (g := fun i j => Builtin.bitAnd i j) (by rw [bitAnd_m1]; exact q)
/-! ### append, extend -/
theorem we_appendI {n : Nat} {ns0 : List Int} (h0 : env[n]? = some (some (.lst (ns0.map I)))) {tr : TA} (h : WA A tr env fun as e => ∃ o x, as = [.t (.frz o (.int x))] ∧ ∃ ns : List Int, e[n]? = some (some (.lst (ns.map I))) ∧ ns.length ≤ 1000000 ∧ Post N_ (e.set n (some (.lst ((ns ++ [x]).map I))))) :
    WE A (tBM A.c.K "list" rAppend (tVar n) tr) env Post := we_append h0 fun G H σ P s Q k => h G H σ P s Q fun as e vs G' H' P' F q r => by
  obtain ⟨o, x, rfl, ns, he, hl, q⟩ := q
  have r2 : ResA A G H (uP P) σ [.t (I x)] e vs G' H' P' F := ⟨r.sr, r.st, ⟨by
    obtain ⟨v, F2, e1, hF, tr⟩ := r.tm.tr.one
    subst e1
    exact ⟨v, [], F2, noF, rfl, hF, fun _ z => z.elim, ⟨tr.1, fun _ z => nomatch z⟩, rfl⟩, r.tm.fd, r.tm.bs⟩⟩
  exact k [.t (I x)] e vs G' H' P' F ⟨I x, _, rfl, he, by rw [List.length_map]; exact hl, by rw [List.map_append] at q; exact q⟩ r2
theorem we_extend {n : Nat} {ts0 : List T} (h0 : env[n]? = some (some (.lst ts0))) {tr : TA} (h : WA A tr env fun as e => ∃ us ts, as = [.t (.lst us)] ∧ e[n]? = some (some (.lst ts)) ∧ ts.length + us.length ≤ 1000000 ∧ Post N_ (e.set n (some (.lst (ts ++ us))))) :
    WE A (tBM A.c.K "list" rExtend (tVar n) tr) env Post := fun G H σ P s Q k => by
  obtain ⟨p0, vs0, hσ0, hp0, _⟩ := ty_slot s h0
  refine ⟨_, hσ0, .inl ⟨rfl, _, SqL.of hp0⟩, h G H σ P s _ fun as e1 vs G1 H1 P1 F1 p1 r1 => ?_⟩
  obtain ⟨us, ts, rfl, he, hl, hp⟩ := p1
  obtain ⟨y, F2, rfl, hF2, b, zs, F6, rfl, hb, hgb, hHb, hF6, trz⟩ := r1.tm.tr.one
  obtain ⟨q, ws, F3, hσ, hq, hPq, hF, trs, mk⟩ := slot_list r1.sr he r1.tm.fd r1.tm.bs (us := ts ++ us)
  rw [hσ0] at hσ
  cases hσ
  refine ⟨p0, b, ws, zs, rfl, rfl, hq, hHb, by rw [trs_len trs, trs_len trz, sizeLine_eq]; omega, ?_⟩
  have sub : ∀ a, F6 a → F1 a := fun a z => hF2 a (hF6 a z).1
  obtain ⟨s2, st2⟩ := mk (ws ++ zs) fun H2 keep => trs_app (F1 := F3) (F2 := F6) (trs.mono (Ex.refl _) (fun _ z => z) (fun a o z e => keep a o (hF a z).2 e) fun a z => (r1.sr.own n a (hF a z).1).1)
    (trz.mono (Ex.refl _) (fun _ z => z) (fun a o z e => keep a o (fun y => (r1.tm.fd a (sub a z)).1 ⟨n, by subst y; exact hPq⟩) e) fun a z => (r1.tm.fd a (sub a z)).2.1) (fun a z => .inl z) (fun a z => ⟨.inr (sub a z), fun y => (r1.tm.fd a (sub a z)).1 ⟨n, (hF a y).1⟩⟩) fun a z => by
      rcases z with z | z
      · exact (r1.sr.own n a (hF a z).1).1
      · exact (r1.tm.fd a z).2.1
  exact k N_ _ .non _ _ _ noF hp ⟨s2, (r1.st.trans st2).wk (fun _ h => h) fun a z => by
    rcases z with z | z
    · exact .inl z
    · exact z.elim, .flat rfl fun _ z => nomatch z⟩
theorem wg_subI {n : Nat} {x : Int} {ns0 : List Int} {ti : TE} {Post : Env → Prop} {W : Nat → Prop} (h : WE A ti env fun t2 e => ∃ o k, t2 = .frz o (.int k) ∧ ∃ (ns : List Int) (j : Nat), e[n]? = some (some (.lst (ns.map I))) ∧ ixN ns.length k = some j ∧ Post (e.set n (some (.lst ((ns.set j x).map I))))) (hn : env[n]? = some (some (.lst (ns0.map I)))) :
    WG A W (gSub (tVar n) ti rSetL) (.frz none (.int x)) env Post := wg_sub (we_imp h fun t e ⟨o, k, e1, ns, j, he, hj, hp⟩ => ⟨o, k, e1, _, j, he, by rw [List.length_map]; exact hj, by rw [List.map_set] at hp; exact hp⟩) ⟨_, hn⟩
/-! ### xs + ys of numbers -/
theorem wr_catI {xs ys : List Int} (h1 : arD env a = some (.lst (xs.map D.int))) (h2 : arD env b = some (.lst (ys.map D.int))) (hl : xs.length + ys.length ≤ 1000000) (q : Post (.lst ((xs ++ ys).map I)) env) : WR A (rAddA A.c.K) a b env Post := fun G H σ P x y X s m Q k => by
  obtain ⟨F1, F2, _, _, m1, m2⟩ := m.split2
  obtain ⟨p, ws, rfl, hp, rp⟩ := view s m1 h1
  obtain ⟨p', ws', rfl, hp', rp'⟩ := view s m2 h2
  have flat2 : ∀ {ns : List Int}, Reps A.c G (ns.map D.int) (ns.map V.int) := by
    intro ns
    induction ns with
    | nil => rfl
    | cons n ns ih => exact ⟨.int n, _, rfl, rfl, ih⟩
  have e1 := reps_ints rp
  have e2 := reps_ints rp'
  subst e1 e2
  refine .inl (.inl (.inr ⟨p, p', _, _, rfl, rfl, hp, hp', by rw [List.length_map, List.length_map, sizeLine_eq]; omega, fun l hl => ?_⟩))
  rw [← List.map_append]
  have r := alloc_frzs (vs := (xs ++ ys).map V.int) s (flat2 (ns := xs ++ ys)) (U0 := fun a => uP P a ∨ X a) (fun _ z => .inl z) hl
  rw [List.map_map] at r
  exact k _ _ _ _ _ _ _ q r
/-! ### in -/
def intsD : List D → Option (List Int)
  | [] => some []
  | .int i :: r => (intsD r).map (i :: ·)
  | _ => none
theorem intsD_eq : ∀ {ts : List D} {is : List Int}, intsD ts = some is → ts = is.map D.int
  | [], is, h => by cases h; rfl
  | t :: r, is, h => by
    unfold intsD at h
    split at h
    · rename_i e; cases e
    · rename_i i r' e
      cases e
      cases q : intsD r with
      | none => rw [q] at h; cases h
      | some is' =>
        rw [q] at h
        cases h
        rw [intsD_eq q]; rfl
    · cases h
theorem inV_ints {i : Int} : ∀ {is : List Int}, inV (.int i) (is.map V.int) = decide (i ∈ is)
  | [] => by simp [inV]
  | n :: is => by
    have ih := inV_ints (i := i) (is := is)
    unfold inV at ih ⊢
    rw [List.map_cons, List.any_cons, ih]
    by_cases h : i = n
    · subst h; simp [eqV]
    · have : ¬ n = i := fun e => h e.symm
      simp [eqV, h, this]
theorem wr_inT {o1 o2 : Option V} {i : Int} {ds : List D} {is : List Int} (h : intsD ds = some is) (q : Post (B (decide (i ∈ is))) env) : WR A (rInA A.c.K) (.t (.frz o1 (.int i))) (.t (.frz o2 (.tup ds))) env Post := by
  have e := intsD_eq h
  subst e
  refine wr_flat (d1 := .int i) (d2 := .tup (is.map D.int)) (d := .bl (decide (i ∈ is))) rfl rfl (fun _ => rfl) (fun H x y e1 e2 Q q => ?_) q
  cases e1
  obtain ⟨p, ws, rfl, hp, rp⟩ := e2
  have e1 : ws = is.map V.int := reps_ints rp
  subst e1
  refine .inl (.inl ⟨p, _, rfl, .inr (SqT.of hp), rfl, by simp [flatV], ?_⟩)
  show Q (.bl (if false = true then _ else inV (.int i) (is.map V.int))) H
  rw [inV_ints]
  exact q
/-! ### repr, isinstance of what a name holds or was made on the way -/
theorem fi_reprT {t : T} {d : D} (e : t.data = d) (hd : d.ok) (q : Post (S d.py.shown) env) : WC A (rRepr A.c.K) [.t t] env Post := wc_repr (by subst e; rfl) hd q
theorem fs_isi {n : Nat} {m : String} {t : T} {d : D} {k : Bool} {o : Option V} (he : env[n]? = some (some t)) (e : t.data = d) {s : String} (ht : d.tyn = some s) (hk : kitB s m = some k) (q : Post (B k) env) : WC A (rIsi A.c.K) [.s n, .t (.frz o (.oth (.ty m)))] env Post :=
  wc_isi (d := d) (by show (match env[n]? with | some (some t) => some t.data | _ => none) = _; rw [he, ← e]) ht hk q
theorem kit_ls : kitB "list" "list" = some true ∧ kitB "tuple" "tuple" = some true ∧ kitB "list" "tuple" = some false ∧ kitB "tuple" "list" = some false := by decide +kernel
theorem fs_ll {n : Nat} {ts : List T} {o : Option V} (he : env[n]? = some (some (.lst ts))) (q : Post (B true) env) : WC A (rIsi A.c.K) [.s n, .t (.frz o (.oth (.ty "list")))] env Post := fs_isi he rfl rfl kit_ls.1 q
theorem fs_tt {n : Nat} {ts : List T} {o : Option V} (he : env[n]? = some (some (.tup ts))) (q : Post (B true) env) : WC A (rIsi A.c.K) [.s n, .t (.frz o (.oth (.ty "tuple")))] env Post := fs_isi he rfl rfl kit_ls.2.1 q
theorem fl_slotT {n : Nat} {ts : List T} (he : env[n]? = some (some (.tup ts))) (q : Post (I ts.length) env) : WC A (rLenA A.c.K) [.s n] env Post := wc_len (d := .tup (T.datas ts)) (by show (match env[n]? with | some (some t) => some t.data | _ => none) = _; rw [he]; rfl) (by show some (T.datas ts).length = some ts.length; rw [datas_len]) q
theorem fl_tmpT {ts : List T} (q : Post (I ts.length) env) : WC A (rLenA A.c.K) [.t (.tup ts)] env Post := wc_len (d := .tup (T.datas ts)) rfl (by show some (T.datas ts).length = some ts.length; rw [datas_len]) q
/-! ### what stands within one's own -/
theorem trs_sub {c : Cn} : ∀ {ts us : List T} {F : As} {vs : List V} {j : Nat}, TRs c G H ts F vs → ts[j]? = some (.lst us) → (∀ a, F a → G a = none) → ∃ q ws F1, vs[j]? = some (.ref q) ∧ F q ∧ H q = some (.lst ws) ∧ (∀ a, F1 a → F a ∧ a ≠ q) ∧ TRs c G H us F1 ws ∧
    ∀ (X : As) (us' : List T) (ws' : List V), (∀ a, X a → ¬ F a ∧ G a = none) → TRs c G (upd H q (.lst ws')) us' (fun a => F1 a ∨ X a) ws' → TRs c G (upd H q (.lst ws')) (ts.set j (.lst us')) (fun a => F a ∨ X a) vs
  | t :: ts, us, F, vs, 0, ⟨v, r, F1, F2, e, h1, h2, h3, h4⟩, hj, g => by
    cases hj
    obtain ⟨q, ws, F3, rfl, b1, b2, b3, b4, b5⟩ := h3
    subst e
    refine ⟨q, ws, F3, rfl, h1 _ b1, b3, fun a z => ⟨h1 a (b4 a z).1, (b4 a z).2⟩, b5, fun X us' ws' hX tr => ?_⟩
    refine ⟨.ref q, r, fun a => F1 a ∨ X a, F2, rfl, fun a z => ?_, fun a z => ⟨.inl (h2 a z).1, fun y => ?_⟩, ⟨q, ws', fun a => F3 a ∨ X a, rfl, .inl b1, b2, upd_same, fun a z => ?_, tr⟩, ?_⟩
    · rcases z with z | z
      · exact .inl (h1 a z)
      · exact .inr z
    · rcases y with y | y
      · exact (h2 a z).2 y
      · exact (hX a y).1 (h2 a z).1
    · rcases z with z | z
      · exact ⟨.inl (b4 a z).1, (b4 a z).2⟩
      · exact ⟨.inr z, fun e => (hX a z).1 (by subst e; exact h1 _ b1)⟩
    · exact h4.mono (Ex.refl _) (fun _ z => z) (fun a o z e => by rw [upd_ne (fun y : a = q => (h2 a z).2 (by subst y; exact b1))]; exact e) fun a z => g a (h2 a z).1
  | t :: ts, us, F, vs, j + 1, ⟨v, r, F1, F2, e, h1, h2, h3, h4⟩, hj, g => by
    subst e
    obtain ⟨q, ws, F3, e1, b1, b2, b3, b4, mk⟩ := trs_sub (j := j) h4 hj fun a z => g a (h2 a z).1
    refine ⟨q, ws, F3, e1, (h2 q b1).1, b2, fun a z => ⟨(h2 a (b3 a z).1).1, (b3 a z).2⟩, b4, fun X us' ws' hX tr => ?_⟩
    refine ⟨v, r, F1, fun a => F2 a ∨ X a, rfl, fun a z => .inl (h1 a z), fun a z => ?_, h3.mono (Ex.refl _) (fun _ z => z) (fun a o z e => by rw [upd_ne (fun y : a = q => (h2 q b1).2 (by subst y; exact z))]; exact e) fun a z => g a (h1 a z), mk X us' ws' (fun a z => ⟨fun y => (hX a z).1 (h2 a y).1, (hX a z).2⟩) tr⟩
    rcases z with z | z
    · exact ⟨.inl (h2 a z).1, (h2 a z).2⟩
    · exact ⟨.inr z, fun y => (hX a z).1 (h1 a y)⟩
def setT : T → Nat → T → T
  | .lst ts, j, t => .lst (ts.set j t)
  | .tup ts, j, t => .tup (ts.set j t)
  | t, _, _ => t
def subT : T → Nat → Option T
  | .lst ts, j => ts[j]?
  | .tup ts, j => ts[j]?
  | _, _ => none
/-- the list within what a name holds takes other items -/
theorem slot_sub (s : SR A G H σ env P) {n j : Nat} {t0 : T} {us us' : List T} (he : env[n]? = some (some t0)) (hj : subT t0 j = some (.lst us)) (fd : ∀ a, X a → ¬ uP P a ∧ G a = none ∧ H a ≠ none) (bs : ∀ a, X a → A.U a ∨ A.H a = none) :
    ∃ v p vs q ws F1, v = .ref p ∧ σ[n]? = some (some v) ∧ (H p = some (.lst vs) ∨ H p = some (.tup vs)) ∧ vs[j]? = some (.ref q) ∧ H q = some (.lst ws) ∧ P n q ∧ (∀ a, F1 a → P n a ∧ a ≠ q) ∧ TRs A.c G H us F1 ws ∧ vs.length = (match t0 with | .lst ts => ts.length | .tup ts => ts.length | _ => 0) ∧
      ∀ ws', TRs A.c G (upd H q (.lst ws')) us' (fun a => F1 a ∨ X a) ws' →
        SR A G (upd H q (.lst ws')) σ (env.set n (some (setT t0 j (.lst us')))) (fun j a => P j a ∨ (j = n ∧ X a)) ∧ Stp G H (fun a => uP P a ∨ X a) G (upd H q (.lst ws')) (uP fun j a => P j a ∨ (j = n ∧ X a)) := by
  obtain ⟨v, hv, tr0⟩ := s.slot n _ he
  have nX : ∀ a, X a → ¬ P n a := fun a z y => (fd a z).1 ⟨n, y⟩
  cases t0 with
  | lst ts =>
    obtain ⟨p, vs, F1, rfl, h2, h3, h4, h5, h6⟩ := tr0
    obtain ⟨q, ws, F3, e1, b1, b2, b3, b4, mk⟩ := trs_sub h6 hj fun a z => (s.own n a (h5 a z).1).1
    refine ⟨_, p, vs, q, ws, F3, rfl, hv, .inl h4, e1, b2, (h5 q b1).1, fun a z => ⟨(h5 a (b3 a z).1).1, (b3 a z).2⟩, b4, trs_len h6, fun ws' tr => ?_⟩
    refine s.modify he hv fd bs (t1 := .lst (ts.set j (.lst us'))) ⟨p, vs, fun a => F1 a ∨ X a, rfl, .inl h2, h3, by rw [upd_ne (fun e : p = q => (h5 q b1).2 e.symm)]; exact h4, fun a z => ?_, mk X us' ws' (fun a z => ⟨fun y => nX a z (h5 a y).1, (fd a z).2.1⟩) tr⟩ (fun a o n' e => by rw [upd_ne (fun y : a = q => n' (by subst y; exact (h5 _ b1).1))]; exact e) fun a z => ?_
    · rcases z with z | z
      · exact ⟨.inl (h5 a z).1, (h5 a z).2⟩
      · exact ⟨.inr z, fun e => nX a z (by subst e; exact h2)⟩
    · by_cases q' : a = q
      · subst q'; rw [upd_same]; exact Option.some_ne_none _
      · rw [upd_ne q']; exact (s.own n a z).2
  | tup ts =>
    obtain ⟨p, vs, F1, rfl, h2, h3, h4, h5, h6⟩ := tr0
    obtain ⟨q, ws, F3, e1, b1, b2, b3, b4, mk⟩ := trs_sub h6 hj fun a z => (s.own n a (h5 a z).1).1
    refine ⟨_, p, vs, q, ws, F3, rfl, hv, .inr h4, e1, b2, (h5 q b1).1, fun a z => ⟨(h5 a (b3 a z).1).1, (b3 a z).2⟩, b4, trs_len h6, fun ws' tr => ?_⟩
    refine s.modify he hv fd bs (t1 := .tup (ts.set j (.lst us'))) ⟨p, vs, fun a => F1 a ∨ X a, rfl, .inl h2, h3, by rw [upd_ne (fun e : p = q => (h5 q b1).2 e.symm)]; exact h4, fun a z => ?_, mk X us' ws' (fun a z => ⟨fun y => nX a z (h5 a y).1, (fd a z).2.1⟩) tr⟩ (fun a o n' e => by rw [upd_ne (fun y : a = q => n' (by subst y; exact (h5 _ b1).1))]; exact e) fun a z => ?_
    · rcases z with z | z
      · exact ⟨.inl (h5 a z).1, (h5 a z).2⟩
      · exact ⟨.inr z, fun e => nX a z (by subst e; exact h2)⟩
    · by_cases q' : a = q
      · subst q'; rw [upd_same]; exact Option.some_ne_none _
      · rw [upd_ne q']; exact (s.own n a z).2
  | _ => cases hj
end
end TL
/-! TW3: methods of lists within; slices. -/
namespace TL
open PySem PySem.Spec PyProof.Rows L2
theorem atI_nat' {α : Type} {xs : List α} {j : Nat} {x : α} (h : xs[j]? = some x) : atI xs (j : Int) = some x := by
  obtain ⟨hj, e⟩ := List.getElem?_eq_some_iff.mp h
  obtain ⟨j2, e2, hl, e3⟩ := atI_nat (xs := xs) (i := (j : Int)) (by omega) (by omega)
  have : j2 = j := by omega
  subst this
  rw [e3, e]
section
variable {A : Amb} {G H G' H' : Hp} {σ : L2.St} {env : Env} {P P' : Nat → As} {X X' X1 : As} {v x y z : V} {t t1 t2 : T} {vs : List V} {as : List Ar} {ta tb te : TE} {r : R2} {ts : List T} {a b : Ar} {Post : T → Env → Prop} {nx bk ct : Env → Prop} {rt : T → Env → Prop}
/-- x[j].clear() -/
theorem we_clearIx {n j : Nat} {t0 : T} {us : List T} {i : Int} (he : env[n]? = some (some t0)) (hi : i = (j : Int)) (hj : subT t0 j = some (.lst us)) (q : Post N_ (env.set n (some (setT t0 j (.lst []))))) :
    WE A (tBM0 A.c.K "list" rClear (tOp (rIxA A.c.K) (tVar n) (tC (.int i)))) env Post := fun G H σ P s Q k => by
  subst hi
  obtain ⟨v, p, vs, q', ws, F1, rfl, hσ, hp, hv, hq, hP, hF, tr, _, mk⟩ := slot_sub (X := noF) (us' := []) s he hj (fun _ z => z.elim) (fun _ z => z.elim)
  obtain ⟨s2, st2⟩ := mk [] rfl
  have fin : tyV A.c.K "list" (.ref q') H ∧ rClear (.ref q') [] H Q := ⟨.inl ⟨rfl, _, SqL.of hq⟩, q', ws, rfl, rfl, hq, k N_ _ .non _ _ _ noF q ⟨s2, st2.wk (V := uP P) (fun a z => by rcases z with z | z; exact z; exact z.elim) (fun a z => by rcases z with z | z; exact .inl z; exact z.elim), .flat rfl fun _ z => nomatch z⟩⟩
  refine ⟨_, hσ, ?_⟩
  rcases hp with hp | hp
  · exact .inl (.inl ⟨p, vs, _, _, rfl, rfl, SqL.of hp, atI_nat' hv, fin⟩)
  · exact .inl (.inr ⟨p, vs, _, _, rfl, rfl, SqT.of hp, atI_nat' hv, fin⟩)
/-- x[j].append(k) -/
theorem we_appendIx {n j : Nat} {t0 : T} {us : List T} {i m : Int} (he : env[n]? = some (some t0)) (hi : i = (j : Int)) (hj : subT t0 j = some (.lst us)) (hl : us.length ≤ 1000000) (q : Post N_ (env.set n (some (setT t0 j (.lst (us ++ [I m])))))) :
    WE A (tBM A.c.K "list" rAppend (tOp (rIxA A.c.K) (tVar n) (tC (.int i))) (tCons (tC (.int m)) tNil)) env Post := fun G H σ P s Q k => by
  subst hi
  obtain ⟨v, p, vs, q', ws, F1, rfl, hσ, hp, hv, hq, hP, hF, tr, _, mk⟩ := slot_sub (X := noF) (us' := us ++ [I m]) s he hj (fun _ z => z.elim) (fun _ z => z.elim)
  obtain ⟨s2, st2⟩ := mk (ws ++ [.int m]) (trs_app (F1 := F1) (F2 := noF) (tr.mono (Ex.refl _) (fun _ z => z) (fun a o z e => by rw [upd_ne (hF a z).2]; exact e) fun a z => (s.own n a (hF a z).1).1) ⟨.int m, [], noF, noF, rfl, fun _ z => z, fun _ z => z.elim, ⟨rfl, fun _ z => nomatch z⟩, rfl⟩ (fun a z => .inl z) (fun a z => z.elim) fun a z => by
    rcases z with z | z
    · exact (s.own n a (hF a z).1).1
    · exact z.elim)
  have fin : tyV A.c.K "list" (.ref q') H ∧ rAppend (.ref q') [.int m] H Q := ⟨.inl ⟨rfl, _, SqL.of hq⟩, q', ws, .int m, rfl, rfl, hq, by rw [trs_len tr, sizeLine_eq]; omega, k N_ _ .non _ _ _ noF q ⟨s2, st2.wk (V := uP P) (fun a z => by rcases z with z | z; exact z; exact z.elim) (fun a z => by rcases z with z | z; exact .inl z; exact z.elim), .flat rfl fun _ z => nomatch z⟩⟩
  refine ⟨_, hσ, ?_⟩
  rcases hp with hp | hp
  · exact .inl (.inl ⟨p, vs, _, _, rfl, rfl, SqL.of hp, atI_nat' hv, fin⟩)
  · exact .inl (.inr ⟨p, vs, _, _, rfl, rfl, SqT.of hp, atI_nat' hv, fin⟩)
/-- x.clear() -/
theorem we_clear {n : Nat} {us : List T} (he : env[n]? = some (some (.lst us))) (q : Post N_ (env.set n (some (.lst [])))) : WE A (tBM0 A.c.K "list" rClear (tVar n)) env Post := fun G H σ P s Q k => by
  obtain ⟨p, ws, F3, hσ, hq, hPq, hF, trs, mk⟩ := slot_list (X := noF) (us := []) s he (fun _ z => z.elim) (fun _ z => z.elim)
  obtain ⟨s2, st2⟩ := mk [] fun _ _ => rfl
  exact ⟨_, hσ, .inl ⟨rfl, _, SqL.of hq⟩, p, ws, rfl, rfl, hq, k N_ _ .non _ _ _ noF q ⟨s2, st2.wk (V := uP P) (fun a z => by rcases z with z | z; exact z; exact z.elim) (fun a z => by rcases z with z | z; exact .inl z; exact z.elim), .flat rfl fun _ z => nomatch z⟩⟩
/-! ### slices -/
def WP (A : Amb) (tl : TO) (env : Env) (Post : Option Int → Env → Prop) : Prop := ∀ G H σ P, SR A G H σ env P → ∀ Q : Option Int → Hp → Prop,
  (∀ o env' G' H' P', Post o env' → SR A G' H' σ env' P' → Stp G H (uP P) G' H' (uP P') → Q o H') → tl σ H Q
theorem wp_no {Post : Option Int → Env → Prop} (q : Post none env) : WP A tNoPart env Post := fun G H σ P s Q k => k none env G H P q s Stp.refl
theorem wp_part {Post : Option Int → Env → Prop} (h : WE A te env fun t e => ∃ o i, t = .frz o (.int i) ∧ Post (some i) e) : WP A (tPart te) env Post := fun G H σ P s Q k => by
  refine h G H σ P s _ fun t e v G' H' P' F p r => ?_
  obtain ⟨o, i, rfl, p⟩ := p
  exact ⟨i, r.tm.tr.1, k (some i) e G' H' P' p r.sr r.drop⟩
def cutL {α : Type} (xs : List α) (lo hi : Option Int) : List α := (xs.drop (HT.sIx xs.length 0 lo)).take (HT.sIx xs.length xs.length hi - HT.sIx xs.length 0 lo)
theorem cutL_map {α β : Type} (f : α → β) (xs : List α) (lo hi : Option Int) : cutL (xs.map f) lo hi = (cutL xs lo hi).map f := by
  unfold cutL
  rw [List.length_map, List.map_take, List.map_drop]
theorem reps_take {c : Cn} {H : Hp} : ∀ {ds : List D} {vs : List V} (n : Nat), Reps c H ds vs → Reps c H (ds.take n) (vs.take n)
  | [], _, n, h => by cases h; simp; rfl
  | d :: ds, _, 0, h => by show Reps c H [] _; rfl
  | d :: ds, vs, n + 1, ⟨v, r, e, h1, h2⟩ => by subst e; exact ⟨v, r.take n, rfl, h1, reps_take n h2⟩
theorem reps_drop {c : Cn} {H : Hp} : ∀ {ds : List D} {vs : List V} (n : Nat), Reps c H ds vs → Reps c H (ds.drop n) (vs.drop n)
  | [], _, n, h => by cases h; simp; rfl
  | d :: ds, _, 0, h => h
  | d :: ds, vs, n + 1, ⟨v, r, e, h1, h2⟩ => by subst e; exact reps_drop n h2
/-- xs[lo:hi] of what is fixed -/
theorem we_sl {tl th : TO} (h : WE A ta env fun t e => ∃ o ds, t = .frz o (.lst ds) ∧ WP A tl e fun lo e => WP A th e fun hi e => Post (.lst ((cutL ds lo hi).map F)) e) : WE A (tSl (rSlA A.c.K) ta tl th) env Post := fun G H σ P s Q k => by
  refine h G H σ P s _ fun t e v G1 H1 P1 F1 p1 r1 => ?_
  obtain ⟨o, ds, rfl, p1⟩ := p1
  refine p1 G1 H1 σ P1 r1.sr _ fun lo e2 G2 H2 P2 p2 s2 st2 => p2 G2 H2 σ P2 s2 _ fun hi e3 G3 H3 P3 p3 s3 st3 => ?_
  obtain ⟨p, ws, rfl, hp, rp⟩ := r1.tm.tr.1
  have hq : H3 p = some (.lst ws) := s3.le _ _ (st3.g _ _ (st2.g _ _ hp))
  have rp3 := (rp.mono st2.g).mono st3.g
  refine .inl ⟨p, ws, rfl, SqL.of hq, fun l hl => ?_⟩
  have r := alloc_frzs (vs := cutV ws lo hi) (ds := cutL ds lo hi) s3 (by unfold cutV cutL; rw [reps_len rp]; exact reps_take _ (reps_drop _ rp3)) (U0 := uP P3) (fun _ z => z) hl
  exact k _ _ _ _ _ _ _ p3 ⟨r.sr, ((r1.drop.trans st2).trans st3).trans r.st, r.tm⟩
theorem cutI {ns : List Int} {lo hi : Option Int} : (cutL (ns.map D.int) lo hi).map F = (cutL ns lo hi).map I := by rw [cutL_map, List.map_map]; rfl
end
/-! ### slices with a step -/
def pick3 {α : Type} (xs : List α) (lo hi st : Option Int) : List α := (sliceRange (sliceBounds lo hi st xs.length).1 (sliceBounds lo hi st xs.length).2.1 (sliceBounds lo hi st xs.length).2.2).filterMap (xs[·]?)
def tSl3 (K : PySem.W.Frag) (te : TE) (tl th ts : TO) : TE := fun σ H Q => te σ H fun x H1 => tl σ H1 fun l H2 => th σ H2 fun u H3 => ts σ H3 fun s H4 => ∃ a xs, x = .ref a ∧ SqL K H4 a xs ∧ s ≠ some 0 ∧ (pick3 xs l u s).length ≤ xs.length ∧ ∀ p, H4 p = none → Q (.ref p) (upd H4 p (.lst (pick3 xs l u s)))
theorem vals_pick : ∀ {xs : List V} {us : List Value} (l : List Nat), Vals xs us → Vals (l.filterMap (xs[·]?)) (l.filterMap (us[·]?))
  | xs, us, [], _ => .nil
  | xs, us, i :: l, r => by
    have ih := vals_pick l r
    cases q : xs[i]? with
    | none =>
      have q2 := r.none_of q
      rw [List.filterMap_cons, List.filterMap_cons, q, q2]
      exact ih
    | some x =>
      obtain ⟨u, q2, rr⟩ := r.get q
      rw [List.filterMap_cons, List.filterMap_cons, q, q2]
      exact .cons rr ih
section
variable {X : Cx} {e se : Expr} {te : TE} {lo hi : Option Expr} {tl th ts : TO} {pos p2 : Pos}
theorem pe_sl3 (he : PE X e te) (hl : PO X lo tl) (hu : PO X hi th) (ht : PO X (some se) ts) : PE X (.Subscript e (.Slice lo hi (some se) p2) pos) (tSl3 X.K te tl th ts) := by
  refine ⟨fun pins s σ H Q I h => ?_⟩
  refine Subscript_ (thn (he.run pins s σ H _ I h) fun v s1 ⟨x, H1, I1, r1, q1⟩ => ?_)
  refine wpAny_Slice (thn (hl.run pins s1 σ H1 _ I1 q1) fun vl s2 ⟨l, H2, I2, pl, q2⟩ => thn (hu.run pins s2 σ H2 _ I2 q2) fun vu s3 ⟨u, H3, I3, pu, q3⟩ => thn (ht.run pins s3 σ H3 _ I3 q3) fun vt s4 ⟨st', H4, I4, pt, q4⟩ => ?_)
  obtain ⟨a, xs, rfl, hx, h0, hle, q⟩ := q4
  have I5 : Inv X pins σ H4 { s4 with heap := s4.heap.push { cls := .type "slice", data := .fields #[vl, vu, vt] } } := I4.kept (t' := s4.toks) fun b ob q => Heap.get?_push_of_some _ q
  cases r1
  obtain ⟨its, r, hq, hz⟩ := I5.list hx
  have hlen := r.length
  refine tail_any (ops := [.ref a, .ref s4.heap.objs.size]) hq.isList.typeIs slot_list_getitem.lookup ?_ (by with_unfolding_all rfl)
  refine wpAny_getItem_list_slice hq.isList (Heap.IsSliceOf.new ..) pl pu pt h0 ?_ (by rw [List.size_toArray] <;> omega)
  have e2 : slicePick its.toArray l u st' = (pick3 its l u st').toArray := by
    unfold slicePick pick3
    rw [List.size_toArray]
    simp
  rw [e2]
  have rv : Vals (pick3 xs l u st') (pick3 its l u st') := by
    unfold pick3
    rw [hlen]
    exact vals_pick _ r
  refine ⟨.ref (s4.heap.push { cls := .type "slice", data := .fields #[vl, vu, vt] }).objs.size, _, I5.laid (t' := s4.toks) (o := .lst (pick3 xs l u st')) (fun b ob q => Heap.get?_push_of_some _ q) (Nat.le_refl _) ?_, rfl, q _ (I5.hok.fresh (Nat.le_refl _))⟩
  exact ⟨Nat.le_trans hle hz, _, 0, rv, Heap.get?_push_size _ rfl⟩
end
/-! the steps that the texts have -/
theorem filterMap_idx {α : Type} {xs : List α} {f : Nat → Nat} (d : α) : ∀ n : Nat, (∀ k, k < n → f k < xs.length) → ((List.range n).map f).filterMap (xs[·]?) = (List.range n).map fun k => xs.getD (f k) d
  | 0, _ => rfl
  | n + 1, h => by
    have ih := filterMap_idx d n fun k hk => h k (by omega)
    have e : xs[f n]? = some (xs.getD (f n) d) := by rw [List.getD_eq_getElem?_getD, List.getElem?_eq_getElem (h n (by omega))]; rfl
    rw [List.range_succ, List.map_append, List.filterMap_append, ih, List.map_append]
    congr 1
    show List.filterMap (xs[·]?) [f n] = _
    rw [List.filterMap_cons, e]
    rfl
theorem getDV {ns : List Int} {k : Nat} : (ns.map V.int).getD k (.int 0) = .int (gi ns k) := by
  unfold gi
  rw [List.getD_eq_getElem?_getD, List.getD_eq_getElem?_getD, List.getElem?_map]
  cases ns[k]? <;> rfl
theorem pick_of {ns : List Int} {lo hi st : Option Int} {n : Nat} {f : Nat → Nat} (h : sliceRange (sliceBounds lo hi st ns.length).1 (sliceBounds lo hi st ns.length).2.1 (sliceBounds lo hi st ns.length).2.2 = (List.range n).map f) (hf : ∀ k, k < n → f k < ns.length) :
    pick3 (ns.map V.int) lo hi st = ((List.range n).map fun k => gi ns (f k)).map V.int := by
  unfold pick3
  rw [List.length_map, h, filterMap_idx (.int 0) n (by simpa using hf), List.map_map]
  exact List.map_congr_left fun k _ => getDV
theorem pick_rev {ns : List Int} : pick3 (ns.map V.int) none none (some (-1)) = ((List.range ns.length).map fun k => gi ns (ns.length - 1 - k)).map V.int := by
  refine pick_of ?_ fun k hk => by omega
  unfold sliceRange sliceBounds
  simp only [Option.getD_some, show ¬ ((-1 : Int) > 0) by decide, if_false]
  have e : (if ((ns.length : Int) - 1) > -1 then ((ns.length : Int) - 1 - -1 - -1 - 1) / (- -1) else 0).toNat = ns.length := by
    have e1 : (- -1 : Int) = 1 := by decide
    rw [e1]
    split <;> omega
  rw [e]
  refine List.map_congr_left fun k hk => ?_
  have := List.mem_range.mp hk
  omega
theorem pick_even {ns : List Int} : pick3 (ns.map V.int) none none (some 2) = ((List.range ((ns.length + 1) / 2)).map fun k => gi ns (2 * k)).map V.int := by
  refine pick_of ?_ fun k hk => by omega
  unfold sliceRange sliceBounds
  simp only [Option.getD_some, show ((2 : Int) > 0) by decide, if_true]
  have e : (if (0 : Int) < (ns.length : Int) then ((ns.length : Int) - 0 + 2 - 1) / 2 else 0).toNat = (ns.length + 1) / 2 := by
    split <;> omega
  rw [e]
  refine List.map_congr_left fun k hk => ?_
  omega
theorem pick_odd {ns : List Int} : pick3 (ns.map V.int) (some 1) none (some 2) = ((List.range (ns.length / 2)).map fun k => gi ns (2 * k + 1)).map V.int := by
  refine pick_of ?_ fun k hk => by omega
  unfold sliceRange sliceBounds
  simp only [Option.getD_some, show ((2 : Int) > 0) by decide, if_true, show ¬ ((1 : Int) < 0) by decide, if_false]
  have e : (if max 0 (min (1 : Int) (ns.length : Int)) < (ns.length : Int) then ((ns.length : Int) - max 0 (min 1 (ns.length : Int)) + 2 - 1) / 2 else 0).toNat = ns.length / 2 := by
    split <;> omega
  rw [e]
  refine List.map_congr_left fun k hk => ?_
  have := List.mem_range.mp hk
  omega
section
variable {A : Amb} {env : Env} {te : TE} {Post : T → Env → Prop}
theorem we_sl3c {tl th ts : TO} {lo hi st : Option Int} {g : List Int → List Int} (hl : ∀ σ H (Q : Option Int → Hp → Prop), Q lo H → tl σ H Q) (hh : ∀ σ H (Q : Option Int → Hp → Prop), Q hi H → th σ H Q) (hs : ∀ σ H (Q : Option Int → Hp → Prop), Q st H → ts σ H Q) (h0 : st ≠ some 0)
    (hp : ∀ ns : List Int, pick3 (ns.map V.int) lo hi st = (g ns).map V.int) (hn : ∀ ns : List Int, (g ns).length ≤ ns.length)
    (h : WE A te env fun t e => ∃ o ns, t = .frz o (.lst (ns.map D.int)) ∧ Post (.lst ((g ns).map I)) e) : WE A (tSl3 A.c.K te tl th ts) env Post := fun G H σ P s Q k => by
  refine h G H σ P s _ fun t e v G1 H1 P1 F1 p1 r1 => hl _ _ _ (hh _ _ _ (hs _ _ _ ?_))
  obtain ⟨o, ns, rfl, p1⟩ := p1
  obtain ⟨p, ws, rfl, hpp, rp⟩ := r1.tm.tr.1
  have e1 := reps_ints rp
  subst e1
  refine ⟨p, _, rfl, SqL.of (r1.sr.le _ _ hpp), h0, by rw [hp, List.length_map, List.length_map]; exact hn ns, fun l hl => ?_⟩
  rw [hp]
  have flat2 : ∀ {ns : List Int}, Reps A.c G1 (ns.map D.int) (ns.map V.int) := by
    intro ns
    induction ns with
    | nil => rfl
    | cons n ns ih => exact ⟨.int n, _, rfl, rfl, ih⟩
  have r := alloc_frzs (vs := (g ns).map V.int) r1.sr (flat2 (ns := g ns)) (U0 := uP P1) (fun _ z => z) hl
  rw [List.map_map] at r
  exact k _ _ _ _ _ _ _ p1 ⟨r.sr, r1.drop.trans r.st, r.tm⟩
theorem part_c {i : Int} : ∀ σ H (Q : Option Int → Hp → Prop), Q (some i) H → tPart (tC (.int i)) σ H Q := fun σ H Q q => ⟨i, rfl, q⟩
theorem part_n {i : Int} : ∀ σ H (Q : Option Int → Hp → Prop), Q (some (-i)) H → tPart (tUn (rU fun i => .int (-i)) (tC (.int i))) σ H Q := fun σ H Q q => ⟨i, rfl, -i, rfl, q⟩
theorem we_rev (h : WE A te env fun t e => ∃ o ns, t = .frz o (.lst (ns.map D.int)) ∧ Post (.lst (((List.range ns.length).map fun k => gi ns (ns.length - 1 - k)).map I)) e) : WE A (tSl3 A.c.K te tNoPart tNoPart (tPart (tUn (rU fun i => .int (-i)) (tC (.int 1))))) env Post :=
  we_sl3c (g := fun ns => (List.range ns.length).map fun k => gi ns (ns.length - 1 - k)) (fun _ _ _ q => q) (fun _ _ _ q => q) part_n (by decide) (fun ns => pick_rev) (fun ns => by simp) h
theorem we_even (h : WE A te env fun t e => ∃ o ns, t = .frz o (.lst (ns.map D.int)) ∧ Post (.lst (((List.range ((ns.length + 1) / 2)).map fun k => gi ns (2 * k)).map I)) e) : WE A (tSl3 A.c.K te tNoPart tNoPart (tPart (tC (.int 2)))) env Post :=
  we_sl3c (g := fun ns => (List.range ((ns.length + 1) / 2)).map fun k => gi ns (2 * k)) (fun _ _ _ q => q) (fun _ _ _ q => q) part_c (by decide) (fun ns => pick_even) (fun ns => by simp; omega) h
theorem we_odd (h : WE A te env fun t e => ∃ o ns, t = .frz o (.lst (ns.map D.int)) ∧ Post (.lst (((List.range (ns.length / 2)).map fun k => gi ns (2 * k + 1)).map I)) e) : WE A (tSl3 A.c.K te (tPart (tC (.int 1))) tNoPart (tPart (tC (.int 2)))) env Post :=
  we_sl3c (g := fun ns => (List.range (ns.length / 2)).map fun k => gi ns (2 * k + 1)) part_c (fun _ _ _ q => q) part_c (by decide) (fun ns => pick_odd) (fun ns => by simp; omega) h
end
end TL
/-! TW4: the rules in the shapes that the walk asks. -/
namespace TL
open PySem PySem.Spec PyProof.Rows L2
def mkTup (ts : List T) : T := match frzs ts with
  | some ds => .frz none (.tup ds)
  | none => .tup ts
theorem frzs_datas : ∀ {ts : List T} {ds : List D}, frzs ts = some ds → T.datas ts = ds
  | [], ds, h => by cases h; rfl
  | .frz ov d :: ts, ds, h => by
    have h' : (frzs ts).map (d :: ·) = some ds := h
    cases q : frzs ts with
    | none => rw [q] at h'; cases h'
    | some us =>
      rw [q] at h'
      cases h'
      show d :: T.datas ts = d :: us
      rw [frzs_datas q]
  | .lst _ :: _, _, h => by cases h
  | .tup _ :: _, _, h => by cases h
  | .dik _ :: _, _, h => by cases h
  | .dit _ :: _, _, h => by cases h
  | .ins _ _ :: _, _, h => by cases h
section
variable {A : Amb} {G H G' H' : Hp} {σ : L2.St} {env : Env} {P P' : Nat → As} {X X' X1 : As} {v x y z : V} {t t1 t2 : T} {vs : List V} {as : List Ar} {ta tb te : TE} {r : R2} {ts : List T} {a b : Ar} {Post : T → Env → Prop} {nx bk ct : Env → Prop} {rt : T → Env → Prop}
theorem wa_imp {tr : TA} {Post Post' : List Ar → Env → Prop} (h : WA A tr env Post') (q : ∀ as e, Post' as e → Post as e) : WA A tr env Post := fun G H σ P s Q k => h G H σ P s Q fun as e vs G' H' P' F p r => k as e vs G' H' P' F (q as e p) r
/-- (a, b, ..): fixed where all in it is fixed -/
theorem we_tup3 {tr : TA} (h : WA A tr env fun as e => ∃ ts t, tmps as = some ts ∧ as.length ≤ 1000 ∧ mkTup ts = t ∧ Post t e) : WE A (tTup tr) env Post := fun G H σ P s Q k => by
  refine h G H σ P s _ fun as e vs G1 H1 P1 F1 p1 r1 => ?_
  obtain ⟨ts, t, ht, hl, hm, hp⟩ := p1
  cases q : frzs ts with
  | none =>
    have e1 : t = .tup ts := by rw [← hm]; unfold mkTup; rw [q]
    subst e1
    refine ⟨by rw [r1.tm.tr.len, sizeLine_eq]; omega, fun p hn => ?_⟩
    have r2 := alloc_own r1.sr (tmps_tr ht r1.tm.tr) r1.tm.fd r1.tm.bs hn
    exact k _ _ _ _ _ _ _ hp ⟨r2.sr, r1.st.trans r2.st, r2.tm⟩
  | some ds =>
    have e1 : t = .frz none (.tup ds) := by rw [← hm]; unfold mkTup; rw [q]
    subst e1
    refine ⟨by rw [r1.tm.tr.len, sizeLine_eq]; omega, fun p hn => ?_⟩
    have r2 := alloc_tup r1.sr (frzs_rp q (tmps_tr ht r1.tm.tr)) (fun _ z => z) hn
    exact k _ _ _ _ _ _ _ hp ⟨r2.sr, r1.drop.trans r2.st, r2.tm⟩
theorem frz_n : frzs [] = some [] := rfl
theorem frz_c {ov : Option V} {d : D} {r : List T} {ds : List D} (h : frzs r = some ds) : frzs (.frz ov d :: r) = some (d :: ds) := by show (frzs r).map (d :: ·) = _; rw [h]; rfl
theorem mk_f {ts : List T} {ds : List D} (h : frzs ts = some ds) : mkTup ts = .frz none (.tup ds) := by unfold mkTup; rw [h]
theorem mk_o {ts : List T} (h : frzs ts = none) : mkTup ts = .tup ts := by unfold mkTup; rw [h]
theorem fl_lstI {ns : List Int} {o : Option V} (q : Post (I ns.length) env) : WC A (rLenA A.c.K) [.t (.frz o (.lst (ns.map D.int)))] env Post := fl_lst (by rw [List.length_map]; exact q)
theorem fl_slotI {n : Nat} {ns : List Int} (he : env[n]? = some (some (.lst (ns.map I)))) (q : Post (I ns.length) env) : WC A (rLenA A.c.K) [.s n] env Post := fl_slot he (by rw [List.length_map]; exact q)
theorem fl_tmpI {ns : List Int} (q : Post (I ns.length) env) : WC A (rLenA A.c.K) [.t (.lst (ns.map I))] env Post := fl_tmp (by rw [List.length_map]; exact q)
theorem fi_reprX {t : T} (hd : t.data.ok) (q : Post (S t.data.py.shown) env) : WC A (rRepr A.c.K) [.t t] env Post := wc_repr rfl hd q
theorem wr_catX {d1 d2 : D} {xs ys : List Int} (h1 : arD env a = some d1) (e1 : d1 = .lst (xs.map D.int)) (h2 : arD env b = some d2) (e2 : d2 = .lst (ys.map D.int)) (hl : xs.length + ys.length ≤ 1000000) (q : Post (.lst ((xs ++ ys).map I)) env) : WR A (rAddA A.c.K) a b env Post :=
  wr_catI (h1.trans (by rw [e1])) (h2.trans (by rw [e2])) hl q
theorem we_clearX {n : Nat} {t0 : T} {us : List T} {i : Int} (he : env[n]? = some (some t0)) (hi : 0 ≤ i) (hj : subT t0 i.toNat = some (.lst us)) (q : Post N_ (env.set n (some (setT t0 i.toNat (.lst []))))) :
    WE A (tBM0 A.c.K "list" rClear (tOp (rIxA A.c.K) (tVar n) (tC (.int i)))) env Post := we_clearIx he (by omega) hj q
theorem we_appendX {n : Nat} {t0 : T} {us : List T} {i m : Int} (he : env[n]? = some (some t0)) (hi : 0 ≤ i) (hj : subT t0 i.toNat = some (.lst us)) (hl : us.length ≤ 1000000) (q : Post N_ (env.set n (some (setT t0 i.toNat (.lst (us ++ [I m])))))) :
    WE A (tBM A.c.K "list" rAppend (tOp (rIxA A.c.K) (tVar n) (tC (.int i))) (tCons (tC (.int m)) tNil)) env Post := we_appendIx he (by omega) hj hl q
/-- list(xs) of numbers -/
theorem wc_list_frzI {o : Option V} {ns : List Int} (q : Post (.lst (ns.map I)) env) : WC A (rListOf A.c.K) [.t (.frz o (.lst (ns.map D.int)))] env Post := wc_list_frz (by rw [List.map_map]; exact q)
theorem frzs_I : ∀ ns : List Int, frzs (ns.map I) = some (ns.map D.int)
  | [] => rfl
  | n :: ns => by show (frzs (ns.map I)).map _ = _; rw [frzs_I ns]; rfl
theorem wc_list_slotI {n : Nat} {ns : List Int} (he : env[n]? = some (some (.lst (ns.map I)))) (q : Post (.lst (ns.map I)) env) : WC A (rListOf A.c.K) [.s n] env Post := wc_list_slot he (frzs_I ns) (by rw [List.map_map]; exact q)
end
end TL
/-! TW5: what a for walks, by its index; rows of numbers. -/
namespace TL
open PySem PySem.Spec PyProof.Rows L2
theorem ItR.cg {A : Amb} {G : Hp} {J : It} {n : Nat} {it it' : Nat → D} (h : ItR A G J n it) (e : ∀ i, i < n → it i = it' i) : ItR A G J n it' := fun G' H' σ env P s x i => by
  obtain ⟨h1, h2⟩ := h G' H' σ env P s x i
  exact ⟨h1, fun hi => by rw [← e i hi]; exact h2 hi⟩
theorem wi_cg {A : Amb} {wi : TI} {env : Env} {Post : Nat → (Nat → D) → Env → Prop} (h : WI A wi env fun n it e => ∃ it', (∀ i, i < n → it i = it' i) ∧ Post n it' e) : WI A wi env Post := fun G H σ P s R k => h G H σ P s R fun n it e J G' H' P' ⟨it', hi, p⟩ s' st itr => k n it' e J G' H' P' p s' st (itr.cg hi)
section
variable {A : Amb} {env : Env} {tl : TE} {tr : TA} {Post : Nat → (Nat → D) → Env → Prop}
/-- over a list told by its index -/
theorem wi_listF (h : WE A tl env fun t e => ∃ m f, t.data = .lst ((List.range m).map f) ∧ Post m f e) : WI A (iList A.c.K tl) env Post := wi_cg (wi_list (we_imp h fun t e ⟨m, f, e1, p⟩ => ⟨_, e1, f, fun i hi => getD_map (by simpa using hi), by rw [List.length_map, List.length_range]; exact p⟩))
theorem wi_listI (h : WE A tl env fun t e => ∃ ns : List Int, t.data = .lst (ns.map D.int) ∧ Post ns.length (fun i => .int (gi ns i)) e) : WI A (iList A.c.K tl) env Post := wi_cg (wi_list (we_imp h fun t e ⟨ns, e1, p⟩ => ⟨_, e1, fun i => .int (gi ns i), fun i hi => getD_int (by simpa using hi), by rw [List.length_map]; exact p⟩))
theorem wi_enumI (h : WA A tr env fun as e => ∃ t, ∃ ns : List Int, as = [.t t] ∧ t.data = .lst (ns.map D.int) ∧ Post ns.length (fun i => .tup [.int i, .int (gi ns i)]) e) : WI A (iEnum A.c.K tr) env Post := wi_cg (wi_enum (wa_imp h fun as e ⟨t, ns, e0, e1, p⟩ => ⟨t, _, e0, e1, fun i => .tup [.int i, .int (gi ns i)], fun i hi => by
    have := getD_int (ns := ns) (i := i) (by simpa using hi)
    show D.tup [_, _] = _
    rw [this], by rw [List.length_map]; exact p⟩))
theorem wi_zipI (h : WA A tr env fun as e => ∃ t1 t2, ∃ xs ys : List Int, as = [.t t1, .t t2] ∧ t1.data = .lst (xs.map D.int) ∧ t2.data = .lst (ys.map D.int) ∧ Post (min xs.length ys.length) (fun i => .tup [.int (gi xs i), .int (gi ys i)]) e) : WI A (iZip A.c.K tr) env Post :=
  wi_cg (wi_zip (wa_imp h fun as e ⟨t1, t2, xs, ys, e0, e1, e2, p⟩ => ⟨t1, t2, _, _, e0, e1, e2, fun i => .tup [.int (gi xs i), .int (gi ys i)], fun i hi => by
    rw [List.length_map, List.length_map] at hi
    have h1 := getD_int (ns := xs) (i := i) (by omega)
    have h2 := getD_int (ns := ys) (i := i) (by omega)
    show D.tup [_, _] = _
    rw [h1, h2], by rw [List.length_map, List.length_map]; exact p⟩))
end
theorem datas_rg {m : Nat} {g : Nat → T} : T.datas ((List.range m).map g) = (List.range m).map fun k => (g k).data := by rw [datas_map, List.map_map]; rfl
theorem cleans_map {α : Type} {g : α → T} : ∀ xs : List α, (∀ x, x ∈ xs → (g x).clean = true) → T.cleans (xs.map g) = true
  | [], _ => rfl
  | x :: xs, h => by show ((g x).clean && T.cleans (xs.map g)) = true; rw [h x List.mem_cons_self, cleans_map xs fun y hy => h y (List.mem_cons_of_mem _ hy)]; rfl
def two (f g : Nat → Int) : Nat → List Int
  | 0 => []
  | n + 1 => two f g n ++ [f n, g n]
theorem two_len {f g : Nat → Int} : ∀ n, (two f g n).length = 2 * n
  | 0 => rfl
  | n + 1 => by show (two f g n ++ [f n, g n]).length = _; rw [List.length_append, two_len n]; simp; omega
theorem two_mapS {f g : Nat → Int} {n : Nat} : (two f g (n + 1)).map I = (two f g n).map I ++ [I (f n), I (g n)] := by show (two f g n ++ [f n, g n]).map I = _; rw [List.map_append]; rfl
theorem two_cg {f g f' g' : Nat → Int} : ∀ n, (∀ k, k < n → f k = f' k ∧ g k = g' k) → two f g n = two f' g' n
  | 0, _ => rfl
  | n + 1, h => by show two f g n ++ _ = two f' g' n ++ _; rw [two_cg n fun k hk => h k (by omega), (h n (by omega)).1, (h n (by omega)).2]
theorem two_mem {f g : Nat → Int} {x : Int} : ∀ n, x ∈ two f g n → ∃ k, k < n ∧ (x = f k ∨ x = g k)
  | 0, h => by cases h
  | n + 1, h => by
    rcases List.mem_append.mp h with h | h
    · obtain ⟨k, hk, e⟩ := two_mem n h
      exact ⟨k, by omega, e⟩
    · exact ⟨n, by omega, by simpa using h⟩
theorem ne_len {α : Type} {xs : List α} (h : 0 < xs.length) : xs ≠ [] := List.length_pos_iff.mp h
theorem set_same {α : Type} {xs : List α} {i : Nat} {x : α} (h : xs[i]? = some x) : xs.set i x = xs := by
  obtain ⟨hi, e⟩ := List.getElem?_eq_some_iff.mp h
  subst e
  exact List.set_getElem_self hi
/-- numbers drawn from a box, one by one -/
theorem lc_box {A : Amb} {g : TG} {te : TE} {R : List T → Env → Prop} {ws : List Nat} {j : Int} {e0 : Env} (b m k : Nat) (lo hi : Int) (h0 : ∃ t, (wipeE e0 ws)[b]? = some (some t) ∧ Box m t)
    (hs : ∀ (i : Nat) t, (i : Int) < j → Box (m + k * i) t → WG A (fun j => j ∈ ws) g (I i) ((wipeE e0 ws).set b (some t)) fun e1 => WE A te e1 fun t' e3 => ∃ x t2, t' = I x ∧ (lo ≤ x ∧ x ≤ hi) ∧ Box (m + k * (i + 1)) t2 ∧ wipeE e3 ws = (wipeE e0 ws).set b (some t2))
    (q : ∀ (ns : List Int) t2, ns.length = j.toNat → (∀ n, n ∈ ns → lo ≤ n ∧ n ≤ hi) → Box (m + k * j.toNat) t2 → R (ns.map I) ((wipeE e0 ws).set b (some t2))) : ∃ Iv : Nat → List T → Env → Prop, Iv 0 [] (wipeE e0 ws) ∧
      (∀ (i : Nat) acc e, (i : Int) < j → acc.length ≤ i → Iv i acc e → WG A (fun j => j ∈ ws) g (I i) e fun e1 => WT A tYes e1 fun b e2 => (b = true → WE A te e2 fun t e3 => Iv (i + 1) (acc ++ [t]) (wipeE e3 ws)) ∧ (b = false → Iv (i + 1) acc (wipeE e2 ws))) ∧
      ∀ acc e, acc.length ≤ j.toNat → Iv j.toNat acc e → R acc e := by
  obtain ⟨t, h1, h2⟩ := h0
  refine ⟨fun i acc e => (∃ ns : List Int, acc = ns.map I ∧ ns.length = i ∧ ∀ n, n ∈ ns → lo ≤ n ∧ n ≤ hi) ∧ ∃ t, Box (m + k * i) t ∧ e = (wipeE e0 ws).set b (some t), ⟨⟨[], rfl, rfl, fun _ z => by cases z⟩, t, h2, (set_same h1).symm⟩, ?_, ?_⟩
  · rintro i acc e hi hl ⟨⟨ns, rfl, hn, hb⟩, t2, hbox, rfl⟩
    refine fun G H σ P v X s m Q k => hs i t2 hi hbox G H σ P v X s m Q fun e' G' H' σ' P' q' s' st l w => k e' G' H' σ' P' (wt_yes ⟨fun _ => ?_, fun z => nomatch z⟩) s' st l w
    refine we_imp q' fun t' e3 ⟨x, t3, e1, hx, hb3, e4⟩ => ⟨⟨ns ++ [x], by rw [e1, List.map_append]; rfl, by simp [hn], fun n hm => ?_⟩, t3, hb3, e4⟩
    rcases List.mem_append.mp hm with hm | hm
    · exact hb n hm
    · rcases List.mem_singleton.mp hm with rfl
      exact hx
  · rintro acc e hl ⟨⟨ns, rfl, hn, hb⟩, t2, hbox, rfl⟩
    exact q ns t2 hn hb hbox
theorem gi_last {xs : List Int} {x : Int} : gi (xs ++ [x]) ((xs ++ [x]).length - 1) = x := by
  unfold gi
  rw [List.getD_eq_getElem?_getD, List.length_append]
  simp
theorem ixN_last {n : Nat} (h : 0 < n) : ixN n (-1) = some (n - 1) := by
  unfold ixN
  have e1 : ((-1 : Int) < 0) := by decide
  have e2 : (-1 + (n : Int)).toNat = n - 1 := by omega
  have e3 : n - 1 < n := by omega
  have e4 : (0 : Int) ≤ -1 + (n : Int) := by omega
  have e5 : (1 : Int) ≤ n := by omega
  simp [e1, e2, e3, e4, e5]
  try omega
theorem map_rangeS {n : Nat} {f : Nat → Int} : (List.range (n + 1)).map f = (List.range n).map f ++ [f n] := by rw [List.range_succ, List.map_append]; rfl
theorem mem_rg {n : Nat} {f : Nat → Int} {x : Int} (h : x ∈ (List.range n).map f) : ∃ k, k < n ∧ x = f k := by
  obtain ⟨k, hk, e⟩ := List.mem_map.mp h
  exact ⟨k, List.mem_range.mp hk, e.symm⟩
/-! ### rows of numbers of up to fifteen figures -/
def Rw (lo : Nat) (ns : List Int) : Prop := lo ≤ ns.length ∧ ns.length ≤ 64 ∧ ∀ n, n ∈ ns → -1000000000000000 < n ∧ n < 1000000000000000
theorem Rw.gi {lo : Nat} {ns : List Int} (h : Rw lo ns) {i : Nat} (hi : i < ns.length) : -1000000000000000 < gi ns i ∧ gi ns i < 1000000000000000 := h.2.2 _ (gi_mem hi)
theorem Rw.set {lo : Nat} {ns : List Int} (h : Rw lo ns) {i : Nat} {x : Int} (hx : -1000000000000000 < x ∧ x < 1000000000000000) : Rw lo (ns.set i x) := ⟨by rw [List.length_set]; exact h.1, by rw [List.length_set]; exact h.2.1, fun n hn => by
  rcases List.mem_or_eq_of_mem_set hn with hn | rfl
  · exact h.2.2 n hn
  · exact hx⟩
theorem Rw.up {lo lo' : Nat} {ns : List Int} (h : Rw lo ns) (h2 : lo' ≤ lo) : Rw lo' ns := ⟨Nat.le_trans h2 h.1, h.2⟩
theorem sm_ints {b w n : Nat} {ns : List Int} (h : ∀ x, x ∈ ns → x.natAbs < 10 ^ n ∧ x.natAbs < 2 ^ w) (hn : 0 < n) (hb : n + 1 ≤ b) (hw : w ≤ 1900) {m : Nat} (hm : ns.length ≤ m) : (D.lst (ns.map D.int)).sm b (m * (w + 2)) 1 :=
  (sm_lst (b := b) (w := w + 1) (k := 0) fun d hd => by
    obtain ⟨x, hx, rfl⟩ := List.mem_map.mp hd
    exact sm_int (h x hx).1 hn hb (h x hx).2 hw).up (by rw [List.length_map]; exact Nat.mul_le_mul_right _ hm) (by decide)
/-- numbers of up to sixteen figures -/
theorem sm_big {ns : List Int} (h : ∀ x, x ∈ ns → -100000000000000000000 < x ∧ x < 100000000000000000000) {m : Nat} (hm : ns.length ≤ m) : (D.lst (ns.map D.int)).sm 40 (m * 82) 1 :=
  sm_ints (n := 20) (w := 80) (fun x hx => by have := h x hx; omega) (by decide) (by decide) (by decide) hm
theorem ok_big {ns : List Int} (h : ∀ x, x ∈ ns → -100000000000000000000 < x ∧ x < 100000000000000000000) (hm : ns.length ≤ 1000) : (D.lst (ns.map D.int)).ok := (sm_big h hm).ok (by decide) (by decide) (by decide)
theorem ok_big2 {as bs : List Int} (h : ∀ x, x ∈ as → -100000000000000000000 < x ∧ x < 100000000000000000000) (h2 : ∀ x, x ∈ bs → -100000000000000000000 < x ∧ x < 100000000000000000000) (hm : as.length ≤ 600) (hm2 : bs.length ≤ 600) : (D.tup [D.lst (as.map D.int), D.lst (bs.map D.int)]).ok :=
  (sm_tup (b := 40) (w := 600 * 82) (k := 1) fun d hd => by
    rcases List.mem_cons.mp hd with rfl | hd
    · exact sm_big h hm
    · rcases List.mem_singleton.mp hd with rfl
      exact sm_big h2 hm2).ok (by decide) (by decide) (by simp)
theorem Rw.ok {lo : Nat} {ns : List Int} (h : Rw lo ns) : (D.lst (ns.map D.int)).ok := ok_big (fun x hx => by have := h.2.2 x hx; omega) (by have := h.2.1; omega)
theorem ints_typ {ns : List Int} {x : D} (h : x ∈ ns.map D.int) : x.typ := by
  obtain ⟨n, _, rfl⟩ := List.mem_map.mp h
  exact ⟨_, rfl⟩
section
variable {A : Amb} {env : Env} {Post : T → Env → Prop}
theorem wc_intR {k : Bool} {o : Option V} (q : ∀ r : Int, (r = 0 ∨ r = 1) → (r = 1 ↔ k = true) → Post (I r) env) : WC A rIntA [.t (.frz o (.bl k))] env Post := wc_intb (by
  cases k with
  | true => exact q 1 (.inr rfl) (by simp)
  | false => exact q 0 (.inl rfl) (by simp))
end
end TL
/-! TW6: range with a step; zip over what is told by its index; slices of numbers. -/
namespace TL
open PySem PySem.Spec PyProof.Rows L2
section
variable {A : Amb} {G H : Hp} {env : Env} {tr : TA} {Post : Nat → (Nat → D) → Env → Prop}
theorem ArR.three {c : Cn} {σ : L2.St} {t1 t2 t3 : T} {X : As} {vs : List V} (h : ArR c G H σ [.t t1, .t t2, .t t3] X vs) : ∃ u v w F1 F2 F3, vs = [u, v, w] ∧ TR c G H t1 F1 u ∧ TR c G H t2 F2 v ∧ TR c G H t3 F3 w := by
  obtain ⟨u, r, F1, F2, e, h1, h2, h3, h4⟩ := h
  obtain ⟨v, w, F3, F4, e2, h5, h6⟩ := h4.two
  subst e2
  exact ⟨u, v, w, F1, F3, F4, e, h3, h5, h6⟩
/-- range(i, j, c), told as lo + k c for k < n -/
theorem wi_rng3 (h : WA A tr env fun as e => ∃ o o2 o3 i j c, as = [.t (.frz o (.int i)), .t (.frz o2 (.int j)), .t (.frz o3 (.int c))] ∧ ∃ n, RgC i j c n ∧ Post n (fun k => .int (i + k * c)) e) : WI A (iRng3 tr) env Post := fun G H σ P s R k => by
  refine h G H σ P s _ fun as e vs G1 H1 P1 F1 p1 r1 => ?_
  obtain ⟨o, o2, o3, i, j, c, rfl, n, h1, hp⟩ := p1
  obtain ⟨u, v, w, F2, F3, F4, rfl, tr1, tr2, tr3⟩ := r1.tm.tr.three
  exact ⟨i, j, c, n, by rw [show u = .int i from tr1.1, show v = .int j from tr2.1, show w = .int c from tr3.1], h1, k _ _ _ _ _ _ _ hp r1.sr r1.drop itr_c⟩
theorem wi_zipF (h : WA A tr env fun as e => ∃ t1 t2 m f, ∃ ys : List Int, as = [.t t1, .t t2] ∧ t1.data = .lst ((List.range m).map f) ∧ t2.data = .lst (ys.map D.int) ∧ Post (min m ys.length) (fun i => .tup [f i, .int (gi ys i)]) e) : WI A (iZip A.c.K tr) env Post :=
  wi_cg (wi_zip (wa_imp h fun as e ⟨t1, t2, m, f, ys, e0, e1, e2, p⟩ => ⟨t1, t2, _, _, e0, e1, e2, fun i => .tup [f i, .int (gi ys i)], fun i hi => by
    rw [List.length_map, List.length_map, List.length_range] at hi
    have h1 := getD_map (n := m) (f := f) (i := i) (by omega)
    have h2 := getD_int (ns := ys) (i := i) (by omega)
    show D.tup [_, _] = _
    rw [h1, h2], by rw [List.length_map, List.length_map, List.length_range]; exact p⟩))
end
theorem cut_first {ns : List Int} (h : 0 < ns.length) : cutL ns none (some 1) = [gi ns 0] := by
  unfold cutL HT.sIx
  cases ns with
  | nil => simp at h
  | cons n ns => simp; rfl
theorem cut_last {ns : List Int} (h : 0 < ns.length) : cutL ns (some (-1)) none = [gi ns (ns.length - 1)] := by
  have e : cutL ns (some (-1)) none = ns.drop (ns.length - 1) := by
    unfold cutL HT.sIx
    have e1 : (-1 + (ns.length : Int)).toNat = ns.length - 1 := by omega
    simp only [show ((-1 : Int) < 0) by decide, if_true, e1]
    exact List.take_of_length_le (by rw [List.length_drop]; exact Nat.le_refl _)
  rw [e]
  refine List.ext_getElem? fun i => ?_
  rw [List.getElem?_drop]
  cases i with
  | zero => rw [Nat.add_zero, gi_at (by omega)]; rfl
  | succ i => rw [List.getElem?_eq_none (by omega)]; rfl
theorem cut_from {ns : List Int} {a : Nat} (h : a ≤ ns.length) : cutL ns (some (a : Int)) none = ns.drop a := by
  unfold cutL HT.sIx
  have e1 : ¬ ((a : Int) < 0) := by omega
  have e2 : min (a : Int).toNat ns.length = a := by omega
  simp only [e1, if_false, e2]
  exact List.take_of_length_le (by rw [List.length_drop]; exact Nat.le_refl _)
theorem gi_app1 {xs ys : List Int} {i : Nat} (h : i < xs.length) : gi (xs ++ ys) i = gi xs i := by
  unfold gi
  rw [List.getD_eq_getElem?_getD, List.getD_eq_getElem?_getD, List.getElem?_append_left h]
theorem gi_app2 {xs ys : List Int} {i : Nat} (h : xs.length ≤ i) : gi (xs ++ ys) i = gi ys (i - xs.length) := by
  unfold gi
  rw [List.getD_eq_getElem?_getD, List.getD_eq_getElem?_getD, List.getElem?_append_right h]
/-- the nearest place of n -/
def nr (n : Nat) (a : Int) : Nat := (if a < 0 then 0 else if a < n then a else (n : Int) - 1).toNat
theorem nr_lt {n : Nat} {a : Int} (h : 0 < n) : nr n a < n := by
  unfold nr
  split
  · omega
  · split <;> omega
theorem rgc2 {i j : Int} (h1 : 0 ≤ i) (h2 : i ≤ 100000) (h3 : 0 ≤ j) (h4 : j ≤ 100000) : RgC i j 2 ((j - i + 1) / 2).toNat := by
  have e : Builtin.Range.rangeSize i j 2 = (((j - i + 1) / 2).toNat : Nat) := by
    unfold Builtin.Range.rangeSize
    simp only [show ((2 : Int) > 0) by decide, if_true]
    split <;> omega
  refine ⟨by decide, by decide, ?_, e⟩
  unfold Builtin.Range.small
  rw [e]
  simp only [Builtin.Range.rangeFitsLong, Bool.and_eq_true, Bool.or_eq_true, decide_eq_true_eq, beq_iff_eq, show ((2 : Int) > 0) by decide, if_true]
  omega
theorem app_stp {f : Nat → Int} {i : Nat} {x : Int} (h : x = f i) : (List.range i).map f ++ [x] = (List.range (i + 1)).map f := by rw [map_rangeS, h]
theorem int_n : intsOf [] = some [] := rfl
theorem int_c {i : Int} {r : List T} {is : List Int} (h : intsOf r = some is) : intsOf (.frz none (.int i) :: r) = some (i :: is) := by show (intsOf r).map (i :: ·) = _; rw [h]; rfl
section
variable {A : Amb} {env : Env} {Post : T → Env → Prop} {a : Ar}
theorem wr_catL {d1 : D} {xs is : List Int} {ts : List T} (h1 : arD env a = some d1) (e1 : d1 = .lst (xs.map D.int)) (h : intsOf ts = some is) (hl : xs.length + is.length ≤ 1000000) (q : Post (.lst ((xs ++ is).map I)) env) : WR A (rAddA A.c.K) a (.t (.lst ts)) env Post := by
  rw [intsOf_eq h]
  exact wr_catI (h1.trans (by rw [e1])) (congrArg (fun d => some (D.lst d)) (datas_I is)) hl q
theorem wr_catM {d1 : D} {xs is : List Int} {ts : List T} (h : intsOf ts = some is) (h1 : arD env a = some d1) (e1 : d1 = .lst (xs.map D.int)) (hl : is.length + xs.length ≤ 1000000) (q : Post (.lst ((is ++ xs).map I)) env) : WR A (rAddA A.c.K) (.t (.lst ts)) a env Post := by
  rw [intsOf_eq h]
  exact wr_catI (congrArg (fun d => some (D.lst d)) (datas_I is)) (h1.trans (by rw [e1])) hl q
end
section
variable {A : Amb} {env : Env} {Post : T → Env → Prop} {te : TE}
/-- a name's own thing may be fixed ahead of any expression -/
theorem we_fixS {i : Nat} {t : T} (h : env[i]? = some (some t)) (q : WE A te (env.set i (some (.frz none t.data))) Post) : WE A te env Post := fun G H σ P sr Q k => by
  obtain ⟨v, hv, rp, s', st⟩ := sr.fix i h
  exact q _ _ _ _ s' Q fun t e v G' H' P' F p r => k t e v G' H' P' F p ⟨r.sr, st.trans r.st, r.tm⟩
theorem drop_one {ns : List Int} {a : Nat} (h : ns.length = a + 1) : ns.drop a = [gi ns (ns.length - 1)] := by
  refine List.ext_getElem? fun i => ?_
  rw [List.getElem?_drop]
  cases i with
  | zero => rw [Nat.add_zero, show a = ns.length - 1 by omega, gi_at (by omega)]; rfl
  | succ i => rw [List.getElem?_eq_none (by omega)]; rfl
theorem drop_non {ns : List Int} {a : Nat} (h : ns.length ≤ a) : ns.drop a = [] := List.drop_eq_nil_iff.mpr h
theorem cut_fromI {ns : List Int} {a : Int} (h0 : 0 ≤ a) (h : a ≤ ns.length) : cutL ns (some a) none = ns.drop a.toNat := by
  have := cut_from (ns := ns) (a := a.toNat) (by omega)
  rwa [Int.toNat_of_nonneg h0] at this
end
end TL
/-! TW7: texts in lists; slices to a place; comprehensions that let nothing through. -/
namespace TL
open PySem PySem.Spec PyProof.Rows L2
def strsD : List D → Option (List Str)
  | [] => some []
  | .str i :: r => (strsD r).map (i :: ·)
  | _ => none
theorem str_n : strsD [] = some [] := rfl
theorem str_c {i : Str} {r : List D} {is : List Str} (h : strsD r = some is) : strsD (.str i :: r) = some (i :: is) := by show (strsD r).map (i :: ·) = _; rw [h]; rfl
theorem strsD_eq : ∀ {ts : List D} {is : List Str}, strsD ts = some is → ts = is.map D.str
  | [], is, h => by cases h; rfl
  | t :: ts, is, h => by
    unfold strsD at h
    split at h
    · rename_i e; cases e
    · rename_i i r' e
      cases e
      cases q : strsD ts with
      | none => rw [q] at h; cases h
      | some is' =>
        rw [q] at h
        cases h
        rw [strsD_eq q]; rfl
    · cases h
theorem inV_strs {i : Str} : ∀ {is : List Str}, inV (.str i) (is.map V.str) = decide (i ∈ is)
  | [] => by simp [inV]
  | n :: is => by
    have ih := inV_strs (i := i) (is := is)
    unfold inV at ih ⊢
    rw [List.map_cons, List.any_cons, ih]
    by_cases h : i = n
    · subst h; simp [eqV]
    · have : ¬ n = i := fun e => h e.symm
      simp [eqV, h, this]
theorem reps_strs {c : Cn} {H : Hp} : ∀ {ns : List Str} {us : List V}, Reps c H (ns.map D.str) us → us = ns.map V.str
  | [], us, r => r
  | n :: ns, us, ⟨v, r', e, h1, h2⟩ => by rw [e, reps_strs h2, show v = .str n from h1]; rfl
theorem sq_of {c : Cn} {H : Hp} {d : D} {y : V} {ws : List Str} (hd : d = .lst (ws.map D.str) ∨ d = .tup (ws.map D.str)) (h : Rep c H d y) : ∃ p, y = .ref p ∧ (SqL c.K H p (ws.map V.str) ∨ SqT c.K H p (ws.map V.str)) := by
  rcases hd with rfl | rfl
  · obtain ⟨p, us, rfl, hp, rp⟩ := h
    rw [reps_strs rp] at hp
    exact ⟨p, rfl, .inl (SqL.of hp)⟩
  · obtain ⟨p, us, rfl, hp, rp⟩ := h
    rw [reps_strs rp] at hp
    exact ⟨p, rfl, .inr (SqT.of hp)⟩
section
variable {A : Amb} {env : Env} {Post : T → Env → Prop} {a b : Ar}
theorem wr_niS {o1 : Option V} {w : Str} {d : D} {ws : List Str} (h1 : arD env b = some d) (hd : d = .lst (ws.map D.str) ∨ d = .tup (ws.map D.str)) (q : Post (B (!decide (w ∈ ws))) env) : WR A (rNiA A.c.K) (.t (.frz o1 (.str w))) b env Post := by
  refine wr_flat (d1 := .str w) (d2 := d) (d := .bl (!decide (w ∈ ws))) rfl h1 (fun _ => rfl) (fun H x y e1 e2 Q q => ?_) q
  cases e1
  obtain ⟨p, rfl, hp⟩ := sq_of hd e2
  refine .inl (.inl ⟨p, _, rfl, hp, rfl, by simp [flatV], ?_⟩)
  show Q (.bl (if true = true then !inV (.str w) (ws.map V.str) else _)) H
  rw [inV_strs]
  exact q
theorem wr_inS {o1 : Option V} {w : Str} {d : D} {ws : List Str} (h1 : arD env b = some d) (hd : d = .lst (ws.map D.str) ∨ d = .tup (ws.map D.str)) (q : Post (B (decide (w ∈ ws))) env) : WR A (rInA A.c.K) (.t (.frz o1 (.str w))) b env Post := by
  refine wr_flat (d1 := .str w) (d2 := d) (d := .bl (decide (w ∈ ws))) rfl h1 (fun _ => rfl) (fun H x y e1 e2 Q q => ?_) q
  cases e1
  obtain ⟨p, rfl, hp⟩ := sq_of hd e2
  refine .inl (.inl ⟨p, _, rfl, hp, rfl, by simp [flatV], ?_⟩)
  show Q (.bl (if false = true then _ else inV (.str w) (ws.map V.str))) H
  rw [inV_strs]
  exact q
end
theorem cut_to {ns : List Int} {a : Int} (h0 : 0 ≤ a) (h : a ≤ ns.length) : cutL ns none (some a) = ns.take a.toNat := by
  unfold cutL HT.sIx
  have e1 : ¬ (a < 0) := by omega
  have e2 : min a.toNat ns.length = a.toNat := by omega
  simp only [e1, if_false, e2, List.drop_zero, Nat.sub_zero]
theorem cut_mem {ns : List Int} {a b : Int} {x : Int} (h0 : 0 ≤ a) (h : x ∈ cutL ns (some a) (some b)) : ∃ k, a.toNat ≤ k ∧ k < ns.length ∧ (0 ≤ b → k < b.toNat) ∧ (b < 0 → (k : Int) < ns.length + b) ∧ x = gi ns k := by
  unfold cutL HT.sIx at h
  obtain ⟨j, hj, e⟩ := List.mem_iff_getElem.mp h
  rw [List.length_take, List.length_drop] at hj
  rw [List.getElem_take, List.getElem_drop] at e
  have e1 : ¬ (a < 0) := by omega
  simp only [e1, if_false] at hj e
  have hlt : min a.toNat ns.length + j < ns.length := by omega
  refine ⟨min a.toNat ns.length + j, by omega, hlt, fun hb => ?_, fun hb => ?_, ?_⟩
  · have e2 : ¬ (b < 0) := by omega
    simp only [e2, if_false] at hj
    omega
  · simp only [hb, if_true] at hj
    omega
  · have := gi_at (ns := ns) hlt
    rw [List.getElem?_eq_getElem hlt] at this
    rw [← e]
    exact Option.some.inj this
theorem take_mem {ns : List Int} {n : Nat} {x : Int} (h : x ∈ ns.take n) : ∃ k, k < n ∧ k < ns.length ∧ x = gi ns k := by
  obtain ⟨j, hj, e⟩ := List.mem_iff_getElem.mp h
  rw [List.length_take] at hj
  rw [List.getElem_take] at e
  have hlt : j < ns.length := by omega
  refine ⟨j, by omega, hlt, ?_⟩
  have := gi_at (ns := ns) hlt
  rw [List.getElem?_eq_getElem hlt] at this
  rw [← e]
  exact Option.some.inj this
theorem gi_set {ns : List Int} {j : Nat} {x : Int} (hj : j < ns.length) : gi (ns.set j x) j = x := by
  unfold gi
  rw [List.getD_eq_getElem?_getD, List.getElem?_set_self hj]; rfl
theorem gi_setN {ns : List Int} {j k : Nat} {x : Int} (h : j ≠ k) : gi (ns.set j x) k = gi ns k := by
  unfold gi
  rw [List.getD_eq_getElem?_getD, List.getD_eq_getElem?_getD, List.getElem?_set_ne h]
/-- a comprehension that lets nothing through -/
theorem lc_none {A : Amb} {g : TG} {tt : TT} {te : TE} {R : List T → Env → Prop} {ws : List Nat} {n : Nat} {it : Nat → D} {e0 : Env} (hn : n ≤ 100000)
    (hs : ∀ i, i < n → WG A (fun j => j ∈ ws) g (.frz none (it i)) (wipeE e0 ws) fun e1 => WT A tt e1 fun b e2 => b = false ∧ wipeE e2 ws = wipeE e0 ws)
    (q : R [] (wipeE e0 ws)) : n ≤ 100000 ∧ ∃ Inv : Nat → List T → Env → Prop, Inv 0 [] (wipeE e0 ws) ∧
      (∀ i acc e, i < n → acc.length ≤ i → Inv i acc e → WG A (fun j => j ∈ ws) g (.frz none (it i)) e fun e1 => WT A tt e1 fun b e2 => (b = true → WE A te e2 fun t e3 => Inv (i + 1) (acc ++ [t]) (wipeE e3 ws)) ∧ (b = false → Inv (i + 1) acc (wipeE e2 ws))) ∧
      ∀ acc e, acc.length ≤ n → Inv n acc e → R acc e :=
  ⟨hn, fun i acc e => acc = [] ∧ e = wipeE e0 ws, ⟨rfl, rfl⟩, fun i acc e hlt hl ⟨ha, he⟩ => by
    rw [he]
    refine fun G H σ P v X s m Q k => hs i hlt G H σ P v X s m Q fun e' G' H' σ' P' q' s' st l w => k e' G' H' σ' P' (fun G H σ P s Q k => q' G H σ P s Q fun b e2 G' H' P' ⟨hb, he2⟩ s' st => k b e2 G' H' P' ⟨fun z => absurd (hb.symm.trans z) Bool.false_ne_true, fun _ => ⟨ha, he2⟩⟩ s' st) s' st l w,
   fun acc e hl ⟨ha, he⟩ => by rw [ha, he]; exact q⟩
section
variable {A : Amb} {env : Env} {Post : T → Env → Prop}
theorem wr_ne_nil (q : Post (B false) env) : WR A (rNeA A.c.K) (.t (.lst [])) (.t (.lst [])) env Post := wr_neA (d1 := .lst []) (d2 := .lst []) rfl rfl rfl rfl rfl rfl (by
  have e : PyData.eqv (D.lst []).py (D.lst []).py = true := by decide +kernel
  rw [e]; exact q)
end
end TL
namespace TL
open PySem PySem.Spec PyProof.Rows L2
/-! one step at the level of trees; hK : A.keep = .. -/
local macro_rules | `(tactic| walk_at "pre") => `(tactic| first | assumption | omega | walk_at "ok" | exact ⟨_, rfl⟩ | exact box_mk (by omega) (by omega) (by omega) (by omega) (by omega) | exact box_up (by assumption) (by omega) | exact congrArg D.lst (datas_I _) | rfl | walk_at "len" | (with_unfolding_all decide))
local macro_rules | `(tactic| walk_at "ok") => `(tactic| assumption)
local macro_rules | `(tactic| walk_at "typ") => `(tactic| first | assumption | exact ⟨_, rfl⟩)
local macro_rules | `(tactic| walk_at "br") => `(tactic| first
  | (refine br_dec (fun h_ => ?_) (fun h_ => ?_) <;> try (with_reducible exact absurd rfl h_))
  | (refine br_ndec (fun h_ => ?_) (fun h_ => ?_) <;> try (with_reducible exact absurd rfl h_))
  | (refine br_decF (fun h_ => ?_) (fun h_ => ?_) <;> try (with_reducible exact absurd rfl h_))
  | (refine br_ndecF (fun h_ => ?_) (fun h_ => ?_) <;> try (with_reducible exact absurd rfl h_))
  | (refine br_nndec (fun h_ => ?_) (fun h_ => ?_) <;> try (with_reducible exact absurd rfl h_))
  | (refine br_T ?_) | (refine br_F ?_) | (refine br_T' ?_) | (refine br_F' ?_)
  | (refine br_nT ?_) | (refine br_nF ?_) | (refine br_nT' ?_) | (refine br_nF' ?_)
  | (refine br_n (fun h_ => ?_) (fun h_ => ?_) <;> try (with_unfolding_all (cases h_; done)))
  | (refine br_nn (fun h_ => ?_) (fun h_ => ?_) <;> try (with_unfolding_all (cases h_; done)))
  | (refine ⟨fun h_ => ?_, fun h_ => ?_⟩ <;> try (with_unfolding_all (cases h_; done))))
local macro_rules | `(tactic| walk_at "ws") => `(tactic| first
  | refine ws_seq ?_ | refine ws_asg ?_ | refine ws_if ?_ | refine ws_ret ?_ | refine ws_drop ?_
  | refine ws_next ?_ | refine ws_retN ?_ | refine ws_break ?_ | refine ws_cont ?_)
local macro_rules | `(tactic| walk_at "vw") => `(tactic| simp only [List.map_cons, List.map_nil, vw, T.data, T.datas, datas_I, datas_F])
local macro_rules | `(tactic| walk_at "rst") => `(tactic| (dsimp only [wipeE, restore, List.set]; try simp only [List.getElem?_cons_succ, List.getElem?_cons_zero, frzO]))
local macro_rules | `(tactic| walk_at "clean") => `(tactic| first | with_unfolding_all rfl | (simp only [T.clean, T.cleans, cleans_I, Bool.and_self, Bool.true_and, Bool.and_true]; done))
local macro_rules | `(tactic| walk_at "len") => `(tactic| ((try simp only [List.length_map, List.length_append, List.length_cons, List.length_nil, List.length_range, List.length_set, two_len]) <;> omega))
local macro_rules | `(tactic| walk_at "wt") => `(tactic| first
  | refine wt_test ?_ | refine wt_B ?_ | refine wt_not ?_ | refine wt_and ?_ | refine wt_or ?_ | refine wt_yes ?_)
local macro_rules | `(tactic| walk_at "wo") => `(tactic| first
  | (refine wo_e (we_var (by with_unfolding_all rfl) ?_)) | (refine wo_slot ⟨_, by with_unfolding_all rfl⟩ ?_) | refine wo_e ?_)
local macro_rules | `(tactic| walk_at "we") => `(tactic| first
  | refine we_int ?_ | refine we_bl ?_ | refine we_str ?_ | refine we_non ?_ | refine we_oth ?_
  | (refine we_var (by with_unfolding_all rfl) ?_)
  | refine we_op ?_ | refine we_un ?_ | refine we_cb ?_ | refine we_not ?_ | refine we_and ?_ | refine we_or ?_ | refine we_if ?_ | refine we_chain ?_
  | refine we_call ?_ | refine we_meth ?_ | refine we_mk0 ?_ | refine we_lst ?_ | refine we_tup3 ?_ | refine we_dictK ?_
  | (refine we_appendI (by with_unfolding_all rfl) ?_) | (refine we_append (by with_unfolding_all rfl) ?_) | (refine we_extend (by with_unfolding_all rfl) ?_)
  | (refine we_appendX (by with_unfolding_all rfl) (by decide) (by with_unfolding_all rfl) (by walk_at "len") ?_; dsimp only [List.set, setT, Int.reduceToNat])
  | (refine we_clear (by with_unfolding_all rfl) ?_; dsimp only [List.set])
  | (refine we_clearX (by with_unfolding_all rfl) (by decide) (by with_unfolding_all rfl) ?_; dsimp only [List.set, setT, Int.reduceToNat])
  | refine we_rev ?_ | refine we_even ?_ | refine we_odd ?_ | refine we_sl ?_ | (refine we_fix (by with_unfolding_all rfl) ?_; dsimp only [T.data]; try simp only [datas_I, datas_F]))
local macro_rules | `(tactic| walk_at "wa") => `(tactic| first | refine wa_nil ?_ | refine wa_cons ?_)
local macro_rules | `(tactic| walk_at "wr") => `(tactic| first
  | refine wr_and1 ?_ | refine wr_I0 ?_ | refine wr_Ib ?_ | refine wr_add_int ?_
  | refine wr_ne_nil ?_ | refine wr_eq_int ?_ | refine wr_ne_int ?_ | refine wr_eq_bl ?_ | refine wr_ne_bl ?_ | refine wr_eq_str ?_ | refine wr_ne_str ?_
  | (refine wr_mod (by omega) ?_; intro r_ hr_ hr0_ hr1_)
  | (refine wr_div (cdivw (by omega) (by omega)) ?_)
  | (refine wr_mul (by first | exact cmul1 (by omega) (by omega) | exact cmul2 (by omega) (by omega)) ?_)
  | (refine wr_pow (cpow (by omega) (by omega) (by omega) (by omega)) rfl ?_; try dsimp only [Int.reduceToNat, Int.reducePow])
  | (refine wr_ix_slot (by with_unfolding_all rfl) (by with_unfolding_all rfl) ?_)
  | (refine wr_ix_slotI (by with_unfolding_all rfl) (by omega) (by walk_at "len") ?_; try dsimp only [Int.reduceToNat])
  | (refine wr_ix_slotL (by with_unfolding_all rfl) (by with_unfolding_all rfl) (by first | assumption | exact ne_len (by walk_at "len") | simp) ?_; try simp only [gi_last])
  | (refine wr_ix_frzI (by omega) (by walk_at "len") ?_; try dsimp only [Int.reduceToNat])
  | (refine wr_ix_frzL (by with_unfolding_all rfl) (by first | assumption | exact ne_len (by walk_at "len") | simp) ?_)
  | (refine wr_ix_tmpIx (by omega) (by walk_at "len") ?_; try dsimp only [Int.reduceToNat])
  | (refine wr_ix_tmpT (by with_unfolding_all rfl) ?_)
  | (refine wr_catX (by with_unfolding_all rfl) (by first | with_unfolding_all exact congrArg D.lst (datas_I _) | with_unfolding_all rfl | exact congrArg D.lst (intsD_eq (by with_unfolding_all rfl))) (by with_unfolding_all rfl) (by first | with_unfolding_all exact congrArg D.lst (datas_I _) | with_unfolding_all rfl | exact congrArg D.lst (intsD_eq (by with_unfolding_all rfl))) (by walk_at "len") ?_)
  | (refine wr_catL (by with_unfolding_all rfl) (by first | with_unfolding_all exact congrArg D.lst (datas_I _) | with_unfolding_all rfl) (by repeat (first | exact int_n | apply int_c)) (by walk_at "len") ?_)
  | (refine wr_catM (by repeat (first | exact int_n | apply int_c)) (by with_unfolding_all rfl) (by first | with_unfolding_all exact congrArg D.lst (datas_I _) | with_unfolding_all rfl) (by walk_at "len") ?_)
  | (refine wr_niS (by with_unfolding_all rfl) (by with_unfolding_all (first | exact Or.inl (congrArg D.lst (strsD_eq (by repeat (first | exact str_n | apply str_c)))) | exact Or.inr (congrArg D.tup (strsD_eq (by repeat (first | exact str_n | apply str_c)))))) ?_)
  | (refine wr_inS (by with_unfolding_all rfl) (by with_unfolding_all (first | exact Or.inl (congrArg D.lst (strsD_eq (by repeat (first | exact str_n | apply str_c)))) | exact Or.inr (congrArg D.tup (strsD_eq (by repeat (first | exact str_n | apply str_c)))))) ?_)
  | (refine wr_inT (by with_unfolding_all rfl) ?_)
  | (refine wr_ix_frz (by with_unfolding_all rfl) ?_)
  | (refine wr_ix_tup (by with_unfolding_all rfl) ?_)
  | (refine wr_ix_scrI (by omega) (by omega) ?_; intro n_ hn_)
  | (refine wr_ix_tmpI (by with_unfolding_all rfl) (by omega) (by simp only [List.length_cons, List.length_nil] <;> omega) ?_; intro n_ hn_; simp only [List.mem_cons, List.mem_nil_iff, or_false] at hn_)
  | (refine wr_ix_tmpD (by omega) (by simp only [List.length_cons, List.length_nil] <;> omega) ?_; intro d_ hd_))
local macro_rules | `(tactic| walk_at "wc") => `(tactic| first
  | (refine fi_int (by walk_at "typ") ?_) | (refine fi_bool (by walk_at "typ") ?_) | (refine fi_str (by walk_at "typ") ?_) | (refine fi_list (by walk_at "typ") ?_) | (refine fi_tuple (by walk_at "typ") ?_)
  | refine fl_lstI ?_ | (refine fl_slotI (by with_unfolding_all rfl) ?_) | refine fl_tmpI ?_ | (refine fl_lst ?_; try simp only [datas_len]) | refine fl_tup ?_ | refine fl_scr ?_ | refine fl_tmp ?_ | (refine fl_tmpT ?_; simp only [List.length_cons, List.length_nil]) | (refine fl_slot (by with_unfolding_all rfl) ?_) | (refine fl_slotT (by with_unfolding_all rfl) ?_; simp only [List.length_cons, List.length_nil]) | (refine fs_ll (by with_unfolding_all rfl) ?_) | (refine fs_tt (by with_unfolding_all rfl) ?_) | (refine fl_str (by walk_at "pre") ?_)
  | (refine wc_maxR ?_; intro r_ hr1_ hr2_ hr3_) | (refine wc_minR ?_; intro r_ hr1_ hr2_ hr3_) | refine wc_abs ?_ | refine wc_int_int ?_ | (refine wc_intR ?_; intro r_ hr1_ hr2_)
  | (refine wc_str_int (log2_lt (by omega) (by omega)) ?_)
  | (refine fi_reprX (by simp only [T.data, T.datas, datas_I, datas_F]; walk_at "ok") ?_; simp only [T.data, T.datas, datas_I, datas_F])
  | refine wc_list_frzI ?_ | (refine wc_list_slotI (by with_unfolding_all rfl) ?_) | refine wc_list_frz ?_ | refine wc_list_tup ?_ | refine wc_tup_frz ?_ | (refine fi_repr (by walk_at "ok") ?_))
local macro_rules | `(tactic| walk_at "tl1") => `(tactic| first
  | (show WS _ (tRet (tVar _)) _ _ _ _ _; with_reducible first | refine ws_ret (we_var (by with_unfolding_all rfl) ?_) | (refine ws_ret (we_move (by with_unfolding_all rfl) ?_); dsimp only [List.set]))
  | (show WS _ _ _ _ _ _ _; with_reducible walk_at "ws")
  | (show WE _ (tCB (rRepr _) _) _ _; refine we_view fun _ _ => ?_; walk_at "vw"; refine we_cb ?_)
  | (show WE _ (tCall _ _ _ _) _ _; walk_at "view")
  | (show WE _ (tMeth _ _ _ _ _ _ _) _ _; walk_at "view")
  | (show WE _ _ _ _; with_reducible walk_at "we")
  | (show WO _ _ _ _; with_reducible walk_at "wo")
  | (show WA _ (tCons (tVar _) _) _ fun as e => ∃ ts t, tmps _ = some ts ∧ _ ∧ mkTup ts = t ∧ _; with_reducible refine wa_cons ?_; with_reducible first | (refine wo_e (we_var (by with_unfolding_all rfl) ?_)) | (refine wo_e (we_move (by with_unfolding_all rfl) ?_); dsimp only [List.set]))
  | (show WA _ _ _ _; with_reducible walk_at "wa")
  | (show WT _ _ _ _; with_reducible walk_at "wt")
  | (show WR _ _ _ _ _ _; with_reducible walk_at "wr")
  | (show WC _ _ _ _ _; with_reducible walk_at "wc")
  | (show WU _ _ _ _ _; with_reducible refine wu_I ?_)
  | (show WG _ _ _ _ _ _; with_reducible first | (refine wg_nameK (by with_unfolding_all rfl) (by assumption) (by with_unfolding_all decide) ?_; dsimp only [List.set]) | (refine wg_subI ?_ (by with_unfolding_all rfl)) | (refine wg_sub ?_ ⟨_, by with_unfolding_all rfl⟩) | (refine wg_tup (by with_unfolding_all rfl) ?_) | (refine wg_tupO (by with_unfolding_all rfl) ?_))
  | (show WGs _ _ _ _ _ _; with_reducible first | refine wgs_nil ?_ | refine wgs_cons ?_)
  | (show WGT _ _ _ _ _ _; with_reducible first | refine wgt_nil ?_ | refine wgt_cons ?_)
  | (show WE _ (tSl _ _ _ _) _ _; with_reducible refine we_sl ?_)
  | (show WP _ _ _ _; with_reducible first | refine wp_no ?_ | refine wp_part ?_)
  | (show instO _ _ _ _ ∧ _; refine ⟨by with_unfolding_all exact ⟨rfl, rfl⟩, ?_⟩)
  | (show T.clean _ = true ∧ _; refine ⟨by walk_at "clean", ?_⟩)
  | (show ∃ b, _ = B b ∧ _; with_reducible refine ⟨_, rfl, ?_⟩)
  | (show (_ → _) ∧ (_ → _); with_reducible walk_at "br")
  | (show ∃ ov d, Ar.t _ = Ar.t (T.frz ov d) ∧ _; refine ⟨_, _, rfl, ?_⟩)
  | (show ∃ ts, argT _ _ = some ts ∧ _; walk_at "call")
  | (show ∃ ts t, tmps _ = some ts ∧ _ ∧ mkTup ts = t ∧ _; refine ⟨_, _, by repeat (first | exact tmps_n | apply tmps_c), by simp only [List.length_cons, List.length_nil] <;> omega, by first | exact mk_f (by repeat (first | exact frz_n | apply frz_c)) | exact mk_o (by with_unfolding_all rfl), ?_⟩)
  | (show ∃ o x, _ = [Ar.t (T.frz o (D.int x))] ∧ ∃ ns : List Int, _; refine ⟨_, _, rfl, _, by with_unfolding_all rfl, by walk_at "len", ?_⟩; dsimp only [List.set])
  | (show ∃ t ts, _ = [Ar.t t] ∧ _ = some (some (T.lst ts)) ∧ _ ≤ _ ∧ _; refine ⟨_, _, rfl, by with_unfolding_all rfl, by walk_at "len", ?_⟩; dsimp only [List.set])
  | (show ∃ us ts, _ = [Ar.t (T.lst us)] ∧ _ = some (some (T.lst ts)) ∧ _ ≤ _ ∧ _; refine ⟨_, _, rfl, by with_unfolding_all rfl, by walk_at "len", ?_⟩; dsimp only [List.set])
  | (show ∃ o ns, _ = T.frz o (D.lst (List.map D.int ns)) ∧ _; refine ⟨_, _, rfl, ?_⟩)
  | (show ∃ o ds, _ = T.frz o (D.lst ds) ∧ _; refine ⟨_, _, rfl, ?_⟩; try simp only [cutI])
  | (show ∃ ts, tmps _ = some ts ∧ _; refine ⟨_, by repeat (first | exact tmps_n | apply tmps_c), by simp only [List.length_cons, List.length_nil] <;> omega, ?_⟩; try dsimp only [T.datas, T.data])
  | (show ∃ o k, _ = T.frz o (D.int k) ∧ ∃ ts j, _; first | (refine ⟨_, _, rfl, _, _, by with_unfolding_all rfl, by with_unfolding_all rfl, ?_⟩; dsimp only [List.set, Int.reduceToNat]) | (refine ⟨_, _, rfl, _, _, by with_unfolding_all rfl, ixN_ok (by omega) (by walk_at "len"), ?_⟩; dsimp only [List.set, Int.reduceToNat]) | (refine ⟨_, _, rfl, _, _, by with_unfolding_all rfl, ixN_last (by walk_at "len"), ?_⟩; dsimp only [List.set, Int.reduceToNat]))
  | (show ∃ o i, _ = T.frz o (D.int i) ∧ _; refine ⟨_, _, rfl, ?_⟩)
  | fail)
local macro_rules | `(tactic| walk_at "tl") => `(tactic| repeat' walk_at "tl1")
local macro_rules | `(tactic| walk_at "rb") => `(tactic| refine ret_B (by assumption) ?_ (by with_unfolding_all rfl))
def isWhole : D → Int → Int → Bool
  | .int n, lo, hi => decide (lo ≤ n) && decide (n ≤ hi)
  | _, _, _ => false
def isRow : D → Int → Bool
  | .lst ds, least => decide (least ≤ ds.length) && decide ((ds.length : Int) ≤ 64) && ds.all fun x => isWhole x (-999999999999999) 999999999999999
  | _, _ => false
/- is_whole: 0 thing 1 low 2 high -/
def S_is_whole : FS := fun ts Post => ∃ o : Option V, ∃ d : D, ∃ lo : Int, ∃ hi : Int, ts = [.frz o d, I lo, I hi] ∧ (d.typ) ∧ Post (.ret (B (isWhole d lo hi)) [some (.frz o d), some (I lo), some (I hi)])
theorem c_is_whole {o : Option V} {d : D} {lo : Int} {hi : Int} {Post : FO → Prop} (h0 : d.typ) (hp : Post (.ret (B (isWhole d lo hi)) [some (.frz o d), some (I lo), some (I hi)])) : S_is_whole [.frz o d, I lo, I hi] Post := ⟨_, _, _, _, rfl, h0, hp⟩
local macro_rules | `(tactic| walk_at "call") => `(tactic| (refine ⟨_, by with_unfolding_all rfl, by rfl, of_decide_eq_true (by with_unfolding_all rfl), c_is_whole (by walk_at "pre") ?_⟩; refine ⟨_, _, rfl, ?_⟩; try dsimp only [backT, List.set]))
def t_is_whole (c : Cn) : TS :=
  (tSeq (tIfS (tOr (tNot (tB (tCB (rIsi c.K) (tCons (tVar 0) (tCons (tC (.ty "int")) tNil))))) (tB (tCB (rIsi c.K) (tCons (tVar 0) (tCons (tC (.ty "bool")) tNil))))) (tRet (tC (.bl false))) tNext)
    (tRet (tChain (rI0 fun i j => .bl (decide (i ≤ j))) (rI0 fun i j => .bl (decide (i ≤ j))) (tVar 1) (tVar 0) (tVar 2))))
theorem w_is_whole {c : Cn} : Wk c 3 0 [0, 1, 2] S_is_whole (t_is_whole c) := by
  rintro ts Post ⟨o, d, lo, hi, rfl, h0, hp⟩ - A rfl hK
  show WS A _ [some (.frz o d), some (I lo), some (I hi)] _ _ _ _
  unfold t_is_whole
  cases d <;> walk_at "tl"
  all_goals first | exact hp | (walk_at "rb"; simp only [isWhole]; first | (simp [*]; done) | (rw [Bool.eq_iff_iff]; simp; omega))
/- is_row: 0 thing 1 least 2 number -/
def S_is_row : FS := fun ts Post => ∃ o : Option V, ∃ d : D, ∃ least : Int, ts = [.frz o d, I least] ∧ (d.typ) ∧ (∀ ds, d = .lst ds → ∀ x, x ∈ ds → x.typ) ∧ Post (.ret (B (isRow d least)) [some (.frz o d), some (I least)])
theorem c_is_row {o : Option V} {d : D} {least : Int} {Post : FO → Prop} (h0 : d.typ) (h1 : ∀ ds, d = .lst ds → ∀ x, x ∈ ds → x.typ) (hp : Post (.ret (B (isRow d least)) [some (.frz o d), some (I least)])) : S_is_row [.frz o d, I least] Post := ⟨_, _, _, rfl, h0, h1, hp⟩
local macro_rules | `(tactic| walk_at "call") => `(tactic| (refine ⟨_, by with_unfolding_all rfl, by rfl, of_decide_eq_true (by with_unfolding_all rfl), c_is_row (by walk_at "pre") (by walk_at "pre") ?_⟩; refine ⟨_, _, rfl, ?_⟩; try dsimp only [backT, List.set]))
def t_is_row (c : Cn) : TS :=
  (tSeq (tIfS (tOr (tNot (tB (tCB (rIsi c.K) (tCons (tVar 0) (tCons (tC (.ty "list")) tNil))))) (tNot (tTest (tChain (rI0 fun i j => .bl (decide (i ≤ j))) (rI0 fun i j => .bl (decide (i ≤ j))) (tVar 1) (tCB (rLenA c.K) (tCons (tVar 0) tNil)) (tC (.int 64)))))) (tRet (tC (.bl false))) tNext)
    (tSeq (tFor (iList c.K (tVar 0)) (gName 2) (tIfS (tNot (tB (tCall (spOf c 3 S_is_whole) [] E0 (tCons (tVar 2) (tCons (tUn (rU fun i => .int (-i)) (tC (.int 999999999999999))) (tCons (tC (.int 999999999999999)) tNil)))))) (tRet (tC (.bl false))) tNext))
    (tRet (tC (.bl true)))))
theorem w_is_row {c : Cn} : Wk c 2 1 [0, 1] S_is_row (t_is_row c) := by
  rintro ts Post ⟨o, d, least, rfl, h0, h1, hp⟩ - A rfl hK
  show WS A _ [some (.frz o d), some (I least), none] _ _ _ _
  unfold t_is_row
  cases d <;> walk_at "tl"
  all_goals first | exact hp | (walk_at "rb"; simp only [isRow]; first | (simp [*]; done) | (simp; omega)) | skip
  rename_i ds hl1 hl2 hl3
  refine ws_for_list (we_var (by with_unfolding_all rfl) ⟨_, rfl, loop_list (fun e0 i e => (∀ x, x ∈ ds.take i → isWhole x (-999999999999999) 999999999999999 = true) ∧ SetsE [2] e0 e) ⟨by simp, _, rfl⟩ ?_ ?_⟩)
  · rintro i x e hx ⟨ha, y, rfl⟩
    have hm := List.mem_of_getElem? hx
    have ht := h1 _ rfl x hm
    dsimp only [List.set]
    walk_at "tl"
    · rename_i h_
      walk_at "rb"
      simp only [isRow]
      rw [all_no hm h_, Bool.and_false]
    · rename_i h_
      exact ⟨take_step hx ha h_, _, rfl⟩
  · rintro e ⟨ha, y, rfl⟩
    walk_at "tl"
    walk_at "rb"
    simp only [isRow]
    rw [all_yes (take_all ha)]
    simp; omega
/- law_cell: 0 _law_script 1 _law_k -/
def S_law_cell : FS := fun ts Post => ∃ ns : List Int, ∃ k : Int, ts = [F (.scr ns), I k] ∧ (0 ≤ k) ∧ (k ≤ 1000) ∧ ∀ (r : Int), Post (.ret (I r) [some (F (.scr ns)), some (I k)])
theorem c_law_cell {ns : List Int} {k : Int} {Post : FO → Prop} (h0 : 0 ≤ k) (h1 : k ≤ 1000) (hp : ∀ (r : Int), Post (.ret (I r) [some (F (.scr ns)), some (I k)])) : S_law_cell [F (.scr ns), I k] Post := ⟨_, _, rfl, h0, h1, hp⟩
local macro_rules | `(tactic| walk_at "call") => `(tactic| (refine ⟨_, by with_unfolding_all rfl, by rfl, of_decide_eq_true (by with_unfolding_all rfl), c_law_cell (by walk_at "pre") (by walk_at "pre") ?_⟩; intro r; refine ⟨_, _, rfl, ?_⟩; try dsimp only [backT, List.set]))
def t_law_cell (c : Cn) : TS :=
  (tSeq (tIfS (tTest (tOp (rI0 fun i j => .bl (decide (i < j))) (tVar 1) (tCB (rLenA c.K) (tCons (tVar 0) tNil)))) (tRet (tOp (rIxA c.K) (tVar 0) (tVar 1))) tNext)
    (tRet (tOp (rAddA c.K) (tOp rMulA (tC (.int 7919)) (tVar 1)) (tC (.int 31)))))
theorem w_law_cell {c : Cn} : Wk c 2 0 [0, 1] S_law_cell (t_law_cell c) := by
  rintro ts Post ⟨ns, k, rfl, h0, h1, hp⟩ - A rfl hK
  show WS A _ [some (F (.scr ns)), some (I k)] _ _ _ _
  unfold t_law_cell
  walk_at "tl"
  all_goals (exact hp _)
/- law_box: 0 _law_cell_here -/
def S_law_box : FS := fun ts Post => ∃ k : Int, ts = [I k] ∧ ∀ (t : T), (Box 0 t) → Post (.ret (t) [some (I k)])
theorem c_law_box {k : Int} {Post : FO → Prop}  (hp : ∀ (t : T), (Box 0 t) → Post (.ret (t) [some (I k)])) : S_law_box [I k] Post := ⟨_, rfl, hp⟩
local macro_rules | `(tactic| walk_at "call") => `(tactic| (refine ⟨_, by with_unfolding_all rfl, by rfl, of_decide_eq_true (by with_unfolding_all rfl), c_law_box  ?_⟩; intro t g_0; refine ⟨_, _, rfl, ?_⟩; try dsimp only [backT, List.set]))
def t_law_box (c : Cn) : TS :=
  (tRet (tLst (tCons (tCB rMax2 (tCons (tC (.int 0)) (tCons (tOp (rI0 fun i j => .int (i - j)) (tVar 0) (tOp (rI CPow fun i j => .int (i ^ j.toNat)) (tC (.int 10)) (tC (.int 18)))) tNil))) (tCons (tOp (rI (fun _ j => 0 < j) fun i j => .int (i % j)) (tVar 0) (tC (.int 2147483647))) (tCons (tC (.int 0)) tNil)))))
theorem w_law_box {c : Cn} : Wk c 1 0 [0] S_law_box (t_law_box c) := by
  rintro ts Post ⟨k, rfl, hp⟩ - A rfl hK
  show WS A _ [some (I k)] _ _ _ _
  unfold t_law_box
  walk_at "tl"
  all_goals (exact hp _ (by walk_at "pre"))
/- law_take: 0 _law_box_here 1 _law_many 2 _law_far 3 _law_number 4 _law_digit -/
def S_law_take : FS := fun ts Post => ∃ m : Nat, ∃ t : T, ∃ k : Int, ts = [t, I k] ∧ (Box m t) ∧ (m ≤ 1000000000) ∧ (0 < k) ∧ (k < 10 ^ 60) ∧ ∀ (r : Int), ∀ (t1 : T), (0 ≤ r) → (r < k) → (Box (m + 1) t1) → Post (.ret (I r) [some (t1), some (I k)])
theorem c_law_take {m : Nat} {t : T} {k : Int} {Post : FO → Prop} (h0 : Box m t) (h1 : m ≤ 1000000000) (h2 : 0 < k) (h3 : k < 10 ^ 60) (hp : ∀ (r : Int), ∀ (t1 : T), (0 ≤ r) → (r < k) → (Box (m + 1) t1) → Post (.ret (I r) [some (t1), some (I k)])) : S_law_take [t, I k] Post := ⟨_, _, _, rfl, h0, h1, h2, h3, hp⟩
local macro_rules | `(tactic| walk_at "call") => `(tactic| (refine ⟨_, by with_unfolding_all rfl, by rfl, of_decide_eq_true (by with_unfolding_all rfl), c_law_take (by walk_at "pre") (by walk_at "pre") (by walk_at "pre") (by walk_at "pre") ?_⟩; intro r t1 g_0 g_1 g_2; refine ⟨_, _, rfl, ?_⟩; try dsimp only [backT, List.set]))
def t_law_take (c : Cn) : TS :=
  (tSeq (tIfS (tTest (tOp (rI0 fun i j => .bl (decide (j < i))) (tOp (rIxA c.K) (tVar 0) (tC (.int 0))) (tC (.int 0)))) (tSeq (tAsg (tOp (rI (fun _ j => 0 < j) fun i j => .int (i % j)) (tOp (rIxA c.K) (tVar 0) (tC (.int 0))) (tVar 1)) (gName 4))
    (tSeq (tAsg (tOp (rI CDivW fun i j => .int (i / j)) (tOp (rIxA c.K) (tVar 0) (tC (.int 0))) (tVar 1)) (gSub (tVar 0) (tC (.int 0)) rSetL))
    (tRet (tVar 4)))) tNext)
    (tSeq (tAsg (tOp (rAddA c.K) (tOp (rIxA c.K) (tVar 0) (tC (.int 2))) (tC (.int 1))) (gSub (tVar 0) (tC (.int 2)) rSetL))
    (tSeq (tAsg (tOp (rAddA c.K) (tOp (rAddA c.K) (tOp rMulA (tOp (rIxA c.K) (tVar 0) (tC (.int 1))) (tOp (rAddA c.K) (tC (.int 48271)) (tOp rMulA (tC (.int 2)) (tOp (rIxA c.K) (tVar 0) (tC (.int 2)))))) (tOp rMulA (tC (.int 7919)) (tOp (rIxA c.K) (tVar 0) (tC (.int 2))))) (tC (.int 11))) (gName 2))
    (tSeq (tAsg (tOp (rI (fun _ j => 0 < j) fun i j => .int (i % j)) (tOp (rI CPow fun i j => .int (i ^ j.toNat)) (tVar 2) (tC (.int 5))) (tC (.int 2147483629))) (gName 3))
    (tSeq (tAsg (tOp (rI (fun _ j => 0 < j) fun i j => .int (i % j)) (tOp rMulA (tOp (rAddA c.K) (tVar 3) (tOp rMulA (tC (.int 16807)) (tOp (rIxA c.K) (tVar 0) (tC (.int 2))))) (tOp (rAddA c.K) (tVar 3) (tC (.int 3)))) (tC (.int 2147483587))) (gName 3))
    (tRet (tOp (rI (fun _ j => 0 < j) fun i j => .int (i % j)) (tOp (rI CDivW fun i j => .int (i / j)) (tVar 3) (tC (.int 8))) (tVar 1))))))))
theorem w_law_take {c : Cn} : Wk c 2 3 [0, 1] S_law_take (t_law_take c) := by
  rintro ts Post ⟨m, t, k, rfl, h0, h1, h2, h3, hp⟩ - A rfl hK
  show WS A _ [some (t), some (I k), none, none, none] _ _ _ _
  unfold t_law_take
  obtain ⟨a, b, c0, rfl, ha, hb1, hb2, hc1, hc2⟩ := h0
  have hf : 0 ≤ b * (48271 + 2 * (c0 + 1)) ∧ b * (48271 + 2 * (c0 + 1)) ≤ 2147483647 * 2000100000 := ⟨Int.mul_nonneg hb1 (by omega), Int.mul_le_mul (by omega) (by omega) (by omega) (by omega)⟩
  have hq : 0 ≤ a / k := Int.ediv_nonneg ha (by omega)
  walk_at "tl"
  all_goals (exact hp _ _ (by walk_at "pre") (by walk_at "pre") (by walk_at "pre"))
theorem isRow_ok {lo : Nat} {ns : List Int} {l : Int} (h : Rw lo ns) (hl : l = lo) : isRow (.lst (ns.map D.int)) l = true := by
  subst hl
  obtain ⟨h1, h2, h3⟩ := h
  simp only [isRow, List.length_map]
  rw [all_yes (p := fun x => isWhole x (-999999999999999) 999999999999999)]
  · simp; omega
  · intro x hx
    obtain ⟨n, hn, rfl⟩ := List.mem_map.mp hx
    have := h3 n hn
    simp only [isWhole]
    simp; omega
theorem c_is_rowI {o : Option V} {ns : List Int} {l : Int} {lo : Nat} {Post : FO → Prop} (h : Rw lo ns) (hl : l = lo) (hp : Post (.ret (B true) [some (.frz o (.lst (ns.map D.int))), some (I l)])) : S_is_row [.frz o (.lst (ns.map D.int)), I l] Post :=
  ⟨o, _, l, rfl, ⟨_, rfl⟩, fun ds e x hx => by cases e; exact ints_typ hx, by rw [isRow_ok h hl]; exact hp⟩
local macro_rules | `(tactic| walk_at "call") => `(tactic| (refine ⟨_, by with_unfolding_all rfl, by rfl, of_decide_eq_true (by with_unfolding_all rfl), c_is_rowI (by assumption) (by rfl) ?_⟩; refine ⟨_, _, rfl, ?_⟩; try dsimp only [backT, List.set]))
def tl1 (ns : List Int) (f : Int → Int) : List Int := if ns.length % 2 = 1 then [f (gi ns (ns.length - 1))] else []
def prs (ns : List Int) : List T := (List.range (ns.length / 2)).map fun k => F (.tup [.int (gi ns (2 * k)), .int (gi ns (2 * k + 1))])
theorem prs_data (ns : List Int) : T.datas (prs ns) = (List.range (ns.length / 2)).map fun k => .tup [.int (gi ns (2 * k)), .int (gi ns (2 * k + 1))] := datas_rg
/- pairs_of: 0 row 1 k -/
def S_pairs_of : FS := fun ts Post => ∃ o : Option V, ∃ ns : List Int, ts = [.frz o (.lst (ns.map D.int))] ∧ (ns.length ≤ 1000) ∧ Post (.ret (.lst (prs ns)) [some (.frz o (.lst (ns.map D.int)))])
theorem c_pairs_of {o : Option V} {ns : List Int} {Post : FO → Prop} (h0 : ns.length ≤ 1000) (hp : Post (.ret (.lst (prs ns)) [some (.frz o (.lst (ns.map D.int)))])) : S_pairs_of [.frz o (.lst (ns.map D.int))] Post := ⟨_, _, rfl, h0, hp⟩
local macro_rules | `(tactic| walk_at "call") => `(tactic| (refine ⟨_, by with_unfolding_all rfl, by rfl, of_decide_eq_true (by with_unfolding_all rfl), c_pairs_of (by walk_at "pre") ?_⟩; refine ⟨_, _, rfl, ?_⟩; try dsimp only [backT, List.set]))
def t_pairs_of (c : Cn) : TS :=
  (tRet (tLc (iRng1 (tCons (tOp (rI CDivW fun i j => .int (i / j)) (tCB (rLenA c.K) (tCons (tVar 0) tNil)) (tC (.int 2))) tNil)) (gName 1) tYes (tTup (tCons (tOp (rIxA c.K) (tVar 0) (tOp rMulA (tC (.int 2)) (tVar 1))) (tCons (tOp (rIxA c.K) (tVar 0) (tOp (rAddA c.K) (tOp rMulA (tC (.int 2)) (tVar 1)) (tC (.int 1)))) tNil))) [1]))
theorem w_pairs_of {c : Cn} : Wk c 1 1 [0] S_pairs_of (t_pairs_of c) := by
  rintro ts Post ⟨o, ns, rfl, h0, hp⟩ - A rfl hK
  show WS A _ [some (.frz o (.lst (ns.map D.int))), none] _ _ _ _
  unfold t_pairs_of
  walk_at "tl"
  refine we_lc_rng1 (by rw [hK]; rfl) ?_
  walk_at "tl"
  refine ⟨_, _, rfl, by omega, by omega, lc_rng (fun k => F (.tup [.int (gi ns (2 * k)), .int (gi ns (2 * k + 1))])) (fun i hi => ?_) ?_⟩
  · dsimp only [wipeE, List.set]
    walk_at "tl"
    have e1 : (2 * (i : Int)).toNat = 2 * i := by omega
    have e2 : (2 * (i : Int) + 1).toNat = 2 * i + 1 := by omega
    rw [e1, e2]
    exact ⟨rfl, rfl⟩
  · have e1 : ((ns.length : Int) / 2).toNat = ns.length / 2 := by omega
    rw [e1]
    exact hp
def smS_2 (ns : List Int) : List Int := ((List.range (ns.length / 2)).map fun k => gi ns (2 * k) + gi ns (2 * k + 1)) ++ tl1 ns (fun x => 2 * x)
def dfS_2 (ns : List Int) : List Int := (List.range (ns.length / 2)).map fun k => gi ns (2 * k) - gi ns (2 * k + 1)
theorem smS_odd_2 {ns : List Int} (h : (ns.length : Int) % 2 = 1) : smS_2 ns = ((List.range (ns.length / 2)).map fun k => gi ns (2 * k) + gi ns (2 * k + 1)) ++ [2 * gi ns (ns.length - 1)] := by unfold smS_2 tl1; rw [if_pos (by omega)]
theorem smS_even_2 {ns : List Int} (h : ¬ (ns.length : Int) % 2 = 1) : smS_2 ns = ((List.range (ns.length / 2)).map fun k => gi ns (2 * k) + gi ns (2 * k + 1)) := by unfold smS_2 tl1; rw [if_neg (by omega), List.append_nil]
/- Sums_parted: 0 self 1 row 2 sums 3 one 4 other -/
def S_Sums_parted : FS := fun ts Post => ∃ o : Option V, ∃ ns : List Int, ∃ t : T, ts = [.frz o (.ins 2 []), t] ∧ (t.data = .lst (ns.map D.int)) ∧ (ns.length ≤ 64) ∧ (2 ≤ ns.length) ∧ Post (.ret (.tup [.lst ((smS_2 ns).map I), .lst ((dfS_2 ns).map I)]) [some (.frz o (.ins 2 [])), some (F (.lst (ns.map D.int)))])
theorem c_Sums_parted {o : Option V} {ns : List Int} {t : T} {Post : FO → Prop} (h0 : t.data = .lst (ns.map D.int)) (h1 : ns.length ≤ 64) (h2 : 2 ≤ ns.length) (hp : Post (.ret (.tup [.lst ((smS_2 ns).map I), .lst ((dfS_2 ns).map I)]) [some (.frz o (.ins 2 [])), some (F (.lst (ns.map D.int)))])) : S_Sums_parted [.frz o (.ins 2 []), t] Post := ⟨_, _, _, rfl, h0, h1, h2, hp⟩
local macro_rules | `(tactic| walk_at "call") => `(tactic| (refine ⟨_, by with_unfolding_all rfl, by rfl, of_decide_eq_true (by with_unfolding_all rfl), c_Sums_parted (by walk_at "pre") (by walk_at "pre") (by walk_at "pre") ?_⟩; refine ⟨_, _, rfl, ?_⟩; try dsimp only [backT, List.set]))
def t_Sums_parted (c : Cn) : TS :=
  (tSeq (tAsg (tLc (iList c.K (tCall (spOf c 1 S_pairs_of) [] E0 (tCons (tVar 1) tNil))) (gTup c.K 2 (gCons (gName 3) (gCons (gName 4) gNil))) tYes (tOp (rAddA c.K) (tVar 3) (tVar 4)) [3, 4]) (gName 2))
    (tSeq (tIfS (tTest (tOp (rEqA c.K) (tOp (rI0 fun i j => .int (Builtin.bitAnd i j)) (tCB (rLenA c.K) (tCons (tVar 1) tNil)) (tC (.int 1))) (tC (.int 1)))) (tDrop (tBM c.K "list" rAppend (tVar 2) (tCons (tOp rMulA (tC (.int 2)) (tOp (rIxA c.K) (tVar 1) (tUn (rU fun i => .int (-i)) (tC (.int 1))))) tNil))) tNext)
    (tRet (tTup (tCons (tVar 2) (tCons (tLc (iList c.K (tCall (spOf c 1 S_pairs_of) [] E0 (tCons (tVar 1) tNil))) (gTup c.K 2 (gCons (gName 3) (gCons (gName 4) gNil))) tYes (tOp (rI0 fun i j => .int (i - j)) (tVar 3) (tVar 4)) [3, 4]) tNil))))))
theorem w_Sums_parted {c : Cn} : Wk c 2 3 [0, 1] S_Sums_parted (t_Sums_parted c) := by
  rintro ts Post ⟨o, ns, t, rfl, h0, h1, h2, hp⟩ - A rfl hK
  show WS A _ [some (.frz o (.ins 2 [])), some (t), none, none, none] _ _ _ _
  unfold t_Sums_parted
  refine ws_fix (i := 1) (by with_unfolding_all rfl) ?_
  rw [h0]
  have hne : ns ≠ [] := fun e => by subst e; simp at h2
  dsimp only [List.set]
  walk_at "tl"
  refine we_lc (by rw [hK]; rfl) (wi_listF ?_)
  walk_at "tl"
  refine ⟨_, _, congrArg D.lst (prs_data ns), lc_n (by omega) (fun k => I (gi ns (2 * k) + gi ns (2 * k + 1))) (fun i hi => ?_) ?_⟩
  · dsimp only [wipeE, List.set]
    walk_at "tl"
    exact ⟨rfl, rfl⟩
  rw [mapI]
  walk_at "rst"
  walk_at "tl"
  all_goals refine we_lc (by rw [hK]; rfl) (wi_listF ?_)
  all_goals walk_at "tl"
  all_goals refine ⟨_, _, congrArg D.lst (prs_data ns), lc_n (by omega) (fun k => I (gi ns (2 * k) - gi ns (2 * k + 1))) (fun i hi => ?_) ?_⟩
  · dsimp only [wipeE, List.set]
    walk_at "tl"
    exact ⟨rfl, rfl⟩
  · rw [mapI]
    walk_at "rst"
    walk_at "tl"
    rename_i h
    rw [smS_odd_2 h] at hp
    exact hp
  · dsimp only [wipeE, List.set]
    walk_at "tl"
    exact ⟨rfl, rfl⟩
  · rw [mapI]
    walk_at "rst"
    walk_at "tl"
    rename_i h
    rw [smS_even_2 h] at hp
    exact hp
def smS_3 (ns : List Int) : List Int := ((List.range (ns.length / 2)).map fun k => (gi ns (2 * k) + gi ns (2 * k + 1)) / 2) ++ tl1 ns (fun x => x)
def dfS_3 (ns : List Int) : List Int := (List.range (ns.length / 2)).map fun k => gi ns (2 * k) - gi ns (2 * k + 1)
theorem smS_odd_3 {ns : List Int} (h : (ns.length : Int) % 2 = 1) : smS_3 ns = ((List.range (ns.length / 2)).map fun k => (gi ns (2 * k) + gi ns (2 * k + 1)) / 2) ++ [gi ns (ns.length - 1)] := by unfold smS_3 tl1; rw [if_pos (by omega)]
theorem smS_even_3 {ns : List Int} (h : ¬ (ns.length : Int) % 2 = 1) : smS_3 ns = ((List.range (ns.length / 2)).map fun k => (gi ns (2 * k) + gi ns (2 * k + 1)) / 2) := by unfold smS_3 tl1; rw [if_neg (by omega), List.append_nil]
abbrev bkf_3 (ss ds : List Int) (k : Nat) : Int := gi ss k + (gi ds k + 1) / 2
def bkS_3 (ss ds : List Int) : List Int := two (bkf_3 ss ds) (fun k => bkf_3 ss ds k - gi ds k) ds.length ++ (if ss.length > ds.length then [gi ss (ss.length - 1)] else [])
/- half_sums: 0 row 1 sums 2 one 3 other -/
def S_half_sums : FS := fun ts Post => ∃ o : Option V, ∃ ns : List Int, ts = [.frz o (.lst (ns.map D.int))] ∧ (ns.length ≤ 64) ∧ (2 ≤ ns.length) ∧ Post (.ret (.lst ((smS_3 ns).map I)) [some (.frz o (.lst (ns.map D.int)))])
theorem c_half_sums {o : Option V} {ns : List Int} {Post : FO → Prop} (h0 : ns.length ≤ 64) (h1 : 2 ≤ ns.length) (hp : Post (.ret (.lst ((smS_3 ns).map I)) [some (.frz o (.lst (ns.map D.int)))])) : S_half_sums [.frz o (.lst (ns.map D.int))] Post := ⟨_, _, rfl, h0, h1, hp⟩
local macro_rules | `(tactic| walk_at "call") => `(tactic| (refine ⟨_, by with_unfolding_all rfl, by rfl, of_decide_eq_true (by with_unfolding_all rfl), c_half_sums (by walk_at "pre") (by walk_at "pre") ?_⟩; refine ⟨_, _, rfl, ?_⟩; try dsimp only [backT, List.set]))
def t_half_sums (c : Cn) : TS :=
  (tSeq (tAsg (tLc (iList c.K (tCall (spOf c 1 S_pairs_of) [] E0 (tCons (tVar 0) tNil))) (gTup c.K 2 (gCons (gName 2) (gCons (gName 3) gNil))) tYes (tOp (rI CDivW fun i j => .int (i / j)) (tOp (rAddA c.K) (tVar 2) (tVar 3)) (tC (.int 2))) [2, 3]) (gName 1))
    (tSeq (tIfS (tTest (tOp (rEqA c.K) (tOp (rI0 fun i j => .int (Builtin.bitAnd i j)) (tCB (rLenA c.K) (tCons (tVar 0) tNil)) (tC (.int 1))) (tC (.int 1)))) (tDrop (tBM c.K "list" rAppend (tVar 1) (tCons (tOp (rIxA c.K) (tVar 0) (tUn (rU fun i => .int (-i)) (tC (.int 1)))) tNil))) tNext)
    (tRet (tVar 1))))
theorem w_half_sums {c : Cn} : Wk c 1 3 [0] S_half_sums (t_half_sums c) := by
  rintro ts Post ⟨o, ns, rfl, h0, h1, hp⟩ - A rfl hK
  show WS A _ [some (.frz o (.lst (ns.map D.int))), none, none, none] _ _ _ _
  unfold t_half_sums
  have hne : ns ≠ [] := ne_len (by omega)
  walk_at "tl"
  refine we_lc (by rw [hK]; rfl) (wi_listF ?_)
  walk_at "tl"
  refine ⟨_, _, congrArg D.lst (prs_data ns), lc_n (by omega) (fun k => I ((gi ns (2 * k) + gi ns (2 * k + 1)) / 2)) (fun i hi => ?_) ?_⟩
  · dsimp only [wipeE, List.set]
    walk_at "tl"
    exact ⟨rfl, rfl⟩
  rw [mapI]
  walk_at "rst"
  walk_at "tl"
  · rename_i h
    rw [smS_odd_3 h] at hp
    exact hp
  · rename_i h
    rw [smS_even_3 h] at hp
    exact hp
/- Halves_parted: 0 self 1 row 2 one 3 other -/
def S_Halves_parted : FS := fun ts Post => ∃ o : Option V, ∃ ns : List Int, ∃ t : T, ts = [.frz o (.ins 3 []), t] ∧ (t.data = .lst (ns.map D.int)) ∧ (ns.length ≤ 64) ∧ (2 ≤ ns.length) ∧ Post (.ret (.tup [.lst ((smS_3 ns).map I), .lst ((dfS_3 ns).map I)]) [some (.frz o (.ins 3 [])), some (F (.lst (ns.map D.int)))])
theorem c_Halves_parted {o : Option V} {ns : List Int} {t : T} {Post : FO → Prop} (h0 : t.data = .lst (ns.map D.int)) (h1 : ns.length ≤ 64) (h2 : 2 ≤ ns.length) (hp : Post (.ret (.tup [.lst ((smS_3 ns).map I), .lst ((dfS_3 ns).map I)]) [some (.frz o (.ins 3 [])), some (F (.lst (ns.map D.int)))])) : S_Halves_parted [.frz o (.ins 3 []), t] Post := ⟨_, _, _, rfl, h0, h1, h2, hp⟩
local macro_rules | `(tactic| walk_at "call") => `(tactic| (refine ⟨_, by with_unfolding_all rfl, by rfl, of_decide_eq_true (by with_unfolding_all rfl), c_Halves_parted (by walk_at "pre") (by walk_at "pre") (by walk_at "pre") ?_⟩; refine ⟨_, _, rfl, ?_⟩; try dsimp only [backT, List.set]))
def t_Halves_parted (c : Cn) : TS :=
  (tRet (tTup (tCons (tCall (spOf c 1 S_half_sums) [] E0 (tCons (tVar 1) tNil)) (tCons (tLc (iList c.K (tCall (spOf c 1 S_pairs_of) [] E0 (tCons (tVar 1) tNil))) (gTup c.K 2 (gCons (gName 2) (gCons (gName 3) gNil))) tYes (tOp (rI0 fun i j => .int (i - j)) (tVar 2) (tVar 3)) [2, 3]) tNil))))
theorem w_Halves_parted {c : Cn} : Wk c 2 2 [0, 1] S_Halves_parted (t_Halves_parted c) := by
  rintro ts Post ⟨o, ns, t, rfl, h0, h1, h2, hp⟩ - A rfl hK
  show WS A _ [some (.frz o (.ins 3 [])), some (t), none, none] _ _ _ _
  unfold t_Halves_parted
  refine ws_fix (i := 1) (by with_unfolding_all rfl) ?_
  rw [h0]
  dsimp only [List.set]
  walk_at "tl"
  refine we_lc (by rw [hK]; rfl) (wi_listF ?_)
  walk_at "tl"
  refine ⟨_, _, congrArg D.lst (prs_data ns), lc_n (by omega) (fun k => I (gi ns (2 * k) - gi ns (2 * k + 1))) (fun i hi => ?_) ?_⟩
  · dsimp only [wipeE, List.set]
    walk_at "tl"
    exact ⟨rfl, rfl⟩
  rw [mapI]
  walk_at "rst"
  walk_at "tl"
  exact hp
abbrev hf_4 (ns : List Int) : Nat := (ns.length + 1) / 2
def dG_4 (ns : List Int) (k : Nat) : Int := gi ns (2 * k + 1) - (gi ns (2 * k) + gi ns (2 * nr (hf_4 ns) (k + 1))) / 2
def dfS_4 (ns : List Int) : List Int := (List.range (ns.length / 2)).map (dG_4 ns)
def lfG_4 (ds : List Int) (k : Nat) : Int := (gi ds (nr ds.length ((k : Int) - 1)) + gi ds (nr ds.length k) + 2) / 4
def sG_4 (ns : List Int) (k : Nat) : Int := gi ns (2 * k) + lfG_4 (dfS_4 ns) k
def smS_4 (ns : List Int) : List Int := (List.range (hf_4 ns)).map (sG_4 ns)
def fB_4 (ss ds : List Int) : List Int := (List.range ss.length).map fun k => gi ss k - lfG_4 ds k
def bB_4 (ss ds : List Int) (k : Nat) : Int := gi ds k + (gi (fB_4 ss ds) k + gi (fB_4 ss ds) (nr ss.length (k + 1))) / 2
def bkS_4 (ss ds : List Int) : List Int := two (gi (fB_4 ss ds)) (bB_4 ss ds) ds.length ++ (if ss.length > ds.length then [gi (fB_4 ss ds) (ss.length - 1)] else [])
theorem dfS_len_4 (ns : List Int) : (dfS_4 ns).length = ns.length / 2 := by unfold dfS_4; rw [List.length_map, List.length_range]
theorem smS_len_4 (ns : List Int) : (smS_4 ns).length = hf_4 ns := by unfold smS_4; rw [List.length_map, List.length_range]
theorem fB_len_4 (ss ds : List Int) : (fB_4 ss ds).length = ss.length := by unfold fB_4; rw [List.length_map, List.length_range]
theorem nr_eq_4 {n : Nat} {r : Int} {a : Int} {b : Int} (hn : 0 < n) (h1 : b ≤ a) (h2 : b ≤ n - 1) (h3 : b = a ∨ b = n - 1) (h4 : 0 ≤ r) (h5 : b ≤ r) (h6 : r = 0 ∨ r = b) : r.toNat = nr n a := by
  unfold nr
  split
  · omega
  · split <;> omega
/- nearest: 0 row 1 at -/
def S_nearest : FS := fun ts Post => ∃ o : Option V, ∃ ns : List Int, ∃ a : Int, ts = [.frz o (.lst (ns.map D.int)), I a] ∧ (1 ≤ ns.length) ∧ Post (.ret (I (gi ns (nr ns.length a))) [some (.frz o (.lst (ns.map D.int))), some (I a)])
theorem c_nearest {o : Option V} {ns : List Int} {a : Int} {Post : FO → Prop} (h0 : 1 ≤ ns.length) (hp : Post (.ret (I (gi ns (nr ns.length a))) [some (.frz o (.lst (ns.map D.int))), some (I a)])) : S_nearest [.frz o (.lst (ns.map D.int)), I a] Post := ⟨_, _, _, rfl, h0, hp⟩
local macro_rules | `(tactic| walk_at "call") => `(tactic| (refine ⟨_, by with_unfolding_all rfl, by rfl, of_decide_eq_true (by with_unfolding_all rfl), c_nearest (by walk_at "pre") ?_⟩; refine ⟨_, _, rfl, ?_⟩; try dsimp only [backT, List.set]))
local macro_rules | `(tactic| walk_at "view") => `(tactic| (show WE _ (tCall (spOf _ _ S_nearest) _ _ _) _ _; refine we_view fun _ _ => ?_; walk_at "vw"; refine we_call ?_))
def t_nearest (c : Cn) : TS :=
  (tRet (tOp (rIxA c.K) (tVar 0) (tCB rMax2 (tCons (tC (.int 0)) (tCons (tCB rMin2 (tCons (tVar 1) (tCons (tOp (rI0 fun i j => .int (i - j)) (tCB (rLenA c.K) (tCons (tVar 0) tNil)) (tC (.int 1))) tNil))) tNil)))))
theorem w_nearest {c : Cn} : Wk c 2 0 [0, 1] S_nearest (t_nearest c) := by
  rintro ts Post ⟨o, ns, a, rfl, h0, hp⟩ - A rfl hK
  show WS A _ [some (.frz o (.lst (ns.map D.int))), some (I a)] _ _ _ _
  unfold t_nearest
  walk_at "tl"
  rename_i b h1 h2 h3 r h4 h5 h6
  rw [nr_eq_4 (by omega) h1 h2 h3 h4 h5 h6]
  exact hp
/- Guessed_parted: 0 self 1 row 2 firsts 3 differences 4 sums 5 at 6 second 7 one -/
def S_Guessed_parted : FS := fun ts Post => ∃ o : Option V, ∃ ns : List Int, ∃ t : T, ts = [.frz o (.ins 4 []), t] ∧ (t.data = .lst (ns.map D.int)) ∧ (ns.length ≤ 64) ∧ (2 ≤ ns.length) ∧ Post (.ret (.tup [.lst ((smS_4 ns).map I), .lst ((dfS_4 ns).map I)]) [some (.frz o (.ins 4 [])), some (F (.lst (ns.map D.int)))])
theorem c_Guessed_parted {o : Option V} {ns : List Int} {t : T} {Post : FO → Prop} (h0 : t.data = .lst (ns.map D.int)) (h1 : ns.length ≤ 64) (h2 : 2 ≤ ns.length) (hp : Post (.ret (.tup [.lst ((smS_4 ns).map I), .lst ((dfS_4 ns).map I)]) [some (.frz o (.ins 4 [])), some (F (.lst (ns.map D.int)))])) : S_Guessed_parted [.frz o (.ins 4 []), t] Post := ⟨_, _, _, rfl, h0, h1, h2, hp⟩
local macro_rules | `(tactic| walk_at "call") => `(tactic| (refine ⟨_, by with_unfolding_all rfl, by rfl, of_decide_eq_true (by with_unfolding_all rfl), c_Guessed_parted (by walk_at "pre") (by walk_at "pre") (by walk_at "pre") ?_⟩; refine ⟨_, _, rfl, ?_⟩; try dsimp only [backT, List.set]))
def t_Guessed_parted (c : Cn) : TS :=
  (tSeq (tAsg (tSl3 c.K (tVar 1) tNoPart tNoPart (tPart (tC (.int 2)))) (gName 2))
    (tSeq (tAsg (tLst tNil) (gName 3))
    (tSeq (tFor (iEnum c.K (tCons (tSl3 c.K (tVar 1) (tPart (tC (.int 1))) tNoPart (tPart (tC (.int 2)))) tNil)) (gTup c.K 2 (gCons (gName 5) (gCons (gName 6) gNil))) (tDrop (tBM c.K "list" rAppend (tVar 3) (tCons (tOp (rI0 fun i j => .int (i - j)) (tVar 6) (tOp (rI CDivW fun i j => .int (i / j)) (tOp (rAddA c.K) (tOp (rIxA c.K) (tVar 2) (tVar 5)) (tCall (spOf c 2 S_nearest) [] E0 (tCons (tVar 2) (tCons (tOp (rAddA c.K) (tVar 5) (tC (.int 1))) tNil)))) (tC (.int 2)))) tNil))))
    (tSeq (tAsg (tLst tNil) (gName 4))
    (tSeq (tFor (iEnum c.K (tCons (tVar 2) tNil)) (gTup c.K 2 (gCons (gName 5) (gCons (gName 7) gNil))) (tDrop (tBM c.K "list" rAppend (tVar 4) (tCons (tOp (rAddA c.K) (tVar 7) (tOp (rI CDivW fun i j => .int (i / j)) (tOp (rAddA c.K) (tOp (rAddA c.K) (tCall (spOf c 2 S_nearest) [] E0 (tCons (tVar 3) (tCons (tOp (rI0 fun i j => .int (i - j)) (tVar 5) (tC (.int 1))) tNil))) (tCall (spOf c 2 S_nearest) [] E0 (tCons (tVar 3) (tCons (tVar 5) tNil)))) (tC (.int 2))) (tC (.int 4)))) tNil))))
    (tRet (tTup (tCons (tVar 4) (tCons (tVar 3) tNil)))))))))
theorem w_Guessed_parted {c : Cn} : Wk c 2 6 [0, 1] S_Guessed_parted (t_Guessed_parted c) := by
  rintro ts Post ⟨o, ns, t, rfl, h0, h1, h2, hp⟩ - A rfl hK
  show WS A _ [some (.frz o (.ins 4 [])), some (t), none, none, none, none, none, none] _ _ _ _
  unfold t_Guessed_parted
  refine ws_fix (i := 1) (by with_unfolding_all rfl) ?_
  rw [h0]
  dsimp only [List.set]
  walk_at "tl1"
  walk_at "tl"
  refine ws_fix (i := 2) (by with_unfolding_all rfl) ?_
  simp only [List.set, T.data, datas_I]
  refine ws_for (wi_enumI ?_)
  walk_at "tl"
  refine ⟨_, _, rfl, congrArg D.lst (datas_I _), ?_⟩
  rw [List.length_map, List.length_range]
  refine loop_n (fun e0 i e => ∃ xs : List Int, xs = (List.range i).map (dG_4 ns) ∧ SetsE [5, 6] (e0.set 3 (some (.lst (xs.map I)))) e) ?_ ?_ ?_
  · exact ⟨[], rfl, _, _, rfl⟩
  · rintro i e hi ⟨xs, rfl, x1, x2, rfl⟩
    dsimp only [List.set]
    walk_at "tl"
    refine ⟨_, app_stp ?_, _, _, rfl⟩
    rw [gi_map (by omega), Int.toNat_natCast, gi_map (by omega), List.length_map, List.length_range, gi_map (nr_lt (by omega))]
    rfl
  · rintro e ⟨xs, rfl, x1, x2, rfl⟩
    dsimp only [List.set]
    walk_at "tl"
    refine ws_for (wi_enumI ?_)
    walk_at "tl"
    refine ⟨_, _, rfl, rfl, ?_⟩
    rw [List.length_map, List.length_range]
    refine loop_n (fun e0 i e => ∃ xs : List Int, xs = (List.range i).map (sG_4 ns) ∧ SetsE [5, 7] (e0.set 4 (some (.lst (xs.map I)))) e) ?_ ?_ ?_
    · exact ⟨[], rfl, _, _, rfl⟩
    · rintro i e hi ⟨xs, rfl, x3, x4, rfl⟩
      dsimp only [List.set]
      walk_at "tl"
      refine ⟨_, app_stp ?_, _, _, rfl⟩
      rw [gi_map (by omega)]
      rfl
    · rintro e ⟨xs, rfl, x3, x4, rfl⟩
      dsimp only [List.set]
      walk_at "tl"
      exact hp
theorem smS_len_5 (ns : List Int) : (smS_3 ns).length = (ns.length + 1) / 2 := by
  unfold smS_3 tl1
  rw [List.length_append, List.length_map, List.length_range]
  split
  · simp; omega
  · simp; omega
def lnL_5 (ss : List Int) (k : Nat) : Int := (gi ss (nr ss.length ((k : Int) - 1)) - gi ss (nr ss.length (k + 1)) + 2) / 4
theorem ln_eq_5 {ss : List Int} {k a b : Nat} (h1 : a = nr ss.length ((k : Int) - 1)) (h2 : b = nr ss.length (k + 1)) : (gi ss a - gi ss b + 2) / 4 = lnL_5 ss k := by subst h1 h2; rfl
def dL_5 (ns : List Int) (k : Nat) : Int := gi ns (2 * k) - gi ns (2 * k + 1) - lnL_5 (smS_3 ns) k
def dfS_5 (ns : List Int) : List Int := (List.range (ns.length / 2)).map (dL_5 ns)
theorem dfS_len_5 (ns : List Int) : (dfS_5 ns).length = ns.length / 2 := by unfold dfS_5; rw [List.length_map, List.length_range]
def pl_5 (ss ds : List Int) (k : Nat) : Int := gi ds k + lnL_5 ss k
def pls_5 (ss ds : List Int) : List Int := (List.range ds.length).map (pl_5 ss ds)
theorem pls_len_5 (ss ds : List Int) : (pls_5 ss ds).length = ds.length := by unfold pls_5; rw [List.length_map, List.length_range]
def bkS_5 (ss ds : List Int) : List Int := bkS_3 ss (pls_5 ss ds)
/- slopes: 0 sums 1 many 2 found 3 at 4 ahead 5 behind -/
def S_slopes : FS := fun ts Post => ∃ o : Option V, ∃ ss : List Int, ∃ m : Int, ts = [.frz o (.lst (ss.map D.int)), I m] ∧ (0 ≤ m) ∧ (m ≤ ss.length) ∧ (ss.length ≤ 64) ∧ Post (.ret (.lst (((List.range m.toNat).map (lnL_5 ss)).map I)) [some (.frz o (.lst (ss.map D.int))), some (I m)])
theorem c_slopes {o : Option V} {ss : List Int} {m : Int} {Post : FO → Prop} (h0 : 0 ≤ m) (h1 : m ≤ ss.length) (h2 : ss.length ≤ 64) (hp : Post (.ret (.lst (((List.range m.toNat).map (lnL_5 ss)).map I)) [some (.frz o (.lst (ss.map D.int))), some (I m)])) : S_slopes [.frz o (.lst (ss.map D.int)), I m] Post := ⟨_, _, _, rfl, h0, h1, h2, hp⟩
local macro_rules | `(tactic| walk_at "call") => `(tactic| (refine ⟨_, by with_unfolding_all rfl, by rfl, of_decide_eq_true (by with_unfolding_all rfl), c_slopes (by walk_at "pre") (by walk_at "pre") (by walk_at "pre") ?_⟩; refine ⟨_, _, rfl, ?_⟩; try dsimp only [backT, List.set]))
local macro_rules | `(tactic| walk_at "view") => `(tactic| (show WE _ (tCall (spOf _ _ S_slopes) _ _ _) _ _; refine we_view fun _ _ => ?_; walk_at "vw"; refine we_call ?_))
def t_slopes (c : Cn) : TS :=
  (tSeq (tAsg (tLst tNil) (gName 2))
    (tSeq (tFor (iRng1 (tCons (tVar 1) tNil)) (gName 3) (tSeq (tAsg (tOp (rIxA c.K) (tVar 0) (tVar 3)) (gName 4))
    (tSeq (tIfS (tTest (tOp (rI0 fun i j => .bl (decide (j < i))) (tVar 3) (tC (.int 0)))) (tAsg (tOp (rIxA c.K) (tVar 0) (tOp (rI0 fun i j => .int (i - j)) (tVar 3) (tC (.int 1)))) (gName 4)) tNext)
    (tSeq (tAsg (tOp (rIxA c.K) (tVar 0) (tVar 3)) (gName 5))
    (tSeq (tIfS (tTest (tOp (rI0 fun i j => .bl (decide (i < j))) (tOp (rAddA c.K) (tVar 3) (tC (.int 1))) (tCB (rLenA c.K) (tCons (tVar 0) tNil)))) (tAsg (tOp (rIxA c.K) (tVar 0) (tOp (rAddA c.K) (tVar 3) (tC (.int 1)))) (gName 5)) tNext)
    (tDrop (tBM c.K "list" rAppend (tVar 2) (tCons (tOp (rI CDivW fun i j => .int (i / j)) (tOp (rAddA c.K) (tOp (rI0 fun i j => .int (i - j)) (tVar 4) (tVar 5)) (tC (.int 2))) (tC (.int 4))) tNil))))))))
    (tRet (tVar 2))))
theorem w_slopes {c : Cn} : Wk c 2 4 [0, 1] S_slopes (t_slopes c) := by
  rintro ts Post ⟨o, ss, m, rfl, h0, h1, h2, hp⟩ - A rfl hK
  show WS A _ [some (.frz o (.lst (ss.map D.int))), some (I m), none, none, none, none] _ _ _ _
  unfold t_slopes
  walk_at "tl"
  refine ws_for_rng1 ?_
  walk_at "tl"
  refine ⟨_, _, rfl, by omega, by omega, loop_rng (fun e0 i e => ∃ xs : List Int, xs = (List.range i).map (lnL_5 ss) ∧ SetsE [3, 4, 5] (e0.set 2 (some (.lst (xs.map I)))) e) ⟨[], rfl, _, _, _, rfl⟩ ?_ ?_⟩
  · rintro i e hi ⟨xs, rfl, x1, x2, x3, rfl⟩
    dsimp only [List.set]
    walk_at "tl"
    all_goals exact ⟨_, app_stp (ln_eq_5 (by unfold nr; split <;> (first | omega | (split <;> omega))) (by unfold nr; split <;> (first | omega | (split <;> omega)))), _, _, _, rfl⟩
  · rintro e ⟨xs, rfl, x1, x2, x3, rfl⟩
    dsimp only [List.set]
    walk_at "tl"
    exact hp
/- Leaning_parted: 0 self 1 row 2 sums 3 pairs 4 guesses 5 guess 6 one 7 other -/
def S_Leaning_parted : FS := fun ts Post => ∃ o : Option V, ∃ ns : List Int, ∃ t : T, ts = [.frz o (.ins 5 []), t] ∧ (t.data = .lst (ns.map D.int)) ∧ (ns.length ≤ 64) ∧ (2 ≤ ns.length) ∧ Post (.ret (.tup [.lst ((smS_3 ns).map I), .lst ((dfS_5 ns).map I)]) [some (.frz o (.ins 5 [])), some (F (.lst (ns.map D.int)))])
theorem c_Leaning_parted {o : Option V} {ns : List Int} {t : T} {Post : FO → Prop} (h0 : t.data = .lst (ns.map D.int)) (h1 : ns.length ≤ 64) (h2 : 2 ≤ ns.length) (hp : Post (.ret (.tup [.lst ((smS_3 ns).map I), .lst ((dfS_5 ns).map I)]) [some (.frz o (.ins 5 [])), some (F (.lst (ns.map D.int)))])) : S_Leaning_parted [.frz o (.ins 5 []), t] Post := ⟨_, _, _, rfl, h0, h1, h2, hp⟩
local macro_rules | `(tactic| walk_at "call") => `(tactic| (refine ⟨_, by with_unfolding_all rfl, by rfl, of_decide_eq_true (by with_unfolding_all rfl), c_Leaning_parted (by walk_at "pre") (by walk_at "pre") (by walk_at "pre") ?_⟩; refine ⟨_, _, rfl, ?_⟩; try dsimp only [backT, List.set]))
def t_Leaning_parted (c : Cn) : TS :=
  (tSeq (tAsg (tCall (spOf c 1 S_half_sums) [] E0 (tCons (tVar 1) tNil)) (gName 2))
    (tSeq (tAsg (tCall (spOf c 1 S_pairs_of) [] E0 (tCons (tVar 1) tNil)) (gName 3))
    (tSeq (tAsg (tCall (spOf c 2 S_slopes) [] E0 (tCons (tVar 2) (tCons (tCB (rLenA c.K) (tCons (tVar 3) tNil)) tNil))) (gName 4))
    (tRet (tTup (tCons (tVar 2) (tCons (tLc (iZip c.K (tCons (tVar 3) (tCons (tVar 4) tNil))) (gTup c.K 2 (gCons (gTup c.K 2 (gCons (gName 6) (gCons (gName 7) gNil))) (gCons (gName 5) gNil))) tYes (tOp (rI0 fun i j => .int (i - j)) (tOp (rI0 fun i j => .int (i - j)) (tVar 6) (tVar 7)) (tVar 5)) [5, 6, 7]) tNil)))))))
theorem w_Leaning_parted {c : Cn} : Wk c 2 6 [0, 1] S_Leaning_parted (t_Leaning_parted c) := by
  rintro ts Post ⟨o, ns, t, rfl, h0, h1, h2, hp⟩ - A rfl hK
  show WS A _ [some (.frz o (.ins 5 [])), some (t), none, none, none, none, none, none] _ _ _ _
  unfold t_Leaning_parted
  refine ws_fix (i := 1) (by with_unfolding_all rfl) ?_
  rw [h0]
  have hsl := smS_len_5 ns
  have hpl : (prs ns).length = ns.length / 2 := by unfold prs; rw [List.length_map, List.length_range]
  dsimp only [List.set]
  walk_at "tl"
  refine we_fixS (i := 3) (by with_unfolding_all rfl) ?_
  refine we_fixS (i := 4) (by with_unfolding_all rfl) ?_
  simp only [List.set, T.data, datas_I, prs_data]
  refine we_lc (by rw [hK]; rfl) (wi_zipF ?_)
  walk_at "tl"
  refine ⟨_, _, _, _, _, rfl, rfl, rfl, ?_⟩
  rw [List.length_map, List.length_range, show min (ns.length / 2) ((prs ns).length : Int).toNat = ns.length / 2 by omega]
  refine lc_n (by omega) (fun k => I (dL_5 ns k)) (fun i hi => ?_) ?_
  · dsimp only [wipeE, List.set]
    walk_at "tl"
    refine ⟨?_, rfl⟩
    rw [gi_map (by omega)]
    rfl
  · rw [mapI]
    walk_at "rst"
    walk_at "tl"
    exact hp
def smR : Nat → List Int → List Int
  | 2, ns => smS_2 ns | 3, ns => smS_3 ns | 4, ns => smS_4 ns | _, ns => smS_3 ns
def dfR : Nat → List Int → List Int
  | 2, ns => dfS_2 ns | 3, ns => dfS_3 ns | 4, ns => dfS_4 ns | _, ns => dfS_5 ns
def rulK (w : Str) (k : Nat) : Prop := (w = "sum" ∧ k = 2) ∨ (w = "half" ∧ k = 3) ∨ (w = "guess" ∧ k = 4) ∨ (w = "lean" ∧ k = 5)
/- Sums_halves: 0 self 1 row -/
def S_Sums_halves : FS := fun ts Post => ∃ k : Nat, ∃ o : Option V, ∃ ns : List Int, ∃ t : T, ts = [.frz o (.ins k []), t] ∧ (k = 2 ∨ k = 3 ∨ k = 4 ∨ k = 5) ∧ (t.data = .lst (ns.map D.int)) ∧ (Rw 2 ns) ∧ Post (.ret (.tup [.lst ((smR k ns).map I), .lst ((dfR k ns).map I)]) [some (.frz o (.ins k [])), some (F (.lst (ns.map D.int)))])
theorem c_Sums_halves {k : Nat} {o : Option V} {ns : List Int} {t : T} {Post : FO → Prop} (h0 : k = 2 ∨ k = 3 ∨ k = 4 ∨ k = 5) (h1 : t.data = .lst (ns.map D.int)) (h2 : Rw 2 ns) (hp : Post (.ret (.tup [.lst ((smR k ns).map I), .lst ((dfR k ns).map I)]) [some (.frz o (.ins k [])), some (F (.lst (ns.map D.int)))])) : S_Sums_halves [.frz o (.ins k []), t] Post := ⟨_, _, _, _, rfl, h0, h1, h2, hp⟩
local macro_rules | `(tactic| walk_at "call") => `(tactic| (refine ⟨_, by with_unfolding_all rfl, by rfl, of_decide_eq_true (by with_unfolding_all rfl), c_Sums_halves (by walk_at "pre") (by walk_at "pre") (by walk_at "pre") ?_⟩; refine ⟨_, _, rfl, ?_⟩; try dsimp only [backT, List.set]))
local macro_rules | `(tactic| walk_at "view") => `(tactic| (show WE _ (tMeth _ _ (spOf _ _ S_Sums_halves) _ _ _ _) _ _; refine we_view fun _ _ => ?_; walk_at "vw"; refine we_meth ?_))
def t_Sums_halves (c : Cn) : TS :=
  (tSeq (tIfS (tNot (tB (tCall (spOf c 2 S_is_row) [] E0 (tCons (tVar 1) (tCons (tC (.int 2)) tNil))))) tNever tNext)
    (tRet (tOrE (tMeth (c.cls 2) "parted" (spOf c 2 S_Sums_parted) [] E0 (tVar 0) (tCons (tCB (rListOf c.K) (tCons (tVar 1) tNil)) tNil)) (tOrE (tMeth (c.cls 3) "parted" (spOf c 2 S_Halves_parted) [] E0 (tVar 0) (tCons (tCB (rListOf c.K) (tCons (tVar 1) tNil)) tNil)) (tOrE (tMeth (c.cls 4) "parted" (spOf c 2 S_Guessed_parted) [] E0 (tVar 0) (tCons (tCB (rListOf c.K) (tCons (tVar 1) tNil)) tNil)) (tMeth (c.cls 5) "parted" (spOf c 2 S_Leaning_parted) [] E0 (tVar 0) (tCons (tCB (rListOf c.K) (tCons (tVar 1) tNil)) tNil)))))))
theorem w_Sums_halves {c : Cn} : Wk c 2 0 [0, 1] S_Sums_halves (t_Sums_halves c) := by
  rintro ts Post ⟨k, o, ns, t, rfl, h0, h1, h2, hp⟩ - A rfl hK
  show WS A _ [some (.frz o (.ins k [])), some (t)] _ _ _ _
  unfold t_Sums_halves
  refine ws_fix (i := 1) (by with_unfolding_all rfl) ?_
  rw [h1]
  have hl := h2.2.1
  have hl2 := h2.1
  dsimp only [List.set]
  rcases h0 with rfl | rfl | rfl | rfl
  · walk_at "tl"
    refine we_orL ?_
    walk_at "tl"
    (exact hp)
  · walk_at "tl"
    refine we_orR (we_orL ?_)
    walk_at "tl"
    (exact hp)
  · walk_at "tl"
    refine we_orR (we_orR (we_orL ?_))
    walk_at "tl"
    (exact hp)
  · walk_at "tl"
    refine we_orR (we_orR (we_orR ?_))
    walk_at "tl"
    (exact hp)
/- words:  -/
def S_words : FS := fun ts Post => ts = [] ∧ Post (.ret (.lst [S "sum", S "half", S "guess", S "lean"]) [])
theorem c_words {Post : FO → Prop}  (hp : Post (.ret (.lst [S "sum", S "half", S "guess", S "lean"]) [])) : S_words [] Post := ⟨rfl, hp⟩
local macro_rules | `(tactic| walk_at "call") => `(tactic| (refine ⟨_, by with_unfolding_all rfl, by rfl, of_decide_eq_true (by with_unfolding_all rfl), c_words  ?_⟩; refine ⟨_, _, rfl, ?_⟩; try dsimp only [backT, List.set]))
def t_words (c : Cn) : TS :=
  (tRet (tLst (tCons (tC (.str "sum")) (tCons (tC (.str "half")) (tCons (tC (.str "guess")) (tCons (tC (.str "lean")) tNil))))))
theorem w_words {c : Cn} : Wk c 0 0 [] S_words (t_words c) := by
  rintro ts Post ⟨rfl, hp⟩ - A rfl hK
  show WS A _ [] _ _ _ _
  unfold t_words
  walk_at "tl"
  (exact hp)
/- rule_of: 0 word -/
def S_rule_of : FS := fun ts Post => ∃ o : Option V, ∃ w : Str, ∃ k : Nat, ts = [.frz o (.str w)] ∧ (rulK w k) ∧ Post (.ret (F (.ins k [])) [some (.frz o (.str w))])
theorem c_rule_of {o : Option V} {w : Str} {k : Nat} {Post : FO → Prop} (h0 : rulK w k) (hp : Post (.ret (F (.ins k [])) [some (.frz o (.str w))])) : S_rule_of [.frz o (.str w)] Post := ⟨_, _, _, rfl, h0, hp⟩
local macro_rules | `(tactic| walk_at "call") => `(tactic| (refine ⟨_, by with_unfolding_all rfl, by rfl, of_decide_eq_true (by with_unfolding_all rfl), c_rule_of (by walk_at "pre") ?_⟩; refine ⟨_, _, rfl, ?_⟩; try dsimp only [backT, List.set]))
def t_rule_of (c : Cn) : TS :=
  (tSeq (tIfS (tOr (tNot (tB (tCB (rIsi c.K) (tCons (tVar 0) (tCons (tC (.ty "str")) tNil))))) (tTest (tOp (rNiA c.K) (tVar 0) (tCall (spOf c 0 S_words) [] E0 tNil)))) tNever tNext)
    (tSeq (tIfS (tTest (tOp (rEqA c.K) (tVar 0) (tC (.str "sum")))) (tRet (tMake0 (c.cls 2))) tNext)
    (tSeq (tIfS (tTest (tOp (rEqA c.K) (tVar 0) (tC (.str "half")))) (tRet (tMake0 (c.cls 3))) tNext)
    (tSeq (tIfS (tTest (tOp (rEqA c.K) (tVar 0) (tC (.str "guess")))) (tRet (tMake0 (c.cls 4))) tNext)
    (tRet (tMake0 (c.cls 5)))))))
theorem w_rule_of {c : Cn} : Wk c 1 0 [0] S_rule_of (t_rule_of c) := by
  rintro ts Post ⟨o, w, k, rfl, h0, hp⟩ - A rfl hK
  show WS A _ [some (.frz o (.str w))] _ _ _ _
  unfold t_rule_of
  rcases h0 with ⟨rfl, rfl⟩ | ⟨rfl, rfl⟩ | ⟨rfl, rfl⟩ | ⟨rfl, rfl⟩
  all_goals walk_at "tl"
  all_goals first | (exact hp) | (rename_i h_; exact absurd h_ (by decide))
theorem mul_3 {x n b : Int} (hn : n = 1 ∨ n = -1 ∨ n = 0) (h1 : -b < x) (h2 : x < b) : -b < x * n ∧ x * n < b := by
  rcases hn with rfl | rfl | rfl <;> constructor <;> omega
theorem mul_01 {x n a b : Int} (hn : n = 0 ∨ n = 1) (h1 : a ≤ x ∧ a ≤ 0) (h2 : x ≤ b ∧ 0 ≤ b) : a ≤ x * n ∧ x * n ≤ b := by
  rcases hn with rfl | rfl <;> constructor <;> omega
def rv (c s q : Int) (k : Nat) : Int := c + s * k + q * k * k
def rwR (c s q : Int) (n : Nat) : List Int := (List.range n).map (rv c s q)
theorem rwR_len {c s q : Int} {n : Nat} : (rwR c s q n).length = n := by unfold rwR; rw [List.length_map, List.length_range]
theorem rwR_gi {c s q : Int} {n k : Nat} (h : k < n) : gi (rwR c s q n) k = rv c s q k := gi_map h
theorem pos_b {x b : Int} {k : Nat} (hb : -b ≤ x ∧ x ≤ b) (hk : k ≤ 64) (h0 : 0 ≤ b) : -(64 * b) ≤ x * k ∧ x * k ≤ 64 * b := by
  have hk' : (k : Int) ≤ 64 := by omega
  constructor
  · have h1 := Int.mul_le_mul_of_nonneg_right hb.1 (show (0 : Int) ≤ k by omega)
    have h2 := Int.mul_le_mul_of_nonneg_left hk' h0
    have e : -b * (k : Int) = -(b * k) := Int.neg_mul ..
    omega
  · have h1 := Int.mul_le_mul_of_nonneg_right hb.2 (show (0 : Int) ≤ k by omega)
    have h2 := Int.mul_le_mul_of_nonneg_left hk' h0
    omega
theorem rv_b {c s q : Int} {k : Nat} (hc : -100000000000000 < c ∧ c < 100000000000000) (hs : -1000000 ≤ s ∧ s ≤ 1000000) (hq : -1000 ≤ q ∧ q ≤ 1000) (hk : k ≤ 64) : -200000000000000 < rv c s q k ∧ rv c s q k < 200000000000000 := by
  have h1 := pos_b hs hk (by decide)
  have h2 := pos_b hq hk (by decide)
  have h3 := pos_b (x := q * k) (b := 64000) (by omega) hk (by decide)
  unfold rv
  omega
theorem rwR_rw {c s q : Int} {n : Nat} (hc : -100000000000000 < c ∧ c < 100000000000000) (hs : -1000000 ≤ s ∧ s ≤ 1000000) (hq : -1000 ≤ q ∧ q ≤ 1000) (h2 : 2 ≤ n) (h3 : n ≤ 64) : Rw 2 (rwR c s q n) := ⟨by rw [rwR_len]; exact h2, by rw [rwR_len]; exact h3, fun x hx => by
  obtain ⟨k, hk, rfl⟩ := mem_rg hx
  have := rv_b hc hs hq (k := k) (by omega)
  omega⟩
theorem rv_2 {c s q : Int} (k : Nat) : rv c s q (2 * k) + rv c s q (2 * (k + 1)) = 2 * (rv c s q (2 * k + 1) + q) := by
  unfold rv
  push_cast
  grind
theorem rv_l {c s : Int} (k : Nat) : rv c s 0 k = c + s * k := by unfold rv; simp
theorem dfR_len {k : Nat} {ns : List Int} (hk : k = 2 ∨ k = 3 ∨ k = 4 ∨ k = 5) : (dfR k ns).length = ns.length / 2 := by
  rcases hk with rfl | rfl | rfl | rfl
  all_goals (show (List.map _ (List.range _)).length = _; rw [List.length_map, List.length_range])
theorem sm3_gi {ns : List Int} {k : Nat} (h : k < ns.length / 2) : gi (smS_3 ns) k = (gi ns (2 * k) + gi ns (2 * k + 1)) / 2 := by
  unfold smS_3
  rw [gi_app1 (by rw [List.length_map, List.length_range]; exact h), gi_map h]
theorem sm3_last {ns : List Int} {k : Nat} (h : k = ns.length / 2) (ho : ns.length % 2 = 1) : gi (smS_3 ns) k = gi ns (ns.length - 1) := by
  unfold smS_3
  rw [gi_app2 (by rw [List.length_map, List.length_range]; omega), List.length_map, List.length_range, show k - ns.length / 2 = 0 by omega]
  unfold tl1
  rw [if_pos ho]
  rfl
/-- alike -/
theorem alike0 {c : Int} {n k : Nat} (hk : k = 2 ∨ k = 3 ∨ k = 4 ∨ k = 5) (h2 : 2 ≤ n) : ∀ x, x ∈ dfR k (rwR c 0 0 n) → x = 0 := by
  have hg : ∀ i, i < n → gi (rwR c 0 0 n) i = c := fun i hi => by rw [rwR_gi hi]; unfold rv; simp
  have hl : (rwR c 0 0 n).length = n := rwR_len
  intro x hx
  rcases hk with rfl | rfl | rfl | rfl
  · obtain ⟨j, hj, rfl⟩ := mem_rg hx
    rw [hl] at hj
    rw [hg _ (by omega), hg _ (by omega)]; omega
  · obtain ⟨j, hj, rfl⟩ := mem_rg hx
    rw [hl] at hj
    rw [hg _ (by omega), hg _ (by omega)]; omega
  · obtain ⟨j, hj, rfl⟩ := mem_rg hx
    rw [hl] at hj
    have hn : nr (hf_4 (rwR c 0 0 n)) ((j : Int) + 1) < hf_4 (rwR c 0 0 n) := nr_lt (by show 0 < ((rwR c 0 0 n).length + 1) / 2; omega)
    have hn2 : hf_4 (rwR c 0 0 n) = (n + 1) / 2 := by show ((rwR c 0 0 n).length + 1) / 2 = _; rw [hl]
    rw [hn2] at hn
    unfold dG_4
    rw [hn2, hg _ (by omega), hg _ (by omega), hg _ (by
      by_cases hc : (j : Int) + 1 < ((n + 1) / 2 : Nat)
      · have : nr ((n + 1) / 2) ((j : Int) + 1) = j + 1 := by unfold nr; split <;> (first | omega | (split <;> omega))
        omega
      · have : nr ((n + 1) / 2) ((j : Int) + 1) = (n + 1) / 2 - 1 := by unfold nr; split <;> (first | omega | (split <;> omega))
        omega)]
    omega
  · obtain ⟨j, hj, rfl⟩ := mem_rg hx
    rw [hl] at hj
    have hs : ∀ i, i < (smS_3 (rwR c 0 0 n)).length → gi (smS_3 (rwR c 0 0 n)) i = c := fun i hi => by
      rw [smS_len_5, hl] at hi
      by_cases hc : i < n / 2
      · rw [sm3_gi (by rw [hl]; exact hc), hg _ (by omega), hg _ (by omega)]; omega
      · rw [sm3_last (by rw [hl]; omega) (by rw [hl]; omega), hl, hg _ (by omega)]
    have hsl := smS_len_5 (rwR c 0 0 n)
    rw [hl] at hsl
    unfold dL_5 lnL_5
    rw [hs _ (nr_lt (by omega)), hs _ (nr_lt (by omega)), hg _ (by omega), hg _ (by omega)]
    omega
/-- bent: by guess -/
theorem bent4 {c s q : Int} {n k : Nat} (hk : k < (n - 1) / 2) : gi (dfR 4 (rwR c s q n)) k = -q := by
  have hl : (rwR c s q n).length = n := rwR_len
  have e : gi (dfR 4 (rwR c s q n)) k = dG_4 (rwR c s q n) k := gi_map (by rw [hl]; omega)
  have hn2 : hf_4 (rwR c s q n) = (n + 1) / 2 := by show ((rwR c s q n).length + 1) / 2 = _; rw [hl]
  have h2 := rv_2 (c := c) (s := s) (q := q) k
  rw [e]
  unfold dG_4
  rw [hn2, show nr ((n + 1) / 2) ((k : Int) + 1) = k + 1 by unfold nr; split <;> (first | omega | (split <;> omega)), rwR_gi (by omega), rwR_gi (by omega), rwR_gi (by omega), h2]
  omega
theorem bent4m {c s q x : Int} {n j : Nat} (hj : 2 * j + 2 < n) : gi (dfR 4 ((rwR c s q n).set (2 * j + 1) (rv c s q (2 * j + 1) + x))) j = x - q := by
  have hl : ((rwR c s q n).set (2 * j + 1) (rv c s q (2 * j + 1) + x)).length = n := by rw [List.length_set]; exact rwR_len
  have hl0 : (rwR c s q n).length = n := rwR_len
  have e : gi (dfR 4 ((rwR c s q n).set (2 * j + 1) (rv c s q (2 * j + 1) + x))) j = dG_4 ((rwR c s q n).set (2 * j + 1) (rv c s q (2 * j + 1) + x)) j := gi_map (by rw [hl]; omega)
  have hn2 : hf_4 ((rwR c s q n).set (2 * j + 1) (rv c s q (2 * j + 1) + x)) = (n + 1) / 2 := by show (((rwR c s q n).set (2 * j + 1) (rv c s q (2 * j + 1) + x)).length + 1) / 2 = _; rw [hl]
  have h2 := rv_2 (c := c) (s := s) (q := q) j
  rw [e]
  unfold dG_4
  rw [hn2, show nr ((n + 1) / 2) ((j : Int) + 1) = j + 1 by unfold nr; split <;> (first | omega | (split <;> omega)), gi_set (by omega), gi_setN (by omega), gi_setN (by omega), rwR_gi (by omega), rwR_gi (by omega), h2]
  omega
/-- even: by lean -/
theorem even5 {c s : Int} {n k : Nat} (h1 : 1 ≤ k) (hk : k + 1 < n / 2) : gi (dfR 5 (rwR c s 0 n)) k = 0 := by
  have hl : (rwR c s 0 n).length = n := rwR_len
  have e : gi (dfR 5 (rwR c s 0 n)) k = dL_5 (rwR c s 0 n) k := gi_map (by rw [hl]; omega)
  have hsl := smS_len_5 (rwR c s 0 n)
  rw [hl] at hsl
  rw [e]
  unfold dL_5 lnL_5
  rw [hsl, show nr ((n + 1) / 2) ((k : Int) - 1) = k - 1 by unfold nr; split <;> (first | omega | (split <;> omega)), show nr ((n + 1) / 2) ((k : Int) + 1) = k + 1 by unfold nr; split <;> (first | omega | (split <;> omega)), sm3_gi (by omega), sm3_gi (by omega),
    rwR_gi (by omega), rwR_gi (by omega), rwR_gi (by omega), rwR_gi (by omega), rwR_gi (by omega), rwR_gi (by omega)]
  obtain ⟨j, rfl⟩ : ∃ j, k = j + 1 := ⟨k - 1, by omega⟩
  simp only [rv_l, show 2 * (j + 1 - 1) = 2 * j by omega, show 2 * (j + 1 - 1) + 1 = 2 * j + 1 by omega]
  have e1 : c + s * ((2 * (j + 1 + 1) : Nat) : Int) + (c + s * ((2 * (j + 1 + 1) + 1 : Nat) : Int)) = (c + s * ((2 * j : Nat) : Int) + (c + s * ((2 * j + 1 : Nat) : Int))) + 8 * s := by push_cast; grind
  have e2 : c + s * ((2 * (j + 1) : Nat) : Int) - (c + s * ((2 * (j + 1) + 1 : Nat) : Int)) = -s := by push_cast; grind
  rw [e1, e2]
  omega
theorem rulK2 : rulK "sum" 2 := .inl ⟨rfl, rfl⟩
theorem rulK3 : rulK "half" 3 := .inr (.inl ⟨rfl, rfl⟩)
theorem rulK4 : rulK "guess" 4 := .inr (.inr (.inl ⟨rfl, rfl⟩))
theorem rulK5 : rulK "lean" 5 := .inr (.inr (.inr ⟨rfl, rfl⟩))
local macro_rules | `(tactic| walk_at "ok") => `(tactic| first | assumption | exact rulK2 | exact rulK3 | exact rulK4 | exact rulK5 | exact alike0 (by omega) (by omega))
/- law_bent: 0 _law_box_here 1 _law_way 2 _law_many 3 _law_first 4 _law_step 5 _law_bend -/
def S_law_bent : FS := fun ts Post => ∃ m : Nat, ∃ t : T, ts = [t] ∧ (Box m t) ∧ (m ≤ 500000000) ∧ ∀ (c : Int), ∀ (s : Int), ∀ (q : Int), ∀ (n : Int), ∀ (t1 : T), (Box (m + 10) t1) → (-100000000000000 < c ∧ c < 100000000000000) → (-1000000 ≤ s ∧ s ≤ 1000000) → (-1000 ≤ q ∧ q ≤ 1000) → (2 ≤ n ∧ n ≤ 64) → Post (.ret (F (.tup [.int c, .int s, .int q, .int n])) [some (t1)])
theorem c_law_bent {m : Nat} {t : T} {Post : FO → Prop} (h0 : Box m t) (h1 : m ≤ 500000000) (hp : ∀ (c : Int), ∀ (s : Int), ∀ (q : Int), ∀ (n : Int), ∀ (t1 : T), (Box (m + 10) t1) → (-100000000000000 < c ∧ c < 100000000000000) → (-1000000 ≤ s ∧ s ≤ 1000000) → (-1000 ≤ q ∧ q ≤ 1000) → (2 ≤ n ∧ n ≤ 64) → Post (.ret (F (.tup [.int c, .int s, .int q, .int n])) [some (t1)])) : S_law_bent [t] Post := ⟨_, _, rfl, h0, h1, hp⟩
local macro_rules | `(tactic| walk_at "call") => `(tactic| (refine ⟨_, by with_unfolding_all rfl, by rfl, of_decide_eq_true (by with_unfolding_all rfl), c_law_bent (by walk_at "pre") (by walk_at "pre") ?_⟩; intro c s q n t1 g_0 g_1 g_2 g_3 g_4; refine ⟨_, _, rfl, ?_⟩; try dsimp only [backT, List.set]))
def t_law_bent (c : Cn) : TS :=
  (tSeq (tAsg (tCall (spOf c 2 S_law_take) [] E0 (tCons (tVar 0) (tCons (tC (.int 3)) tNil))) (gName 1))
    (tSeq (tAsg (tOp (rIxA c.K) (tLst (tCons (tOp (rAddA c.K) (tC (.int 2)) (tCall (spOf c 2 S_law_take) [] E0 (tCons (tVar 0) (tCons (tC (.int 8)) tNil)))) (tCons (tOp (rAddA c.K) (tC (.int 2)) (tCall (spOf c 2 S_law_take) [] E0 (tCons (tVar 0) (tCons (tC (.int 63)) tNil)))) (tCons (tC (.int 64)) (tCons (tC (.int 63)) tNil))))) (tCall (spOf c 2 S_law_take) [] E0 (tCons (tVar 0) (tCons (tC (.int 4)) tNil)))) (gName 2))
    (tSeq (tAsg (tOp (rAddA c.K) (tOp rMulA (tCall (spOf c 2 S_law_take) [] E0 (tCons (tVar 0) (tCons (tOp (rI CPow fun i j => .int (i ^ j.toNat)) (tC (.int 10)) (tC (.int 7))) tNil))) (tOp (rI CPow fun i j => .int (i ^ j.toNat)) (tC (.int 10)) (tC (.int 7)))) (tCall (spOf c 2 S_law_take) [] E0 (tCons (tVar 0) (tCons (tOp (rI CPow fun i j => .int (i ^ j.toNat)) (tC (.int 10)) (tC (.int 7))) tNil)))) (gName 3))
    (tSeq (tAsg (tOp rMulA (tVar 3) (tOp (rIxA c.K) (tLst (tCons (tC (.int 1)) (tCons (tUn (rU fun i => .int (-i)) (tC (.int 1))) (tCons (tC (.int 0)) tNil)))) (tCall (spOf c 2 S_law_take) [] E0 (tCons (tVar 0) (tCons (tC (.int 3)) tNil))))) (gName 3))
    (tSeq (tAsg (tOp rMulA (tOp (rI0 fun i j => .int (i - j)) (tCall (spOf c 2 S_law_take) [] E0 (tCons (tVar 0) (tCons (tOp (rAddA c.K) (tOp rMulA (tC (.int 2)) (tOp (rI CPow fun i j => .int (i ^ j.toNat)) (tC (.int 10)) (tC (.int 6)))) (tC (.int 1))) tNil))) (tOp (rI CPow fun i j => .int (i ^ j.toNat)) (tC (.int 10)) (tC (.int 6)))) (tCB rIntA (tCons (tOp (rI0 fun i j => .bl (decide (i < j))) (tVar 1) (tC (.int 2))) tNil))) (gName 4))
    (tSeq (tAsg (tOp rMulA (tOp (rI0 fun i j => .int (i - j)) (tCall (spOf c 2 S_law_take) [] E0 (tCons (tVar 0) (tCons (tC (.int 2001)) tNil))) (tC (.int 1000))) (tCB rIntA (tCons (tOp (rI0 fun i j => .bl (decide (i < j))) (tVar 1) (tC (.int 1))) tNil))) (gName 5))
    (tRet (tTup (tCons (tVar 3) (tCons (tVar 4) (tCons (tVar 5) (tCons (tVar 2) tNil))))))))))))
theorem w_law_bent {c : Cn} : Wk c 1 5 [0] S_law_bent (t_law_bent c) := by
  rintro ts Post ⟨m, t, rfl, h0, h1, hp⟩ - A rfl hK
  show WS A _ [some (t), none, none, none, none, none] _ _ _ _
  unfold t_law_bent
  walk_at "tl"
  exact hp _ _ _ _ _ (by walk_at "pre") (mul_3 (by assumption) (by omega) (by omega)) (mul_01 (by assumption) (by omega) (by omega)) (mul_01 (by assumption) (by omega) (by omega)) (by omega)
/- law_noughts: 0 _law_numbers 1 _law_number -/
def S_law_noughts : FS := fun ts Post => ∃ t : T, ∃ ns : List Int, ts = [t] ∧ (t.data = .lst (ns.map D.int)) ∧ (∀ x, x ∈ ns → x = 0) ∧ (ns.length ≤ 1000) ∧ Post (.ret (B true) [some (F (.lst (ns.map D.int)))])
theorem c_law_noughts {t : T} {ns : List Int} {Post : FO → Prop} (h0 : t.data = .lst (ns.map D.int)) (h1 : ∀ x, x ∈ ns → x = 0) (h2 : ns.length ≤ 1000) (hp : Post (.ret (B true) [some (F (.lst (ns.map D.int)))])) : S_law_noughts [t] Post := ⟨_, _, rfl, h0, h1, h2, hp⟩
local macro_rules | `(tactic| walk_at "call") => `(tactic| (refine ⟨_, by with_unfolding_all rfl, by rfl, of_decide_eq_true (by with_unfolding_all rfl), c_law_noughts (by walk_at "pre") (by walk_at "pre") (by walk_at "pre") ?_⟩; refine ⟨_, _, rfl, ?_⟩; try dsimp only [backT, List.set]))
local macro_rules | `(tactic| walk_at "view") => `(tactic| (show WE _ (tCall (spOf _ _ S_law_noughts) _ _ _) _ _; refine we_view fun _ _ => ?_; walk_at "vw"; refine we_call ?_))
def t_law_noughts (c : Cn) : TS :=
  (tSeq (tFor (iList c.K (tVar 0)) (gName 1) (tIfS (tOr (tNot (tB (tCB (rIsi c.K) (tCons (tVar 1) (tCons (tC (.ty "int")) tNil))))) (tOr (tB (tCB (rIsi c.K) (tCons (tVar 1) (tCons (tC (.ty "bool")) tNil)))) (tTest (tOp (rNeA c.K) (tVar 1) (tC (.int 0)))))) (tRet (tC (.bl false))) tNext))
    (tRet (tC (.bl true))))
theorem w_law_noughts {c : Cn} : Wk c 1 1 [0] S_law_noughts (t_law_noughts c) := by
  rintro ts Post ⟨t, ns, rfl, h0, h1, h2, hp⟩ - A rfl hK
  show WS A _ [some (t), none] _ _ _ _
  unfold t_law_noughts
  refine ws_fix (i := 0) (by with_unfolding_all rfl) ?_
  rw [h0]
  dsimp only [List.set]
  walk_at "tl"
  refine ws_for (wi_listI ?_)
  walk_at "tl"
  refine ⟨_, rfl, loop_n (fun e0 i e => SetsE [1] e0 e) ⟨_, rfl⟩ ?_ ?_⟩
  · rintro i e hi ⟨x1, rfl⟩
    have hz := h1 _ (gi_mem hi)
    dsimp only [List.set]
    walk_at "tl"
    all_goals first | exact ⟨_, rfl⟩ | (exact absurd hz (by assumption))
  · rintro e ⟨x1, rfl⟩
    walk_at "tl"
    (exact hp)
/- law_all_right: 0 _law_first 1 _law_step 2 _law_bend 3 _law_many 4 _law_row 5 _law_found 6 _law_word 7 _law_k 8 _law_number -/
def S_law_all_right : FS := fun ts Post => ∃ c : Int, ∃ s : Int, ∃ q : Int, ∃ n : Int, ts = [I c, I s, I q, I n] ∧ (-100000000000000 < c ∧ c < 100000000000000) ∧ (-1000000 ≤ s ∧ s ≤ 1000000) ∧ (-1000 ≤ q ∧ q ≤ 1000) ∧ (2 ≤ n ∧ n ≤ 64) ∧ Post (.ret (B true) [some (I c), some (I s), some (I q), some (I n)])
theorem c_law_all_right {c : Int} {s : Int} {q : Int} {n : Int} {Post : FO → Prop} (h0 : -100000000000000 < c ∧ c < 100000000000000) (h1 : -1000000 ≤ s ∧ s ≤ 1000000) (h2 : -1000 ≤ q ∧ q ≤ 1000) (h3 : 2 ≤ n ∧ n ≤ 64) (hp : Post (.ret (B true) [some (I c), some (I s), some (I q), some (I n)])) : S_law_all_right [I c, I s, I q, I n] Post := ⟨_, _, _, _, rfl, h0, h1, h2, h3, hp⟩
local macro_rules | `(tactic| walk_at "call") => `(tactic| (refine ⟨_, by with_unfolding_all rfl, by rfl, of_decide_eq_true (by with_unfolding_all rfl), c_law_all_right (by walk_at "pre") (by walk_at "pre") (by walk_at "pre") (by walk_at "pre") ?_⟩; refine ⟨_, _, rfl, ?_⟩; try dsimp only [backT, List.set]))
local macro_rules | `(tactic| walk_at "view") => `(tactic| (show WE _ (tCall (spOf _ _ S_law_all_right) _ _ _) _ _; refine we_view fun _ _ => ?_; walk_at "vw"; refine we_call ?_))
def t_law_all_right (c : Cn) : TS :=
  (tSeq (tAsg (tLc (iRng1 (tCons (tVar 3) tNil)) (gName 7) tYes (tOp (rAddA c.K) (tOp (rAddA c.K) (tVar 0) (tOp rMulA (tVar 1) (tVar 7))) (tOp rMulA (tOp rMulA (tVar 2) (tVar 7)) (tVar 7))) [7]) (gName 4))
    (tSeq (tIfS (tAnd (tTest (tOp (rEqA c.K) (tVar 1) (tC (.int 0)))) (tTest (tOp (rEqA c.K) (tVar 2) (tC (.int 0))))) (tFor (iList c.K (tLst (tCons (tC (.str "sum")) (tCons (tC (.str "half")) (tCons (tC (.str "guess")) (tCons (tC (.str "lean")) tNil)))))) (gName 6) (tIfS (tNot (tB (tCall (spOf c 1 S_law_noughts) [] E0 (tCons (tOp (rIxA c.K) (tOrE (tMeth (c.cls 2) "halves" (spOf c 2 S_Sums_halves) [] E0 (tCall (spOf c 1 S_rule_of) [] E0 (tCons (tVar 6) tNil)) (tCons (tCB (rListOf c.K) (tCons (tVar 4) tNil)) tNil)) (tOrE (tMeth (c.cls 3) "halves" (spOf c 2 S_Sums_halves) [] E0 (tCall (spOf c 1 S_rule_of) [] E0 (tCons (tVar 6) tNil)) (tCons (tCB (rListOf c.K) (tCons (tVar 4) tNil)) tNil)) (tOrE (tMeth (c.cls 4) "halves" (spOf c 2 S_Sums_halves) [] E0 (tCall (spOf c 1 S_rule_of) [] E0 (tCons (tVar 6) tNil)) (tCons (tCB (rListOf c.K) (tCons (tVar 4) tNil)) tNil)) (tMeth (c.cls 5) "halves" (spOf c 2 S_Sums_halves) [] E0 (tCall (spOf c 1 S_rule_of) [] E0 (tCons (tVar 6) tNil)) (tCons (tCB (rListOf c.K) (tCons (tVar 4) tNil)) tNil))))) (tC (.int 1))) tNil)))) (tRet (tC (.bl false))) tNext)) tNext)
    (tSeq (tAsg (tOp (rIxA c.K) (tMeth (c.cls 4) "halves" (spOf c 2 S_Sums_halves) [] E0 (tCall (spOf c 1 S_rule_of) [] E0 (tCons (tC (.str "guess")) tNil)) (tCons (tCB (rListOf c.K) (tCons (tVar 4) tNil)) tNil)) (tC (.int 1))) (gName 5))
    (tSeq (tIfS (tOr (tTest (tOp (rNeA c.K) (tCB (rLenA c.K) (tCons (tVar 5) tNil)) (tOp (rI CDivW fun i j => .int (i / j)) (tVar 3) (tC (.int 2))))) (tTest (tOp (rNeA c.K) (tLc (iList c.K (tSl (rSlA c.K) (tVar 5) tNoPart (tPart (tOp (rI CDivW fun i j => .int (i / j)) (tOp (rI0 fun i j => .int (i - j)) (tVar 3) (tC (.int 1))) (tC (.int 2)))))) (gName 8) (tTest (tOp (rNeA c.K) (tVar 8) (tUn (rU fun i => .int (-i)) (tVar 2)))) (tVar 8) [8]) (tLst tNil)))) (tRet (tC (.bl false))) tNext)
    (tSeq (tIfS (tTest (tOp (rNeA c.K) (tVar 2) (tC (.int 0)))) (tRet (tC (.bl true))) tNext)
    (tSeq (tAsg (tOp (rIxA c.K) (tMeth (c.cls 5) "halves" (spOf c 2 S_Sums_halves) [] E0 (tCall (spOf c 1 S_rule_of) [] E0 (tCons (tC (.str "lean")) tNil)) (tCons (tCB (rListOf c.K) (tCons (tVar 4) tNil)) tNil)) (tC (.int 1))) (gName 5))
    (tRet (tAndV (tOp (rEqA c.K) (tCB (rLenA c.K) (tCons (tVar 5) tNil)) (tOp (rI CDivW fun i j => .int (i / j)) (tVar 3) (tC (.int 2)))) (tCall (spOf c 1 S_law_noughts) [] E0 (tCons (tSl (rSlA c.K) (tVar 5) (tPart (tC (.int 1))) (tPart (tOp (rI0 fun i j => .int (i - j)) (tOp (rI CDivW fun i j => .int (i / j)) (tVar 3) (tC (.int 2))) (tC (.int 1))))) tNil))))))))))
theorem w_law_all_right {c : Cn} : Wk c 4 5 [0, 1, 2, 3] S_law_all_right (t_law_all_right c) := by
  rintro ts Post ⟨c, s, q, n, rfl, h0, h1, h2, h3, hp⟩ - A rfl hK
  show WS A _ [some (I c), some (I s), some (I q), some (I n), none, none, none, none, none] _ _ _ _
  unfold t_law_all_right
  walk_at "tl"
  refine we_lc_rng1 (by rw [hK]; rfl) ?_
  walk_at "tl"
  refine ⟨_, _, rfl, by omega, by omega, lc_rng (fun k => I (rv c s q k)) (fun i hi => ?_) ?_⟩
  · have h1' := pos_b h1 (k := i) (by omega) (by decide)
    have h2' := pos_b h2 (k := i) (by omega) (by decide)
    dsimp only [wipeE, List.set]
    walk_at "tl"
    exact ⟨rfl, rfl⟩
  rw [mapI]
  have hF : (List.range n.toNat).map (rv c s q) = rwR c s q n.toNat := rfl
  rw [hF]
  have hrw := rwR_rw (n := n.toNat) h0 h1 h2 (by omega) (by omega)
  have hlen : (rwR c s q n.toNat).length = n.toNat := rwR_len
  have hd4 : (dfR 4 (rwR c s q n.toNat)).length = n.toNat / 2 := by rw [dfR_len (by omega), hlen]
  have hd5 : (dfR 5 (rwR c s q n.toNat)).length = n.toNat / 2 := by rw [dfR_len (by omega), hlen]
  have hcut : cutL (dfR 4 (rwR c s q n.toNat)) none (some ((n - 1) / 2)) = (dfR 4 (rwR c s q n.toNat)).take ((n - 1) / 2).toNat := cut_to (by omega) (by omega)
  have hz5 : q = 0 → ∀ x, x ∈ cutL (dfR 5 (rwR c s q n.toNat)) (some 1) (some (n / 2 - 1)) → x = 0 := fun hq x hx => by
    subst hq
    obtain ⟨k, k1, k2, k3, k4, e⟩ := cut_mem (by decide) hx
    rw [e]
    by_cases hn : 0 ≤ n / 2 - 1
    · have := k3 hn
      exact even5 (by omega) (by omega)
    · have := k4 (by omega)
      exact even5 (by omega) (by omega)
  have hl5 : (cutL (dfR 5 (rwR c s q n.toNat)) (some 1) (some (n / 2 - 1))).length ≤ 1000 := by
    unfold cutL
    rw [List.length_take, List.length_drop]
    omega
  walk_at "rst"
  walk_at "tl"
  · rename_i hs0 hq0
    subst hs0 hq0
    have hnl : ∀ k, (k = 2 ∨ k = 3 ∨ k = 4 ∨ k = 5) → (dfR k (rwR c 0 0 n.toNat)).length ≤ 1000 := fun k hk => by rw [dfR_len hk, hlen]; omega
    have hn2 := hnl 2 (by omega)
    have hn3 := hnl 3 (by omega)
    have hz : ∀ k, (k = 2 ∨ k = 3 ∨ k = 4 ∨ k = 5) → ∀ x, x ∈ dfR k (rwR c 0 0 n.toNat) → x = 0 := fun k hk => alike0 hk (by omega)
    refine ws_for_list ?_
    walk_at "tl"
    refine ⟨_, rfl, loop_list (fun e0 i e => SetsE [6] e0 e) ⟨_, rfl⟩ ?_ ?_⟩
    · rintro i d e hx ⟨x1, rfl⟩
      have hm := List.mem_of_getElem? hx
      simp only [List.mem_cons, List.mem_nil_iff, or_false] at hm
      dsimp only [List.set]
      rcases hm with rfl | rfl | rfl | rfl
      · walk_at "tl"
        refine we_orL ?_
        walk_at "tl"
        exact ⟨_, rfl⟩
      · walk_at "tl"
        refine we_orR (we_orL ?_)
        walk_at "tl"
        exact ⟨_, rfl⟩
      · walk_at "tl"
        refine we_orR (we_orR (we_orL ?_))
        walk_at "tl"
        exact ⟨_, rfl⟩
      · walk_at "tl"
        refine we_orR (we_orR (we_orR ?_))
        walk_at "tl"
        exact ⟨_, rfl⟩
    · rintro e ⟨x1, rfl⟩
      dsimp only [List.set]
      walk_at "tl"
      all_goals first | (exfalso; omega) | skip
      refine we_lc (by rw [hK]; rfl) (wi_listI ?_)
      walk_at "tl"
      refine ⟨_, congrArg D.lst (cutL_map _ _ _ _), lc_none (by rw [hcut, List.length_take]; omega) (fun i hi => ?_) ?_⟩
      · have hx : gi (cutL (dfR 4 (rwR c 0 0 n.toNat)) none (some ((n - 1) / 2))) i = -0 := by
          rw [hcut] at hi ⊢
          obtain ⟨k, hk1, hk2, e⟩ := take_mem (gi_mem hi)
          rw [e]
          exact bent4 (by omega)
        walk_at "rst"
        walk_at "tl"
        exact ⟨by rw [hx]; simp, rfl⟩
      · walk_at "rst"
        walk_at "tl"
        all_goals first | (exact hp) | skip
        have hz5' := hz5 (by omega)
        walk_at "tl"
        all_goals first | (exact hp) | (exfalso; omega)
  · refine we_lc (by rw [hK]; rfl) (wi_listI ?_)
    walk_at "tl"
    refine ⟨_, congrArg D.lst (cutL_map _ _ _ _), lc_none (by rw [hcut, List.length_take]; omega) (fun i hi => ?_) ?_⟩
    · have hx : gi (cutL (dfR 4 (rwR c s q n.toNat)) none (some ((n - 1) / 2))) i = -q := by
        rw [hcut] at hi ⊢
        obtain ⟨k, hk1, hk2, e⟩ := take_mem (gi_mem hi)
        rw [e]
        exact bent4 (by omega)
      walk_at "rst"
      walk_at "tl"
      exact ⟨by rw [hx]; simp, rfl⟩
    · walk_at "rst"
      walk_at "tl"
      all_goals first | (exact hp) | skip
      have hz5' := hz5 (by omega)
      walk_at "tl"
      all_goals first | (exact hp) | (exfalso; omega)
  · exfalso; omega
  · refine we_lc (by rw [hK]; rfl) (wi_listI ?_)
    walk_at "tl"
    refine ⟨_, congrArg D.lst (cutL_map _ _ _ _), lc_none (by rw [hcut, List.length_take]; omega) (fun i hi => ?_) ?_⟩
    · have hx : gi (cutL (dfR 4 (rwR c s q n.toNat)) none (some ((n - 1) / 2))) i = -q := by
        rw [hcut] at hi ⊢
        obtain ⟨k, hk1, hk2, e⟩ := take_mem (gi_mem hi)
        rw [e]
        exact bent4 (by omega)
      walk_at "rst"
      walk_at "tl"
      exact ⟨by rw [hx]; simp, rfl⟩
    · walk_at "rst"
      walk_at "tl"
      all_goals first | (exact hp) | skip
      have hz5' := hz5 (by omega)
      walk_at "tl"
      all_goals first | (exact hp) | (exfalso; omega)
  · exfalso; omega
/- law: 0 _law_script 1 _law_k 2 _law_box_here 3 _law_at 4 _law_more 5 _law_turn 6 _law_first 7 _law_step 8 _law_bend 9 _law_many 10 _law_other 11 _law_found 12 _law_j -/
def S_law : FS := fun ts Post => ∃ ns : List Int, ts = [F (.scr ns)] ∧ Post (.ret (B true) [some (F (.scr ns))])
theorem c_law {ns : List Int} {Post : FO → Prop}  (hp : Post (.ret (B true) [some (F (.scr ns))])) : S_law [F (.scr ns)] Post := ⟨_, rfl, hp⟩
local macro_rules | `(tactic| walk_at "call") => `(tactic| (refine ⟨_, by with_unfolding_all rfl, by rfl, of_decide_eq_true (by with_unfolding_all rfl), c_law  ?_⟩; refine ⟨_, _, rfl, ?_⟩; try dsimp only [backT, List.set]))
def t_law (c : Cn) : TS :=
  (tSeq (tFor (iRng1 (tCons (tCB rMax2 (tCons (tC (.int 2)) (tCons (tCB rMin2 (tCons (tCB (rLenA c.K) (tCons (tVar 0) tNil)) (tCons (tC (.int 12)) tNil))) tNil))) tNil)) (gName 1) (tSeq (tAsg (tCall (spOf c 1 S_law_box) [] E0 (tCons (tCall (spOf c 2 S_law_cell) [] E0 (tCons (tVar 0) (tCons (tVar 1) tNil))) tNil)) (gName 2))
    (tSeq (tAsg (tCall (spOf c 1 S_law_bent) [] E0 (tCons (tVar 2) tNil)) (gTup c.K 4 (gCons (gName 6) (gCons (gName 7) (gCons (gName 8) (gCons (gName 9) gNil))))))
    (tSeq (tAsg (tOp (rAddA c.K) (tOp rMulA (tC (.int 2)) (tCall (spOf c 2 S_law_take) [] E0 (tCons (tVar 2) (tCons (tOp (rI CDivW fun i j => .int (i / j)) (tVar 9) (tC (.int 2))) tNil)))) (tC (.int 1))) (gName 3))
    (tSeq (tAsg (tOp (rAddA c.K) (tC (.int 1)) (tCall (spOf c 2 S_law_take) [] E0 (tCons (tVar 2) (tCons (tC (.int 100)) tNil)))) (gName 4))
    (tSeq (tFor (iRng1 (tCons (tC (.int 2)) tNil)) (gName 5) (tSeq (tIfS (tNot (tB (tCall (spOf c 4 S_law_all_right) [] E0 (tCons (tVar 6) (tCons (tVar 7) (tCons (tVar 8) (tCons (tVar 9) tNil))))))) (tRet (tC (.bl false))) tNext)
    (tSeq (tAsg (tLc (iRng1 (tCons (tVar 9) tNil)) (gName 12) tYes (tOp (rAddA c.K) (tOp (rAddA c.K) (tVar 6) (tOp rMulA (tVar 7) (tVar 12))) (tOp rMulA (tOp rMulA (tVar 8) (tVar 12)) (tVar 12))) [12]) (gName 10))
    (tSeq (tAsg (tOp (rAddA c.K) (tOp (rIxA c.K) (tVar 10) (tVar 3)) (tVar 4)) (gSub (tVar 10) (tVar 3) rSetL))
    (tSeq (tAsg (tOp (rIxA c.K) (tMeth (c.cls 4) "halves" (spOf c 2 S_Sums_halves) [] E0 (tCall (spOf c 1 S_rule_of) [] E0 (tCons (tC (.str "guess")) tNil)) (tCons (tVar 10) tNil)) (tC (.int 1))) (gName 11))
    (tIfS (tAnd (tTest (tOp (rI0 fun i j => .bl (decide (i < j))) (tVar 3) (tOp (rI0 fun i j => .int (i - j)) (tVar 9) (tC (.int 1))))) (tTest (tOp (rNeA c.K) (tOp (rIxA c.K) (tVar 11) (tOp (rI CDivW fun i j => .int (i / j)) (tVar 3) (tC (.int 2)))) (tOp (rI0 fun i j => .int (i - j)) (tVar 4) (tVar 8))))) (tRet (tC (.bl false))) tNext))))))
    (tIfS (tNot (tB (tCall (spOf c 4 S_law_all_right) [] E0 (tCons (tVar 6) (tCons (tC (.int 0)) (tCons (tC (.int 0)) (tCons (tVar 9) tNil))))))) (tRet (tC (.bl false))) tNext)))))))
    (tRet (tC (.bl true))))
theorem w_law {c : Cn} : Wk c 1 12 [0] S_law (t_law c) := by
  rintro ts Post ⟨ns, rfl, hp⟩ - A rfl hK
  show WS A _ [some (F (.scr ns)), none, none, none, none, none, none, none, none, none, none, none, none] _ _ _ _
  unfold t_law
  walk_at "tl"
  refine ws_for_rng1 ?_
  walk_at "tl"
  refine ⟨_, _, rfl, by omega, by omega, loop_rng (fun e0 i e => SetsE [1, 2, 3, 4, 5, 6, 7, 8, 9, 10, 11, 12] e0 e) ⟨_, _, _, _, _, _, _, _, _, _, _, _, rfl⟩ ?_ ?_⟩
  · rintro i e hi ⟨x1, x2, x3, x4, x5, x6, x7, x8, x9, x10, x11, x12, rfl⟩
    dsimp only [List.set]
    walk_at "tl"
    rename_i c s q n tb hb0 hc hs hq hn j tb1 hj0 hj1 hb1 mo tb2 hm0 hm1 hb2
    have hrw := rwR_rw (n := n.toNat) hc hs hq (by omega) (by omega)
    have hlen : (rwR c s q n.toNat).length = n.toNat := rwR_len
    have hjn : (2 * j + 1).toNat = 2 * j.toNat + 1 := by omega
    have hg : gi (rwR c s q n.toNat) (2 * j + 1).toNat = rv c s q (2 * j.toNat + 1) := by rw [hjn]; exact rwR_gi (by omega)
    have hrb := rv_b hc hs hq (k := 2 * j.toNat + 1) (by omega)
    have hset : Rw 2 ((rwR c s q n.toNat).set (2 * j + 1).toNat (gi (rwR c s q n.toNat) (2 * j + 1).toNat + (1 + mo))) := hrw.set (by rw [hg]; omega)
    have hd4 : (dfR 4 ((rwR c s q n.toNat).set (2 * j + 1).toNat (gi (rwR c s q n.toNat) (2 * j + 1).toNat + (1 + mo)))).length = n.toNat / 2 := by rw [dfR_len (by omega), List.length_set, hlen]
    have heq : 2 * j + 1 < n - 1 → gi (dfR 4 ((rwR c s q n.toNat).set (2 * j + 1).toNat (gi (rwR c s q n.toNat) (2 * j + 1).toNat + (1 + mo)))) ((2 * j + 1) / 2).toNat = 1 + mo - q := fun h => by
      rw [hg, hjn, show ((2 * j + 1) / 2).toNat = j.toNat by omega]
      exact bent4m (by omega)
    refine ws_for_rng1 ?_
    walk_at "tl"
    refine ⟨_, _, rfl, by omega, by omega, loop_rng (fun e0 i e => SetsE [5, 10, 11, 12] e0 e) ⟨_, _, _, _, rfl⟩ ?_ ?_⟩
    · rintro i2 e hi2 ⟨y1, y2, y3, y4, rfl⟩
      dsimp only [List.set]
      walk_at "tl"
      refine we_lc_rng1 (by rw [hK]; rfl) ?_
      walk_at "tl"
      refine ⟨_, _, rfl, by omega, by omega, lc_rng (fun k => I (rv c s q k)) (fun i hi => ?_) ?_⟩
      · have h1' := pos_b hs (k := i) (by omega) (by decide)
        have h2' := pos_b hq (k := i) (by omega) (by decide)
        dsimp only [wipeE, List.set]
        walk_at "tl"
        exact ⟨rfl, rfl⟩
      rw [mapI]
      have hF : (List.range n.toNat).map (rv c s q) = rwR c s q n.toNat := rfl
      rw [hF]
      walk_at "rst"
      walk_at "tl"
      all_goals first | exact ⟨_, _, _, _, rfl⟩ | (rename_i ha hb; exact absurd (heq ha) hb)
    · rintro e ⟨y1, y2, y3, y4, rfl⟩
      dsimp only [List.set]
      walk_at "tl"
      all_goals exact ⟨_, _, _, _, _, _, _, _, _, _, _, _, rfl⟩
  · rintro e ⟨x1, x2, x3, x4, x5, x6, x7, x8, x9, x10, x11, x12, rfl⟩
    walk_at "tl"
    (exact hp)
/-! ### the text's defs -/
def top (i : Nat) : Stmt := PySem.Challenge.pw_halvedpictures_k17_flat_and_bent_rows.main.body.getD i (.Pass ⟨0, 0, 0, 0⟩)
def inCls (j : Nat) : Stmt → Stmt
  | .ClassDef _ _ _ body .. => body.getD j (.Pass ⟨0, 0, 0, 0⟩)
  | s => s
abbrev s_is_whole : Stmt := top 7
abbrev s_is_row : Stmt := top 8
abbrev s_pairs_of : Stmt := top 10
abbrev s_Sums_halves : Stmt := inCls 1 (top 11)
abbrev s_Sums_parted : Stmt := inCls 3 (top 11)
abbrev s_Halves_parted : Stmt := inCls 1 (top 12)
abbrev s_half_sums : Stmt := top 13
abbrev s_nearest : Stmt := top 15
abbrev s_Guessed_parted : Stmt := inCls 1 (top 16)
abbrev s_slopes : Stmt := top 17
abbrev s_Leaning_parted : Stmt := inCls 1 (top 18)
abbrev s_words : Stmt := top 19
abbrev s_rule_of : Stmt := top 20
abbrev s_law_cell : Stmt := top 22
abbrev s_law_box : Stmt := top 23
abbrev s_law_take : Stmt := top 24
abbrev s_law_bent : Stmt := top 25
abbrev s_law_noughts : Stmt := top 26
abbrev s_law_all_right : Stmt := top 27
abbrev s_law : Stmt := top 28
def d_is_whole : He.DefD := ⟨("is_whole", none), "is_whole", "is_whole", defArgs s_is_whole, defBody s_is_whole, defScope s_is_whole, [], []⟩
def d_is_row : He.DefD := ⟨("is_row", none), "is_row", "is_row", defArgs s_is_row, defBody s_is_row, defScope s_is_row, [], []⟩
def d_pairs_of : He.DefD := ⟨("pairs_of", none), "pairs_of", "pairs_of", defArgs s_pairs_of, defBody s_pairs_of, defScope s_pairs_of, [], []⟩
def d_half_sums : He.DefD := ⟨("half_sums", none), "half_sums", "half_sums", defArgs s_half_sums, defBody s_half_sums, defScope s_half_sums, [], []⟩
def d_nearest : He.DefD := ⟨("nearest", none), "nearest", "nearest", defArgs s_nearest, defBody s_nearest, defScope s_nearest, [], []⟩
def d_slopes : He.DefD := ⟨("slopes", none), "slopes", "slopes", defArgs s_slopes, defBody s_slopes, defScope s_slopes, [], []⟩
def d_words : He.DefD := ⟨("words", none), "words", "words", defArgs s_words, defBody s_words, defScope s_words, [], []⟩
def d_rule_of : He.DefD := ⟨("rule_of", none), "rule_of", "rule_of", defArgs s_rule_of, defBody s_rule_of, defScope s_rule_of, [], []⟩
def d_law_cell : He.DefD := ⟨("_law_cell", none), "_law_cell", "_law_cell", defArgs s_law_cell, defBody s_law_cell, defScope s_law_cell, [], []⟩
def d_law_box : He.DefD := ⟨("_law_box", none), "_law_box", "_law_box", defArgs s_law_box, defBody s_law_box, defScope s_law_box, [], []⟩
def d_law_take : He.DefD := ⟨("_law_take", none), "_law_take", "_law_take", defArgs s_law_take, defBody s_law_take, defScope s_law_take, [], []⟩
def d_law_bent : He.DefD := ⟨("_law_bent", none), "_law_bent", "_law_bent", defArgs s_law_bent, defBody s_law_bent, defScope s_law_bent, [], []⟩
def d_law_noughts : He.DefD := ⟨("_law_noughts", none), "_law_noughts", "_law_noughts", defArgs s_law_noughts, defBody s_law_noughts, defScope s_law_noughts, [], []⟩
def d_law_all_right : He.DefD := ⟨("_law_all_right", none), "_law_all_right", "_law_all_right", defArgs s_law_all_right, defBody s_law_all_right, defScope s_law_all_right, [], []⟩
def d_law : He.DefD := ⟨("law", none), "law", "law", defArgs s_law, defBody s_law, defScope s_law, [], []⟩
def d_Sums__parted : He.DefD := ⟨("Sums", some "parted"), "parted", "Sums.parted", defArgs s_Sums_parted, defBody s_Sums_parted, defScope s_Sums_parted, [], []⟩
def d_Halves__parted : He.DefD := ⟨("Halves", some "parted"), "parted", "Halves.parted", defArgs s_Halves_parted, defBody s_Halves_parted, defScope s_Halves_parted, [], []⟩
def d_Guessed__parted : He.DefD := ⟨("Guessed", some "parted"), "parted", "Guessed.parted", defArgs s_Guessed_parted, defBody s_Guessed_parted, defScope s_Guessed_parted, [], []⟩
def d_Leaning__parted : He.DefD := ⟨("Leaning", some "parted"), "parted", "Leaning.parted", defArgs s_Leaning_parted, defBody s_Leaning_parted, defScope s_Leaning_parted, [], []⟩
def d_Sums__halves : He.DefD := ⟨("Sums", some "halves"), "halves", "Sums.halves", defArgs s_Sums_halves, defBody s_Sums_halves, defScope s_Sums_halves, [], []⟩
def d_Halves__halves : He.DefD := ⟨("Halves", some "halves"), "halves", "Sums.halves", defArgs s_Sums_halves, defBody s_Sums_halves, defScope s_Sums_halves, [], []⟩
def d_Guessed__halves : He.DefD := ⟨("Guessed", some "halves"), "halves", "Sums.halves", defArgs s_Sums_halves, defBody s_Sums_halves, defScope s_Sums_halves, [], []⟩
def d_Leaning__halves : He.DefD := ⟨("Leaning", some "halves"), "halves", "Sums.halves", defArgs s_Sums_halves, defBody s_Sums_halves, defScope s_Sums_halves, [], []⟩
def fnL : List He.DefD := [d_is_whole, d_is_row, d_pairs_of, d_half_sums, d_nearest, d_slopes, d_words, d_rule_of, d_law_cell, d_law_box, d_law_take, d_law_bent, d_law_noughts, d_law_all_right, d_law, d_Sums__parted, d_Halves__parted, d_Guessed__parted, d_Leaning__parted, d_Sums__halves, d_Halves__halves, d_Guessed__halves, d_Leaning__halves]
def faL : List He.Fa := [.glo "is_whole", .glo "is_row", .glo "pairs_of", .glo "half_sums", .glo "nearest", .glo "slopes", .glo "words", .glo "rule_of", .glo "_law_cell", .glo "_law_box", .glo "_law_take", .glo "_law_bent", .glo "_law_noughts", .glo "_law_all_right", .glo "law", .free "bool", .free "int", .free "isinstance", .free "len", .free "list", .free "range", .free "max", .free "min", .free "enumerate", .free "zip", .free "str", .int "FIGURES" 999999999999999, .glo "Sums", .cls "Sums", .glo "Halves", .cls "Halves", .glo "Guessed", .cls "Guessed", .glo "Leaning", .cls "Leaning", .meth "Sums" "parted", .meth "Halves" "parted", .meth "Guessed" "parted", .meth "Leaning" "parted", .meth "Sums" "halves", .meth "Halves" "halves", .meth "Guessed" "halves", .meth "Leaning" "halves"]
def xsL : List Str := ["Sums", "Halves", "Guessed", "Leaning"]
def clsN : Nat → Str
  | 2 => "Sums"
  | 3 => "Halves"
  | 4 => "Guessed"
  | 5 => "Leaning"
  | _ => "law"
def Tx (c : Cn) (mg : Str → Option Value) : Prop := (∃ h : Heap, c.K.In h ∧ h.Ns mainGlobals mg ∧ SaysX faL fnL xsL c.K) ∧ c.cls = fun i => He.ga c.K (clsN i)
section
variable {c : Cn} {mg : Str → Option Value}
theorem fd_is_whole (T : Tx c mg) : ∃ f fd, mg "is_whole" = some (.ref f) ∧ FunD c.K "is_whole" "is_whole" (defArgs s_is_whole) (defBody s_is_whole) (defScope s_is_whole) [] [] f fd := by
  obtain ⟨⟨h, X, G, c⟩, _⟩ := T
  obtain ⟨fd, F⟩ := c.d.def_ 0 (d := d_is_whole) rfl
  exact ⟨_, fd, He.glo_ok X G (c.d.fact 0 (f := .glo "is_whole") rfl), F⟩
theorem fd_is_row (T : Tx c mg) : ∃ f fd, mg "is_row" = some (.ref f) ∧ FunD c.K "is_row" "is_row" (defArgs s_is_row) (defBody s_is_row) (defScope s_is_row) [] [] f fd := by
  obtain ⟨⟨h, X, G, c⟩, _⟩ := T
  obtain ⟨fd, F⟩ := c.d.def_ 1 (d := d_is_row) rfl
  exact ⟨_, fd, He.glo_ok X G (c.d.fact 1 (f := .glo "is_row") rfl), F⟩
theorem fd_pairs_of (T : Tx c mg) : ∃ f fd, mg "pairs_of" = some (.ref f) ∧ FunD c.K "pairs_of" "pairs_of" (defArgs s_pairs_of) (defBody s_pairs_of) (defScope s_pairs_of) [] [] f fd := by
  obtain ⟨⟨h, X, G, c⟩, _⟩ := T
  obtain ⟨fd, F⟩ := c.d.def_ 2 (d := d_pairs_of) rfl
  exact ⟨_, fd, He.glo_ok X G (c.d.fact 2 (f := .glo "pairs_of") rfl), F⟩
theorem fd_half_sums (T : Tx c mg) : ∃ f fd, mg "half_sums" = some (.ref f) ∧ FunD c.K "half_sums" "half_sums" (defArgs s_half_sums) (defBody s_half_sums) (defScope s_half_sums) [] [] f fd := by
  obtain ⟨⟨h, X, G, c⟩, _⟩ := T
  obtain ⟨fd, F⟩ := c.d.def_ 3 (d := d_half_sums) rfl
  exact ⟨_, fd, He.glo_ok X G (c.d.fact 3 (f := .glo "half_sums") rfl), F⟩
theorem fd_nearest (T : Tx c mg) : ∃ f fd, mg "nearest" = some (.ref f) ∧ FunD c.K "nearest" "nearest" (defArgs s_nearest) (defBody s_nearest) (defScope s_nearest) [] [] f fd := by
  obtain ⟨⟨h, X, G, c⟩, _⟩ := T
  obtain ⟨fd, F⟩ := c.d.def_ 4 (d := d_nearest) rfl
  exact ⟨_, fd, He.glo_ok X G (c.d.fact 4 (f := .glo "nearest") rfl), F⟩
theorem fd_slopes (T : Tx c mg) : ∃ f fd, mg "slopes" = some (.ref f) ∧ FunD c.K "slopes" "slopes" (defArgs s_slopes) (defBody s_slopes) (defScope s_slopes) [] [] f fd := by
  obtain ⟨⟨h, X, G, c⟩, _⟩ := T
  obtain ⟨fd, F⟩ := c.d.def_ 5 (d := d_slopes) rfl
  exact ⟨_, fd, He.glo_ok X G (c.d.fact 5 (f := .glo "slopes") rfl), F⟩
theorem fd_words (T : Tx c mg) : ∃ f fd, mg "words" = some (.ref f) ∧ FunD c.K "words" "words" (defArgs s_words) (defBody s_words) (defScope s_words) [] [] f fd := by
  obtain ⟨⟨h, X, G, c⟩, _⟩ := T
  obtain ⟨fd, F⟩ := c.d.def_ 6 (d := d_words) rfl
  exact ⟨_, fd, He.glo_ok X G (c.d.fact 6 (f := .glo "words") rfl), F⟩
theorem fd_rule_of (T : Tx c mg) : ∃ f fd, mg "rule_of" = some (.ref f) ∧ FunD c.K "rule_of" "rule_of" (defArgs s_rule_of) (defBody s_rule_of) (defScope s_rule_of) [] [] f fd := by
  obtain ⟨⟨h, X, G, c⟩, _⟩ := T
  obtain ⟨fd, F⟩ := c.d.def_ 7 (d := d_rule_of) rfl
  exact ⟨_, fd, He.glo_ok X G (c.d.fact 7 (f := .glo "rule_of") rfl), F⟩
theorem fd_law_cell (T : Tx c mg) : ∃ f fd, mg "_law_cell" = some (.ref f) ∧ FunD c.K "_law_cell" "_law_cell" (defArgs s_law_cell) (defBody s_law_cell) (defScope s_law_cell) [] [] f fd := by
  obtain ⟨⟨h, X, G, c⟩, _⟩ := T
  obtain ⟨fd, F⟩ := c.d.def_ 8 (d := d_law_cell) rfl
  exact ⟨_, fd, He.glo_ok X G (c.d.fact 8 (f := .glo "_law_cell") rfl), F⟩
theorem fd_law_box (T : Tx c mg) : ∃ f fd, mg "_law_box" = some (.ref f) ∧ FunD c.K "_law_box" "_law_box" (defArgs s_law_box) (defBody s_law_box) (defScope s_law_box) [] [] f fd := by
  obtain ⟨⟨h, X, G, c⟩, _⟩ := T
  obtain ⟨fd, F⟩ := c.d.def_ 9 (d := d_law_box) rfl
  exact ⟨_, fd, He.glo_ok X G (c.d.fact 9 (f := .glo "_law_box") rfl), F⟩
theorem fd_law_take (T : Tx c mg) : ∃ f fd, mg "_law_take" = some (.ref f) ∧ FunD c.K "_law_take" "_law_take" (defArgs s_law_take) (defBody s_law_take) (defScope s_law_take) [] [] f fd := by
  obtain ⟨⟨h, X, G, c⟩, _⟩ := T
  obtain ⟨fd, F⟩ := c.d.def_ 10 (d := d_law_take) rfl
  exact ⟨_, fd, He.glo_ok X G (c.d.fact 10 (f := .glo "_law_take") rfl), F⟩
theorem fd_law_bent (T : Tx c mg) : ∃ f fd, mg "_law_bent" = some (.ref f) ∧ FunD c.K "_law_bent" "_law_bent" (defArgs s_law_bent) (defBody s_law_bent) (defScope s_law_bent) [] [] f fd := by
  obtain ⟨⟨h, X, G, c⟩, _⟩ := T
  obtain ⟨fd, F⟩ := c.d.def_ 11 (d := d_law_bent) rfl
  exact ⟨_, fd, He.glo_ok X G (c.d.fact 11 (f := .glo "_law_bent") rfl), F⟩
theorem fd_law_noughts (T : Tx c mg) : ∃ f fd, mg "_law_noughts" = some (.ref f) ∧ FunD c.K "_law_noughts" "_law_noughts" (defArgs s_law_noughts) (defBody s_law_noughts) (defScope s_law_noughts) [] [] f fd := by
  obtain ⟨⟨h, X, G, c⟩, _⟩ := T
  obtain ⟨fd, F⟩ := c.d.def_ 12 (d := d_law_noughts) rfl
  exact ⟨_, fd, He.glo_ok X G (c.d.fact 12 (f := .glo "_law_noughts") rfl), F⟩
theorem fd_law_all_right (T : Tx c mg) : ∃ f fd, mg "_law_all_right" = some (.ref f) ∧ FunD c.K "_law_all_right" "_law_all_right" (defArgs s_law_all_right) (defBody s_law_all_right) (defScope s_law_all_right) [] [] f fd := by
  obtain ⟨⟨h, X, G, c⟩, _⟩ := T
  obtain ⟨fd, F⟩ := c.d.def_ 13 (d := d_law_all_right) rfl
  exact ⟨_, fd, He.glo_ok X G (c.d.fact 13 (f := .glo "_law_all_right") rfl), F⟩
theorem fd_law (T : Tx c mg) : ∃ f fd, mg "law" = some (.ref f) ∧ FunD c.K "law" "law" (defArgs s_law) (defBody s_law) (defScope s_law) [] [] f fd := by
  obtain ⟨⟨h, X, G, c⟩, _⟩ := T
  obtain ⟨fd, F⟩ := c.d.def_ 14 (d := d_law) rfl
  exact ⟨_, fd, He.glo_ok X G (c.d.fact 14 (f := .glo "law") rfl), F⟩
theorem fr_bool (T : Tx c mg) : mg "bool" = none := let ⟨⟨_, X, G, c⟩, _⟩ := T; He.free_ok X G (c.d.fact 15 (f := .free "bool") rfl)
theorem fr_int (T : Tx c mg) : mg "int" = none := let ⟨⟨_, X, G, c⟩, _⟩ := T; He.free_ok X G (c.d.fact 16 (f := .free "int") rfl)
theorem fr_isinstance (T : Tx c mg) : mg "isinstance" = none := let ⟨⟨_, X, G, c⟩, _⟩ := T; He.free_ok X G (c.d.fact 17 (f := .free "isinstance") rfl)
theorem fr_len (T : Tx c mg) : mg "len" = none := let ⟨⟨_, X, G, c⟩, _⟩ := T; He.free_ok X G (c.d.fact 18 (f := .free "len") rfl)
theorem fr_list (T : Tx c mg) : mg "list" = none := let ⟨⟨_, X, G, c⟩, _⟩ := T; He.free_ok X G (c.d.fact 19 (f := .free "list") rfl)
theorem fr_range (T : Tx c mg) : mg "range" = none := let ⟨⟨_, X, G, c⟩, _⟩ := T; He.free_ok X G (c.d.fact 20 (f := .free "range") rfl)
theorem fr_max (T : Tx c mg) : mg "max" = none := let ⟨⟨_, X, G, c⟩, _⟩ := T; He.free_ok X G (c.d.fact 21 (f := .free "max") rfl)
theorem fr_min (T : Tx c mg) : mg "min" = none := let ⟨⟨_, X, G, c⟩, _⟩ := T; He.free_ok X G (c.d.fact 22 (f := .free "min") rfl)
theorem fr_enumerate (T : Tx c mg) : mg "enumerate" = none := let ⟨⟨_, X, G, c⟩, _⟩ := T; He.free_ok X G (c.d.fact 23 (f := .free "enumerate") rfl)
theorem fr_zip (T : Tx c mg) : mg "zip" = none := let ⟨⟨_, X, G, c⟩, _⟩ := T; He.free_ok X G (c.d.fact 24 (f := .free "zip") rfl)
theorem fr_str (T : Tx c mg) : mg "str" = none := let ⟨⟨_, X, G, c⟩, _⟩ := T; He.free_ok X G (c.d.fact 25 (f := .free "str") rfl)
theorem gi_FIGURES (T : Tx c mg) : ∃ t, mg "FIGURES" = some (.int 999999999999999 t) := let ⟨⟨_, X, G, c⟩, _⟩ := T; He.int_ok X G (c.d.fact 26 (f := .int "FIGURES" 999999999999999) rfl)
theorem cn_Sums (T : Tx c mg) : c.cls 2 = He.ga c.K "Sums" := by rw [T.2]; rfl
theorem gl_Sums (T : Tx c mg) : mg "Sums" = some (.ref (c.cls 2)) := by
  rw [cn_Sums T]
  obtain ⟨⟨h, X, G, c⟩, _⟩ := T
  exact He.glo_ok X G (c.d.fact 27 (f := .glo "Sums") rfl)
theorem cl_Sums (T : Tx c mg) : Cls c.K (c.cls 2) := by
  rw [cn_Sums T]
  obtain ⟨⟨h, X, G, c⟩, _⟩ := T
  exact He.cls_ok (c.d.fact 28 (f := .cls "Sums") rfl)
theorem cn_Halves (T : Tx c mg) : c.cls 3 = He.ga c.K "Halves" := by rw [T.2]; rfl
theorem gl_Halves (T : Tx c mg) : mg "Halves" = some (.ref (c.cls 3)) := by
  rw [cn_Halves T]
  obtain ⟨⟨h, X, G, c⟩, _⟩ := T
  exact He.glo_ok X G (c.d.fact 29 (f := .glo "Halves") rfl)
theorem cl_Halves (T : Tx c mg) : Cls c.K (c.cls 3) := by
  rw [cn_Halves T]
  obtain ⟨⟨h, X, G, c⟩, _⟩ := T
  exact He.cls_ok (c.d.fact 30 (f := .cls "Halves") rfl)
theorem cn_Guessed (T : Tx c mg) : c.cls 4 = He.ga c.K "Guessed" := by rw [T.2]; rfl
theorem gl_Guessed (T : Tx c mg) : mg "Guessed" = some (.ref (c.cls 4)) := by
  rw [cn_Guessed T]
  obtain ⟨⟨h, X, G, c⟩, _⟩ := T
  exact He.glo_ok X G (c.d.fact 31 (f := .glo "Guessed") rfl)
theorem cl_Guessed (T : Tx c mg) : Cls c.K (c.cls 4) := by
  rw [cn_Guessed T]
  obtain ⟨⟨h, X, G, c⟩, _⟩ := T
  exact He.cls_ok (c.d.fact 32 (f := .cls "Guessed") rfl)
theorem cn_Leaning (T : Tx c mg) : c.cls 5 = He.ga c.K "Leaning" := by rw [T.2]; rfl
theorem gl_Leaning (T : Tx c mg) : mg "Leaning" = some (.ref (c.cls 5)) := by
  rw [cn_Leaning T]
  obtain ⟨⟨h, X, G, c⟩, _⟩ := T
  exact He.glo_ok X G (c.d.fact 33 (f := .glo "Leaning") rfl)
theorem cl_Leaning (T : Tx c mg) : Cls c.K (c.cls 5) := by
  rw [cn_Leaning T]
  obtain ⟨⟨h, X, G, c⟩, _⟩ := T
  exact He.cls_ok (c.d.fact 34 (f := .cls "Leaning") rfl)
theorem mk0_Sums (T : Tx c mg) : Mk0 c.K (c.cls 2) := by
  rw [cn_Sums T]
  obtain ⟨⟨h, X, G, c⟩, _⟩ := T
  exact c.mk 0 (x := "Sums") rfl
theorem mk0_Halves (T : Tx c mg) : Mk0 c.K (c.cls 3) := by
  rw [cn_Halves T]
  obtain ⟨⟨h, X, G, c⟩, _⟩ := T
  exact c.mk 1 (x := "Halves") rfl
theorem mk0_Guessed (T : Tx c mg) : Mk0 c.K (c.cls 4) := by
  rw [cn_Guessed T]
  obtain ⟨⟨h, X, G, c⟩, _⟩ := T
  exact c.mk 2 (x := "Guessed") rfl
theorem mk0_Leaning (T : Tx c mg) : Mk0 c.K (c.cls 5) := by
  rw [cn_Leaning T]
  obtain ⟨⟨h, X, G, c⟩, _⟩ := T
  exact c.mk 3 (x := "Leaning") rfl
end
section
variable {P : Program} {w : World} {c : Cn} {mg : Str → Option Value} {base : Heap}
theorem sc_is_whole : FnScope ["thing", "low", "high"] ["thing", "low", "high"] (defScope s_is_whole) := ⟨rfl, rfl, rfl, by decide +kernel, rfl, by decide +kernel, by decide +kernel⟩
theorem ok_is_whole (T : Tx c mg) : Fo P w c.K mg base 1 "is_whole" ["thing", "low", "high"] (spOf c 3 S_is_whole) := by
  obtain ⟨f, fd, hm, F⟩ := fd_is_whole T
  exact fo_of 0 3 0 [0, 1, 2] F hm rfl sc_is_whole (fun _ _ _ _ _ _ us hl => match us, hl with | [_, _, _], _ => rfl) rfl rfl (t_is_whole c) (fun cdv A outer s H E hr => (pss_cons (ps_if (PW.pt (pw_or (pt_not (pt_val (pe_callB call_isi rfl (fr_isinstance T) b_isinstance (pa_cons (pv 0) (pa_cons (pe_bltn (v := .ty "int") rfl (fr_int T) b_int rfl) pa_nil))))) (pw_or1 (pt_val (pe_callB call_isi rfl (fr_isinstance T) b_isinstance (pa_cons (pv 0) (pa_cons (pe_bltn (v := .ty "bool") rfl (fr_bool T) b_bool rfl) pa_nil))))))) (pss_one (ps_ret pe_bl)) pss_nil)
    (pss_one (ps_ret (pe_chain op_le op_le (pv 1) (pv 0) (pv 2)))))) w_is_whole
theorem sc_pairs_of : FnScope ["row", "k"] ["row"] (defScope s_pairs_of) := ⟨rfl, rfl, rfl, by decide +kernel, rfl, by decide +kernel, by decide +kernel⟩
theorem ok_pairs_of (T : Tx c mg) : Fo P w c.K mg base 1 "pairs_of" ["row"] (spOf c 1 S_pairs_of) := by
  obtain ⟨f, fd, hm, F⟩ := fd_pairs_of T
  exact fo_of 0 1 1 [0] F hm rfl sc_pairs_of (fun _ _ _ _ _ _ us hl => match us, hl with | [_], _ => rfl) rfl rfl (t_pairs_of c) (fun cdv A outer s H E hr => (pss_one (ps_ret (pe_lc (own := [("k", 1)]) rfl sc_pairs_of.nd (pi_range1 rfl (fr_range T) (pa_cons (pe_op op_fdivW (pe_callB call_len rfl (fr_len T) b_len (pa_cons (pv 0) pa_nil)) pe_int) pa_nil)) (blkOk_by (N := ["row", "k"]) (sc := defScope s_pairs_of) (own := [("k", 1)]) (by decide +kernel)) (fun _ _ _ _ _ => (pg_name (i := 1) sc_pairs_of.nd rfl (by first | exact Or.inl rfl | exact Or.inr rfl))) (fun _ _ _ _ _ => pts_nil) (fun _ _ _ _ _ => (pe_tup (pa_cons (pe_ix ixA (pv 0) (pe_op op_mulA pe_int (pv 1)) (fun _ _ => rfl)) (pa_cons (pe_ix ixA (pv 0) (pe_op op_addA (pe_op op_mulA pe_int (pv 1)) pe_int) (fun _ _ => rfl)) pa_nil)))))))) w_pairs_of
theorem sc_nearest : FnScope ["row", "at"] ["row", "at"] (defScope s_nearest) := ⟨rfl, rfl, rfl, by decide +kernel, rfl, by decide +kernel, by decide +kernel⟩
theorem ok_nearest (T : Tx c mg) : Fo P w c.K mg base 1 "nearest" ["row", "at"] (spOf c 2 S_nearest) := by
  obtain ⟨f, fd, hm, F⟩ := fd_nearest T
  exact fo_of 0 2 0 [0, 1] F hm rfl sc_nearest (fun _ _ _ _ _ _ us hl => match us, hl with | [_, _], _ => rfl) rfl rfl (t_nearest c) (fun cdv A outer s H E hr => (pss_one (ps_ret (pe_ix ixA (pv 0) (pe_callB (call_max2 rfl) rfl (fr_max T) b_max (pa_cons pe_int (pa_cons (pe_callB (call_min2 rfl) rfl (fr_min T) b_min (pa_cons (pv 1) (pa_cons (pe_op op_sub (pe_callB call_len rfl (fr_len T) b_len (pa_cons (pv 0) pa_nil)) pe_int) pa_nil))) pa_nil))) (fun _ _ => rfl))))) w_nearest
theorem sc_slopes : FnScope ["sums", "many", "found", "at", "ahead", "behind"] ["sums", "many"] (defScope s_slopes) := ⟨rfl, rfl, rfl, by decide +kernel, rfl, by decide +kernel, by decide +kernel⟩
theorem ok_slopes (T : Tx c mg) : Fo P w c.K mg base 1 "slopes" ["sums", "many"] (spOf c 2 S_slopes) := by
  obtain ⟨f, fd, hm, F⟩ := fd_slopes T
  exact fo_of 0 2 4 [0, 1] F hm rfl sc_slopes (fun _ _ _ _ _ _ us hl => match us, hl with | [_, _], _ => rfl) rfl rfl (t_slopes c) (fun cdv A outer s H E hr => (pss_cons (ps_set (i := 2) sc_slopes.nd rfl (by first | exact Or.inl rfl | exact Or.inr rfl) (pe_lst pa_nil))
    (pss_cons (ps_for PassesOwn.never rfl (pi_range1 rfl (fr_range T) (pa_cons (pv 1) pa_nil)) (pg_name (i := 3) sc_slopes.nd rfl (by first | exact Or.inl rfl | exact Or.inr rfl)) (pss_cons (ps_set (i := 4) sc_slopes.nd rfl (by first | exact Or.inl rfl | exact Or.inr rfl) (pe_ix ixA (pv 0) (pv 3) (fun _ _ => rfl)))
    (pss_cons (ps_if (pt_cmpR op_gt (pv 3) pe_int (nomark _)) (pss_one (ps_set (i := 4) sc_slopes.nd rfl (by first | exact Or.inl rfl | exact Or.inr rfl) (pe_ix ixA (pv 0) (pe_op op_sub (pv 3) pe_int) (fun _ _ => rfl)))) pss_nil)
    (pss_cons (ps_set (i := 5) sc_slopes.nd rfl (by first | exact Or.inl rfl | exact Or.inr rfl) (pe_ix ixA (pv 0) (pv 3) (fun _ _ => rfl)))
    (pss_cons (ps_if (pt_cmpR op_lt (pe_op op_addA (pv 3) pe_int) (pe_callB call_len rfl (fr_len T) b_len (pa_cons (pv 0) pa_nil)) (nomark _)) (pss_one (ps_set (i := 5) sc_slopes.nd rfl (by first | exact Or.inl rfl | exact Or.inr rfl) (pe_ix ixA (pv 0) (pe_op op_addA (pv 3) pe_int) (fun _ _ => rfl)))) pss_nil)
    (pss_one (ps_expr (pe_bm PySem.F.plainAttrs_list PySem.F.slot_list_append PySem.F.type_list_append mt_append (pv 2) (pa_cons (pe_op op_fdivW (pe_op op_addA (pe_op op_sub (pv 4) (pv 5)) pe_int) pe_int) pa_nil)))))))))
    (pss_one (ps_ret (pv 2)))))) w_slopes
theorem sc_words : FnScope [] [] (defScope s_words) := ⟨rfl, rfl, rfl, by decide +kernel, rfl, by decide +kernel, by decide +kernel⟩
theorem ok_words (T : Tx c mg) : Fo P w c.K mg base 1 "words" [] (spOf c 0 S_words) := by
  obtain ⟨f, fd, hm, F⟩ := fd_words T
  exact fo_of 0 0 0 [] F hm rfl sc_words (fun _ _ _ _ _ _ us hl => match us, hl with | [], _ => rfl) rfl rfl (t_words c) (fun cdv A outer s H E hr => (pss_one (ps_ret (pe_lst (pa_cons pe_str (pa_cons pe_str (pa_cons pe_str (pa_cons pe_str pa_nil)))))))) w_words
theorem sc_law_cell : FnScope ["_law_script", "_law_k"] ["_law_script", "_law_k"] (defScope s_law_cell) := ⟨rfl, rfl, rfl, by decide +kernel, rfl, by decide +kernel, by decide +kernel⟩
theorem ok_law_cell (T : Tx c mg) : Fo P w c.K mg base 1 "_law_cell" ["_law_script", "_law_k"] (spOf c 2 S_law_cell) := by
  obtain ⟨f, fd, hm, F⟩ := fd_law_cell T
  exact fo_of 0 2 0 [0, 1] F hm rfl sc_law_cell (fun _ _ _ _ _ _ us hl => match us, hl with | [_, _], _ => rfl) rfl rfl (t_law_cell c) (fun cdv A outer s H E hr => (pss_cons (ps_if (pt_cmpR op_lt (pv 1) (pe_callB call_len rfl (fr_len T) b_len (pa_cons (pv 0) pa_nil)) (nomark _)) (pss_one (ps_ret (pe_ix ixA (pv 0) (pv 1) (fun _ _ => rfl)))) pss_nil)
    (pss_one (ps_ret (pe_op op_addA (pe_op op_mulA pe_int (pv 1)) pe_int))))) w_law_cell
theorem sc_law_box : FnScope ["_law_cell_here"] ["_law_cell_here"] (defScope s_law_box) := ⟨rfl, rfl, rfl, by decide +kernel, rfl, by decide +kernel, by decide +kernel⟩
theorem ok_law_box (T : Tx c mg) : Fo P w c.K mg base 1 "_law_box" ["_law_cell_here"] (spOf c 1 S_law_box) := by
  obtain ⟨f, fd, hm, F⟩ := fd_law_box T
  exact fo_of 0 1 0 [0] F hm rfl sc_law_box (fun _ _ _ _ _ _ us hl => match us, hl with | [_], _ => rfl) rfl rfl (t_law_box c) (fun cdv A outer s H E hr => (pss_one (ps_ret (pe_lst (pa_cons (pe_callB (call_max2 rfl) rfl (fr_max T) b_max (pa_cons pe_int (pa_cons (pe_op op_sub (pv 0) (pe_op op_pow pe_int pe_int)) pa_nil))) (pa_cons (pe_op op_mod (pv 0) pe_int) (pa_cons pe_int pa_nil))))))) w_law_box
theorem sc_law_take : FnScope ["_law_box_here", "_law_many", "_law_far", "_law_number", "_law_digit"] ["_law_box_here", "_law_many"] (defScope s_law_take) := ⟨rfl, rfl, rfl, by decide +kernel, rfl, by decide +kernel, by decide +kernel⟩
theorem ok_law_take (T : Tx c mg) : Fo P w c.K mg base 1 "_law_take" ["_law_box_here", "_law_many"] (spOf c 2 S_law_take) := by
  obtain ⟨f, fd, hm, F⟩ := fd_law_take T
  exact fo_of 0 2 3 [0, 1] F hm rfl sc_law_take (fun _ _ _ _ _ _ us hl => match us, hl with | [_, _], _ => rfl) rfl rfl (t_law_take c) (fun cdv A outer s H E hr => (pss_cons (ps_if (pt_cmpR op_gt (pe_ix ixA (pv 0) pe_int (fun _ _ => rfl)) pe_int (nomark _)) (pss_cons (ps_set (i := 4) sc_law_take.nd rfl (by first | exact Or.inl rfl | exact Or.inr rfl) (pe_op op_mod (pe_ix ixA (pv 0) pe_int (fun _ _ => rfl)) (pv 1)))
    (pss_cons (ps_asg (pe_op op_fdivW (pe_ix ixA (pv 0) pe_int (fun _ _ => rfl)) (pv 1)) (pg_sub (pv 0) pe_int set_list))
    (pss_one (ps_ret (pv 4))))) pss_nil)
    (pss_cons (ps_asg (pe_op op_addA (pe_ix ixA (pv 0) pe_int (fun _ _ => rfl)) pe_int) (pg_sub (pv 0) pe_int set_list))
    (pss_cons (ps_set (i := 2) sc_law_take.nd rfl (by first | exact Or.inl rfl | exact Or.inr rfl) (pe_op op_addA (pe_op op_addA (pe_op op_mulA (pe_ix ixA (pv 0) pe_int (fun _ _ => rfl)) (pe_op op_addA pe_int (pe_op op_mulA pe_int (pe_ix ixA (pv 0) pe_int (fun _ _ => rfl))))) (pe_op op_mulA pe_int (pe_ix ixA (pv 0) pe_int (fun _ _ => rfl)))) pe_int))
    (pss_cons (ps_set (i := 3) sc_law_take.nd rfl (by first | exact Or.inl rfl | exact Or.inr rfl) (pe_op op_mod (pe_op op_pow (pv 2) pe_int) pe_int))
    (pss_cons (ps_set (i := 3) sc_law_take.nd rfl (by first | exact Or.inl rfl | exact Or.inr rfl) (pe_op op_mod (pe_op op_mulA (pe_op op_addA (pv 3) (pe_op op_mulA pe_int (pe_ix ixA (pv 0) pe_int (fun _ _ => rfl)))) (pe_op op_addA (pv 3) pe_int)) pe_int))
    (pss_one (ps_ret (pe_op op_mod (pe_op op_fdivW (pv 3) pe_int) (pv 1)))))))))) w_law_take
theorem sc_law_noughts : FnScope ["_law_numbers", "_law_number"] ["_law_numbers"] (defScope s_law_noughts) := ⟨rfl, rfl, rfl, by decide +kernel, rfl, by decide +kernel, by decide +kernel⟩
theorem ok_law_noughts (T : Tx c mg) : Fo P w c.K mg base 1 "_law_noughts" ["_law_numbers"] (spOf c 1 S_law_noughts) := by
  obtain ⟨f, fd, hm, F⟩ := fd_law_noughts T
  exact fo_of 0 1 1 [0] F hm rfl sc_law_noughts (fun _ _ _ _ _ _ us hl => match us, hl with | [_], _ => rfl) rfl rfl (t_law_noughts c) (fun cdv A outer s H E hr => (pss_cons (ps_for PassesOwn.never rfl (pi_list (pv 0)) (pg_name (i := 1) sc_law_noughts.nd rfl (by first | exact Or.inl rfl | exact Or.inr rfl)) (pss_one (ps_if (PW.pt (pw_or (pt_not (pt_val (pe_callB call_isi rfl (fr_isinstance T) b_isinstance (pa_cons (pv 1) (pa_cons (pe_bltn (v := .ty "int") rfl (fr_int T) b_int rfl) pa_nil))))) (pw_or (pt_val (pe_callB call_isi rfl (fr_isinstance T) b_isinstance (pa_cons (pv 1) (pa_cons (pe_bltn (v := .ty "bool") rfl (fr_bool T) b_bool rfl) pa_nil)))) (pw_or1 (pt_cmpR (op_neA hr.units) (pv 1) pe_int (nomark _)))))) (pss_one (ps_ret pe_bl)) pss_nil)))
    (pss_one (ps_ret pe_bl)))) w_law_noughts
theorem sc_is_row : FnScope ["thing", "least", "number"] ["thing", "least"] (defScope s_is_row) := ⟨rfl, rfl, rfl, by decide +kernel, rfl, by decide +kernel, by decide +kernel⟩
theorem ok_is_row (T : Tx c mg) : Fo P w c.K mg base 2 "is_row" ["thing", "least"] (spOf c 2 S_is_row) := by
  obtain ⟨f, fd, hm, F⟩ := fd_is_row T
  exact fo_of 1 2 1 [0, 1] F hm rfl sc_is_row (fun _ _ _ _ _ _ us hl => match us, hl with | [_, _], _ => rfl) rfl rfl (t_is_row c) (fun cdv A outer s H E hr => (pss_cons (ps_if (PW.pt (pw_or (pt_not (pt_val (pe_callB call_isi rfl (fr_isinstance T) b_isinstance (pa_cons (pv 0) (pa_cons (pe_bltn (v := .ty "list") rfl (fr_list T) b_list rfl) pa_nil))))) (pw_or1 (pt_not (pt_chain op_le op_le (pv 1) (pe_callB call_len rfl (fr_len T) b_len (pa_cons (pv 0) pa_nil)) pe_int))))) (pss_one (ps_ret pe_bl)) pss_nil)
    (pss_cons (ps_for PassesOwn.never rfl (pi_list (pv 0)) (pg_name (i := 2) sc_is_row.nd rfl (by first | exact Or.inl rfl | exact Or.inr rfl)) (pss_one (ps_if (pt_not (pt_val (pe_o (ok_is_whole T) (hr.mono (by decide)) (pa_cons (pv 2) (pa_cons (pe_un un_neg (pe_gint (gi_FIGURES T))) (pa_cons (pe_gint (gi_FIGURES T)) pa_nil)))))) (pss_one (ps_ret pe_bl)) pss_nil)))
    (pss_one (ps_ret pe_bl))))) w_is_row
theorem sc_Sums_parted : FnScope ["self", "row", "sums", "one", "other"] ["self", "row"] (defScope s_Sums_parted) := ⟨rfl, rfl, rfl, by decide +kernel, rfl, by decide +kernel, by decide +kernel⟩
theorem ok_Sums_parted (T : Tx c mg) {f : Addr} {fd : FuncData} (F : FunD c.K "parted" "Sums.parted" (defArgs s_Sums_parted) (defBody s_Sums_parted) (defScope s_Sums_parted) [] [] f fd) : FnOk P w c.K mg base CX0 2 f fd ["self", "row"] (spOf c 2 S_Sums_parted) :=
  F.ok sc_Sums_parted (fun vs H Q E h => spOf_len vs H Q E h) fun cdv A outer s H vs Q E hr hs => ⟨t_Sums_parted c, PSs.nox (pss_cons (ps_setLc (i := 2) (own := [("one", 3), ("other", 4)]) rfl sc_Sums_parted.nd rfl rfl (sw_true rfl rfl rfl (by decide +kernel)) (pi_list (pe_o (ok_pairs_of T) (hr.mono (by decide)) (pa_cons (pv 1) pa_nil))) (blkOk_by (N := ["self", "row", "sums", "one", "other"]) (sc := defScope s_Sums_parted) (own := [("one", 3), ("other", 4)]) (by decide +kernel)) (fun _ _ _ _ _ => (pg_tup rfl (pgs_cons (pg_name (i := 3) sc_Sums_parted.nd rfl (by first | exact Or.inl rfl | exact Or.inr rfl)) (pgs_cons (pg_name (i := 4) sc_Sums_parted.nd rfl (by first | exact Or.inl rfl | exact Or.inr rfl)) pgs_nil)))) (fun _ _ _ _ _ => pts_nil) (fun _ _ _ _ _ => (pe_op op_addA (pv 3) (pv 4))))
    (pss_cons (ps_if (pt_cmpR (op_eqA hr.units) (pe_op op_and (pe_callB call_len rfl (fr_len T) b_len (pa_cons (pv 1) pa_nil)) pe_int) pe_int (nomark _)) (pss_one (ps_expr (pe_bm PySem.F.plainAttrs_list PySem.F.slot_list_append PySem.F.type_list_append mt_append (pv 2) (pa_cons (pe_op op_mulA pe_int (pe_ix ixA (pv 1) (pe_un un_neg pe_int) (fun _ _ => rfl))) pa_nil)))) pss_nil)
    (pss_one (ps_ret (pe_tup (pa_cons (pv 2) (pa_cons (pe_lc (own := [("one", 3), ("other", 4)]) rfl sc_Sums_parted.nd (pi_list (pe_o (ok_pairs_of T) (hr.mono (by decide)) (pa_cons (pv 1) pa_nil))) (blkOk_by (N := ["self", "row", "sums", "one", "other"]) (sc := defScope s_Sums_parted) (own := [("one", 3), ("other", 4)]) (by decide +kernel)) (fun _ _ _ _ _ => (pg_tup rfl (pgs_cons (pg_name (i := 3) sc_Sums_parted.nd rfl (by first | exact Or.inl rfl | exact Or.inr rfl)) (pgs_cons (pg_name (i := 4) sc_Sums_parted.nd rfl (by first | exact Or.inl rfl | exact Or.inr rfl)) pgs_nil)))) (fun _ _ _ _ _ => pts_nil) (fun _ _ _ _ _ => (pe_op op_sub (pv 3) (pv 4)))) pa_nil))))))), fn_body (c := c) (n := 2) (m := 3) (S := S_Sums_parted) (t := t_Sums_parted c) [0, 1] (by decide) rfl w_Sums_parted vs H Q E hs⟩
theorem me_Sums_parted (T : Tx c mg) : Fm P w c.K mg base 2 (c.cls 2) "parted" ["self", "row"] (spOf c 2 S_Sums_parted) := by
  have hc := cl_Sums T
  have hn := cn_Sums T
  obtain ⟨⟨h, X, G, cc⟩, _⟩ := id T
  obtain ⟨fd, F⟩ := cc.d.def_ 15 (d := d_Sums__parted) rfl
  have hm := He.meth_ok (cc.d.fact 35 (f := .meth "Sums" "parted") rfl)
  rw [← hn] at hm
  exact ⟨_, fd, hc, by rw [hn] at hm ⊢; exact hm, F.bindsN (fun _ _ _ _ _ _ us hl => match us, hl with | [_, _], _ => rfl), ok_Sums_parted T F⟩
theorem sc_half_sums : FnScope ["row", "sums", "one", "other"] ["row"] (defScope s_half_sums) := ⟨rfl, rfl, rfl, by decide +kernel, rfl, by decide +kernel, by decide +kernel⟩
theorem ok_half_sums (T : Tx c mg) : Fo P w c.K mg base 2 "half_sums" ["row"] (spOf c 1 S_half_sums) := by
  obtain ⟨f, fd, hm, F⟩ := fd_half_sums T
  exact fo_of 1 1 3 [0] F hm rfl sc_half_sums (fun _ _ _ _ _ _ us hl => match us, hl with | [_], _ => rfl) rfl rfl (t_half_sums c) (fun cdv A outer s H E hr => (pss_cons (ps_setLc (i := 1) (own := [("one", 2), ("other", 3)]) rfl sc_half_sums.nd rfl rfl (sw_true rfl rfl rfl (by decide +kernel)) (pi_list (pe_o (ok_pairs_of T) (hr.mono (by decide)) (pa_cons (pv 0) pa_nil))) (blkOk_by (N := ["row", "sums", "one", "other"]) (sc := defScope s_half_sums) (own := [("one", 2), ("other", 3)]) (by decide +kernel)) (fun _ _ _ _ _ => (pg_tup rfl (pgs_cons (pg_name (i := 2) sc_half_sums.nd rfl (by first | exact Or.inl rfl | exact Or.inr rfl)) (pgs_cons (pg_name (i := 3) sc_half_sums.nd rfl (by first | exact Or.inl rfl | exact Or.inr rfl)) pgs_nil)))) (fun _ _ _ _ _ => pts_nil) (fun _ _ _ _ _ => (pe_op op_fdivW (pe_op op_addA (pv 2) (pv 3)) pe_int)))
    (pss_cons (ps_if (pt_cmpR (op_eqA hr.units) (pe_op op_and (pe_callB call_len rfl (fr_len T) b_len (pa_cons (pv 0) pa_nil)) pe_int) pe_int (nomark _)) (pss_one (ps_expr (pe_bm PySem.F.plainAttrs_list PySem.F.slot_list_append PySem.F.type_list_append mt_append (pv 1) (pa_cons (pe_ix ixA (pv 0) (pe_un un_neg pe_int) (fun _ _ => rfl)) pa_nil)))) pss_nil)
    (pss_one (ps_ret (pv 1)))))) w_half_sums
theorem sc_Guessed_parted : FnScope ["self", "row", "firsts", "differences", "sums", "at", "second", "one"] ["self", "row"] (defScope s_Guessed_parted) := ⟨rfl, rfl, rfl, by decide +kernel, rfl, by decide +kernel, by decide +kernel⟩
theorem ok_Guessed_parted (T : Tx c mg) {f : Addr} {fd : FuncData} (F : FunD c.K "parted" "Guessed.parted" (defArgs s_Guessed_parted) (defBody s_Guessed_parted) (defScope s_Guessed_parted) [] [] f fd) : FnOk P w c.K mg base CX0 2 f fd ["self", "row"] (spOf c 2 S_Guessed_parted) :=
  F.ok sc_Guessed_parted (fun vs H Q E h => spOf_len vs H Q E h) fun cdv A outer s H vs Q E hr hs => ⟨t_Guessed_parted c, PSs.nox (pss_cons (ps_set (i := 2) sc_Guessed_parted.nd rfl (by first | exact Or.inl rfl | exact Or.inr rfl) (pe_sl3 (pv 1) po_none po_none (po_some pe_int)))
    (pss_cons (ps_set (i := 3) sc_Guessed_parted.nd rfl (by first | exact Or.inl rfl | exact Or.inr rfl) (pe_lst pa_nil))
    (pss_cons (ps_for PassesOwn.never rfl (pi_enum rfl (fr_enumerate T) (pa_cons (pe_sl3 (pv 1) (po_some pe_int) po_none (po_some pe_int)) pa_nil)) (pg_tup rfl (pgs_cons (pg_name (i := 5) sc_Guessed_parted.nd rfl (by first | exact Or.inl rfl | exact Or.inr rfl)) (pgs_cons (pg_name (i := 6) sc_Guessed_parted.nd rfl (by first | exact Or.inl rfl | exact Or.inr rfl)) pgs_nil))) (pss_one (ps_expr (pe_bm PySem.F.plainAttrs_list PySem.F.slot_list_append PySem.F.type_list_append mt_append (pv 3) (pa_cons (pe_op op_sub (pv 6) (pe_op op_fdivW (pe_op op_addA (pe_ix ixA (pv 2) (pv 5) (fun _ _ => rfl)) (pe_o (ok_nearest T) (hr.mono (by decide)) (pa_cons (pv 2) (pa_cons (pe_op op_addA (pv 5) pe_int) pa_nil)))) pe_int)) pa_nil)))))
    (pss_cons (ps_set (i := 4) sc_Guessed_parted.nd rfl (by first | exact Or.inl rfl | exact Or.inr rfl) (pe_lst pa_nil))
    (pss_cons (ps_for PassesOwn.never rfl (pi_enum rfl (fr_enumerate T) (pa_cons (pv 2) pa_nil)) (pg_tup rfl (pgs_cons (pg_name (i := 5) sc_Guessed_parted.nd rfl (by first | exact Or.inl rfl | exact Or.inr rfl)) (pgs_cons (pg_name (i := 7) sc_Guessed_parted.nd rfl (by first | exact Or.inl rfl | exact Or.inr rfl)) pgs_nil))) (pss_one (ps_expr (pe_bm PySem.F.plainAttrs_list PySem.F.slot_list_append PySem.F.type_list_append mt_append (pv 4) (pa_cons (pe_op op_addA (pv 7) (pe_op op_fdivW (pe_op op_addA (pe_op op_addA (pe_o (ok_nearest T) (hr.mono (by decide)) (pa_cons (pv 3) (pa_cons (pe_op op_sub (pv 5) pe_int) pa_nil))) (pe_o (ok_nearest T) (hr.mono (by decide)) (pa_cons (pv 3) (pa_cons (pv 5) pa_nil)))) pe_int) pe_int)) pa_nil)))))
    (pss_one (ps_ret (pe_tup (pa_cons (pv 4) (pa_cons (pv 3) pa_nil)))))))))), fn_body (c := c) (n := 2) (m := 6) (S := S_Guessed_parted) (t := t_Guessed_parted c) [0, 1] (by decide) rfl w_Guessed_parted vs H Q E hs⟩
theorem me_Guessed_parted (T : Tx c mg) : Fm P w c.K mg base 2 (c.cls 4) "parted" ["self", "row"] (spOf c 2 S_Guessed_parted) := by
  have hc := cl_Guessed T
  have hn := cn_Guessed T
  obtain ⟨⟨h, X, G, cc⟩, _⟩ := id T
  obtain ⟨fd, F⟩ := cc.d.def_ 17 (d := d_Guessed__parted) rfl
  have hm := He.meth_ok (cc.d.fact 37 (f := .meth "Guessed" "parted") rfl)
  rw [← hn] at hm
  exact ⟨_, fd, hc, by rw [hn] at hm ⊢; exact hm, F.bindsN (fun _ _ _ _ _ _ us hl => match us, hl with | [_, _], _ => rfl), ok_Guessed_parted T F⟩
theorem sc_rule_of : FnScope ["word"] ["word"] (defScope s_rule_of) := ⟨rfl, rfl, rfl, by decide +kernel, rfl, by decide +kernel, by decide +kernel⟩
theorem ok_rule_of (T : Tx c mg) : Fo P w c.K mg base 2 "rule_of" ["word"] (spOf c 1 S_rule_of) := by
  obtain ⟨f, fd, hm, F⟩ := fd_rule_of T
  exact fo_of 1 1 0 [0] F hm rfl sc_rule_of (fun _ _ _ _ _ _ us hl => match us, hl with | [_], _ => rfl) rfl rfl (t_rule_of c) (fun cdv A outer s H E hr => (pss_cons (ps_if (PW.pt (pw_or (pt_not (pt_val (pe_callB call_isi rfl (fr_isinstance T) b_isinstance (pa_cons (pv 0) (pa_cons (pe_bltn (v := .ty "str") rfl (fr_str T) b_str rfl) pa_nil))))) (pw_or1 (pt_cmpR op_niA (pv 0) (pe_o0 (ok_words T) (hr.mono (by decide))) (by with_unfolding_all rfl))))) (pss_one ps_never) pss_nil)
    (pss_cons (ps_if (pt_cmpR (op_eqA hr.units) (pv 0) pe_str (nomark _)) (pss_one (ps_ret (pe_mk0 (mk0_Sums T) (gl_Sums T)))) pss_nil)
    (pss_cons (ps_if (pt_cmpR (op_eqA hr.units) (pv 0) pe_str (nomark _)) (pss_one (ps_ret (pe_mk0 (mk0_Halves T) (gl_Halves T)))) pss_nil)
    (pss_cons (ps_if (pt_cmpR (op_eqA hr.units) (pv 0) pe_str (nomark _)) (pss_one (ps_ret (pe_mk0 (mk0_Guessed T) (gl_Guessed T)))) pss_nil)
    (pss_one (ps_ret (pe_mk0 (mk0_Leaning T) (gl_Leaning T))))))))) w_rule_of
theorem sc_law_bent : FnScope ["_law_box_here", "_law_way", "_law_many", "_law_first", "_law_step", "_law_bend"] ["_law_box_here"] (defScope s_law_bent) := ⟨rfl, rfl, rfl, by decide +kernel, rfl, by decide +kernel, by decide +kernel⟩
theorem ok_law_bent (T : Tx c mg) : Fo P w c.K mg base 2 "_law_bent" ["_law_box_here"] (spOf c 1 S_law_bent) := by
  obtain ⟨f, fd, hm, F⟩ := fd_law_bent T
  exact fo_of 1 1 5 [0] F hm rfl sc_law_bent (fun _ _ _ _ _ _ us hl => match us, hl with | [_], _ => rfl) rfl rfl (t_law_bent c) (fun cdv A outer s H E hr => (pss_cons (ps_set (i := 1) sc_law_bent.nd rfl (by first | exact Or.inl rfl | exact Or.inr rfl) (pe_o (ok_law_take T) (hr.mono (by decide)) (pa_cons (pv 0) (pa_cons pe_int pa_nil))))
    (pss_cons (ps_set (i := 2) sc_law_bent.nd rfl (by first | exact Or.inl rfl | exact Or.inr rfl) (pe_ix ixA (pe_lst (pa_cons (pe_op op_addA pe_int (pe_o (ok_law_take T) (hr.mono (by decide)) (pa_cons (pv 0) (pa_cons pe_int pa_nil)))) (pa_cons (pe_op op_addA pe_int (pe_o (ok_law_take T) (hr.mono (by decide)) (pa_cons (pv 0) (pa_cons pe_int pa_nil)))) (pa_cons pe_int (pa_cons pe_int pa_nil))))) (pe_o (ok_law_take T) (hr.mono (by decide)) (pa_cons (pv 0) (pa_cons pe_int pa_nil))) (fun _ _ => rfl)))
    (pss_cons (ps_set (i := 3) sc_law_bent.nd rfl (by first | exact Or.inl rfl | exact Or.inr rfl) (pe_op op_addA (pe_op op_mulA (pe_o (ok_law_take T) (hr.mono (by decide)) (pa_cons (pv 0) (pa_cons (pe_op op_pow pe_int pe_int) pa_nil))) (pe_op op_pow pe_int pe_int)) (pe_o (ok_law_take T) (hr.mono (by decide)) (pa_cons (pv 0) (pa_cons (pe_op op_pow pe_int pe_int) pa_nil)))))
    (pss_cons (ps_set (i := 3) sc_law_bent.nd rfl (by first | exact Or.inl rfl | exact Or.inr rfl) (pe_op op_mulA (pv 3) (pe_ix ixA (pe_lst (pa_cons pe_int (pa_cons (pe_un un_neg pe_int) (pa_cons pe_int pa_nil)))) (pe_o (ok_law_take T) (hr.mono (by decide)) (pa_cons (pv 0) (pa_cons pe_int pa_nil))) (fun _ _ => rfl))))
    (pss_cons (ps_set (i := 4) sc_law_bent.nd rfl (by first | exact Or.inl rfl | exact Or.inr rfl) (pe_op op_mulA (pe_op op_sub (pe_o (ok_law_take T) (hr.mono (by decide)) (pa_cons (pv 0) (pa_cons (pe_op op_addA (pe_op op_mulA pe_int (pe_op op_pow pe_int pe_int)) pe_int) pa_nil))) (pe_op op_pow pe_int pe_int)) (pe_callTy call_intA rfl (fr_int T) b_int (pa_cons (pe_cmpR op_lt (pv 1) pe_int (nomark _)) pa_nil))))
    (pss_cons (ps_set (i := 5) sc_law_bent.nd rfl (by first | exact Or.inl rfl | exact Or.inr rfl) (pe_op op_mulA (pe_op op_sub (pe_o (ok_law_take T) (hr.mono (by decide)) (pa_cons (pv 0) (pa_cons pe_int pa_nil))) pe_int) (pe_callTy call_intA rfl (fr_int T) b_int (pa_cons (pe_cmpR op_lt (pv 1) pe_int (nomark _)) pa_nil))))
    (pss_one (ps_ret (pe_tup (pa_cons (pv 3) (pa_cons (pv 4) (pa_cons (pv 5) (pa_cons (pv 2) pa_nil)))))))))))))) w_law_bent
theorem sc_Halves_parted : FnScope ["self", "row", "one", "other"] ["self", "row"] (defScope s_Halves_parted) := ⟨rfl, rfl, rfl, by decide +kernel, rfl, by decide +kernel, by decide +kernel⟩
theorem ok_Halves_parted (T : Tx c mg) {f : Addr} {fd : FuncData} (F : FunD c.K "parted" "Halves.parted" (defArgs s_Halves_parted) (defBody s_Halves_parted) (defScope s_Halves_parted) [] [] f fd) : FnOk P w c.K mg base CX0 3 f fd ["self", "row"] (spOf c 2 S_Halves_parted) :=
  F.ok sc_Halves_parted (fun vs H Q E h => spOf_len vs H Q E h) fun cdv A outer s H vs Q E hr hs => ⟨t_Halves_parted c, PSs.nox (pss_one (ps_ret (pe_tup (pa_cons (pe_o (ok_half_sums T) (hr.mono (by decide)) (pa_cons (pv 1) pa_nil)) (pa_cons (pe_lc (own := [("one", 2), ("other", 3)]) rfl sc_Halves_parted.nd (pi_list (pe_o (ok_pairs_of T) (hr.mono (by decide)) (pa_cons (pv 1) pa_nil))) (blkOk_by (N := ["self", "row", "one", "other"]) (sc := defScope s_Halves_parted) (own := [("one", 2), ("other", 3)]) (by decide +kernel)) (fun _ _ _ _ _ => (pg_tup rfl (pgs_cons (pg_name (i := 2) sc_Halves_parted.nd rfl (by first | exact Or.inl rfl | exact Or.inr rfl)) (pgs_cons (pg_name (i := 3) sc_Halves_parted.nd rfl (by first | exact Or.inl rfl | exact Or.inr rfl)) pgs_nil)))) (fun _ _ _ _ _ => pts_nil) (fun _ _ _ _ _ => (pe_op op_sub (pv 2) (pv 3)))) pa_nil))))), fn_body (c := c) (n := 2) (m := 2) (S := S_Halves_parted) (t := t_Halves_parted c) [0, 1] (by decide) rfl w_Halves_parted vs H Q E hs⟩
theorem me_Halves_parted (T : Tx c mg) : Fm P w c.K mg base 3 (c.cls 3) "parted" ["self", "row"] (spOf c 2 S_Halves_parted) := by
  have hc := cl_Halves T
  have hn := cn_Halves T
  obtain ⟨⟨h, X, G, cc⟩, _⟩ := id T
  obtain ⟨fd, F⟩ := cc.d.def_ 16 (d := d_Halves__parted) rfl
  have hm := He.meth_ok (cc.d.fact 36 (f := .meth "Halves" "parted") rfl)
  rw [← hn] at hm
  exact ⟨_, fd, hc, by rw [hn] at hm ⊢; exact hm, F.bindsN (fun _ _ _ _ _ _ us hl => match us, hl with | [_, _], _ => rfl), ok_Halves_parted T F⟩
theorem sc_Leaning_parted : FnScope ["self", "row", "sums", "pairs", "guesses", "guess", "one", "other"] ["self", "row"] (defScope s_Leaning_parted) := ⟨rfl, rfl, rfl, by decide +kernel, rfl, by decide +kernel, by decide +kernel⟩
theorem ok_Leaning_parted (T : Tx c mg) {f : Addr} {fd : FuncData} (F : FunD c.K "parted" "Leaning.parted" (defArgs s_Leaning_parted) (defBody s_Leaning_parted) (defScope s_Leaning_parted) [] [] f fd) : FnOk P w c.K mg base CX0 3 f fd ["self", "row"] (spOf c 2 S_Leaning_parted) :=
  F.ok sc_Leaning_parted (fun vs H Q E h => spOf_len vs H Q E h) fun cdv A outer s H vs Q E hr hs => ⟨t_Leaning_parted c, PSs.nox (pss_cons (ps_set (i := 2) sc_Leaning_parted.nd rfl (by first | exact Or.inl rfl | exact Or.inr rfl) (pe_o (ok_half_sums T) (hr.mono (by decide)) (pa_cons (pv 1) pa_nil)))
    (pss_cons (ps_set (i := 3) sc_Leaning_parted.nd rfl (by first | exact Or.inl rfl | exact Or.inr rfl) (pe_o (ok_pairs_of T) (hr.mono (by decide)) (pa_cons (pv 1) pa_nil)))
    (pss_cons (ps_set (i := 4) sc_Leaning_parted.nd rfl (by first | exact Or.inl rfl | exact Or.inr rfl) (pe_o (ok_slopes T) (hr.mono (by decide)) (pa_cons (pv 2) (pa_cons (pe_callB call_len rfl (fr_len T) b_len (pa_cons (pv 3) pa_nil)) pa_nil))))
    (pss_one (ps_ret (pe_tup (pa_cons (pv 2) (pa_cons (pe_lc (own := [("guess", 5), ("one", 6), ("other", 7)]) rfl sc_Leaning_parted.nd (pi_zip rfl (fr_zip T) (pa_cons (pv 3) (pa_cons (pv 4) pa_nil))) (blkOk_by (N := ["self", "row", "sums", "pairs", "guesses", "guess", "one", "other"]) (sc := defScope s_Leaning_parted) (own := [("guess", 5), ("one", 6), ("other", 7)]) (by decide +kernel)) (fun _ _ _ _ _ => (pg_tup rfl (pgs_cons (pg_tup rfl (pgs_cons (pg_name (i := 6) sc_Leaning_parted.nd rfl (by first | exact Or.inl rfl | exact Or.inr rfl)) (pgs_cons (pg_name (i := 7) sc_Leaning_parted.nd rfl (by first | exact Or.inl rfl | exact Or.inr rfl)) pgs_nil))) (pgs_cons (pg_name (i := 5) sc_Leaning_parted.nd rfl (by first | exact Or.inl rfl | exact Or.inr rfl)) pgs_nil)))) (fun _ _ _ _ _ => pts_nil) (fun _ _ _ _ _ => (pe_op op_sub (pe_op op_sub (pv 6) (pv 7)) (pv 5)))) pa_nil)))))))), fn_body (c := c) (n := 2) (m := 6) (S := S_Leaning_parted) (t := t_Leaning_parted c) [0, 1] (by decide) rfl w_Leaning_parted vs H Q E hs⟩
theorem me_Leaning_parted (T : Tx c mg) : Fm P w c.K mg base 3 (c.cls 5) "parted" ["self", "row"] (spOf c 2 S_Leaning_parted) := by
  have hc := cl_Leaning T
  have hn := cn_Leaning T
  obtain ⟨⟨h, X, G, cc⟩, _⟩ := id T
  obtain ⟨fd, F⟩ := cc.d.def_ 18 (d := d_Leaning__parted) rfl
  have hm := He.meth_ok (cc.d.fact 38 (f := .meth "Leaning" "parted") rfl)
  rw [← hn] at hm
  exact ⟨_, fd, hc, by rw [hn] at hm ⊢; exact hm, F.bindsN (fun _ _ _ _ _ _ us hl => match us, hl with | [_, _], _ => rfl), ok_Leaning_parted T F⟩
theorem sc_Sums_halves : FnScope ["self", "row"] ["self", "row"] (defScope s_Sums_halves) := ⟨rfl, rfl, rfl, by decide +kernel, rfl, by decide +kernel, by decide +kernel⟩
theorem ok_Sums_halves (T : Tx c mg) {f : Addr} {fd : FuncData} (F : FunD c.K "halves" "Sums.halves" (defArgs s_Sums_halves) (defBody s_Sums_halves) (defScope s_Sums_halves) [] [] f fd) : FnOk P w c.K mg base CX0 4 f fd ["self", "row"] (spOf c 2 S_Sums_halves) :=
  F.ok sc_Sums_halves (fun vs H Q E h => spOf_len vs H Q E h) fun cdv A outer s H vs Q E hr hs => ⟨t_Sums_halves c, PSs.nox (pss_cons (ps_if (pt_not (pt_val (pe_o (ok_is_row T) (hr.mono (by decide)) (pa_cons (pv 1) (pa_cons pe_int pa_nil))))) (pss_one ps_never) pss_nil)
    (pss_one (ps_ret (pe_or (pe_m (pv 0) (me_Sums_parted T) (hr.mono (by decide)) (pa_cons (pe_callTy call_list_of rfl (fr_list T) b_list (pa_cons (pv 1) pa_nil)) pa_nil)) (pe_or (pe_m (pv 0) (me_Halves_parted T) (hr.mono (by decide)) (pa_cons (pe_callTy call_list_of rfl (fr_list T) b_list (pa_cons (pv 1) pa_nil)) pa_nil)) (pe_or (pe_m (pv 0) (me_Guessed_parted T) (hr.mono (by decide)) (pa_cons (pe_callTy call_list_of rfl (fr_list T) b_list (pa_cons (pv 1) pa_nil)) pa_nil)) (pe_m (pv 0) (me_Leaning_parted T) (hr.mono (by decide)) (pa_cons (pe_callTy call_list_of rfl (fr_list T) b_list (pa_cons (pv 1) pa_nil)) pa_nil)))))))), fn_body (c := c) (n := 2) (m := 0) (S := S_Sums_halves) (t := t_Sums_halves c) [0, 1] (by decide) rfl w_Sums_halves vs H Q E hs⟩
theorem me_Sums_halves (T : Tx c mg) : Fm P w c.K mg base 4 (c.cls 2) "halves" ["self", "row"] (spOf c 2 S_Sums_halves) := by
  have hc := cl_Sums T
  have hn := cn_Sums T
  obtain ⟨⟨h, X, G, cc⟩, _⟩ := id T
  obtain ⟨fd, F⟩ := cc.d.def_ 19 (d := d_Sums__halves) rfl
  have hm := He.meth_ok (cc.d.fact 39 (f := .meth "Sums" "halves") rfl)
  rw [← hn] at hm
  exact ⟨_, fd, hc, by rw [hn] at hm ⊢; exact hm, F.bindsN (fun _ _ _ _ _ _ us hl => match us, hl with | [_, _], _ => rfl), ok_Sums_halves T F⟩
theorem me_Halves_halves (T : Tx c mg) : Fm P w c.K mg base 4 (c.cls 3) "halves" ["self", "row"] (spOf c 2 S_Sums_halves) := by
  have hc := cl_Halves T
  have hn := cn_Halves T
  obtain ⟨⟨h, X, G, cc⟩, _⟩ := id T
  obtain ⟨fd, F⟩ := cc.d.def_ 20 (d := d_Halves__halves) rfl
  have hm := He.meth_ok (cc.d.fact 40 (f := .meth "Halves" "halves") rfl)
  rw [← hn] at hm
  exact ⟨_, fd, hc, by rw [hn] at hm ⊢; exact hm, F.bindsN (fun _ _ _ _ _ _ us hl => match us, hl with | [_, _], _ => rfl), ok_Sums_halves T F⟩
theorem me_Guessed_halves (T : Tx c mg) : Fm P w c.K mg base 4 (c.cls 4) "halves" ["self", "row"] (spOf c 2 S_Sums_halves) := by
  have hc := cl_Guessed T
  have hn := cn_Guessed T
  obtain ⟨⟨h, X, G, cc⟩, _⟩ := id T
  obtain ⟨fd, F⟩ := cc.d.def_ 21 (d := d_Guessed__halves) rfl
  have hm := He.meth_ok (cc.d.fact 41 (f := .meth "Guessed" "halves") rfl)
  rw [← hn] at hm
  exact ⟨_, fd, hc, by rw [hn] at hm ⊢; exact hm, F.bindsN (fun _ _ _ _ _ _ us hl => match us, hl with | [_, _], _ => rfl), ok_Sums_halves T F⟩
theorem me_Leaning_halves (T : Tx c mg) : Fm P w c.K mg base 4 (c.cls 5) "halves" ["self", "row"] (spOf c 2 S_Sums_halves) := by
  have hc := cl_Leaning T
  have hn := cn_Leaning T
  obtain ⟨⟨h, X, G, cc⟩, _⟩ := id T
  obtain ⟨fd, F⟩ := cc.d.def_ 22 (d := d_Leaning__halves) rfl
  have hm := He.meth_ok (cc.d.fact 42 (f := .meth "Leaning" "halves") rfl)
  rw [← hn] at hm
  exact ⟨_, fd, hc, by rw [hn] at hm ⊢; exact hm, F.bindsN (fun _ _ _ _ _ _ us hl => match us, hl with | [_, _], _ => rfl), ok_Sums_halves T F⟩
theorem sc_law_all_right : FnScope ["_law_first", "_law_step", "_law_bend", "_law_many", "_law_row", "_law_found", "_law_word", "_law_k", "_law_number"] ["_law_first", "_law_step", "_law_bend", "_law_many"] (defScope s_law_all_right) := ⟨rfl, rfl, rfl, by decide +kernel, rfl, by decide +kernel, by decide +kernel⟩
theorem ok_law_all_right (T : Tx c mg) : Fo P w c.K mg base 5 "_law_all_right" ["_law_first", "_law_step", "_law_bend", "_law_many"] (spOf c 4 S_law_all_right) := by
  obtain ⟨f, fd, hm, F⟩ := fd_law_all_right T
  exact fo_of 4 4 5 [0, 1, 2, 3] F hm rfl sc_law_all_right (fun _ _ _ _ _ _ us hl => match us, hl with | [_, _, _, _], _ => rfl) rfl rfl (t_law_all_right c) (fun cdv A outer s H E hr => (pss_cons (ps_setLc (i := 4) (own := [("_law_k", 7)]) rfl sc_law_all_right.nd rfl rfl (sw_true rfl rfl rfl (by decide +kernel)) (pi_range1 rfl (fr_range T) (pa_cons (pv 3) pa_nil)) (blkOk_by (N := ["_law_first", "_law_step", "_law_bend", "_law_many", "_law_row", "_law_found", "_law_word", "_law_k", "_law_number"]) (sc := defScope s_law_all_right) (own := [("_law_k", 7)]) (by decide +kernel)) (fun _ _ _ _ _ => (pg_name (i := 7) sc_law_all_right.nd rfl (by first | exact Or.inl rfl | exact Or.inr rfl))) (fun _ _ _ _ _ => pts_nil) (fun _ _ _ _ _ => (pe_op op_addA (pe_op op_addA (pv 0) (pe_op op_mulA (pv 1) (pv 7))) (pe_op op_mulA (pe_op op_mulA (pv 2) (pv 7)) (pv 7)))))
    (pss_cons (ps_if (PW.pt (pw_and (pt_cmpR (op_eqA hr.units) (pv 1) pe_int (nomark _)) (pw_and1 (pt_cmpR (op_eqA hr.units) (pv 2) pe_int (nomark _))))) (pss_one (ps_for PassesOwn.never rfl (pi_list (pe_lst (pa_cons pe_str (pa_cons pe_str (pa_cons pe_str (pa_cons pe_str pa_nil)))))) (pg_name (i := 6) sc_law_all_right.nd rfl (by first | exact Or.inl rfl | exact Or.inr rfl)) (pss_one (ps_if (pt_not (pt_val (pe_o (ok_law_noughts T) (hr.mono (by decide)) (pa_cons (pe_ix ixA (pe_or (pe_m (pe_o (ok_rule_of T) (hr.mono (by decide)) (pa_cons (pv 6) pa_nil)) (me_Sums_halves T) (hr.mono (by decide)) (pa_cons (pe_callTy call_list_of rfl (fr_list T) b_list (pa_cons (pv 4) pa_nil)) pa_nil)) (pe_or (pe_m (pe_o (ok_rule_of T) (hr.mono (by decide)) (pa_cons (pv 6) pa_nil)) (me_Halves_halves T) (hr.mono (by decide)) (pa_cons (pe_callTy call_list_of rfl (fr_list T) b_list (pa_cons (pv 4) pa_nil)) pa_nil)) (pe_or (pe_m (pe_o (ok_rule_of T) (hr.mono (by decide)) (pa_cons (pv 6) pa_nil)) (me_Guessed_halves T) (hr.mono (by decide)) (pa_cons (pe_callTy call_list_of rfl (fr_list T) b_list (pa_cons (pv 4) pa_nil)) pa_nil)) (pe_m (pe_o (ok_rule_of T) (hr.mono (by decide)) (pa_cons (pv 6) pa_nil)) (me_Leaning_halves T) (hr.mono (by decide)) (pa_cons (pe_callTy call_list_of rfl (fr_list T) b_list (pa_cons (pv 4) pa_nil)) pa_nil))))) pe_int (fun _ _ => rfl)) pa_nil)))) (pss_one (ps_ret pe_bl)) pss_nil)))) pss_nil)
    (pss_cons (ps_set (i := 5) sc_law_all_right.nd rfl (by first | exact Or.inl rfl | exact Or.inr rfl) (pe_ix ixA (pe_m (pe_o (ok_rule_of T) (hr.mono (by decide)) (pa_cons pe_str pa_nil)) (me_Guessed_halves T) (hr.mono (by decide)) (pa_cons (pe_callTy call_list_of rfl (fr_list T) b_list (pa_cons (pv 4) pa_nil)) pa_nil)) pe_int (fun _ _ => rfl)))
    (pss_cons (ps_if (PW.pt (pw_or (pt_cmpR (op_neA hr.units) (pe_callB call_len rfl (fr_len T) b_len (pa_cons (pv 5) pa_nil)) (pe_op op_fdivW (pv 3) pe_int) (nomark _)) (pw_or1 (pt_cmpR (op_neA hr.units) (pe_lc (own := [("_law_number", 8)]) rfl sc_law_all_right.nd (pi_list (pe_slice slA (pv 5) po_none (po_some (pe_op op_fdivW (pe_op op_sub (pv 3) pe_int) pe_int)))) (blkOk_by (N := ["_law_first", "_law_step", "_law_bend", "_law_many", "_law_row", "_law_found", "_law_word", "_law_k", "_law_number"]) (sc := defScope s_law_all_right) (own := [("_law_number", 8)]) (by decide +kernel)) (fun _ _ _ _ _ => (pg_name (i := 8) sc_law_all_right.nd rfl (by first | exact Or.inl rfl | exact Or.inr rfl))) (fun _ _ _ _ _ => (pts_one (pt_cmpR (op_neA hr.units) (pv 8) (pe_un un_neg (pv 2)) (nomark _)))) (fun _ _ _ _ _ => (pv 8))) (pe_lst pa_nil) (nomark _))))) (pss_one (ps_ret pe_bl)) pss_nil)
    (pss_cons (ps_if (pt_cmpR (op_neA hr.units) (pv 2) pe_int (nomark _)) (pss_one (ps_ret pe_bl)) pss_nil)
    (pss_cons (ps_set (i := 5) sc_law_all_right.nd rfl (by first | exact Or.inl rfl | exact Or.inr rfl) (pe_ix ixA (pe_m (pe_o (ok_rule_of T) (hr.mono (by decide)) (pa_cons pe_str pa_nil)) (me_Leaning_halves T) (hr.mono (by decide)) (pa_cons (pe_callTy call_list_of rfl (fr_list T) b_list (pa_cons (pv 4) pa_nil)) pa_nil)) pe_int (fun _ _ => rfl)))
    (pss_one (ps_ret (pe_and (pe_cmpR (op_eqA hr.units) (pe_callB call_len rfl (fr_len T) b_len (pa_cons (pv 5) pa_nil)) (pe_op op_fdivW (pv 3) pe_int) (nomark _)) (pe_one (pe_o (ok_law_noughts T) (hr.mono (by decide)) (pa_cons (pe_slice slA (pv 5) (po_some pe_int) (po_some (pe_op op_sub (pe_op op_fdivW (pv 3) pe_int) pe_int))) pa_nil))))))))))))) w_law_all_right
theorem sc_law : FnScope ["_law_script", "_law_k", "_law_box_here", "_law_at", "_law_more", "_law_turn", "_law_first", "_law_step", "_law_bend", "_law_many", "_law_other", "_law_found", "_law_j"] ["_law_script"] (defScope s_law) := ⟨rfl, rfl, rfl, by decide +kernel, rfl, by decide +kernel, by decide +kernel⟩
theorem ok_law (T : Tx c mg) {f : Addr} {fd : FuncData} (F : FunD c.K "law" "law" (defArgs s_law) (defBody s_law) (defScope s_law) [] [] f fd) : FnG P w c.K mg base 6 f fd ["_law_script"] (spOf c 1 S_law) :=
  fng_of F sc_law (fun vs H Q E h => spOf_len vs H Q E h) fun cdv A outer s H vs Q E hg hr hs => ⟨t_law c, PSs.nox (pss_cons (ps_for PassesOwn.never rfl (pi_range1 rfl (fr_range T) (pa_cons (pe_callB (call_max2 rfl) rfl (fr_max T) b_max (pa_cons pe_int (pa_cons (pe_callB (call_min2 rfl) rfl (fr_min T) b_min (pa_cons (pe_callB call_len rfl (fr_len T) b_len (pa_cons (pv 0) pa_nil)) (pa_cons pe_int pa_nil))) pa_nil))) pa_nil)) (pg_name (i := 1) sc_law.nd rfl (by first | exact Or.inl rfl | exact Or.inr rfl)) (pss_cons (ps_set (i := 2) sc_law.nd rfl (by first | exact Or.inl rfl | exact Or.inr rfl) (pe_o (ok_law_box T) (hr.mono (by decide)) (pa_cons (pe_o (ok_law_cell T) (hr.mono (by decide)) (pa_cons (pv 0) (pa_cons (pv 1) pa_nil))) pa_nil)))
    (pss_cons (ps_asg (pe_o (ok_law_bent T) (hr.mono (by decide)) (pa_cons (pv 2) pa_nil)) (pg_tup rfl (pgs_cons (pg_name (i := 6) sc_law.nd rfl (by first | exact Or.inl rfl | exact Or.inr rfl)) (pgs_cons (pg_name (i := 7) sc_law.nd rfl (by first | exact Or.inl rfl | exact Or.inr rfl)) (pgs_cons (pg_name (i := 8) sc_law.nd rfl (by first | exact Or.inl rfl | exact Or.inr rfl)) (pgs_cons (pg_name (i := 9) sc_law.nd rfl (by first | exact Or.inl rfl | exact Or.inr rfl)) pgs_nil))))))
    (pss_cons (ps_set (i := 3) sc_law.nd rfl (by first | exact Or.inl rfl | exact Or.inr rfl) (pe_op op_addA (pe_op op_mulA pe_int (pe_o (ok_law_take T) (hr.mono (by decide)) (pa_cons (pv 2) (pa_cons (pe_op op_fdivW (pv 9) pe_int) pa_nil)))) pe_int))
    (pss_cons (ps_set (i := 4) sc_law.nd rfl (by first | exact Or.inl rfl | exact Or.inr rfl) (pe_op op_addA pe_int (pe_o (ok_law_take T) (hr.mono (by decide)) (pa_cons (pv 2) (pa_cons pe_int pa_nil)))))
    (pss_cons (ps_for PassesOwn.never rfl (pi_range1 rfl (fr_range T) (pa_cons pe_int pa_nil)) (pg_name (i := 5) sc_law.nd rfl (by first | exact Or.inl rfl | exact Or.inr rfl)) (pss_cons (ps_if (pt_not (pt_val (pe_o (ok_law_all_right T) (hr.mono (by decide)) (pa_cons (pv 6) (pa_cons (pv 7) (pa_cons (pv 8) (pa_cons (pv 9) pa_nil))))))) (pss_one (ps_ret pe_bl)) pss_nil)
    (pss_cons (ps_setLc (i := 10) (own := [("_law_j", 12)]) rfl sc_law.nd rfl rfl (sw_true rfl rfl rfl (by decide +kernel)) (pi_range1 rfl (fr_range T) (pa_cons (pv 9) pa_nil)) (blkOk_by (N := ["_law_script", "_law_k", "_law_box_here", "_law_at", "_law_more", "_law_turn", "_law_first", "_law_step", "_law_bend", "_law_many", "_law_other", "_law_found", "_law_j"]) (sc := defScope s_law) (own := [("_law_j", 12)]) (by decide +kernel)) (fun _ _ _ _ _ => (pg_name (i := 12) sc_law.nd rfl (by first | exact Or.inl rfl | exact Or.inr rfl))) (fun _ _ _ _ _ => pts_nil) (fun _ _ _ _ _ => (pe_op op_addA (pe_op op_addA (pv 6) (pe_op op_mulA (pv 7) (pv 12))) (pe_op op_mulA (pe_op op_mulA (pv 8) (pv 12)) (pv 12)))))
    (pss_cons (ps_asg (pe_op op_addA (pe_ix ixA (pv 10) (pv 3) (fun _ _ => rfl)) (pv 4)) (pg_sub (pv 10) (pv 3) set_list))
    (pss_cons (ps_set (i := 11) sc_law.nd rfl (by first | exact Or.inl rfl | exact Or.inr rfl) (pe_ix ixA (pe_m (pe_o (ok_rule_of T) (hr.mono (by decide)) (pa_cons pe_str pa_nil)) (me_Guessed_halves T) (hr.mono (by decide)) (pa_cons (pv 10) pa_nil)) pe_int (fun _ _ => rfl)))
    (pss_one (ps_if (PW.pt (pw_and (pt_cmpR op_lt (pv 3) (pe_op op_sub (pv 9) pe_int) (nomark _)) (pw_and1 (pt_cmpR (op_neA hr.units) (pe_ix ixA (pv 11) (pe_op op_fdivW (pv 3) pe_int) (fun _ _ => rfl)) (pe_op op_sub (pv 4) (pv 8)) (nomark _))))) (pss_one (ps_ret pe_bl)) pss_nil)))))))
    (pss_one (ps_if (pt_not (pt_val (pe_o (ok_law_all_right T) (hr.mono (by decide)) (pa_cons (pv 6) (pa_cons pe_int (pa_cons pe_int (pa_cons (pv 9) pa_nil))))))) (pss_one (ps_ret pe_bl)) pss_nil))))))))
    (pss_one (ps_ret pe_bl))), fn_body (c := c) (n := 1) (m := 12) (S := S_law) (t := t_law c) [0] (by decide) rfl w_law vs H Q E hs⟩
end
theorem law_facts {P : Program} {w : World} {K : PySem.W.Frag} {h : Heap} {mg : Str → Option Value} {fa : Addr} (X : K.In h) (G : h.Ns mainGlobals mg) (hfa : mg ("law" : Str) = some (.ref fa)) (c : SaysX faL fnL xsL K) :
    ∃ (K : PySem.W.Frag) (fd : FuncData) (sp : Sp), K.In h ∧ (∀ (s : Shared) (u : Value), BindsTo s fd ⟨[u], []⟩ [("_law_script", u)]) ∧
        (∀ (H : Hp) (a : Addr) (ns : List Int), ns.length ≤ 63 → (∀ z ∈ ns, Builtin.Int.intBits z ≤ 1048576) → SqL K H a (ns.map V.int) → sp [.ref a] H (fun v _ => v = .bl true) fun _ _ _ => False) ∧
        ∀ base : Heap, K.In base → base.Ns mainGlobals mg → FnG P w K mg base 6 fa fd ["_law_script"] sp := by
  have T : Tx (Cn.mk K (fun i => He.ga K (clsN i))) mg := ⟨⟨h, X, G, c⟩, rfl⟩
  obtain ⟨f, fd, hm, F⟩ := fd_law T
  have e := hfa.symm.trans hm
  cases e
  have b := FunD.bindsA (ps := ["_law_script"]) F fun _ _ _ _ _ _ us hl => match us, hl with | [_], _ => rfl
  refine ⟨K, fd, spOf (Cn.mk K (fun i => He.ga K (clsN i))) 1 S_law, X, fun s u => b s [u] rfl, fun H a ns hl hb hS => law_sp (c := Cn.mk K (fun i => He.ga K (clsN i))) (fun Post hp => ?_) hS, fun base _ _ => ok_law T F⟩
  first | exact c_law hp | exact c_law hl hp | exact c_law hl hb hp
/-! ### the head -/
abbrev R : PySem.W.OpenRow := PySem.W.OpenLaw.row PySem.Challenge.rw_halvedpictures_k17_flat_and_bent_rows
abbrev hk : PySem.W.Hook := hookX 5 faL fnL xsL
def ob (s : PySem.W.SharedT) : He.AlD × Bool := obsX 5 faL fnL xsL (HandSHeadRun.getT s)
theorem ob_eq (s : PySem.W.SharedT) : ob s = hk.obs s.abs := obsX_eq (HandSHeadRun.getT_eq s)
theorem run (w : World) : HandSHeadRun.RunEq R (PySem.W.view R.prog [28]) hk ob 4000 ((["_wall", "HalvedError", "NoRow", "NoRule", "FIGURES", "is_whole", "is_row", "pairs_of"] : List PySem.Str) ++ (["Sums", "Halves", "half_sums", "nearest", "Guessed", "slopes", "Leaning", "words"] : List PySem.Str) ++ (["rule_of", "_law_cell", "_law_box", "_law_take", "_law_bent", "_law_noughts", "_law_all_right"] : List PySem.Str)) w := by
  intro os
  kernel_rfl
end TL
open PySem PySem.W PySem.Calls PyProof.Rows
theorem PySem.Challenge.cw_halvedpictures_k17_flat_and_bent_rows_holds : PySem.Challenge.rw_halvedpictures_k17_flat_and_bent_rows.Holds := by
  w_on; o_law
  refine HandSHeadRun.head_any (r := OpenLaw.row PySem.Challenge.rw_halvedpictures_k17_flat_and_bent_rows) (q := view (OpenLaw.row PySem.Challenge.rw_halvedpictures_k17_flat_and_bent_rows).prog [28]) (H := TL.hk) (ob := TL.ob) (M := 4000) (loose := (["_wall", "HalvedError", "NoRow", "NoRule", "FIGURES", "is_whole", "is_row", "pairs_of"] : List PySem.Str) ++ (["Sums", "Halves", "half_sums", "nearest", "Guessed", "slopes", "Leaning", "words"] : List PySem.Str) ++ (["rule_of", "_law_cell", "_law_box", "_law_take", "_law_bent", "_law_noughts", "_law_all_right"] : List PySem.Str)) (d := HandSHeadRun.topDef (OpenLaw.row PySem.Challenge.rw_halvedpictures_k17_flat_and_bent_rows).prog 28) (kwd := []) TL.ob_eq
    (by kernel_rfl) (fun s => by kernel_rfl) TL.run (by kernel_rfl) (by kernel_rfl) (by kernel_rfl) (by rfl) (by first | assumption | decide +kernel) (by decide +kernel) ⟨rfl, rfl, rfl, rfl, rfl, by decide +kernel⟩ ?hw ?hc
  case hw => w_witness2
  case hc =>
    refine TL.walk_end (l := PySem.Challenge.rw_halvedpictures_k17_flat_and_bent_rows) (n := 63) (k := 6) (x := "_law_script") rfl (by decide) (by kernel_rfl) ⟨rfl, by decide, by decide⟩ ?F
    intro w mg fa h Y G hmg0
    obtain ⟨K, KX, c⟩ := Y
    have hmg : mg ("law" : PySem.Str) = some (.ref fa) := by
      have e : (HandSHeadRun.topDef (OpenLaw.row PySem.Challenge.rw_halvedpictures_k17_flat_and_bent_rows).prog 28).name = ("law" : PySem.Str) := by kernel_rfl
      rw [← e]
      exact hmg0
    exact TL.law_facts KX G hmg c
