import PyProof.Rows.All
import HandS.ForMost
import HandS.Defaults
import HandS.IsInst
import HandS.TupAny
import HandS.TupLe
import HandS.More
import HandS.TupSets
import KE.GoesEnum
import HandS.Style
import HandS.Head0
import HandS.Head1
import HandS.Head2
import HandS.HeadEnd
import HandS.HeadHook1
import HandS.HeadHook2
import PySem.Challenge.RW_pinforge_k04_versions_and_ranges_judged
set_option Elab.async false
set_option linter.all false
section
set_option Elab.async false
set_option linter.all false
set_option maxRecDepth 100000
set_option maxHeartbeats 2000000
namespace DL
open PySem L2

/-! ### data -/
inductive DK where
  | tup | lst | ll | dic (ks : List Key)
  deriving DecidableEq
inductive D where
  | non | bl (b : Bool) | int (i : Int) | str (s : Str) | nd (k : DK) (ds : List D)
/-- data of which some nodes are ours to change -/
inductive T where
  | fz (d : D) | nd (k : DK) (ts : List T)
mutual
def T.toD : T → D
  | .fz d => d
  | .nd k ts => .nd k (T.toDs ts)
def T.toDs : List T → List D
  | [] => []
  | t :: ts => t.toD :: T.toDs ts
end
/-- all are frozen -/
def T.fzs : List T → Option (List D)
  | [] => some []
  | .fz d :: ts => (T.fzs ts).map (d :: ·)
  | .nd _ _ :: _ => none
/-- the shallow view: a node of frozen items -/
def T.sh : T → Option D
  | .fz d => some d
  | .nd k ts => (T.fzs ts).map (.nd k)

def Ex (H H' : Hp) : Prop := ∀ a o, H a = some o → H' a = some o
theorem Ex.refl (H : Hp) : Ex H H := fun _ _ h => h
theorem Ex.trans {H H1 H2 : Hp} (a : Ex H H1) (b : Ex H1 H2) : Ex H H2 := fun x o h => b x o (a x o h)
theorem Ex.new {H : Hp} {p : Addr} {o : HO} (h : H p = none) : Ex H (upd H p o) := fun a u e => by
  rw [upd_ne (ne_of_none e h)]; exact e
theorem Ex.rd {H H' : Hp} {a : Addr} {u : HO} (e : Ex H H') (h : Rd H a u) : Rd H' a u := by
  rcases h with h | ⟨o, h⟩
  · exact Or.inl (e a _ h)
  · exact Or.inr ⟨o, e a _ h⟩
theorem Ex.sl {K : PySem.W.Frag} {H H' : Hp} {a : Addr} {xs : List V} (e : Ex H H') (h : SqL K H a xs) : SqL K H' a xs := by
  rcases h with h | h
  · exact Or.inl (e.rd h)
  · exact Or.inr h
theorem Ex.st {K : PySem.W.Frag} {H H' : Hp} {a : Addr} {xs : List V} (e : Ex H H') (h : SqT K H a xs) : SqT K H' a xs := by
  rcases h with h | h
  · exact Or.inl (e.rd h)
  · exact Or.inr h

section
variable (K : PySem.W.Frag)
/-- a node of this kind stands at a, its items vs; ll: a list that is only read (the script, a list of the module) -/
def DatN (B : Hp) : DK → Addr → List V → Prop
  | .tup, a, vs => SqT K B a vs
  | .lst, a, vs => B a = some (.lst vs)
  | .ll, a, vs => SqL K B a vs
  | .dic ks, a, vs => ks.length = vs.length ∧ Rd B a (.dK (ks.zip vs))
mutual
def Dat (B : Hp) : D → V → Prop
  | .non, v => v = .non
  | .bl b, v => v = .bl b
  | .int i, v => v = .int i
  | .str s, v => v = .str s
  | .nd k ds, v => ∃ a vs, v = .ref a ∧ DatN K B k a vs ∧ DatL B ds vs
def DatL (B : Hp) : List D → List V → Prop
  | [], vs => vs = []
  | d :: ds, vs => ∃ v r, vs = v :: r ∧ Dat B d v ∧ DatL B ds r
end
/-- shallow: the top node in H, the items in B -/
def Sh (B H : Hp) : D → V → Prop
  | .nd .tup ds, v => Dat K B (.nd .tup ds) v
  | .nd k ds, v => ∃ a vs, v = .ref a ∧ DatN K H k a vs ∧ DatL K B ds vs
  | d, v => Dat K B d v
/-- a node that is ours -/
def OwnN (H : Hp) : DK → Addr → List V → Prop
  | .tup, _, _ => False
  | .lst, a, vs => H a = some (.lst vs)
  | .ll, _, _ => False
  | .dic ks, a, vs => ks.length = vs.length ∧ H a = some (.dK (ks.zip vs))
mutual
def Own (B H : Hp) : (Addr → Prop) → T → V → Prop
  | _, .fz d, v => Dat K B d v
  | F, .nd k ts, v => ∃ l vs, v = .ref l ∧ F l ∧ OwnN H k l vs ∧ OwnL B H (fun a => F a ∧ a ≠ l) ts vs
def OwnL (B H : Hp) : (Addr → Prop) → List T → List V → Prop
  | _, [], vs => vs = []
  | F, t :: ts, vs => ∃ (v : V) (r : List V) (G : Addr → Prop), vs = v :: r ∧ (∀ a, G a → F a) ∧ Own B H G t v ∧ OwnL B H (fun a => F a ∧ ¬ G a) ts r
end
end

section
variable {K : PySem.W.Frag} {B B' H H' : Hp}
theorem DatN.mono (e : Ex B B') : ∀ {k : DK} {a : Addr} {vs : List V}, DatN K B k a vs → DatN K B' k a vs
  | .tup, _, _, h => e.st h
  | .lst, _, _, h => e _ _ h
  | .ll, _, _, h => e.sl h
  | .dic _, _, _, h => ⟨h.1, e.rd h.2⟩
mutual
theorem Dat.mono (e : Ex B B') : ∀ {d : D} {v : V}, Dat K B d v → Dat K B' d v
  | .non, _, h => h
  | .bl _, _, h => h
  | .int _, _, h => h
  | .str _, _, h => h
  | .nd _ _, _, ⟨a, vs, h1, h2, h3⟩ => ⟨a, vs, h1, h2.mono e, DatL.mono e h3⟩
theorem DatL.mono (e : Ex B B') : ∀ {ds : List D} {vs : List V}, DatL K B ds vs → DatL K B' ds vs
  | [], _, h => h
  | _ :: _, _, ⟨v, r, h1, h2, h3⟩ => ⟨v, r, h1, Dat.mono e h2, DatL.mono e h3⟩
end
theorem DatL.nil : DatL K B [] [] := rfl
theorem DatL.cons {d : D} {ds : List D} {v : V} {vs : List V} (h : Dat K B d v) (h2 : DatL K B ds vs) : DatL K B (d :: ds) (v :: vs) := ⟨v, vs, rfl, h, h2⟩
theorem DatL.len : ∀ {ds : List D} {vs : List V}, DatL K B ds vs → ds.length = vs.length
  | [], _, h => by cases (show _ = [] from h); rfl
  | _ :: _, _, ⟨v, r, h1, _, h3⟩ => by rw [h1, List.length_cons, List.length_cons, h3.len]
theorem DatL.get : ∀ {ds : List D} {vs : List V} {i : Nat} {d : D}, DatL K B ds vs → ds[i]? = some d → ∃ v, vs[i]? = some v ∧ Dat K B d v
  | [], _, _, _, _, e => by simp at e
  | _ :: _, _, 0, _, ⟨v, r, h1, h2, _⟩, e => by simp at e; subst e; subst h1; exact ⟨v, rfl, h2⟩
  | _ :: ds, _, i + 1, d, ⟨v, r, h1, _, h3⟩, e => by
    subst h1
    obtain ⟨w, e1, e2⟩ := DatL.get (i := i) (d := d) h3 (by simpa using e)
    exact ⟨w, by simpa using e1, e2⟩
theorem DatL.get' : ∀ {ds : List D} {vs : List V} {i : Nat} {v : V}, DatL K B ds vs → vs[i]? = some v → ∃ d, ds[i]? = some d ∧ Dat K B d v
  | [], _, _, _, h, e => by rw [show _ = [] from h] at e; simp at e
  | d :: _, _, 0, _, ⟨v, r, h1, h2, _⟩, e => by subst h1; simp at e; subst e; exact ⟨d, rfl, h2⟩
  | _ :: ds, _, i + 1, w, ⟨v, r, h1, _, h3⟩, e => by
    subst h1
    obtain ⟨d, e1, e2⟩ := DatL.get' (i := i) (v := w) h3 (by simpa using e)
    exact ⟨d, by simpa using e1, e2⟩
theorem DatL.app : ∀ {ds es : List D} {vs ws : List V}, DatL K B ds vs → DatL K B es ws → DatL K B (ds ++ es) (vs ++ ws)
  | [], _, _, _, h, h2 => by rw [show _ = [] from h]; exact h2
  | _ :: _, _, _, _, ⟨v, r, h1, h2, h3⟩, h4 => by subst h1; exact ⟨v, _, rfl, h2, h3.app h4⟩
theorem DatL.take : ∀ {ds : List D} {vs : List V} (n : Nat), DatL K B ds vs → DatL K B (ds.take n) (vs.take n)
  | [], _, n, h => by rw [show _ = [] from h]; simp [DatL]
  | _ :: _, _, 0, _ => rfl
  | _ :: _, _, n + 1, ⟨v, r, h1, h2, h3⟩ => by subst h1; exact ⟨v, _, rfl, h2, h3.take n⟩
theorem DatL.drop : ∀ {ds : List D} {vs : List V} (n : Nat), DatL K B ds vs → DatL K B (ds.drop n) (vs.drop n)
  | [], _, n, h => by rw [show _ = [] from h]; simp [DatL]
  | _ :: _, _, 0, h => h
  | _ :: _, _, n + 1, ⟨v, r, h1, h2, h3⟩ => by subst h1; exact h3.drop n
theorem DatL.set : ∀ {ds : List D} {vs : List V} {d : D} {v : V} (n : Nat), DatL K B ds vs → Dat K B d v → DatL K B (ds.set n d) (vs.set n v)
  | [], _, _, _, n, h, _ => by rw [show _ = [] from h]; simp [DatL]
  | _ :: _, _, _, _, 0, ⟨v, r, h1, h2, h3⟩, hd => by subst h1; exact ⟨_, _, rfl, hd, h3⟩
  | _ :: _, _, _, _, n + 1, ⟨v, r, h1, h2, h3⟩, hd => by subst h1; exact ⟨v, _, rfl, h2, h3.set n hd⟩
theorem Dat.sh (b : Ex B H) : ∀ {d : D} {v : V}, Dat K B d v → Sh K B H d v
  | .non, _, h => h
  | .bl _, _, h => h
  | .int _, _, h => h
  | .str _, _, h => h
  | .nd .tup _, _, h => h
  | .nd .lst _, _, ⟨a, vs, h1, h2, h3⟩ => ⟨a, vs, h1, h2.mono b, h3⟩
  | .nd .ll _, _, ⟨a, vs, h1, h2, h3⟩ => ⟨a, vs, h1, h2.mono b, h3⟩
  | .nd (.dic _) _, _, ⟨a, vs, h1, h2, h3⟩ => ⟨a, vs, h1, h2.mono b, h3⟩
theorem Sh.nd (b : Ex B H) : ∀ {k : DK} {ds : List D} {v : V}, Sh K B H (.nd k ds) v → ∃ a vs, v = .ref a ∧ DatN K H k a vs ∧ DatL K B ds vs
  | .tup, _, _, ⟨a, vs, h1, h2, h3⟩ => ⟨a, vs, h1, h2.mono b, h3⟩
  | .lst, _, _, h => h
  | .ll, _, _, h => h
  | .dic _, _, _, h => h
theorem Sh.dat (b : Ex B H) : ∀ {d : D} {v : V}, Sh K B H d v → Dat K H d v
  | .non, _, h => h
  | .bl _, _, h => h
  | .int _, _, h => h
  | .str _, _, h => h
  | .nd .tup _, _, h => Dat.mono b h
  | .nd .lst _, _, ⟨a, vs, h1, h2, h3⟩ => ⟨a, vs, h1, h2, h3.mono b⟩
  | .nd .ll _, _, ⟨a, vs, h1, h2, h3⟩ => ⟨a, vs, h1, h2, h3.mono b⟩
  | .nd (.dic _) _, _, ⟨a, vs, h1, h2, h3⟩ => ⟨a, vs, h1, h2, h3.mono b⟩
theorem OwnN.dat : ∀ {k : DK} {a : Addr} {vs : List V}, OwnN H k a vs → DatN K H k a vs
  | .tup, _, _, h => h.elim
  | .lst, _, _, h => h
  | .ll, _, _, h => h.elim
  | .dic _, _, _, h => ⟨h.1, Or.inl h.2⟩
theorem OwnN.at_ : ∀ {k : DK} {a : Addr} {vs : List V}, OwnN H k a vs → ∃ o, H a = some o
  | .tup, _, _, h => h.elim
  | .lst, _, _, h => ⟨_, h⟩
  | .ll, _, _, h => h.elim
  | .dic _, _, _, h => ⟨_, h.2⟩
theorem OwnN.congr {a : Addr} (e : ∀ o, H a = some o → H' a = some o) : ∀ {k : DK} {vs : List V}, OwnN H k a vs → OwnN H' k a vs
  | .tup, _, h => h.elim
  | .lst, _, h => e _ h
  | .ll, _, h => h.elim
  | .dic _, _, h => ⟨h.1, e _ h.2⟩
mutual
theorem Own.mono : ∀ {F G : Addr → Prop} {t : T} {v : V}, Own K B H F t v → (∀ a, F a → G a) → Own K B H G t v
  | _, _, .fz _, _, h, _ => h
  | _, _, .nd _ _, _, ⟨l, vs, h1, h2, h3, h4⟩, w => ⟨l, vs, h1, w _ h2, h3, OwnL.mono h4 fun a z => ⟨w a z.1, z.2⟩⟩
theorem OwnL.mono : ∀ {F G : Addr → Prop} {ts : List T} {vs : List V}, OwnL K B H F ts vs → (∀ a, F a → G a) → OwnL K B H G ts vs
  | _, _, [], _, h, _ => h
  | _, _, _ :: _, _, ⟨v, r, G1, h1, h2, h3, h4⟩, w => ⟨v, r, G1, h1, fun a z => w a (h2 a z), h3, OwnL.mono h4 fun a z => ⟨w a z.1, z.2⟩⟩
end
mutual
/-- what is ours is as it was, what is frozen has grown -/
theorem Own.frame (e : Ex B B') : ∀ {F : Addr → Prop} {t : T} {v : V}, Own K B H F t v → (∀ a o, F a → H a = some o → H' a = some o) → Own K B' H' F t v
  | _, .fz _, _, h, _ => Dat.mono e h
  | _, .nd _ _, _, ⟨l, vs, h1, h2, h3, h4⟩, w => ⟨l, vs, h1, h2, h3.congr fun o q => w l o h2 q, OwnL.frame e h4 fun a o z => w a o z.1⟩
theorem OwnL.frame (e : Ex B B') : ∀ {F : Addr → Prop} {ts : List T} {vs : List V}, OwnL K B H F ts vs → (∀ a o, F a → H a = some o → H' a = some o) → OwnL K B' H' F ts vs
  | _, [], _, h, _ => h
  | _, _ :: _, _, ⟨v, r, G1, h1, h2, h3, h4⟩, w => ⟨v, r, G1, h1, h2, Own.frame e h3 fun a o z => w a o (h2 a z), OwnL.frame e h4 fun a o z => w a o z.1⟩
end
theorem OwnL.len : ∀ {F : Addr → Prop} {ts : List T} {vs : List V}, OwnL K B H F ts vs → ts.length = vs.length
  | _, [], _, h => by cases (show _ = [] from h); rfl
  | _, _ :: _, _, ⟨v, r, G1, h1, h2, h3, h4⟩ => by rw [h1, List.length_cons, List.length_cons, h4.len]
theorem OwnL.fzs : ∀ {F : Addr → Prop} {ts : List T} {vs : List V} {ds : List D}, OwnL K B H F ts vs → T.fzs ts = some ds → DatL K B ds vs
  | _, [], _, _, h, e => by
    cases (show some [] = some _ from e)
    exact h
  | _, .fz d :: ts, _, _, ⟨v, r, G1, h1, h2, h3, h4⟩, e => by
    have e' : (T.fzs ts).map (d :: ·) = some _ := e
    cases q : T.fzs ts with
    | none => rw [q] at e'; cases e'
    | some ds =>
      rw [q] at e'
      cases e'
      exact ⟨v, r, h1, h3, h4.fzs q⟩
  | _, .nd _ _ :: _, _, _, _, e => nomatch (show (none : Option (List D)) = some _ from e)
theorem OwnL.of_dat {F : Addr → Prop} : ∀ {ds : List D} {vs : List V}, DatL K B ds vs → OwnL K B H F (ds.map .fz) vs
  | [], _, h => h
  | _ :: _, _, ⟨v, r, h1, h2, h3⟩ => ⟨v, r, fun _ => False, h1, fun _ z => z.elim, h2, OwnL.of_dat h3⟩
theorem Own.sh {F : Addr → Prop} {t : T} {v : V} {d : D} (b : Ex B H) (h : Own K B H F t v) (e : t.sh = some d) : Sh K B H d v := by
  cases t with
  | fz d' =>
    cases (show some d' = some d from e)
    exact Dat.sh b h
  | nd k ts =>
    have e' : (T.fzs ts).map (.nd k) = some d := e
    cases q : T.fzs ts with
    | none => rw [q] at e'; cases e'
    | some ds =>
      rw [q] at e'
      cases e'
      obtain ⟨l, vs, h1, h2, h3, h4⟩ := h
      cases k with
      | tup => exact h3.elim
      | ll => exact h3.elim
      | lst => exact ⟨l, vs, h1, h3.dat, h4.fzs q⟩
      | dic _ => exact ⟨l, vs, h1, h3.dat, h4.fzs q⟩
open Classical in
/-- B with what is ours at F frozen -/
noncomputable def frzB (B H : Hp) (F : Addr → Prop) : Hp := fun a => if F a then H a else B a
theorem frzB_in {F : Addr → Prop} {a : Addr} (h : F a) : frzB B H F a = H a := by unfold frzB; rw [if_pos h]
theorem frzB_out {F : Addr → Prop} {a : Addr} (h : ¬ F a) : frzB B H F a = B a := by unfold frzB; rw [if_neg h]
theorem frzB_ex {F : Addr → Prop} (h : ∀ a, F a → B a = none) : Ex B (frzB B H F) := fun a o e => by
  rw [frzB_out fun z => by rw [h a z] at e; cases e]
  exact e
theorem frzB_le {F : Addr → Prop} (b : Ex B H) : Ex (frzB B H F) H := fun a o e => by
  by_cases z : F a
  · rw [frzB_in z] at e; exact e
  · rw [frzB_out z] at e; exact b a o e
mutual
theorem Own.toD {F : Addr → Prop} {C : Hp} (e : Ex B C) (w : ∀ a o, F a → H a = some o → C a = some o) : ∀ {G : Addr → Prop} {t : T} {v : V}, Own K B H G t v → (∀ a, G a → F a) → Dat K C t.toD v
  | _, .fz _, _, h, _ => Dat.mono e h
  | _, .nd k _, _, ⟨l, vs, h1, h2, h3, h4⟩, g => ⟨l, vs, h1, (h3.congr fun o q => w l o (g l h2) q).dat, OwnL.toD e w h4 fun a z => g a z.1⟩
theorem OwnL.toD {F : Addr → Prop} {C : Hp} (e : Ex B C) (w : ∀ a o, F a → H a = some o → C a = some o) : ∀ {G : Addr → Prop} {ts : List T} {vs : List V}, OwnL K B H G ts vs → (∀ a, G a → F a) → DatL K C (T.toDs ts) vs
  | _, [], _, h, _ => h
  | _, _ :: _, _, ⟨v, r, G1, h1, h2, h3, h4⟩, g => ⟨v, r, h1, Own.toD e w h3 fun a z => g a (h2 a z), OwnL.toD e w h4 fun a z => g a z.1⟩
end
theorem Own.frozen {F : Addr → Prop} {t : T} {v : V} (h : Own K B H F t v) (n : ∀ a, F a → B a = none) : Dat K (frzB B H F) t.toD v :=
  Own.toD (F := F) (frzB_ex n) (fun a o z q => by rw [frzB_in z]; exact q) h fun _ z => z
end
end DL

end

section
set_option Elab.async false
set_option linter.all false
set_option maxRecDepth 100000
set_option maxHeartbeats 2000000
namespace DL
open PySem L2

/-! ### the frame's data -/
abbrev Env := List (Option T)
def Env.t (ρ : Env) (i : Nat) : Option T := match ρ[i]? with
  | some (some t) => some t
  | _ => none
theorem Env.t_some {ρ : Env} {i : Nat} {t : T} (h : ρ.t i = some t) : ρ[i]? = some (some t) := by
  unfold Env.t at h
  split at h
  · rename_i q; cases h; exact q
  · cases h
theorem Env.t_of {ρ : Env} {i : Nat} {t : T} (h : ρ[i]? = some (some t)) : ρ.t i = some t := by unfold Env.t; rw [h]
/-- an operand: data, or a place in what is ours -/
inductive Arg where
  | vl (d : D) | rf (i : Nat) (π : List Nat)
def Arg.deep : Arg → Bool
  | .rf _ (_ :: _) => true
  | _ => false
def tAt : List Nat → T → Option T
  | [], t => some t
  | j :: π, .nd _ ts => (ts[j]?).bind (tAt π)
  | _ :: _, .fz _ => none
def tSet : List Nat → T → T → T
  | [], n, _ => n
  | j :: π, n, .nd k ts => match ts[j]? with
    | some t => .nd k (ts.set j (tSet π n t))
    | none => .nd k ts
  | _ :: _, _, t => t
def deref (ρ : Env) : Arg → Option D
  | .vl d => some d
  | .rf i π => ((ρ.t i).bind (tAt π)).bind T.sh
/-- which value stands at a path -/
def PathV (H : Hp) : List Nat → T → V → V → Prop
  | [], _, w, v => v = w
  | j :: π, .nd k ts, w, v => ∃ l vs x t, w = .ref l ∧ OwnN H k l vs ∧ vs[j]? = some x ∧ ts[j]? = some t ∧ PathV H π t x v
  | _ :: _, .fz _, _, _ => False

structure St (K : PySem.W.Frag) (B H : Hp) (σ : L2.St) (ρ : Env) (F : Nat → Addr → Prop) : Prop where
  bh : Ex B H
  sl : ∀ i t, ρ[i]? = some (some t) → ∃ v, σ[i]? = some (some v) ∧ Own K B H (F i) t v
  nb : ∀ i a, F i a → B a = none
  al : ∀ i a, F i a → H a ≠ none
  dj : ∀ i j a, i ≠ j → F i a → ¬ F j a
  ln : σ.length = ρ.length
def U (F : Nat → Addr → Prop) (a : Addr) : Prop := ∃ i, F i a
structure Ext (B H : Hp) (F : Addr → Prop) (B' H' : Hp) (F' : Addr → Prop) : Prop where
  bb : Ex B B'
  fr : ∀ a o, H a = some o → ¬ F a → H' a = some o
  nb : ∀ a, H a ≠ none → ¬ F a → B a = none → B' a = none
  nf : ∀ a, H a ≠ none → ¬ F a → ¬ F' a
theorem Ext.refl {B H : Hp} {F : Addr → Prop} : Ext B H F B H F := ⟨Ex.refl _, fun _ _ h _ => h, fun _ _ _ h => h, fun _ _ h => h⟩
theorem Ext.trans {B H B1 H1 B2 H2 : Hp} {F F1 F2 : Addr → Prop} (a : Ext B H F B1 H1 F1) (b : Ext B1 H1 F1 B2 H2 F2) : Ext B H F B2 H2 F2 := by
  have al : ∀ x, H x ≠ none → ¬ F x → H1 x ≠ none := fun x h n => by
    cases q : H x with
    | none => exact absurd q h
    | some o => rw [a.fr x o q n]; exact fun z => nomatch z
  exact ⟨a.bb.trans b.bb, fun x o h n => b.fr x o (a.fr x o h n) (a.nf x (by rw [h]; exact fun z => nomatch z) n), fun x h n z => b.nb x (al x h n) (a.nf x h n) (a.nb x h n z), fun x h n => b.nf x (al x h n) (a.nf x h n)⟩
theorem Ext.less {B H B1 H1 : Hp} {F F1 F2 : Addr → Prop} (a : Ext B H F B1 H1 F1) (h : ∀ x, F2 x → F1 x) : Ext B H F B1 H1 F2 :=
  ⟨a.bb, a.fr, a.nb, fun x h1 h2 z => a.nf x h1 h2 (h x z)⟩
/-- only new things are laid -/
structure New (B H B' H' : Hp) : Prop where
  bb : Ex B B'
  hh : Ex H H'
  bh : Ex B' H'
  fr : ∀ a, H a ≠ none → B a = none → B' a = none
theorem New.refl {B H : Hp} (b : Ex B H) : New B H B H := ⟨Ex.refl _, Ex.refl _, b, fun _ _ h => h⟩
theorem New.lay {B H : Hp} {p : Addr} {o : HO} (b : Ex B H) (h : H p = none) : New B H (upd B p o) (upd H p o) := by
  have bp : B p = none := by
    cases q : B p with
    | none => rfl
    | some u => rw [b p u q] at h; cases h
  refine ⟨Ex.new bp, Ex.new h, fun a u e => ?_, fun a n e => ?_⟩
  · by_cases z : a = p
    · subst z; rw [upd_same] at e ⊢; exact e
    · rw [upd_ne z] at e ⊢; exact b a u e
  · by_cases z : a = p
    · subst z; exact absurd h n
    · rw [upd_ne z]; exact e

section
variable {K : PySem.W.Frag} {B B' H H' : Hp} {σ : L2.St} {ρ : Env} {F : Nat → Addr → Prop}
theorem St.new (S : St K B H σ ρ F) (n : New B H B' H') : St K B' H' σ ρ F :=
  ⟨n.bh, fun i t e => let ⟨v, h1, h2⟩ := S.sl i t e; ⟨v, h1, h2.frame n.bb fun a o _ q => n.hh a o q⟩, fun i a h => n.fr a (S.al i a h) (S.nb i a h), (fun i a h => by
    cases q : H a with
    | none => exact absurd q (S.al i a h)
    | some o => rw [n.hh a o q]; exact fun z => nomatch z), S.dj, S.ln⟩
theorem New.ext (n : New B H B' H') {G : Addr → Prop} : Ext B H G B' H' G := ⟨n.bb, fun a o h _ => n.hh a o h, fun a h _ e => n.fr a h e, fun _ _ h => h⟩
def ArgOk (K : PySem.W.Frag) (B H : Hp) (σ : L2.St) (ρ : Env) : Arg → V → Prop
  | .vl d, v => Dat K B d v
  | .rf i [], v => σ[i]? = some (some v)
  | .rf i (j :: π), v => ∃ w t, σ[i]? = some (some w) ∧ ρ.t i = some t ∧ PathV H (j :: π) t w v
theorem PathV.mono (e : Ex H H') : ∀ {π : List Nat} {t : T} {w v : V}, PathV H π t w v → PathV H' π t w v
  | [], _, _, _, h => h
  | _ :: _, .nd _ _, _, _, ⟨l, vs, x, t, h1, h2, h3, h4, h5⟩ => ⟨l, vs, x, t, h1, h2.congr fun o q => e l o q, h3, h4, PathV.mono e h5⟩
  | _ :: _, .fz _, _, _, h => h.elim
/-- an operand outlasts what follows -/
theorem ArgOk.keep {ρ' : Env} {a : Arg} {v : V} (h : ArgOk K B H σ ρ a v) (b : Ex B B') (c : a.deep = true → ρ' = ρ ∧ Ex H H') : ArgOk K B' H' σ ρ' a v := by
  match a, h, c with
  | .vl d, h, _ => exact Dat.mono b h
  | .rf i [], h, _ => exact h
  | .rf i (j :: π), ⟨w, t, h1, h2, h3⟩, c =>
    obtain ⟨e1, e2⟩ := c rfl
    subst e1
    exact ⟨w, t, h1, h2, h3.mono e2⟩
theorem OwnL.get : ∀ {G : Addr → Prop} {ts : List T} {vs : List V} {j : Nat} {t : T} {x : V}, OwnL K B H G ts vs → ts[j]? = some t → vs[j]? = some x → ∃ G1 : Addr → Prop, (∀ a, G1 a → G a) ∧ Own K B H G1 t x ∧
    ∀ (B' H' : Hp) (t' : T), Ex B B' → (∀ a o, G a → ¬ G1 a → H a = some o → H' a = some o) → Own K B' H' G1 t' x → OwnL K B' H' G (ts.set j t') vs
  | _, [], _, _, _, _, _, e, _ => by simp at e
  | G, u :: ts, vs, 0, t, x, ⟨v, r, G1, h1, h2, h3, h4⟩, e1, e2 => by
    subst h1
    simp at e1 e2
    subst e1 e2
    exact ⟨G1, h2, h3, fun B' H' t' b w o => ⟨_, _, G1, rfl, h2, o, h4.frame b fun a o z q => w a o z.1 z.2 q⟩⟩
  | G, u :: ts, vs, j + 1, t, x, ⟨v, r, G1, h1, h2, h3, h4⟩, e1, e2 => by
    subst h1
    obtain ⟨G2, k1, k2, k3⟩ := OwnL.get (j := j) (t := t) (x := x) h4 (by simpa using e1) (by simpa using e2)
    refine ⟨G2, fun a z => (k1 a z).1, k2, fun B' H' t' b w o => ⟨_, _, G1, rfl, h2, h3.frame b fun a o z q => w a o (h2 a z) (fun y => (k1 a y).2 z) q, k3 B' H' t' b (fun a o z n q => w a o z.1 n q) o⟩⟩
theorem OwnN.inj {k : DK} {l : Addr} {vs ws : List V} (a : OwnN H k l vs) (b : OwnN H k l ws) : vs = ws := by
  cases k with
  | tup => exact (show False from a).elim
  | lst =>
    have h : some (HO.lst vs) = some (HO.lst ws) := (show H l = _ from a).symm.trans (show H l = _ from b)
    injection h with h; injection h
  | ll => exact (show False from a).elim
  | dic ks =>
    obtain ⟨a1, a2⟩ := a
    obtain ⟨b1, b2⟩ := b
    have h : some (HO.dK (ks.zip vs)) = some (HO.dK (ks.zip ws)) := a2.symm.trans b2
    injection h with h
    injection h with h
    have := congrArg (List.map Prod.snd) h
    rwa [List.map_snd_zip (by omega), List.map_snd_zip (by omega)] at this
/-- a place, and the tree with another thing there -/
theorem own_upd : ∀ {π : List Nat} {G : Addr → Prop} {t s : T} {w v : V}, Own K B H G t w → PathV H π t w v → tAt π t = some s → ∃ G1 : Addr → Prop, (∀ a, G1 a → G a) ∧ Own K B H G1 s v ∧
    ∀ (B' H' : Hp) (s' : T), Ex B B' → (∀ a o, G a → ¬ G1 a → H a = some o → H' a = some o) → Own K B' H' G1 s' v → Own K B' H' G (tSet π s' t) w
  | [], G, t, s, w, v, h, p, e => by
    cases (show some t = some s from e)
    cases (show v = w from p)
    exact ⟨G, fun _ z => z, h, fun B' H' s' _ _ o => o⟩
  | j :: π, G, .nd k ts, s, w, v, ⟨l, vs, h1, h2, h3, h4⟩, ⟨l', vs', x, t, p1, p2, p3, p4, p5⟩, e => by
    subst h1
    cases p1
    cases h3.inj p2
    have e' : tAt π t = some s := by
      have q : (ts[j]?).bind (tAt π) = some s := e
      rw [p4] at q
      exact q
    obtain ⟨G1, k1, k2, k3⟩ := h4.get p4 p3
    obtain ⟨G2, m1, m2, m3⟩ := own_upd k2 p5 e'
    refine ⟨G2, fun a z => (k1 a (m1 a z)).1, m2, fun B' H' s' b wf o => ?_⟩
    have nl : ¬ G2 l := fun z => (k1 l (m1 l z)).2 rfl
    show Own K B' H' G (match ts[j]? with
      | some t => T.nd k (ts.set j (tSet π s' t))
      | none => .nd k ts) (.ref l)
    rw [p4]
    refine ⟨l, vs, rfl, h2, h3.congr fun o q => wf l o h2 nl q, k3 B' H' _ b (fun a o z n q => wf a o z.1 (fun y => n (m1 a y)) q) (m3 B' H' s' b (fun a o z n q => wf a o (k1 a z).1 n q) o)⟩
  | _ :: _, _, .fz _, _, _, _, _, p, _ => p.elim
theorem St.deref (S : St K B H σ ρ F) {a : Arg} {v : V} {d : D} (h : ArgOk K B H σ ρ a v) (e : deref ρ a = some d) : Sh K B H d v := by
  match a, h, e with
  | .vl d', h, e => cases (show some d' = some d from e); exact Dat.sh S.bh h
  | .rf i [], h, e =>
    have e' : ((ρ.t i).bind (tAt [])).bind T.sh = some d := e
    cases q : ρ.t i with
    | none => rw [q] at e'; cases e'
    | some t =>
      rw [q] at e'
      obtain ⟨w, h1, h2⟩ := S.sl i t (Env.t_some q)
      have h' : σ[i]? = some (some v) := h
      rw [h'] at h1
      cases h1
      exact h2.sh S.bh e'
  | .rf i (j :: π), ⟨w, t, h1, h2, h3⟩, e =>
    have e' : ((ρ.t i).bind (tAt (j :: π))).bind T.sh = some d := e
    rw [h2] at e'
    cases q : tAt (j :: π) t with
    | none =>
      rw [show (some t).bind (tAt (j :: π)) = tAt (j :: π) t from rfl, q] at e'; cases e'
    | some s =>
      rw [show (some t).bind (tAt (j :: π)) = tAt (j :: π) t from rfl, q] at e'
      obtain ⟨w', g1, g2⟩ := S.sl i t (Env.t_some h2)
      rw [h1] at g1
      cases g1
      obtain ⟨G1, _, m2, _⟩ := own_upd g2 h3 q
      exact m2.sh S.bh e'
/-- the slot i holds another thing, whose own part is G -/
theorem St.put (S : St K B H σ ρ F) {i : Nat} {v : V} {t : T} {G : Addr → Prop} (o : Own K B H G t v) (g1 : ∀ a, G a → B a = none) (g2 : ∀ a, G a → H a ≠ none) (g3 : ∀ j a, j ≠ i → G a → ¬ F j a)
    (hi : i < ρ.length) : St K B H (σ.set i (some v)) (ρ.set i (some t)) (fun j => if j = i then G else F j) := by
  refine ⟨S.bh, fun j u e => ?_, fun j a z => ?_, fun j a z => ?_, fun j l a n z => ?_, by rw [List.length_set, List.length_set]; exact S.ln⟩
  · by_cases h : j = i
    · subst h
      rw [List.getElem?_set_self hi] at e
      cases e
      refine ⟨v, List.getElem?_set_self (by rw [S.ln]; exact hi), ?_⟩
      rw [if_pos rfl]; exact o
    · rw [List.getElem?_set_ne (Ne.symm h)] at e ⊢
      rw [if_neg h]
      exact S.sl j u e
  · by_cases h : j = i
    · rw [if_pos h] at z; exact g1 a z
    · rw [if_neg h] at z; exact S.nb j a z
  · by_cases h : j = i
    · rw [if_pos h] at z; exact g2 a z
    · rw [if_neg h] at z; exact S.al j a z
  · by_cases h : j = i
    · rw [if_pos h] at z
      have hl : l ≠ i := fun q => n (h.trans q.symm)
      rw [if_neg hl]
      exact g3 l a hl z
    · rw [if_neg h] at z
      by_cases hl : l = i
      · rw [if_pos hl]
        exact fun y => g3 j a h y z
      · rw [if_neg hl]
        exact S.dj j l a n z
end
end DL

end

section
set_option Elab.async false
set_option linter.all false
set_option maxRecDepth 100000
set_option maxHeartbeats 2000000
namespace DL
open PySem L2

/-! ### judgements -/
abbrev M := Env → Option (Arg × Env)
abbrev MT := Env → Option (Bool × Env)
abbrev MA := Env → Option (List Arg × Env)
inductive Fl where
  | nx | rt (t : T) | bk | ct
abbrev MS := Env → Option (Fl × Env)
def ArgsOk (K : PySem.W.Frag) (B H : Hp) (σ : L2.St) (ρ : Env) : List Arg → List V → Prop
  | [], vs => vs = []
  | a :: as, vs => ∃ v r, vs = v :: r ∧ ArgOk K B H σ ρ a v ∧ ArgsOk K B H σ ρ as r

def tE (K : PySem.W.Frag) (p : Bool) (m : M) : TE := fun σ H Q => ∃ B ρ F, St K B H σ ρ F ∧ ∃ a ρ', m ρ = some (a, ρ') ∧ ∀ v B' H' F', Ext B H (U F) B' H' (U F') → St K B' H' σ ρ' F' → ArgOk K B' H' σ ρ' a v →
  (p = true → ρ' = ρ ∧ F' = F ∧ Ex H H') → Q v H'
def tT (K : PySem.W.Frag) (p : Bool) (m : MT) : TT := fun σ H Q => ∃ B ρ F, St K B H σ ρ F ∧ ∃ b ρ', m ρ = some (b, ρ') ∧ ∀ B' H' F', Ext B H (U F) B' H' (U F') → St K B' H' σ ρ' F' →
  (p = true → ρ' = ρ ∧ F' = F ∧ Ex H H') → Q b H'
def tA (K : PySem.W.Frag) (p : Bool) (m : MA) : TA := fun σ H Q => ∃ B ρ F, St K B H σ ρ F ∧ ∃ as ρ', m ρ = some (as, ρ') ∧ ∀ vs B' H' F', Ext B H (U F) B' H' (U F') → St K B' H' σ ρ' F' → ArgsOk K B' H' σ ρ' as vs →
  (p = true → ρ' = ρ ∧ F' = F ∧ Ex H H') → Q vs H'
/-- a value whose tree is ours, besides the frame's -/
structure OwnX (K : PySem.W.Frag) (B H : Hp) (F : Nat → Addr → Prop) (G : Addr → Prop) (t : T) (v : V) : Prop where
  own : Own K B H G t v
  nb : ∀ a, G a → B a = none
  al : ∀ a, G a → H a ≠ none
  dj : ∀ i a, G a → ¬ F i a
/-- an expression whose value is ours -/
def tO (K : PySem.W.Frag) (m : Env → Option (T × Env)) : TE := fun σ H Q => ∃ B ρ F, St K B H σ ρ F ∧ ∃ t ρ', m ρ = some (t, ρ') ∧ ∀ v B' H' F' G, Ext B H (U F) B' H' (fun a => U F' a ∨ G a) → St K B' H' σ ρ' F' → OwnX K B' H' F' G t v → Q v H'
def tS (K : PySem.W.Frag) (io : Nat → Bool) (m : MS) : TS := fun D σ H => ∃ B ρ F, St K B H σ ρ F ∧ ∃ fl ρ', m ρ = some (fl, ρ') ∧ match fl with
  | .nx => ∀ σ' B' H' F', Ext B H (U F) B' H' (U F') → St K B' H' σ' ρ' F' → (∀ j, io j = true → σ'[j]? = σ[j]?) → D.nx σ' H'
  | .bk => ∀ σ' B' H' F', Ext B H (U F) B' H' (U F') → St K B' H' σ' ρ' F' → (∀ j, io j = true → σ'[j]? = σ[j]?) → D.bk σ' H'
  | .ct => ∀ σ' B' H' F', Ext B H (U F) B' H' (U F') → St K B' H' σ' ρ' F' → (∀ j, io j = true → σ'[j]? = σ[j]?) → D.ct σ' H'
  | .rt t => ∀ v σ' B' H' F' G, Ext B H (U F) B' H' (fun a => U F' a ∨ G a) → St K B' H' σ' ρ' F' → OwnX K B' H' F' G t v → (∀ j, io j = true → σ'[j]? = σ[j]?) → D.rt v H'

theorem peW {X : Cx} {e : Expr} {t t' : TE} (h : PE X e t) (f : ∀ σ H Q, t' σ H Q → t σ H Q) : PE X e t' := ⟨fun pins s σ H Q I q => h.run pins s σ H Q I (f _ _ _ q)⟩
theorem ptW {X : Cx} {e : Expr} {t t' : TT} (h : PT X e t) (f : ∀ σ H Q, t' σ H Q → t σ H Q) : PT X e t' := ⟨fun pins s σ H Q I q => h.run pins s σ H Q I (f _ _ _ q)⟩
theorem pwW {X : Cx} {e : Expr} {t t' : TT} (h : PW X e t) (f : ∀ σ H Q, t' σ H Q → t σ H Q) : PW X e t' := ⟨fun wh pins s σ H Q I q => h.run wh pins s σ H Q I (f _ _ _ q)⟩
theorem paW {X : Cx} {e : List Expr} {t t' : TA} (h : PA X e t) (f : ∀ σ H Q, t' σ H Q → t σ H Q) : PA X e t' := ⟨fun ps pins s σ H Q I q => h.run ps pins s σ H Q I (f _ _ _ q)⟩
theorem psW {X : Cx} {e : Stmt} {t t' : TS} (h : PS X e t) (f : ∀ D σ H, t' D σ H → t D σ H) : PS X e t' := ⟨fun pins s σ H D I q => h.run pins s σ H D I (f _ _ _ q)⟩
theorem pssW {X : Cx} {e : List Stmt} {t t' : TS} (h : PSs X e t) (f : ∀ D σ H, t' D σ H → t D σ H) : PSs X e t' := ⟨fun pins s σ H D I q => h.run pins s σ H D I (f _ _ _ q)⟩

theorem ob {α β : Type} {o : Option α} {f : α → Option β} {b : β} (h : o.bind f = some b) : ∃ a, o = some a ∧ f a = some b := by
  cases o with
  | none => cases h
  | some a => exact ⟨a, rfl, h⟩
theorem og {α : Type} {c : Bool} {o : Option α} {b : α} (h : (if c = true then none else o) = some b) : c = false ∧ o = some b := by
  cases c with
  | true => cases h
  | false => exact ⟨rfl, h⟩

section
variable {X : Cx} {p q : Bool} {pos : Pos}
/-! ### names, constants -/
def eK (d : D) : M := fun ρ => some (.vl d, ρ)
def eV (i : Nat) : M := fun ρ => match ρ.t i with
  | some (.fz d) => some (.vl d, ρ)
  | some (.nd _ _) => some (.rf i [], ρ)
  | none => none
theorem tE_val {K : PySem.W.Frag} {d : D} {v : V} {σ : L2.St} {H : Hp} {Q : VK} (h : tE K p (eK d) σ H Q) (hv : ∀ B, Dat K B d v) : Q v H := by
  obtain ⟨B, ρ, F, S, a, ρ', e, k⟩ := h
  cases (show some (Arg.vl d, ρ) = some (a, ρ') from e)
  exact k v B H F Ext.refl S (hv B) fun _ => ⟨rfl, rfl, Ex.refl _⟩
theorem c_int {i j} : PE X (.Constant (.int i) j pos) (tE X.K p (eK (.int i))) := peW pe_int fun _ _ _ h => tE_val h fun _ => rfl
theorem c_bl {b j} : PE X (.Constant (.bool b) j pos) (tE X.K p (eK (.bl b))) := peW pe_bl fun _ _ _ h => tE_val h fun _ => rfl
theorem c_non {j} : PE X (.Constant .none j pos) (tE X.K p (eK .non)) := peW pe_non fun _ _ _ h => tE_val h fun _ => rfl
theorem c_str {x j} : PE X (.Constant (.str x) j pos) (tE X.K p (eK (.str x))) := peW pe_str fun _ _ _ h => tE_val h fun _ => rfl
/-- a module's constant -/
theorem c_glob {x : Str} {v : V} {u : Value} {d : D} (hg : Gl X x) (hm : X.mg x = some u) (r : RelV v u) (hd : ∀ B, Dat X.K B d v) (hb : (x == ("__debug__" : Str)) = false := by decide) : PE X (.Name x pos) (tE X.K p (eK d)) :=
  peW (pe_glob hg hm r hb) fun _ _ _ h => tE_val h hd
theorem c_v (i : Nat) {x : Str} (hN : X.N[i]? = some x := by rfl) (hv : Vis X.env.scope x := by first | exact Or.inl rfl | exact Or.inr (Or.inl rfl) | exact Or.inr (Or.inr rfl)) (hd : (x == ("__debug__" : Str)) = false := by decide)
    (hcd : (x == ("__classdict__" : Str)) = false := by decide) : PE X (.Name x pos) (tE X.K p (eV i)) := peW (pe_var hN hv hd hcd) fun σ H Q h => by
  obtain ⟨B, ρ, F, S, a, ρ', e, k⟩ := h
  unfold eV at e
  cases q : ρ.t i with
  | none => rw [q] at e; cases e
  | some t =>
    rw [q] at e
    obtain ⟨v, h1, h2⟩ := S.sl i t (Env.t_some q)
    refine ⟨v, h1, ?_⟩
    cases t with
    | fz d =>
      cases e
      exact k v B H F Ext.refl S h2 fun _ => ⟨rfl, rfl, Ex.refl _⟩
    | nd kk ts =>
      cases e
      exact k v B H F Ext.refl S h1 fun _ => ⟨rfl, rfl, Ex.refl _⟩

/-! ### operators -/
/-- the first operand must outlast the second -/
def guard (q : Bool) (a : Arg) : Bool := !q && a.deep
theorem guard_keep {q : Bool} {a : Arg} {ρ ρ' : Env} {F F' : Nat → Addr → Prop} {H H' : Hp} (g : guard q a = false) (h : q = true → ρ' = ρ ∧ F' = F ∧ Ex H H') : a.deep = true → ρ' = ρ ∧ Ex H H' := fun z => by
  cases q with
  | true => exact ⟨(h rfl).1, (h rfl).2.2⟩
  | false => rw [show guard false a = a.deep from rfl, z] at g; cases g
def eB (q : Bool) (f : D → D → Option D) (a b : M) : M := fun ρ => (a ρ).bind fun x => (b x.2).bind fun y => if guard q x.1 = true then none else (deref y.2 x.1).bind fun u => (deref y.2 y.1).bind fun w => (f u w).bind fun r => some (.vl r, y.2)
/-- two values by a rule, as data -/
def OpD (K : PySem.W.Frag) (r : R2) (f : D → D → Option D) : Prop := ∀ (B H : Hp) (x y : V) (d e g : D) (Q : VK), Ex B H → Sh K B H d x → Sh K B H e y → f d e = some g → (∀ v B' H', New B H B' H' → Dat K B' g v → Q v H') → r x y H Q
theorem and_both {p q : Bool} (h : (p && q) = true) : p = true ∧ q = true := by cases p <;> cases q <;> first | exact ⟨rfl, rfl⟩ | cases h
theorem tE_bin {K : PySem.W.Frag} {r : R2} {f : D → D → Option D} {ma mb : M} (O : OpD K r f) {σ : L2.St} {H : Hp} {Q : VK} (h : tE K (p && q) (eB q f ma mb) σ H Q) : tE K p ma σ H fun x H1 => tE K q mb σ H1 fun y H2 => r x y H2 Q := by
  obtain ⟨B, ρ, F, S, a, ρ', e, k⟩ := h
  obtain ⟨⟨x, ρ1⟩, ea, e⟩ := ob e
  obtain ⟨⟨y, ρ2⟩, eb, e⟩ := ob e
  obtain ⟨eg, e⟩ := og e
  obtain ⟨u, eu, e⟩ := ob e
  obtain ⟨w, ew, e⟩ := ob e
  obtain ⟨g, ef, e⟩ := ob e
  cases e
  refine ⟨B, ρ, F, S, x, ρ1, ea, fun v1 B1 H1 F1 E1 S1 A1 P1 => ⟨B1, ρ1, F1, S1, y, ρ2, eb, fun v2 B2 H2 F2 E2 S2 A2 P2 => ?_⟩⟩
  have A1' := A1.keep (B' := B2) (ρ' := ρ2) (H' := H2) E2.bb (guard_keep eg P2)
  refine O B2 H2 v1 v2 u w g Q S2.bh (S2.deref A1' eu) (S2.deref A2 ew) ef fun v B3 H3 n dv => ?_
  refine k v B3 H3 F2 ((E1.trans E2).trans n.ext) (S2.new n) dv fun z => ?_
  obtain ⟨z1, z2⟩ := and_both z
  obtain ⟨a1, a2, a3⟩ := P1 z1
  obtain ⟨b1, b2, b3⟩ := P2 z2
  exact ⟨b1.trans a1, b2.trans a2, (a3.trans b3).trans n.hh⟩
theorem c_op {op : Operator} {r : R2} {f : D → D → Option D} {a b : Expr} {ma mb : M} (ho : OpR X (binaryOp op) r) (O : OpD X.K r f) (ha : PE X a (tE X.K p ma)) (hb : PE X b (tE X.K q mb)) : PE X (.BinOp a op b pos) (tE X.K (p && q) (eB q f ma mb)) :=
  peW (pe_op ho ha hb) fun _ _ _ h => tE_bin O h
theorem c_cmp {op : CmpOp} {r : R2} {f : D → D → Option D} {a b : Expr} {ma mb : M} (ho : OpR X (compareOp op) r) (O : OpD X.K r f) (hm : behindInMarks op b = false) (ha : PE X a (tE X.K p ma)) (hb : PE X b (tE X.K q mb)) :
    PE X (.Compare a [op] [b] pos) (tE X.K (p && q) (eB q f ma mb)) := peW (pe_cmpR ho ha hb hm) fun _ _ _ h => tE_bin O h
theorem c_ix {r : R2} {f : D → D → Option D} {a b : Expr} {ma mb : M} (ho : IxR X r) (O : OpD X.K r f) (ha : PE X a (tE X.K p ma)) (hb : PE X b (tE X.K q mb)) (hs : PlainIx b) : PE X (.Subscript a b pos) (tE X.K (p && q) (eB q f ma mb)) :=
  peW (pe_ix ho ha hb hs) fun _ _ _ h => tE_bin O h
theorem OpR.or {f : Value → Value → Sem Value} {r r' : R2} (h : OpR X f r) (h' : OpR X f r') : OpR X f (fun x y H Q => r x y H Q ∨ r' x y H Q) := fun pins s σ H x y v u Q I rx ry z => z.elim (fun z => h pins s σ H x y v u Q I rx ry z) fun z => h' pins s σ H x y v u Q I rx ry z
theorem OpD.or {K : PySem.W.Frag} {r r' : R2} {f f' : D → D → Option D} (h : OpD K r f) (h' : OpD K r' f') : OpD K (fun x y H Q => r x y H Q ∨ r' x y H Q) (fun d e => (f d e).or (f' d e)) := fun B H x y d e g Q b sx sy ef k => by
  cases z : f d e with
  | some g' =>
    have ef' : (f d e).or (f' d e) = some g := ef
    rw [z] at ef'
    cases ef'
    exact Or.inl (h B H x y d e g Q b sx sy z k)
  | none =>
    have ef' : (f d e).or (f' d e) = some g := ef
    rw [z] at ef'
    exact Or.inr (h' B H x y d e g Q b sx sy ef' k)
end
end DL

end

section
set_option Elab.async false
set_option linter.all false
set_option maxRecDepth 100000
set_option maxHeartbeats 2000000
namespace DL
open PySem L2

section
variable {K : PySem.W.Frag} {B B' H H' : Hp} {σ : L2.St} {ρ ρ' : Env} {F : Nat → Addr → Prop}
def guards (q : Bool) (as : List Arg) : Bool := !q && as.any Arg.deep
theorem ArgsOk.keep : ∀ {as : List Arg} {vs : List V}, ArgsOk K B H σ ρ as vs → Ex B B' → (as.any Arg.deep = true → ρ' = ρ ∧ Ex H H') → ArgsOk K B' H' σ ρ' as vs
  | [], _, h, _, _ => h
  | a :: as, _, ⟨v, r, h1, h2, h3⟩, b, c => ⟨v, r, h1, h2.keep b (fun z => c (by simp [z])), h3.keep b fun z => c (by simp only [List.any_cons, z, Bool.or_true])⟩
def derefs (ρ : Env) : List Arg → Option (List D)
  | [] => some []
  | a :: as => (deref ρ a).bind fun d => (derefs ρ as).bind fun ds => some (d :: ds)
def ShL (K : PySem.W.Frag) (B H : Hp) : List D → List V → Prop
  | [], vs => vs = []
  | d :: ds, vs => ∃ v r, vs = v :: r ∧ Sh K B H d v ∧ ShL K B H ds r
theorem St.derefs (S : St K B H σ ρ F) : ∀ {as : List Arg} {vs : List V} {ds : List D}, ArgsOk K B H σ ρ as vs → derefs ρ as = some ds → ShL K B H ds vs
  | [], _, _, h, e => by cases (show some [] = some _ from e); exact h
  | a :: as, _, ds, ⟨v, r, h1, h2, h3⟩, e => by
    obtain ⟨d, e1, e⟩ := ob e
    obtain ⟨ds, e2, e⟩ := ob e
    cases e
    exact ⟨v, r, h1, S.deref h2 e1, S.derefs h3 e2⟩
/-- a slot's tree is frozen -/
theorem St.freeze (S : St K B H σ ρ F) {i : Nat} {t : T} (e : ρ[i]? = some (some t)) : ∃ v B', σ[i]? = some (some v) ∧ Ext B H (U F) B' H (U fun j => if j = i then fun _ => False else F j) ∧
    St K B' H σ (ρ.set i (some (.fz t.toD))) (fun j => if j = i then fun _ => False else F j) ∧ Dat K B' t.toD v := by
  obtain ⟨v, h1, h2⟩ := S.sl i t e
  have n : ∀ a, F i a → B a = none := S.nb i
  have hi : i < ρ.length := (List.getElem?_eq_some_iff.mp e).1
  refine ⟨v, frzB B H (F i), h1, ⟨frzB_ex n, fun a o z _ => z, fun a _ u z => ?_, fun a _ u z => ?_⟩, ?_, h2.frozen n⟩
  · rw [frzB_out fun y => u ⟨i, y⟩]; exact z
  · obtain ⟨j, z⟩ := z
    by_cases q : j = i
    · rw [if_pos q] at z; exact z
    · rw [if_neg q] at z; exact u ⟨j, z⟩
  · refine ⟨frzB_le S.bh, fun j u e' => ?_, fun j a z => ?_, fun j a z => ?_, fun j l a ne z => ?_, by rw [List.length_set]; exact S.ln⟩
    · by_cases q : j = i
      · subst q
        rw [List.getElem?_set_self hi] at e'
        cases e'
        exact ⟨v, h1, h2.frozen n⟩
      · rw [List.getElem?_set_ne (Ne.symm q)] at e'
        obtain ⟨w, g1, g2⟩ := S.sl j u e'
        rw [if_neg q]
        exact ⟨w, g1, g2.frame (frzB_ex n) fun _ _ _ z => z⟩
    · by_cases q : j = i
      · rw [if_pos q] at z; exact z.elim
      · rw [if_neg q] at z
        rw [frzB_out (S.dj j i a q z)]
        exact S.nb j a z
    · by_cases q : j = i
      · rw [if_pos q] at z; exact z.elim
      · rw [if_neg q] at z; exact S.al j a z
    · by_cases q : j = i
      · rw [if_pos q] at z; exact z.elim
      · rw [if_neg q] at z
        by_cases q2 : l = i
        · rw [if_pos q2]; exact fun y => y
        · rw [if_neg q2]; exact S.dj j l a ne z
/-- an operand as data for good -/
def frzA (ρ : Env) : Arg → Option (D × Env)
  | .vl d => some (d, ρ)
  | .rf i [] => (ρ.t i).bind fun t => some (t.toD, ρ.set i (some (.fz t.toD)))
  | .rf _ (_ :: _) => none
theorem St.frzA (S : St K B H σ ρ F) {a : Arg} {v : V} {d : D} (h : ArgOk K B H σ ρ a v) (e : frzA ρ a = some (d, ρ')) : ∃ B' F', Ext B H (U F) B' H (U F') ∧ St K B' H σ ρ' F' ∧ Dat K B' d v := by
  match a, h, e with
  | .vl d', h, e =>
    cases (show some (d', ρ) = some (d, ρ') from e)
    exact ⟨B, F, Ext.refl, S, h⟩
  | .rf i [], h, e =>
    have e' : (ρ.t i).bind (fun t => some (t.toD, ρ.set i (some (.fz t.toD)))) = some (d, ρ') := e
    obtain ⟨t, e1, e2⟩ := ob e'
    cases e2
    obtain ⟨w, B', g1, g2, g3, g4⟩ := S.freeze (Env.t_some e1)
    rw [show σ[i]? = some (some v) from h] at g1
    cases g1
    exact ⟨B', _, g2, g3, g4⟩
  | .rf _ (_ :: _), _, e => cases (show none = some (d, ρ') from e)
def frzL (ρ : Env) : List Arg → Option (List D × Env)
  | [] => some ([], ρ)
  | a :: as => (frzA ρ a).bind fun x => (frzL x.2 as).bind fun y => some (x.1 :: y.1, y.2)
theorem frzA_nodeep {a : Arg} {x : D × Env} (e : frzA ρ a = some x) : a.deep = false := by
  match a, e with
  | .vl _, _ => rfl
  | .rf _ [], _ => rfl
  | .rf _ (_ :: _), e => cases (show none = some x from e)
theorem frzL_nodeep : ∀ {as : List Arg} {ρ : Env} {x : List D × Env}, frzL ρ as = some x → as.any Arg.deep = false
  | [], _, _, _ => rfl
  | a :: as, ρ, x, e => by
    obtain ⟨y, e1, e⟩ := ob e
    obtain ⟨z, e2, e⟩ := ob e
    rw [List.any_cons, frzA_nodeep e1, frzL_nodeep e2]
    rfl
theorem frzL_sound : ∀ {as : List Arg} {vs : List V} {ds : List D} {B H : Hp} {ρ ρ' : Env} {F : Nat → Addr → Prop}, St K B H σ ρ F → ArgsOk K B H σ ρ as vs → frzL ρ as = some (ds, ρ') → ∃ B' F', Ext B H (U F) B' H (U F') ∧ St K B' H σ ρ' F' ∧ DatL K B' ds vs
  | [], _, _, B, H, ρ, _, F, S, h, e => by
    cases (show some ([], ρ) = some _ from e)
    exact ⟨B, F, Ext.refl, S, h⟩
  | a :: as, _, _, B, H, ρ, _, F, S, ⟨v, r, h1, h2, h3⟩, e => by
    obtain ⟨⟨d, ρ1⟩, e1, e⟩ := ob e
    obtain ⟨⟨ds, ρ2⟩, e2, e⟩ := ob e
    cases e
    obtain ⟨B1, F1, E1, S1, d1⟩ := S.frzA h2 e1
    obtain ⟨B2, F2, E2, S2, d2⟩ := frzL_sound S1 (h3.keep E1.bb (ρ' := ρ1) (H' := H) fun z => by rw [frzL_nodeep e2] at z; cases z) e2
    exact ⟨B2, F2, E1.trans E2, S2, v, r, h1, d1.mono E2.bb, d2⟩
end

section
variable {X : Cx} {p q : Bool} {pos : Pos}
/-! ### arguments -/
def mNil : MA := fun ρ => some ([], ρ)
def mCons (q : Bool) (a : M) (as : MA) : MA := fun ρ => (a ρ).bind fun x => (as x.2).bind fun y => if guard q x.1 = true then none else some (x.1 :: y.1, y.2)
theorem a_nil : PA X [] (tA X.K p mNil) := paW pa_nil fun σ H Q h => by
  obtain ⟨B, ρ, F, S, as, ρ', e, k⟩ := h
  cases (show some ([], ρ) = some (as, ρ') from e)
  exact k [] B H F Ext.refl S rfl fun _ => ⟨rfl, rfl, Ex.refl _⟩
theorem a_cons {e : Expr} {es : List Expr} {ma : M} {ms : MA} (ha : PE X e (tE X.K p ma)) (hs : PA X es (tA X.K q ms)) (h : starEach (e :: es) X.env = (false, eval e X.env) :: starEach es X.env := by rfl) :
    PA X (e :: es) (tA X.K (p && q) (mCons q ma ms)) := paW (pa_cons ha hs h) fun σ H Q h => by
  obtain ⟨B, ρ, F, S, as, ρ', e, k⟩ := h
  obtain ⟨⟨x, ρ1⟩, ea, e⟩ := ob e
  obtain ⟨⟨ys, ρ2⟩, eb, e⟩ := ob e
  obtain ⟨eg, e⟩ := og e
  cases e
  refine ⟨B, ρ, F, S, x, ρ1, ea, fun v1 B1 H1 F1 E1 S1 A1 P1 => ⟨B1, ρ1, F1, S1, ys, ρ2, eb, fun vs B2 H2 F2 E2 S2 A2 P2 => ?_⟩⟩
  refine k (v1 :: vs) B2 H2 F2 (E1.trans E2) S2 ⟨v1, vs, rfl, A1.keep E2.bb (guard_keep eg P2), A2⟩ fun z => ?_
  obtain ⟨z1, z2⟩ := and_both z
  obtain ⟨a1, a2, a3⟩ := P1 z1
  obtain ⟨b1, b2, b3⟩ := P2 z2
  exact ⟨b1.trans a1, b2.trans a2, a3.trans b3⟩
/-! ### a builtin called -/
def eCB (f : List D → Option D) (as : MA) : M := fun ρ => (as ρ).bind fun y => (derefs y.2 y.1).bind fun ds => (f ds).bind fun r => some (.vl r, y.2)
def OpA (K : PySem.W.Frag) (r : List V → Hp → VK → Prop) (f : List D → Option D) : Prop := ∀ (B H : Hp) (vs : List V) (ds : List D) (g : D) (Q : VK), Ex B H → ShL K B H ds vs → f ds = some g → (∀ v B' H', New B H B' H' → Dat K B' g v → Q v H') → r vs H Q
theorem tE_cb {K : PySem.W.Frag} {r : List V → Hp → VK → Prop} {f : List D → Option D} {ms : MA} (O : OpA K r f) {σ : L2.St} {H : Hp} {Q : VK} (h : tE K p (eCB f ms) σ H Q) : tA K p ms σ H fun vs H1 => r vs H1 Q := by
  obtain ⟨B, ρ, F, S, a, ρ', e, k⟩ := h
  obtain ⟨⟨ys, ρ1⟩, ea, e⟩ := ob e
  obtain ⟨ds, ed, e⟩ := ob e
  obtain ⟨g, ef, e⟩ := ob e
  cases e
  refine ⟨B, ρ, F, S, ys, ρ1, ea, fun vs B1 H1 F1 E1 S1 A1 P1 => ?_⟩
  refine O B1 H1 vs ds g Q S1.bh (S1.derefs A1 ed) ef fun v B2 H2 n dv => ?_
  refine k v B2 H2 F1 (E1.trans n.ext) (S1.new n) dv fun z => ?_
  obtain ⟨a1, a2, a3⟩ := P1 z
  exact ⟨a1, a2, a3.trans n.hh⟩
theorem c_cb {id : String} {x : Str} {po : Pos} {e : Expr} {es : List Expr} {r : List V → Hp → VK → Prop} {f : List D → Option D} {ms : MA} (hc : CallR X (.builtin id) r) (O : OpA X.K r f) (hm : X.mg x = none) (hv : bootBuiltins x = some (.builtin id)) (ha : PA X (e :: es) (tA X.K p ms)) (hg : Gl X x := by rfl)
    (hn : x ≠ "__name__" := by decide) (hdb : (x == ("__debug__" : Str)) = false := by decide)
    (he : starEach (e :: es) X.env = (false, eval e X.env) :: starEach es X.env := by rfl) (hpl : (backTo pos (starEach es X.env)).any (·.1) = false := by rfl) : PE X (.Call (.Name x po) (e :: es) [] pos) (tE X.K p (eCB f ms)) :=
  peW (pe_callB hc hg hm hv ha hn hdb he hpl) fun _ _ _ h => tE_cb O h
theorem c_ct {T : String} {x : Str} {po : Pos} {e : Expr} {es : List Expr} {r : List V → Hp → VK → Prop} {f : List D → Option D} {ms : MA} (hc : CallR X (.type T) r) (O : OpA X.K r f) (hm : X.mg x = none) (hv : bootBuiltins x = some (.type T)) (ha : PA X (e :: es) (tA X.K p ms)) (hg : Gl X x := by rfl)
    (hn : x ≠ "__name__" := by decide) (hdb : (x == ("__debug__" : Str)) = false := by decide)
    (he : starEach (e :: es) X.env = (false, eval e X.env) :: starEach es X.env := by rfl) (hpl : (backTo pos (starEach es X.env)).any (·.1) = false := by rfl) : PE X (.Call (.Name x po) (e :: es) [] pos) (tE X.K p (eCB f ms)) :=
  peW (pe_callTy hc hg hm hv ha hn hdb he hpl) fun _ _ _ h => tE_cb O h
/-! ### ours and frozen -/
abbrev MO := Env → Option (T × Env)
def eO (m : MO) : M := fun ρ => (m ρ).bind fun x => some (.vl x.1.toD, x.2)
/-- an expression whose value is ours, its value frozen -/
theorem e_of_o {e : Expr} {m : MO} (h : PE X e (tO X.K m)) : PE X e (tE X.K false (eO m)) := peW h fun σ H Q h => by
  obtain ⟨B, ρ, F, S, a, ρ', e, k⟩ := h
  obtain ⟨⟨t, ρ1⟩, ea, e⟩ := ob e
  cases e
  refine ⟨B, ρ, F, S, t, ρ1, ea, fun v B1 H1 F1 G E1 S1 O1 => ?_⟩
  refine k v (frzB B1 H1 G) H1 F1 ⟨E1.bb.trans (frzB_ex O1.nb), E1.fr, fun a h n z => ?_, fun a h n z => E1.nf a h n (Or.inl z)⟩ ⟨frzB_le S1.bh, fun i t e => ?_, fun i a z => ?_, S1.al, S1.dj, S1.ln⟩ (O1.own.frozen O1.nb) fun z => nomatch z
  · rw [frzB_out fun y => E1.nf a h n (Or.inr y)]
    exact E1.nb a h n z
  · obtain ⟨w, g1, g2⟩ := S1.sl i t e
    exact ⟨w, g1, g2.frame (frzB_ex O1.nb) fun _ _ _ z => z⟩
  · rw [frzB_out fun y => O1.dj i a y z]
    exact S1.nb i a z
def oE (m : M) : MO := fun ρ => (m ρ).bind fun x => (frzA x.2 x.1).bind fun y => some (.fz y.1, y.2)
theorem o_of_e {e : Expr} {m : M} (h : PE X e (tE X.K p m)) : PE X e (tO X.K (oE m)) := peW h fun σ H Q h => by
  obtain ⟨B, ρ, F, S, t, ρ', e, k⟩ := h
  obtain ⟨⟨a, ρ1⟩, ea, e⟩ := ob e
  obtain ⟨⟨d, ρ2⟩, ed, e⟩ := ob e
  cases e
  refine ⟨B, ρ, F, S, a, ρ1, ea, fun v B1 H1 F1 E1 S1 A1 P1 => ?_⟩
  obtain ⟨B2, F2, E2, S2, d2⟩ := S1.frzA A1 ed
  exact k v B2 H1 F2 (fun _ => False) ((E1.trans E2).less fun x z => z.elim (fun y => y) fun y => y.elim) S2 ⟨d2, fun _ z => z.elim, fun _ z => z.elim, fun _ _ z => z.elim⟩
/-- a slot's tree is given away -/
def oV (i : Nat) : MO := fun ρ => (ρ.t i).bind fun t => some (t, ρ.set i none)
theorem o_v (i : Nat) {x : Str} (hN : X.N[i]? = some x := by rfl) (hv : Vis X.env.scope x := by first | exact Or.inl rfl | exact Or.inr (Or.inl rfl) | exact Or.inr (Or.inr rfl)) (hd : (x == ("__debug__" : Str)) = false := by decide)
    (hcd : (x == ("__classdict__" : Str)) = false := by decide) : PE X (.Name x pos) (tO X.K (oV i)) := peW (pe_var hN hv hd hcd) fun σ H Q h => by
  obtain ⟨B, ρ, F, S, t, ρ', e, k⟩ := h
  obtain ⟨t', e1, e⟩ := ob e
  cases e
  obtain ⟨v, h1, h2⟩ := S.sl i t (Env.t_some e1)
  have hi : i < ρ.length := (List.getElem?_eq_some_iff.mp (Env.t_some e1)).1
  refine ⟨v, h1, k v B H (fun j => if j = i then fun _ => False else F j) (F i) ⟨Ex.refl _, fun a o z _ => z, fun a _ _ z => z, fun a _ n z => ?_⟩ ⟨S.bh, fun j u e => ?_, fun j a z => ?_, fun j a z => ?_, fun j l a ne z => ?_, by rw [List.length_set]; exact S.ln⟩ ⟨h2, S.nb i, S.al i, fun j a z => ?_⟩⟩
  · rcases z with ⟨j, z⟩ | z
    · by_cases q : j = i
      · rw [if_pos q] at z; exact z
      · rw [if_neg q] at z; exact n ⟨j, z⟩
    · exact n ⟨i, z⟩
  · by_cases q : j = i
    · subst q
      rw [List.getElem?_set_self hi] at e
      cases e
    · rw [List.getElem?_set_ne (Ne.symm q)] at e
      rw [if_neg q]
      exact S.sl j u e
  · by_cases q : j = i
    · rw [if_pos q] at z; exact z.elim
    · rw [if_neg q] at z; exact S.nb j a z
  · by_cases q : j = i
    · rw [if_pos q] at z; exact z.elim
    · rw [if_neg q] at z; exact S.al j a z
  · by_cases q : j = i
    · rw [if_pos q] at z; exact z.elim
    · rw [if_neg q] at z
      by_cases q2 : l = i
      · rw [if_pos q2]; exact fun y => y
      · rw [if_neg q2]; exact S.dj j l a ne z
  · by_cases q : j = i
    · rw [if_pos q]; exact fun y => y
    · rw [if_neg q]; exact S.dj i j a (Ne.symm q) z
/-! ### displays -/
theorem new_own {K : PySem.W.Frag} {B H : Hp} {σ : L2.St} {ρ : Env} {F : Nat → Addr → Prop} (S : St K B H σ ρ F) {pp : Addr} {o : HO} (h : H pp = none) : Ext B H (U F) B (upd H pp o) (fun a => U F a ∨ a = pp) ∧ St K B (upd H pp o) σ ρ F ∧
    (∀ a, a = pp → B a = none) ∧ (∀ a, a = pp → upd H pp o a ≠ none) ∧ (∀ i a, a = pp → ¬ F i a) := by
  have bp : B pp = none := by
    cases q : B pp with
    | none => rfl
    | some u => rw [S.bh pp u q] at h; cases h
  have fp : ∀ i, ¬ F i pp := fun i z => S.al i pp z h
  refine ⟨⟨Ex.refl _, fun a o e _ => Ex.new h a o e, fun a _ _ z => z, fun a n u z => ?_⟩, ⟨S.bh.trans (Ex.new h), fun i t e => ?_, S.nb, fun i a z => ?_, S.dj, S.ln⟩, (fun a e => by rw [e]; exact bp), (fun a e => by rw [e, upd_same]; exact fun z => nomatch z), fun i a e => by rw [e]; exact fp i⟩
  · rcases z with z | z
    · exact u z
    · rw [z] at n; exact n h
  · obtain ⟨v, h1, h2⟩ := S.sl i t e
    exact ⟨v, h1, h2.frame (Ex.refl _) fun a o _ q => Ex.new h a o q⟩
  · cases q : H a with
    | none => exact absurd q (S.al i a z)
    | some u => rw [Ex.new h a u q]; exact fun z => nomatch z
def small (ds : List D) : Bool := decide (ds.length ≤ 100000)
theorem small_le {ds : List D} (h : small ds = true) : ds.length ≤ sizeLine := Nat.le_trans (of_decide_eq_true h) (by decide)
def oLst (as : MA) : MO := fun ρ => (as ρ).bind fun y => (frzL y.2 y.1).bind fun z => if (!small z.1) = true then none else some (.nd .lst (z.1.map .fz), z.2)
theorem o_lst {es : List Expr} {ms : MA} (h : PA X es (tA X.K p ms)) : PE X (.List es pos) (tO X.K (oLst ms)) := peW (pe_lst h) fun σ H Q h => by
  obtain ⟨B, ρ, F, S, t, ρ', e, k⟩ := h
  obtain ⟨⟨ys, ρ1⟩, ea, e⟩ := ob e
  obtain ⟨⟨ds, ρ2⟩, ed, e⟩ := ob e
  obtain ⟨es, e⟩ := og e
  cases e
  refine ⟨B, ρ, F, S, ys, ρ1, ea, fun vs B1 H1 F1 E1 S1 A1 P1 => ?_⟩
  obtain ⟨B2, F2, E2, S2, d2⟩ := frzL_sound S1 A1 ed
  refine ⟨by rw [← d2.len]; exact small_le (by simpa using es), fun pp hp => ?_⟩
  obtain ⟨n1, n2, n3, n4, n5⟩ := new_own S2 (o := .lst vs) hp
  exact k _ B2 _ F2 (fun a => a = pp) ((E1.trans E2).trans n1) n2 ⟨⟨pp, vs, rfl, rfl, upd_same, OwnL.of_dat d2⟩, n3, n4, n5⟩
def eTup (as : MA) : M := fun ρ => (as ρ).bind fun y => (frzL y.2 y.1).bind fun z => if (!small z.1) = true then none else some (.vl (.nd .tup z.1), z.2)
theorem c_tup {x1} {es : List Expr} {ms : MA} (h : PA X es (tA X.K p ms)) : PE X (.Tuple es x1 pos) (tE X.K false (eTup ms)) := peW (pe_tup h) fun σ H Q h => by
  obtain ⟨B, ρ, F, S, t, ρ', e, k⟩ := h
  obtain ⟨⟨ys, ρ1⟩, ea, e⟩ := ob e
  obtain ⟨⟨ds, ρ2⟩, ed, e⟩ := ob e
  obtain ⟨es, e⟩ := og e
  cases e
  refine ⟨B, ρ, F, S, ys, ρ1, ea, fun vs B1 H1 F1 E1 S1 A1 P1 => ?_⟩
  obtain ⟨B2, F2, E2, S2, d2⟩ := frzL_sound S1 A1 ed
  refine ⟨by rw [← d2.len]; exact small_le (by simpa using es), fun pp hp => ?_⟩
  have n := New.lay (o := .tup vs) S2.bh hp
  exact k _ _ _ F2 ((E1.trans E2).trans n.ext) (S2.new n) ⟨pp, vs, rfl, SqT.of upd_same, d2.mono n.bb⟩ fun z => nomatch z
/-- an empty dict -/
def oDic0 : MO := fun ρ => some (.nd (.dic []) [], ρ)
theorem o_dic0 : PE X (.Dict [] [] pos) (tO X.K oDic0) := peW pe_dnewK fun σ H Q h => by
  obtain ⟨B, ρ, F, S, t, ρ', e, k⟩ := h
  cases (show some (T.nd (.dic []) [], ρ) = some (t, ρ') from e)
  intro pp hp
  obtain ⟨n1, n2, n3, n4, n5⟩ := new_own S (o := .dK []) hp
  exact k _ B _ F (fun a => a = pp) n1 n2 ⟨⟨pp, [], rfl, rfl, ⟨rfl, upd_same⟩, rfl⟩, n3, n4, n5⟩
end
end DL

end

section
set_option Elab.async false
set_option linter.all false
set_option maxRecDepth 100000
set_option maxHeartbeats 2000000
namespace DL
open PySem L2

section
variable {X : Cx} {p q : Bool} {pos : Pos}
/-! ### tests -/
def truD : D → Option Bool
  | .non => some false
  | .bl b => some b
  | .int i => some (i != 0)
  | .str s => if s.length ≤ 100000 then some ((s.length : Int) != 0) else none
  | .nd .tup ds => some (!ds.isEmpty)
  | .nd .lst ds => some (!ds.isEmpty)
  | .nd .ll ds => some (!ds.isEmpty)
  | .nd (.dic _) _ => none
def tM (m : M) : MT := fun ρ => (m ρ).bind fun x => (deref x.2 x.1).bind fun d => (truD d).bind fun b => some (b, x.2)
theorem isEmpty_len {α β : Type} {a : List α} {b : List β} (h : a.length = b.length) : a.isEmpty = b.isEmpty := by
  cases a <;> cases b <;> first | rfl | cases h
theorem tru_sh {K : PySem.W.Frag} {B H : Hp} (b : Ex B H) {d : D} {v : V} {k : Bool} (h : Sh K B H d v) (e : truD d = some k) : TruV K v H k := by
  cases d with
  | non => cases (show v = .non from h); cases (show some false = some k from e); rfl
  | bl x => cases (show v = .bl x from h); cases (show some x = some k from e); rfl
  | int i => cases (show v = .int i from h); cases (show some _ = some k from e); rfl
  | str s =>
    cases (show v = .str s from h)
    have e' : (if s.length ≤ 100000 then some ((s.length : Int) != 0) else none) = some k := e
    by_cases z : s.length ≤ 100000
    · rw [if_pos z] at e'
      cases e'
      exact ⟨Nat.le_trans z (by decide), rfl⟩
    · rw [if_neg z] at e'; cases e'
  | nd kk ds =>
    obtain ⟨a, vs, rfl, h2, h3⟩ := h.nd b
    have el := isEmpty_len h3.len
    cases kk with
    | tup => cases (show some _ = some k from e); exact Or.inr (Or.inl ⟨vs, h2, by rw [el]⟩)
    | lst => cases (show some _ = some k from e); exact Or.inl ⟨vs, SqL.of h2, by rw [el]⟩
    | ll => cases (show some _ = some k from e); exact Or.inl ⟨vs, h2, by rw [el]⟩
    | dic ks => cases (show none = some k from e)
theorem t_e {e : Expr} {m : M} (h : PE X e (tE X.K p m)) (he : ∀ whole, isTrue e X.env whole = (do let v ← whole; standAt e.pos; holding [v] (truthy v)) := by intro _; rfl) : PT X e (tT X.K p (tM m)) :=
  ptW (pt_truth h he) fun σ H Q h => by
    obtain ⟨B, ρ, F, S, b, ρ', e, k⟩ := h
    obtain ⟨⟨a, ρ1⟩, ea, e⟩ := ob e
    obtain ⟨d, ed, e⟩ := ob e
    obtain ⟨b', eb, e⟩ := ob e
    cases e
    exact ⟨B, ρ, F, S, a, ρ1, ea, fun v B1 H1 F1 E1 S1 A1 P1 => ⟨b, tru_sh S1.bh (S1.deref A1 ed) eb, k B1 H1 F1 E1 S1 P1⟩⟩
/-- a comparison as a test: its value is a bool -/
def tB (q : Bool) (f : D → D → Option D) (a b : M) : MT := fun ρ => (eB q f a b ρ).bind fun x => match x.1 with
  | .vl (.bl k) => some (k, x.2)
  | _ => none
theorem t_cmp {op : CmpOp} {r : R2} {f : D → D → Option D} {a b : Expr} {ma mb : M} (ho : OpR X (compareOp op) r) (O : OpD X.K r f) (hm : behindInMarks op b = false) (ha : PE X a (tE X.K p ma)) (hb : PE X b (tE X.K q mb)) :
    PT X (.Compare a [op] [b] pos) (tT X.K (p && q) (tB q f ma mb)) := ptW (pt_cmpR ho ha hb hm) fun σ H Q h => by
  obtain ⟨B, ρ, F, S, b, ρ', e, k⟩ := h
  obtain ⟨⟨a, ρ1⟩, ea, e⟩ := ob e
  refine tE_bin O ⟨B, ρ, F, S, a, ρ1, ea, fun v B1 H1 F1 E1 S1 A1 P1 => ?_⟩
  match a, e, A1 with
  | .vl (.bl k'), e, A1 =>
    cases (show some (k', ρ1) = some (b, ρ') from e)
    exact ⟨b, A1, k B1 H1 F1 E1 S1 P1⟩
  | .vl .non, e, _ => cases (show none = some _ from e)
  | .vl (.int _), e, _ => cases (show none = some _ from e)
  | .vl (.str _), e, _ => cases (show none = some _ from e)
  | .vl (.nd _ _), e, _ => cases (show none = some _ from e)
  | .rf _ _, e, _ => cases (show none = some _ from e)
/-! and, or, not as tests -/
def tAndM (a b : MT) : MT := fun ρ => (a ρ).bind fun x => if x.1 = true then b x.2 else some (false, x.2)
def tOrM (a b : MT) : MT := fun ρ => (a ρ).bind fun x => if x.1 = true then some (true, x.2) else b x.2
def tNotM (a : MT) : MT := fun ρ => (a ρ).bind fun x => some (!x.1, x.2)
theorem tT_and {K : PySem.W.Frag} {a b : MT} {σ : L2.St} {H : Hp} {Q : Bool → Hp → Prop} (h : tT K (p && q) (tAndM a b) σ H Q) : tAnd (tT K p a) (tT K q b) σ H Q := by
  obtain ⟨B, ρ, F, S, c, ρ', e, k⟩ := h
  obtain ⟨⟨x, ρ1⟩, ea, e⟩ := ob e
  refine ⟨B, ρ, F, S, x, ρ1, ea, fun B1 H1 F1 E1 S1 P1 => ?_⟩
  cases x with
  | true =>
    have e' : b ρ1 = some (c, ρ') := e
    refine iteT ⟨B1, ρ1, F1, S1, c, ρ', e', fun B2 H2 F2 E2 S2 P2 => k B2 H2 F2 (E1.trans E2) S2 fun z => ?_⟩
    obtain ⟨z1, z2⟩ := and_both z
    obtain ⟨a1, a2, a3⟩ := P1 z1
    obtain ⟨b1, b2, b3⟩ := P2 z2
    exact ⟨b1.trans a1, b2.trans a2, a3.trans b3⟩
  | false =>
    cases (show some (false, ρ1) = some (c, ρ') from e)
    exact iteF (k B1 H1 F1 E1 S1 fun z => P1 (and_both z).1)
theorem tT_or {K : PySem.W.Frag} {a b : MT} {σ : L2.St} {H : Hp} {Q : Bool → Hp → Prop} (h : tT K (p && q) (tOrM a b) σ H Q) : tOr (tT K p a) (tT K q b) σ H Q := by
  obtain ⟨B, ρ, F, S, c, ρ', e, k⟩ := h
  obtain ⟨⟨x, ρ1⟩, ea, e⟩ := ob e
  refine ⟨B, ρ, F, S, x, ρ1, ea, fun B1 H1 F1 E1 S1 P1 => ?_⟩
  cases x with
  | false =>
    have e' : b ρ1 = some (c, ρ') := e
    refine iteF ⟨B1, ρ1, F1, S1, c, ρ', e', fun B2 H2 F2 E2 S2 P2 => k B2 H2 F2 (E1.trans E2) S2 fun z => ?_⟩
    obtain ⟨z1, z2⟩ := and_both z
    obtain ⟨a1, a2, a3⟩ := P1 z1
    obtain ⟨b1, b2, b3⟩ := P2 z2
    exact ⟨b1.trans a1, b2.trans a2, a3.trans b3⟩
  | true =>
    cases (show some (true, ρ1) = some (c, ρ') from e)
    exact iteT (k B1 H1 F1 E1 S1 fun z => P1 (and_both z).1)
theorem w_and {a b : Expr} {rest : List Expr} {ma mb : MT} (ha : PT X a (tT X.K p ma)) (hb : PW X (.BoolOp .And (b :: rest) pos) (tT X.K q mb)) : PW X (.BoolOp .And (a :: b :: rest) pos) (tT X.K (p && q) (tAndM ma mb)) := pwW (pw_and ha hb) fun _ _ _ h => tT_and h
theorem w_or {a b : Expr} {rest : List Expr} {ma mb : MT} (ha : PT X a (tT X.K p ma)) (hb : PW X (.BoolOp .Or (b :: rest) pos) (tT X.K q mb)) : PW X (.BoolOp .Or (a :: b :: rest) pos) (tT X.K (p && q) (tOrM ma mb)) := pwW (pw_or ha hb) fun _ _ _ h => tT_or h
theorem t_not {a : Expr} {ma : MT} (ha : PT X a (tT X.K p ma)) : PT X (.UnaryOp .Not a pos) (tT X.K p (tNotM ma)) := ptW (pt_not ha) fun σ H Q h => by
  obtain ⟨B, ρ, F, S, c, ρ', e, k⟩ := h
  obtain ⟨⟨x, ρ1⟩, ea, e⟩ := ob e
  cases e
  exact ⟨B, ρ, F, S, x, ρ1, ea, fun B1 H1 F1 E1 S1 P1 => k B1 H1 F1 E1 S1 P1⟩
/-! and, or, not, if-else as values (the first ones are bools) -/
def eAnd (a b : M) : M := fun ρ => (a ρ).bind fun x => match x.1 with
  | .vl (.bl true) => b x.2
  | .vl (.bl false) => some (.vl (.bl false), x.2)
  | _ => none
def eOr (a b : M) : M := fun ρ => (a ρ).bind fun x => match x.1 with
  | .vl (.bl false) => b x.2
  | .vl (.bl true) => some (.vl (.bl true), x.2)
  | _ => none
def eNot (a : M) : M := fun ρ => (a ρ).bind fun x => match x.1 with
  | .vl (.bl k) => some (.vl (.bl (!k)), x.2)
  | _ => none
def eIf (c : MT) (a b : M) : M := fun ρ => (c ρ).bind fun x => if x.1 = true then a x.2 else b x.2
theorem c_and {a b : Expr} {rest : List Expr} {ma mb : M} (ha : PE X a (tE X.K p ma)) (hb : PE X (.BoolOp .And (b :: rest) pos) (tE X.K q mb)) : PE X (.BoolOp .And (a :: b :: rest) pos) (tE X.K (p && q) (eAnd ma mb)) := peW (pe_and ha hb) fun σ H Q h => by
  obtain ⟨B, ρ, F, S, c, ρ', e, k⟩ := h
  obtain ⟨⟨x, ρ1⟩, ea, e⟩ := ob e
  refine ⟨B, ρ, F, S, x, ρ1, ea, fun v B1 H1 F1 E1 S1 A1 P1 => ?_⟩
  match x, e, A1 with
  | .vl (.bl true), e, A1 =>
    have e' : mb ρ1 = some (c, ρ') := e
    refine ⟨true, A1, iteT ⟨B1, ρ1, F1, S1, c, ρ', e', fun v2 B2 H2 F2 E2 S2 A2 P2 => k v2 B2 H2 F2 (E1.trans E2) S2 A2 fun z => ?_⟩⟩
    obtain ⟨z1, z2⟩ := and_both z
    obtain ⟨a1, a2, a3⟩ := P1 z1
    obtain ⟨b1, b2, b3⟩ := P2 z2
    exact ⟨b1.trans a1, b2.trans a2, a3.trans b3⟩
  | .vl (.bl false), e, A1 =>
    cases (show some (Arg.vl (.bl false), ρ1) = some (c, ρ') from e)
    exact ⟨false, A1, iteF (k _ B1 H1 F1 E1 S1 rfl fun z => P1 (and_both z).1)⟩
  | .vl .non, e, _ => cases (show none = some _ from e)
  | .vl (.int _), e, _ => cases (show none = some _ from e)
  | .vl (.str _), e, _ => cases (show none = some _ from e)
  | .vl (.nd _ _), e, _ => cases (show none = some _ from e)
  | .rf _ _, e, _ => cases (show none = some _ from e)
theorem c_or {a b : Expr} {rest : List Expr} {ma mb : M} (ha : PE X a (tE X.K p ma)) (hb : PE X (.BoolOp .Or (b :: rest) pos) (tE X.K q mb)) : PE X (.BoolOp .Or (a :: b :: rest) pos) (tE X.K (p && q) (eOr ma mb)) := peW (pe_or ha hb) fun σ H Q h => by
  obtain ⟨B, ρ, F, S, c, ρ', e, k⟩ := h
  obtain ⟨⟨x, ρ1⟩, ea, e⟩ := ob e
  refine ⟨B, ρ, F, S, x, ρ1, ea, fun v B1 H1 F1 E1 S1 A1 P1 => ?_⟩
  match x, e, A1 with
  | .vl (.bl false), e, A1 =>
    have e' : mb ρ1 = some (c, ρ') := e
    refine ⟨false, A1, iteF ⟨B1, ρ1, F1, S1, c, ρ', e', fun v2 B2 H2 F2 E2 S2 A2 P2 => k v2 B2 H2 F2 (E1.trans E2) S2 A2 fun z => ?_⟩⟩
    obtain ⟨z1, z2⟩ := and_both z
    obtain ⟨a1, a2, a3⟩ := P1 z1
    obtain ⟨b1, b2, b3⟩ := P2 z2
    exact ⟨b1.trans a1, b2.trans a2, a3.trans b3⟩
  | .vl (.bl true), e, A1 =>
    cases (show some (Arg.vl (.bl true), ρ1) = some (c, ρ') from e)
    exact ⟨true, A1, iteT (k _ B1 H1 F1 E1 S1 rfl fun z => P1 (and_both z).1)⟩
  | .vl .non, e, _ => cases (show none = some _ from e)
  | .vl (.int _), e, _ => cases (show none = some _ from e)
  | .vl (.str _), e, _ => cases (show none = some _ from e)
  | .vl (.nd _ _), e, _ => cases (show none = some _ from e)
  | .rf _ _, e, _ => cases (show none = some _ from e)
theorem c_one {op} {a : Expr} {ma : M} (ha : PE X a (tE X.K p ma)) : PE X (.BoolOp op [a] pos) (tE X.K p ma) := pe_one ha
theorem c_not {a : Expr} {ma : M} (ha : PE X a (tE X.K p ma)) : PE X (.UnaryOp .Not a pos) (tE X.K p (eNot ma)) := peW (pe_not ha) fun σ H Q h => by
  obtain ⟨B, ρ, F, S, c, ρ', e, k⟩ := h
  obtain ⟨⟨x, ρ1⟩, ea, e⟩ := ob e
  refine ⟨B, ρ, F, S, x, ρ1, ea, fun v B1 H1 F1 E1 S1 A1 P1 => ?_⟩
  match x, e, A1 with
  | .vl (.bl b), e, A1 =>
    cases (show some (Arg.vl (.bl (!b)), ρ1) = some (c, ρ') from e)
    exact ⟨b, A1, k _ B1 H1 F1 E1 S1 rfl P1⟩
  | .vl .non, e, _ => cases (show none = some _ from e)
  | .vl (.int _), e, _ => cases (show none = some _ from e)
  | .vl (.str _), e, _ => cases (show none = some _ from e)
  | .vl (.nd _ _), e, _ => cases (show none = some _ from e)
  | .rf _ _, e, _ => cases (show none = some _ from e)
theorem and3 {p q r : Bool} (h : (p && (q && r)) = true) : p = true ∧ q = true ∧ r = true := ⟨(and_both h).1, and_both (and_both h).2⟩
theorem c_if {r : Bool} {c a b : Expr} {mc : MT} {ma mb : M} (hc : PT X c (tT X.K p mc)) (ha : PE X a (tE X.K q ma)) (hb : PE X b (tE X.K r mb)) : PE X (.IfExp c a b pos) (tE X.K (p && (q && r)) (eIf mc ma mb)) := peW (pe_ifExp hc ha hb) fun σ H Q h => by
  obtain ⟨B, ρ, F, S, v, ρ', e, k⟩ := h
  obtain ⟨⟨x, ρ1⟩, ea, e⟩ := ob e
  refine ⟨B, ρ, F, S, x, ρ1, ea, fun B1 H1 F1 E1 S1 P1 => ?_⟩
  cases x with
  | true =>
    have e' : ma ρ1 = some (v, ρ') := e
    refine iteT ⟨B1, ρ1, F1, S1, v, ρ', e', fun v2 B2 H2 F2 E2 S2 A2 P2 => k v2 B2 H2 F2 (E1.trans E2) S2 A2 fun z => ?_⟩
    obtain ⟨z1, z2, z3⟩ := and3 z
    obtain ⟨a1, a2, a3⟩ := P1 z1
    obtain ⟨b1, b2, b3⟩ := P2 z2
    exact ⟨b1.trans a1, b2.trans a2, a3.trans b3⟩
  | false =>
    have e' : mb ρ1 = some (v, ρ') := e
    refine iteF ⟨B1, ρ1, F1, S1, v, ρ', e', fun v2 B2 H2 F2 E2 S2 A2 P2 => k v2 B2 H2 F2 (E1.trans E2) S2 A2 fun z => ?_⟩
    obtain ⟨z1, z2, z3⟩ := and3 z
    obtain ⟨a1, a2, a3⟩ := P1 z1
    obtain ⟨b1, b2, b3⟩ := P2 z3
    exact ⟨b1.trans a1, b2.trans a2, a3.trans b3⟩
/-- a < b < c -/
def eCh (q r : Bool) (f g : D → D → Option D) (a b c : M) : M := fun ρ => (a ρ).bind fun x => (b x.2).bind fun y => if guard q x.1 = true then none else if guard r y.1 = true then none else
  (deref y.2 x.1).bind fun u => (deref y.2 y.1).bind fun w => (f u w).bind fun k => match k with
    | .bl true => (c y.2).bind fun z => (deref z.2 y.1).bind fun w2 => (deref z.2 z.1).bind fun w3 => (g w2 w3).bind fun res => some (.vl res, z.2)
    | .bl false => some (.vl (.bl false), y.2)
    | _ => none
theorem c_ch {r : Bool} {op op' : CmpOp} {r1 r2 : R2} {f g : D → D → Option D} {a b c : Expr} {ma mb mc : M} (ho : OpR X (compareOp op) r1) (O : OpD X.K r1 f) (ho' : OpR X (compareOp op') r2) (O' : OpD X.K r2 g)
    (ha : PE X a (tE X.K p ma)) (hb : PE X b (tE X.K q mb)) (hc : PE X c (tE X.K r mc)) (hm : lastMarks [op, op'] [b, c] = false := by rfl) : PE X (.Compare a [op, op'] [b, c] pos) (tE X.K (p && (q && r)) (eCh q r f g ma mb mc)) := peW (pe_chain ho ho' ha hb hc (hm := hm)) fun σ H Q h => by
  obtain ⟨B, ρ, F, S, v, ρ', e, k⟩ := h
  obtain ⟨⟨x, ρ1⟩, ea, e⟩ := ob e
  obtain ⟨⟨y, ρ2⟩, eb, e⟩ := ob e
  obtain ⟨g1, e⟩ := og e
  obtain ⟨g2, e⟩ := og e
  obtain ⟨u, eu, e⟩ := ob e
  obtain ⟨w, ew, e⟩ := ob e
  obtain ⟨kk, ek, e⟩ := ob e
  refine ⟨B, ρ, F, S, x, ρ1, ea, fun v1 B1 H1 F1 E1 S1 A1 P1 => ⟨B1, ρ1, F1, S1, y, ρ2, eb, fun v2 B2 H2 F2 E2 S2 A2 P2 => ?_⟩⟩
  have A1' := A1.keep (B' := B2) (ρ' := ρ2) (H' := H2) E2.bb (guard_keep g1 P2)
  refine O B2 H2 v1 v2 u w kk _ S2.bh (S2.deref A1' eu) (S2.deref A2 ew) ek fun v3 B3 H3 n3 d3 => ?_
  have S3 := S2.new n3
  have A2' := A2.keep (B' := B3) (ρ' := ρ2) (H' := H3) n3.bb fun _ => ⟨rfl, n3.hh⟩
  match kk, e, d3 with
  | .bl true, e, d3 =>
    obtain ⟨⟨z, ρ3⟩, ez, e⟩ := ob (show (mc ρ2).bind _ = some (v, ρ') from e)
    obtain ⟨w2, e2, e⟩ := ob e
    obtain ⟨w3, e3, e⟩ := ob e
    obtain ⟨res, e4, e⟩ := ob e
    cases e
    refine ⟨true, d3, iteT ⟨B3, ρ2, F2, S3, z, ρ3, ez, fun v4 B4 H4 F4 E4 S4 A4 P4 => ?_⟩⟩
    have A2'' := A2'.keep (B' := B4) (ρ' := ρ3) (H' := H4) E4.bb (guard_keep g2 P4)
    refine O' B4 H4 v2 v4 w2 w3 res _ S4.bh (S4.deref A2'' e2) (S4.deref A4 e3) e4 fun v5 B5 H5 n5 d5 => ?_
    refine k v5 B5 H5 F4 ((((E1.trans E2).trans n3.ext).trans E4).trans n5.ext) (S4.new n5) d5 fun z => ?_
    obtain ⟨z1, z2, z3⟩ := and3 z
    obtain ⟨a1, a2, a3⟩ := P1 z1
    obtain ⟨b1, b2, b3⟩ := P2 z2
    obtain ⟨c1, c2, c3⟩ := P4 z3
    exact ⟨c1.trans (b1.trans a1), c2.trans (b2.trans a2), (((a3.trans b3).trans n3.hh).trans c3).trans n5.hh⟩
  | .bl false, e, d3 =>
    cases (show some (Arg.vl (.bl false), ρ2) = some (v, ρ') from e)
    refine ⟨false, d3, iteF (k _ B3 H3 F2 ((E1.trans E2).trans n3.ext) S3 rfl fun z => ?_)⟩
    obtain ⟨z1, z2, z3⟩ := and3 z
    obtain ⟨a1, a2, a3⟩ := P1 z1
    obtain ⟨b1, b2, b3⟩ := P2 z2
    exact ⟨b1.trans a1, b2.trans a2, (a3.trans b3).trans n3.hh⟩
  | .non, e, _ => cases (show none = some _ from e)
  | .int _, e, _ => cases (show none = some _ from e)
  | .str _, e, _ => cases (show none = some _ from e)
  | .nd _ _, e, _ => cases (show none = some _ from e)
/-! ### slices -/
abbrev MP := Env → Option (Option Int × Env)
def tP (K : PySem.W.Frag) (m : MP) : TO := fun σ H Q => ∃ B ρ F, St K B H σ ρ F ∧ ∃ i ρ', m ρ = some (i, ρ') ∧ ∀ B' H' F', Ext B H (U F) B' H' (U F') → St K B' H' σ ρ' F' → Q i H'
def pN : MP := fun ρ => some (none, ρ)
def pM (m : M) : MP := fun ρ => (m ρ).bind fun x => match x.1 with
  | .vl (.int i) => some (some i, x.2)
  | _ => none
theorem poW {e : Option Expr} {t t' : TO} (h : PO X e t) (f : ∀ σ H Q, t' σ H Q → t σ H Q) : PO X e t' := ⟨fun pins s σ H Q I q => h.run pins s σ H Q I (f _ _ _ q)⟩
theorem o_none : PO X none (tP X.K pN) := poW po_none fun σ H Q h => by
  obtain ⟨B, ρ, F, S, v, ρ', e, k⟩ := h
  cases (show some (none, ρ) = some (v, ρ') from e)
  exact k B H F Ext.refl S
theorem o_some {e : Expr} {m : M} (h : PE X e (tE X.K p m)) : PO X (some e) (tP X.K (pM m)) := poW (po_some h) fun σ H Q h => by
  obtain ⟨B, ρ, F, S, v, ρ', e, k⟩ := h
  obtain ⟨⟨x, ρ1⟩, ea, e⟩ := ob e
  refine ⟨B, ρ, F, S, x, ρ1, ea, fun v1 B1 H1 F1 E1 S1 A1 P1 => ?_⟩
  match x, e, A1 with
  | .vl (.int i), e, A1 =>
    cases (show some (some i, ρ1) = some (v, ρ') from e)
    exact ⟨i, A1, k B1 H1 F1 E1 S1⟩
  | .vl .non, e, _ => cases (show none = some _ from e)
  | .vl (.bl _), e, _ => cases (show none = some _ from e)
  | .vl (.str _), e, _ => cases (show none = some _ from e)
  | .vl (.nd _ _), e, _ => cases (show none = some _ from e)
  | .rf _ _, e, _ => cases (show none = some _ from e)
def eSl (f : D → Option Int → Option Int → Option D) (a : M) (lo hi : MP) : M := fun ρ => (a ρ).bind fun x => if x.1.deep = true then none else (lo x.2).bind fun l => (hi l.2).bind fun u => (deref u.2 x.1).bind fun d => (f d l.1 u.1).bind fun r => some (.vl r, u.2)
def OpS (K : PySem.W.Frag) (r : V → Option Int → Option Int → Hp → VK → Prop) (f : D → Option Int → Option Int → Option D) : Prop := ∀ (B H : Hp) (x : V) (d g : D) (lo hi : Option Int) (Q : VK), Ex B H → Sh K B H d x → f d lo hi = some g → (∀ v B' H', New B H B' H' → Dat K B' g v → Q v H') → r x lo hi H Q
theorem c_sl {r : V → Option Int → Option Int → Hp → VK → Prop} {f : D → Option Int → Option Int → Option D} {e : Expr} {lo hi : Option Expr} {p2 : Pos} {m : M} {ml mh : MP} (hr : SlR X r) (O : OpS X.K r f) (he : PE X e (tE X.K p m)) (hl : PO X lo (tP X.K ml)) (hu : PO X hi (tP X.K mh)) :
    PE X (.Subscript e (.Slice lo hi none p2) pos) (tE X.K false (eSl f m ml mh)) := peW (pe_slice hr he hl hu) fun σ H Q h => by
  obtain ⟨B, ρ, F, S, v, ρ', e, k⟩ := h
  obtain ⟨⟨x, ρ1⟩, ea, e⟩ := ob e
  obtain ⟨g1, e⟩ := og e
  obtain ⟨⟨l, ρ2⟩, el, e⟩ := ob e
  obtain ⟨⟨u, ρ3⟩, eu, e⟩ := ob e
  obtain ⟨d, ed, e⟩ := ob e
  obtain ⟨g, ef, e⟩ := ob e
  cases e
  refine ⟨B, ρ, F, S, x, ρ1, ea, fun v1 B1 H1 F1 E1 S1 A1 P1 => ⟨B1, ρ1, F1, S1, l, ρ2, el, fun B2 H2 F2 E2 S2 => ⟨B2, ρ2, F2, S2, u, ρ3, eu, fun B3 H3 F3 E3 S3 => ?_⟩⟩⟩
  have A3 := A1.keep (B' := B3) (ρ' := ρ3) (H' := H3) (E2.bb.trans E3.bb) fun z => by rw [show x.deep = false from g1] at z; cases z
  refine O B3 H3 v1 d g l u Q S3.bh (S3.deref A3 ed) ef fun w B4 H4 n dv => ?_
  exact k w B4 H4 F3 (((E1.trans E2).trans E3).trans n.ext) (S3.new n) dv fun z => nomatch z
end
end DL

end

section
set_option Elab.async false
set_option linter.all false
set_option maxRecDepth 100000
set_option maxHeartbeats 2000000
namespace DL
open PySem L2

/-! ### targets -/
abbrev MG := D → Env → Option Env
abbrev MGs := List D → Env → Option Env
def tG (K : PySem.W.Frag) (js : List Nat) (g : MG) : TG := fun v σ H Q => ∃ B ρ F d, St K B H σ ρ F ∧ Dat K B d v ∧ ∃ ρ', g d ρ = some ρ' ∧ ∀ σ' F', (∀ a, U F' a → U F a) → St K B H σ' ρ' F' → ((∀ j, j ∉ js → σ'[j]? = σ[j]?) ∧ σ'.length = σ.length) → Q σ' H
def tGs (K : PySem.W.Frag) (js : List Nat) (g : MGs) : TGs := fun vs σ H Q => ∃ B ρ F ds, St K B H σ ρ F ∧ DatL K B ds vs ∧ ∃ ρ', g ds ρ = some ρ' ∧ ∀ σ' F', (∀ a, U F' a → U F a) → St K B H σ' ρ' F' → ((∀ j, j ∉ js → σ'[j]? = σ[j]?) ∧ σ'.length = σ.length) → Q σ' H
theorem pgW {X : Cx} {e : Expr} {t t' : TG} (h : PG X e t) (f : ∀ v σ H Q, t' v σ H Q → t v σ H Q) : PG X e t' := ⟨fun pins s σ H v u Q I r q => h.run pins s σ H v u Q I r (f _ _ _ _ q)⟩
theorem pgsW {X : Cx} {e : List Expr} {t t' : TGs} (h : PGs X e t) (f : ∀ v σ H Q, t' v σ H Q → t v σ H Q) : PGs X e t' := ⟨fun pins s σ H v u Q I r q => h.run pins s σ H v u Q I r (f _ _ _ _ q)⟩
def put (i : Nat) (t : T) (ρ : Env) : Option Env := if i < ρ.length then some (ρ.set i (some t)) else none
def gNm (i : Nat) : MG := fun d ρ => put i (.fz d) ρ
def gsN : MGs := fun ds ρ => match ds with
  | [] => some ρ
  | _ => none
def gsC (g : MG) (gs : MGs) : MGs := fun ds ρ => match ds with
  | d :: ds => (g d ρ).bind (gs ds)
  | [] => none
def gTp (n : Nat) (gs : MGs) : MG := fun d ρ => match d with
  | .nd .tup ds => if ds.length = n then gs ds ρ else none
  | _ => none
section
variable {X : Cx} {p q : Bool} {pos : Pos} {js ks : List Nat}
theorem put_sound {K : PySem.W.Frag} {B H : Hp} {σ : L2.St} {ρ ρ' : Env} {F : Nat → Addr → Prop} (S : St K B H σ ρ F) {i : Nat} {d : D} {v : V} (h : Dat K B d v) (e : put i (.fz d) ρ = some ρ') :
    ∃ F', (∀ a, U F' a → U F a) ∧ St K B H (σ.set i (some v)) ρ' F' := by
  unfold put at e
  by_cases z : i < ρ.length
  · rw [if_pos z] at e
    cases e
    refine ⟨_, fun a u => ?_, S.put (t := .fz d) (G := fun _ => False) h (fun _ z => z.elim) (fun _ z => z.elim) (fun _ _ _ z => z.elim) z⟩
    obtain ⟨j, u⟩ := u
    by_cases q : j = i
    · rw [if_pos q] at u; exact u.elim
    · rw [if_neg q] at u; exact ⟨j, u⟩
  · rw [if_neg z] at e; cases e
theorem g_nm {i : Nat} {x : Str} (hN : X.N.Nodup) (hi : X.N[i]? = some x := by rfl) (hx : Loc X.env.scope x := by first | exact Or.inl rfl | exact Or.inr rfl) (hf : X.fn x = true ∨ X.env.scope.names.lookup x = some .local := by first | exact .inl rfl | exact .inr rfl | assumption) :
    PG X (.Name x pos) (tG X.K [i] (gNm i)) := pgW (pg_name hN hi hx hf) fun v σ H Q h => by
  obtain ⟨B, ρ, F, d, S, hd, ρ', e, k⟩ := h
  obtain ⟨F', h1, h2⟩ := put_sound S hd e
  exact k _ F' h1 h2 ⟨fun j n => List.getElem?_set_ne (fun z => n (by simp [z])), List.length_set⟩
theorem g_nil : PGs X [] (tGs X.K js gsN) := pgsW pgs_nil fun vs σ H Q h => by
  obtain ⟨B, ρ, F, ds, S, hd, ρ', e, k⟩ := h
  cases ds with
  | nil => cases (show some ρ = some ρ' from e); exact ⟨hd, k σ F (fun _ z => z) S ⟨fun _ _ => rfl, rfl⟩⟩
  | cons d ds => cases (show none = some ρ' from e)
theorem g_cons {e : Expr} {es : List Expr} {g : MG} {gs : MGs} (h1 : PG X e (tG X.K js g)) (h2 : PGs X es (tGs X.K ks gs)) (hs : (assignEach (e :: es) X.env).map (·.2) = assign e X.env :: (assignEach es X.env).map (·.2) := by rfl) : PGs X (e :: es) (tGs X.K (js ++ ks) (gsC g gs)) := pgsW (pgs_cons h1 h2 hs) fun vs σ H Q h => by
  obtain ⟨B, ρ, F, ds, S, hd, ρ', e, k⟩ := h
  cases ds with
  | nil => cases (show none = some ρ' from e)
  | cons d ds =>
    obtain ⟨v, r, h1, h2, h3⟩ := hd
    obtain ⟨ρ1, e1, e2⟩ := ob (show (g d ρ).bind (gs ds) = some ρ' from e)
    refine ⟨v, r, h1, B, ρ, F, d, S, h2, ρ1, e1, fun σ1 F1 u1 S1 w1 => ⟨B, ρ1, F1, ds, S1, h3, ρ', e2, fun σ2 F2 u2 S2 w2 => ?_⟩⟩
    exact k σ2 F2 (fun a z => u1 a (u2 a z)) S2 ⟨fun j n => (w2.1 j fun z => n (List.mem_append_right _ z)).trans (w1.1 j fun z => n (List.mem_append_left _ z)), w2.2.trans w1.2⟩
theorem g_tup {es : List Expr} {k : Nat} {gs : MGs} (n : Nat) (hc : X.calm = true) (h : PGs X es (tGs X.K js gs)) (hn : (assignEach es X.env).length = n := by rfl) (hst : (assignEach es X.env).findIdx? (·.1) = none := by rfl) :
    PG X (.Tuple es k pos) (tG X.K js (gTp n gs)) := pgW (pg_tup hc h hn hst) fun v σ H Q h => by
  obtain ⟨B, ρ, F, d, S, hd, ρ', e, k⟩ := h
  match d, hd, e with
  | .nd .tup ds, ⟨a, vs, h1, h2, h3⟩, e =>
    have e' : (if ds.length = n then gs ds ρ else none) = some ρ' := e
    by_cases z : ds.length = n
    · rw [if_pos z] at e'
      exact ⟨a, vs, h1, S.bh.st h2, h3.len.symm.trans z, B, ρ, F, ds, S, h3, ρ', e', k⟩
    · rw [if_neg z] at e'; cases e'
  | .nd .lst _, _, e => cases (show none = some ρ' from e)
  | .nd .ll _, _, e => cases (show none = some ρ' from e)
  | .nd (.dic _) _, _, e => cases (show none = some ρ' from e)
  | .non, _, e => cases (show none = some ρ' from e)
  | .bl _, _, e => cases (show none = some ρ' from e)
  | .int _, _, e => cases (show none = some ρ' from e)
  | .str _, _, e => cases (show none = some ρ' from e)
end

/-! ### statements -/
/-- what is wanted behind a statement that ends so -/
def Post (K : PySem.W.Frag) (io : Nat → Bool) (B H : Hp) (σ : L2.St) (F : Nat → Addr → Prop) (D : Ends) : Fl → Env → Prop
  | .nx, ρ' => ∀ σ' B' H' F', Ext B H (U F) B' H' (U F') → St K B' H' σ' ρ' F' → (∀ j, io j = true → σ'[j]? = σ[j]?) → D.nx σ' H'
  | .bk, ρ' => ∀ σ' B' H' F', Ext B H (U F) B' H' (U F') → St K B' H' σ' ρ' F' → (∀ j, io j = true → σ'[j]? = σ[j]?) → D.bk σ' H'
  | .ct, ρ' => ∀ σ' B' H' F', Ext B H (U F) B' H' (U F') → St K B' H' σ' ρ' F' → (∀ j, io j = true → σ'[j]? = σ[j]?) → D.ct σ' H'
  | .rt t, ρ' => ∀ v σ' B' H' F' G, Ext B H (U F) B' H' (fun a => U F' a ∨ G a) → St K B' H' σ' ρ' F' → OwnX K B' H' F' G t v → (∀ j, io j = true → σ'[j]? = σ[j]?) → D.rt v H'
theorem tS_eq {K : PySem.W.Frag} {io : Nat → Bool} {m : MS} {D : Ends} {σ : L2.St} {H : Hp} : tS K io m D σ H ↔ ∃ B ρ F, St K B H σ ρ F ∧ ∃ fl ρ', m ρ = some (fl, ρ') ∧ Post K io B H σ F D fl ρ' := by
  constructor
  · rintro ⟨B, ρ, F, S, fl, ρ', e, k⟩
    refine ⟨B, ρ, F, S, fl, ρ', e, ?_⟩
    cases fl <;> exact k
  · rintro ⟨B, ρ, F, S, fl, ρ', e, k⟩
    refine ⟨B, ρ, F, S, fl, ρ', e, ?_⟩
    cases fl <;> exact k
/-- the ways out but the next statement, from a later state -/
theorem Post.after {K : PySem.W.Frag} {io : Nat → Bool} {B H B1 H1 : Hp} {σ σ1 : L2.St} {F F1 : Nat → Addr → Prop} {D : Ends} {fl : Fl} {ρ' : Env} (k : Post K io B H σ F D fl ρ') (E1 : Ext B H (U F) B1 H1 (U F1)) (w1 : ∀ j, io j = true → σ1[j]? = σ[j]?) :
    Post K io B1 H1 σ1 F1 D fl ρ' := by
  cases fl with
  | nx => exact fun σ' B' H' F' E S w => k σ' B' H' F' (E1.trans E) S fun j z => (w j z).trans (w1 j z)
  | bk => exact fun σ' B' H' F' E S w => k σ' B' H' F' (E1.trans E) S fun j z => (w j z).trans (w1 j z)
  | ct => exact fun σ' B' H' F' E S w => k σ' B' H' F' (E1.trans E) S fun j z => (w j z).trans (w1 j z)
  | rt t => exact fun v σ' B' H' F' G E S O w => k v σ' B' H' F' G (E1.trans E) S O fun j z => (w j z).trans (w1 j z)
/-- only the next way out is another one -/
theorem Post.ends {K : PySem.W.Frag} {io : Nat → Bool} {B H : Hp} {σ : L2.St} {F : Nat → Addr → Prop} {D D' : Ends} {fl : Fl} {ρ' : Env} (k : Post K io B H σ F D fl ρ') (h1 : fl ≠ .nx) (h2 : D'.rt = D.rt) (h3 : D'.bk = D.bk) (h4 : D'.ct = D.ct) : Post K io B H σ F D' fl ρ' := by
  cases fl with
  | nx => exact absurd rfl h1
  | bk => intro σ' B' H' F' E S w; rw [h3]; exact k σ' B' H' F' E S w
  | ct => intro σ' B' H' F' E S w; rw [h4]; exact k σ' B' H' F' E S w
  | rt t => intro v σ' B' H' F' G E S O w; rw [h2]; exact k v σ' B' H' F' G E S O w
section
variable {X : Cx} {p q : Bool} {pos : Pos} {js ks : List Nat} {io : Nat → Bool}
def sNx : MS := fun ρ => some (.nx, ρ)
def sBk : MS := fun ρ => some (.bk, ρ)
def sCt : MS := fun ρ => some (.ct, ρ)
def sNo : MS := fun _ => none
def sSq (a b : MS) : MS := fun ρ => (a ρ).bind fun x => match x.1 with
  | .nx => b x.2
  | fl => some (fl, x.2)
theorem b_nil : PSs X [] (tS X.K io sNx) := pssW pss_nil fun D σ H h => by
  obtain ⟨B, ρ, F, S, fl, ρ', e, k⟩ := tS_eq.mp h
  cases (show some (Fl.nx, ρ) = some (fl, ρ') from e)
  exact k σ B H F Ext.refl S fun _ _ => rfl
theorem tS_seq {K : PySem.W.Frag} {a b : MS} {D : Ends} {σ : L2.St} {H : Hp} (h : tS K io (sSq a b) D σ H) : tSeq (tS K io a) (tS K io b) D σ H := by
  obtain ⟨B, ρ, F, S, fl, ρ', e, k⟩ := tS_eq.mp h
  obtain ⟨⟨x, ρ1⟩, ea, e⟩ := ob e
  refine tS_eq.mpr ⟨B, ρ, F, S, x, ρ1, ea, ?_⟩
  cases x with
  | nx =>
    have e' : b ρ1 = some (fl, ρ') := e
    exact fun σ1 B1 H1 F1 E1 S1 w1 => tS_eq.mpr ⟨B1, ρ1, F1, S1, fl, ρ', e', k.after E1 w1⟩
  | bk => cases (show some (Fl.bk, ρ1) = some (fl, ρ') from e); exact k.ends (fun z => nomatch z) rfl rfl rfl
  | ct => cases (show some (Fl.ct, ρ1) = some (fl, ρ') from e); exact k.ends (fun z => nomatch z) rfl rfl rfl
  | rt t => cases (show some (Fl.rt t, ρ1) = some (fl, ρ') from e); exact k.ends (fun z => nomatch z) rfl rfl rfl
theorem b_cons {st : Stmt} {rest : List Stmt} {a b : MS} (h1 : PS X st (tS X.K io a)) (h2 : PSs X rest (tS X.K io b)) : PSs X (st :: rest) (tS X.K io (sSq a b)) := pssW (pss_cons h1 h2) fun _ _ _ h => tS_seq h
theorem b_one {st : Stmt} {a : MS} (h1 : PS X st (tS X.K io a)) : PSs X [st] (tS X.K io a) := pss_one h1
theorem s_pass : PS X (.Pass pos) (tS X.K io sNx) := psW ps_pass fun D σ H h => by
  obtain ⟨B, ρ, F, S, fl, ρ', e, k⟩ := tS_eq.mp h
  cases (show some (Fl.nx, ρ) = some (fl, ρ') from e)
  exact k σ B H F Ext.refl S fun _ _ => rfl
theorem s_break : PS X (.Break pos) (tS X.K io sBk) := psW ps_break fun D σ H h => by
  obtain ⟨B, ρ, F, S, fl, ρ', e, k⟩ := tS_eq.mp h
  cases (show some (Fl.bk, ρ) = some (fl, ρ') from e)
  exact k σ B H F Ext.refl S fun _ _ => rfl
theorem s_continue : PS X (.Continue pos) (tS X.K io sCt) := psW ps_continue fun D σ H h => by
  obtain ⟨B, ρ, F, S, fl, ρ', e, k⟩ := tS_eq.mp h
  cases (show some (Fl.ct, ρ) = some (fl, ρ') from e)
  exact k σ B H F Ext.refl S fun _ _ => rfl
theorem s_never {st : Stmt} : PS X st (tS X.K io sNo) := psW ps_never fun D σ H h => by
  obtain ⟨B, ρ, F, S, fl, ρ', e, k⟩ := tS_eq.mp h
  cases (show none = some (fl, ρ') from e)
/-- an expression alone -/
def sEx (m : M) : MS := fun ρ => (m ρ).bind fun x => some (.nx, x.2)
theorem s_expr {e : Expr} {m : M} (he : PE X e (tE X.K p m)) (hs : swapsWith e none pos.line X.env = pure false := by rfl) : PS X (.Expr e pos) (tS X.K io (sEx m)) := psW (ps_expr he hs) fun D σ H h => by
  obtain ⟨B, ρ, F, S, fl, ρ', e, k⟩ := tS_eq.mp h
  obtain ⟨⟨x, ρ1⟩, ea, e⟩ := ob e
  cases e
  exact ⟨B, ρ, F, S, x, _, ea, fun v B1 H1 F1 E1 S1 A1 P1 => k σ B1 H1 F1 E1 S1 fun _ _ => rfl⟩
def sRt (m : MO) : MS := fun ρ => (m ρ).bind fun x => some (.rt x.1, x.2)
theorem s_ret {e : Expr} {m : MO} (he : PE X e (tO X.K m)) : PS X (.Return (some e) pos) (tS X.K io (sRt m)) := psW (ps_ret he) fun D σ H h => by
  obtain ⟨B, ρ, F, S, fl, ρ', e, k⟩ := tS_eq.mp h
  obtain ⟨⟨x, ρ1⟩, ea, e⟩ := ob e
  cases e
  exact ⟨B, ρ, F, S, x, _, ea, fun v B1 H1 F1 G E1 S1 O1 => k v σ B1 H1 F1 G E1 S1 O1 fun _ _ => rfl⟩
def sRtN : MS := fun ρ => some (.rt (.fz .non), ρ)
theorem s_retN : PS X (.Return none pos) (tS X.K io sRtN) := psW ps_retN fun D σ H h => by
  obtain ⟨B, ρ, F, S, fl, ρ', e, k⟩ := tS_eq.mp h
  cases (show some (Fl.rt (.fz .non), ρ) = some (fl, ρ') from e)
  exact k .non σ B H F (fun _ => False) (Ext.refl.less fun a z => z.elim (fun y => y) fun y => y.elim) S ⟨rfl, fun _ z => z.elim, fun _ z => z.elim, fun _ _ z => z.elim⟩ fun _ _ => rfl
def sIf (c : MT) (a b : MS) : MS := fun ρ => (c ρ).bind fun x => if x.1 = true then a x.2 else b x.2
theorem s_if {c : Expr} {a b : List Stmt} {mc : MT} {ma mb : MS} (hc : PT X c (tT X.K p mc)) (ha : PSs X a (tS X.K io ma)) (hb : PSs X b (tS X.K io mb)) : PS X (.If c a b pos) (tS X.K io (sIf mc ma mb)) := psW (ps_if hc ha hb) fun D σ H h => by
  obtain ⟨B, ρ, F, S, fl, ρ', e, k⟩ := tS_eq.mp h
  obtain ⟨⟨x, ρ1⟩, ea, e⟩ := ob e
  refine ⟨B, ρ, F, S, x, ρ1, ea, fun B1 H1 F1 E1 S1 P1 => ?_⟩
  cases x with
  | true => exact iteT (tS_eq.mpr ⟨B1, ρ1, F1, S1, fl, ρ', e, k.after E1 fun _ _ => rfl⟩)
  | false => exact iteF (tS_eq.mpr ⟨B1, ρ1, F1, S1, fl, ρ', e, k.after E1 fun _ _ => rfl⟩)
/-- x = e -/
def sAs (i : Nat) (m : MO) : MS := fun ρ => (m ρ).bind fun x => (put i x.1 x.2).bind fun ρ' => some (.nx, ρ')
theorem put_own {K : PySem.W.Frag} {B H : Hp} {σ : L2.St} {ρ ρ' : Env} {F : Nat → Addr → Prop} (S : St K B H σ ρ F) {i : Nat} {t : T} {v : V} {G : Addr → Prop} (O : OwnX K B H F G t v) (e : put i t ρ = some ρ') :
    ∃ F', (∀ a, U F' a → U F a ∨ G a) ∧ St K B H (σ.set i (some v)) ρ' F' := by
  unfold put at e
  by_cases z : i < ρ.length
  · rw [if_pos z] at e
    cases e
    refine ⟨_, fun a u => ?_, S.put O.own O.nb O.al (fun j a _ y => O.dj j a y) z⟩
    obtain ⟨j, u⟩ := u
    by_cases q : j = i
    · rw [if_pos q] at u; exact Or.inr u
    · rw [if_neg q] at u; exact Or.inl ⟨j, u⟩
  · rw [if_neg z] at e; cases e
theorem tS_asg {K : PySem.W.Frag} {i : Nat} {m : MO} {D : Ends} {σ : L2.St} {H : Hp} (hio : io i = false) (h : tS K io (sAs i m) D σ H) : tAsg (tO K m) (gName i) D σ H := by
  obtain ⟨B, ρ, F, S, fl, ρ', e, k⟩ := tS_eq.mp h
  obtain ⟨⟨x, ρ1⟩, ea, e⟩ := ob e
  obtain ⟨ρ2, ep, e⟩ := ob e
  cases e
  refine ⟨B, ρ, F, S, x, ρ1, ea, fun v B1 H1 F1 G E1 S1 O1 => ?_⟩
  obtain ⟨F2, u2, S2⟩ := put_own S1 O1 ep
  exact k _ B1 H1 F2 (E1.less u2) S2 fun j z => List.getElem?_set_ne (fun y => by subst y; rw [hio] at z; cases z)
theorem s_asg {i : Nat} {x : Str} {e : Expr} {m : MO} {pos' : Pos} (hN : X.N.Nodup) (he : PE X e (tO X.K m)) (hi : X.N[i]? = some x := by rfl) (hx : Loc X.env.scope x := by first | exact Or.inl rfl | exact Or.inr rfl) (hio : io i = false := by rfl) (hs : swapsWith e (some (.Name x pos')) pos.line X.env = pure false := by rfl)
    (hf : X.fn x = true ∨ X.env.scope.names.lookup x = some .local := by first | exact .inl rfl | exact .inr rfl | assumption) : PS X (.Assign [.Name x pos'] e pos) (tS X.K io (sAs i m)) := psW (ps_set hN hi hx he hs hf) fun _ _ _ h => tS_asg hio h
/-- target = e -/
def sTg (m : M) (g : MG) : MS := fun ρ => (m ρ).bind fun x => (frzA x.2 x.1).bind fun y => (g y.1 y.2).bind fun ρ' => some (.nx, ρ')
theorem s_tg {tg e : Expr} {m : M} {g : MG} (he : PE X e (tE X.K p m)) (hg : PG X tg (tG X.K js g)) (hio : js.all (fun j => !io j) = true := by rfl) (hs : swapsWithSole [tg] e pos.line X.env = pure false := by rfl) (hw : swappedStores [tg] e X.env = pure none := by rfl)
    (h1 : (assignEach [tg] X.env).map (·.2) = [assign tg X.env] := by rfl) : PS X (.Assign [tg] e pos) (tS X.K io (sTg m g)) := psW (ps_asg he hg hs hw h1) fun D σ H h => by
  obtain ⟨B, ρ, F, S, fl, ρ', e, k⟩ := tS_eq.mp h
  obtain ⟨⟨x, ρ1⟩, ea, e⟩ := ob e
  obtain ⟨⟨d, ρ2⟩, ed, e⟩ := ob e
  obtain ⟨ρ3, eg, e⟩ := ob e
  cases e
  refine ⟨B, ρ, F, S, x, ρ1, ea, fun v B1 H1 F1 E1 S1 A1 P1 => ?_⟩
  obtain ⟨B2, F2, E2, S2, d2⟩ := S1.frzA A1 ed
  refine ⟨B2, ρ2, F2, d, S2, d2, _, eg, fun σ' F' u S' w => k σ' B2 H1 F' ((E1.trans E2).less u) S' fun j z => w.1 j fun y => ?_⟩
  have := List.all_eq_true.mp hio j y
  rw [z] at this
  cases this
end
end DL

end

section
set_option Elab.async false
set_option linter.all false
set_option maxRecDepth 100000
set_option maxHeartbeats 2000000
namespace DL
open PySem L2
open PyProof.Rows (envOfC)

/-! ### defs -/
abbrev Fn := List T → Option (T × List T)
def spF (K : PySem.W.Frag) (n : Nat) (f : Fn) : Sp := fun vs H Q E => ∃ B ts F, vs.length = n ∧ St K B H (vs.map some) (ts.map some) F ∧ ∃ r ts', f ts = some (r, ts') ∧
  ∀ v B' H' F' G, Ext B H (U F) B' H' (fun a => U F' a ∨ G a) → St K B' H' (vs.map some) (ts'.map some) F' → OwnX K B' H' F' G r v → Q v H'
/-- what the parameters hold at the end: those of io as they are then, the others (frozen) as they were -/
def outs (io : Nat → Bool) (ρ' : Env) : Nat → List T → Option (List T)
  | _, [] => some []
  | j, t :: ts => (if io j = true then ρ'.t j else match t with
    | .fz d => some (.fz d)
    | .nd _ _ => none).bind fun t' => (outs io ρ' (j + 1) ts).bind fun ts' => some (t' :: ts')
theorem outs_len {io : Nat → Bool} {ρ' : Env} : ∀ {j : Nat} {ts ts' : List T}, outs io ρ' j ts = some ts' → ts'.length = ts.length
  | _, [], _, e => by cases (show some [] = some _ from e); rfl
  | j, t :: ts, _, e => by
    obtain ⟨t', e1, e⟩ := ob e
    obtain ⟨r, e2, e⟩ := ob e
    cases e
    rw [List.length_cons, List.length_cons, outs_len e2]
theorem outs_get {io : Nat → Bool} {ρ' : Env} : ∀ {j : Nat} {ts ts' : List T} {i : Nat} {t : T}, outs io ρ' j ts = some ts' → ts'[i]? = some t → (io (j + i) = true ∧ ρ'.t (j + i) = some t) ∨ (io (j + i) = false ∧ ts[i]? = some t ∧ ∃ d, t = .fz d)
  | _, [], _, _, _, e, g => by cases (show some [] = some _ from e); simp at g
  | j, u :: ts, _, 0, t, e, g => by
    obtain ⟨t', e1, e⟩ := ob e
    obtain ⟨r, e2, e⟩ := ob e
    cases e
    simp at g
    subst g
    rw [Nat.add_zero]
    cases h : io j with
    | true => rw [if_pos h] at e1; exact Or.inl ⟨rfl, e1⟩
    | false =>
      rw [if_neg (by rw [h]; exact Bool.false_ne_true)] at e1
      cases u with
      | fz d => cases e1; exact Or.inr ⟨rfl, rfl, d, rfl⟩
      | nd k l => cases e1
  | j, u :: ts, _, i + 1, t, e, g => by
    obtain ⟨t', e1, e⟩ := ob e
    obtain ⟨r, e2, e⟩ := ob e
    cases e
    have h := outs_get (i := i) (t := t) e2 (by simpa using g)
    rw [show j + 1 + i = j + (i + 1) from by omega] at h
    simpa using h
def fnD (N : Nat) (io : Nat → Bool) (body : MS) : Fn := fun ts => (body (ts.map some ++ List.replicate (N - ts.length) none)).bind fun x => (outs io x.2 0 ts).bind fun ts' => match x.1 with
  | .rt t => some (t, ts')
  | .nx => some (.fz .non, ts')
  | _ => none
theorem St.more {K : PySem.W.Frag} {B H : Hp} {vs : List V} {ts : List T} {F : Nat → Addr → Prop} (S : St K B H (vs.map some) (ts.map some) F) (n : Nat) : St K B H (vs.map some ++ List.replicate n none) (ts.map some ++ List.replicate n none) F := by
  have hl : vs.length = ts.length := by simpa using S.ln
  refine ⟨S.bh, fun i t e => ?_, S.nb, S.al, S.dj, by simp [hl]⟩
  by_cases h : i < (ts.map some).length
  · rw [List.getElem?_append_left h] at e
    obtain ⟨v, h1, h2⟩ := S.sl i t e
    exact ⟨v, by rw [List.getElem?_append_left (by simpa [hl] using h)]; exact h1, h2⟩
  · rw [List.getElem?_append_right (by omega), List.getElem?_replicate] at e
    split at e <;> cases e
/-- the frame at the end, as the parameters see it -/
theorem St.outs {K : PySem.W.Frag} {B H B' H' : Hp} {vs : List V} {ts ts' : List T} {σ' : L2.St} {ρ' : Env} {F F' : Nat → Addr → Prop} {G : Addr → Prop} {io : Nat → Bool} {m : Nat} (S : St K B H (vs.map some) (ts.map some) F) (E : Ext B H (U F) B' H' (fun a => U F' a ∨ G a)) (S' : St K B' H' σ' ρ' F')
    (w : ∀ j, io j = true → σ'[j]? = (vs.map some ++ List.replicate m none)[j]?) (e : outs io ρ' 0 ts = some ts') : St K B' H' (vs.map some) (ts'.map some) F' := by
  have hl : vs.length = ts.length := by simpa using S.ln
  have hl' := outs_len e
  refine ⟨S'.bh, fun i t g => ?_, S'.nb, S'.al, S'.dj, by simp [hl, hl']⟩
  have g' : ts'[i]? = some t := by
    rw [List.getElem?_map] at g
    cases q : ts'[i]? with
    | none => rw [q] at g; cases g
    | some u => rw [q] at g; cases g; rfl
  have hi : i < vs.length := by
    have := (List.getElem?_eq_some_iff.mp g').1
    omega
  rcases outs_get e g' with ⟨h1, h2⟩ | ⟨h1, h2, d, h3⟩
  · rw [Nat.zero_add] at h1 h2
    obtain ⟨v, k1, k2⟩ := S'.sl i t (Env.t_some h2)
    refine ⟨v, ?_, k2⟩
    rw [← k1, w i h1, List.getElem?_append_left (by simpa using hi)]
  · subst h3
    obtain ⟨v, k1, k2⟩ := S.sl i (.fz d) (by rw [List.getElem?_map, h2]; rfl)
    exact ⟨v, k1, Dat.mono E.bb k2⟩
theorem fn_read {K : PySem.W.Frag} {N : List Str} {n : Nat} {io : Nat → Bool} {body : MS} {vs : List V} {H : Hp} {Q : VK} {E : XK} (h : spF K n (fnD N.length io body) vs H Q E) : tS K io body { nx := fun _ H' => Q .non H', rt := Q } (L2.start N vs) H := by
  obtain ⟨B, ts, F, hn, S, r, ts', e, k⟩ := h
  have hl : vs.length = ts.length := by simpa using S.ln
  obtain ⟨⟨fl, ρ'⟩, eb, e⟩ := ob e
  obtain ⟨ts2, eo, e⟩ := ob e
  refine tS_eq.mpr ⟨B, _, F, ?_, fl, ρ', eb, ?_⟩
  · unfold L2.start
    rw [hl]
    exact S.more _
  · cases fl with
    | nx =>
      cases (show some (T.fz .non, ts2) = some (r, ts') from e)
      exact fun σ' B' H' F' E' S' w => k .non B' H' F' (fun _ => False) (E'.less fun a z => z.elim (fun y => y) fun y => y.elim) (S.outs (G := fun _ => False) (E'.less fun a z => z.elim (fun y => y) fun y => y.elim) S' w eo) ⟨rfl, fun _ z => z.elim, fun _ z => z.elim, fun _ _ z => z.elim⟩
    | rt t =>
      cases (show some (t, ts2) = some (r, ts') from e)
      exact fun v σ' B' H' F' G E' S' O w => k v B' H' F' G E' (S.outs E' S' w eo) O
    | bk => cases (show none = some (r, ts') from e)
    | ct => cases (show none = some (r, ts') from e)

/-- a def of the module, with what it computes -/
def Def (P : Program) (w : World) (K : PySem.W.Frag) (mg : Str → Option Value) (base : Heap) (k : Nat) (x : Str) (n : Nat) (fn : Fn) : Prop :=
  ∃ f fd ps, FnOk P w K mg base CX0 k f fd ps (spF K n fn) ∧ mg x = some (.ref f) ∧ PySem.W.keepIn K (.ref f) = true ∧ Binds K fd ps []
/-- the def st of the text stands as x -/
def IsDef (K : PySem.W.Frag) (mg : Str → Option Value) (x : Str) (st : Stmt) : Prop := ∃ f fd, FunD K x x (defArgs st) (defBody st) (defScope st) [] [] f fd ∧ mg x = some (.ref f)
/-- THE RULE for a def -/
theorem def_ok {P : Program} {w : World} {K : PySem.W.Frag} {mg : Str → Option Value} {base : Heap} {x : Str} {st : Stmt} {N ps : List Str} {k n : Nat} {io : Nat → Bool} {m : MS} (F : IsDef K mg x st) (S : FnScope N ps (defScope st)) (hn : ps.length = n)
    (hbd : ∀ (dV kV doc pm : Value) (an : Option Addr) (cdv ct : Value) (us : List Value), us.length = ps.length → bindArgs (PySem.W.fnOf x x (defArgs st) (defBody st) (defScope st) .none kV doc pm an cdv ct) ⟨us, []⟩ = pure (ps.zip us))
    (hb : ∀ (f : Addr) (cdv : Value) (A : Around) (outer : List PySem.Env) (s : Shared) (H : Hp) (E : XK), Room k (A.deeper (envOfC x (defScope st) s.heap.objs.size f cdv)) → PSs (cxOf CX0 P w K mg base N x (defScope st) f cdv A outer s H E).nox (defBody st) (tS K io m)) :
    Def P w K mg base (k + 1) x n (fnD N.length io m) := by
  obtain ⟨f, fd, F, hg⟩ := F
  refine ⟨f, fd, ps, F.ok S (fun vs H Q E h => ?_) (fun cdv A outer s H vs Q E hr h => ⟨tS K io m, (hb f cdv A outer s H E hr).nox, fn_read h⟩), hg, F.kp, F.bindsN fun kV doc pm an cdv ct us hl => hbd .none kV doc pm an cdv ct us hl⟩
  obtain ⟨B, ts, F', h1, _⟩ := h
  rw [h1, hn]
theorem Def.mono {P : Program} {w : World} {K : PySem.W.Frag} {mg : Str → Option Value} {base : Heap} {x : Str} {j k n : Nat} {fn : Fn} (d : Def P w K mg base j x n fn) (h : j ≤ k) : Def P w K mg base k x n fn := by
  obtain ⟨f, fd, ps, F, r⟩ := d
  exact ⟨f, fd, ps, F.mono h, r⟩

/-! ### calls -/
def scal : D → Bool
  | .nd _ _ => false
  | _ => true
def bD (ρ : Env) : Arg → Option D
  | .vl d => some d
  | .rf i π => ((ρ.t i).bind (tAt π)).map T.toD
def bDs (ρ : Env) : List Arg → Option (List D)
  | [] => some []
  | a :: as => (bD ρ a).bind fun d => (bDs ρ as).bind fun ds => some (d :: ds)
section
variable {K : PySem.W.Frag} {B B' H H' : Hp} {σ : L2.St} {ρ ρ' : Env} {F : Nat → Addr → Prop}
theorem scal_dat {d : D} {v : V} (h : scal d = true) (k : Dat K B d v) : Dat K B' d v := by
  cases d with
  | nd _ _ => cases h
  | _ => exact k
theorem U_nb (S : St K B H σ ρ F) : ∀ a, U F a → B a = none := fun a ⟨i, z⟩ => S.nb i a z
theorem St.bD (S : St K B H σ ρ F) {a : Arg} {v : V} {d : D} (h : ArgOk K B H σ ρ a v) (e : bD ρ a = some d) : Dat K (frzB B H (U F)) d v := by
  have ex := frzB_ex (H := H) (U_nb S)
  have w : ∀ i a o, F i a → H a = some o → frzB B H (U F) a = some o := fun i a o z q => by rw [frzB_in ⟨i, z⟩]; exact q
  match a, h, e with
  | .vl d', h, e => cases (show some d' = some d from e); exact Dat.mono ex h
  | .rf i [], h, e =>
    have e' : ((ρ.t i).bind (tAt [])).map T.toD = some d := e
    cases q : ρ.t i with
    | none => rw [q] at e'; cases e'
    | some t =>
      rw [q] at e'
      cases (show some t.toD = some d from e')
      obtain ⟨v', h1, h2⟩ := S.sl i t (Env.t_some q)
      rw [show σ[i]? = some (some v) from h] at h1
      cases h1
      exact Own.toD ex (w i) h2 fun _ z => z
  | .rf i (j :: π), ⟨w', t, h1, h2, h3⟩, e =>
    have e' : ((ρ.t i).bind (tAt (j :: π))).map T.toD = some d := e
    rw [h2] at e'
    cases q : tAt (j :: π) t with
    | none => rw [show (some t).bind (tAt (j :: π)) = tAt (j :: π) t from rfl, q] at e'; cases e'
    | some s =>
      rw [show (some t).bind (tAt (j :: π)) = tAt (j :: π) t from rfl, q] at e'
      cases (show some s.toD = some d from e')
      obtain ⟨v', g1, g2⟩ := S.sl i t (Env.t_some h2)
      rw [h1] at g1
      cases g1
      obtain ⟨G1, m1, m2, _⟩ := own_upd g2 h3 q
      exact Own.toD ex (w i) m2 m1
theorem St.bDs (S : St K B H σ ρ F) : ∀ {as : List Arg} {vs : List V} {ds : List D}, ArgsOk K B H σ ρ as vs → bDs ρ as = some ds → DatL K (frzB B H (U F)) ds vs
  | [], _, _, h, e => by cases (show some [] = some _ from e); exact h
  | a :: as, _, ds, ⟨v, r, h1, h2, h3⟩, e => by
    obtain ⟨d, e1, e⟩ := ob e
    obtain ⟨ds, e2, e⟩ := ob e
    cases e
    exact ⟨v, r, h1, S.bD h2 e1, S.bDs h3 e2⟩
/-- frozen arguments as a frame -/
theorem St.args (b : Ex B H) : ∀ {ds : List D} {vs : List V}, DatL K B ds vs → St K B H (vs.map some) ((ds.map T.fz).map some) (fun _ _ => False) := fun {ds vs} h => by
  refine ⟨b, fun i t e => ?_, fun _ _ z => z.elim, fun _ _ z => z.elim, fun _ _ _ _ z => z.elim, by simp [h.len]⟩
  rw [List.getElem?_map, List.getElem?_map] at e
  cases q : ds[i]? with
  | none => rw [q] at e; cases e
  | some d =>
    rw [q] at e
    cases e
    obtain ⟨v, h1, h2⟩ := h.get q
    exact ⟨v, by rw [List.getElem?_map, h1]; rfl, h2⟩
theorem U_none {a : Addr} : ¬ U (fun _ _ => False) a := fun ⟨_, z⟩ => z
end
def callB (fn : Fn) (ρ : Env) (as : List Arg) : Option D := (bDs ρ as).bind fun ds => (fn (ds.map .fz)).bind fun r => match r.1 with
  | .fz d => if scal d = true then some d else none
  | _ => none
def oCall (fn : Fn) (as : MA) : MO := fun ρ => (as ρ).bind fun y => match callB fn y.2 y.1 with
  | some d => some (.fz d, y.2)
  | none => (frzL y.2 y.1).bind fun z => (fn (z.1.map .fz)).bind fun r => some (r.1, z.2)
section
variable {X : Cx} {p q : Bool} {pos : Pos}
theorem tO_call {K : PySem.W.Frag} {n : Nat} {fn : Fn} {ms : MA} {σ : L2.St} {H : Hp} {Q : VK} {E : XK} (hn : ∀ ρ y, ms ρ = some y → y.1.length = n) (h : tO K (oCall fn ms) σ H Q) : tA K p ms σ H fun vs H1 => spF K n fn (vs ++ []) H1 Q E := by
  obtain ⟨B, ρ, F, S, t, ρ', e, k⟩ := h
  obtain ⟨⟨ys, ρ1⟩, ea, e⟩ := ob e
  refine ⟨B, ρ, F, S, ys, ρ1, ea, fun vs B1 H1 F1 E1 S1 A1 P1 => ?_⟩
  show spF K n fn (vs ++ []) H1 Q E
  rw [List.append_nil]
  have hl : ∀ {ds : List D}, DatL K B1 ds vs ∨ (∃ C, DatL K C ds vs) → ds.length = n → vs.length = n := fun {ds} h e => by
    rcases h with h | ⟨C, h⟩
    · rw [← h.len]; exact e
    · rw [← h.len]; exact e
  have hys : ys.length = n := hn _ _ ea
  have alen : ∀ {as : List Arg} {ws : List V}, ArgsOk K B1 H1 σ ρ1 as ws → as.length = ws.length := by
    intro as
    induction as with
    | nil => intro ws h; rw [show ws = [] from h]; rfl
    | cons a as ih => intro ws h; obtain ⟨v, r, e, _, h⟩ := h; rw [e, List.length_cons, List.length_cons, ih h]
  have hvs : vs.length = n := (alen A1).symm.trans hys
  have e' : (match callB fn ρ1 ys with
    | some d => some (T.fz d, ρ1)
    | none => (frzL ρ1 ys).bind fun z => (fn (z.1.map .fz)).bind fun r => some (r.1, z.2)) = some (t, ρ') := e
  cases hc : callB fn ρ1 ys with
  | some d =>
    rw [hc] at e'
    cases e'
    obtain ⟨ds, e1, e2⟩ := ob hc
    obtain ⟨⟨r, ts'⟩, e3, e4⟩ := ob e2
    have d2 := S1.bDs A1 e1
    refine ⟨frzB B1 H1 (U F1), ds.map .fz, _, hvs, St.args (frzB_le S1.bh) d2, r, ts', e3, fun v B2 H2 F2 G2 E2 S2 O2 => ?_⟩
    have hh : Ex H1 H2 := fun a o z => E2.fr a o z U_none
    cases r with
    | nd _ _ => cases (show none = some d from e4)
    | fz d' =>
      have e5 : (if scal d' = true then some d' else none) = some d := e4
      by_cases z : scal d' = true
      · rw [if_pos z] at e5
        cases e5
        have n' : New B1 H1 B1 H2 := ⟨Ex.refl _, hh, S1.bh.trans hh, fun _ _ q => q⟩
        exact k v B1 H2 F1 (fun _ => False) ((E1.trans n'.ext).less fun a z => z.elim (fun y => y) fun y => y.elim) (S1.new n') ⟨scal_dat z (show Dat K B2 _ v from O2.own), fun _ z => z.elim, fun _ z => z.elim, fun _ _ z => z.elim⟩
      · rw [if_neg z] at e5; cases e5
  | none =>
    rw [hc] at e'
    obtain ⟨⟨ds, ρ2⟩, ed, e'⟩ := ob e'
    obtain ⟨⟨r, ts'⟩, er, e'⟩ := ob e'
    cases e'
    obtain ⟨B2, F2, E2, S2, d2⟩ := frzL_sound S1 A1 ed
    refine ⟨B2, ds.map .fz, _, hvs, St.args S2.bh d2, r, ts', er, fun v B3 H3 F3 G3 E3 S3 O3 => ?_⟩
    have hh : Ex H1 H3 := fun a o z => E3.fr a o z U_none
    have n' : New B2 H1 B3 H3 := ⟨E3.bb, hh, S3.bh, fun a z y => E3.nb a z U_none y⟩
    refine k v B3 H3 F2 G3 ⟨((E1.trans E2).trans n'.ext).bb, ((E1.trans E2).trans n'.ext).fr, ((E1.trans E2).trans n'.ext).nb, fun a z y q => ?_⟩ (S2.new n') ⟨O3.own, O3.nb, O3.al, fun i a z y => ?_⟩
    · rcases q with q | q
      · exact ((E1.trans E2).trans n'.ext).nf a z y q
      · have z1 : H1 a ≠ none := by
          cases hq : H a with
          | none => exact absurd hq z
          | some o => rw [E1.fr a o hq y]; exact fun z => nomatch z
        exact E3.nf a z1 U_none (Or.inr q)
    · exact E3.nf a (S2.al i a y) U_none (Or.inr z)
theorem c_call {j kk n : Nat} {x : Str} {fn : Fn} {po : Pos} {e : Expr} {es : List Expr} {ms : MA} (G : Def X.prog X.w X.K X.mg X.base j x n fn) (hr : Room kk X.A) (ha : PA X (e :: es) (tA X.K p ms)) (hn : ∀ ρ y, ms ρ = some y → y.1.length = n) (hj : j ≤ kk := by decide) (hg : Gl X x := by rfl)
    (hdb : (x == ("__debug__" : Str)) = false := by decide) (he : starEach (e :: es) X.env = (false, eval e X.env) :: starEach es X.env := by rfl) (hpl : (backTo pos (starEach es X.env)).any (·.1) = false := by rfl) :
    PE X (.Call (.Name x po) (e :: es) [] pos) (tO X.K (oCall fn ms)) := by
  obtain ⟨f, fd, ps, F, h1, h2, h3⟩ := G
  exact peW (pe_call F (hr.mono hj) hg h1 h2 h3 .nil pass0 ha hdb he hpl) fun _ _ _ h => tO_call hn h
end
end DL

end

section
set_option Elab.async false
set_option linter.all false
set_option maxRecDepth 100000
set_option maxHeartbeats 2000000
namespace DL
open PySem L2

/-! ### what is walked -/
structure Wk (K : PySem.W.Frag) (B : Hp) (J : It) (ds : List D) : Prop where
  stop : ∀ B1 H, Ex B B1 → Ex B1 H → J.stop ds.length H
  go : ∀ i d, ds[i]? = some d → ∀ B1 H, Ex B B1 → Ex B1 H → J.go i H ∧ ∀ x H', J.yld i H x H' → ∃ B2, New B1 H B2 H' ∧ Dat K B2 d x
abbrev MI := Env → Option (List D × Env)
def tI (K : PySem.W.Frag) (m : MI) : TI := fun σ H R => ∃ B ρ F, St K B H σ ρ F ∧ ∃ ds ρ', m ρ = some (ds, ρ') ∧ ∀ J B' H' F', Ext B H (U F) B' H' (U F') → St K B' H' σ ρ' F' → Wk K B' J ds → R J H'
theorem piW {X : Cx} {tg e : Expr} {t t' : TI} (h : PI X tg e t) (f : ∀ σ H R, t' σ H R → t σ H R) : PI X tg e t' := ⟨fun pins s σ H R I q => h.run pins s σ H R I (f _ _ _ q)⟩
section
variable {K : PySem.W.Frag} {B : Hp}
/-- the list kinds -/
def DK.isL : DK → Bool
  | .lst => true
  | .ll => true
  | _ => false
theorem DatN.sl {k : DK} (hk : k.isL = true) {a : Addr} {vs : List V} (h : DatN K B k a vs) : SqL K B a vs := by
  cases k with
  | lst => exact SqL.of h
  | ll => exact h
  | tup => cases hk
  | dic _ => cases hk
def DK.isT : DK → Bool
  | .tup => true
  | _ => false
theorem DatN.st {k : DK} (hk : k.isT = true) {a : Addr} {vs : List V} (h : DatN K B k a vs) : SqT K B a vs := by
  cases k with
  | tup => exact h
  | lst => cases hk
  | ll => cases hk
  | dic _ => cases hk
theorem wk_list {a : Addr} {vs : List V} {ds : List D} (h : SqL K B a vs) (hd : DatL K B ds vs) : Wk K B (Itl K a) ds :=
  ⟨fun B1 H e1 e2 => ⟨vs, (e1.trans e2).sl h, by rw [hd.len]; exact Nat.le_refl _⟩, fun i d g B1 H e1 e2 => by
    obtain ⟨v, g1, g2⟩ := hd.get g
    exact ⟨⟨vs, v, (e1.trans e2).sl h, g1⟩, fun x H' y => by
      obtain ⟨rfl, y⟩ := y
      have := y vs ((e1.trans e2).sl h)
      rw [g1] at this
      cases this
      exact ⟨B1, New.refl e2, g2.mono e1⟩⟩⟩
theorem wk_tup {a : Addr} {vs : List V} {ds : List D} (h : SqT K B a vs) (hd : DatL K B ds vs) : Wk K B (Itt K a) ds :=
  ⟨fun B1 H e1 e2 => ⟨vs, (e1.trans e2).st h, by rw [hd.len]; exact Nat.le_refl _⟩, fun i d g B1 H e1 e2 => by
    obtain ⟨v, g1, g2⟩ := hd.get g
    exact ⟨⟨vs, v, (e1.trans e2).st h, g1⟩, fun x H' y => by
      obtain ⟨rfl, y⟩ := y
      have := y vs ((e1.trans e2).st h)
      rw [g1] at this
      cases this
      exact ⟨B1, New.refl e2, g2.mono e1⟩⟩⟩
def rng (lo : Int) (n : Nat) : List D := (List.range n).map fun (i : Nat) => D.int (lo + (i : Int))
theorem wk_rng {lo : Int} {n : Nat} : Wk K B (Itr lo n) (rng lo n) :=
  ⟨fun B1 H _ _ => by show n ≤ _; unfold rng; simp, fun i d g B1 H e1 e2 => by
    unfold rng at g
    rw [List.getElem?_map] at g
    cases q : (List.range n)[i]? with
    | none => rw [q] at g; cases g
    | some j =>
      rw [q] at g
      cases g
      obtain ⟨h1, h2⟩ := List.getElem?_eq_some_iff.mp q
      rw [List.getElem_range] at h2
      subst h2
      exact ⟨show _ < n by simpa using h1, fun x H' y => by
        obtain ⟨rfl, rfl⟩ := y
        exact ⟨B1, New.refl e2, rfl⟩⟩⟩
end
section
variable {X : Cx} {p q : Bool} {pos : Pos} {js ks : List Nat} {io : Nat → Bool}
def iSq (k : DK → Bool) (m : M) : MI := fun ρ => (m ρ).bind fun x => (frzA x.2 x.1).bind fun y => match y.1 with
  | .nd k' ds => if k k' = true then some (ds, y.2) else none
  | _ => none
theorem tE_sq {K : PySem.W.Frag} {k : DK → Bool} {m : M} {σ : L2.St} {H : Hp} {R : List D → V → Hp → Prop} {ds : List D} {ρ' : Env} {B : Hp} {ρ : Env} {F : Nat → Addr → Prop} (S : St K B H σ ρ F) (e : iSq k m ρ = some (ds, ρ'))
    (kk : ∀ k' a vs B' H' F', k k' = true → Ext B H (U F) B' H' (U F') → St K B' H' σ ρ' F' → DatN K B' k' a vs → DatL K B' ds vs → R ds (.ref a) H') : tE K p m σ H fun x H1 => R ds x H1 := by
  obtain ⟨⟨x, ρ1⟩, ea, e⟩ := ob e
  obtain ⟨⟨d, ρ2⟩, ed, e⟩ := ob e
  refine ⟨B, ρ, F, S, x, ρ1, ea, fun v B1 H1 F1 E1 S1 A1 P1 => ?_⟩
  obtain ⟨B2, F2, E2, S2, d2⟩ := S1.frzA A1 ed
  cases d with
  | nd k' ds' =>
    have e' : (if k k' = true then some (ds', ρ2) else none) = some (ds, ρ') := e
    by_cases z : k k' = true
    · rw [if_pos z] at e'
      cases e'
      obtain ⟨a, vs, rfl, h2, h3⟩ := d2
      exact kk k' a vs B2 H1 F2 z (E1.trans E2) S2 h2 h3
    · rw [if_neg z] at e'; cases e'
  | non => cases (show none = some (ds, ρ') from e)
  | bl _ => cases (show none = some (ds, ρ') from e)
  | int _ => cases (show none = some (ds, ρ') from e)
  | str _ => cases (show none = some (ds, ρ') from e)
theorem i_tup {tg e : Expr} {m : M} (h : PE X e (tE X.K p m)) : PI X tg e (tI X.K (iSq DK.isT m)) := piW (pi_tup h) fun σ H R h => by
  obtain ⟨B, ρ, F, S, ds, ρ', e, k⟩ := h
  exact tE_sq (R := fun _ x H1 => ∃ a, x = .ref a ∧ (∃ xs, SqT X.K H1 a xs) ∧ R (Itt X.K a) H1) S e fun k' a vs B' H' F' z E' S' h1 h2 => ⟨a, rfl, ⟨vs, S'.bh.st (h1.st z)⟩, k (Itt X.K a) B' H' F' E' S' (wk_tup (h1.st z) h2)⟩
theorem i_list {tg e : Expr} {m : M} (h : PE X e (tE X.K p m)) : PI X tg e (tI X.K (iSq DK.isL m)) := piW (pi_list h) fun σ H R h => by
  obtain ⟨B, ρ, F, S, ds, ρ', e, k⟩ := h
  exact tE_sq (R := fun _ x H1 => ∃ a, x = .ref a ∧ (∃ xs, SqL X.K H1 a xs) ∧ R (Itl X.K a) H1) S e fun k' a vs B' H' F' z E' S' h1 h2 => ⟨a, rfl, ⟨vs, S'.bh.sl (h1.sl z)⟩, k (Itl X.K a) B' H' F' E' S' (wk_list (h1.sl z) h2)⟩
def iRg1 (m : M) : MI := fun ρ => (m ρ).bind fun x => match x.1 with
  | .vl (.int n) => if -(2 ^ 62) ≤ n ∧ n < 2 ^ 62 then some (rng 0 n.toNat, x.2) else none
  | _ => none
theorem i_rg1 {tg a : Expr} {m : M} {po : Pos} (hm : X.mg "range" = none) (h : PE X a (tE X.K p m)) (hg : Gl X "range" := by rfl) (hs1 : starEach [a] X.env = (false, eval a X.env) :: starEach [] X.env := by rfl) (hs : starEach [a] X.env = [(false, eval a X.env)] := by rfl) :
    PI X tg (.Call (.Name "range" po) [a] [] pos) (tI X.K (iRg1 m)) := piW (pi_range1 hg hm (pa_cons h pa_nil hs1) hs) fun σ H R h => by
  obtain ⟨B, ρ, F, S, ds, ρ', e, k⟩ := h
  obtain ⟨⟨x, ρ1⟩, ea, e⟩ := ob e
  refine ⟨B, ρ, F, S, x, ρ1, ea, fun v B1 H1 F1 E1 S1 A1 P1 => ?_⟩
  match x, e, A1 with
  | .vl (.int n), e, A1 =>
    have e' : (if -(2 ^ 62) ≤ n ∧ n < 2 ^ 62 then some (rng 0 n.toNat, ρ1) else none) = some (ds, ρ') := e
    by_cases z : -(2 ^ 62) ≤ n ∧ n < 2 ^ 62
    · rw [if_pos z] at e'
      cases e'
      exact ⟨n, by rw [show v = .int n from A1], z.1, z.2, k _ B1 H1 F1 E1 S1 wk_rng⟩
    · rw [if_neg z] at e'; cases e'
  | .vl .non, e, _ => cases (show none = some _ from e)
  | .vl (.bl _), e, _ => cases (show none = some _ from e)
  | .vl (.str _), e, _ => cases (show none = some _ from e)
  | .vl (.nd _ _), e, _ => cases (show none = some _ from e)
  | .rf _ _, e, _ => cases (show none = some _ from e)
/-! ### for -/
def forGo (g : MG) (mb : MS) : List D → Env → Option (Fl × Env)
  | [], ρ => some (.nx, ρ)
  | d :: ds, ρ => (g d ρ).bind fun ρ1 => (mb ρ1).bind fun x => match x.1 with
    | .nx => forGo g mb ds x.2
    | .ct => forGo g mb ds x.2
    | .bk => some (.nx, x.2)
    | .rt t => some (.rt t, x.2)
def sFor (mi : MI) (g : MG) (mb : MS) : MS := fun ρ => (mi ρ).bind fun x => forGo g mb x.1 x.2
theorem drop_cons {α : Type} {l : List α} {i : Nat} (h : i < l.length) : ∃ d, l[i]? = some d ∧ l.drop i = d :: l.drop (i + 1) := ⟨l[i], by simp [h], by rw [List.drop_eq_getElem_cons h]⟩
theorem s_for {tg iter : Expr} {body : List Stmt} {mi : MI} {g : MG} {mb : MS} (hp : PassesOwn (model X.prog X.w) X.A X.env X.xe) (hc : X.calm = true) (hi : PI X tg iter (tI X.K mi)) (hg : PG X tg (tG X.K js g)) (hb : PSs X body (tS X.K io mb)) (hio : js.all (fun j => !io j) = true := by rfl)
    (hs : ∀ x, foldedSetIterable iter X.env x = pure x := by intro _; rfl) : PS X (.For tg iter body [] pos) (tS X.K io (sFor mi g mb)) := psW (ps_for hp hc hi hg hb hs) fun D σ H h => by
  have nio : ∀ j, io j = true → j ∉ js := fun j z y => by
    have := List.all_eq_true.mp hio j y
    rw [z] at this
    cases this
  obtain ⟨B, ρ, F, S, fl, ρ', e, k⟩ := tS_eq.mp h
  obtain ⟨⟨ds, ρ1⟩, ei, e⟩ := ob e
  refine ⟨B, ρ, F, S, ds, ρ1, ei, fun J B1 H1 F1 E1 S1 wk => ?_⟩
  refine ⟨fun i m σ2 H2 => m = ds.length - i ∧ i ≤ ds.length ∧ ∃ B2 ρ2 F2, Ext B H (U F) B2 H2 (U F2) ∧ Ex B1 B2 ∧ St X.K B2 H2 σ2 ρ2 F2 ∧ (∀ j, io j = true → σ2[j]? = σ[j]?) ∧ forGo g mb (ds.drop i) ρ2 = some (fl, ρ'),
    ⟨ds.length, by simp, Nat.zero_le _, B1, ρ1, F1, E1, Ex.refl _, S1, fun _ _ => rfl, e⟩, ?_⟩
  rintro i m σ2 H2 ⟨rfl, hi, B2, ρ2, F2, E2, b12, S2, w2, e2⟩
  by_cases hlt : i < ds.length
  · obtain ⟨d, hd, hdr⟩ := drop_cons hlt
    obtain ⟨go, yl⟩ := wk.go i d hd B2 H2 b12 S2.bh
    rw [hdr] at e2
    obtain ⟨ρ3, eg, e2⟩ := ob (show (g d ρ2).bind _ = some (fl, ρ') from e2)
    obtain ⟨⟨f1, ρ4⟩, eb, e2⟩ := ob e2
    refine Or.inr ⟨go, fun σ4 H4 => i + 1 ≤ ds.length ∧ ∃ B2 ρ2 F2, Ext B H (U F) B2 H4 (U F2) ∧ Ex B1 B2 ∧ St X.K B2 H4 σ4 ρ2 F2 ∧ (∀ j, io j = true → σ4[j]? = σ[j]?) ∧ forGo g mb (ds.drop (i + 1)) ρ2 = some (fl, ρ'), fun σ4 H4 p4 => ⟨ds.length - (i + 1), by omega, rfl, p4.1, p4.2⟩, fun x H3 y => ?_⟩
    obtain ⟨B3, n3, d3⟩ := yl x H3 y
    refine ⟨B3, ρ2, F2, d, S2.new n3, d3, ρ3, eg, fun σ5 F5 u5 S5 w5 => ?_⟩
    have E5 : Ext B H (U F) B3 H3 (U F5) := (E2.trans n3.ext).less u5
    have w5' : ∀ j, io j = true → σ5[j]? = σ[j]? := fun j z => (w5.1 j (nio j z)).trans (w2 j z)
    refine tS_eq.mpr ⟨B3, ρ3, F5, S5, f1, ρ4, eb, ?_⟩
    cases f1 with
    | nx => exact fun σ6 B6 H6 F6 E6 S6 w6 => ⟨hlt, B6, ρ4, F6, E5.trans E6, (b12.trans n3.bb).trans E6.bb, S6, fun j z => (w6 j z).trans (w5' j z), e2⟩
    | ct => exact fun σ6 B6 H6 F6 E6 S6 w6 => ⟨hlt, B6, ρ4, F6, E5.trans E6, (b12.trans n3.bb).trans E6.bb, S6, fun j z => (w6 j z).trans (w5' j z), e2⟩
    | bk =>
      cases (show some (Fl.nx, ρ4) = some (fl, ρ') from e2)
      exact fun σ6 B6 H6 F6 E6 S6 w6 => k σ6 B6 H6 F6 (E5.trans E6) S6 fun j z => (w6 j z).trans (w5' j z)
    | rt t =>
      cases (show some (Fl.rt t, ρ4) = some (fl, ρ') from e2)
      exact fun v σ6 B6 H6 F6 G6 E6 S6 O6 w6 => k v σ6 B6 H6 F6 G6 (E5.trans E6) S6 O6 fun j z => (w6 j z).trans (w5' j z)
  · have ei : i = ds.length := by omega
    subst ei
    rw [List.drop_length] at e2
    cases (show some (Fl.nx, ρ2) = some (fl, ρ') from e2)
    exact Or.inl ⟨wk.stop B2 H2 b12 S2.bh, k σ2 B2 H2 F2 E2 S2 w2⟩
/-! ### while -/
def whGo (c : MT) (mb : MS) : Nat → Env → Option (Fl × Env)
  | 0, _ => none
  | n + 1, ρ => (c ρ).bind fun x => if x.1 = true then (mb x.2).bind fun y => match y.1 with
    | .nx => whGo c mb n y.2
    | .ct => whGo c mb n y.2
    | .bk => some (.nx, y.2)
    | .rt t => some (.rt t, y.2)
    else some (.nx, x.2)
def sWh (n : Nat) (c : MT) (mb : MS) : MS := whGo c mb n
theorem s_wh {c : Expr} {body : List Stmt} {mc : MT} {mb : MS} (n : Nat) (hp : PassesOwn (model X.prog X.w) X.A X.env X.xe) (hc : PT X c (tT X.K p mc)) (hb : PSs X body (tS X.K io mb)) : PS X (.While c body [] pos) (tS X.K io (sWh n mc mb)) := psW (ps_while hp hc hb) fun D σ H h => by
  obtain ⟨B, ρ, F, S, fl, ρ', e, k⟩ := tS_eq.mp h
  refine ⟨fun m σ2 H2 => ∃ B2 ρ2 F2, Ext B H (U F) B2 H2 (U F2) ∧ St X.K B2 H2 σ2 ρ2 F2 ∧ (∀ j, io j = true → σ2[j]? = σ[j]?) ∧ whGo mc mb m ρ2 = some (fl, ρ'), ⟨n, B, ρ, F, Ext.refl, S, fun _ _ => rfl, e⟩, ?_⟩
  rintro m σ2 H2 ⟨B2, ρ2, F2, E2, S2, w2, e2⟩
  cases m with
  | zero => cases (show none = some (fl, ρ') from e2)
  | succ m =>
    obtain ⟨⟨x, ρ3⟩, ec, e2⟩ := ob (show (mc ρ2).bind _ = some (fl, ρ') from e2)
    refine ⟨B2, ρ2, F2, S2, x, ρ3, ec, fun B3 H3 F3 E3 S3 P3 => ?_⟩
    cases x with
    | false =>
      cases (show some (Fl.nx, ρ3) = some (fl, ρ') from e2)
      exact iteF (k σ2 B3 H3 F3 (E2.trans E3) S3 w2)
    | true =>
      obtain ⟨⟨f1, ρ4⟩, eb, e2⟩ := ob (show (mb ρ3).bind _ = some (fl, ρ') from e2)
      refine iteT ⟨fun σ4 H4 => ∃ B2 ρ2 F2, Ext B H (U F) B2 H4 (U F2) ∧ St X.K B2 H4 σ4 ρ2 F2 ∧ (∀ j, io j = true → σ4[j]? = σ[j]?) ∧ whGo mc mb m ρ2 = some (fl, ρ'), fun σ4 H4 p4 => ⟨m, Nat.lt_succ_self _, p4⟩, ?_⟩
      refine tS_eq.mpr ⟨B3, ρ3, F3, S3, f1, ρ4, eb, ?_⟩
      cases f1 with
      | nx => exact fun σ6 B6 H6 F6 E6 S6 w6 => ⟨B6, ρ4, F6, (E2.trans E3).trans E6, S6, fun j z => (w6 j z).trans (w2 j z), e2⟩
      | ct => exact fun σ6 B6 H6 F6 E6 S6 w6 => ⟨B6, ρ4, F6, (E2.trans E3).trans E6, S6, fun j z => (w6 j z).trans (w2 j z), e2⟩
      | bk =>
        cases (show some (Fl.nx, ρ4) = some (fl, ρ') from e2)
        exact fun σ6 B6 H6 F6 E6 S6 w6 => k σ6 B6 H6 F6 ((E2.trans E3).trans E6) S6 fun j z => (w6 j z).trans (w2 j z)
      | rt t =>
        cases (show some (Fl.rt t, ρ4) = some (fl, ρ') from e2)
        exact fun v σ6 B6 H6 F6 G6 E6 S6 O6 w6 => k v σ6 B6 H6 F6 G6 ((E2.trans E3).trans E6) S6 O6 fun j z => (w6 j z).trans (w2 j z)
end
end DL

end

section
set_option Elab.async false
set_option linter.all false
set_option maxRecDepth 100000
set_option maxHeartbeats 2000000
namespace DL
open PySem L2

/-! ### comprehensions -/
def wipeR (ρ : Env) : List Nat → Env
  | [] => ρ
  | v :: vs => (wipeR ρ vs).set v none
theorem wipeR_len (ρ : Env) : ∀ vs : List Nat, (wipeR ρ vs).length = ρ.length
  | [] => rfl
  | v :: vs => by unfold wipeR; rw [List.length_set, wipeR_len ρ vs]
theorem wipeR_some {ρ : Env} {i : Nat} {t : T} : ∀ {vs : List Nat}, (wipeR ρ vs)[i]? = some (some t) → ρ[i]? = some (some t) ∧ i ∉ vs
  | [], h => ⟨h, by simp⟩
  | v :: vs, h => by
    have h' : ((wipeR ρ vs).set v none)[i]? = some (some t) := h
    by_cases z : v = i
    · subst z
      by_cases l : v < (wipeR ρ vs).length
      · rw [List.getElem?_set_self l] at h'; cases h'
      · rw [List.getElem?_eq_none (by rw [List.length_set]; omega)] at h'; cases h'
    · rw [List.getElem?_set_ne z] at h'
      obtain ⟨h1, h2⟩ := wipeR_some h'
      exact ⟨h1, by simp [h2, Ne.symm z]⟩
theorem wipe_out {σ : L2.St} {i : Nat} : ∀ {vs : List Nat}, i ∉ vs → (wipe σ vs)[i]? = σ[i]?
  | [], _ => rfl
  | v :: vs, h => by
    have h1 : i ≠ v := fun z => h (by simp [z])
    have h2 : i ∉ vs := fun z => h (by simp [z])
    show ((wipe σ vs).set v none)[i]? = _
    rw [List.getElem?_set_ne (Ne.symm h1), wipe_out h2]
theorem wipe_in {σ : L2.St} {i : Nat} (hl : i < σ.length) : ∀ {vs : List Nat}, i ∈ vs → (wipe σ vs)[i]? = some none
  | v :: vs, h => by
    show ((wipe σ vs).set v none)[i]? = _
    by_cases z : v = i
    · subst z
      rw [List.getElem?_set_self (by rw [wipe_length]; exact hl)]
    · rw [List.getElem?_set_ne z]
      exact wipe_in hl ((List.mem_cons.mp h).resolve_left fun y => z y.symm)
theorem wipe_eq {σ τ : L2.St} {vs : List Nat} (hl : τ.length = σ.length) (h : ∀ j, j ∉ vs → τ[j]? = σ[j]?) : wipe τ vs = wipe σ vs := by
  apply List.ext_getElem?
  intro i
  by_cases m : i ∈ vs
  · by_cases l : i < σ.length
    · rw [wipe_in l m, wipe_in (by omega) m]
    · rw [List.getElem?_eq_none (by rw [wipe_length]; omega), List.getElem?_eq_none (by rw [wipe_length]; omega)]
  · rw [wipe_out m, wipe_out m, h i m]
def rest (ρ0 : Env) : List Nat → Env → Env
  | [], ρ => ρ
  | i :: vs, ρ => match ρ0.t i with
    | some (.fz d) => (rest ρ0 vs ρ).set i (some (.fz d))
    | _ => rest ρ0 vs ρ
section
variable {K : PySem.W.Frag} {B B' H H' : Hp} {σ : L2.St} {ρ ρ' : Env} {F F' : Nat → Addr → Prop}
theorem St.wiped (S : St K B H σ ρ F) (vs : List Nat) : St K B H (wipe σ vs) (wipeR ρ vs) F :=
  ⟨S.bh, fun i t e => by
    obtain ⟨h1, h2⟩ := wipeR_some e
    obtain ⟨v, k1, k2⟩ := S.sl i t h1
    exact ⟨v, by rw [wipe_out h2]; exact k1, k2⟩, S.nb, S.al, S.dj, by rw [wipe_length, wipeR_len]; exact S.ln⟩
theorem St.unwiped {vs : List Nat} (S : St K B H (wipe σ vs) ρ F) : St K B H σ ρ F :=
  ⟨S.bh, fun i t e => by
    obtain ⟨v, k1, k2⟩ := S.sl i t e
    exact ⟨v, (wipe_some k1).1, k2⟩, S.nb, S.al, S.dj, by rw [← S.ln, wipe_length]⟩
theorem St.rested {ρ0 : Env} {B0 H0 : Hp} {F0 : Nat → Addr → Prop} (S0 : St K B0 H0 σ ρ0 F0) (b : Ex B0 B) : ∀ {vs : List Nat} {ρ : Env} {F : Nat → Addr → Prop}, St K B H σ ρ F → ∃ F', (∀ a, U F' a → U F a) ∧ St K B H σ (rest ρ0 vs ρ) F'
  | [], ρ, F, S => ⟨F, fun _ z => z, S⟩
  | i :: vs, ρ, F, S => by
    obtain ⟨F1, u1, S1⟩ := St.rested S0 b (vs := vs) S
    unfold rest
    split
    · rename_i d q
      obtain ⟨v, h1, h2⟩ := S0.sl i _ (Env.t_some q)
      have hi : i < (rest ρ0 vs ρ).length := by
        rw [← S1.ln]
        exact (List.getElem?_eq_some_iff.mp h1).1
      have hs : σ.set i (some v) = σ := by
        obtain ⟨l, e⟩ := List.getElem?_eq_some_iff.mp h1
        rw [← e]
        exact List.set_getElem_self l
      have S2 := S1.put (i := i) (v := v) (t := .fz d) (G := fun _ => False) (Dat.mono b h2) (fun _ z => z.elim) (fun _ z => z.elim) (fun _ _ _ z => z.elim) hi
      rw [hs] at S2
      refine ⟨_, fun a z => u1 a ?_, S2⟩
      obtain ⟨j, z⟩ := z
      by_cases y : j = i
      · rw [if_pos y] at z; exact z.elim
      · rw [if_neg y] at z; exact ⟨j, z⟩
    · exact ⟨F1, u1, S1⟩
end
theorem Ext.less' {B H B1 H1 : Hp} {F F1 F2 : Addr → Prop} {D : Addr} (a : Ext B H F B1 H1 F1) (h : ∀ x, F2 x → F1 x) (n : ¬ F D → H D = none) : Ext B H F B1 H1 (fun x => F2 x ∨ x = D) :=
  ⟨a.bb, a.fr, a.nb, fun x h1 h2 z => z.elim (fun z => a.nf x h1 h2 (h x z)) fun z => h1 (by rw [z] at h2 ⊢; exact n h2)⟩
def lcGo (g : MG) (mt : MT) (me : M) (vs : List Nat) : List D → Env → Option (List D × Env)
  | [], ρ => some ([], ρ)
  | d :: ds, ρ => (g d ρ).bind fun ρ1 => (mt ρ1).bind fun b => if b.1 = true then (me b.2).bind fun x => (frzA x.2 x.1).bind fun y => (lcGo g mt me vs ds (wipeR y.2 vs)).bind fun r => some (y.1 :: r.1, r.2)
    else lcGo g mt me vs ds (wipeR b.2 vs)
def oLc (mi : MI) (g : MG) (mt : MT) (me : M) (vs : List Nat) : MO := fun ρ => (mi ρ).bind fun x => (lcGo g mt me vs x.1 (wipeR x.2 vs)).bind fun y => if (!small y.1) = true then none else some (.nd .lst (y.1.map .fz), rest x.2 vs y.2)
def mYes : MT := fun ρ => some (true, ρ)
section
variable {X : Cx} {p q : Bool} {pos : Pos} {js ks : List Nat} {io : Nat → Bool}
theorem ptsW {X : Cx} {e : List Expr} {t t' : TT} (h : PTs X e t) (f : ∀ σ H Q, t' σ H Q → t σ H Q) : PTs X e t' := ⟨fun pins s σ H Q I q => h.run pins s σ H Q I (f _ _ _ q)⟩
theorem ts_nil : PTs X [] (tT X.K p mYes) := ptsW pts_nil fun σ H Q h => by
  obtain ⟨B, ρ, F, S, c, ρ', e, k⟩ := h
  cases (show some (true, ρ) = some (c, ρ') from e)
  exact k B H F Ext.refl S fun _ => ⟨rfl, rfl, Ex.refl _⟩
theorem ts_one {c : Expr} {m : MT} (h : PT X c (tT X.K p m)) : PTs X [c] (tT X.K p m) := pts_one h
theorem tO_lc {K : PySem.W.Frag} {mi : MI} {g : MG} {mt : MT} {me : M} {vs : List Nat} {σ : L2.St} {H : Hp} {Q : VK} (hjs : js.all (fun j => vs.contains j) = true) (h : tO K (oLc mi g mt me vs) σ H Q) : tLc (tI K mi) (tG K js g) (tT K p mt) (tE K q me) vs σ H Q := by
  have hj : ∀ j, j ∈ js → j ∈ vs := fun j z => by simpa using List.all_eq_true.mp hjs j z
  obtain ⟨B, ρ, F, S, t, ρ', e, k⟩ := h
  obtain ⟨⟨ds, ρ1⟩, ei, e⟩ := ob e
  obtain ⟨⟨es, ρ2⟩, el, e⟩ := ob e
  obtain ⟨esm, e⟩ := og e
  cases e
  refine ⟨B, ρ, F, S, ds, ρ1, ei, fun J B1 H1 F1 E1 S1 wk D hD => ?_⟩
  have bD : B1 D = none := by
    cases z : B1 D with
    | none => rfl
    | some o => rw [S1.bh D o z] at hD; cases hD
  have fD : ¬ U F1 D := fun ⟨i, z⟩ => S1.al i D z hD
  obtain ⟨n1, n2, n3, n4, n5⟩ := new_own S1 (o := .lst []) hD
  have N1 : Ext B H (U F) B1 (upd H1 D (.lst [])) (U F1) := (E1.trans n1).less fun a z => Or.inl z
  have hDH : ¬ U F D → H D = none := fun n => by
    cases z : H D with
    | none => rfl
    | some o => rw [E1.fr D o z n] at hD; cases hD
  refine ⟨fun i m H2 => m = ds.length - i ∧ i ≤ ds.length ∧ ∃ B2 ρ3 F2 acc vacc r, Ext B H (U F) B2 H2 (U F2) ∧ Ex B1 B2 ∧ St K B2 H2 (wipe σ vs) ρ3 F2 ∧ lcGo g mt me vs (ds.drop i) ρ3 = some (r, ρ2) ∧ acc ++ r = es ∧ DatL K B2 acc vacc ∧ H2 D = some (.lst vacc) ∧ B2 D = none ∧ ¬ U F2 D,
    ⟨ds.length, by simp, Nat.zero_le _, B1, _, F1, [], [], es, N1, Ex.refl _, n2.wiped vs, el, rfl, rfl, upd_same, bD, fD⟩, ?_⟩
  rintro i m H2 ⟨rfl, hi, B2, ρ3, F2, acc, vacc, r, E2, b12, S2, e2, er, da, hD2, bD2, fD2⟩
  by_cases hlt : i < ds.length
  · obtain ⟨d, hd, hdr⟩ := drop_cons hlt
    obtain ⟨go, yl⟩ := wk.go i d hd B2 H2 b12 S2.bh
    rw [hdr] at e2
    obtain ⟨ρ4, eg, e2⟩ := ob (show (g d ρ3).bind _ = some (r, ρ2) from e2)
    obtain ⟨⟨b, ρ5⟩, et, e2⟩ := ob e2
    refine Or.inr ⟨go, fun H4 => i + 1 ≤ ds.length ∧ ∃ B2 ρ3 F2 acc vacc r, Ext B H (U F) B2 H4 (U F2) ∧ Ex B1 B2 ∧ St K B2 H4 (wipe σ vs) ρ3 F2 ∧ lcGo g mt me vs (ds.drop (i + 1)) ρ3 = some (r, ρ2) ∧ acc ++ r = es ∧ DatL K B2 acc vacc ∧ H4 D = some (.lst vacc) ∧ B2 D = none ∧ ¬ U F2 D,
      fun H4 p4 => ⟨ds.length - (i + 1), by omega, rfl, p4.1, p4.2⟩, fun x H3 y => ?_⟩
    obtain ⟨B3, nw3, d3⟩ := yl x H3 y
    have hD3 : H3 D = some (.lst vacc) := nw3.hh D _ hD2
    have bD3 : B3 D = none := nw3.fr D (by rw [hD2]; exact fun z => nomatch z) bD2
    refine ⟨B3, ρ3, F2, d, S2.new nw3, d3, ρ4, eg, fun σ5 F5 u5 S5 w5 => ?_⟩
    have hw : wipe σ5 vs = wipe σ vs := by
      refine wipe_eq (w5.2.trans (wipe_length _ _)) fun j z => ?_
      rw [w5.1 j (fun y => z (hj j y)), wipe_out z]
    have E5 : Ext B H (U F) B3 H3 (U F5) := (E2.trans nw3.ext).less u5
    have fD5 : ¬ U F5 D := fun z => fD2 (u5 D z)
    have hn3 : H3 D ≠ none := by rw [hD3]; exact fun z => nomatch z
    refine ⟨hw, B3, ρ4, F5, S5, b, ρ5, et, fun B6 H6 F6 E6 S6 P6 => ?_⟩
    have hD6 : H6 D = some (.lst vacc) := E6.fr D _ hD3 fD5
    have hn6 : H6 D ≠ none := by rw [hD6]; exact fun z => nomatch z
    have bD6 : B6 D = none := E6.nb D hn3 fD5 bD3
    have fD6 : ¬ U F6 D := E6.nf D hn3 fD5
    cases b with
    | false =>
      have e3 : lcGo g mt me vs (ds.drop (i + 1)) (wipeR ρ5 vs) = some (r, ρ2) := e2
      refine iteF ⟨hlt, B6, _, F6, acc, vacc, r, E5.trans E6, (b12.trans nw3.bb).trans E6.bb, ?_, e3, er, da.mono (nw3.bb.trans E6.bb), hD6, bD6, fD6⟩
      rw [← hw]
      exact S6.wiped vs
    | true =>
      obtain ⟨⟨x7, ρ7⟩, ex, e2⟩ := ob (show (me ρ5).bind _ = some (r, ρ2) from e2)
      obtain ⟨⟨d7, ρ8⟩, ed, e2⟩ := ob e2
      obtain ⟨⟨r', ρ9⟩, e9, e2⟩ := ob e2
      cases e2
      refine iteT ⟨B6, ρ5, F6, S6, x7, ρ7, ex, fun v7 B7 H7 F7 E7 S7 A7 P7 => ?_⟩
      obtain ⟨B8, F8, E8, S8, d8⟩ := S7.frzA A7 ed
      have hD7 : H7 D = some (.lst vacc) := E7.fr D _ hD6 fD6
      have hn7 : H7 D ≠ none := by rw [hD7]; exact fun z => nomatch z
      have bD7 : B7 D = none := E7.nb D hn6 fD6 bD6
      have fD7 : ¬ U F7 D := E7.nf D hn6 fD6
      have bD8 : B8 D = none := E8.nb D hn7 fD7 bD7
      have fD8 : ¬ U F8 D := E8.nf D hn7 fD7
      have hup : ∀ a o, H7 a = some o → a ≠ D → upd H7 D (.lst (vacc ++ [v7])) a = some o := fun a o z n => by rw [upd_ne n]; exact z
      have hbu : Ex B8 (upd H7 D (.lst (vacc ++ [v7]))) := fun a o z => hup a o (S8.bh a o z) fun y => by rw [y, bD8] at z; cases z
      have hlen : acc.length + 1 ≤ es.length := by rw [← er, List.length_append, List.length_cons]; omega
      have hsm : es.length ≤ 100000 := of_decide_eq_true (show small es = true by simpa using esm)
      refine ⟨vacc, hD7, by rw [← da.len]; exact Nat.lt_of_lt_of_le (Nat.lt_of_succ_le (Nat.le_trans hlen hsm)) (by decide), hlt, B8, wipeR ρ8 vs, F8, acc ++ [d7], vacc ++ [v7], r', ?_, ((b12.trans nw3.bb).trans E6.bb).trans (E7.bb.trans E8.bb), ?_, e9, by rw [List.append_assoc]; exact er,
        (da.mono ((nw3.bb.trans E6.bb).trans (E7.bb.trans E8.bb))).app (DatL.cons d8 DatL.nil), upd_same, bD8, fD8⟩
      · have EE := ((E5.trans E6).trans E7).trans E8
        have bD0 : ¬ U F D → H D = none := hDH
        refine ⟨EE.bb, fun a o z n => hup a o (EE.fr a o z n) fun y => ?_, EE.nb, EE.nf⟩
        rw [y] at z n
        rw [hDH n] at z
        cases z
      · rw [← hw]
        refine St.wiped ⟨hbu, fun j t z => ?_, S8.nb, fun j a z => ?_, S8.dj, S8.ln⟩ vs
        · obtain ⟨v, g1, g2⟩ := S8.sl j t z
          exact ⟨v, g1, g2.frame (Ex.refl _) fun a o z q => hup a o q fun y => fD8 ⟨j, y ▸ z⟩⟩
        · have nD : a ≠ D := fun y => fD8 ⟨j, y ▸ z⟩
          rw [upd_ne nD]
          exact S8.al j a z
  · have ei : i = ds.length := by omega
    subst ei
    rw [List.drop_length] at e2
    cases (show some ([], ρ3) = some (r, ρ2) from e2)
    rw [List.append_nil] at er
    subst er
    refine Or.inl ⟨wk.stop B2 H2 b12 S2.bh, ?_⟩
    obtain ⟨F3, u3, S3⟩ := S1.rested (b12) (vs := vs) S2.unwiped
    refine k (.ref D) B2 H2 F3 (fun a => a = D) (E2.less' u3 hDH) S3 ⟨⟨D, vacc, rfl, rfl, hD2, OwnL.of_dat da⟩, (fun a z => by rw [z]; exact bD2), (fun a z => by rw [z, hD2]; exact fun y => nomatch y), fun i a z y => fD2 (u3 D ⟨i, by rw [z] at y; exact y⟩)⟩
theorem o_lc {elt tg iter : Expr} {ifs : List Expr} {scope : Scope} {own : List (Str × Nat)} {mi : MI} {g : MG} {mt : MT} {me : M} (hc : X.calm = true) (hN : X.N.Nodup) (hi : PI X tg iter (tI X.K mi)) (ok : BlkOk X.N X.env.scope scope own)
    (hg : ∀ (s : Shared) (H : Hp) (C : Addr) (cl : List (Str × Addr)) (fp : List Addr), PG (X.blk s H scope (compEnvC scope cl C X.env) fp) tg (tG X.K js g)) (ht : ∀ (s : Shared) (H : Hp) (C : Addr) (cl : List (Str × Addr)) (fp : List Addr), PTs (X.blk s H scope (compEnvC scope cl C X.env) fp) ifs (tT X.K p mt))
    (he : ∀ (s : Shared) (H : Hp) (C : Addr) (cl : List (Str × Addr)) (fp : List Addr), PE (X.blk s H scope (compEnvC scope cl C X.env) fp) elt (tE X.K q me)) (hjs : js.all (fun j => (own.map (·.2)).contains j) = true := by rfl) (hs : ∀ x, foldedSetIterable iter X.env x = pure x := by intro _; rfl) :
    PE X (.ListComp elt [⟨tg, iter, ifs, 0⟩] scope pos) (tO X.K (oLc mi g mt me (own.map (·.2)))) := peW (pe_lc hc hN hi ok hg ht he hs) fun _ _ _ h => tO_lc hjs h
/-- y = [..] -/
theorem s_asgLc {i : Nat} {y : Str} {py spos : Pos} {elt tg iter : Expr} {ifs : List Expr} {scope : Scope} {own : List (Str × Nat)} {mi : MI} {g : MG} {mt : MT} {me : M} (hc : X.calm = true) (hN : X.N.Nodup) (hy : X.N[i]? = some y) (hyl : X.env.scope.names.lookup y = some .local)
    (hsw : swapsWith (.ListComp elt [⟨tg, iter, ifs, 0⟩] scope pos) (some (.Name y py)) spos.line X.env = pure true) (hi : PI X tg iter (tI X.K mi)) (ok : BlkOk X.N X.env.scope scope own)
    (hg : ∀ (s : Shared) (H : Hp) (C : Addr) (cl : List (Str × Addr)) (fp : List Addr), PG (X.blk s H scope (compEnvC scope cl C X.env) fp) tg (tG X.K js g)) (ht : ∀ (s : Shared) (H : Hp) (C : Addr) (cl : List (Str × Addr)) (fp : List Addr), PTs (X.blk s H scope (compEnvC scope cl C X.env) fp) ifs (tT X.K p mt))
    (he : ∀ (s : Shared) (H : Hp) (C : Addr) (cl : List (Str × Addr)) (fp : List Addr), PE (X.blk s H scope (compEnvC scope cl C X.env) fp) elt (tE X.K q me)) (hjs : js.all (fun j => (own.map (·.2)).contains j) = true := by rfl) (hio : io i = false := by rfl) (hs : ∀ x, foldedSetIterable iter X.env x = pure x := by intro _; rfl) :
    PS X (.Assign [.Name y py] (.ListComp elt [⟨tg, iter, ifs, 0⟩] scope pos) spos) (tS X.K io (sAs i (oLc mi g mt me (own.map (·.2))))) := psW (ps_setLc hc hN hy hyl hsw hi ok hg ht he hs) fun D σ H h => by
  obtain ⟨B, ρ, F, S, fl, ρ', e, k⟩ := tS_eq.mp h
  obtain ⟨⟨x, ρ1⟩, ea, e⟩ := ob e
  obtain ⟨ρ2, ep, e⟩ := ob e
  cases e
  refine tO_lc (p := p) (q := q) hjs ⟨B, ρ, F, S, x, ρ1, ea, fun v B1 H1 F1 G E1 S1 O1 => ?_⟩
  obtain ⟨F2, u2, S2⟩ := put_own S1 O1 ep
  exact k _ B1 H1 F2 (E1.less u2) S2 fun j z => List.getElem?_set_ne (fun y => by subst y; rw [hio] at z; cases z)
end
end DL

end

section
set_option Elab.async false
set_option linter.all false
set_option maxRecDepth 100000
set_option maxHeartbeats 2000000
namespace DL
open PySem L2

/-! ### what is ours, changed -/
abbrev FM := DK → List T → List D → Option (D × DK × List T)
def mutAt (f : FM) (i : Nat) (π : List Nat) (ds : List D) (ρ : Env) : Option (D × Env) := (ρ.t i).bind fun t => (tAt π t).bind fun s => match s with
  | .nd k ts => (f k ts ds).bind fun r => some (r.1, ρ.set i (some (tSet π (.nd r.2.1 r.2.2) t)))
  | .fz _ => none
/-- a change of a node, told by its values -/
def MutR (K : PySem.W.Frag) (r : V → List V → Hp → VK → Prop) (f : FM) : Prop := ∀ (B H : Hp) (G : Addr → Prop) (k k' : DK) (ts ts' : List T) (l : Addr) (vs ws : List V) (ds : List D) (g : D) (Q : VK), Ex B H → B l = none → OwnN H k l vs → OwnL K B H G ts vs → DatL K B ds ws → f k ts ds = some (g, k', ts') →
  (∀ v o vs', Dat K B g v → OwnN (upd H l o) k' l vs' → OwnL K B H G ts' vs' → Q v (upd H l o)) → r (.ref l) ws H Q
section
variable {K : PySem.W.Frag} {B B' H H' : Hp} {σ : L2.St} {ρ ρ' : Env} {F F' : Nat → Addr → Prop}
theorem ArgOk.path {i : Nat} {π : List Nat} {v : V} {t : T} (S : St K B H σ ρ F) (h : ArgOk K B H σ ρ (.rf i π) v) (e : ρ.t i = some t) : ∃ w, σ[i]? = some (some w) ∧ PathV H π t w v := by
  cases π with
  | nil => exact ⟨v, h, rfl⟩
  | cons j π =>
    obtain ⟨w, t', h1, h2, h3⟩ := h
    rw [e] at h2
    cases h2
    exact ⟨w, h1, h3⟩
theorem mut_core {f : FM} (S : St K B H σ ρ F) {i : Nat} {π : List Nat} {v : V} {ds : List D} {g : D} {P : V → Prop} (A : ArgOk K B H σ ρ (.rf i π) v) (e : mutAt f i π ds ρ = some (g, ρ'))
    (R : ∀ (G : Addr → Prop) k k' ts ts' l vs, B l = none → OwnN H k l vs → OwnL K B H G ts vs → f k ts ds = some (g, k', ts') → (∀ o vs', OwnN (upd H l o) k' l vs' → OwnL K B H G ts' vs' → Ext B H (U F) B (upd H l o) (U F) ∧ St K B (upd H l o) σ ρ' F) → P (.ref l)) : P v := by
  obtain ⟨t, e1, e⟩ := ob e
  obtain ⟨s, e2, e⟩ := ob e
  obtain ⟨w, a1, a2⟩ := A.path S e1
  obtain ⟨w', b1, b2⟩ := S.sl i t (Env.t_some e1)
  rw [a1] at b1
  cases b1
  obtain ⟨G1, g1, g2, g3⟩ := own_upd b2 a2 e2
  cases s with
  | fz d => cases (show none = some (g, ρ') from e)
  | nd kk ts =>
    obtain ⟨⟨g', k', ts'⟩, e3, e⟩ := ob (show (f kk ts ds).bind _ = some (g, ρ') from e)
    cases e
    obtain ⟨l, vs, rfl, h2, h3, h4⟩ := g2
    have hBl : B l = none := S.nb i l (g1 l h2)
    have hi : i < ρ.length := (List.getElem?_eq_some_iff.mp (Env.t_some e1)).1
    refine R _ kk k' ts ts' l vs hBl h3 h4 e3 fun o vs' on ol => ?_
    have up : ∀ a u, a ≠ l → H a = some u → upd H l o a = some u := fun a u n z => by rw [upd_ne n]; exact z
    have bh' : Ex B (upd H l o) := fun a u z => up a u (fun y => by rw [y, hBl] at z; cases z) (S.bh a u z)
    refine ⟨⟨Ex.refl _, fun a u z n => up a u (fun y => n ⟨i, by rw [y]; exact g1 l h2⟩) z, fun _ _ _ z => z, fun _ _ z => z⟩, ?_⟩
    refine ⟨bh', fun j u z => ?_, S.nb, fun j a z => ?_, S.dj, by rw [List.length_set]; exact S.ln⟩
    · by_cases y : j = i
      · subst y
        rw [List.getElem?_set_self hi] at z
        cases z
        refine ⟨w, a1, g3 B (upd H l o) _ (Ex.refl _) (fun a u _ n q => up a u (fun y => n (by rw [y]; exact h2)) q) ⟨l, vs', rfl, h2, on, ol.frame (Ex.refl _) fun a u z q => up a u z.2 q⟩⟩
      · rw [List.getElem?_set_ne (Ne.symm y)] at z
        obtain ⟨v', c1, c2⟩ := S.sl j u z
        exact ⟨v', c1, c2.frame (Ex.refl _) fun a u z q => up a u (fun x => S.dj j i a y z (by rw [x]; exact g1 l h2)) q⟩
    · by_cases y : a = l
      · rw [y, upd_same]; exact fun z => nomatch z
      · rw [upd_ne y]; exact S.al j a z
theorem mut_sound {r : V → List V → Hp → VK → Prop} {f : FM} (R : MutR K r f) (S : St K B H σ ρ F) {i : Nat} {π : List Nat} {v : V} {ds : List D} {ws : List V} {g : D} {Q : VK} (A : ArgOk K B H σ ρ (.rf i π) v) (hd : DatL K B ds ws) (e : mutAt f i π ds ρ = some (g, ρ'))
    (k : ∀ x H', Ext B H (U F) B H' (U F) → St K B H' σ ρ' F → Dat K B g x → Q x H') : r v ws H Q :=
  mut_core (P := fun v => r v ws H Q) S A e fun G kk k' ts ts' l vs bl on ol e3 st => R B H G kk k' ts ts' l vs ws ds g Q S.bh bl on ol hd e3 fun x o vs' dx on' ol' => k x _ (st o vs' on' ol').1 (st o vs' on' ol').2 dx
def Arg.isVl : Arg → Bool
  | .vl _ => true
  | _ => false
theorem frzL_vl : ∀ {as : List Arg} {x : List D × Env}, as.all Arg.isVl = true → frzL ρ as = some x → x.2 = ρ
  | [], x, _, e => by cases (show some ([], ρ) = some x from e); rfl
  | .vl d :: as, x, h, e => by
    obtain ⟨y, e1, e⟩ := ob e
    cases (show some (d, ρ) = some y from e1)
    obtain ⟨z, e2, e⟩ := ob e
    cases e
    have h' : as.all Arg.isVl = true := by rw [List.all_cons] at h; exact (Bool.and_eq_true_iff.mp h).2
    show z.2 = ρ
    exact frzL_vl h' e2
  | .rf _ _ :: as, x, h, e => by
    rw [List.all_cons] at h
    cases h
/-- frozen arguments behind a place -/
theorem frz_behind {x : Arg} {v : V} {as : List Arg} {vs : List V} {ds : List D} (S : St K B H σ ρ F) (A : ArgOk K B H σ ρ x v) (As : ArgsOk K B H σ ρ as vs) (g : (x.deep && !as.all Arg.isVl) = false) (e : frzL ρ as = some (ds, ρ')) :
    ∃ B' F', Ext B H (U F) B' H (U F') ∧ St K B' H σ ρ' F' ∧ DatL K B' ds vs ∧ ArgOk K B' H σ ρ' x v := by
  obtain ⟨B1, F1, E1, S1, d1⟩ := frzL_sound S As e
  refine ⟨B1, F1, E1, S1, d1, A.keep E1.bb fun z => ⟨?_, Ex.refl _⟩⟩
  rw [z] at g
  exact frzL_vl (by simpa using g) e
end
def derefT (ρ : Env) : Arg → Option T
  | .vl d => some (.fz d)
  | .rf i π => (ρ.t i).bind (tAt π)
def tyA (T : String) (ρ : Env) (a : Arg) : Bool := match derefT ρ a with
  | some (.nd .lst _) => T == "list"
  | some (.nd (.dic _) _) => T == "dict"
  | _ => false
section
variable {X : Cx} {p q : Bool} {pos : Pos} {io : Nat → Bool}
theorem ty_sound {K : PySem.W.Frag} {B H : Hp} {σ : L2.St} {ρ : Env} {F : Nat → Addr → Prop} {T : String} {a : Arg} {v : V} (S : St K B H σ ρ F) (A : ArgOk K B H σ ρ a v) (e : tyA T ρ a = true) : tyV K T v H := by
  unfold tyA at e
  cases a with
  | vl d => cases (show false = true from e)
  | rf i π =>
    cases q : derefT ρ (.rf i π) with
    | none => rw [q] at e; cases e
    | some s =>
      rw [q] at e
      obtain ⟨t, e1, e2⟩ := ob (show (ρ.t i).bind (tAt π) = some s from q)
      obtain ⟨w, a1, a2⟩ := A.path S e1
      obtain ⟨w', b1, b2⟩ := S.sl i t (Env.t_some e1)
      rw [a1] at b1
      cases b1
      obtain ⟨G1, g1, g2, g3⟩ := own_upd b2 a2 e2
      cases s with
      | fz _ => cases e
      | nd k ts =>
        obtain ⟨l, vs, rfl, h2, h3, h4⟩ := g2
        cases k with
        | tup => exact h3.elim
        | lst => exact Or.inl ⟨by simpa using e, vs, SqL.of h3⟩
        | ll => cases e
        | dic ks => exact Or.inr (Or.inr (Or.inl ⟨by simpa using e, Or.inl ⟨_, h3.2⟩⟩))
def eMu (T : String) (q : Bool) (f : FM) (o : M) (as : MA) : M := fun ρ => (o ρ).bind fun x => if (!tyA T x.2 x.1) = true then none else (as x.2).bind fun y => if guard q x.1 = true then none else if (x.1.deep && !y.1.all Arg.isVl) = true then none else
  match x.1 with
  | .rf i π => (frzL y.2 y.1).bind fun z => (mutAt f i π z.1 z.2).bind fun r => some (.vl r.1, r.2)
  | .vl _ => none
theorem tE_mu {K : PySem.W.Frag} {T : String} {r : V → List V → Hp → VK → Prop} {f : FM} {mo : M} {ms : MA} (R : MutR K r f) {σ : L2.St} {H : Hp} {Q : VK} (h : tE K false (eMu T q f mo ms) σ H Q) : tBM K T r (tE K p mo) (tA K q ms) σ H Q := by
  obtain ⟨B, ρ, F, S, a, ρ', e, k⟩ := h
  obtain ⟨⟨x, ρ1⟩, ea, e⟩ := ob e
  obtain ⟨et, e⟩ := og e
  obtain ⟨⟨ys, ρ2⟩, eb, e⟩ := ob e
  obtain ⟨eg, e⟩ := og e
  obtain ⟨eh, e⟩ := og e
  refine ⟨B, ρ, F, S, x, ρ1, ea, fun v B1 H1 F1 E1 S1 A1 P1 => ⟨ty_sound S1 A1 (by simpa using et), B1, ρ1, F1, S1, ys, ρ2, eb, fun vs B2 H2 F2 E2 S2 A2 P2 => ?_⟩⟩
  have A1' := A1.keep (B' := B2) (ρ' := ρ2) (H' := H2) E2.bb (guard_keep eg P2)
  cases x with
  | vl d => cases (show none = some (a, ρ') from e)
  | rf i π =>
    obtain ⟨⟨ds, ρ3⟩, ed, e⟩ := ob (show (frzL ρ2 ys).bind _ = some (a, ρ') from e)
    obtain ⟨⟨g, ρ4⟩, em, e⟩ := ob e
    cases e
    obtain ⟨B3, F3, E3, S3, d3, A3⟩ := frz_behind S2 A1' A2 eh ed
    exact mut_sound R S3 A3 d3 em fun x H' E' S' dx => k x B3 H' F3 (((E1.trans E2).trans E3).trans E') S' dx fun z => nomatch z
theorem c_mu {o e : Expr} {es : List Expr} {name : Str} {apos : Pos} {T id : String} {r : V → List V → Hp → VK → Prop} {f : FM} {mo : M} {ms : MA} (pa : PlainAttrs T) (slot : Slot T name id) (hty : typeOf (.builtin id) = pure (.type "method_descriptor")) (hm : MtR X id r) (R : MutR X.K r f)
    (ho : PE X o (tE X.K p mo)) (ha : PA X (e :: es) (tA X.K q ms))
    (hbase : attributeBase o name X.env (eval o X.env) = eval o X.env := by rfl)
    (hfew : ((backTo pos (starEach (e :: es) X.env)).all (fun x => !x.1) && (backToKw pos (keywordEach [] X.env)).all (fun x => x.1.isSome)
      && decide ((e :: es).length + ([] : List Keyword).length + (if ([] : List Keyword).isEmpty then 0 else 1) < 30)) = true := by rfl)
    (hline : (apos.endLine == pos.line) = true := by rfl) (hs : starEach (e :: es) X.env = (false, eval e X.env) :: starEach es X.env := by rfl) (hplain : (backTo pos (starEach es X.env)).any (·.1) = false := by rfl) :
    PE X (.Call (.Attribute o name apos) (e :: es) [] pos) (tE X.K false (eMu T q f mo ms)) := peW (pe_bm pa slot hty hm ho ha hbase hfew hline hs hplain) fun _ _ _ h => tE_mu R h
/-- without arguments -/
theorem c_mu0 {o : Expr} {name : Str} {apos : Pos} {T id : String} {r : V → List V → Hp → VK → Prop} {f : FM} {mo : M} (pa : PlainAttrs T) (slot : Slot T name id) (hty : typeOf (.builtin id) = pure (.type "method_descriptor")) (hm : MtR X id r) (R : MutR X.K r f)
    (ho : PE X o (tE X.K p mo)) (hbase : attributeBase o name X.env (eval o X.env) = eval o X.env := by rfl) (hline : (apos.endLine == pos.line) = true := by rfl) :
    PE X (.Call (.Attribute o name apos) [] [] pos) (tE X.K false (eMu T true f mo mNil)) := peW (pe_bm0 pa slot hty hm ho hbase hline) fun σ H Q h => by
  have h' := tE_mu (p := p) (q := true) R h
  obtain ⟨B, ρ, F, S, x, ρ1, ea, k⟩ := h'
  refine ⟨B, ρ, F, S, x, ρ1, ea, fun v B1 H1 F1 E1 S1 A1 P1 => ?_⟩
  obtain ⟨k1, B2, ρ2, F2, S2, as, ρ3, e3, k2⟩ := k v B1 H1 F1 E1 S1 A1 P1
  cases (show some ([], ρ2) = some (as, ρ3) from e3)
  exact ⟨k1, k2 [] B2 H1 F2 Ext.refl S2 rfl fun _ => ⟨rfl, rfl, Ex.refl _⟩⟩
/-! o[i] = e -/
def SetR (K : PySem.W.Frag) (t : TSet) (f : FM) : Prop := ∀ (B H : Hp) (G : Addr → Prop) (k k' : DK) (ts ts' : List T) (l : Addr) (vs : List V) (iv v : V) (di dv g : D) (Q : Hp → Prop), Ex B H → B l = none → OwnN H k l vs → OwnL K B H G ts vs → Dat K B di iv → Dat K B dv v → f k ts [di, dv] = some (g, k', ts') →
  (∀ o vs', OwnN (upd H l o) k' l vs' → OwnL K B H G ts' vs' → Q (upd H l o)) → t (.ref l) iv v H Q
def sSub (q : Bool) (f : FM) (e o i : M) : MS := fun ρ => (e ρ).bind fun v => if v.1.deep = true then none else (o v.2).bind fun x => (i x.2).bind fun y => if guard q x.1 = true then none else if (x.1.deep && !(y.1.isVl && v.1.isVl)) = true then none else
  match x.1 with
  | .rf j π => (frzL y.2 [y.1, v.1]).bind fun z => (mutAt f j π z.1 z.2).bind fun r => some (.nx, r.2)
  | .vl _ => none
theorem s_sub {r1 : Bool} {o i e : Expr} {po : Pos} {t : TSet} {f : FM} {me mo mi : M} (hs : PSet X t) (R : SetR X.K t f) (he : PE X e (tE X.K r1 me)) (ho : PE X o (tE X.K p mo)) (hi : PE X i (tE X.K q mi))
    (ha : ∀ v, assign (.Subscript o i po) X.env v = (do
      let ov ← holding [v] (eval o X.env)
      let iv ← holding [v, ov] (eval i X.env)
      standAt po
      holding [v, ov, iv] (setItem ov iv v)
      release [v, ov, iv] []) := by intro _; rfl)
    (hsw : swapsWithSole [.Subscript o i po] e pos.line X.env = pure false := by rfl) (hw : swappedStores [.Subscript o i po] e X.env = pure none := by rfl)
    (h1 : (assignEach [.Subscript o i po] X.env).map (·.2) = [assign (.Subscript o i po) X.env] := by rfl) : PS X (.Assign [.Subscript o i po] e pos) (tS X.K io (sSub q f me mo mi)) := psW (ps_asg he (pg_sub ho hi hs ha) hsw hw h1) fun Z σ H h => by
  obtain ⟨B, ρ, F, S, fl, ρ', e, k⟩ := tS_eq.mp h
  obtain ⟨⟨xv, ρ1⟩, ev, e⟩ := ob e
  obtain ⟨g0, e⟩ := og e
  obtain ⟨⟨xo, ρ2⟩, eo, e⟩ := ob e
  obtain ⟨⟨xi, ρ3⟩, ei, e⟩ := ob e
  obtain ⟨g1, e⟩ := og e
  obtain ⟨g2, e⟩ := og e
  refine ⟨B, ρ, F, S, xv, ρ1, ev, fun v1 B1 H1 F1 E1 S1 A1 P1 => ⟨B1, ρ1, F1, S1, xo, ρ2, eo, fun v2 B2 H2 F2 E2 S2 A2 P2 => ⟨B2, ρ2, F2, S2, xi, ρ3, ei, fun v3 B3 H3 F3 E3 S3 A3 P3 => ?_⟩⟩⟩
  have A2' := A2.keep (B' := B3) (ρ' := ρ3) (H' := H3) E3.bb (guard_keep g1 P3)
  have A1' := A1.keep (B' := B3) (ρ' := ρ3) (H' := H3) (E2.bb.trans E3.bb) fun z => by rw [show xv.deep = false from g0] at z; cases z
  cases xo with
  | vl d => cases (show none = some (fl, ρ') from e)
  | rf j π =>
    obtain ⟨⟨ds, ρ4⟩, ed, e⟩ := ob (show (frzL ρ3 [xi, xv]).bind _ = some (fl, ρ') from e)
    obtain ⟨⟨g, ρ5⟩, em, e⟩ := ob e
    cases e
    obtain ⟨B4, F4, E4, S4, d4, A4⟩ := frz_behind (as := [xi, xv]) (vs := [v3, v1]) S3 A2' ⟨v3, _, rfl, A3, v1, _, rfl, A1', rfl⟩ (by simpa [List.all_cons] using g2) ed
    obtain ⟨di, dv, rfl⟩ : ∃ di dv, ds = [di, dv] := by
      obtain ⟨y, _, e⟩ := ob ed
      obtain ⟨z, ez, e⟩ := ob e
      obtain ⟨y2, _, ez⟩ := ob ez
      obtain ⟨z2, ez2, ez⟩ := ob ez
      cases (show some ([], y2.2) = some z2 from ez2)
      cases ez
      cases e
      exact ⟨_, _, rfl⟩
    obtain ⟨_, _, q1, hi, _, _, q2, hv, q3⟩ := d4
    cases q1
    cases q2
    exact mut_core (P := fun v => t v v3 v1 H3 fun H' => Z.nx σ H') S4 A4 em fun G kk k' ts ts' l vs bl on ol e3 st => R B4 H3 G kk k' ts ts' l vs v3 v1 di dv g _ S4.bh bl on ol hi hv e3 fun o vs' on' ol' =>
      k σ B4 _ F4 ((((E1.trans E2).trans E3).trans E4).trans (st o vs' on' ol').1) (st o vs' on' ol').2 fun _ _ => rfl
end
end DL

end

section
set_option Elab.async false
set_option linter.all false
set_option maxRecDepth 100000
set_option maxHeartbeats 2000000
namespace DL
open PySem L2

/-! ### calls that change what the slot i holds (the first argument) -/
def oIO (fn : Fn) (i : Nat) (as : MA) : MO := fun ρ => (ρ.t i).bind fun _ => (as ρ).bind fun y => (frzL y.2 y.1).bind fun z => (z.2.t i).bind fun t => (fn (t :: z.1.map .fz)).bind fun r => match r.2 with
  | t' :: _ => some (r.1, z.2.set i (some t'))
  | [] => none
section
variable {X : Cx} {p q : Bool} {pos : Pos}
theorem tO_io {K : PySem.W.Frag} {n : Nat} {fn : Fn} {i : Nat} {ms : MA} {σ : L2.St} {H : Hp} {Q : VK} {E : XK} (hn : ∀ ρ y, ms ρ = some y → y.1.length + 1 = n) (h : tO K (oIO fn i ms) σ H Q) :
    tCall (spF K n fn) [] E (tCons (tVar i) (tA K p ms)) σ H Q := by
  obtain ⟨B, ρ, F, S, t0, ρ', e, k⟩ := h
  obtain ⟨u, eu, e⟩ := ob e
  obtain ⟨⟨ys, ρ1⟩, ea, e⟩ := ob e
  obtain ⟨⟨ds, ρ2⟩, ed, e⟩ := ob e
  obtain ⟨t, et, e⟩ := ob e
  obtain ⟨⟨r, ts'⟩, er, e⟩ := ob e
  cases ts' with
  | nil => cases (show none = some (t0, ρ') from e)
  | cons t' rest =>
    cases (show some (r, ρ2.set i (some t')) = some (t0, ρ') from e)
    obtain ⟨v, hv, _⟩ := S.sl i u (Env.t_some eu)
    refine ⟨v, hv, B, ρ, F, S, ys, ρ1, ea, fun vs B1 H1 F1 E1 S1 A1 P1 => ?_⟩
    show spF K n fn ((v :: vs) ++ []) H1 Q E
    rw [List.append_nil]
    obtain ⟨B2, F2, E2, S2, d2⟩ := frzL_sound S1 A1 ed
    obtain ⟨v', hv', o2⟩ := S2.sl i t (Env.t_some et)
    rw [hv] at hv'
    cases hv'
    have hi : i < ρ2.length := (List.getElem?_eq_some_iff.mp (Env.t_some et)).1
    have hlen : (v :: vs).length = n := by
      have h1 := hn _ _ ea
      have h2 := d2.len
      have h3 : ys.length = ds.length := by
        have : ∀ {as : List Arg} {ρ : Env} {x : List D × Env}, frzL ρ as = some x → as.length = x.1.length := by
          intro as
          induction as with
          | nil => intro ρ x e; cases (show some ([], ρ) = some x from e); rfl
          | cons a as ih =>
            intro ρ x e
            obtain ⟨y, e1, e⟩ := ob e
            obtain ⟨z, e2, e⟩ := ob e
            cases e
            rw [List.length_cons, List.length_cons, ih e2]
        exact this ed
      rw [List.length_cons]
      simp only at h1
      omega
    refine ⟨B2, t :: ds.map .fz, fun j => if j = 0 then F2 i else fun _ => False, hlen, ⟨S2.bh, fun j u z => ?_, fun j a z => ?_, fun j a z => ?_, fun j l a ne z => ?_, by simp [d2.len]⟩, _, t' :: rest, er, fun x B3 H3 F3 G3 E3 S3 O3 => ?_⟩
    · cases j with
      | zero =>
        cases z
        exact ⟨v, rfl, by rw [if_pos rfl]; exact o2⟩
      | succ j =>
        have z' : ((ds.map T.fz).map some)[j]? = some (some u) := z
        rw [List.getElem?_map, List.getElem?_map] at z'
        cases q : ds[j]? with
        | none => rw [q] at z'; cases z'
        | some d =>
          rw [q] at z'
          cases z'
          obtain ⟨w, h1, h2⟩ := d2.get q
          exact ⟨w, by show (vs.map some)[j]? = _; rw [List.getElem?_map, h1]; rfl, h2⟩
    · by_cases y : j = 0
      · rw [if_pos y] at z; exact S2.nb i a z
      · rw [if_neg y] at z; exact z.elim
    · by_cases y : j = 0
      · rw [if_pos y] at z; exact S2.al i a z
      · rw [if_neg y] at z; exact z.elim
    · by_cases y : j = 0
      · by_cases y2 : l = 0
        · exact absurd (y.trans y2.symm) ne
        · rw [if_neg y2]; exact fun q => q
      · rw [if_neg y] at z; exact z.elim
    · have uc : ∀ a, ¬ F2 i a → ¬ U (fun j => if j = 0 then F2 i else fun _ => False) a := fun a n ⟨j, z⟩ => by
        have z : (if j = 0 then F2 i else fun _ => False) a := z
        by_cases y : j = 0
        · rw [if_pos y] at z; exact n z
        · rw [if_neg y] at z; exact z
      obtain ⟨v3, k1, k2⟩ := S3.sl 0 t' rfl
      cases (show some (some v) = some (some v3) from k1)
      -- what else is the frame's stays
      have hk : ∀ j, j ≠ i → ∀ a, F2 j a → ¬ F2 i a := fun j n a z => S2.dj j i a n z
      have S4 : St K B3 H3 σ (ρ2.set i (some t')) (fun j => if j = i then F3 0 else F2 j) := by
        refine ⟨S3.bh, fun j u z => ?_, fun j a z => ?_, fun j a z => ?_, fun j l a ne z => ?_, by rw [List.length_set]; exact S2.ln⟩
        · by_cases y : j = i
          · subst y
            rw [List.getElem?_set_self hi] at z
            cases z
            exact ⟨v, hv, by rw [if_pos rfl]; exact k2⟩
          · rw [List.getElem?_set_ne (Ne.symm y)] at z
            obtain ⟨w, c1, c2⟩ := S2.sl j u z
            refine ⟨w, c1, ?_⟩
            rw [if_neg y]
            exact c2.frame E3.bb fun a o z q => E3.fr a o q (uc a (hk j y a z))
        · by_cases y : j = i
          · rw [if_pos y] at z; exact S3.nb 0 a z
          · rw [if_neg y] at z; exact E3.nb a (S2.al j a z) (uc a (hk j y a z)) (S2.nb j a z)
        · by_cases y : j = i
          · rw [if_pos y] at z; exact S3.al 0 a z
          · rw [if_neg y] at z
            cases q : H1 a with
            | none => exact absurd q (S2.al j a z)
            | some o => rw [E3.fr a o q (uc a (hk j y a z))]; exact fun z => nomatch z
        · by_cases y : j = i
          · rw [if_pos y] at z
            have hl : l ≠ i := fun q => ne (y.trans q.symm)
            rw [if_neg hl]
            exact fun q => E3.nf a (S2.al l a q) (uc a (hk l hl a q)) (Or.inl ⟨0, z⟩)
          · rw [if_neg y] at z
            by_cases y2 : l = i
            · rw [if_pos y2]
              exact fun q => E3.nf a (S2.al j a z) (uc a (hk j y a z)) (Or.inl ⟨0, q⟩)
            · rw [if_neg y2]; exact S2.dj j l a ne z
      have EE : Ext B H (U F) B2 H1 (U F2) := E1.trans E2
      refine k x B3 H3 _ G3 ⟨EE.bb.trans E3.bb, fun a o z n => E3.fr a o (EE.fr a o z n) (uc a fun y => ?_), fun a z n y => ?_, fun a z n y => ?_⟩ S4 ⟨O3.own, O3.nb, O3.al, fun j a z => ?_⟩
      · exact EE.nf a (by rw [z]; exact fun q => nomatch q) n ⟨i, y⟩
      · have h1 : ¬ U F2 a := EE.nf a z n
        have h2 : H1 a ≠ none := by
          cases q : H a with
          | none => exact absurd q z
          | some o => rw [EE.fr a o q n]; exact fun z => nomatch z
        exact E3.nb a h2 (uc a fun q => h1 ⟨i, q⟩) (EE.nb a z n y)
      · have h1 : ¬ U F2 a := EE.nf a z n
        have h2 : H1 a ≠ none := by
          cases q : H a with
          | none => exact absurd q z
          | some o => rw [EE.fr a o q n]; exact fun z => nomatch z
        have h3 := E3.nf a h2 (uc a fun q => h1 ⟨i, q⟩)
        rcases y with ⟨j, y⟩ | y
        · by_cases w : j = i
          · rw [if_pos w] at y; exact h3 (Or.inl ⟨0, y⟩)
          · rw [if_neg w] at y; exact h1 ⟨j, y⟩
        · exact h3 (Or.inr y)
      · by_cases w : j = i
        · rw [if_pos w]; exact O3.dj 0 a z
        · rw [if_neg w]
          exact fun q => E3.nf a (S2.al j a q) (uc a (hk j w a q)) (Or.inr z)
theorem c_io {j kk n : Nat} {x y : Str} {fn : Fn} {po py : Pos} {es : List Expr} {ms : MA} (i : Nat) (G : Def X.prog X.w X.K X.mg X.base j x n fn) (hr : Room kk X.A) (ha : PA X es (tA X.K p ms)) (hn : ∀ ρ y, ms ρ = some y → y.1.length + 1 = n) (hN : X.N[i]? = some y := by rfl)
    (hv : Vis X.env.scope y := by first | exact Or.inl rfl | exact Or.inr (Or.inl rfl) | exact Or.inr (Or.inr rfl)) (hj : j ≤ kk := by decide) (hg : Gl X x := by rfl)
    (hdb : (x == ("__debug__" : Str)) = false := by decide) (hdy : (y == ("__debug__" : Str)) = false := by decide) (hcy : (y == ("__classdict__" : Str)) = false := by decide)
    (he : starEach (.Name y py :: es) X.env = (false, eval (.Name y py) X.env) :: starEach es X.env := by rfl) (hpl : (backTo pos (starEach es X.env)).any (·.1) = false := by rfl) :
    PE X (.Call (.Name x po) (.Name y py :: es) [] pos) (tO X.K (oIO fn i ms)) := by
  obtain ⟨f, fd, ps, F, h1, h2, h3⟩ := G
  exact peW (pe_call F (hr.mono hj) hg h1 h2 h3 .nil pass0 (pa_cons (pe_var hN hv hdy hcy) ha he) hdb he hpl) fun _ _ _ h => tO_io hn h
end
end DL

end

section
set_option Elab.async false
set_option linter.all false
set_option maxRecDepth 100000
set_option maxHeartbeats 2000000
namespace DL
open PySem L2

/-! ### operators on data -/
section
variable {X : Cx} {K : PySem.W.Frag}
theorem scalV {B H : Hp} {d : D} {v : V} (h : scal d = true) (k : Sh K B H d v) : Dat K B d v := by
  cases d with
  | nd _ _ => cases h
  | _ => exact k
def fI (c : Int → Int → Bool) (g : Int → Int → D) : D → D → Option D
  | .int i, .int j => if c i j = true then some (g i j) else none
  | _, _ => none
theorem opd_I {C : Int → Int → Prop} {g : Int → Int → V} {c : Int → Int → Bool} {g' : Int → Int → D} (hc : ∀ i j, c i j = true → C i j) (hg : ∀ B i j, Dat K B (g' i j) (g i j)) : OpD K (rI C g) (fI c g') := fun B H x y d e r Q b sx sy ef k => by
  match d, e, sx, sy, ef with
  | .int i, .int j, sx, sy, ef =>
    have ef' : (if c i j = true then some (g' i j) else none) = some r := ef
    by_cases z : c i j = true
    · rw [if_pos z] at ef'
      cases ef'
      exact ⟨i, j, sx, sy, hc i j z, k _ B H (New.refl b) (hg B i j)⟩
    · rw [if_neg z] at ef'; cases ef'
  | .int _, .non, _, _, ef => cases ef
  | .int _, .bl _, _, _, ef => cases ef
  | .int _, .str _, _, _, ef => cases ef
  | .int _, .nd _ _, _, _, ef => cases ef
  | .non, _, _, _, ef => cases ef
  | .bl _, _, _, _, ef => cases ef
  | .str _, _, _, _, ef => cases ef
  | .nd _ _, _, _, _, ef => cases ef
def tt2 : Int → Int → Bool := fun _ _ => true
theorem opd_I0 {g : Int → Int → V} {g' : Int → Int → D} (hg : ∀ B i j, Dat K B (g' i j) (g i j)) : OpD K (rI0 g) (fI tt2 g') := fun B H x y d e r Q b sx sy ef k => by
  obtain ⟨i, j, h1, h2, _, h3⟩ := opd_I (C := fun _ _ => True) (g := g) (fun _ _ _ => trivial) hg B H x y d e r Q b sx sy ef k
  exact ⟨i, j, h1, h2, h3⟩
/-! strs -/
def fSS (f : Str → Str → Option D) : D → D → Option D
  | .str i, .str j => f i j
  | _, _ => none
theorem shS {B H : Hp} {f : Str → Str → Option D} {d e r : D} {x y : V} (sx : Sh K B H d x) (sy : Sh K B H e y) (ef : fSS f d e = some r) : ∃ i j, x = .str i ∧ y = .str j ∧ f i j = some r := by
  match d, e, sx, sy, ef with
  | .str i, .str j, sx, sy, ef => exact ⟨i, j, sx, sy, ef⟩
  | .str _, .non, _, _, ef => cases ef
  | .str _, .bl _, _, _, ef => cases ef
  | .str _, .int _, _, _, ef => cases ef
  | .str _, .nd _ _, _, _, ef => cases ef
  | .non, _, _, _, ef => cases ef
  | .bl _, _, _, _, ef => cases ef
  | .int _, _, _, _, ef => cases ef
  | .nd _ _, _, _, _, ef => cases ef
/-! two nodes -/
def fNN (f : DK → List D → DK → List D → Option D) : D → D → Option D
  | .nd k ds, .nd l es => f k ds l es
  | _, _ => none
theorem shN {B H : Hp} (b : Ex B H) {f : DK → List D → DK → List D → Option D} {d e r : D} {x y : V} (sx : Sh K B H d x) (sy : Sh K B H e y) (ef : fNN f d e = some r) :
    ∃ k ds l es a vs b ws, x = .ref a ∧ y = .ref b ∧ DatN K H k a vs ∧ DatL K B ds vs ∧ DatN K H l b ws ∧ DatL K B es ws ∧ f k ds l es = some r := by
  match d, e, sx, sy, ef with
  | .nd k ds, .nd l es, sx, sy, ef =>
    obtain ⟨a, vs, h1, h2, h3⟩ := sx.nd b
    obtain ⟨c, ws, g1, g2, g3⟩ := sy.nd b
    exact ⟨k, ds, l, es, a, vs, c, ws, h1, g1, h2, h3, g2, g3, ef⟩
  | .nd _ _, .non, _, _, ef => cases ef
  | .nd _ _, .bl _, _, _, ef => cases ef
  | .nd _ _, .int _, _, _, ef => cases ef
  | .nd _ _, .str _, _, _, ef => cases ef
  | .non, _, _, _, ef => cases ef
  | .bl _, _, _, _, ef => cases ef
  | .int _, _, _, _, ef => cases ef
  | .str _, _, _, _, ef => cases ef
theorem sz {n : Nat} (h : decide (n ≤ 100000) = true) : n ≤ sizeLine := Nat.le_trans (of_decide_eq_true h) (by decide)
/-! + -/
def fCatS : D → D → Option D := fSS fun i j => if decide (i.length + j.length ≤ 100000) = true then some (.str (i ++ j)) else none
def fCatL : D → D → Option D := fNN fun k ds l es => if k = .lst ∧ l = .lst ∧ decide (ds.length + es.length ≤ 100000) = true then some (.nd .lst (ds ++ es)) else none
def fCatT : D → D → Option D := fNN fun k ds l es => if k = .tup ∧ l = .tup ∧ decide (ds.length + es.length ≤ 100000) = true then some (.nd .tup (ds ++ es)) else none
theorem opd_catS : OpD K (fun x y H Q => ∃ i j, x = .str i ∧ y = .str j ∧ i.length + j.length ≤ sizeLine ∧ Q (.str (i ++ j)) H) fCatS := fun B H x y d e r Q b sx sy ef k => by
  obtain ⟨i, j, rfl, rfl, ef⟩ := shS sx sy ef
  by_cases z : decide (i.length + j.length ≤ 100000) = true
  · rw [if_pos z] at ef
    cases ef
    exact ⟨i, j, rfl, rfl, sz z, k _ B H (New.refl b) rfl⟩
  · rw [if_neg z] at ef; cases ef
theorem opd_catL : OpD K rCat fCatL := fun B H x y d e r Q b sx sy ef k => by
  obtain ⟨kk, ds, l, es, p, vs, q, ws, rfl, rfl, h1, h2, g1, g2, ef⟩ := shN b sx sy ef
  by_cases z : kk = .lst ∧ l = .lst ∧ decide (ds.length + es.length ≤ 100000) = true
  · rw [if_pos z] at ef
    cases ef
    obtain ⟨rfl, rfl, z⟩ := z
    refine ⟨p, q, vs, ws, rfl, rfl, h1, g1, by rw [← h2.len, ← g2.len]; exact sz z, fun r hr => ?_⟩
    have n := New.lay (o := .lst (vs ++ ws)) b hr
    exact k _ _ _ n ⟨r, vs ++ ws, rfl, upd_same, (h2.mono n.bb).app (g2.mono n.bb)⟩
  · rw [if_neg z] at ef; cases ef
theorem opd_catT : OpD K (rCatA K) fCatT := fun B H x y d e r Q b sx sy ef k => by
  match d, e, sx, sy, ef with
  | .nd .tup ds, .nd .tup es, ⟨p, vs, h0, h1, h2⟩, ⟨q, ws, g0, g1, g2⟩, ef =>
    have ef' : (if DK.tup = .tup ∧ DK.tup = .tup ∧ decide (ds.length + es.length ≤ 100000) = true then some (D.nd .tup (ds ++ es)) else none) = some r := ef
    by_cases z : decide (ds.length + es.length ≤ 100000) = true
    · rw [if_pos ⟨rfl, rfl, z⟩] at ef'
      cases ef'
      subst h0 g0
      refine ⟨p, q, vs, ws, rfl, rfl, b.st h1, b.st g1, by rw [← h2.len, ← g2.len]; exact sz z, fun e => ?_, fun e1 e2 => ?_, fun e1 e2 t ht => ?_⟩
      · subst e
        have : ds = [] := List.length_eq_zero_iff.mp (h2.len.trans rfl)
        subst this
        exact k _ B H (New.refl b) ⟨q, ws, rfl, g1, g2⟩
      · subst e2
        have : es = [] := List.length_eq_zero_iff.mp (g2.len.trans rfl)
        subst this
        rw [List.append_nil] at k
        exact k _ B H (New.refl b) ⟨p, vs, rfl, h1, h2⟩
      · have n := New.lay (o := .tup (vs ++ ws)) b ht
        exact k _ _ _ n ⟨t, vs ++ ws, rfl, SqT.of upd_same, (h2.mono n.bb).app (g2.mono n.bb)⟩
    · rw [if_neg (fun y => z y.2.2)] at ef'; cases ef'
  | .nd .tup _, .nd .lst _, _, _, ef => simp [fCatT, fNN] at ef
  | .nd .tup _, .nd .ll _, _, _, ef => simp [fCatT, fNN] at ef
  | .nd .tup _, .nd (.dic _) _, _, _, ef => simp [fCatT, fNN] at ef
  | .nd .lst _, .nd _ _, _, _, ef => simp [fCatT, fNN] at ef
  | .nd .ll _, .nd _ _, _, _, ef => simp [fCatT, fNN] at ef
  | .nd (.dic _) _, .nd _ _, _, _, ef => simp [fCatT, fNN] at ef
  | .nd _ _, .non, _, _, ef => simp [fCatT, fNN] at ef
  | .nd _ _, .bl _, _, _, ef => simp [fCatT, fNN] at ef
  | .nd _ _, .int _, _, _, ef => simp [fCatT, fNN] at ef
  | .nd _ _, .str _, _, _, ef => simp [fCatT, fNN] at ef
  | .non, _, _, _, ef => simp [fCatT, fNN] at ef
  | .bl _, _, _, _, ef => simp [fCatT, fNN] at ef
  | .int _, _, _, _, ef => simp [fCatT, fNN] at ef
  | .str _, _, _, _, ef => simp [fCatT, fNN] at ef
/-! the operators as they stand -/
theorem OpR.mk {f : Value → Value → Sem Value} {r : R2} {g : D → D → Option D} (h : OpR X f r) (k : OpD X.K r g) : OpR X f r ∧ OpD X.K r g := ⟨h, k⟩
def fAddI : D → D → Option D := fI tt2 fun i j => .int (i + j)
def fAdd : D → D → Option D := fun d e => (fAddI d e).or ((fCatS d e).or ((fCatL d e).or (fCatT d e)))
theorem p_add : ∃ r, OpR X (binaryOp .Add) r ∧ OpD X.K r fAdd := ⟨_, OpR.or op_add (OpR.or op_add_str (OpR.or op_cat op_catA)), OpD.or (opd_I0 fun _ _ _ => rfl) (OpD.or opd_catS (OpD.or opd_catL opd_catT))⟩
def fSub : D → D → Option D := fI tt2 fun i j => .int (i - j)
theorem p_sub : ∃ r, OpR X (binaryOp .Sub) r ∧ OpD X.K r fSub := ⟨_, op_sub, opd_I0 fun _ _ _ => rfl⟩
def cMul (i j : Int) : Bool := (decide (-(2 ^ 64) < i) && decide (i < 2 ^ 64)) || (decide (-(2 ^ 64) < j) && decide (j < 2 ^ 64))
def fMulI : D → D → Option D := fI cMul fun i j => .int (i * j)
def fRep : D → D → Option D
  | .nd .lst ds, .int k => if decide (-(2 ^ 63) ≤ k ∧ k < 2 ^ 63 ∧ ds.length * k.toNat ≤ 100000) = true then some (.nd .lst (List.replicate k.toNat ds).flatten) else none
  | _, _ => none
theorem DatL.rep {B : Hp} {ds : List D} {vs : List V} (h : DatL K B ds vs) : ∀ n, DatL K B (List.replicate n ds).flatten (List.replicate n vs).flatten
  | 0 => rfl
  | n + 1 => by rw [List.replicate_succ, List.replicate_succ, List.flatten_cons, List.flatten_cons]; exact h.app (DatL.rep h n)
theorem opd_rep : OpD K rRep fRep := fun B H x y d e r Q b sx sy ef k => by
  unfold fRep at ef
  split at ef
  · rename_i ds n
    by_cases z : decide (-(2 ^ 63) ≤ n ∧ n < 2 ^ 63 ∧ ds.length * n.toNat ≤ 100000) = true
    · rw [if_pos z] at ef
      cases ef
      obtain ⟨z1, z2, z3⟩ := of_decide_eq_true z
      obtain ⟨a, vs, rfl, h2, h3⟩ := sx.nd b
      refine ⟨a, n, vs, rfl, sy, h2, z1, z2, by rw [← h3.len]; exact Nat.le_trans z3 (by decide), fun p hp => ?_⟩
      have nw := New.lay (o := .lst (List.replicate n.toNat vs).flatten) b hp
      exact k _ _ _ nw ⟨p, _, rfl, upd_same, (h3.mono nw.bb).rep _⟩
    · rw [if_neg z] at ef; cases ef
  · cases ef
theorem cMul_ok {i j : Int} (h : cMul i j = true) : CMul i j := by
  unfold cMul at h
  simp only [Bool.or_eq_true, Bool.and_eq_true, decide_eq_true_eq] at h
  exact h
def fMul : D → D → Option D := fun d e => (fMulI d e).or (fRep d e)
theorem p_mul : ∃ r, OpR X (binaryOp .Mult) r ∧ OpD X.K r fMul := ⟨_, OpR.or op_mul op_rep, OpD.or (opd_I (fun _ _ h => cMul_ok h) fun _ _ _ => rfl) opd_rep⟩
def cDiv (_ j : Int) : Bool := decide (j ≠ 0) && decide (j.natAbs < 1073741824)
def fDiv : D → D → Option D := fI cDiv fun i j => .int (i.fdiv j)
theorem p_div : ∃ r, OpR X (binaryOp .FloorDiv) r ∧ OpD X.K r fDiv := ⟨_, op_fdivN, opd_I (fun i j h => by unfold cDiv at h; simpa [CDivN] using h) fun _ _ _ => rfl⟩
def cMod (_ j : Int) : Bool := decide (j ≠ 0)
def fMod : D → D → Option D := fI cMod fun i j => .int (i.fmod j)
theorem p_mod : ∃ r, OpR X (binaryOp .Mod) r ∧ OpD X.K r fMod := ⟨_, op_modN, opd_I (fun i j h => of_decide_eq_true h) fun _ _ _ => rfl⟩
def cPow (i j : Int) : Bool := decide (0 ≤ j) && (decide (j ≤ 1000000) && decide (i.natAbs < 2 ^ 64))
def fPow : D → D → Option D := fI cPow fun i j => .int (i ^ j.toNat)
theorem p_pow : ∃ r, OpR X (binaryOp .Pow) r ∧ OpD X.K r fPow := ⟨_, op_pow, opd_I (fun i j h => by unfold cPow at h; simpa [CPow] using h) fun _ _ _ => rfl⟩
/-! ### order -/
def intsD : List D → Option (List Int)
  | [] => some []
  | .int i :: ds => (intsD ds).map (i :: ·)
  | _ :: _ => none
theorem intsD_vs {B : Hp} : ∀ {ds : List D} {vs : List V} {ns : List Int}, DatL K B ds vs → intsD ds = some ns → vs = ns.map V.int
  | [], _, _, h, e => by cases (show some [] = some _ from e); exact h
  | .int i :: ds, _, _, ⟨v, r, h1, h2, h3⟩, e => by
    have e' : (intsD ds).map (i :: ·) = some _ := e
    cases q : intsD ds with
    | none => rw [q] at e'; cases e'
    | some ns =>
      rw [q] at e'
      cases e'
      rw [h1, show v = V.int i from h2, intsD_vs h3 q]
      rfl
  | .non :: _, _, _, _, e => by cases e
  | .bl _ :: _, _, _, _, e => by cases e
  | .str _ :: _, _, _, _, e => by cases e
  | .nd _ _ :: _, _, _, _, e => by cases e
def fLtT : D → D → Option D
  | .nd .tup ds, .nd .tup es => (intsD ds).bind fun ns => (intsD es).map fun ms => .bl (HT.lexLt ns ms)
  | _, _ => none
theorem opd_ltT : OpD K (rLtT K) fLtT := fun B H x y d e r Q b sx sy ef k => by
  unfold fLtT at ef
  split at ef
  · rename_i ds es
    obtain ⟨ns, e1, ef⟩ := ob ef
    cases q : intsD es with
    | none => rw [q] at ef; cases ef
    | some ms =>
      rw [q] at ef
      cases ef
      obtain ⟨a, vs, rfl, h2, h3⟩ := sx
      obtain ⟨c, ws, rfl, g2, g3⟩ := sy
      have i1 := intsD_vs h3 e1
      have i2 := intsD_vs g3 q
      subst i1 i2
      exact ⟨a, c, ns, ms, rfl, rfl, b.st h2, b.st g2, k _ B H (New.refl b) rfl⟩
  · cases ef
def fLtI : D → D → Option D := fI tt2 fun i j => .bl (decide (i < j))
def fLtS : D → D → Option D := fSS fun i j => some (.bl (decide (i.cps.toList < j.cps.toList)))
theorem opd_ltS : OpD K (fun x y H Q => ∃ i j, x = .str i ∧ y = .str j ∧ Q (.bl (decide (i.cps.toList < j.cps.toList))) H) fLtS := fun B H x y d e r Q b sx sy ef k => by
  obtain ⟨i, j, rfl, rfl, ef⟩ := shS sx sy ef
  cases ef
  exact ⟨i, j, rfl, rfl, k _ B H (New.refl b) rfl⟩
def fLt : D → D → Option D := fun d e => (fLtI d e).or ((fLtT d e).or (fLtS d e))
theorem p_lt (hu : X.A.units < cLine) : ∃ r, OpR X (compareOp .Lt) r ∧ OpD X.K r fLt := ⟨_, OpR.or op_lt (OpR.or (op_ltT hu) op_lt_str), OpD.or (opd_I0 fun _ _ _ => rfl) (OpD.or opd_ltT opd_ltS)⟩
theorem lexAt_shift {e r : Nat → Bool} {z : Bool} : ∀ {k i : Nat}, Ob.lexAt e r z (i + 1) k = Ob.lexAt (fun j => e (j + 1)) (fun j => r (j + 1)) z i k
  | 0, _ => rfl
  | k + 1, i => by rw [Ob.lexAt_succ, Ob.lexAt_succ, lexAt_shift]
theorem lexAt_le : ∀ (ns ms : List Int), Ob.lexAt (fun j => decide (ns.getD j 0 = ms.getD j 0)) (fun j => decide (ns.getD j 0 ≤ ms.getD j 0)) (decide (ns.length ≤ ms.length)) 0 (min ns.length ms.length) = lexLeI ns ms
  | [], ms => by simp [Ob.lexAt_zero, lexLeI]
  | x :: xs, [] => by simp [Ob.lexAt_zero, lexLeI]
  | x :: xs, y :: ys => by
    rw [show min (x :: xs).length (y :: ys).length = min xs.length ys.length + 1 by simp only [List.length_cons]; omega, Ob.lexAt_succ, lexAt_shift]
    show (if decide (x = y) = true then _ else decide (x ≤ y)) = _
    have h : decide ((x :: xs).length ≤ (y :: ys).length) = decide (xs.length ≤ ys.length) := by simp
    rw [h]
    have := lexAt_le xs ys
    show (if decide (x = y) = true then Ob.lexAt (fun j => decide (xs.getD j 0 = ys.getD j 0)) (fun j => decide (xs.getD j 0 ≤ ys.getD j 0)) (decide (xs.length ≤ ys.length)) 0 (min xs.length ys.length) else decide (x ≤ y)) = if x = y then lexLeI xs ys else decide (x ≤ y)
    rw [this]
    by_cases e : x = y
    · simp [e]
    · simp [e]
def lexLeD : D → D → Option D
  | .nd .tup ds, .nd .tup es => (intsD ds).bind fun ns => (intsD es).map fun ms => .bl (lexLeI ns ms)
  | _, _ => none
theorem opd_leT : OpD K (rLeT K) lexLeD := fun B H x y d e r Q b sx sy ef k => by
  unfold lexLeD at ef
  split at ef
  · rename_i ds es
    obtain ⟨ns, e1, ef⟩ := ob ef
    cases q : intsD es with
    | none => rw [q] at ef; cases ef
    | some ms =>
      rw [q] at ef
      cases ef
      obtain ⟨a, vs, rfl, h2, h3⟩ := sx
      obtain ⟨c, ws, rfl, g2, g3⟩ := sy
      have i1 := intsD_vs h3 e1
      have i2 := intsD_vs g3 q
      subst i1 i2
      exact ⟨a, c, ns, ms, rfl, rfl, b.st h2, b.st g2, (by rw [lexAt_le]; exact k _ B H (New.refl b) rfl)⟩
  · cases ef
def fLe : D → D → Option D := fun d e => (fI tt2 (fun i j => .bl (decide (i ≤ j))) d e).or (lexLeD d e)
theorem p_le (hu : X.A.units < cLine) : ∃ r, OpR X (compareOp .LtE) r ∧ OpD X.K r fLe := ⟨_, OpR.or op_le (op_leT hu), OpD.or (opd_I0 fun _ _ _ => rfl) opd_leT⟩
def fGt : D → D → Option D := fI tt2 fun i j => .bl (decide (j < i))
theorem p_gt : ∃ r, OpR X (compareOp .Gt) r ∧ OpD X.K r fGt := ⟨_, op_gt, opd_I0 fun _ _ _ => rfl⟩
def fGe : D → D → Option D := fI tt2 fun i j => .bl (decide (j ≤ i))
theorem p_ge : ∃ r, OpR X (compareOp .GtE) r ∧ OpD X.K r fGe := ⟨_, op_ge, opd_I0 fun _ _ _ => rfl⟩
end
end DL

end

section
set_option Elab.async false
set_option linter.all false
set_option maxRecDepth 100000
set_option maxHeartbeats 2000000
namespace DL
open PySem L2

/-! ### ==, is None, in, subscripts, slices, builtins -/
mutual
def toPy : D → Option PyData
  | .non => some .none
  | .bl b => some (.bool b)
  | .int i => some (.int i)
  | .str s => some (.str s)
  | .nd .tup ds => (toPys ds).map .tuple
  | .nd .lst ds => (toPys ds).map .list
  | .nd .ll ds => (toPys ds).map .list
  | .nd (.dic _) _ => none
def toPys : List D → Option (List PyData)
  | [] => some []
  | d :: ds => (toPy d).bind fun p => (toPys ds).map (p :: ·)
end
section
variable {X : Cx} {K : PySem.W.Frag} {H B : Hp}
mutual
theorem toPy_dp : ∀ {d : D} {v : V} {p : PyData}, Dat K H d v → toPy d = some p → Dp K H v p
  | .non, _, _, h, e => by cases (show _ = V.non from h); cases (show some _ = some _ from e); exact .non
  | .bl b, _, _, h, e => by cases (show _ = V.bl b from h); cases (show some _ = some _ from e); exact .bl b
  | .int i, _, _, h, e => by cases (show _ = V.int i from h); cases (show some _ = some _ from e); exact .int i
  | .str s, _, _, h, e => by cases (show _ = V.str s from h); cases (show some _ = some _ from e); exact .str s
  | .nd .tup ds, _, _, ⟨a, vs, h1, h2, h3⟩, e => by
    subst h1
    have e' : (toPys ds).map PyData.tuple = some _ := e
    cases q : toPys ds with
    | none => rw [q] at e'; cases e'
    | some ps => rw [q] at e'; cases e'; exact .tup h2 (toPys_dp h3 q)
  | .nd .lst ds, _, _, ⟨a, vs, h1, h2, h3⟩, e => by
    subst h1
    have e' : (toPys ds).map PyData.list = some _ := e
    cases q : toPys ds with
    | none => rw [q] at e'; cases e'
    | some ps => rw [q] at e'; cases e'; exact .lst (SqL.of h2) (toPys_dp h3 q)
  | .nd .ll ds, _, _, ⟨a, vs, h1, h2, h3⟩, e => by
    subst h1
    have e' : (toPys ds).map PyData.list = some _ := e
    cases q : toPys ds with
    | none => rw [q] at e'; cases e'
    | some ps => rw [q] at e'; cases e'; exact .lst h2 (toPys_dp h3 q)
  | .nd (.dic _) _, _, _, _, e => by cases (show none = some _ from e)
theorem toPys_dp : ∀ {ds : List D} {vs : List V} {ps : List PyData}, DatL K H ds vs → toPys ds = some ps → DpAll K H vs ps
  | [], _, _, h, e => by cases (show _ = [] from h); cases (show some [] = some _ from e); exact .nil
  | d :: ds, _, _, ⟨v, r, h1, h2, h3⟩, e => by
    subst h1
    obtain ⟨p, e1, e⟩ := ob (show (toPy d).bind _ = some _ from e)
    cases q : toPys ds with
    | none => rw [q] at e; cases e
    | some ps => rw [q] at e; cases e; exact .cons (toPy_dp h2 e1) (toPys_dp h3 q)
end
def eqD (d e : D) : Option Bool := (toPy d).bind fun x => (toPy e).bind fun y => if (SeqAt.shaped x && SeqAt.shaped y) = true then some (PyData.eqv x y) else none
def fEq : D → D → Option D := fun d e => (eqD d e).map .bl
def fNe : D → D → Option D := fun d e => (eqD d e).map fun b => .bl (!b)
theorem eqD_sound {d e : D} {x y : V} {k : Bool} (b : Ex B H) (sx : Sh K B H d x) (sy : Sh K B H e y) (ef : eqD d e = some k) : ∃ p q, Dp K H x p ∧ Dp K H y q ∧ SeqAt.shaped p = true ∧ SeqAt.shaped q = true ∧ PyData.eqv p q = k := by
  obtain ⟨p, e1, ef⟩ := ob ef
  obtain ⟨q, e2, ef⟩ := ob ef
  by_cases z : (SeqAt.shaped p && SeqAt.shaped q) = true
  · rw [if_pos z] at ef
    cases ef
    exact ⟨p, q, toPy_dp (sx.dat b) e1, toPy_dp (sy.dat b) e2, (and_both z).1, (and_both z).2, rfl⟩
  · rw [if_neg z] at ef; cases ef
theorem opd_eq : OpD K (rEqD K) fEq := fun B H x y d e r Q b sx sy ef k => by
  have ef' : (eqD d e).map D.bl = some r := ef
  cases q : eqD d e with
  | none => rw [q] at ef'; cases ef'
  | some c =>
    rw [q] at ef'
    cases ef'
    obtain ⟨p, p', h1, h2, h3, h4, h5⟩ := eqD_sound b sx sy q
    exact ⟨p, p', h1, h2, h3, h4, by rw [h5]; exact k _ B H (New.refl b) rfl⟩
theorem opd_ne : OpD K (rNeD K) fNe := fun B H x y d e r Q b sx sy ef k => by
  have ef' : (eqD d e).map (fun b => D.bl (!b)) = some r := ef
  cases q : eqD d e with
  | none => rw [q] at ef'; cases ef'
  | some c =>
    rw [q] at ef'
    cases ef'
    obtain ⟨p, p', h1, h2, h3, h4, h5⟩ := eqD_sound b sx sy q
    exact ⟨p, p', h1, h2, h3, h4, by rw [h5]; exact k _ B H (New.refl b) rfl⟩
theorem p_eq (hu : X.A.units + 64 < cLine) : ∃ r, OpR X (compareOp .Eq) r ∧ OpD X.K r fEq := ⟨_, op_eqD hu, opd_eq⟩
theorem p_ne (hu : X.A.units + 64 < cLine) : ∃ r, OpR X (compareOp .NotEq) r ∧ OpD X.K r fNe := ⟨_, op_neD hu, opd_ne⟩
def isN : D → Bool
  | .non => true
  | _ => false
def fIs : D → D → Option D
  | d, .non => some (.bl (isN d))
  | _, _ => none
def fIsNot : D → D → Option D
  | d, .non => some (.bl (!isN d))
  | _, _ => none
theorem isN_sh {d : D} {x : V} (b : Ex B H) (h : Sh K B H d x) : decide (x = .non) = isN d := by
  cases d with
  | non => rw [show x = .non from h]; rfl
  | bl k => rw [show x = .bl k from h]; rfl
  | int k => rw [show x = .int k from h]; rfl
  | str k => rw [show x = .str k from h]; rfl
  | nd k ds => obtain ⟨a, vs, rfl, _⟩ := h.nd b; rfl
theorem p_is : ∃ r, OpR X (compareOp .Is) r ∧ OpD X.K r fIs := ⟨_, op_isN, fun B H x y d e r Q b sx sy ef k => by
  unfold fIs at ef
  split at ef
  · cases ef
    exact ⟨sy, by rw [isN_sh b sx]; exact k _ B H (New.refl b) rfl⟩
  · cases ef⟩
theorem p_isnot : ∃ r, OpR X (compareOp .IsNot) r ∧ OpD X.K r fIsNot := ⟨_, op_notN, fun B H x y d e r Q b sx sy ef k => by
  unfold fIsNot at ef
  split at ef
  · cases ef
    exact ⟨sy, by rw [isN_sh b sx]; exact k _ B H (New.refl b) rfl⟩
  · cases ef⟩
/-! in -/
def D.v : D → V
  | .bl b => .bl b
  | .int i => .int i
  | .str s => .str s
  | _ => .non
theorem D.v_of {d : D} {x : V} (s : scal d = true) (h : Dat K B d x) : x = d.v := by
  cases d with
  | nd _ _ => cases s
  | _ => exact h
theorem DatL.vs_of : ∀ {ds : List D} {vs : List V}, ds.all scal = true → DatL K B ds vs → vs = ds.map D.v
  | [], _, _, h => h
  | d :: ds, _, s, ⟨v, r, h1, h2, h3⟩ => by
    rw [List.all_cons] at s
    obtain ⟨s1, s2⟩ := and_both s
    rw [h1, D.v_of s1 h2, h3.vs_of s2, List.map_cons]
theorem flat_v : ∀ {d : D}, scal d = true → flatV d.v = true
  | .non, _ => rfl
  | .bl _, _ => rfl
  | .int _, _ => rfl
  | .str _, _ => rfl
  | .nd _ _, h => by cases h
def DK.isQ : DK → Bool
  | .dic _ => false
  | _ => true
theorem DatN.q {k : DK} (hk : k.isQ = true) {a : Addr} {vs : List V} (h : DatN K H k a vs) : SqL K H a vs ∨ SqT K H a vs := by
  cases k with
  | tup => exact Or.inr h
  | lst => exact Or.inl (SqL.of h)
  | ll => exact Or.inl h
  | dic _ => cases hk
def inD (d : D) (ds : List D) : Bool := inV d.v (ds.map D.v)
def fInQ (neg : Bool) : D → D → Option D
  | d, .nd k ds => if (scal d && (k.isQ && ds.all scal)) = true then some (.bl (if neg then !inD d ds else inD d ds)) else none
  | _, _ => none
theorem opd_inQ {neg : Bool} : OpD K (rIn K neg) (fInQ neg) := fun B H x y d e r Q b sx sy ef k => by
  unfold fInQ at ef
  split at ef
  · rename_i kk ds
    by_cases z : (scal d && (kk.isQ && ds.all scal)) = true
    · rw [if_pos z] at ef
      cases ef
      obtain ⟨z1, z2, z3⟩ := and3 z
      obtain ⟨a, vs, rfl, h2, h3⟩ := sy.nd b
      have e1 := D.v_of z1 (scalV z1 sx)
      have e2 := h3.vs_of z3
      subst e1 e2
      refine ⟨a, _, rfl, h2.q z2, flat_v z1, ?_, k _ B H (New.refl b) rfl⟩
      rw [List.all_map]
      exact List.all_eq_true.mpr fun w hw => flat_v (List.all_eq_true.mp z3 w hw)
    · rw [if_neg z] at ef; cases ef
  · cases ef
def fInS (neg : Bool) : D → D → Option D := fSS fun i j => let k := !(Builtin.Str.occurrences j i 0 j.length 1).isEmpty; some (.bl (if neg then !k else k))
theorem opd_inS : OpD K (fun x y H Q => ∃ i j, x = .str i ∧ y = .str j ∧ Q (.bl (!(Builtin.Str.occurrences j i 0 j.length 1).isEmpty)) H) (fInS false) := fun B H x y d e r Q b sx sy ef k => by
  obtain ⟨i, j, rfl, rfl, ef⟩ := shS sx sy ef
  cases ef
  exact ⟨i, j, rfl, rfl, k _ B H (New.refl b) rfl⟩
def fIn : D → D → Option D := fun d e => (fInQ false d e).or (fInS false d e)
theorem p_in : ∃ r, OpR X (compareOp .In) r ∧ OpD X.K r fIn := ⟨_, OpR.or op_in_seq op_in_str, OpD.or opd_inQ opd_inS⟩
def fNotIn : D → D → Option D := fInQ true
theorem p_notin : ∃ r, OpR X (compareOp .NotIn) r ∧ OpD X.K r fNotIn := ⟨_, op_notIn_seq, opd_inQ⟩
/-! subscripts -/
def fIxQ : D → D → Option D
  | .nd k ds, .int i => if k.isQ = true then atI ds i else none
  | _, _ => none
theorem atI_dat {ds : List D} {vs : List V} {i : Int} {d : D} (h : DatL K B ds vs) (e : atI ds i = some d) : ∃ v, atI vs i = some v ∧ Dat K B d v := by
  unfold atI at e ⊢
  obtain ⟨j, e1, e2⟩ := ob e
  obtain ⟨v, g1, g2⟩ := h.get e2
  exact ⟨v, by rw [← h.len, e1]; exact g1, g2⟩
def fIxS : D → D → Option D
  | .str z, .int i => if decide (z.length ≤ 100000) = true then (atI z.cps.toList i).map fun c => .str ⟨#[c]⟩ else none
  | _, _ => none
def fIx : D → D → Option D := fun d e => (fIxQ d e).or (fIxS d e)
theorem opd_ix : OpD K (rIx K) fIx := fun B H x y d e r Q b sx sy ef k => by
  have ef' : (fIxQ d e).or (fIxS d e) = some r := ef
  cases q : fIxQ d e with
  | some r' =>
    rw [q] at ef'
    cases ef'
    unfold fIxQ at q
    split at q
    · rename_i kk ds i
      by_cases z : kk.isQ = true
      · rw [if_pos z] at q
        obtain ⟨a, vs, rfl, h2, h3⟩ := sx.nd b
        obtain ⟨v, g1, g2⟩ := atI_dat h3 q
        rcases h2.q z with h2 | h2
        · exact Or.inl ⟨a, vs, i, v, rfl, sy, h2, g1, k _ B H (New.refl b) g2⟩
        · exact Or.inr (Or.inl ⟨a, vs, i, v, rfl, sy, h2, g1, k _ B H (New.refl b) g2⟩)
      · rw [if_neg z] at q; cases q
    · cases q
  | none =>
    rw [q] at ef'
    have ef'' : fIxS d e = some r := ef'
    unfold fIxS at ef''
    split at ef''
    · rename_i z i
      by_cases w : decide (z.length ≤ 100000) = true
      · rw [if_pos w] at ef''
        cases q2 : atI z.cps.toList i with
        | none => rw [q2] at ef''; cases ef''
        | some c =>
          rw [q2] at ef''
          cases ef''
          exact Or.inr (Or.inr ⟨z, i, c, sx, sy, sz w, q2, k _ B H (New.refl b) rfl⟩)
      · rw [if_neg w] at ef''; cases ef''
    · cases ef''
theorem p_ix : ∃ r, IxR X r ∧ OpD X.K r fIx := ⟨_, ix_seq, opd_ix⟩
/-! slices -/
def cutD (ds : List D) (lo hi : Option Int) : List D := (ds.drop (HT.sIx ds.length 0 lo)).take (HT.sIx ds.length ds.length hi - HT.sIx ds.length 0 lo)
theorem cutD_dat {ds : List D} {vs : List V} (h : DatL K B ds vs) (lo hi : Option Int) : DatL K B (cutD ds lo hi) (cutV vs lo hi) := by
  unfold cutD cutV
  rw [h.len]
  exact (h.drop _).take _
def fSl : D → Option Int → Option Int → Option D
  | .nd .tup ds, lo, hi => some (.nd .tup (cutD ds lo hi))
  | .nd .lst ds, lo, hi => some (.nd .lst (cutD ds lo hi))
  | .nd .ll ds, lo, hi => some (.nd .lst (cutD ds lo hi))
  | .str z, lo, hi => if decide (z.length ≤ 100000) = true then some (.str (cutS z lo hi)) else none
  | _, _, _ => none
theorem sIx_max (n : Nat) (hi : Option Int) : HT.sIx n n hi ≤ n := HT.sIx_le _ _ (Nat.le_refl _) _
theorem SlR.or {r r' : V → Option Int → Option Int → Hp → VK → Prop} (h : SlR X r) (h' : SlR X r') : SlR X (fun x lo hi H Q => r x lo hi H Q ∨ r' x lo hi H Q) := by
  intro pins s σ H x v vl vu lo hi sl Q I rx hs pl pu q
  rcases q with q | q
  · exact h pins s σ H x v vl vu lo hi sl Q I rx hs pl pu q
  · exact h' pins s σ H x v vl vu lo hi sl Q I rx hs pl pu q
theorem p_sl : ∃ r, SlR X r ∧ OpS X.K r fSl := ⟨_, SlR.or sl_list (SlR.or sl_tupA sl_str), fun B H x d g lo hi Q b sx ef k => by
  unfold fSl at ef
  split at ef
  · cases ef
    obtain ⟨a, vs, rfl, h2, h3⟩ := sx
    rename_i ds
    refine Or.inr (Or.inl ⟨a, vs, rfl, b.st h2, fun e => ?_, fun _ p hp => ?_⟩)
    · refine k _ B H (New.refl b) ⟨a, vs, rfl, h2, ?_⟩
      have e2 : cutV vs lo hi = vs := by
        unfold cutV
        rw [e.1, e.2]
        simp
      have := cutD_dat h3 lo hi
      rwa [e2] at this
    · have n := New.lay (o := .tup (cutV vs lo hi)) b hp
      exact k _ _ _ n ⟨p, _, rfl, SqT.of upd_same, (cutD_dat h3 lo hi).mono n.bb⟩
  · cases ef
    obtain ⟨a, vs, rfl, h2, h3⟩ := sx
    refine Or.inl ⟨a, vs, rfl, SqL.of h2, fun p hp => ?_⟩
    have n := New.lay (o := .lst (cutV vs lo hi)) b hp
    exact k _ _ _ n ⟨p, _, rfl, upd_same, (cutD_dat h3 lo hi).mono n.bb⟩
  · cases ef
    obtain ⟨a, vs, rfl, h2, h3⟩ := sx
    refine Or.inl ⟨a, vs, rfl, h2, fun p hp => ?_⟩
    have n := New.lay (o := .lst (cutV vs lo hi)) b hp
    exact k _ _ _ n ⟨p, _, rfl, upd_same, (cutD_dat h3 lo hi).mono n.bb⟩
  · rename_i z
    by_cases w : decide (z.length ≤ 100000) = true
    · rw [if_pos w] at ef
      cases ef
      exact Or.inr (Or.inr ⟨z, sx, sz w, k _ B H (New.refl b) rfl⟩)
    · rw [if_neg w] at ef; cases ef
  · cases ef⟩
/-! ### builtins -/
theorem ShL.one {ds : List D} {vs : List V} {d : D} (h : ShL K B H ds vs) (e : ds = [d]) : ∃ v, vs = [v] ∧ Sh K B H d v := by
  subst e
  obtain ⟨v, r, h1, h2, h3⟩ := h
  rw [show r = [] from h3] at h1
  exact ⟨v, h1, h2⟩
theorem ShL.two {ds : List D} {vs : List V} {d e : D} (h : ShL K B H ds vs) (q : ds = [d, e]) : ∃ v w, vs = [v, w] ∧ Sh K B H d v ∧ Sh K B H e w := by
  subst q
  obtain ⟨v, r, h1, h2, w, r2, h3, h4, h5⟩ := h
  rw [show r2 = [] from h5] at h3
  rw [h3] at h1
  exact ⟨v, w, h1, h2, h4⟩
def f1 (f : D → Option D) : List D → Option D
  | [d] => f d
  | _ => none
theorem f1_of {f : D → Option D} {ds : List D} {r : D} (e : f1 f ds = some r) : ∃ d, ds = [d] ∧ f d = some r := by
  match ds, e with
  | [d], e => exact ⟨d, rfl, e⟩
  | [], e => cases e
  | _ :: _ :: _, e => cases e
def fLen : D → Option D
  | .str s => if decide (s.length ≤ 100000) = true then some (.int s.length) else none
  | .nd k ds => if k.isQ = true then some (.int ds.length) else none
  | _ => none
theorem opa_len : OpA K (fun xs H Q => ∃ x n, xs = [x] ∧ LenV K x H n ∧ Q (.int n) H) (f1 fLen) := fun B H vs ds g Q b sh ef k => by
  obtain ⟨d, e1, e2⟩ := f1_of ef
  obtain ⟨v, rfl, hv⟩ := sh.one e1
  unfold fLen at e2
  split at e2
  · rename_i s
    by_cases w : decide (s.length ≤ 100000) = true
    · rw [if_pos w] at e2
      cases e2
      cases (show v = .str s from hv)
      exact ⟨_, s.length, rfl, ⟨sz w, rfl⟩, k _ B H (New.refl b) rfl⟩
    · rw [if_neg w] at e2; cases e2
  · rename_i kk es
    by_cases w : kk.isQ = true
    · rw [if_pos w] at e2
      cases e2
      obtain ⟨a, vs, rfl, h2, h3⟩ := hv.nd b
      refine ⟨_, vs.length, rfl, (h2.q w).elim (fun h => Or.inl ⟨vs, h, rfl⟩) (fun h => Or.inr ⟨vs, h, rfl⟩), ?_⟩
      rw [← h3.len]
      exact k _ B H (New.refl b) rfl
    · rw [if_neg w] at e2; cases e2
  · cases e2
theorem p_len : ∃ r, CallR X (.builtin "len") r ∧ OpA X.K r (f1 fLen) := ⟨_, call_len, opa_len⟩
def fAbs : D → Option D
  | .int i => some (.int (if i < 0 then -i else i))
  | _ => none
theorem p_abs : ∃ r, CallR X (.builtin "abs") r ∧ OpA X.K r (f1 fAbs) := ⟨_, call_abs, fun B H vs ds g Q b sh ef k => by
  obtain ⟨d, e1, e2⟩ := f1_of ef
  obtain ⟨v, rfl, hv⟩ := sh.one e1
  unfold fAbs at e2
  split at e2
  · rename_i i
    cases e2
    cases (show v = .int i from hv)
    exact ⟨i, rfl, k _ B H (New.refl b) rfl⟩
  · cases e2⟩
def fInt : D → Option D
  | .int i => some (.int i)
  | .bl k => some (.int (if k then 1 else 0))
  | _ => none
theorem p_int : ∃ r, CallR X (.type "int") r ∧ OpA X.K r (f1 fInt) := ⟨_, call_int1, fun B H vs ds g Q b sh ef k => by
  obtain ⟨d, e1, e2⟩ := f1_of ef
  obtain ⟨v, rfl, hv⟩ := sh.one e1
  unfold fInt at e2
  split at e2
  · rename_i i
    cases e2
    cases (show v = .int i from hv)
    exact Or.inl ⟨i, rfl, k _ B H (New.refl b) rfl⟩
  · rename_i i
    cases e2
    cases (show v = .bl i from hv)
    exact Or.inr ⟨i, rfl, k _ B H (New.refl b) rfl⟩
  · cases e2⟩
def bls : List D → Option (List Bool)
  | [] => some []
  | .bl i :: ds => (bls ds).map (i :: ·)
  | _ :: _ => none
theorem bls_vs : ∀ {ds : List D} {vs : List V} {ns : List Bool}, DatL K B ds vs → bls ds = some ns → vs = ns.map V.bl
  | [], _, _, h, e => by cases (show some [] = some _ from e); exact h
  | .bl i :: ds, _, _, ⟨v, r, h1, h2, h3⟩, e => by
    have e' : (bls ds).map (i :: ·) = some _ := e
    cases q : bls ds with
    | none => rw [q] at e'; cases e'
    | some ns =>
      rw [q] at e'
      cases e'
      rw [h1, show v = V.bl i from h2, bls_vs h3 q]
      rfl
  | .non :: _, _, _, _, e => by cases e
  | .int _ :: _, _, _, _, e => by cases e
  | .str _ :: _, _, _, _, e => by cases e
  | .nd _ _ :: _, _, _, _, e => by cases e
def fAll : D → Option D
  | .nd k ds => if k.isL = true then (bls ds).map fun bs => .bl (bs.all id) else none
  | _ => none
def fAny : D → Option D
  | .nd k ds => if k.isL = true then (bls ds).map fun bs => .bl (bs.any id) else none
  | _ => none
theorem p_all (hc : X.calm = true) : ∃ r, CallR X (.builtin "all") r ∧ OpA X.K r (f1 fAll) := ⟨_, cr_all hc, fun B H vs ds g Q b sh ef k => by
  obtain ⟨d, e1, e2⟩ := f1_of ef
  obtain ⟨v, rfl, hv⟩ := sh.one e1
  unfold fAll at e2
  split at e2
  · rename_i kk es
    by_cases w : kk.isL = true
    · rw [if_pos w] at e2
      cases q : bls es with
      | none => rw [q] at e2; cases e2
      | some bs =>
        rw [q] at e2
        cases e2
        obtain ⟨a, ws, rfl, h2, h3⟩ := hv.nd b
        have := bls_vs h3 q
        subst this
        exact ⟨a, bs, rfl, h2.sl w, k _ B H (New.refl b) rfl⟩
    · rw [if_neg w] at e2; cases e2
  · cases e2⟩
theorem p_any (hc : X.calm = true) : ∃ r, CallR X (.builtin "any") r ∧ OpA X.K r (f1 fAny) := ⟨_, cr_any hc, fun B H vs ds g Q b sh ef k => by
  obtain ⟨d, e1, e2⟩ := f1_of ef
  obtain ⟨v, rfl, hv⟩ := sh.one e1
  unfold fAny at e2
  split at e2
  · rename_i kk es
    by_cases w : kk.isL = true
    · rw [if_pos w] at e2
      cases q : bls es with
      | none => rw [q] at e2; cases e2
      | some bs =>
        rw [q] at e2
        cases e2
        obtain ⟨a, ws, rfl, h2, h3⟩ := hv.nd b
        have := bls_vs h3 q
        subst this
        exact ⟨a, bs, rfl, h2.sl w, k _ B H (New.refl b) rfl⟩
    · rw [if_neg w] at e2; cases e2
  · cases e2⟩
def fTuple : D → Option D
  | .nd k ds => if k.isQ = true then some (.nd .tup ds) else none
  | _ => none
theorem p_tuple : ∃ r, CallR X (.type "tuple") r ∧ OpA X.K r (f1 fTuple) := ⟨_, call_tuple_of, fun B H vs ds g Q b sh ef k => by
  obtain ⟨d, e1, e2⟩ := f1_of ef
  obtain ⟨v, rfl, hv⟩ := sh.one e1
  unfold fTuple at e2
  split at e2
  · rename_i kk es
    by_cases w : kk.isQ = true
    · rw [if_pos w] at e2
      cases e2
      by_cases t : kk = .tup
      · subst t
        obtain ⟨a, ws, rfl, h2, h3⟩ := hv
        exact ⟨a, ws, rfl, Or.inr ⟨b.st h2, k _ B H (New.refl b) ⟨a, ws, rfl, h2, h3⟩⟩⟩
      · obtain ⟨a, ws, rfl, h2, h3⟩ := hv.nd b
        have hl : kk.isL = true := by
          cases kk with
          | tup => exact absurd rfl t
          | lst => rfl
          | ll => rfl
          | dic _ => cases w
        exact ⟨a, ws, rfl, Or.inl ⟨h2.sl hl, fun l hp => by
          have n := New.lay (o := .tup ws) b hp
          exact k _ _ _ n ⟨l, ws, rfl, SqT.of upd_same, h3.mono n.bb⟩⟩⟩
    · rw [if_neg w] at e2; cases e2
  · cases e2⟩
def fList : D → Option D
  | .nd k ds => if k.isQ = true then some (.nd .lst ds) else none
  | _ => none
theorem p_list : ∃ r, CallR X (.type "list") r ∧ OpA X.K r (f1 fList) := ⟨_, call_list_of, fun B H vs ds g Q b sh ef k => by
  obtain ⟨d, e1, e2⟩ := f1_of ef
  obtain ⟨v, rfl, hv⟩ := sh.one e1
  unfold fList at e2
  split at e2
  · rename_i kk es
    by_cases w : kk.isQ = true
    · rw [if_pos w] at e2
      cases e2
      obtain ⟨a, ws, rfl, h2, h3⟩ := hv.nd b
      exact ⟨a, ws, rfl, h2.q w, fun l hp => by
        have n := New.lay (o := .lst ws) b hp
        exact k _ _ _ n ⟨l, ws, rfl, upd_same, h3.mono n.bb⟩⟩
    · rw [if_neg w] at e2; cases e2
  · cases e2⟩
end
end DL

end

section
set_option Elab.async false
set_option linter.all false
set_option maxRecDepth 100000
set_option maxHeartbeats 2000000
namespace DL
open PySem L2

/-! ### isinstance -/
inductive Tg where
  | non | bl | int | str | tup | lst | dic
  deriving DecidableEq
def Tg.nm : Tg → String
  | .non => "NoneType" | .bl => "bool" | .int => "int" | .str => "str" | .tup => "tuple" | .lst => "list" | .dic => "dict"
def D.tg : D → Tg
  | .non => .non
  | .bl _ => .bl
  | .int _ => .int
  | .str _ => .str
  | .nd .tup _ => .tup
  | .nd .lst _ => .lst
  | .nd .ll _ => .lst
  | .nd (.dic _) _ => .dic
def isi (a t : Tg) : Bool := a == t || (a == .bl && t == .int)
theorem isi_kit (a t : Tg) (h : t ≠ .non) : kitB a.nm t.nm = some (isi a t) := by
  cases t with
  | non => exact absurd rfl h
  | bl => cases a <;> decide +kernel
  | int => cases a <;> decide +kernel
  | str => cases a <;> decide +kernel
  | tup => cases a <;> decide +kernel
  | lst => cases a <;> decide +kernel
  | dic => cases a <;> decide +kernel
section
variable {X : Cx} {K : PySem.W.Frag} {H B : Hp} {p q : Bool} {pos : Pos}
theorem ty_of {d : D} {v : V} (b : Ex B H) (h : Sh K B H d v) : TyX K H v (.type d.tg.nm) := by
  cases d with
  | non => rw [show v = .non from h]; exact .base .non
  | bl k => rw [show v = .bl k from h]; exact .base (.bl k)
  | int k => rw [show v = .int k from h]; exact .base (.int k)
  | str k => rw [show v = .str k from h]; exact .base (.str k)
  | nd k ds =>
    obtain ⟨a, vs, rfl, h2, h3⟩ := h.nd b
    cases k with
    | tup =>
      rcases h2 with (h2 | ⟨o, h2⟩) | ⟨o, its, n, h2, hc, _⟩
      · exact .base (.tup h2)
      · exact .fTuple h2
      · exact .kTuple h2 hc
    | lst => exact .base (.lst h2)
    | ll =>
      rcases h2 with (h2 | ⟨o, h2⟩) | ⟨o, its, n, h2, hc, _⟩
      · exact .base (.lst h2)
      · exact .base (.frz h2)
      · exact .kList h2 hc
    | dic ks =>
      rcases h2.2 with h2 | ⟨o, h2⟩
      · exact .base (.dK h2)
      · exact .fDict h2
def eIsi (t : Tg) (m : M) : M := fun ρ => (m ρ).bind fun x => (deref x.2 x.1).bind fun d => some (.vl (.bl (isi d.tg t)), x.2)
theorem c_isi {e : Expr} {x : Str} {t : Tg} {m : M} {po pt : Pos} (he : PE X e (tE X.K p m)) (ht : t ≠ .non) (hm : X.mg "isinstance" = none) (hmx : X.mg x = none) (hv : bootBuiltins x = some (.type t.nm)) (hg : Gl X "isinstance" := by rfl) (hgx : Gl X x := by rfl)
    (hn : x ≠ "__name__" := by decide) (hd : (x == ("__debug__" : Str)) = false := by decide)
    (s1 : starEach (e :: [.Name x pt]) X.env = (false, eval e X.env) :: starEach [.Name x pt] X.env := by rfl) (s2 : starEach [.Name x pt] X.env = (false, eval (.Name x pt) X.env) :: starEach [] X.env := by rfl) (hpl : (backTo pos (starEach [.Name x pt] X.env)).any (·.1) = false := by rfl) :
    PE X (.Call (.Name "isinstance" po) [e, .Name x pt] [] pos) (tE X.K p (eIsi t m)) :=
  peW (pe_callB call_isi hg hm PyProof.Rows.boot_isinstance (pa_cons he (pa_cons (pe_bltn (v := .ty t.nm) hgx hmx hv rfl hn hd) pa_nil s2) s1) (he := s1) (hpl := hpl)) fun σ H Q h => by
    obtain ⟨B, ρ, F, S, a, ρ', e, k⟩ := h
    obtain ⟨⟨y, ρ1⟩, ea, e⟩ := ob e
    obtain ⟨d, ed, e⟩ := ob e
    cases e
    refine ⟨B, ρ, F, S, y, ρ1, ea, fun v B1 H1 F1 E1 S1 A1 P1 => ?_⟩
    exact ⟨v, .ty t.nm, _, _, isi d.tg t, rfl, .ty _, ty_of S1.bh (S1.deref A1 ed), kit_ty (isi_kit d.tg t ht), k _ B1 H1 F1 E1 S1 rfl P1⟩
/-- isinstance(x, (S, T)) -/
def eIsi2 (t u : Tg) (m : M) : M := fun ρ => (m ρ).bind fun x => (deref x.2 x.1).bind fun d => some (.vl (.bl (isi d.tg t || isi d.tg u)), x.2)
theorem c_isi2 {e : Expr} {x y : Str} {t u : Tg} {m : M} {po pt pu ptt : Pos} {kk} (he : PE X e (tE X.K p m)) (ht : t ≠ .non) (hu : u ≠ .non) (hm : X.mg "isinstance" = none) (hmx : X.mg x = none) (hv : bootBuiltins x = some (.type t.nm)) (hmy : X.mg y = none) (hvy : bootBuiltins y = some (.type u.nm))
    (hg : Gl X "isinstance" := by rfl) (hgx : Gl X x := by rfl) (hgy : Gl X y := by rfl)
    (hn : x ≠ "__name__" := by decide) (hd : (x == ("__debug__" : Str)) = false := by decide) (hny : y ≠ "__name__" := by decide) (hdy : (y == ("__debug__" : Str)) = false := by decide)
    (s0 : starEach [.Name x pt, .Name y pu] X.env = (false, eval (.Name x pt) X.env) :: starEach [.Name y pu] X.env := by rfl) (s00 : starEach [.Name y pu] X.env = (false, eval (.Name y pu) X.env) :: starEach [] X.env := by rfl)
    (s1 : starEach (e :: [.Tuple [.Name x pt, .Name y pu] kk ptt]) X.env = (false, eval e X.env) :: starEach [.Tuple [.Name x pt, .Name y pu] kk ptt] X.env := by rfl)
    (s2 : starEach [.Tuple [.Name x pt, .Name y pu] kk ptt] X.env = (false, eval (.Tuple [.Name x pt, .Name y pu] kk ptt) X.env) :: starEach [] X.env := by rfl) (hpl : (backTo pos (starEach [.Tuple [.Name x pt, .Name y pu] kk ptt] X.env)).any (·.1) = false := by rfl) :
    PE X (.Call (.Name "isinstance" po) [e, .Tuple [.Name x pt, .Name y pu] kk ptt] [] pos) (tE X.K false (eIsi2 t u m)) :=
  peW (pe_callB call_isiT hg hm PyProof.Rows.boot_isinstance (pa_cons he (pa_cons (pe_tup (pa_cons (pe_bltn (v := .ty t.nm) hgx hmx hv rfl hn hd) (pa_cons (pe_bltn (v := .ty u.nm) hgy hmy hvy rfl hny hdy) pa_nil s00) s0)) pa_nil s2) s1) (he := s1) (hpl := hpl)) fun σ H Q h => by
    obtain ⟨B, ρ, F, S, a, ρ', e, k⟩ := h
    obtain ⟨⟨y, ρ1⟩, ea, e⟩ := ob e
    obtain ⟨d, ed, e⟩ := ob e
    cases e
    refine ⟨B, ρ, F, S, y, ρ1, ea, fun v B1 H1 F1 E1 S1 A1 P1 => ⟨(by show 2 ≤ sizeLine; decide), fun pp hp => ?_⟩⟩
    have n := New.lay (o := .tup [.ty t.nm, .ty u.nm]) S1.bh hp
    have S2 := S1.new n
    have A2 := A1.keep (B' := upd B1 pp (.tup [.ty t.nm, .ty u.nm])) (ρ' := ρ1) (H' := upd H1 pp (.tup [.ty t.nm, .ty u.nm])) n.bb fun _ => ⟨rfl, n.hh⟩
    refine ⟨v, pp, _, _, _, isi d.tg t || isi d.tg u, rfl, upd_same, .cons (.ty _) (.cons (.ty _) .nil), ty_of S2.bh (S2.deref A2 ed), ?_, k _ _ _ F1 (E1.trans n.ext) S2 rfl fun z => nomatch z⟩
    refine kitAny_cons (kit_ty (isi_kit d.tg t ht)) (fun e => ?_) fun e => by rw [e]; rfl
    rw [e]
    refine kitAny_cons (kit_ty (isi_kit d.tg u hu)) (fun e => ?_) fun e => by rw [e]; rfl
    rw [e]
    rfl
/-! ### lists that change -/
theorem OwnL.app1 {B H : Hp} : ∀ {G : Addr → Prop} {ts : List T} {vs : List V} {d : D} {v : V}, OwnL K B H G ts vs → Dat K B d v → OwnL K B H G (ts ++ [.fz d]) (vs ++ [v])
  | _, [], _, _, v, h, hd => by
    rw [show _ = [] from h]
    exact ⟨v, [], fun _ => False, rfl, fun _ z => z.elim, hd, rfl⟩
  | _, t :: ts, _, _, _, ⟨v, r, G1, h1, h2, h3, h4⟩, hd => by
    subst h1
    exact ⟨v, _, G1, rfl, h2, h3, h4.app1 hd⟩
theorem OwnL.appL {B H : Hp} : ∀ {G : Addr → Prop} {ts : List T} {vs : List V} {ds : List D} {ws : List V}, OwnL K B H G ts vs → DatL K B ds ws → OwnL K B H G (ts ++ ds.map .fz) (vs ++ ws)
  | _, [], _, _, _, h, hd => by
    rw [show _ = [] from h]
    exact OwnL.of_dat hd
  | _, t :: ts, _, _, _, ⟨v, r, G1, h1, h2, h3, h4⟩, hd => by
    subst h1
    exact ⟨v, _, G1, rfl, h2, h3, h4.appL hd⟩
theorem OwnL.setF {B H : Hp} : ∀ {G : Addr → Prop} {ts : List T} {vs : List V} {d : D} {v : V} (n : Nat), OwnL K B H G ts vs → Dat K B d v → OwnL K B H G (ts.set n (.fz d)) (vs.set n v)
  | _, [], _, _, _, n, h, _ => by rw [show _ = [] from h]; simp [OwnL]
  | _, t :: ts, _, _, w, 0, ⟨v, r, G1, h1, h2, h3, h4⟩, hd => by
    subst h1
    exact ⟨w, _, G1, rfl, h2, hd, h4⟩
  | _, t :: ts, _, _, _, n + 1, ⟨v, r, G1, h1, h2, h3, h4⟩, hd => by
    subst h1
    exact ⟨v, _, G1, rfl, h2, h3, h4.setF n hd⟩
theorem OwnL.erase {B H : Hp} : ∀ {G : Addr → Prop} {ts : List T} {vs : List V} (n : Nat), OwnL K B H G ts vs → OwnL K B H G (ts.eraseIdx n) (vs.eraseIdx n)
  | _, [], _, n, h => by rw [show _ = [] from h]; simp [OwnL]
  | G, t :: ts, _, 0, ⟨v, r, G1, h1, h2, h3, h4⟩ => by
    subst h1
    exact h4.mono fun a z => z.1
  | _, t :: ts, _, n + 1, ⟨v, r, G1, h1, h2, h3, h4⟩ => by
    subst h1
    exact ⟨v, _, G1, rfl, h2, h3, h4.erase n⟩
theorem OwnL.at_ {B H : Hp} : ∀ {G : Addr → Prop} {ts : List T} {vs : List V} {n : Nat} {d : D}, OwnL K B H G ts vs → ts[n]? = some (.fz d) → ∃ v, vs[n]? = some v ∧ Dat K B d v
  | _, [], _, n, _, _, e => by simp at e
  | _, t :: ts, _, 0, d, ⟨v, r, G1, h1, h2, h3, h4⟩, e => by
    subst h1
    simp at e
    subst e
    exact ⟨v, rfl, h3⟩
  | _, t :: ts, _, n + 1, d, ⟨v, r, G1, h1, h2, h3, h4⟩, e => by
    subst h1
    obtain ⟨w, g1, g2⟩ := h4.at_ (n := n) (d := d) (by simpa using e)
    exact ⟨w, by simpa using g1, g2⟩
def fApp : FM := fun k ts ds => match k, ds with
  | .lst, [d] => if decide (ts.length < 100000) = true then some (.non, .lst, ts ++ [.fz d]) else none
  | _, _ => none
theorem lt_sz {n : Nat} (h : decide (n < 100000) = true) : n < sizeLine := Nat.lt_of_lt_of_le (of_decide_eq_true h) (by decide)
theorem m_app : MutR K rAppend fApp := fun B H G k k' ts ts' l vs ws ds g Q b bl on ol hd e kk => by
  unfold fApp at e
  split at e
  · rename_i d
    by_cases z : decide (ts.length < 100000) = true
    · rw [if_pos z] at e
      cases e
      obtain ⟨w, r, e1, hw, e2⟩ := hd
      subst e1
      rw [show r = [] from e2]
      exact ⟨l, vs, w, rfl, rfl, on, by rw [← ol.len]; exact lt_sz z, kk .non _ (vs ++ [w]) rfl upd_same (ol.app1 hw)⟩
    · rw [if_neg z] at e; cases e
  · cases e
def fExt : FM := fun k ts ds => match k, ds with
  | .lst, [.nd .lst es] => if decide (ts.length + es.length ≤ 100000) = true then some (.non, .lst, ts ++ es.map .fz) else none
  | _, _ => none
theorem m_ext : MutR K rExtend fExt := fun B H G k k' ts ts' l vs ws ds g Q b bl on ol hd e kk => by
  unfold fExt at e
  split at e
  · rename_i es
    by_cases z : decide (ts.length + es.length ≤ 100000) = true
    · rw [if_pos z] at e
      cases e
      obtain ⟨w, r, e1, ⟨c, zs, hc, hz, hl⟩, e2⟩ := hd
      subst e1 hc
      rw [show r = [] from e2]
      exact ⟨l, c, vs, zs, rfl, rfl, on, b _ _ hz, by rw [← ol.len, ← hl.len]; exact sz z, kk .non _ (vs ++ zs) rfl upd_same (ol.appL hl)⟩
    · rw [if_neg z] at e; cases e
  · cases e
def fPop : FM := fun k ts ds => match k, ds with
  | .lst, [] => match ts[ts.length - 1]? with
    | some (.fz d) => some (d, .lst, ts.eraseIdx (ts.length - 1))
    | _ => none
  | _, _ => none
theorem m_pop : MutR K rPop fPop := fun B H G k k' ts ts' l vs ws ds g Q b bl on ol hd e kk => by
  unfold fPop at e
  split at e
  · split at e
    · rename_i d q
      cases e
      obtain ⟨v, g1, g2⟩ := ol.at_ q
      rw [ol.len] at g1
      refine ⟨l, vs, v, rfl, hd, on, g1, kk v _ vs.dropLast g2 upd_same ?_⟩
      have := ol.erase (ts.length - 1)
      rw [ol.len] at this ⊢
      rw [← List.eraseIdx_length_sub_one]
      exact this
    · cases e
  · cases e
def fPopAt : FM := fun k ts ds => match k, ds with
  | .lst, [.int i] => if decide (-(2 ^ 63) ≤ i ∧ i < 2 ^ 63) = true then (seqIndex? i ts.length).bind fun j => match ts[j]? with
    | some (.fz d) => some (d, .lst, ts.eraseIdx j)
    | _ => none
    else none
  | _, _ => none
theorem m_popAt : MutR K rPopAt fPopAt := fun B H G k k' ts ts' l vs ws ds g Q b bl on ol hd e kk => by
  unfold fPopAt at e
  split at e
  · rename_i i
    by_cases z : decide (-(2 ^ 63) ≤ i ∧ i < 2 ^ 63) = true
    · rw [if_pos z] at e
      obtain ⟨j, e1, e⟩ := ob e
      split at e
      · rename_i d q
        cases e
        obtain ⟨v, g1, g2⟩ := ol.at_ q
        obtain ⟨w, r, hw, hi, e2⟩ := hd
        rw [show r = [] from e2, show w = .int i from hi] at hw
        obtain ⟨z1, z2⟩ := of_decide_eq_true z
        exact ⟨l, vs, i, j, v, rfl, hw, on, z1, z2, by rw [← ol.len]; exact e1, g1, kk v _ _ g2 upd_same (ol.erase j)⟩
      · cases e
    · rw [if_neg z] at e; cases e
  · cases e
def fSet : FM := fun k ts ds => match k, ds with
  | .lst, [.int i, d] => (ixN ts.length i).bind fun j => some (.non, .lst, ts.set j (.fz d))
  | _, _ => none
theorem m_set : SetR K rSetL fSet := fun B H G k k' ts ts' l vs iv v di dv g Q b bl on ol hi hv e kk => by
  match k, di, hi, on, e with
  | .lst, .int i, hi, on, e =>
    obtain ⟨j, e1, e⟩ := ob (show (ixN ts.length i).bind _ = some _ from e)
    cases e
    exact ⟨l, vs, i, j, rfl, hi, on, by rw [← ol.len]; exact e1, kk _ (vs.set j v) upd_same (ol.setF j hv)⟩
  | .lst, .non, _, _, e => cases e
  | .lst, .bl _, _, _, e => cases e
  | .lst, .str _, _, _, e => cases e
  | .lst, .nd _ _, _, _, e => cases e
  | .tup, _, _, _, e => cases e
  | .ll, _, _, _, e => cases e
  | .dic _, _, _, _, e => cases e
end
end DL

end

section
set_option Elab.async false
set_option linter.all false
set_option maxRecDepth 100000
set_option maxHeartbeats 2000000
namespace DL
open PySem L2

/-! ### sorted(set(a list of tuples of ints)) -/
/-- one by one into a strictly ascending list -/
def insT (k : List Int) : List (List Int) → List (List Int)
  | [] => [k]
  | x :: xs => if k = x then x :: xs else if HT.lexLt k x = true then k :: x :: xs else x :: insT k xs
def sortT : List (List Int) → List (List Int)
  | [] => []
  | k :: ks => insT k (sortT ks)
theorem lexLt_irrefl : ∀ a : List Int, HT.lexLt a a = false
  | [] => rfl
  | x :: xs => by rw [HT.lexLt_cons, if_pos rfl, lexLt_irrefl xs]
theorem lexLt_trans : ∀ {a b c : List Int}, HT.lexLt a b = true → HT.lexLt b c = true → HT.lexLt a c = true
  | [], [], _, h, _ => by cases h
  | [], _ :: _, [], _, h => by cases h
  | [], _ :: _, _ :: _, _, _ => rfl
  | _ :: _, [], _, h, _ => by cases h
  | x :: xs, y :: ys, [], _, h => by cases h
  | x :: xs, y :: ys, z :: zs, h1, h2 => by
    rw [HT.lexLt_cons] at *
    by_cases e1 : x = y
    · rw [if_pos e1] at h1
      by_cases e2 : y = z
      · rw [if_pos e2] at h2
        rw [if_pos (e1.trans e2)]
        exact lexLt_trans h1 h2
      · rw [if_neg e2] at h2
        rw [if_neg (fun q => e2 (e1.symm.trans q)), e1]
        exact h2
    · rw [if_neg e1] at h1
      have h1' := of_decide_eq_true h1
      by_cases e2 : y = z
      · rw [if_neg (fun q => e1 (q.trans e2.symm)), ← e2]
        exact h1
      · rw [if_neg e2] at h2
        have h2' := of_decide_eq_true h2
        rw [if_neg (by omega)]
        exact decide_eq_true (by omega)
theorem lexLt_total : ∀ {a b : List Int}, a ≠ b → HT.lexLt a b = false → HT.lexLt b a = true
  | [], [], h, _ => absurd rfl h
  | [], _ :: _, _, h => by cases h
  | _ :: _, [], _, _ => rfl
  | x :: xs, y :: ys, h, h2 => by
    rw [HT.lexLt_cons] at *
    by_cases e : x = y
    · rw [if_pos e] at h2
      rw [if_pos e.symm]
      exact lexLt_total (fun q => h (by rw [e, q])) h2
    · rw [if_neg e] at h2
      rw [if_neg (Ne.symm e)]
      have := of_decide_eq_false h2
      exact decide_eq_true (by omega)
theorem insT_mem {k x : List Int} : ∀ {l : List (List Int)}, x ∈ insT k l ↔ x = k ∨ x ∈ l
  | [] => by simp [insT]
  | y :: ys => by
    unfold insT
    by_cases e : k = y
    · rw [if_pos e, e]; simp
    · rw [if_neg e]
      by_cases h : HT.lexLt k y = true
      · rw [if_pos h]; simp
      · rw [if_neg h, List.mem_cons, insT_mem, List.mem_cons]
        constructor
        · rintro (h | h | h)
          · exact Or.inr (Or.inl h)
          · exact Or.inl h
          · exact Or.inr (Or.inr h)
        · rintro (h | h | h)
          · exact Or.inr (Or.inl h)
          · exact Or.inl h
          · exact Or.inr (Or.inr h)
theorem sortT_mem {x : List Int} : ∀ {l : List (List Int)}, x ∈ sortT l ↔ x ∈ l
  | [] => by simp [sortT]
  | y :: ys => by show x ∈ insT y (sortT ys) ↔ _; rw [insT_mem, sortT_mem, List.mem_cons]
theorem insT_asc {k : List Int} : ∀ {l : List (List Int)}, l.Pairwise (fun a b => HT.lexLt a b = true) → (insT k l).Pairwise (fun a b => HT.lexLt a b = true)
  | [], _ => by simp [insT]
  | y :: ys, h => by
    unfold insT
    by_cases e : k = y
    · rw [if_pos e]; exact h
    · rw [if_neg e]
      by_cases q : HT.lexLt k y = true
      · rw [if_pos q]
        refine List.pairwise_cons.mpr ⟨fun z hz => ?_, h⟩
        rcases List.mem_cons.mp hz with rfl | hz
        · exact q
        · exact lexLt_trans q ((List.pairwise_cons.mp h).1 z hz)
      · rw [if_neg q]
        refine List.pairwise_cons.mpr ⟨fun z hz => ?_, insT_asc (List.pairwise_cons.mp h).2⟩
        rcases insT_mem.mp hz with rfl | hz
        · exact lexLt_total e (by simpa using q)
        · exact (List.pairwise_cons.mp h).1 z hz
theorem sortT_asc : ∀ l : List (List Int), (sortT l).Pairwise (fun a b => HT.lexLt a b = true)
  | [] => .nil
  | y :: ys => insT_asc (sortT_asc ys)
/-- two strictly ascending lists of the same things -/
theorem asc_eq : ∀ {a b : List (List Int)}, a.Pairwise (fun a b => HT.lexLt a b = true) → b.Pairwise (fun a b => HT.lexLt a b = true) → (∀ x, x ∈ a ↔ x ∈ b) → a = b
  | [], [], _, _, _ => rfl
  | [], y :: ys, _, _, h => by have := (h y).mpr (by simp); cases this
  | x :: xs, [], _, _, h => by have := (h x).mp (by simp); cases this
  | x :: xs, y :: ys, h1, h2, h => by
    obtain ⟨h1a, h1b⟩ := List.pairwise_cons.mp h1
    obtain ⟨h2a, h2b⟩ := List.pairwise_cons.mp h2
    have e : x = y := by
      rcases List.mem_cons.mp ((h x).mp (by simp)) with q | q
      · exact q
      · rcases List.mem_cons.mp ((h y).mpr (by simp)) with q2 | q2
        · exact q2.symm
        · have := lexLt_trans (h1a y q2) (h2a x q)
          rw [lexLt_irrefl] at this
          cases this
    subst e
    rw [asc_eq h1b h2b fun z => ?_]
    constructor
    · intro hz
      rcases List.mem_cons.mp ((h z).mp (List.mem_cons_of_mem _ hz)) with q | q
      · subst q
        have := h1a z hz
        rw [lexLt_irrefl] at this
        cases this
      · exact q
    · intro hz
      rcases List.mem_cons.mp ((h z).mpr (List.mem_cons_of_mem _ hz)) with q | q
      · subst q
        have := h2a z hz
        rw [lexLt_irrefl] at this
        cases this
      · exact q
theorem code_lexLt {b : Int} : ∀ {m n : List Int}, m.length = n.length → TS.Bd b m → TS.Bd b n → m ≠ n → TS.code b m ≤ TS.code b n → HT.lexLt m n = true
  | [], [], _, _, _, h, _ => absurd rfl h
  | [], _ :: _, h, _, _, _, _ => by cases h
  | _ :: _, [], h, _, _, _, _ => by cases h
  | x :: xs, y :: ys, hl, h1, h2, hn, hc => by
    have hl' : xs.length = ys.length := by simpa using hl
    have b1 : TS.Bd b xs := fun m hm => h1 m (List.mem_cons_of_mem _ hm)
    have b2 : TS.Bd b ys := fun m hm => h2 m (List.mem_cons_of_mem _ hm)
    rw [HT.lexLt_cons]
    by_cases e : x = y
    · rw [if_pos e]
      subst e
      refine code_lexLt hl' b1 b2 (fun q => hn (by rw [q])) ?_
      have := (TS.code_same (B := b) (d := x) hl'.symm)
      by_cases z : TS.code b xs ≤ TS.code b ys
      · exact z
      · have := this.mpr (by omega)
        omega
    · rw [if_neg e]
      by_cases z : x < y
      · exact decide_eq_true z
      · have := TS.code_lt (B := b) hl'.symm b2 b1 (show y < x by omega)
        omega
def tups : List D → Option (List (List Int))
  | [] => some []
  | .nd .tup ds :: r => (intsD ds).bind fun k => (tups r).map (k :: ·)
  | _ :: _ => none
def tupD (k : List Int) : D := .nd .tup (k.map .int)
def wid : List (List Int) → Nat
  | [] => 1
  | k :: _ => k.length
def bnd (kss : List (List Int)) : Int := 1 + (kss.flatten).sum
def okT (kss : List (List Int)) : Bool := decide (kss.length < 64) && (decide (1 ≤ wid kss) && kss.all fun k => decide (k.length = wid kss) && k.all fun m => decide (0 ≤ m))
def fSorSet : D → Option D
  | .nd .lst ds => (tups ds).bind fun kss => if okT kss = true then some (.nd .lst ((sortT kss).map tupD)) else none
  | _ => none
theorem sum_ge : ∀ {l : List Int}, (∀ m ∈ l, 0 ≤ m) → 0 ≤ l.sum ∧ ∀ m ∈ l, m ≤ l.sum
  | [], _ => ⟨by simp, fun m h => by cases h⟩
  | x :: xs, h => by
    obtain ⟨h1, h2⟩ := sum_ge (l := xs) fun m hm => h m (List.mem_cons_of_mem _ hm)
    have h0 := h x (by simp)
    rw [List.sum_cons]
    refine ⟨by omega, fun m hm => ?_⟩
    rcases List.mem_cons.mp hm with rfl | hm
    · omega
    · have := h2 m hm; omega
section
variable {X : Cx} {K : PySem.W.Frag} {H B : Hp} {p q : Bool} {pos : Pos}
theorem tups_ks : ∀ {ds : List D} {vs : List V} {kss : List (List Int)}, DatL K B ds vs → tups ds = some kss → ∃ ks : List (Addr × List Int), vs = ks.map (fun p => V.ref p.1) ∧ ks.map (·.2) = kss ∧ ∀ p ∈ ks, SqT K B p.1 (p.2.map V.int)
  | [], _, _, h, e => by
    cases (show some [] = some _ from e)
    exact ⟨[], h, rfl, fun p h => by cases h⟩
  | .nd .tup es :: ds, _, _, ⟨v, r, h1, ⟨a, ws, h2, h3, h4⟩, h5⟩, e => by
    obtain ⟨k, e1, e⟩ := ob (show (intsD es).bind _ = some _ from e)
    cases q : tups ds with
    | none => rw [q] at e; cases e
    | some kss =>
      rw [q] at e
      cases e
      obtain ⟨ks, g1, g2, g3⟩ := tups_ks h5 q
      have := intsD_vs h4 e1
      subst this h1 h2 g1
      refine ⟨(a, k) :: ks, rfl, by rw [List.map_cons, g2], fun p hp => ?_⟩
      rcases List.mem_cons.mp hp with rfl | hp
      · exact h3
      · exact g3 p hp
  | .nd .lst _ :: _, _, _, _, e => by cases e
  | .nd .ll _ :: _, _, _, _, e => by cases e
  | .nd (.dic _) _ :: _, _, _, _, e => by cases e
  | .non :: _, _, _, _, e => by cases e
  | .bl _ :: _, _, _, _, e => by cases e
  | .int _ :: _, _, _, _, e => by cases e
  | .str _ :: _, _, _, _, e => by cases e
theorem ks_dat {ks : List (Addr × List Int)} (h : ∀ p ∈ ks, SqT K B p.1 (p.2.map V.int)) : DatL K B ((ks.map (·.2)).map tupD) (ks.map fun p => V.ref p.1) := by
  induction ks with
  | nil => rfl
  | cons p ks ih =>
    refine ⟨_, _, rfl, ⟨p.1, p.2.map V.int, rfl, h p (by simp), ?_⟩, ih fun q hq => h q (List.mem_cons_of_mem _ hq)⟩
    have : ∀ l : List Int, DatL K B (l.map D.int) (l.map V.int) := fun l => by
      induction l with
      | nil => rfl
      | cons x l ih => exact ⟨_, _, rfl, rfl, ih⟩
    exact this p.2
def eU1 (f : D → Option D) (m : M) : M := fun ρ => (m ρ).bind fun x => (deref x.2 x.1).bind fun d => (f d).bind fun r => some (.vl r, x.2)
theorem tE_1 {m : M} {f : D → Option D} {σ : L2.St} {H : Hp} {Q : VK} {R : V → Hp → Prop} (h : tE K p (eU1 f m) σ H Q)
    (r : ∀ B H v d g, Ex B H → Sh K B H d v → f d = some g → (∀ w B' H', New B H B' H' → Dat K B' g w → Q w H') → R v H) : tE K p m σ H R := by
  obtain ⟨B, ρ, F, S, a, ρ', e, k⟩ := h
  obtain ⟨⟨x, ρ1⟩, ea, e⟩ := ob e
  obtain ⟨d, ed, e⟩ := ob e
  obtain ⟨g, eg, e⟩ := ob e
  cases e
  refine ⟨B, ρ, F, S, x, ρ1, ea, fun v B1 H1 F1 E1 S1 A1 P1 => r B1 H1 v d g S1.bh (S1.deref A1 ed) eg fun w B' H' n dw => ?_⟩
  exact k w B' H' F1 (E1.trans n.ext) (S1.new n) dw fun z => ⟨(P1 z).1, (P1 z).2.1, (P1 z).2.2.trans n.hh⟩
theorem c_ss {e : Expr} {m : M} {po p2 pos2 : Pos} (hc : X.calm = true) (hu : X.A.units + 64 < cLine) (he : PE X e (tE X.K p m)) (hm1 : X.mg "sorted" = none) (hm2 : X.mg "set" = none) (hg1 : Gl X "sorted" := by rfl) (hg2 : Gl X "set" := by rfl)
    (s1 : starEach [e] X.env = (false, eval e X.env) :: starEach [] X.env := by rfl) (hpl1 : (backTo pos2 (starEach [] X.env)).any (·.1) = false := by rfl)
    (s2 : starEach [.Call (.Name "set" p2) [e] [] pos2] X.env = (false, eval (.Call (.Name "set" p2) [e] [] pos2) X.env) :: starEach [] X.env := by rfl) (hpl2 : (backTo pos (starEach [] X.env)).any (·.1) = false := by rfl) :
    PE X (.Call (.Name "sorted" po) [.Call (.Name "set" p2) [e] [] pos2] [] pos) (tE X.K p (eU1 fSorSet m)) :=
  peW (pe_callB (cr_sortedT hc) hg1 hm1 PyProof.Rows.boot_sorted (pa_cons (pe_callTy (cr_setOfT hc hu) hg2 hm2 PyProof.Rows.boot_set (pa_cons he pa_nil s1) (he := s1) (hpl := hpl1)) pa_nil s2) (he := s2) (hpl := hpl2)) fun σ H Q h => by
    refine tE_1 h fun B H v d g b sh ef k => ?_
    unfold fSorSet at ef
    split at ef
    · rename_i ds
      obtain ⟨kss, e1, ef⟩ := ob ef
      by_cases z : okT kss = true
      · rw [if_pos z] at ef
        cases ef
        obtain ⟨z1, z2, z3⟩ := and3 z
        obtain ⟨a, vs, rfl, h2, h3⟩ := sh
        obtain ⟨ks, rfl, g2, g3⟩ := tups_ks h3 e1
        have hlen : ks.length < 64 := by
          have := of_decide_eq_true z1
          rw [← g2, List.length_map] at this
          exact this
        refine ⟨a, ks, rfl, SqL.of h2, fun p hp => b.st (g3 p hp), hlen, fun c L hc hL hk => ?_⟩
        have hall : ∀ p ∈ ks, p.2.length = wid kss ∧ TS.Bd (bnd kss) p.2 := fun p hp => by
          have hm : p.2 ∈ kss := by rw [← g2]; exact List.mem_map_of_mem hp
          have h4 := List.all_eq_true.mp z3 p.2 hm
          obtain ⟨h5, h6⟩ := and_both h4
          refine ⟨of_decide_eq_true h5, fun m hmm => ?_⟩
          have h0 : ∀ m ∈ kss.flatten, 0 ≤ m := fun m hm2 => by
            obtain ⟨l, hl, hml⟩ := List.mem_flatten.mp hm2
            have h7 := List.all_eq_true.mp z3 l hl
            exact of_decide_eq_true (List.all_eq_true.mp (and_both h7).2 m hml)
          obtain ⟨_, h8⟩ := sum_ge h0
          have h9 : m ∈ kss.flatten := List.mem_flatten.mpr ⟨p.2, hm, hmm⟩
          have h10 := h8 m h9
          exact ⟨h0 m h9, by unfold bnd; omega⟩
        refine ⟨c, L, wid kss, bnd kss, rfl, upd_same, fun p hp => (Ex.new hc).st (b.st (g3 p (hL p hp))), of_decide_eq_true z2, fun p hp => hall p (hL p hp), fun L' pp pm nd few pw hpp => ?_⟩
        have hH : H pp = none := by
          cases q : H pp with
          | none => rfl
          | some o => rw [Ex.new hc pp o q] at hpp; cases hpp
        have hbp : B pp = none := by
          cases q : B pp with
          | none => rfl
          | some o => rw [b pp o q] at hH; cases hH
        have hs : L'.map (·.2) = sortT kss := by
          refine asc_eq ?_ (sortT_asc kss) fun x => ?_
          · rw [List.pairwise_map]
            have nd' : L'.Pairwise (fun q r => q.2 ≠ r.2) := by
              have := nd
              unfold List.Nodup at this
              rwa [List.pairwise_map] at this
            have both := pw.and nd'
            refine both.imp_of_mem fun {q r} hq hr hqr => ?_
            have m1 := hall q (hL q (pm.mem_iff.mp hq))
            have m2 := hall r (hL r (pm.mem_iff.mp hr))
            exact code_lexLt (m1.1.trans m2.1.symm) m1.2 m2.2 hqr.2 hqr.1
          · rw [sortT_mem]
            constructor
            · intro hx
              obtain ⟨q, hq, rfl⟩ := List.mem_map.mp hx
              rw [← g2]
              exact List.mem_map_of_mem (hL q (pm.mem_iff.mp hq))
            · intro hx
              rw [← g2] at hx
              obtain ⟨q, hq, rfl⟩ := List.mem_map.mp hx
              have := hk q hq
              obtain ⟨r, hr, e⟩ := List.mem_map.mp this
              rw [← e]
              exact List.mem_map_of_mem (pm.mem_iff.mpr hr)
        have n : New B H (upd B pp (.lst (L'.map fun q => V.ref q.1))) (upd (upd H c (SetTO X.prog X.w c L)) pp (.lst (L'.map fun q => V.ref q.1))) := by
          refine ⟨Ex.new hbp, (Ex.new hc).trans (Ex.new hpp), fun x o e => ?_, fun x e1 e2 => ?_⟩
          · by_cases w : x = pp
            · rw [w, upd_same] at e ⊢; exact e
            · rw [upd_ne w] at e ⊢; exact Ex.new hc x o (b x o e)
          · have w : x ≠ pp := fun w => e1 (by rw [w]; exact hH)
            rw [upd_ne w]; exact e2
        refine k _ _ _ n ⟨pp, _, rfl, upd_same, ?_⟩
        rw [← hs]
        exact (ks_dat fun p hp => g3 p (hL p (pm.mem_iff.mp hp))).mono n.bb
      · rw [if_neg z] at ef; cases ef
    · cases ef
end
end DL

end

section
set_option Elab.async false
set_option linter.all false
set_option maxRecDepth 100000
set_option maxHeartbeats 2000000
/-! max of two things whose order hangs on the heap: the walk of max's own loop, the comparison asked at states that keep h0 -/
namespace DL
open PySem PySem.Spec PyProof.Rows
def Kp (h0 h : Heap) : Prop := ∀ b o, h0.get? b = some o → h.get? b = some o
def CmpK (P : Program) (w : World) (A : Around) (h0 : Heap) (it : Nat → Value → Prop) (bt : Nat → Nat → Bool) : Prop :=
  ∀ i j vi vj (s : Shared) (Q : Value → Shared → Prop) (E : Value → Shared → Prop), Kp h0 s.heap → it i vi → it j vj → Q (.bool (bt i j)) s → wpAny (model P w) A (richCompare .Gt vi vj) Q E s
section
variable {P : Program} {w : World} {A : Around} {R : Result → Shared → Prop} {I S : Addr} {fp wr : List Addr} {n : Nat} {it : Nat → Value → Prop} {Sn : Nat → Heap → Prop} {h0 : Heap}
theorem max_rounds (W : Walks P w A.in1 I fp wr n it Sn) (bt : Nat → Nat → Bool) (cmp : CmpK P w A.in1 h0 it bt) (nS : S ∉ fp) (hw : ∀ b ∈ wr, h0.get? b = none) (hS0 : h0.get? S = none) :
    ∀ (k j : Nat) (s : Shared) (vb : Value) (c : Nat), n - (j + 1) = k → j + 1 ≤ n → Kp h0 s.heap → Sn (j + 1) s.heap → it (argBest bt j) vb →
    s.heap.get? S = some { cls := .type "list", dict := none, data := .seq #[vb, vb] c, slots := #[] } →
    (∀ v h' tk, it (argBest bt (n - 1)) v → (∀ b o, b ∉ wr → b ≠ S → s.heap.get? b = some o → h'.get? b = some o) → R (.ok (.ret v)) { s with heap := h', toks := tk }) →
    codeAny (model P w) A (.builtin "max.loop" ⟨[.ref I, .none, .ref S], []⟩) R s := by
  have nw : S ∉ wr := fun h => nS (W.sub _ h)
  have nm : (toString "max" ++ toString ".loop" : String) = "max.loop" := by decide
  have keepW : ∀ {h h' : Heap}, Kp h0 h → (∀ b o, b ∉ wr → h.get? b = some o → h'.get? b = some o) → Kp h0 h' := fun a b x o e => b x o (fun m => by rw [hw x m] at e; cases e) (a x o e)
  have keepS : ∀ {h : Heap} {f : Obj → Obj}, Kp h0 h → Kp h0 (h.update S f) := fun a x o e => (Heap.get?_update_other _ _ (fun z : S = x => by rw [← z, hS0] at e; cases e)).trans (a x o e)
  intro k
  induction k with
  | zero =>
    intro j s vb c hk hj kp hst best hS fin
    have last : j + 1 = n := by omega
    refine codeAny_builtin F.entry_max_loop ?_
    rw [Around.under_plainId F.plain_max_loop _]
    show wpAny _ A.in1 (seqItems? (.ref S) >>= _) _ _ s
    refine wpAny_bind (wpAny_seqItems hS rfl ?_)
    show wpAny _ A.in1 (tryCatch (pyNext (.ref I)) _ >>= _) _ _ s
    refine wpAny_bind (wpAny_tryCatch (W.done s _ _ (last ▸ hst) fun h' tk hk' => ?_))
    have hS' := hk' S _ nw hS
    show wpAny _ A.in1 (updateSeq S (fun _ => #[]) >>= _) _ _ _
    refine wpAny_bind (wpAny_updateSeq hS' rfl (wpAny_bind (wpAny_letGo (wpAny_pure ?_))))
    exact fin vb _ tk (by rw [← last]; exact best) fun b o hbw hbS e => (Heap.get?_update_other _ _ (Ne.symm hbS)).trans (hk' b o hbw e)
  | succ k ih =>
    intro j s vb c hk hj kp hst best hS fin
    have more : j + 1 < n := by omega
    refine codeAny_builtin F.entry_max_loop ?_
    rw [Around.under_plainId F.plain_max_loop _]
    show wpAny _ A.in1 (seqItems? (.ref S) >>= _) _ _ s
    refine wpAny_bind (wpAny_seqItems hS rfl ?_)
    show wpAny _ A.in1 (tryCatch (pyNext (.ref I)) _ >>= _) _ _ s
    refine wpAny_bind (wpAny_tryCatch (W.item (j + 1) s _ _ more hst fun v h' tk hv hst' hk' => ?_))
    have hS' := hk' S _ nw hS
    have kp' := keepW kp hk'
    show wpAny _ A.in1 (tryCatch (holding [v, v] (richCompare .Gt v vb >>= _)) _ >>= _) _ _ _
    refine wpAny_bind (wpAny_tryCatch (wpAny_holding (wpAny_bind (cmp (j + 1) (argBest bt j) v vb _ _ _ kp' hv best ?_))))
    refine wpAny_bind (wpAny_holding (wpAny_truthy_bool ?_))
    refine wpAny_bind (wpAny_letGo (wpAny_pure ?_))
    cases hb : bt (j + 1) (argBest bt j) with
    | true =>
      simp only [if_true]
      refine wpAny_bind (wpAny_updateSeq hS' rfl (wpAny_bind (wpAny_letGo ?_)))
      rw [nm]
      refine wpAny_pure ⟨plainId_quiet F.plain_max_loop _, ih (j + 1) _ v _ (by omega) more (keepS kp') (W.frame _ _ _ hst' fun b hbf o e => (Heap.get?_update_other _ _ (fun z : S = b => nS (by rw [z]; exact hbf))).trans e) (by simp only [argBest, hb, if_true]; exact hv) (Heap.get?_update_self _ hS' rfl)
        fun v' h'' tk'' hP' hk'' => ?_⟩
      exact fin v' h'' tk'' hP' fun b o hbw hbS e => hk'' b o hbw hbS ((Heap.get?_update_other _ _ (Ne.symm hbS)).trans (hk' b o hbw e))
    | false =>
      simp only [Bool.false_eq_true, if_false]
      refine wpAny_bind (wpAny_letGo ?_)
      rw [nm]
      refine wpAny_pure ⟨plainId_quiet F.plain_max_loop _, ih (j + 1) _ vb c (by omega) more kp' hst' (by simp only [argBest, hb, Bool.false_eq_true, if_false]; exact best) hS' fun v' h'' tk'' hP' hk'' => ?_⟩
      exact fin v' h'' tk'' hP' fun b o hbw hbS e => hk'' b o hbw hbS (hk' b o hbw e)
theorem max_begin (W : Walks P w A.in1 I fp wr n it Sn) (bt : Nat → Nat → Bool) (cmp : CmpK P w A.in1 h0 it bt) (nS : S ∉ fp) (hw : ∀ b ∈ wr, h0.get? b = none) (hS0 : h0.get? S = none) (hn : 0 < n) {s : Shared} {c : Nat} (kp : Kp h0 s.heap) (hst : Sn 0 s.heap)
    (hS : s.heap.get? S = some { cls := .type "list", dict := none, data := .seq #[] c, slots := #[] })
    (fin : ∀ v h' tk, it (argBest bt (n - 1)) v → (∀ b o, b ∉ wr → b ≠ S → s.heap.get? b = some o → h'.get? b = some o) → R (.ok (.ret v)) { s with heap := h', toks := tk }) :
    codeAny (model P w) A (.builtin "max.loop" ⟨[.ref I, .none, .ref S], []⟩) R s := by
  have nw : S ∉ wr := fun h => nS (W.sub _ h)
  have nm : (toString "max" ++ toString ".loop" : String) = "max.loop" := by decide
  refine codeAny_builtin F.entry_max_loop ?_
  rw [Around.under_plainId F.plain_max_loop _]
  show wpAny _ A.in1 (seqItems? (.ref S) >>= _) _ _ s
  refine wpAny_bind (wpAny_seqItems hS rfl ?_)
  show wpAny _ A.in1 (tryCatch (pyNext (.ref I)) _ >>= _) _ _ s
  refine wpAny_bind (wpAny_tryCatch (W.item 0 s _ _ hn hst fun v h' tk hv hst' hk' => ?_))
  have hS' := hk' S _ nw hS
  have kp' : Kp h0 h' := fun x o e => hk' x o (fun m => by rw [hw x m] at e; cases e) (kp x o e)
  show wpAny _ A.in1 (updateSeq S (fun _ => #[v, v]) >>= _) _ _ _
  refine wpAny_bind (wpAny_updateSeq hS' rfl ?_)
  rw [nm]
  refine wpAny_pure ⟨plainId_quiet F.plain_max_loop _, max_rounds W bt cmp nS hw hS0 _ 0 _ v _ rfl hn (fun x o e => (Heap.get?_update_other _ _ (fun z : S = x => by rw [← z, hS0] at e; cases e)).trans (kp' x o e))
    (W.frame _ _ _ hst' fun b hbf o e => (Heap.get?_update_other _ _ (fun z : S = b => nS (by rw [z]; exact hbf))).trans e) hv (Heap.get?_update_self _ hS' rfl) fun v' h'' tk'' hP' hk'' => ?_⟩
  exact fin v' h'' tk'' hP' fun b o hbw hbS e => hk'' b o hbw hbS ((Heap.get?_update_other _ _ (Ne.symm hbS)).trans (hk' b o hbw e))
/-- max(a, b) -/
theorem max2K {a b : Value} {s : Shared} {E : Value → Shared → Prop} {Q : Value → Shared → Prop} (hh : A.handled = none) (bt : Nat → Nat → Bool) (cmp : CmpK P w A.in1 s.heap (fun i v => #[a, b][i]? = some v) bt)
    (fin : ∀ h' tk, Kp s.heap h' → Q (if bt 1 0 = true then b else a) { s with heap := h', toks := tk }) : wpAny (model P w) A (PySem.call (.builtin "max") [a, b]) Q E s := by
  have nm : (toString "max" ++ toString ".loop" : String) = "max.loop" := by decide
  refine call_function_tree F.kind_max F.plain_max F.entry_max (F.args_max2 _ _) ?_
  show wpAny _ A.in1 (Builtin.Builtins.bindParams "max" ["key", "default"] 0 ⟨[], []⟩ >>= _) _ _ s
  refine wpAny_bind (wpAny_of_eq (show Builtin.Builtins.bindParams "max" ["key", "default"] 0 ⟨[], []⟩ = pure [none, none] from rfl) ?_)
  show wpAny _ A.in1 (newTuple [a, b] >>= _) _ _ s
  refine wpAny_bind (wpAny_newObj_type ?_)
  have hT : (s.heap.push { cls := .type "tuple", data := .seq #[a, b] }).IsTuple s.heap.objs.size #[a, b] := ⟨_, Heap.get?_push_size _ rfl, rfl, 0, rfl⟩
  have z1 : (s.heap.push { cls := .type "tuple", data := .seq #[a, b] }).objs.size = s.heap.objs.size + 1 := Heap.size_push ..
  refine wpAny_bind (wpAny_pyIter_tuple hT ?_)
  refine wpAny_bind (wpAny_newObj_type ?_)
  rw [nm]
  have out : ∀ k, s.heap.objs.size ≤ k → s.heap.get? k = none := fun k hk => by
    cases q : s.heap.get? k with
    | none => rfl
    | some o => exact absurd (Nat.lt_of_lt_of_le (Heap.lt_size q) hk) (Nat.lt_irrefl _)
  have z2 : ((s.heap.push { cls := .type "tuple", data := .seq #[a, b] }).push { cls := .type "tuple_iterator", data := .fields #[.ref s.heap.objs.size, .int 0 0] }).objs.size = s.heap.objs.size + 2 := by rw [Heap.size_push, z1]
  refine wpAny_pure ⟨plainId_quiet F.plain_max_loop _, ?_⟩
  have push2 : ∀ {x : Addr} {o u v : Obj}, s.heap.get? x = some o → ((s.heap.push u).push v).get? x = some o := fun e => Heap.get?_push_of_some _ (Heap.get?_push_of_some _ e)
  refine max_begin (c := 0) (h0 := s.heap) (Walks.tuple (A := A.in1) hh _ s.heap.objs.size (by show s.heap.objs.size ≠ (s.heap.push _).objs.size; rw [z1]; exact Nat.ne_of_lt (Nat.lt_succ_self _)) #[a, b]) bt cmp ?_ ?_ ?_ (show 0 < 2 by decide) ?_ ?_ ?_ ?_
  · show ((s.heap.push _).push _).objs.size ∉ [(s.heap.push _).objs.size, s.heap.objs.size]
    rw [z2, z1]
    intro m
    rcases List.mem_cons.mp m with m | m
    · exact absurd m (by omega)
    · rcases List.mem_cons.mp m with m | m
      · exact absurd m (by omega)
      · cases m
  · intro x m
    rw [List.mem_singleton.mp m]
    exact out _ (by show s.heap.objs.size ≤ (s.heap.push _).objs.size; rw [z1]; omega)
  · show s.heap.get? ((s.heap.push _).push _).objs.size = none
    exact out _ (by rw [z2]; omega)
  · exact fun x o e => Heap.get?_push_of_some _ (push2 e)
  · exact ⟨⟨_, Heap.get?_push_of_some _ (Heap.get?_push_size _ rfl), rfl, rfl⟩, (hT.push _).push _⟩
  · exact Heap.get?_push_size _ rfl
  · intro v h' tk hv hk
    have e : v = if bt 1 0 = true then b else a := by
      have hv' : #[a, b][if bt 1 0 = true then 1 else 0]? = some v := hv
      by_cases q : bt 1 0 = true
      · rw [if_pos q] at hv' ⊢
        have : some b = some v := hv'
        cases this
        rfl
      · rw [if_neg q] at hv' ⊢
        have : some a = some v := hv'
        cases this
        rfl
    rw [e]
    refine fin h' tk fun x o ex => hk x o (fun m => ?_) (fun m => ?_) (Heap.get?_push_of_some _ (push2 ex))
    · have hx := Heap.lt_size ex
      have m' : x = (s.heap.push { cls := .type "tuple", data := .seq #[a, b] }).objs.size := List.mem_singleton.mp m
      have hx' : (x : Nat) < s.heap.objs.size := hx
      have m2 : (x : Nat) = s.heap.objs.size + 1 := m'.trans z1
      rw [m2] at hx'
      exact absurd hx' (Nat.not_lt.mpr (Nat.le_add_right _ _))
    · have hx := Heap.lt_size ex
      have m' : x = ((s.heap.push { cls := .type "tuple", data := .seq #[a, b] }).push { cls := .type "tuple_iterator", data := .fields #[.ref s.heap.objs.size, .int 0 0] }).objs.size := m
      have hx' : (x : Nat) < s.heap.objs.size := hx
      have m2 : (x : Nat) = s.heap.objs.size + 2 := m'.trans z2
      rw [m2] at hx'
      exact absurd hx' (Nat.not_lt.mpr (Nat.le_add_right _ _))
end
open PySem L2
/-! ### max(t, u) of two tuples of ints -/
def fMaxT : List D → Option D
  | [.nd .tup ds, .nd .tup es] => (intsD ds).bind fun ns => (intsD es).map fun ms => if HT.lexLt ns ms = true then .nd .tup es else .nd .tup ds
  | [.int i, .int j] => some (.int (if j > i then j else i))
  | _ => none
def rMaxT (K : PySem.W.Frag) : List V → Hp → VK → Prop := fun xs H Q => ∃ a b ns ms, xs = [.ref a, .ref b] ∧ SqT K H a (ns.map V.int) ∧ SqT K H b (ms.map V.int) ∧ Q (if HT.lexLt ns ms = true then .ref b else .ref a) H
theorem lexAt_gt : ∀ (ns ms : List Int), Ob.lexAt (fun j => decide (ms.getD j 0 = ns.getD j 0)) (fun j => decide (ns.getD j 0 < ms.getD j 0)) (decide (ms.length > ns.length)) 0 (min ms.length ns.length) = HT.lexLt ns ms
  | [], [] => by simp [Ob.lexAt_zero, HT.lexLt]
  | [], m :: ms => by simp [Ob.lexAt_zero, HT.lexLt]
  | x :: xs, [] => by simp [Ob.lexAt_zero, HT.lexLt]
  | x :: xs, y :: ys => by
    rw [show min (y :: ys).length (x :: xs).length = min ys.length xs.length + 1 by simp only [List.length_cons]; omega, Ob.lexAt_succ, lexAt_shift]
    have h : decide ((y :: ys).length > (x :: xs).length) = decide (ys.length > xs.length) := by simp
    rw [h]
    show (if decide (y = x) = true then Ob.lexAt (fun j => decide (ys.getD j 0 = xs.getD j 0)) (fun j => decide (xs.getD j 0 < ys.getD j 0)) (decide (ys.length > xs.length)) 0 (min ys.length xs.length) else decide (x < y)) = _
    rw [lexAt_gt xs ys, HT.lexLt_cons]
    by_cases e : x = y
    · simp [e]
    · rw [if_neg e, if_neg (by simpa using fun q => e q.symm)]
theorem gt_tups {A : Around} {s : Shared} {a b : Addr} {its its2 : List Value} {ns ms : List Int} (h1 : s.heap.IsTuple a its.toArray) (h2 : s.heap.IsTuple b its2.toArray) (i1 : IntsAre its ns) (i2 : IntsAre its2 ms) (hu : A.units < cLine) :
    Ob.RcOp .Gt A s (.ref a) (.ref b) (HT.lexLt ms ns) := by
  have e1 : its.toArray.size = ns.length := by rw [List.size_toArray]; exact i1.length
  have e2 : its2.toArray.size = ms.length := by rw [List.size_toArray]; exact i2.length
  have at1 : ∀ j (h1 : j < its.toArray.size), ∃ t, its.toArray[j] = .int (ns.getD j 0) t := fun j h1 => PyProof.Rows.IntsAre.int_at i1 _ _ (by simp at h1; simp [h1])
  have at2 : ∀ j (h1 : j < its2.toArray.size), ∃ t, its2.toArray[j] = .int (ms.getD j 0) t := fun j h1 => PyProof.Rows.IntsAre.int_at i2 _ _ (by simp at h1; simp [h1])
  have R := Ob.RcOp.tuples_gt (A := A) (s := s) (e := fun j => decide (ns.getD j 0 = ms.getD j 0)) (r := fun j => decide (ms.getD j 0 < ns.getD j 0)) h1 h2 hu (fun j g1 g2 => by
    obtain ⟨t, et⟩ := at1 j g1
    obtain ⟨t', et'⟩ := at2 j g2
    rw [et, et']
    have z : (ns.getD j 0 == ms.getD j 0) = decide (ns.getD j 0 = ms.getD j 0) := by
      by_cases q : ns.getD j 0 = ms.getD j 0
      · rw [decide_eq_true q]; exact beq_iff_eq.mpr q
      · rw [decide_eq_false q]; exact beq_eq_false_iff_ne.mpr q
    rw [← z]
    exact SeqAt.EqAt.int_int _ _ _ _) (fun j g1 g2 _ => by
    obtain ⟨t, et⟩ := at1 j g1
    obtain ⟨t', et'⟩ := at2 j g2
    rw [et, et']
    exact Ob.RcOp.gt_int _ _ _ _)
  rw [e1, e2, lexAt_gt ms ns] at R
  exact R
theorem call_maxT {X : Cx} (hc : X.calm = true) (hu : X.A.units + 4 < cLine) : CallR X (.builtin "max") (rMaxT X.K) := by
  intro pins s σ H xs us Q I r h
  obtain ⟨a, b, ns, ms, rfl, h1, h2, q⟩ := h
  obtain ⟨u, w, rfl, r1, r2⟩ := vals2 r
  cases r1
  cases r2
  obtain ⟨its, r1, p1, _⟩ := I.tuple h1
  obtain ⟨its2, r2, p2, _⟩ := I.tuple h2
  have i1 : IntsAre its ns := Vals.ints r1
  have i2 : IntsAre its2 ms := Vals.ints r2
  have hin : X.A.in1.units < cLine := by rw [PyProof.Rows.units_in1]; omega
  refine max2K (I.ok.hd hc) (fun i j => HT.lexLt (if j = 0 then ns else ms) (if i = 0 then ns else ms)) (fun i j vi vj s' Q' E' kp hi hj hq => ?_) fun h' tk kp => ?_
  · have t1 : s'.heap.IsTuple a its.toArray := let ⟨o, ho, z⟩ := p1; ⟨o, kp _ _ ho, z⟩
    have t2 : s'.heap.IsTuple b its2.toArray := let ⟨o, ho, z⟩ := p2; ⟨o, kp _ _ ho, z⟩
    have go : ∀ (i : Nat) (v : Value), #[Value.ref a, Value.ref b][i]? = some v → ∃ c ks its3, v = .ref c ∧ (if i = 0 then ns else ms) = ks ∧ s'.heap.IsTuple c its3.toArray ∧ IntsAre (its3 : List Value) ks := fun i v e => by
      match i, e with
      | 0, e =>
        cases (show some (Value.ref a) = some v from e)
        exact ⟨a, ns, its, rfl, rfl, t1, i1⟩
      | 1, e =>
        cases (show some (Value.ref b) = some v from e)
        exact ⟨b, ms, its2, rfl, rfl, t2, i2⟩
      | n + 2, e => simp at e
    obtain ⟨c1, k1, x1, rfl, e1, g1, g2⟩ := go i vi hi
    obtain ⟨c2, k2, x2, rfl, e2, f1, f2⟩ := go j vj hj
    have R := gt_tups g1 f1 g2 f2 hin
    have hq' : Q' (.bool (HT.lexLt k2 k1)) s' := by
      rw [← e1, ← e2]
      exact hq
    exact R X.prog X.w E' Q' hq'
  · have J : Inv X pins σ H { s with heap := h', toks := tk } := I.kept kp
    show EP X pins σ Q (if HT.lexLt ns ms = true then Value.ref b else Value.ref a) _
    by_cases z : HT.lexLt ns ms = true
    · rw [if_pos z] at q ⊢; exact ⟨.ref b, H, J, rfl, q⟩
    · rw [if_neg z] at q ⊢; exact ⟨.ref a, H, J, rfl, q⟩
theorem CallR.or {X : Cx} {f : Value} {r r' : List V → Hp → VK → Prop} (h : CallR X f r) (h' : CallR X f r') : CallR X f (fun xs H Q => r xs H Q ∨ r' xs H Q) := fun pins s σ H xs us Q I rx z => z.elim (fun z => h pins s σ H xs us Q I rx z) fun z => h' pins s σ H xs us Q I rx z
theorem p_max {X : Cx} (hc : X.calm = true) (hu : X.A.units + 4 < cLine) : ∃ r, CallR X (.builtin "max") r ∧ OpA X.K r fMaxT := ⟨_, CallR.or (call_maxT hc hu) (call_max2 hc), fun B H vs ds g Q b sh ef k => by
  unfold fMaxT at ef
  split at ef
  · rename_i ds es
    obtain ⟨ns, e1, ef⟩ := ob ef
    cases q : intsD es with
    | none => rw [q] at ef; cases ef
    | some ms =>
      rw [q] at ef
      cases ef
      obtain ⟨v, w, rfl, s1, s2⟩ := sh.two rfl
      obtain ⟨a, vs, rfl, h2, h3⟩ := s1
      obtain ⟨c, ws, rfl, g2, g3⟩ := s2
      have i1 := intsD_vs h3 e1
      have i2 := intsD_vs g3 q
      subst i1 i2
      refine Or.inl ⟨a, c, ns, ms, rfl, b.st h2, b.st g2, ?_⟩
      by_cases z : HT.lexLt ns ms = true
      · simp only [if_pos z] at k ⊢; exact k _ B H (New.refl b) ⟨c, _, rfl, g2, g3⟩
      · simp only [if_neg z] at k ⊢; exact k _ B H (New.refl b) ⟨a, _, rfl, h2, h3⟩
  · rename_i i j
    cases ef
    obtain ⟨v, w, rfl, s1, s2⟩ := sh.two rfl
    cases (show v = .int i from s1)
    cases (show w = .int j from s2)
    exact Or.inr ⟨i, j, rfl, k _ B H (New.refl b) rfl⟩
  · cases ef⟩
end DL

end

section
set_option Elab.async false
set_option linter.all false
set_option maxRecDepth 100000
set_option maxHeartbeats 2000000
namespace DL
open PySem L2

/-! ### several owned values -/
abbrev MOs := Env → Option (List T × Env)
structure OwnXs (K : PySem.W.Frag) (B H : Hp) (F : Nat → Addr → Prop) (G : Addr → Prop) (ts : List T) (vs : List V) : Prop where
  own : OwnL K B H G ts vs
  nb : ∀ a, G a → B a = none
  al : ∀ a, G a → H a ≠ none
  dj : ∀ i a, G a → ¬ F i a
def tOs (K : PySem.W.Frag) (m : MOs) : TA := fun σ H Q => ∃ B ρ F, St K B H σ ρ F ∧ ∃ ts ρ', m ρ = some (ts, ρ') ∧ ∀ vs B' H' F' G, Ext B H (U F) B' H' (fun a => U F' a ∨ G a) → St K B' H' σ ρ' F' → OwnXs K B' H' F' G ts vs → Q vs H'
def osN : MOs := fun ρ => some ([], ρ)
def osC (a : MO) (as : MOs) : MOs := fun ρ => (a ρ).bind fun x => (as x.2).bind fun y => some (x.1 :: y.1, y.2)
section
variable {X : Cx} {p q : Bool} {pos : Pos} {io : Nat → Bool}
theorem os_nil : PA X [] (tOs X.K osN) := paW pa_nil fun σ H Q h => by
  obtain ⟨B, ρ, F, S, as, ρ', e, k⟩ := h
  cases (show some ([], ρ) = some (as, ρ') from e)
  exact k [] B H F (fun _ => False) (Ext.refl.less fun a z => z.elim (fun y => y) fun y => y.elim) S ⟨rfl, fun _ z => z.elim, fun _ z => z.elim, fun _ _ z => z.elim⟩
theorem os_cons {e : Expr} {es : List Expr} {ma : MO} {ms : MOs} (ha : PE X e (tO X.K ma)) (hs : PA X es (tOs X.K ms)) (h : starEach (e :: es) X.env = (false, eval e X.env) :: starEach es X.env := by rfl) :
    PA X (e :: es) (tOs X.K (osC ma ms)) := paW (pa_cons ha hs h) fun σ H Q h => by
  obtain ⟨B, ρ, F, S, as, ρ', e, k⟩ := h
  obtain ⟨⟨t, ρ1⟩, ea, e⟩ := ob e
  obtain ⟨⟨ts, ρ2⟩, eb, e⟩ := ob e
  cases e
  refine ⟨B, ρ, F, S, t, ρ1, ea, fun v1 B1 H1 F1 G1 E1 S1 O1 => ⟨B1, ρ1, F1, S1, ts, ρ2, eb, fun vs B2 H2 F2 G2 E2 S2 O2 => ?_⟩⟩
  have g1 : ∀ a, G1 a → ¬ U F1 a := fun a z ⟨i, y⟩ => O1.dj i a z y
  have d12 : ∀ a, G2 a → ¬ G1 a := fun a z y => E2.nf a (O1.al a y) (g1 a y) (Or.inr z)
  refine k (v1 :: vs) B2 H2 F2 (fun a => G1 a ∨ G2 a) ⟨E1.bb.trans E2.bb, fun a o z n => E2.fr a o (E1.fr a o z n) fun y => E1.nf a (by rw [z]; exact fun q => nomatch q) n (Or.inl y), fun a z n y => ?_, fun a z n y => ?_⟩ S2
    ⟨⟨v1, vs, G1, rfl, fun a z => Or.inl z, O1.own.frame E2.bb fun a o z y => E2.fr a o y (g1 a z), O2.own.mono fun a z => ⟨Or.inr z, d12 a z⟩⟩, fun a z => ?_, fun a z => ?_, fun i a z => ?_⟩
  · have h1 : ¬ U F1 a := fun y => E1.nf a z n (Or.inl y)
    have h2 : H1 a ≠ none := by
      cases q : H a with
      | none => exact absurd q z
      | some o => rw [E1.fr a o q n]; exact fun z => nomatch z
    exact E2.nb a h2 h1 (E1.nb a z n y)
  · have h1 : ¬ U F1 a := fun y => E1.nf a z n (Or.inl y)
    have h2 : H1 a ≠ none := by
      cases q : H a with
      | none => exact absurd q z
      | some o => rw [E1.fr a o q n]; exact fun z => nomatch z
    rcases y with y | y | y
    · exact E2.nf a h2 h1 (Or.inl y)
    · exact E1.nf a z n (Or.inr y)
    · exact E2.nf a h2 h1 (Or.inr y)
  · rcases z with z | z
    · exact E2.nb a (O1.al a z) (g1 a z) (O1.nb a z)
    · exact O2.nb a z
  · rcases z with z | z
    · cases q : H1 a with
      | none => exact absurd q (O1.al a z)
      | some o => rw [E2.fr a o q (g1 a z)]; exact fun z => nomatch z
    · exact O2.al a z
  · rcases z with z | z
    · exact fun y => E2.nf a (O1.al a z) (g1 a z) (Or.inl ⟨i, y⟩)
    · exact O2.dj i a z
/-- a written list, its parts ours too -/
def oLs (as : MOs) : MO := fun ρ => (as ρ).bind fun z => if (!decide (z.1.length ≤ 100000)) = true then none else some (.nd .lst z.1, z.2)
theorem own_node {K : PySem.W.Frag} {B H H0 B0 : Hp} {F0 : Addr → Prop} {σ : L2.St} {ρ : Env} {F : Nat → Addr → Prop} {G : Addr → Prop} {ts : List T} {vs : List V} {pp : Addr} {o : HO} {kd : DK} (S : St K B H σ ρ F) (E : Ext B0 H0 F0 B H (fun a => U F a ∨ G a)) (O : OwnXs K B H F G ts vs) (hp : H pp = none) (on : OwnN (upd H pp o) kd pp vs)
    (h0 : H0 pp ≠ none → F0 pp) :
    Ext B0 H0 F0 B (upd H pp o) (fun a => U F a ∨ (G a ∨ a = pp)) ∧ St K B (upd H pp o) σ ρ F ∧ OwnX K B (upd H pp o) F (fun a => G a ∨ a = pp) (.nd kd ts) (.ref pp) := by
  obtain ⟨n1, n2, n3, n4, n5⟩ := new_own S (o := o) hp
  have gp : ¬ G pp := fun z => O.al pp z hp
  refine ⟨⟨E.bb, fun a o' z n => Ex.new hp a o' (E.fr a o' z n), E.nb, fun a z n y => ?_⟩, n2, ⟨⟨pp, vs, rfl, Or.inr rfl, on, (O.own.frame (Ex.refl _) fun a o' _ q => Ex.new hp a o' q).mono fun a z => ⟨Or.inl z, fun q => gp (q ▸ z)⟩⟩, fun a z => ?_, fun a z => ?_, fun i a z => ?_⟩⟩
  · rcases y with y | y | y
    · exact E.nf a z n (Or.inl y)
    · exact E.nf a z n (Or.inr y)
    · rw [y] at z n; exact n (h0 z)
  · rcases z with z | z
    · exact O.nb a z
    · exact n3 a z
  · rcases z with z | z
    · cases q : H a with
      | none => exact absurd q (O.al a z)
      | some u => rw [Ex.new hp a u q]; exact fun z => nomatch z
    · exact n4 a z
  · rcases z with z | z
    · exact O.dj i a z
    · exact n5 i a z
theorem o_ls {es : List Expr} {ms : MOs} (h : PA X es (tOs X.K ms)) : PE X (.List es pos) (tO X.K (oLs ms)) := peW (pe_lst h) fun σ H Q h => by
  obtain ⟨B, ρ, F, S, t, ρ', e, k⟩ := h
  obtain ⟨⟨ts, ρ1⟩, ea, e⟩ := ob e
  obtain ⟨es, e⟩ := og e
  cases e
  refine ⟨B, ρ, F, S, ts, ρ1, ea, fun vs B1 H1 F1 G1 E1 S1 O1 => ⟨by rw [← O1.own.len]; exact Nat.le_trans (of_decide_eq_true (by simpa using es)) (by decide), fun pp hp => ?_⟩⟩
  obtain ⟨a1, a2, a3⟩ := own_node (kd := .lst) (o := .lst vs) S1 E1 O1 hp upd_same fun z => by
    by_cases y : U F pp
    · exact y
    · cases q : H pp with
      | none => exact absurd q z
      | some o => rw [E1.fr pp o q y] at hp; cases hp
  exact k _ B1 _ F1 _ a1 a2 a3
/-- a, b = e1, e2 -/
def sPar (i j : Nat) (m : MOs) : MS := fun ρ => (m ρ).bind fun x => match x.1 with
  | [t, u] => (put i t x.2).bind fun ρ1 => (put j u ρ1).bind fun ρ2 => some (.nx, ρ2)
  | _ => none
theorem s_par {i j : Nat} {x y : Str} {a b : Expr} {ms : MOs} {px py pt : Pos} {kt k2 pt2} (hc : X.calm = true) (hN : X.N.Nodup) (ha : PA X [a, b] (tOs X.K ms)) (hi : X.N[i]? = some x := by rfl) (hj : X.N[j]? = some y := by rfl) (hij : i ≠ j := by decide)
    (hx : X.env.scope.names.lookup x = some .local := by rfl) (hy : X.env.scope.names.lookup y = some .local := by rfl) (hio : io i = false := by rfl) (hjo : io j = false := by rfl)
    (hw : swappedStores [.Tuple [.Name x px, .Name y py] kt pt] (.Tuple [a, b] k2 pt2) X.env = pure (some [x, y]) := by rfl)
    (hs : swapsWithSole [.Tuple [.Name x px, .Name y py] kt pt] (.Tuple [a, b] k2 pt2) pos.line X.env = pure false := by rfl) :
    PS X (.Assign [.Tuple [.Name x px, .Name y py] kt pt] (.Tuple [a, b] k2 pt2) pos) (tS X.K io (sPar i j ms)) := psW (ps_par hc hN hi hj hij hx hy ha hw hs) fun Z σ H h => by
  obtain ⟨B, ρ, F, S, fl, ρ', e, k⟩ := tS_eq.mp h
  obtain ⟨⟨ts, ρ1⟩, ea, e⟩ := ob e
  refine ⟨B, ρ, F, S, ts, ρ1, ea, fun vs B1 H1 F1 G1 E1 S1 O1 => ?_⟩
  match ts, e, O1 with
  | [t, u], e, ⟨⟨v, r, G2, h1, h2, h3, w, r2, G3, h4, h5, h6, h7⟩, O2, O3, O4⟩ =>
    obtain ⟨ρ2, e1, e⟩ := ob (show (put i t ρ1).bind _ = some (fl, ρ') from e)
    obtain ⟨ρ3, e2, e⟩ := ob e
    cases e
    cases (show r2 = [] from h7)
    subst h4 h1
    refine ⟨v, w, rfl, ?_⟩
    obtain ⟨F2, u2, S2⟩ := put_own S1 (t := t) (v := v) (G := G2) ⟨h3, fun a z => O2 a (h2 a z), fun a z => O3 a (h2 a z), fun i a z => O4 i a (h2 a z)⟩ e1
    have dj3 : ∀ l a, G3 a → ¬ F2 l a := fun l a z y => by
      rcases u2 a ⟨l, y⟩ with y | y
      · obtain ⟨l', y⟩ := y; exact O4 l' a (h5 a z).1 y
      · exact (h5 a z).2 y
    obtain ⟨F3, u3, S3⟩ := put_own S2 (t := u) (v := w) (G := G3) ⟨h6, fun a z => O2 a (h5 a z).1, fun a z => O3 a (h5 a z).1, dj3⟩ e2
    refine k _ B1 H1 F3 (E1.less fun a z => ?_) S3 fun l z => ?_
    · rcases u3 a z with z | z
      · rcases u2 a z with z | z
        · exact Or.inl z
        · exact Or.inr (h2 a z)
      · exact Or.inr (h5 a z).1
    · have n1 : l ≠ i := fun q => by rw [q, hio] at z; cases z
      have n2 : l ≠ j := fun q => by rw [q, hjo] at z; cases z
      rw [List.getElem?_set_ne (Ne.symm n2), List.getElem?_set_ne (Ne.symm n1)]
  | [], e, _ => cases (show none = some (fl, ρ') from e)
  | [_], e, _ => cases (show none = some (fl, ρ') from e)
  | _ :: _ :: _ :: _, e, _ => cases (show none = some (fl, ρ') from e)
/-! ### x op= e -/
def sAug (i : Nat) (f : D → D → Option D) (m : M) : MS := fun ρ => (ρ.t i).bind fun t => (m ρ).bind fun x => (t.sh).bind fun d => (deref x.2 x.1).bind fun e => (f d e).bind fun r => (put i (.fz r) x.2).bind fun ρ' => match t with
  | .fz _ => some (.nx, ρ')
  | .nd _ _ => none
theorem s_aug {i : Nat} {x : Str} {e : Expr} {m : M} {op : Operator} {pos' : Pos} {r : R2} {f : D → D → Option D} (hN : X.N.Nodup) (ho : PIp X op r) (O : OpD X.K r f) (he : PE X e (tE X.K p m)) (hi : X.N[i]? = some x := by rfl) (hx : Loc X.env.scope x := by first | exact Or.inl rfl | exact Or.inr rfl) (hio : io i = false := by rfl)
    (hf : X.fn x = true ∨ X.env.scope.names.lookup x = some .local := by first | exact .inl rfl | exact .inr rfl | assumption) :
    PS X (.AugAssign (.Name x pos') op e pos) (tS X.K io (sAug i f m)) := psW (ps_aug hN hi hx he ho hf) fun Z σ H h => by
  obtain ⟨B, ρ, F, S, fl, ρ', e, k⟩ := tS_eq.mp h
  obtain ⟨t, et, e⟩ := ob e
  obtain ⟨⟨y, ρ1⟩, ey, e⟩ := ob e
  obtain ⟨d, ed, e⟩ := ob e
  obtain ⟨d2, ed2, e⟩ := ob e
  obtain ⟨g, eg, e⟩ := ob e
  obtain ⟨ρ2, ep, e⟩ := ob e
  cases t with
  | nd _ _ => cases (show none = some (fl, ρ') from e)
  | fz dd =>
    cases (show some (Fl.nx, ρ2) = some (fl, ρ') from e)
    cases (show some dd = some d from ed)
    obtain ⟨v, h1, h2⟩ := S.sl i _ (Env.t_some et)
    refine ⟨v, h1, B, ρ, F, S, y, ρ1, ey, fun w B1 H1 F1 E1 S1 A1 P1 => ?_⟩
    refine O B1 H1 v w d d2 g _ S1.bh (Dat.sh S1.bh (Dat.mono E1.bb (show Dat X.K B d v from h2))) (S1.deref A1 ed2) eg fun z B2 H2 n dz => ?_
    obtain ⟨F3, u3, S3⟩ := put_sound (S1.new n) dz ep
    exact k _ B2 H2 F3 ((E1.trans n.ext).less u3) S3 fun l q => List.getElem?_set_ne fun w => by rw [← w, hio] at q; cases q
theorem p_iadd : PIp X .Add (ipI fun i j => i + j) ∧ OpD X.K (ipI fun i j => i + j) fAddI := ⟨ip_add, fun B H x y d e g Q b sx sy ef k => by
  obtain ⟨i, j, h1, h2, h3⟩ := opd_I0 (K := X.K) (g := fun i j => .int (i + j)) (g' := fun i j => .int (i + j)) (fun _ _ _ => rfl) B H x y d e g Q b sx sy ef k
  exact ⟨i, j, h1, h2, h3⟩⟩
theorem p_isub : PIp X .Sub (ipI fun i j => i - j) ∧ OpD X.K (ipI fun i j => i - j) fSub := ⟨ip_sub, fun B H x y d e g Q b sx sy ef k => by
  obtain ⟨i, j, h1, h2, h3⟩ := opd_I0 (K := X.K) (g := fun i j => .int (i - j)) (g' := fun i j => .int (i - j)) (fun _ _ _ => rfl) B H x y d e g Q b sx sy ef k
  exact ⟨i, j, h1, h2, h3⟩⟩
/-! ### the rules in short -/
theorem z_op {op : Operator} {f : D → D → Option D} {a b : Expr} {ma mb : M} (h : ∃ r, OpR X (binaryOp op) r ∧ OpD X.K r f) (ha : PE X a (tE X.K p ma)) (hb : PE X b (tE X.K q mb)) : PE X (.BinOp a op b pos) (tE X.K (p && q) (eB q f ma mb)) := by
  obtain ⟨r, h1, h2⟩ := h
  exact c_op h1 h2 ha hb
theorem z_cmp {op : CmpOp} {f : D → D → Option D} {a b : Expr} {ma mb : M} (h : ∃ r, OpR X (compareOp op) r ∧ OpD X.K r f) (ha : PE X a (tE X.K p ma)) (hb : PE X b (tE X.K q mb)) (hm : behindInMarks op b = false := by first | exact nomark _ | rfl) : PE X (.Compare a [op] [b] pos) (tE X.K (p && q) (eB q f ma mb)) := by
  obtain ⟨r, h1, h2⟩ := h
  exact c_cmp h1 h2 hm ha hb
theorem y_cmp {op : CmpOp} {f : D → D → Option D} {a b : Expr} {ma mb : M} (h : ∃ r, OpR X (compareOp op) r ∧ OpD X.K r f) (ha : PE X a (tE X.K p ma)) (hb : PE X b (tE X.K q mb)) (hm : behindInMarks op b = false := by first | exact nomark _ | rfl) : PT X (.Compare a [op] [b] pos) (tT X.K (p && q) (tB q f ma mb)) := by
  obtain ⟨r, h1, h2⟩ := h
  exact t_cmp h1 h2 hm ha hb
theorem z_ch {r : Bool} {op op' : CmpOp} {f g : D → D → Option D} {a b c : Expr} {ma mb mc : M} (h : ∃ r, OpR X (compareOp op) r ∧ OpD X.K r f) (h' : ∃ r, OpR X (compareOp op') r ∧ OpD X.K r g) (ha : PE X a (tE X.K p ma)) (hb : PE X b (tE X.K q mb)) (hc : PE X c (tE X.K r mc)) (hm : lastMarks [op, op'] [b, c] = false := by rfl) :
    PE X (.Compare a [op, op'] [b, c] pos) (tE X.K (p && (q && r)) (eCh q r f g ma mb mc)) := by
  obtain ⟨r1, h1, h2⟩ := h
  obtain ⟨r2, h3, h4⟩ := h'
  exact c_ch h1 h2 h3 h4 ha hb hc hm
theorem z_ix {a b : Expr} {ma mb : M} (ha : PE X a (tE X.K p ma)) (hb : PE X b (tE X.K q mb)) (hs : PlainIx b := by exact fun _ _ => rfl) : PE X (.Subscript a b pos) (tE X.K (p && q) (eB q fIx ma mb)) := by
  obtain ⟨r, h1, h2⟩ := p_ix (X := X)
  exact c_ix h1 h2 ha hb hs
theorem z_sl {e : Expr} {lo hi : Option Expr} {p2 : Pos} {m : M} {ml mh : MP} (he : PE X e (tE X.K p m)) (hl : PO X lo (tP X.K ml)) (hu : PO X hi (tP X.K mh)) : PE X (.Subscript e (.Slice lo hi none p2) pos) (tE X.K false (eSl fSl m ml mh)) := by
  obtain ⟨r, h1, h2⟩ := p_sl (X := X)
  exact c_sl h1 h2 he hl hu
theorem z_cb {id : String} {x : Str} {po : Pos} {e : Expr} {es : List Expr} {f : List D → Option D} {ms : MA} (h : ∃ r, CallR X (.builtin id) r ∧ OpA X.K r f) (hm : X.mg x = none) (hv : bootBuiltins x = some (.builtin id)) (ha : PA X (e :: es) (tA X.K p ms)) (hg : Gl X x := by rfl)
    (hn : x ≠ "__name__" := by decide) (hdb : (x == ("__debug__" : Str)) = false := by decide)
    (he : starEach (e :: es) X.env = (false, eval e X.env) :: starEach es X.env := by rfl) (hpl : (backTo pos (starEach es X.env)).any (·.1) = false := by rfl) : PE X (.Call (.Name x po) (e :: es) [] pos) (tE X.K p (eCB f ms)) := by
  obtain ⟨r, h1, h2⟩ := h
  exact c_cb h1 h2 hm hv ha hg hn hdb he hpl
theorem z_ct {T : String} {x : Str} {po : Pos} {e : Expr} {es : List Expr} {f : List D → Option D} {ms : MA} (h : ∃ r, CallR X (.type T) r ∧ OpA X.K r f) (hm : X.mg x = none) (hv : bootBuiltins x = some (.type T)) (ha : PA X (e :: es) (tA X.K p ms)) (hg : Gl X x := by rfl)
    (hn : x ≠ "__name__" := by decide) (hdb : (x == ("__debug__" : Str)) = false := by decide)
    (he : starEach (e :: es) X.env = (false, eval e X.env) :: starEach es X.env := by rfl) (hpl : (backTo pos (starEach es X.env)).any (·.1) = false := by rfl) : PE X (.Call (.Name x po) (e :: es) [] pos) (tE X.K p (eCB f ms)) := by
  obtain ⟨r, h1, h2⟩ := h
  exact c_ct h1 h2 hm hv ha hg hn hdb he hpl
/-- a module's constant -/
def IsC (K : PySem.W.Frag) (mg : Str → Option Value) (x : Str) (d : D) : Prop := ∃ u v, mg x = some u ∧ RelV v u ∧ ∀ B, Dat K B d v
theorem z_gl {x : Str} {d : D} (h : IsC X.K X.mg x d) (hg : Gl X x := by rfl) (hb : (x == ("__debug__" : Str)) = false := by decide) : PE X (.Name x pos) (tE X.K p (eK d)) := by
  obtain ⟨u, v, h1, h2, h3⟩ := h
  exact c_glob hg h1 h2 h3 hb
/-- -e -/
def fNeg : D → Option D
  | .int i => some (.int (-i))
  | _ => none
theorem z_neg {a : Expr} {m : M} (ha : PE X a (tE X.K p m)) : PE X (.UnaryOp .USub a pos) (tE X.K p (eU1 fNeg m)) := peW (pe_un un_neg ha) fun σ H Q h => by
  refine tE_1 h fun B H v d g b sh ef k => ?_
  unfold fNeg at ef
  split at ef
  · rename_i i
    cases ef
    exact ⟨i, sh, k _ B H (New.refl b) rfl⟩
  · cases ef
/-! ### for over a list or a tuple -/
theorem pi_seq {tg l : Expr} {tl : TE} (hl : PE X l tl) : PI X tg l (fun σ H R => tl σ H fun x H1 => (∃ a, x = .ref a ∧ (∃ xs, SqL X.K H1 a xs) ∧ R (Itl X.K a) H1) ∨ ∃ a, x = .ref a ∧ (∃ xs, SqT X.K H1 a xs) ∧ R (Itt X.K a) H1) := by
  refine ⟨fun pins s σ H R I h => thn (hl.run pins s σ H _ I h) fun v s1 ⟨x, H1, I1, r1, q1⟩ => ?_⟩
  have fp : ∀ b ∈ [s1.heap.objs.size], FpOk X pins H1 b := fun b hb => by
    rw [List.mem_singleton.mp hb]
    exact I1.fpOk (Nat.le_refl _) (I1.hok.fresh (Nat.le_refl _))
  rcases q1 with ⟨a, rfl, ⟨xs, hq⟩, q⟩ | ⟨a, rfl, ⟨xs, hq⟩, q⟩
  · cases r1
    obtain ⟨its, rv, pl, hz⟩ := I1.list hq
    exact wpAny_pyIter_list pl.isList ⟨s1.heap.objs.size, [s1.heap.objs.size], _, _, H1, rfl, I1.kept (t' := s1.toks) fun b o e => Heap.get?_push_of_some _ e, turn_list a _, ⟨_, Heap.get?_push_size _ rfl, rfl, rfl⟩, fp, q⟩
  · cases r1
    obtain ⟨its, rv, pl, hz⟩ := I1.tuple hq
    exact wpAny_pyIter_tuple (show s1.heap.IsTuple a its.toArray from pl) ⟨s1.heap.objs.size, [s1.heap.objs.size], _, _, H1, rfl, I1.kept (t' := s1.toks) fun b o e => Heap.get?_push_of_some _ e, turn_tuple a _, ⟨_, Heap.get?_push_size _ rfl, rfl, rfl⟩, fp, q⟩
theorem i_seq {tg e : Expr} {m : M} (h : PE X e (tE X.K p m)) : PI X tg e (tI X.K (iSq DK.isQ m)) := piW (pi_seq h) fun σ H R h => by
  obtain ⟨B, ρ, F, S, ds, ρ', e, k⟩ := h
  refine tE_sq (R := fun _ x H1 => (∃ a, x = .ref a ∧ (∃ xs, SqL X.K H1 a xs) ∧ R (Itl X.K a) H1) ∨ ∃ a, x = .ref a ∧ (∃ xs, SqT X.K H1 a xs) ∧ R (Itt X.K a) H1) S e fun k' a vs B' H' F' z E' S' h1 h2 => ?_
  rcases h1.q z with h1 | h1
  · exact Or.inl ⟨a, rfl, ⟨vs, S'.bh.sl h1⟩, k (Itl X.K a) B' H' F' E' S' (wk_list h1 h2)⟩
  · exact Or.inr ⟨a, rfl, ⟨vs, S'.bh.st h1⟩, k (Itt X.K a) B' H' F' E' S' (wk_tup h1 h2)⟩
/-- for i, x in enumerate(a list) -/
def enumD : Nat → List D → List D
  | _, [] => []
  | n, d :: ds => .nd .tup [.int (n : Int), d] :: enumD (n + 1) ds
def iEn (m : M) : MI := fun ρ => (iSq DK.isQ m ρ).bind fun x => some (enumD 0 x.1, x.2)
end
end DL

end

section
set_option Elab.async false
set_option linter.all false
set_option maxRecDepth 100000
set_option maxHeartbeats 4000000
/-! for i, x in enumerate(a tuple) -/
namespace DL
open PySem PySem.Spec PyProof.Rows
theorem enum_made {v : Value} {o : Obj} {H : Heap → Prop} (B : Begins v o H) :
    Meets (Builtin.«enumerate.__new__» ⟨[.type "enumerate", v], []⟩) (fun _ R s => H s.heap ∧
      R (.ok (.ret (.ref (s.heap.push o).objs.size))) { s with heap := (s.heap.push o).push { cls := .type "enumerate", data := .fields #[.none, .bool false, .ref s.heap.objs.size, rawInt 0, .none, .none] } }) :=
  .of_wp fun prog w A R s h => by
    obtain ⟨hp, g, d, tk, os⟩ := s
    obtain ⟨h1, h⟩ := h
    have hsub := sub_enumerate
    have step : ∀ {A' : Around} {E : Value → Shared → Prop} {Q : Value → Shared → Prop}, Q (.ref hp.objs.size) ⟨hp.push o, g, d, tk, os⟩ → wpAny (model prog w) A' (pyIter v) Q E ⟨hp, g, d, tk, os⟩ :=
      fun q => B.iter prog w _ _ ⟨hp, g, d, tk, os⟩ _ h1 q
    wp_walk using step
    refine wpAny_stack_any fun st => wpAny_pure ?_
    split
    · rename_i c _ _ _ _ _
      cases (c == Value.type "enumerate") <;> (wp_walk using step; exact ⟨_, rfl, h⟩)
    · wp_walk using step
      exact ⟨_, rfl, h⟩
theorem call_enumB {prog : Program} {w : World} {A : Around} {E : Value → Shared → Prop} {s : Shared} {v : Value} {o : Obj} {H : Heap → Prop} {Q : Value → Shared → Prop} (B : Begins v o H) (h1 : H s.heap)
    (h : ∀ h', IsEnum h' (s.heap.objs.size + 1) s.heap.objs.size 0 .none → h'.get? s.heap.objs.size = some o → h'.objs.size = s.heap.objs.size + 2 → (∀ b o, s.heap.get? b = some o → h'.get? b = some o) → Q (.ref (s.heap.objs.size + 1)) { s with heap := h' }) :
    wpAny (model prog w) A (PySem.call (.type "enumerate") [v]) Q E s := by
  refine callType_new F.called_enumerate (by decide) (F.typeCall_enumerate_1 _) (F.newCall_enumerate_1 _) (fun obj => F.args_object_init_2 obj _) F.entry_enumerate_new (enum_made B) ⟨h1, ?_⟩
  have hz : (s.heap.push o).objs.size = s.heap.objs.size + 1 := Heap.size_push ..
  show _ ∧ _
  rw [hz]
  have he : IsEnum ((s.heap.push o).push { cls := .type "enumerate", data := .fields #[.none, .bool false, .ref s.heap.objs.size, rawInt 0, .none, .none] }) (s.heap.objs.size + 1) s.heap.objs.size 0 .none := by
    have z := Heap.get?_push_size (s.heap.push o) (o := { cls := .type "enumerate", data := .fields #[.none, .bool false, .ref s.heap.objs.size, rawInt 0, .none, .none] }) rfl
    rw [hz] at z
    exact z
  exact ⟨⟨_, he, rfl⟩, h _ he (Heap.get?_push_of_some _ (Heap.get?_push_size _ B.free)) (by rw [Heap.size_push, hz]) fun b o x => Heap.get?_push_of_some _ (Heap.get?_push_of_some _ x)⟩
/-- a tuple's iterator at its end, wherever its place stands -/
theorem drawsT {prog : Program} {w : World} {A : Around} (hh : A.handled = none) (it t : Addr) (hne : t ≠ it) (items : Array Value) :
    Draws prog w A it [it, t] items.size (fun i v => items[i]? = some v) (fun j h => ∃ i, (i = j ∨ (items.size ≤ j ∧ items.size ≤ i)) ∧ h.IsTupleIter it t i ∧ h.IsTuple t items) where
  live := fun _ _ st => let ⟨_, _, st, _⟩ := st; let ⟨o, ho, _⟩ := st; ⟨o, ho⟩
  frame := fun _ _ _ st hk => let ⟨i, e, st1, st2⟩ := st; ⟨i, e, st1.at fun o e => hk it (by simp) o e, st2.at fun o e => hk t (by simp) o e⟩
  item := fun j s Q E hj st hQ => by
    obtain ⟨i, e, st1, st2⟩ := st
    have e' : i = j := by omega
    subst e'
    refine wpAny_nextOf_tuple_item st1 st2 (x := items[i]) (by simp [hj]) fun h' hit' hs' => ?_
    exact hQ _ h' s.toks (by simp [hj]) ⟨i + 1, Or.inl rfl, hit', st2.extBut hs'.extBut hne⟩ hs'
  done := fun s Q E st hE => by
    obtain ⟨i, e, st1, st2⟩ := st
    exact wpAny_nextOf_tuple_end hh st1 st2 (by simp; omega) hE
open L2
/-- the tuple at a, each item in a new pair -/
def ItT (K : PySem.W.Frag) (a : Addr) : It :=
  ⟨fun i H => ∃ (xs : List V) (x : V), SqT K H a xs ∧ xs[i]? = some x, fun i H v H' => ∃ T x, v = .ref T ∧ H T = none ∧ H' = upd H T (.tup [.int (i : Nat), x]) ∧ ∀ xs, SqT K H a xs → xs[i]? = some x, fun i H => ∃ xs : List V, SqT K H a xs ∧ xs.length ≤ i⟩
theorem turn_enumT {P : Program} {w : World} {K : PySem.W.Frag} {elts : List Expr} {kk : Nat} {tpos : Pos} (a e it : Addr) :
    Turn P w K (.Tuple elts kk tpos) (ItT K a) [e, it] e (fun i h => (∃ old, IsEnum h e it ((i : Nat) : Int) old) ∧ h.IsTupleIter it a i ∧ (e ≠ it ∧ a ≠ it ∧ a ≠ e)) where
  mem := by simp
  obj := fun i h st b hb => by
    obtain ⟨⟨old, he⟩, ⟨o, ho, hc, hd⟩, _⟩ := st
    rcases List.mem_cons.mp hb with z | z
    · rw [z]; exact ⟨_, he, fun v q => nomatch q⟩
    · rw [List.mem_singleton.mp z]; exact ⟨o, ho, fun v q => by rw [hd] at q; cases q⟩
  keep := fun i h h' st k => let ⟨⟨old, he⟩, hi, hne⟩ := st; ⟨⟨old, k e (by simp) _ he⟩, hi.at fun o q => k it (by simp) o q, hne⟩
  item := by
    intro X hP hw hK hc i pins s σ H E I hf st hg
    subst hP hw hK
    obtain ⟨⟨old, he⟩, hit, hne, hai, hae⟩ := st
    obtain ⟨xs, x, hq, hx⟩ := hg
    obtain ⟨its, rv, p, hz⟩ := I.tuple hq
    obtain ⟨u, hu, ru⟩ := rv.get hx
    have hel : e < s.heap.objs.size := Heap.lt_size he
    have hil : it < s.heap.objs.size := by obtain ⟨_, q, _⟩ := hit; exact Heap.lt_size q
    have hlt : i < its.toArray.size := by simpa using (List.getElem?_eq_some_iff.mp hu).1
    refine wpAny_pyNext_enum_itemD (Draws.tuple (A := X.A.in1) (I.ok.hd hc) it a hai its.toArray) he ⟨hit, p⟩ hlt hne (by simp [hne, Ne.symm hae]) fun y h' tk hy ho hit' hT hsz hk => ?_
    have ey : y = u := by
      have hy' : its.toArray[i]? = some y := hy
      rw [show its.toArray[i]? = its[i]? by simp, hu] at hy'
      cases hy'
      rfl
    subst ey
    refine ⟨_, rfl, wpAny_letOwnedTupleGo_enum (s := { s with heap := h', toks := tk + 1 }) ho fun h'' he' sb => ?_⟩
    have hT2 : h''.get? s.heap.objs.size = some { cls := .type "tuple", data := .seq #[.int i tk, y] } := (sb.2 _ (Nat.ne_of_gt hel)).trans hT
    have new : ObjOk X.prog X.w (upd H s.heap.objs.size (.tup [.int (i : Nat), x])) h'' s.heap.objs.size (.tup [.int (i : Nat), x]) :=
      ⟨by show 2 ≤ sizeLine; decide, [.int i tk, y], .cons ⟨_, rfl⟩ (.cons ru .nil), ⟨_, hT2, rfl, _, rfl⟩⟩
    have I1 : Inv X pins σ (upd H s.heap.objs.size (.tup [.int (i : Nat), x])) { s with heap := h'', toks := tk + 1 } :=
      I.turnedNew (ch := [e, it]) (fun b ob hb q => (sb.2 b (fun z => hb (by simp [z]))).trans (hk b ob (fun z => hb (by simp [z])) (fun z => hb (by simp [z])) q)) hf (Nat.le_refl _) new
    refine ⟨.ref s.heap.objs.size, _, I1, rfl, ⟨_, x, rfl, I.hok.fresh (Nat.le_refl _), rfl, fun ys hy => by rw [I.tuple_inj hy hq]; exact hx⟩, ⟨⟨y, ?_⟩, hit'.1.at fun o q => (sb.2 it (Ne.symm hne)).trans q, hne, hai, hae⟩, fun b hb => ?_⟩
    · have e1 : ((i + 1 : Nat) : Int) = (i : Int) + 1 := by omega
      rw [e1]; exact he'
    · have hb' : b < s.heap.objs.size := by
        rcases List.mem_cons.mp hb with z | z
        · rw [z]; exact hel
        · rw [List.mem_singleton.mp z]; exact hil
      rw [upd_ne (Nat.ne_of_lt hb')]
      exact (hf b hb).1
  done := by
    intro X hP hw hK hc i pins s σ H E I hf st hg
    subst hP hw hK
    obtain ⟨⟨old, he⟩, hit, hne, hai, hae⟩ := st
    obtain ⟨xs, hq, hx⟩ := hg
    obtain ⟨its, rv, p, hz⟩ := I.tuple hq
    obtain ⟨f0, f1, f2, f3, f4, f5⟩ := hf it (by simp)
    have hl := rv.length
    refine wpAny_pyNext_enum_endD (drawsT (A := X.A.in1) (I.ok.hd hc) it a hai its.toArray) he ⟨i, Or.inr ⟨Nat.le_refl _, by simp; omega⟩, hit, p⟩ fun h' eb => ⟨rfl, ?_⟩
    exact I.turned (t' := s.toks) (fun b o hb q => eb b o hb q) f0 f1 f3 f4 f5
  self := fun A i s Q E st h => let ⟨⟨_, he⟩, _⟩ := st; wpAny_pyIter_enum he h
def iEnT (K : PySem.W.Frag) (ta : TA) : TI := fun σ H R => ta σ H fun vs H1 => (∃ a xs, vs = [.ref a] ∧ SqT K H1 a xs ∧ R (ItT K a) H1) ∨ ∃ a xs, vs = [.ref a] ∧ SqL K H1 a xs ∧ R (Ite K a) H1
theorem pi_enumQ {X : Cx} {e : Expr} {ta : TA} {p pos tpos : Pos} {elts : List Expr} {kk : Nat} (hg : Gl X "enumerate") (hm : X.mg "enumerate" = none) (ha : PA X [e] ta) (hs : starEach [e] X.env = [(false, eval e X.env)] := by rfl) :
    PI X (.Tuple elts kk tpos) (.Call (.Name "enumerate" p) [e] [] pos) (iEnT X.K ta) := by
  refine ⟨fun pins s σ H R I h => ?_⟩
  refine Call_ (ld_blt I hg hm boot_enumerate (PyProof.Rows.callWith_type1 (thn (ha.run pos pins s σ H _ I h) fun us s1 ⟨vs, H1, I1, r1, q1⟩ => ?_) hs rfl))
  have fp : ∀ b ∈ [s1.heap.objs.size + 1, s1.heap.objs.size], FpOk X pins H1 b := fun b hb => by
    have hle : s1.heap.objs.size ≤ b := by
      rcases List.mem_cons.mp hb with z | z
      · rw [z]; exact Nat.le_add_right _ _
      · rw [List.mem_singleton.mp z]; exact Nat.le_refl _
    exact I1.fpOk hle (I1.hok.fresh hle)
  rcases q1 with ⟨a, xs, rfl, hq, q⟩ | ⟨a, xs, rfl, hq, q⟩
  · obtain ⟨u, rfl, ru⟩ := vals1 r1
    cases ru
    obtain ⟨its, rv, p', hz⟩ := I1.tuple hq
    have ha : a < s1.heap.objs.size := let ⟨o, ho, _⟩ := p'; Heap.lt_size ho
    refine call_enumB (begins_tuple a its.toArray) p' fun h' he hit hsz hk => wpAny_pyIter_enum he ?_
    have I2 : Inv X pins σ H1 { s1 with heap := h' } := I1.kept (t' := s1.toks) hk
    exact ⟨s1.heap.objs.size + 1, [s1.heap.objs.size + 1, s1.heap.objs.size], _, _, H1, rfl, I2, turn_enumT a (s1.heap.objs.size + 1) s1.heap.objs.size, ⟨⟨.none, he⟩, ⟨_, hit, rfl, rfl⟩, Nat.succ_ne_self _, Nat.ne_of_lt ha, Nat.ne_of_lt (Nat.lt_succ_of_lt ha)⟩, fp, q⟩
  · obtain ⟨u, rfl, ru⟩ := vals1 r1
    cases ru
    obtain ⟨its, rv, p', hz⟩ := I1.list hq
    refine call_enumerate_list p'.isList fun h' he hit hsz hk => wpAny_pyIter_enum he ?_
    have I2 : Inv X pins σ H1 { s1 with heap := h' } := I1.kept (t' := s1.toks) hk
    exact ⟨s1.heap.objs.size + 1, [s1.heap.objs.size + 1, s1.heap.objs.size], _, _, H1, rfl, I2, turn_enum a (s1.heap.objs.size + 1) s1.heap.objs.size, ⟨⟨.none, he⟩, hit, Nat.succ_ne_self _⟩, fp, q⟩
section
variable {X : Cx} {p : Bool} {pos : Pos}
theorem enumD_at : ∀ {ds : List D} {n i : Nat} {d : D}, (enumD n ds)[i]? = some d → ∃ e, ds[i]? = some e ∧ d = .nd .tup [.int ((n + i : Nat) : Int), e]
  | [], n, i, _, h => by simp [enumD] at h
  | x :: xs, n, 0, d, h => by
    have : some (D.nd .tup [.int (n : Int), x]) = some d := h
    cases this
    exact ⟨x, rfl, rfl⟩
  | x :: xs, n, i + 1, d, h => by
    obtain ⟨e, h1, h2⟩ := enumD_at (ds := xs) (n := n + 1) (i := i) (d := d) (by simpa [enumD] using h)
    exact ⟨e, by simpa using h1, by rw [h2, show n + 1 + i = n + (i + 1) by omega]⟩
theorem enumD_len : ∀ {ds : List D} {n : Nat}, (enumD n ds).length = ds.length
  | [], _ => rfl
  | _ :: xs, n => by rw [enumD, List.length_cons, enumD_len, List.length_cons]
theorem wk_enum {K : PySem.W.Frag} {B : Hp} {J : It} {ds : List D} {vs : List V} (hd : DatL K B ds vs) (st : ∀ B1 H, Ex B B1 → Ex B1 H → J.stop vs.length H)
    (go : ∀ i v, vs[i]? = some v → ∀ B1 H, Ex B B1 → Ex B1 H → J.go i H ∧ ∀ x H', J.yld i H x H' → ∃ T, x = .ref T ∧ H T = none ∧ H' = upd H T (.tup [.int (i : Nat), v])) : Wk K B J (enumD 0 ds) :=
  ⟨fun B1 H e1 e2 => by rw [enumD_len, hd.len]; exact st B1 H e1 e2, fun i d g B1 H e1 e2 => by
    obtain ⟨e, h1, h2⟩ := enumD_at g
    obtain ⟨v, g1, g2⟩ := hd.get h1
    obtain ⟨k1, k2⟩ := go i v g1 B1 H e1 e2
    refine ⟨k1, fun x H' y => ?_⟩
    obtain ⟨T, rfl, hT, rfl⟩ := k2 x H' y
    have n := New.lay (o := .tup [.int (i : Nat), v]) e2 hT
    refine ⟨_, n, ?_⟩
    rw [h2]
    exact ⟨T, _, rfl, SqT.of upd_same, _, _, rfl, by rw [Nat.zero_add]; rfl, _, _, rfl, (g2.mono e1).mono n.bb, rfl⟩⟩
theorem i_en {e : Expr} {m : M} {po tpos : Pos} {elts : List Expr} {kk : Nat} (hm : X.mg "enumerate" = none) (h : PE X e (tE X.K p m)) (hg : Gl X "enumerate" := by rfl) (hs1 : starEach [e] X.env = (false, eval e X.env) :: starEach [] X.env := by rfl) (hs : starEach [e] X.env = [(false, eval e X.env)] := by rfl) :
    PI X (.Tuple elts kk tpos) (.Call (.Name "enumerate" po) [e] [] pos) (tI X.K (iEn m)) := piW (pi_enumQ hg hm (pa_cons h pa_nil hs1) hs) fun σ H R h => by
  obtain ⟨B, ρ, F, S, es, ρ', e, k⟩ := h
  obtain ⟨⟨ds, ρ1⟩, e1, e⟩ := ob e
  cases e
  refine tE_sq (R := fun _ x H1 => (∃ a xs, [x] = [V.ref a] ∧ SqT X.K H1 a xs ∧ R (ItT X.K a) H1) ∨ ∃ a xs, [x] = [V.ref a] ∧ SqL X.K H1 a xs ∧ R (Ite X.K a) H1) S e1 fun k' a vs B' H' F' z E' S' h1 h2 => ?_
  rcases h1.q z with h1 | h1
  · refine Or.inr ⟨a, vs, rfl, S'.bh.sl h1, k _ B' H' F' E' S' (wk_enum h2 (fun B1 H e1 e2 => ⟨vs, (e1.trans e2).sl h1, Nat.le_refl _⟩) fun i v g B1 H e1 e2 => ⟨⟨vs, v, (e1.trans e2).sl h1, g⟩, fun x H' y => ?_⟩)⟩
    obtain ⟨T, w, r1, r2, r3, r4⟩ := y
    have := r4 vs ((e1.trans e2).sl h1)
    rw [g] at this
    cases this
    exact ⟨T, r1, r2, r3⟩
  · refine Or.inl ⟨a, vs, rfl, S'.bh.st h1, k _ B' H' F' E' S' (wk_enum h2 (fun B1 H e1 e2 => ⟨vs, (e1.trans e2).st h1, Nat.le_refl _⟩) fun i v g B1 H e1 e2 => ⟨⟨vs, v, (e1.trans e2).st h1, g⟩, fun x H' y => ?_⟩)⟩
    obtain ⟨T, w, r1, r2, r3, r4⟩ := y
    have := r4 vs ((e1.trans e2).st h1)
    rw [g] at this
    cases this
    exact ⟨T, r1, r2, r3⟩
end
/-! ### small things for the printed terms -/
theorem ln_nil : ∀ ρ y, mNil ρ = some y → y.1.length = 0 := fun ρ y e => by cases (show some ([], ρ) = some y from e); rfl
theorem ln_cons {q : Bool} {a : M} {ms : MA} {n : Nat} (h : ∀ ρ y, ms ρ = some y → y.1.length = n) : ∀ ρ y, mCons q a ms ρ = some y → y.1.length = n + 1 := fun ρ y e => by
  obtain ⟨x, e1, e⟩ := ob e
  obtain ⟨z, e2, e⟩ := ob e
  obtain ⟨_, e⟩ := og e
  cases e
  rw [List.length_cons, h _ _ e2]
theorem ln_io {ms : MA} {n : Nat} (h : ∀ ρ y, ms ρ = some y → y.1.length = n) : ∀ ρ y, ms ρ = some y → y.1.length + 1 = n + 1 := fun ρ y e => by rw [h ρ y e]
theorem u0 {k : Nat} {A : Around} (h : Room k A) : A.units < cLine := Nat.lt_of_le_of_lt (Nat.le_add_right _ _) h.units
theorem u4 {k : Nat} {A : Around} (h : Room k A) : A.units + 4 < cLine := Nat.lt_of_le_of_lt (Nat.add_le_add_left (by decide) _) h.units
theorem w_and1 {X : Cx} {p : Bool} {pos : Pos} {a : Expr} {m : MT} (h : PT X a (tT X.K p m)) : PW X (.BoolOp .And [a] pos) (tT X.K p m) := pw_and1 h
theorem w_or1 {X : Cx} {p : Bool} {pos : Pos} {a : Expr} {m : MT} (h : PT X a (tT X.K p m)) : PW X (.BoolOp .Or [a] pos) (tT X.K p m) := pw_or1 h
end DL

end

section
set_option Elab.async false
set_option linter.all false
set_option maxRecDepth 100000
/-! DV: xs[::-1] of a tuple or a list. -/
namespace DL
open PySem PySem.Spec PyProof.Rows L2 HT
section
variable {prog : Program} {w : World} {A : Around} {E : Value → Shared → Prop} {s : Shared}
theorem rv_adjust (n : Nat) : Builtin.Slice.sliceAdjust none none (-1) (n : Int) = ((n : Int) - 1, -1) := rfl
theorem rv_places (n : Nat) : Builtin.Slice.slicePlaces ((n : Int) - 1) (-1) (-1) = n := by
  unfold Builtin.Slice.slicePlaces
  have h1 : ¬ ((-1 : Int) > 0) := by decide
  simp only [h1, if_false]
  rw [show (- -1 : Int) = 1 by decide, Int.ediv_one]
  split <;> omega
theorem sliceApplied_rv {sl : Addr} {vs : Value} {n : Nat} {Q : Int × Int × Nat → Shared → Prop} (hs : s.heap.IsSliceOf sl .none .none vs) (ps : IsPart vs (some (-1)))
    (h : Q ((n : Int) - 1, -1, n) s) : wpAny (model prog w) A (Builtin.Slice.sliceApplied (.ref sl) (pure (n : Int))) Q E s := by
  obtain ⟨os, hos, hcs, hds⟩ := id hs
  unfold Builtin.Slice.sliceApplied Builtin.Slice.sliceFields
  refine wpAny_bind (wpAny_bind (wpAny_field hos hds (x := .none) rfl (wpAny_bind (wpAny_field hos hds (x := .none) rfl (wpAny_bind (wpAny_field hos hds (x := vs) rfl (wpAny_pure ?_)))))))
  refine wpAny_bind (slicePart_ ps ?_)
  show wpAny _ _ (if ((-1 : Int) == 0) = true then _ else _) _ _ s
  rw [if_neg (by decide)]
  refine wpAny_bind (slicePart_none (wpAny_bind (slicePart_none (wpAny_bind (wpAny_pure ?_)))))
  show wpAny _ _ (match Builtin.Slice.sliceAdjust none none (-1) (n : Int) with | (lo, hi) => pure (lo, (-1 : Int), Builtin.Slice.slicePlaces lo hi (-1))) _ _ s
  rw [rv_adjust]
  show wpAny _ _ (pure ((n : Int) - 1, (-1 : Int), Builtin.Slice.slicePlaces ((n : Int) - 1) (-1) (-1))) _ _ s
  rw [rv_places]
  exact wpAny_pure h
theorem rv_fm {α β : Type} (f : α → Option β) (g : α → β) : ∀ l : List α, (∀ a ∈ l, f a = some (g a)) → l.filterMap f = l.map g
  | [], _ => rfl
  | a :: l, h => by rw [List.filterMap_cons, h a (List.mem_cons_self ..), List.map_cons, rv_fm f g l fun b hb => h b (List.mem_cons_of_mem _ hb)]
theorem rv_pick (xs : Array Value) : ((List.range xs.size).filterMap fun (m : Nat) => xs[((xs.size : Int) - 1 + (m : Int) * (-1)).toNat]?).toArray = xs.toList.reverse.toArray := by
  congr 1
  apply List.ext_getElem?
  intro i
  have e : ((List.range xs.size).filterMap fun (m : Nat) => xs[((xs.size : Int) - 1 + (m : Int) * (-1)).toNat]?) = (List.range xs.size).map fun m => xs[xs.size - 1 - m]?.getD .none := by
    refine rv_fm _ _ _ fun m hm => ?_
    have hm := List.mem_range.mp hm
    have e : ((xs.size : Int) - 1 + (m : Int) * (-1)).toNat = xs.size - 1 - m := by omega
    rw [e]
    have : xs.size - 1 - m < xs.size := by omega
    simp [this]
  rw [e]
  by_cases hi : i < xs.size
  · rw [List.getElem?_map, List.getElem?_range hi, List.getElem?_reverse (by simpa using hi)]
    have : xs.size - 1 - i < xs.size := by omega
    simp [this]
  · rw [List.getElem?_eq_none (by simpa using hi), List.getElem?_eq_none (by simpa using hi)]
theorem getItem_tuple_rv {t sl : Addr} {items : Array Value} {vs : Value} {Q : Value → Shared → Prop} (ht : IsTup s.heap t items) (hs : s.heap.IsSliceOf sl .none .none vs) (ps : IsPart vs (some (-1)))
    (h : Q (.ref s.heap.objs.size) { s with heap := s.heap.push { cls := .type "tuple", data := .seq items.toList.reverse.toArray } })
    (hsz : items.size ≤ sizeLine) : wpAny (model prog w) A (getItem (.ref t) (.ref sl)) Q E s := by
  have htake : sizeOk (.seq items.toList.reverse.toArray) := by
    show items.toList.reverse.toArray.size ≤ sizeLine
    rw [List.size_toArray, List.length_reverse, Array.length_toList]
    omega
  obtain ⟨os, hos, hcs, hds⟩ := id hs
  have hTs : s.TypeIs (.ref sl) "slice" := ⟨os, hos, hcs⟩
  unfold getItem
  try with_reducible refine wpAny_holding ?_
  first | refine wpAny_bind (wpAny_pure ?_) | skip
  refine wpAny_bind (wpAny_sequenceKey ht.typeIs (by decide) ?_)
  refine wpAny_bind (wpAny_callSpecial?_slot (name := Str.ofString "__getitem__") ht.typeIs PyProof.Rows.slot_tuple_getitem
    (wpAny_call_entry PyProof.Rows.slot_tuple_getitem ht.typeIs entry_tuple_getitem ?_ (args_tuple_getitem _ _)))
  show wpAny _ _ (Builtin.Tuple.tupleItemsOf (.ref t) >>= _) _ _ s
  refine wpAny_bind (tupleItemsOf_ ht ?_)
  refine wpAny_bind (wpAny_typeOf hTs ?_)
  rw [if_pos (by decide)]
  refine wpAny_bind (sliceApplied_rv hs ps ?_)
  have hno : ¬ ((((items.size : Int) - 1) == 0 && (-1 : Int) == 1 && items.size == items.size) = true) := by
    intro q
    rw [Bool.and_eq_true, Bool.and_eq_true] at q
    exact absurd q.1.2 (by decide)
  show wpAny _ _ (if (((items.size : Int) - 1) == 0 && (-1 : Int) == 1 && items.size == items.size) = true then _ else _) _ _ s
  rw [if_neg hno, rv_pick]
  first
    | exact wpAny_bind (m := Builtin.Tuple.tupleExact _) (wpAny_newObj_type (wpAny_pure ⟨_, rfl, wpAny_pure h⟩) htake)
    | exact wpAny_bind (m := Builtin.Tuple.tupleExact _) (wpAny_newObj_type (wpAny_bind (wpAny_pure (wpAny_pure ⟨_, rfl, wpAny_pure h⟩))) htake)
    | exact wpAny_bind (wpAny_bind (m := Builtin.Tuple.tupleExact _) (wpAny_newObj_type (wpAny_pure (wpAny_pure ⟨_, rfl, wpAny_pure h⟩)) htake))
    | exact wpAny_bind (wpAny_bind (m := Builtin.Tuple.tupleExact _) (wpAny_newObj_type (wpAny_pure ⟨_, rfl, wpAny_pure h⟩) htake))
end
section
variable {X : Cx} {p : Bool} {m : M}
def rRv (K : PySem.W.Frag) (x : V) (H : Hp) (Q : VK) : Prop := (∃ a xs, x = .ref a ∧ SqL K H a xs ∧ ∀ p, H p = none → Q (.ref p) (upd H p (.lst xs.reverse))) ∨ ∃ a xs, x = .ref a ∧ SqT K H a xs ∧ ∀ p, H p = none → Q (.ref p) (upd H p (.tup xs.reverse))
theorem pe_rv {e : Expr} {te : TE} {k : Nat} {p1 p2 p3 pos : Pos} (he : PE X e te) : PE X (.Subscript e (.Slice none none (some (.UnaryOp .USub (.Constant (.int 1) k p1) p2)) p3) pos) (fun σ H Q => te σ H fun x H1 => rRv X.K x H1 Q) := by
  refine ⟨fun pins s σ H Q I h => ?_⟩
  refine Subscript_ (thn (he.run pins s σ H _ I h) fun v s1 ⟨x, H1, I1, r1, q1⟩ => ?_)
  have hst : PO X (some (.UnaryOp .USub (.Constant (.int 1) k p1) p2)) (tPart (tUn (rU fun i => .int (-i)) (tC (.int 1)))) := po_some (pe_un un_neg pe_int)
  refine wpAny_Slice (thn (po_none.run pins s1 σ H1 (fun o H2 => o = none ∧ H2 = H1) I1 ⟨rfl, rfl⟩) fun vl s2 ⟨l, H2, I2, pl, el, e2⟩ => ?_)
  subst el e2
  refine thn (po_none.run pins s2 σ H2 (fun o H3 => o = none ∧ H3 = H2) I2 ⟨rfl, rfl⟩) fun vu s3 ⟨u, H3, I3, pu, eu, e3⟩ => ?_
  subst eu e3
  refine thn (hst.run pins s3 σ H3 (fun o H4 => o = some (-1) ∧ H4 = H3) I3 ⟨1, rfl, -1, rfl, rfl, rfl⟩) fun vs s4 ⟨o, H4, I4, ps, eo, e4⟩ => ?_
  subst eo e4
  have I5 : Inv X pins σ H4 { s4 with heap := s4.heap.push { cls := .type "slice", data := .fields #[vl, vu, vs] } } := I4.kept (t' := s4.toks) fun b ob q => Heap.get?_push_of_some _ q
  rcases q1 with ⟨a, xs, ex, hx, q⟩ | ⟨a, xs, ex, hx, q⟩
  · subst ex
    cases r1
    obtain ⟨its, r, ht, hz⟩ := I5.list hx
    have hlen := r.length
    show wpAny (model X.prog X.w) X.A (subscriptTail e (.Slice none none (some (.UnaryOp .USub (.Constant (.int 1) k p1) p2)) p3) (.ref a) (.ref s4.heap.objs.size)) (EP X pins σ Q) X.xe { s4 with heap := s4.heap.push { cls := .type "slice", data := .fields #[vl, vu, vs] } }
    refine tail_any (ops := [.ref a, .ref s4.heap.objs.size]) ht.isList.typeIs (PySem.slot_list_getitem.lookup) ?_ (by with_unfolding_all rfl)
    refine wpAny_getItem_list_slice ht.isList (Heap.IsSliceOf.new _ vl vu vs) pl pu ps (by decide) ?_ (by rw [List.size_toArray]; omega)
    rw [PySem.W.krv_pick]
    refine ⟨.ref _, _, I5.laid (t' := s4.toks) (o := .lst xs.reverse) (fun b ob q => Heap.get?_push_of_some _ q) (Nat.le_refl _) ?_, rfl, q _ (I5.hok.fresh (Nat.le_refl _))⟩
    exact ⟨by rw [List.length_reverse]; exact hz, _, 0, r.reverse, Heap.get?_push_size _ rfl⟩
  · subst ex
    cases r1
    cases pl
    cases pu
    obtain ⟨its, r, ht, hz⟩ := I5.tuple hx
    have hlen := r.length
    show wpAny (model X.prog X.w) X.A (subscriptTail e (.Slice none none (some (.UnaryOp .USub (.Constant (.int 1) k p1) p2)) p3) (.ref a) (.ref s4.heap.objs.size)) (EP X pins σ Q) X.xe { s4 with heap := s4.heap.push { cls := .type "slice", data := .fields #[.none, .none, vs] } }
    refine tail_any (ops := [.ref a, .ref s4.heap.objs.size]) ht.typeIs (PyProof.Rows.slot_tuple_getitem.lookup) ?_ (by with_unfolding_all rfl)
    refine getItem_tuple_rv ht (Heap.IsSliceOf.new _ .none .none vs) ps ?_ (by rw [List.size_toArray]; omega)
    refine ⟨.ref _, _, I5.laid (t' := s4.toks) (o := .tup xs.reverse) (fun b ob q => Heap.get?_push_of_some _ q) (Nat.le_refl _) ?_, rfl, q _ (I5.hok.fresh (Nat.le_refl _))⟩
    exact ⟨by rw [List.length_reverse]; exact hz, _, r.reverse, IsTup.new _ _⟩
theorem DatL.rev {K : PySem.W.Frag} {B : Hp} : ∀ {ds : List D} {vs : List V}, DatL K B ds vs → DatL K B ds.reverse vs.reverse := by
  intro ds
  induction ds with
  | nil =>
    intro vs h
    rw [show vs = [] from h]
    exact rfl
  | cons d ds ih =>
    intro vs h
    obtain ⟨v, r, h1, h2, h3⟩ := h
    subst h1
    rw [List.reverse_cons, List.reverse_cons]
    exact (ih h3).app ⟨v, [], rfl, h2, rfl⟩
def fRev : D → Option D
  | .nd .tup ds => some (.nd .tup ds.reverse)
  | .nd .lst ds => some (.nd .lst ds.reverse)
  | .nd .ll ds => some (.nd .lst ds.reverse)
  | _ => none
theorem c_rev {e : Expr} {k : Nat} {p1 p2 p3 pos : Pos} (he : PE X e (tE X.K p m)) : PE X (.Subscript e (.Slice none none (some (.UnaryOp .USub (.Constant (.int 1) k p1) p2)) p3) pos) (tE X.K p (eU1 fRev m)) :=
  peW (pe_rv he) fun σ H Q h => tE_1 h fun B H v d g b sx ef kk => by
    unfold fRev at ef
    split at ef
    · cases ef
      obtain ⟨a, vs, rfl, h2, h3⟩ := sx
      refine Or.inr ⟨a, vs, rfl, b.st h2, fun p hp => ?_⟩
      have n := New.lay (o := .tup vs.reverse) b hp
      exact kk _ _ _ n ⟨p, _, rfl, SqT.of upd_same, h3.rev.mono n.bb⟩
    · cases ef
      obtain ⟨a, vs, rfl, h2, h3⟩ := sx
      refine Or.inl ⟨a, vs, rfl, SqL.of h2, fun p hp => ?_⟩
      have n := New.lay (o := .lst vs.reverse) b hp
      exact kk _ _ _ n ⟨p, _, rfl, upd_same, h3.rev.mono n.bb⟩
    · cases ef
      obtain ⟨a, vs, rfl, h2, h3⟩ := sx
      refine Or.inl ⟨a, vs, rfl, h2, fun p hp => ?_⟩
      have n := New.lay (o := .lst vs.reverse) b hp
      exact kk _ _ _ n ⟨p, _, rfl, upd_same, h3.rev.mono n.bb⟩
    · cases ef
end
end DL

end

section
set_option Elab.async false
set_option linter.all false
set_option maxRecDepth 100000
set_option maxHeartbeats 2000000
/-! DW: the head's hook: the defs, the names that the module does not bind, its constants; a law's end. -/
namespace DL
open PySem PySem.Spec PyProof.Rows L2
def dvB : D → Value → Bool
  | .non, u => He.relB .non u
  | .bl b, u => He.relB (.bl b) u
  | .int i, u => He.relB (.int i) u
  | .str s, u => He.relB (.str s) u
  | .nd _ _, _ => false
def seqB (K : PySem.W.Frag) (c : String) (a : Addr) : Option (List Value) := match K.lookup a with
  | some ⟨.type c', none, .seq its _, _⟩ => if (decide (c' = c) && decide (its.size ≤ sizeLine)) = true then some its.toList else none
  | _ => none
mutual
def datB (K : PySem.W.Frag) : D → Value → Bool
  | .non, u => He.relB .non u
  | .bl b, u => He.relB (.bl b) u
  | .int i, u => He.relB (.int i) u
  | .str s, u => He.relB (.str s) u
  | .nd .tup ds, .ref a => (match seqB K "tuple" a with
    | some us => datBs K ds us
    | none => false)
  | .nd .ll ds, .ref a => (match seqB K "list" a with
    | some us => datBs K ds us
    | none => false)
  | .nd _ _, _ => false
def datBs (K : PySem.W.Frag) : List D → List Value → Bool
  | [], [] => true
  | d :: ds, u :: us => datB K d u && datBs K ds us
  | _, _ => false
end
theorem seqB_ok {K : PySem.W.Frag} {c : String} {a : Addr} {us : List Value} (h : seqB K c a = some us) : ∃ its n sl, K.lookup a = some ⟨.type c, none, .seq its n, sl⟩ ∧ its.size ≤ sizeLine ∧ us = its.toList := by
  unfold seqB at h
  cases q : K.lookup a with
  | none => rw [q] at h; cases h
  | some o =>
    obtain ⟨oc, od, dt, osl⟩ := o
    rw [q] at h
    cases oc with
    | type c' =>
      cases od with
      | none =>
        cases dt with
        | seq its n =>
          by_cases w : (decide (c' = c) && decide (its.size ≤ sizeLine)) = true
          · rw [show (match some (⟨.type c', none, .seq its n, osl⟩ : Obj) with
              | some ⟨.type c', none, .seq its _, _⟩ => if (decide (c' = c) && decide (its.size ≤ sizeLine)) = true then some its.toList else none
              | _ => none) = if (decide (c' = c) && decide (its.size ≤ sizeLine)) = true then some its.toList else none from rfl, if_pos w] at h
            obtain ⟨h1, h2⟩ := He.ba w
            have e := of_decide_eq_true h1
            subst e
            exact ⟨its, n, osl, rfl, of_decide_eq_true h2, (Option.some.inj h).symm⟩
          · rw [show (match some (⟨.type c', none, .seq its n, osl⟩ : Obj) with
              | some ⟨.type c', none, .seq its _, _⟩ => if (decide (c' = c) && decide (its.size ≤ sizeLine)) = true then some its.toList else none
              | _ => none) = if (decide (c' = c) && decide (its.size ≤ sizeLine)) = true then some its.toList else none from rfl, if_neg w] at h
            cases h
        | _ => cases h
      | some z => cases dt <;> cases h
    | _ => cases od <;> cases dt <;> cases h
mutual
theorem datB_ok {K : PySem.W.Frag} : ∀ {d : D} {u : Value}, datB K d u = true → ∃ v, RelV v u ∧ ∀ B, Dat K B d v
  | .non, u, h => ⟨_, He.relB_ok (by simpa only [datB] using h), fun _ => rfl⟩
  | .bl b, u, h => ⟨_, He.relB_ok (by simpa only [datB] using h), fun _ => rfl⟩
  | .int i, u, h => ⟨_, He.relB_ok (by simpa only [datB] using h), fun _ => rfl⟩
  | .str s, u, h => ⟨_, He.relB_ok (by simpa only [datB] using h), fun _ => rfl⟩
  | .nd .tup ds, .ref a, h => by
    rw [datB] at h
    split at h
    · rename_i us e
      obtain ⟨its, n, sl, h1, h2, rfl⟩ := seqB_ok e
      obtain ⟨vs, r, k⟩ := datBs_ok h
      exact ⟨.ref a, rfl, fun B => ⟨a, vs, rfl, .inr ⟨_, its, n, h1, rfl, rfl, h2, r⟩, k B⟩⟩
    · cases h
  | .nd .ll ds, .ref a, h => by
    rw [datB] at h
    split at h
    · rename_i us e
      obtain ⟨its, n, sl, h1, h2, rfl⟩ := seqB_ok e
      obtain ⟨vs, r, k⟩ := datBs_ok h
      exact ⟨.ref a, rfl, fun B => ⟨a, vs, rfl, .inr ⟨_, its, n, h1, rfl, rfl, rfl, h2, r⟩, k B⟩⟩
    · cases h
  | .nd .lst ds, u, h => by cases u <;> simp [datB] at h
  | .nd (.dic ks) ds, u, h => by cases u <;> simp [datB] at h
  | .nd .tup ds, .none, h => by simp [datB] at h
  | .nd .tup ds, .bool _, h => by simp [datB] at h
theorem datBs_ok {K : PySem.W.Frag} : ∀ {ds : List D} {us : List Value}, datBs K ds us = true → ∃ vs, Vals vs us ∧ ∀ B, DatL K B ds vs
  | [], [], _ => ⟨[], .nil, fun _ => rfl⟩
  | d :: ds, u :: us, h => by
    rw [datBs] at h
    obtain ⟨h1, h2⟩ := He.ba h
    obtain ⟨v, r, k⟩ := datB_ok h1
    obtain ⟨vs, r2, k2⟩ := datBs_ok h2
    exact ⟨v :: vs, .cons r r2, fun B => ⟨v, vs, rfl, k B, k2 B⟩⟩
  | [], _ :: _, h => by simp [datBs] at h
  | _ :: _, [], h => by simp [datBs] at h
end
/-! ### the hook -/
def conB (K : PySem.W.Frag) (x : Str) (d : D) : Bool := match PySem.W.nsIn K mainGlobals x with
  | some (some u) => datB K d u
  | _ => false
abbrev AlJ : Type := Bool × List He.FnW
def mkDef (p : Str × Stmt) : He.DefD := ⟨(p.1, none), p.1, p.1, defArgs p.2, defBody p.2, defScope p.2, [], []⟩
def obsJ (fr : List Str) (cs : List (Str × D)) (fn : List (Str × Stmt)) (K : PySem.W.Frag) : AlJ :=
  ((fr.all fun x => (He.Fa.free x).ok K) && ((cs.all fun c => conB K c.1 c.2) && fn.all fun d => (He.Fa.glo d.1).ok K && (mkDef d).ok K), fn.map fun d => He.fnW K (mkDef d).at_)
def valJ (fn : List (Str × Stmt)) : AlJ := (true, fn.map fun d => (mkDef d).val)
def SaysJ (fr : List Str) (cs : List (Str × D)) (fn : List (Str × Stmt)) (K : PySem.W.Frag) : Prop := obsJ fr cs fn K = valJ fn
def obsJG (n : Nat) (fr : List Str) (cs : List (Str × D)) (fn : List (Str × Stmt)) (g : Addr → Option Obj) : AlJ := obsJ fr cs fn (He.frG g (He.asD g n))
def hookJ (n : Nat) (fr : List Str) (cs : List (Str × D)) (fn : List (Str × Stmt)) : PySem.W.Hook where
  α := AlJ
  obs := fun s => obsJG n fr cs fn s.heap.get?
  val := fun _ => valJ fn
  says := fun _ h => ∃ K : PySem.W.Frag, K.In h ∧ SaysJ fr cs fn K
  of := fun _ _ e => ⟨_, He.frG_in, e⟩
  keeps := fun _ _ _ ⟨K, hK, c⟩ k => ⟨K, PySem.W.Frag.In.keeps hK k, c⟩
theorem obsJG_eq {n : Nat} {fr : List Str} {cs : List (Str × D)} {fn : List (Str × Stmt)} {g : Addr → Option Obj} {s : Shared} (h : ∀ a, g a = s.heap.get? a) : obsJG n fr cs fn g = (hookJ n fr cs fn).obs s := by
  have e : g = s.heap.get? := funext h
  rw [e] <;> rfl
section
variable {fr : List Str} {cs : List (Str × D)} {fn : List (Str × Stmt)} {K : PySem.W.Frag} {h : Heap} {mg : Str → Option Value}
theorem SaysJ.parts (c : SaysJ fr cs fn K) : (fr.all fun x => (He.Fa.free x).ok K) = true ∧ (cs.all fun c => conB K c.1 c.2) = true ∧ (fn.all fun d => (He.Fa.glo d.1).ok K && (mkDef d).ok K) = true := by
  have c1 := He.ba (congrArg (fun z : AlJ => z.1) c : _ = true)
  exact ⟨c1.1, He.ba c1.2⟩
theorem SaysJ.free (c : SaysJ fr cs fn K) (X : K.In h) (G : h.Ns mainGlobals mg) (i : Nat) {x : Str} (e : fr[i]? = some x := by rfl) : mg x = none := He.free_ok X G (List.all_eq_true.mp c.parts.1 x (List.mem_of_getElem? e))
theorem SaysJ.con (c : SaysJ fr cs fn K) (X : K.In h) (G : h.Ns mainGlobals mg) (i : Nat) {x : Str} {d : D} (e : cs[i]? = some (x, d) := by rfl) : IsC K mg x d := by
  have h1 : conB K x d = true := List.all_eq_true.mp c.parts.2.1 (x, d) (List.mem_of_getElem? e)
  unfold conB at h1
  split at h1
  · rename_i u q
    obtain ⟨v, r, k⟩ := datB_ok h1
    exact ⟨u, v, PySem.W.mg_of X G q, r, k⟩
  · cases h1
theorem SaysJ.fun_ (c : SaysJ fr cs fn K) (X : K.In h) (G : h.Ns mainGlobals mg) (i : Nat) {x : Str} {st : Stmt} (e : fn[i]? = some (x, st) := by rfl) : ∃ fd, FunD K x x (defArgs st) (defBody st) (defScope st) [] [] (He.ga K x) fd ∧ mg x = some (.ref (He.ga K x)) := by
  have h1 := He.ba (List.all_eq_true.mp c.parts.2.2 (x, st) (List.mem_of_getElem? e))
  have e1 : fn.map (fun d => He.fnW K (mkDef d).at_) = fn.map fun d => (mkDef d).val := congrArg (fun z : AlJ => z.2) c
  have e2 : (fn.map fun d => He.fnW K (mkDef d).at_)[i]? = (fn.map fun d => (mkDef d).val)[i]? := by rw [e1]
  rw [List.getElem?_map, List.getElem?_map, e] at e2
  obtain ⟨fd, F⟩ := He.DefD.funD (Option.some.inj e2) h1.2
  exact ⟨fd, F, He.glo_ok X G h1.1⟩
theorem SaysJ.def_ (c : SaysJ fr cs fn K) (X : K.In h) (G : h.Ns mainGlobals mg) (i : Nat) {x : Str} {st : Stmt} (e : fn[i]? = some (x, st) := by rfl) : IsDef K mg x st :=
  let ⟨fd, F, g⟩ := c.fun_ X G i e
  ⟨_, fd, F, g⟩
end
/-! ### the law's def -/
theorem def_okF {P : Program} {w : World} {K : PySem.W.Frag} {mg : Str → Option Value} {base : Heap} {x : Str} {st : Stmt} {N ps : List Str} {k n : Nat} {io : Nat → Bool} {m : MS} {f : Addr} {fd : FuncData} (F : FunD K x x (defArgs st) (defBody st) (defScope st) [] [] f fd) (S : FnScope N ps (defScope st)) (hn : ps.length = n)
    (hb : ∀ (f : Addr) (cdv : Value) (A : Around) (outer : List PySem.Env) (s : Shared) (H : Hp) (E : XK), Room k (A.deeper (envOfC x (defScope st) s.heap.objs.size f cdv)) → PSs (cxOf CX0 P w K mg base N x (defScope st) f cdv A outer s H E).nox (defBody st) (tS K io m)) :
    FnOk P w K mg base CX0 (k + 1) f fd ps (spF K n (fnD N.length io m)) := by
  refine F.ok S (fun vs H Q E h => ?_) (fun cdv A outer s H vs Q E hr h => ⟨tS K io m, (hb f cdv A outer s H E hr).nox, fn_read h⟩)
  obtain ⟨B, ts, F', h1, _⟩ := h
  rw [h1, hn]
def script (ns : List Int) : T := .fz (.nd .ll (ns.map D.int))
/-- what a law's def must do -/
def LawYes (f : Fn) : Prop := ∀ ns : List Int, ns.length ≤ 63 → ∃ ts, f [script ns] = some (.fz (.bl true), ts)
theorem script_dat {K : PySem.W.Frag} {B : Hp} : ∀ ns : List Int, DatL K B (ns.map D.int) (ns.map V.int)
  | [] => rfl
  | n :: ns => ⟨_, _, rfl, rfl, script_dat ns⟩
theorem law_sp {K : PySem.W.Frag} {f : Fn} (y : LawYes f) {H : Hp} {a : Addr} {ns : List Int} (hl : ns.length ≤ 63) (hS : SqL K H a (ns.map V.int)) : spF K 1 f [.ref a] H (fun v _ => v = .bl true) fun _ _ _ => False := by
  obtain ⟨ts, e⟩ := y ns hl
  refine ⟨H, [script ns], fun _ _ => False, rfl, ⟨Ex.refl _, fun i t h => ?_, fun _ _ z => z.elim, fun _ _ z => z.elim, fun _ _ _ _ z => z.elim, rfl⟩, _, ts, e, fun v B' H' F' G _ _ o => ?_⟩
  · match i, h with
    | 0, h =>
      cases (show some (some (script ns)) = some (some t) from h)
      exact ⟨.ref a, rfl, show Dat K H _ _ from ⟨a, _, rfl, hS, script_dat ns⟩⟩
    | i + 1, h => cases (show none = some (some t) from h)
  · exact o.1
end DL

end

section
set_option Elab.async false
set_option linter.all false
set_option maxRecDepth 100000
/-! PA: going through the printed functions: W x Q: the step ends, and Q holds of what it gives. -/
namespace DL
open PySem L2
def W {α : Type} (x : Option (α × Env)) (Q : α → Env → Prop) : Prop := ∃ a ρ, x = some (a, ρ) ∧ Q a ρ
def Fok (x : Option (T × List T)) (Q : T → List T → Prop) : Prop := ∃ r ts, x = some (r, ts) ∧ Q r ts
def FB {α : Type} (x : Option α) (Q : α → Prop) : Prop := ∃ r, x = some r ∧ Q r
section
variable {α β : Type} {ρ ρ' : Env} {d e u w : D} {i j : Nat} {q : Bool} {k : Bool}
theorem W.bind {x : Option (α × Env)} {f : α × Env → Option (β × Env)} {Q : β → Env → Prop} (h : W x fun a ρ => W (f (a, ρ)) Q) : W (x.bind f) Q := by
  obtain ⟨a, ρ, e, h⟩ := h
  rw [e]
  exact h
theorem W.imp {x : Option (α × Env)} {Q R : α → Env → Prop} (h : W x Q) (k : ∀ a ρ, Q a ρ → R a ρ) : W x R := by
  obtain ⟨a, ρ, e, h⟩ := h
  exact ⟨a, ρ, e, k a ρ h⟩
theorem Fok.imp {x : Option (T × List T)} {Q R : T → List T → Prop} (h : Fok x Q) (k : ∀ a ρ, Q a ρ → R a ρ) : Fok x R := by
  obtain ⟨a, ρ, e, h⟩ := h
  exact ⟨a, ρ, e, k a ρ h⟩
theorem Fok.of {x : Option (T × List T)} {r : T} {ts : List T} {Q : T → List T → Prop} (e : x = some (r, ts)) (h : Q r ts) : Fok x Q := ⟨_, _, e, h⟩
theorem Fok.eq {x : Option (T × List T)} {r : T} {ts : List T} (h : Fok x fun a b => a = r ∧ b = ts) : x = some (r, ts) := by
  obtain ⟨_, _, e, rfl, rfl⟩ := h
  exact e
theorem W.of {x : Option (α × Env)} {a : α} {Q : α → Env → Prop} (e : x = some (a, ρ)) (h : Q a ρ) : W x Q := ⟨_, _, e, h⟩
theorem W.eq {x : Option (α × Env)} {a : α} (h : W x fun b ρ' => b = a ∧ ρ' = ρ) : x = some (a, ρ) := by
  obtain ⟨_, _, e, rfl, rfl⟩ := h
  exact e
theorem W.b {x : Option α} {f : α → Option (β × Env)} {Q : β → Env → Prop} (h : FB x fun a => W (f a) Q) : W (x.bind f) Q := by
  obtain ⟨a, e, h⟩ := h
  rw [e]
  exact h
theorem W.ok {a : α} {Q : α → Env → Prop} (h : Q a ρ) : W (some (a, ρ)) Q := ⟨_, _, rfl, h⟩
theorem FB.of {x : Option α} {r : α} {Q : α → Prop} (e : x = some r) (h : Q r) : FB x Q := ⟨_, e, h⟩
theorem FB.or1 {x y : Option α} {Q : α → Prop} (h : FB x Q) : FB (x.or y) Q := by
  obtain ⟨r, e, h⟩ := h
  rw [e]
  exact ⟨r, rfl, h⟩
theorem FB.bind {x : Option α} {f : α → Option β} {Q : β → Prop} (h : FB x fun a => FB (f a) Q) : FB (x.bind f) Q := by
  obtain ⟨a, e, h⟩ := h
  rw [e]
  exact h
/-! ### the frame -/
def Kset (i : Nat) (x : Option T) (ρ : Env) (Q : Env → Prop) : Prop := Q (ρ.set i x)
theorem Kset_0 {x y : Option T} {Q : Env → Prop} (h : Q (x :: ρ)) : Kset 0 x (y :: ρ) Q := h
theorem Kset_s {x y : Option T} {Q : Env → Prop} (h : Kset i x ρ fun r => Q (y :: r)) : Kset (i + 1) x (y :: ρ) Q := h
def Kput (i : Nat) (t : T) (ρ : Env) (Q : Env → Prop) : Prop := i < ρ.length ∧ Kset i (some t) ρ Q
theorem Kput_0 {t : T} {y : Option T} {Q : Env → Prop} (h : Q (some t :: ρ)) : Kput 0 t (y :: ρ) Q := ⟨by simp, h⟩
theorem Kput_s {t : T} {y : Option T} {Q : Env → Prop} (h : Kput i t ρ fun r => Q (y :: r)) : Kput (i + 1) t (y :: ρ) Q := ⟨by simp [h.1], h.2⟩
theorem put_K {t : T} {Q : Env → Prop} (h : Kput i t ρ Q) : FB (put i t ρ) Q := ⟨_, if_pos h.1, h.2⟩
def Kwipe (vs : List Nat) (ρ : Env) (Q : Env → Prop) : Prop := Q (wipeR ρ vs)
theorem Kwipe_nil {Q : Env → Prop} (h : Q ρ) : Kwipe [] ρ Q := h
theorem Kwipe_cons {v : Nat} {vs : List Nat} {Q : Env → Prop} (h : Kwipe vs ρ fun r => Kset v none r Q) : Kwipe (v :: vs) ρ Q := h
def Krest (ρ0 : Env) (vs : List Nat) (ρ : Env) (Q : Env → Prop) : Prop := Q (rest ρ0 vs ρ)
theorem Krest_nil {ρ0 : Env} {Q : Env → Prop} (h : Q ρ) : Krest ρ0 [] ρ Q := h
theorem Krest_n {ρ0 : Env} {v : Nat} {vs : List Nat} {Q : Env → Prop} (z : ρ0.t v = none) (h : Krest ρ0 vs ρ Q) : Krest ρ0 (v :: vs) ρ Q := by
  unfold Krest rest
  rw [z]
  exact h
theorem Krest_f {ρ0 : Env} {v : Nat} {vs : List Nat} {Q : Env → Prop} (z : ρ0.t v = some (.fz d)) (h : Krest ρ0 vs ρ fun r => Kset v (some (.fz d)) r Q) : Krest ρ0 (v :: vs) ρ Q := by
  unfold Krest rest
  rw [z]
  exact h
/-! ### expressions -/
section
variable {Q : Arg → Env → Prop} {a b c : M} {f g : D → D → Option D}
theorem W_eK (h : Q (.vl d) ρ) : W (eK d ρ) Q := ⟨_, _, rfl, h⟩
theorem W_eVf (z : ρ.t i = some (.fz d)) (h : Q (.vl d) ρ) : W (eV i ρ) Q := ⟨_, _, by unfold eV; rw [z], h⟩
theorem W_eVr {kk : DK} {ts : List T} (z : ρ.t i = some (.nd kk ts)) (h : Q (.rf i []) ρ) : W (eV i ρ) Q := ⟨_, _, by unfold eV; rw [z], h⟩
def KB2 (q : Bool) (f : D → D → Option D) (x : Arg) (Q : Arg → Env → Prop) (y : Arg) (ρ : Env) : Prop := guard q x = false ∧ FB (deref ρ x) fun u => FB (deref ρ y) fun w => FB (f u w) fun r => Q (.vl r) ρ
theorem W_eB (h : W (a ρ) fun x ρ1 => W (b ρ1) (KB2 q f x Q)) : W (eB q f a b ρ) Q := .bind (h.imp fun x ρ1 h => .bind (h.imp fun y ρ2 h => by
  obtain ⟨h1, h2⟩ := h
  show W (if guard q x = true then none else _) _
  rw [h1, if_neg (fun z => nomatch z)]
  obtain ⟨u, e1, h2⟩ := h2
  obtain ⟨w, e2, h2⟩ := h2
  obtain ⟨r, e3, h2⟩ := h2
  show W ((deref ρ2 x).bind fun u => (deref ρ2 y).bind fun w => (f u w).bind fun r => some (Arg.vl r, ρ2)) _
  rw [e1]
  show W ((deref ρ2 y).bind fun w => (f u w).bind fun r => some (Arg.vl r, ρ2)) _
  rw [e2]
  show W ((f u w).bind fun r => some (Arg.vl r, ρ2)) _
  rw [e3]
  exact .ok h2))
theorem guard_vl : guard q (.vl d) = false := by cases q <;> rfl
theorem guard_0 : guard q (.rf i []) = false := by cases q <;> rfl
theorem guard_t {x : Arg} : guard true x = false := rfl
theorem KB2_vv (h : FB (f u w) fun r => Q (.vl r) ρ) : KB2 q f (.vl u) Q (.vl w) ρ := ⟨guard_vl, u, rfl, w, rfl, h⟩
theorem KB2_rv {π : List Nat} {s : T} (z : (ρ.t i).bind (tAt π) = some s) (z2 : s.sh = some u) (h : FB (f u w) fun r => Q (.vl r) ρ) : KB2 true f (.rf i π) Q (.vl w) ρ := ⟨guard_t, u, by show ((ρ.t i).bind (tAt π)).bind T.sh = _; rw [z]; exact z2, w, rfl, h⟩
theorem KB2_0v {s : T} (z : ρ.t i = some s) (z2 : s.sh = some u) (h : FB (f u w) fun r => Q (.vl r) ρ) : KB2 q f (.rf i []) Q (.vl w) ρ := ⟨guard_0, u, by show ((ρ.t i).bind (tAt [])).bind T.sh = _; rw [z]; exact z2, w, rfl, h⟩
theorem KB2_v0 {s : T} (z : ρ.t i = some s) (z2 : s.sh = some w) (h : FB (f u w) fun r => Q (.vl r) ρ) : KB2 q f (.vl u) Q (.rf i []) ρ := ⟨guard_vl, u, rfl, w, by show ((ρ.t i).bind (tAt [])).bind T.sh = _; rw [z]; exact z2, h⟩
def KAnd (b : M) (Q : Arg → Env → Prop) : Arg → Env → Prop
  | .vl (.bl true), ρ => W (b ρ) Q
  | .vl (.bl false), ρ => Q (.vl (.bl false)) ρ
  | _, _ => False
def KOr (b : M) (Q : Arg → Env → Prop) : Arg → Env → Prop
  | .vl (.bl false), ρ => W (b ρ) Q
  | .vl (.bl true), ρ => Q (.vl (.bl true)) ρ
  | _, _ => False
theorem W_eAnd (h : W (a ρ) (KAnd b Q)) : W (eAnd a b ρ) Q := .bind (h.imp fun x ρ1 h => by
  unfold KAnd at h
  split at h
  · exact h
  · exact .ok h
  · exact h.elim)
theorem W_eOr (h : W (a ρ) (KOr b Q)) : W (eOr a b ρ) Q := .bind (h.imp fun x ρ1 h => by
  unfold KOr at h
  split at h
  · exact h
  · exact .ok h
  · exact h.elim)
theorem KAnd_t (h : W (b ρ) Q) : KAnd b Q (.vl (.bl true)) ρ := h
theorem KAnd_f (h : Q (.vl (.bl false)) ρ) : KAnd b Q (.vl (.bl false)) ρ := h
theorem KOr_f (h : W (b ρ) Q) : KOr b Q (.vl (.bl false)) ρ := h
theorem KOr_t (h : Q (.vl (.bl true)) ρ) : KOr b Q (.vl (.bl true)) ρ := h
/-- the other side is gone through whatever k is -/
theorem KAnd_p (h : W (b ρ) fun y ρ' => ρ' = ρ ∧ ∃ k', y = .vl (.bl k') ∧ Q (.vl (.bl (k && k'))) ρ) : KAnd b Q (.vl (.bl k)) ρ := by
  obtain ⟨y, _, e, rfl, k', rfl, h⟩ := h
  cases k with
  | true => exact ⟨_, _, e, h⟩
  | false => exact h
theorem KOr_p (h : W (b ρ) fun y ρ' => ρ' = ρ ∧ ∃ k', y = .vl (.bl k') ∧ Q (.vl (.bl (k || k'))) ρ) : KOr b Q (.vl (.bl k)) ρ := by
  obtain ⟨y, _, e, rfl, k', rfl, h⟩ := h
  cases k with
  | false => exact ⟨_, _, e, h⟩
  | true => exact h
theorem KAnd_s (h1 : k = true → W (b ρ) Q) (h2 : k = false → Q (.vl (.bl false)) ρ) : KAnd b Q (.vl (.bl k)) ρ := by
  cases k with
  | true => exact h1 rfl
  | false => exact h2 rfl
theorem KOr_s (h1 : k = true → Q (.vl (.bl true)) ρ) (h2 : k = false → W (b ρ) Q) : KOr b Q (.vl (.bl k)) ρ := by
  cases k with
  | true => exact h1 rfl
  | false => exact h2 rfl
def KNot (Q : Arg → Env → Prop) : Arg → Env → Prop
  | .vl (.bl k), ρ => Q (.vl (.bl (!k))) ρ
  | _, _ => False
theorem W_eNot (h : W (a ρ) (KNot Q)) : W (eNot a ρ) Q := .bind (h.imp fun x ρ1 h => by
  unfold KNot at h
  split at h
  · exact .ok h
  · exact h.elim)
theorem KNot_ (h : Q (.vl (.bl (!k))) ρ) : KNot Q (.vl (.bl k)) ρ := h
def Kif {α : Type} (a b : Env → Option (α × Env)) (Q : α → Env → Prop) (k : Bool) (ρ : Env) : Prop := if k = true then W (a ρ) Q else W (b ρ) Q
theorem Kif_t {a b : Env → Option (α × Env)} {Q : α → Env → Prop} (h : W (a ρ) Q) : Kif a b Q true ρ := h
theorem Kif_f {a b : Env → Option (α × Env)} {Q : α → Env → Prop} (h : W (b ρ) Q) : Kif a b Q false ρ := h
theorem Kif_s {a b : Env → Option (α × Env)} {Q : α → Env → Prop} (h1 : k = true → W (a ρ) Q) (h2 : k = false → W (b ρ) Q) : Kif a b Q k ρ := by
  cases k with
  | true => exact h1 rfl
  | false => exact h2 rfl
theorem Kif_d {p : Prop} [Decidable p] {a b : Env → Option (α × Env)} {Q : α → Env → Prop} (h1 : p → W (a ρ) Q) (h2 : ¬ p → W (b ρ) Q) : Kif a b Q (decide p) ρ := Kif_s (fun z => h1 (of_decide_eq_true z)) fun z => h2 (of_decide_eq_false z)
theorem Kif_y {a b : Env → Option (α × Env)} {Q : α → Env → Prop} (z : k = true) (h : W (a ρ) Q) : Kif a b Q k ρ := by rw [z]; exact h
theorem Kif_n {a b : Env → Option (α × Env)} {Q : α → Env → Prop} (z : k = false) (h : W (b ρ) Q) : Kif a b Q k ρ := by rw [z]; exact h
theorem W_ite {a b : Env → Option (α × Env)} {Q : α → Env → Prop} (h : Kif a b Q k ρ) : W (if k = true then a ρ else b ρ) Q := by
  cases k with
  | true => exact h
  | false => exact h
theorem W_eIf {m : MT} (h : W (m ρ) (Kif a b Q)) : W (eIf m a b ρ) Q := .bind (h.imp fun x ρ1 h => W_ite h)
def KU1 (f : D → Option D) (Q : Arg → Env → Prop) (x : Arg) (ρ : Env) : Prop := FB (deref ρ x) fun u => FB (f u) fun r => Q (.vl r) ρ
theorem W_eU1 {f : D → Option D} (h : W (a ρ) (KU1 f Q)) : W (eU1 f a ρ) Q := .bind (h.imp fun x ρ1 ⟨u, e1, r, e2, h⟩ => by
  show W ((deref ρ1 x).bind fun d => (f d).bind fun r => some (Arg.vl r, ρ1)) _
  rw [e1]
  show W ((f u).bind fun r => some (Arg.vl r, ρ1)) _
  rw [e2]
  exact .ok h)
theorem KU1_v {f : D → Option D} (h : FB (f d) fun r => Q (.vl r) ρ) : KU1 f Q (.vl d) ρ := ⟨_, rfl, h⟩
theorem KU1_0 {f : D → Option D} {s : T} (z : ρ.t i = some s) (z2 : s.sh = some d) (h : FB (f d) fun r => Q (.vl r) ρ) : KU1 f Q (.rf i []) ρ := ⟨d, by show ((ρ.t i).bind (tAt [])).bind T.sh = _; rw [z]; exact z2, h⟩
/-! arguments -/
theorem W_mNil {Q : List Arg → Env → Prop} (h : Q [] ρ) : W (mNil ρ) Q := .ok h
def KC (q : Bool) (x : Arg) (Q : List Arg → Env → Prop) (ys : List Arg) (ρ : Env) : Prop := guard q x = false ∧ Q (x :: ys) ρ
theorem W_mCons {as : MA} {Q : List Arg → Env → Prop} (h : W (a ρ) fun x ρ1 => W (as ρ1) (KC q x Q)) : W (mCons q a as ρ) Q := .bind (h.imp fun x ρ1 h => .bind (h.imp fun y ρ2 h => by
  show W (if guard q x = true then none else _) _
  rw [h.1, if_neg (fun z => nomatch z)]
  exact .ok h.2))
theorem KC_v {ys : List Arg} {Q : List Arg → Env → Prop} (h : Q (.vl d :: ys) ρ) : KC q (.vl d) Q ys ρ := ⟨guard_vl, h⟩
theorem KC_0 {ys : List Arg} {Q : List Arg → Env → Prop} (h : Q (.rf i [] :: ys) ρ) : KC q (.rf i []) Q ys ρ := ⟨guard_0, h⟩
theorem KC_t {x : Arg} {ys : List Arg} {Q : List Arg → Env → Prop} (h : Q (x :: ys) ρ) : KC true x Q ys ρ := ⟨guard_t, h⟩
def Kder (ρ : Env) (ys : List Arg) (Q : List D → Prop) : Prop := FB (derefs ρ ys) Q
theorem Kder_n {Q : List D → Prop} (h : Q []) : Kder ρ [] Q := ⟨_, rfl, h⟩
theorem Kder_v {ys : List Arg} {Q : List D → Prop} (h : Kder ρ ys fun ds => Q (d :: ds)) : Kder ρ (.vl d :: ys) Q := by
  obtain ⟨ds, e, h⟩ := h
  exact ⟨_, by show (some d).bind _ = _; rw [e]; rfl, h⟩
theorem Kder_0 {s : T} {ys : List Arg} {Q : List D → Prop} (z : ρ.t i = some s) (z2 : s.sh = some d) (h : Kder ρ ys fun ds => Q (d :: ds)) : Kder ρ (.rf i [] :: ys) Q := by
  obtain ⟨ds, e, h⟩ := h
  exact ⟨_, by show (((ρ.t i).bind (tAt [])).bind T.sh).bind _ = _; rw [z]; show (s.sh).bind _ = _; rw [z2, e]; rfl, h⟩
theorem W_eCB {f : List D → Option D} {as : MA} (h : W (as ρ) fun ys ρ1 => Kder ρ1 ys fun ds => FB (f ds) fun r => Q (.vl r) ρ1) : W (eCB f as ρ) Q := .bind (h.imp fun x ρ1 ⟨u, e1, r, e2, h⟩ => by
  show W ((derefs ρ1 x).bind fun d => (f d).bind fun r => some (Arg.vl r, ρ1)) _
  rw [e1]
  show W ((f u).bind fun r => some (Arg.vl r, ρ1)) _
  rw [e2]
  exact .ok h)
/-- freezing -/
def Kfrz (ρ : Env) (x : Arg) (Q : D → Env → Prop) : Prop := W (frzA ρ x) Q
theorem Kfrz_v {Q : D → Env → Prop} (h : Q d ρ) : Kfrz ρ (.vl d) Q := .ok h
theorem Kfrz_0 {t : T} {Q : D → Env → Prop} (z : ρ.t i = some t) (z2 : t.toD = d) (h : Kset i (some (.fz d)) ρ fun ρ' => Q d ρ') : Kfrz ρ (.rf i []) Q := by
  subst z2
  exact ⟨_, _, by show (ρ.t i).bind _ = _; rw [z]; rfl, h⟩
def Kfrl (ρ : Env) (ys : List Arg) (Q : List D → Env → Prop) : Prop := W (frzL ρ ys) Q
theorem Kfrl_n {Q : List D → Env → Prop} (h : Q [] ρ) : Kfrl ρ [] Q := .ok h
theorem Kfrl_c {x : Arg} {ys : List Arg} {Q : List D → Env → Prop} (h : Kfrz ρ x fun d ρ1 => Kfrl ρ1 ys fun ds ρ2 => Q (d :: ds) ρ2) : Kfrl ρ (x :: ys) Q := .bind (h.imp fun d ρ1 h => .bind (h.imp fun ds ρ2 h => .ok h))
theorem W_eTup {as : MA} (h : W (as ρ) fun ys ρ1 => Kfrl ρ1 ys fun ds ρ2 => small ds = true ∧ Q (.vl (.nd .tup ds)) ρ2) : W (eTup as ρ) Q := .bind (h.imp fun x ρ1 h => .bind (h.imp fun y ρ2 h => by
  show W (if (!small y) = true then none else _) _
  rw [h.1, if_neg (fun z => nomatch z)]
  exact .ok h.2))
theorem KeS {ds : List D} {P : Prop} (z : small ds = true) (h : P) : small ds = true ∧ P := ⟨z, h⟩
/-! what is ours -/
def KeO (Q : Arg → Env → Prop) (t : T) (ρ : Env) : Prop := Q (.vl t.toD) ρ
theorem W_eO {m : MO} (h : W (m ρ) (KeO Q)) : W (eO m ρ) Q := .bind (h.imp fun t ρ1 h => .ok h)
theorem KeO_f (h : Q (.vl d) ρ) : KeO Q (.fz d) ρ := h
theorem toDs_fz : ∀ ds : List D, T.toDs (ds.map .fz) = ds
  | [] => rfl
  | d :: ds => congrArg (d :: ·) (toDs_fz ds)
theorem KeO_m {kk : DK} {ds : List D} (h : Q (.vl (.nd kk ds)) ρ) : KeO Q (.nd kk (ds.map .fz)) ρ := by
  show Q (.vl (.nd kk (T.toDs (ds.map .fz)))) ρ
  rw [toDs_fz]
  exact h
theorem KeO_n {kk : DK} {ts : List T} {ds : List D} (z : T.toDs ts = ds) (h : Q (.vl (.nd kk ds)) ρ) : KeO Q (.nd kk ts) ρ := by
  show Q (.vl (.nd kk (T.toDs ts))) ρ
  rw [z]
  exact h
theorem W_oE {m : M} {Q : T → Env → Prop} (h : W (m ρ) fun x ρ1 => Kfrz ρ1 x fun d ρ2 => Q (.fz d) ρ2) : W (oE m ρ) Q := .bind (h.imp fun x ρ1 h => .bind (h.imp fun y ρ2 h => .ok h))
theorem W_oV {Q : T → Env → Prop} {t : T} (z : ρ.t i = some t) (h : Kset i none ρ fun ρ' => Q t ρ') : W (oV i ρ) Q := ⟨_, _, by unfold oV; rw [z]; rfl, h⟩
theorem W_oDic0 {Q : T → Env → Prop} (h : Q (.nd (.dic []) []) ρ) : W (oDic0 ρ) Q := .ok h
theorem W_osN {Q : List T → Env → Prop} (h : Q [] ρ) : W (osN ρ) Q := .ok h
theorem W_osC {m : MO} {ms : MOs} {Q : List T → Env → Prop} (h : W (m ρ) fun t ρ1 => W (ms ρ1) fun ts ρ2 => Q (t :: ts) ρ2) : W (osC m ms ρ) Q := .bind (h.imp fun x ρ1 h => .bind (h.imp fun y ρ2 h => .ok h))
theorem W_oLs {ms : MOs} {Q : T → Env → Prop} (h : W (ms ρ) fun ts ρ1 => decide (ts.length ≤ 100000) = true ∧ Q (.nd .lst ts) ρ1) : W (oLs ms ρ) Q := .bind (h.imp fun x ρ1 h => by
  show W (if (!decide (x.length ≤ 100000)) = true then none else _) _
  rw [h.1, if_neg (fun z => nomatch z)]
  exact .ok h.2)
/-! slices, chains -/
theorem W_pN {Q : Option Int → Env → Prop} (h : Q none ρ) : W (pN ρ) Q := .ok h
def KpM (Q : Option Int → Env → Prop) : Arg → Env → Prop
  | .vl (.int i), ρ => Q (some i) ρ
  | _, _ => False
theorem W_pM {m : M} {Q : Option Int → Env → Prop} (h : W (m ρ) (KpM Q)) : W (pM m ρ) Q := .bind (h.imp fun x ρ1 h => by
  unfold KpM at h
  split at h
  · exact .ok h
  · exact h.elim)
theorem KpM_ {i : Int} {Q : Option Int → Env → Prop} (h : Q (some i) ρ) : KpM Q (.vl (.int i)) ρ := h
def KSl (f : D → Option Int → Option Int → Option D) (x : Arg) (l u : Option Int) (Q : Arg → Env → Prop) (ρ : Env) : Prop := x.deep = false ∧ FB (deref ρ x) fun d => FB (f d l u) fun r => Q (.vl r) ρ
theorem W_eSl {f : D → Option Int → Option Int → Option D} {lo hi : MP} (h : W (a ρ) fun x ρ1 => W (lo ρ1) fun l ρ2 => W (hi ρ2) fun u ρ3 => KSl f x l u Q ρ3) : W (eSl f a lo hi ρ) Q := by
  obtain ⟨x, ρ1, e1, l, ρ2, e2, u, ρ3, e3, h1, d, e4, r, e5, h⟩ := h
  refine ⟨.vl r, ρ3, ?_, h⟩
  show (a ρ).bind _ = _
  rw [e1]
  show (if x.deep = true then none else _) = _
  rw [h1, if_neg (fun z => nomatch z)]
  show (lo ρ1).bind _ = _
  rw [e2]
  show (hi ρ2).bind _ = _
  rw [e3]
  show (deref ρ3 x).bind _ = _
  rw [e4]
  show (f d l u).bind _ = _
  rw [e5] <;> rfl
theorem KSl_v {f : D → Option Int → Option Int → Option D} {l u : Option Int} (h : FB (f d l u) fun r => Q (.vl r) ρ) : KSl f (.vl d) l u Q ρ := ⟨rfl, d, rfl, h⟩
theorem KSl_0 {f : D → Option Int → Option Int → Option D} {l u : Option Int} {s : T} (z : ρ.t i = some s) (z2 : s.sh = some d) (h : FB (f d l u) fun r => Q (.vl r) ρ) : KSl f (.rf i []) l u Q ρ := ⟨rfl, d, by show ((ρ.t i).bind (tAt [])).bind T.sh = _; rw [z]; exact z2, h⟩
/-! tests -/
def KtM (Q : Bool → Env → Prop) (x : Arg) (ρ : Env) : Prop := FB (deref ρ x) fun d => FB (truD d) fun b => Q b ρ
theorem W_tM {m : M} {Q : Bool → Env → Prop} (h : W (m ρ) (KtM Q)) : W (tM m ρ) Q := .bind (h.imp fun x ρ1 ⟨u, e1, r, e2, h⟩ => by
  show W ((deref ρ1 x).bind fun d => (truD d).bind fun r => some (r, ρ1)) _
  rw [e1]
  show W ((truD u).bind fun r => some (r, ρ1)) _
  rw [e2]
  exact .ok h)
theorem KtM_b {Q : Bool → Env → Prop} (h : Q k ρ) : KtM Q (.vl (.bl k)) ρ := ⟨_, rfl, _, rfl, h⟩
theorem KtM_v {Q : Bool → Env → Prop} (z : truD d = some k) (h : Q k ρ) : KtM Q (.vl d) ρ := ⟨_, rfl, _, z, h⟩
theorem KtM_0 {s : T} {Q : Bool → Env → Prop} (z : ρ.t i = some s) (z2 : s.sh = some d) (z3 : truD d = some k) (h : Q k ρ) : KtM Q (.rf i []) ρ := ⟨_, (by show ((ρ.t i).bind (tAt [])).bind T.sh = _; rw [z]; exact z2), _, z3, h⟩
def KtB (Q : Bool → Env → Prop) : Arg → Env → Prop
  | .vl (.bl k), ρ => Q k ρ
  | _, _ => False
theorem W_tB {Q : Bool → Env → Prop} (h : W (a ρ) fun x ρ1 => W (b ρ1) (KB2 q f x (KtB Q))) : W (tB q f a b ρ) Q := .bind ((W_eB h).imp fun x ρ1 h => by
  unfold KtB at h
  split at h
  · exact .ok h
  · exact h.elim)
theorem KtB_ {Q : Bool → Env → Prop} (h : Q k ρ) : KtB Q (.vl (.bl k)) ρ := h
section
variable {m n : MT} {Q : Bool → Env → Prop}
def KtAnd (n : MT) (Q : Bool → Env → Prop) (k : Bool) (ρ : Env) : Prop := if k = true then W (n ρ) Q else Q false ρ
def KtOr (n : MT) (Q : Bool → Env → Prop) (k : Bool) (ρ : Env) : Prop := if k = true then Q true ρ else W (n ρ) Q
theorem W_tAnd (h : W (m ρ) (KtAnd n Q)) : W (tAndM m n ρ) Q := .bind (h.imp fun x ρ1 h => by
  unfold KtAnd at h
  cases x with
  | true => exact h
  | false => exact .ok h)
theorem W_tOr (h : W (m ρ) (KtOr n Q)) : W (tOrM m n ρ) Q := .bind (h.imp fun x ρ1 h => by
  unfold KtOr at h
  cases x with
  | true => exact .ok h
  | false => exact h)
theorem KtAnd_t (h : W (n ρ) Q) : KtAnd n Q true ρ := h
theorem KtAnd_f (h : Q false ρ) : KtAnd n Q false ρ := h
theorem KtOr_t (h : Q true ρ) : KtOr n Q true ρ := h
theorem KtOr_f (h : W (n ρ) Q) : KtOr n Q false ρ := h
theorem KtAnd_s (h1 : k = true → W (n ρ) Q) (h2 : k = false → Q false ρ) : KtAnd n Q k ρ := by
  cases k with
  | true => exact h1 rfl
  | false => exact h2 rfl
theorem KtOr_s (h1 : k = true → Q true ρ) (h2 : k = false → W (n ρ) Q) : KtOr n Q k ρ := by
  cases k with
  | true => exact h1 rfl
  | false => exact h2 rfl
theorem KtAnd_p (h : W (n ρ) fun k' ρ' => ρ' = ρ ∧ Q (k && k') ρ) : KtAnd n Q k ρ := by
  obtain ⟨y, _, e, rfl, h⟩ := h
  cases k with
  | true => exact ⟨_, _, e, h⟩
  | false => exact h
theorem KtOr_p (h : W (n ρ) fun k' ρ' => ρ' = ρ ∧ Q (k || k') ρ) : KtOr n Q k ρ := by
  obtain ⟨y, _, e, rfl, h⟩ := h
  cases k with
  | true => exact h
  | false => exact ⟨_, _, e, h⟩
theorem W_tNot (h : W (m ρ) fun k ρ1 => Q (!k) ρ1) : W (tNotM m ρ) Q := .bind (h.imp fun x ρ1 h => .ok h)
end
theorem W_eIsi {t : Tg} (h : W (a ρ) fun x ρ1 => FB (deref ρ1 x) fun d => Q (.vl (.bl (isi d.tg t))) ρ1) : W (eIsi t a ρ) Q := .bind (h.imp fun x ρ1 ⟨u, e1, h⟩ => by
  show W ((deref ρ1 x).bind _) _
  rw [e1]
  exact .ok h)
end
end
end DL

end

section
set_option Elab.async false
set_option linter.all false
set_option maxRecDepth 100000
/-! PB: statements, loops, calls. -/
namespace DL
open PySem L2
section
variable {α β : Type} {ρ ρ' : Env} {d e u w : D} {i j : Nat} {q : Bool} {k : Bool}
section
variable {Q : Fl → Env → Prop} {a b : MS}
theorem W_sNx (h : Q .nx ρ) : W (sNx ρ) Q := .ok h
theorem W_sBk (h : Q .bk ρ) : W (sBk ρ) Q := .ok h
theorem W_sCt (h : Q .ct ρ) : W (sCt ρ) Q := .ok h
def Ksq (b : MS) (Q : Fl → Env → Prop) : Fl → Env → Prop
  | .nx, ρ => W (b ρ) Q
  | .bk, ρ => Q .bk ρ
  | .ct, ρ => Q .ct ρ
  | .rt t, ρ => Q (.rt t) ρ
theorem W_sSq (h : W (a ρ) (Ksq b Q)) : W (sSq a b ρ) Q := .bind (h.imp fun x ρ1 h => by
  cases x with
  | nx => exact h
  | bk => exact .ok h
  | ct => exact .ok h
  | rt t => exact .ok h)
theorem Ksq_nx (h : W (b ρ) Q) : Ksq b Q .nx ρ := h
theorem Ksq_bk (h : Q .bk ρ) : Ksq b Q .bk ρ := h
theorem Ksq_ct (h : Q .ct ρ) : Ksq b Q .ct ρ := h
theorem Ksq_rt {t : T} (h : Q (.rt t) ρ) : Ksq b Q (.rt t) ρ := h
theorem W_sEx {m : M} (h : W (m ρ) fun _ ρ1 => Q .nx ρ1) : W (sEx m ρ) Q := .bind (h.imp fun x ρ1 h => .ok h)
theorem W_sRt {m : MO} (h : W (m ρ) fun t ρ1 => Q (.rt t) ρ1) : W (sRt m ρ) Q := .bind (h.imp fun x ρ1 h => .ok h)
theorem W_sRtN (h : Q (.rt (.fz .non)) ρ) : W (sRtN ρ) Q := .ok h
theorem W_sIf {c : MT} (h : W (c ρ) (Kif a b Q)) : W (sIf c a b ρ) Q := .bind (h.imp fun x ρ1 h => W_ite h)
theorem W_sAs {m : MO} (h : W (m ρ) fun t ρ1 => Kput i t ρ1 (Q .nx)) : W (sAs i m ρ) Q := .bind (h.imp fun x ρ1 h => by
  obtain ⟨r, e, h⟩ := put_K h
  show W ((put i x ρ1).bind _) _
  rw [e]
  exact .ok h)
def KG (g : MG) (d : D) (ρ : Env) (Q : Env → Prop) : Prop := FB (g d ρ) Q
def KGs (g : MGs) (ds : List D) (ρ : Env) (Q : Env → Prop) : Prop := FB (g ds ρ) Q
theorem KG_nm {Q : Env → Prop} (h : Kput i (.fz d) ρ Q) : KG (gNm i) d ρ Q := put_K h
theorem KGs_n {Q : Env → Prop} (h : Q ρ) : KGs gsN [] ρ Q := ⟨_, rfl, h⟩
theorem KGs_c {g : MG} {gs : MGs} {ds : List D} {Q : Env → Prop} (h : KG g d ρ fun ρ1 => KGs gs ds ρ1 Q) : KGs (gsC g gs) (d :: ds) ρ Q := FB.bind h
theorem KG_tp {n : Nat} {gs : MGs} {ds : List D} {Q : Env → Prop} (z : ds.length = n) (h : KGs gs ds ρ Q) : KG (gTp n gs) (.nd .tup ds) ρ Q := by
  obtain ⟨r, e, h⟩ := h
  exact ⟨r, by show (if ds.length = n then _ else none) = _; rw [if_pos z]; exact e, h⟩
theorem W_sTg {m : M} {g : MG} (h : W (m ρ) fun x ρ1 => Kfrz ρ1 x fun d ρ2 => KG g d ρ2 (Q .nx)) : W (sTg m g ρ) Q := .bind (h.imp fun x ρ1 h => .bind (h.imp fun d ρ2 h => by
  obtain ⟨r, e, h⟩ := h
  show W ((g d ρ2).bind _) _
  rw [e]
  exact .ok h))
theorem W_sPar {ms : MOs} (h : W (ms ρ) fun ts ρ1 => ∃ t u, ts = [t, u] ∧ Kput i t ρ1 fun ρ2 => Kput j u ρ2 (Q .nx)) : W (sPar i j ms ρ) Q := .bind (h.imp fun x ρ1 h => by
  obtain ⟨t, u, rfl, h⟩ := h
  obtain ⟨r, e, h⟩ := put_K h
  obtain ⟨r2, e2, h⟩ := put_K h
  show W ((put i t ρ1).bind _) _
  rw [e]
  show W ((put j u r).bind _) _
  rw [e2]
  exact .ok h)
theorem Kpar {t u : T} {P : T → T → Prop} (h : P t u) : ∃ t' u', [t, u] = [t', u'] ∧ P t' u' := ⟨t, u, rfl, h⟩
theorem W_sAug {m : M} {f : D → D → Option D} (z : ρ.t i = some (.fz d)) (h : W (m ρ) fun x ρ1 => FB (deref ρ1 x) fun e => FB (f d e) fun r => Kput i (.fz r) ρ1 (Q .nx)) : W (sAug i f m ρ) Q := by
  obtain ⟨x, ρ1, e1, e, e2, r, e3, h⟩ := h
  obtain ⟨r2, e4, h⟩ := put_K h
  refine ⟨.nx, r2, ?_, h⟩
  show (ρ.t i).bind _ = _
  rw [z]
  show (m ρ).bind _ = _
  rw [e1]
  show (deref ρ1 x).bind (fun e => (f d e).bind fun r => (put i (.fz r) ρ1).bind fun ρ' => some (Fl.nx, ρ')) = _
  rw [e2]
  show (f d e).bind (fun r => (put i (.fz r) ρ1).bind fun ρ' => some (Fl.nx, ρ')) = _
  rw [e3]
  show (put i (.fz r) ρ1).bind (fun ρ' => some (Fl.nx, ρ')) = _
  rw [e4] <;> rfl
/-! ### loops -/
def Kfor (g : MG) (mb : MS) (ds : List D) (Q : Fl → Env → Prop) : Fl → Env → Prop
  | .nx, ρ => W (forGo g mb ds ρ) Q
  | .ct, ρ => W (forGo g mb ds ρ) Q
  | .bk, ρ => Q .nx ρ
  | .rt t, ρ => Q (.rt t) ρ
theorem W_for_n {g : MG} {mb : MS} (h : Q .nx ρ) : W (forGo g mb [] ρ) Q := .ok h
theorem W_for_c {g : MG} {mb : MS} {ds : List D} (h : KG g d ρ fun ρ1 => W (mb ρ1) (Kfor g mb ds Q)) : W (forGo g mb (d :: ds) ρ) Q := by
  obtain ⟨ρ1, e, h⟩ := h
  show W ((g d ρ).bind _) _
  rw [e]
  refine W.bind (h.imp fun fl ρ2 h => ?_)
  cases fl with
  | nx => exact h
  | ct => exact h
  | bk => exact .ok h
  | rt t => exact .ok h
theorem Kfor_nx {g : MG} {mb : MS} {ds : List D} (h : W (forGo g mb ds ρ) Q) : Kfor g mb ds Q .nx ρ := h
theorem Kfor_ct {g : MG} {mb : MS} {ds : List D} (h : W (forGo g mb ds ρ) Q) : Kfor g mb ds Q .ct ρ := h
theorem Kfor_bk {g : MG} {mb : MS} {ds : List D} (h : Q .nx ρ) : Kfor g mb ds Q .bk ρ := h
theorem Kfor_rt {g : MG} {mb : MS} {ds : List D} {t : T} (h : Q (.rt t) ρ) : Kfor g mb ds Q (.rt t) ρ := h
theorem W_sFor {mi : MI} {g : MG} {mb : MS} (h : W (mi ρ) fun ds ρ1 => W (forGo g mb ds ρ1) Q) : W (sFor mi g mb ρ) Q := .bind (h.imp fun x ρ1 h => h)
/-- what holds between two turns: I the rest of the items, the frame -/
def Kinv (I : Env → Prop) (Q : Fl → Env → Prop) : Fl → Env → Prop
  | .nx, ρ => I ρ
  | .ct, ρ => I ρ
  | .bk, ρ => Q .nx ρ
  | .rt t, ρ => Q (.rt t) ρ
theorem for_inv {g : MG} {mb : MS} (I : List D → Env → Prop) (step : ∀ d ds ρ, I (d :: ds) ρ → KG g d ρ fun ρ1 => W (mb ρ1) (Kinv (I ds) Q)) (done : ∀ ρ, I [] ρ → Q .nx ρ) : ∀ (ds : List D) {ρ : Env}, I ds ρ → W (forGo g mb ds ρ) Q
  | [], _, h => W_for_n (done _ h)
  | d :: ds, _, h => by
    refine W_for_c ?_
    obtain ⟨ρ1, e, h⟩ := step d ds _ h
    refine ⟨ρ1, e, h.imp fun fl ρ2 h => ?_⟩
    cases fl with
    | nx => exact for_inv I step done ds h
    | ct => exact for_inv I step done ds h
    | bk => exact h
    | rt t => exact h
theorem Kinv_nx {I : Env → Prop} (h : I ρ) : Kinv I Q .nx ρ := h
theorem Kinv_ct {I : Env → Prop} (h : I ρ) : Kinv I Q .ct ρ := h
theorem Kinv_bk {I : Env → Prop} (h : Q .nx ρ) : Kinv I Q .bk ρ := h
theorem Kinv_rt {I : Env → Prop} {t : T} (h : Q (.rt t) ρ) : Kinv I Q (.rt t) ρ := h
/-- while: I n holds when at most n turns are left -/
theorem wh_inv {c : MT} {mb : MS} (I : Nat → Env → Prop) (step : ∀ n ρ, I (n + 1) ρ → W (c ρ) fun k ρ1 => if k = true then W (mb ρ1) (Kinv (I n) Q) else Q .nx ρ1) (h0 : ∀ ρ, ¬ I 0 ρ) : ∀ (n : Nat) {ρ : Env}, I n ρ → W (whGo c mb n ρ) Q
  | 0, _, h => (h0 _ h).elim
  | n + 1, _, h => by
    refine W.bind ((step n _ h).imp fun k ρ1 h => ?_)
    cases k with
    | true =>
      refine W.bind (W.imp (show W (mb ρ1) (Kinv (I n) Q) from h) fun fl ρ2 h => ?_)
      cases fl with
      | nx => exact wh_inv I step h0 n h
      | ct => exact wh_inv I step h0 n h
      | bk => exact .ok h
      | rt t => exact .ok h
    | false => exact .ok h
end
/-! ### what is gone through -/
def Kseq (p : DK → Bool) (Q : List D → Prop) : D → Prop
  | .nd kk ds => p kk = true ∧ Q ds
  | _ => False
theorem W_iSq {p : DK → Bool} {m : M} {Q : List D → Env → Prop} (h : W (m ρ) fun x ρ1 => Kfrz ρ1 x fun d ρ2 => Kseq p (fun ds => Q ds ρ2) d) : W (iSq p m ρ) Q := .bind (h.imp fun x ρ1 h => .bind (h.imp fun d ρ2 h => by
  cases d with
  | nd kk ds =>
    show W (if p kk = true then some (ds, ρ2) else none) Q
    rw [if_pos h.1]
    exact .ok h.2
  | _ => exact h.elim))
theorem Kseq_ {p : DK → Bool} {kk : DK} {ds : List D} {Q : List D → Prop} (z : p kk = true) (h : Q ds) : Kseq p Q (.nd kk ds) := ⟨z, h⟩
def KRg (Q : List D → Env → Prop) : Arg → Env → Prop
  | .vl (.int n), ρ => (-(2 ^ 62) ≤ n ∧ n < 2 ^ 62) ∧ Q (rng 0 n.toNat) ρ
  | _, _ => False
theorem W_iRg1 {m : M} {Q : List D → Env → Prop} (h : W (m ρ) (KRg Q)) : W (iRg1 m ρ) Q := .bind (h.imp fun x ρ1 h => by
  unfold KRg at h
  split at h
  · show W (if _ then _ else none) Q
    rw [if_pos h.1]
    exact .ok h.2
  · exact h.elim)
theorem KRg_ {n : Int} {Q : List D → Env → Prop} (z : -(2 ^ 62) ≤ n ∧ n < 2 ^ 62) (h : Q (rng 0 n.toNat) ρ) : KRg Q (.vl (.int n)) ρ := ⟨z, h⟩
theorem W_iEn {m : M} {Q : List D → Env → Prop} (h : W (iSq DK.isQ m ρ) fun ds ρ1 => Q (enumD 0 ds) ρ1) : W (iEn m ρ) Q := .bind (h.imp fun x ρ1 h => .ok h)
/-! ### comprehensions -/
inductive F2 {α β : Type} (P : α → β → Prop) : List α → List β → Prop
  | nil : F2 P [] []
  | cons {a : α} {b : β} {as : List α} {bs : List β} (h : P a b) (t : F2 P as bs) : F2 P (a :: as) (b :: bs)
section
variable {g : MG} {mt : MT} {me : M} {vs : List Nat}
theorem W_mYes {Q : Bool → Env → Prop} (h : Q true ρ) : W (mYes ρ) Q := .ok h
theorem W_oLc {mi : MI} {Q : T → Env → Prop} (h : W (mi ρ) fun ds ρ1 => Kwipe vs ρ1 fun ρw => W (lcGo g mt me vs ds ρw) fun rs ρ2 => small rs = true ∧ Krest ρ1 vs ρ2 fun ρ3 => Q (.nd .lst (rs.map .fz)) ρ3) : W (oLc mi g mt me vs ρ) Q := .bind (h.imp fun x ρ1 h => .bind (W.imp (show W (lcGo g mt me vs x (wipeR ρ1 vs)) _ from h) fun rs ρ2 h => by
  show W (if (!small rs) = true then none else _) Q
  rw [h.1, if_neg (fun z => nomatch z)]
  exact .ok h.2))
def KLc (g : MG) (mt : MT) (me : M) (vs : List Nat) (ds : List D) (Q : List D → Env → Prop) (k : Bool) (ρ : Env) : Prop :=
  if k = true then W (me ρ) fun x ρ1 => Kfrz ρ1 x fun d ρ2 => Kwipe vs ρ2 fun ρ3 => W (lcGo g mt me vs ds ρ3) fun rs ρ4 => Q (d :: rs) ρ4 else Kwipe vs ρ fun ρ1 => W (lcGo g mt me vs ds ρ1) Q
theorem W_lc_n {Q : List D → Env → Prop} (h : Q [] ρ) : W (lcGo g mt me vs [] ρ) Q := .ok h
theorem W_lc_c {ds : List D} {Q : List D → Env → Prop} (h : KG g d ρ fun ρ1 => W (mt ρ1) (KLc g mt me vs ds Q)) : W (lcGo g mt me vs (d :: ds) ρ) Q := by
  obtain ⟨ρ1, e, h⟩ := h
  show W ((g d ρ).bind _) _
  rw [e]
  refine W.bind (h.imp fun k ρ2 h => ?_)
  cases k with
  | true => exact W.bind (W.imp (show W (me ρ2) _ from h) fun x ρ3 h => W.bind (W.imp h fun d ρ4 h => W.bind (W.imp (show W (lcGo g mt me vs ds (wipeR ρ4 vs)) _ from h) fun rs ρ5 h => .ok h)))
  | false => exact h
theorem KLc_t {ds : List D} {Q : List D → Env → Prop} (h : W (me ρ) fun x ρ1 => Kfrz ρ1 x fun d ρ2 => Kwipe vs ρ2 fun ρ3 => W (lcGo g mt me vs ds ρ3) fun rs ρ4 => Q (d :: rs) ρ4) : KLc g mt me vs ds Q true ρ := h
theorem KLc_f {ds : List D} {Q : List D → Env → Prop} (h : Kwipe vs ρ fun ρ1 => W (lcGo g mt me vs ds ρ1) Q) : KLc g mt me vs ds Q false ρ := h
/-- each item gives one item: P of the item's place and value; J of the frame between two items -/
theorem lc_map {P : D → D → Prop} (J : Env → Prop) (step : ∀ d ρ, J ρ → KG g d ρ fun ρ1 => W (mt ρ1) fun k ρ2 => k = true ∧ W (me ρ2) fun x ρ3 => Kfrz ρ3 x fun r ρ4 => P d r ∧ Kwipe vs ρ4 J) :
    ∀ (ds : List D) {ρ : Env} {Q : List D → Env → Prop}, J ρ → (∀ rs ρ', F2 P ds rs → J ρ' → Q rs ρ') → W (lcGo g mt me vs ds ρ) Q
  | [], _, _, h, k => W_lc_n (k _ _ .nil h)
  | d :: ds, _, _, h, k => by
    refine W_lc_c ?_
    obtain ⟨ρ1, e, h⟩ := step d _ h
    refine ⟨ρ1, e, h.imp fun k' ρ2 h => ?_⟩
    obtain ⟨rfl, h⟩ := h
    refine KLc_t (h.imp fun x ρ3 h => W.imp h fun r ρ4 h => ?_)
    exact lc_map J step ds h.2 fun rs ρ' f hJ => k _ _ (.cons h.1 f) hJ
/-- the same where the items matter -/
theorem lc_mem {ds0 : List D} {P : D → D → Prop} (J : Env → Prop) (step : ∀ d ρ, d ∈ ds0 → J ρ → KG g d ρ fun ρ1 => W (mt ρ1) fun k ρ2 => k = true ∧ W (me ρ2) fun x ρ3 => Kfrz ρ3 x fun r ρ4 => P d r ∧ Kwipe vs ρ4 J) :
    ∀ (ds : List D) {ρ : Env} {Q : List D → Env → Prop}, (∀ d ∈ ds, d ∈ ds0) → J ρ → (∀ rs ρ', F2 P ds rs → J ρ' → Q rs ρ') → W (lcGo g mt me vs ds ρ) Q
  | [], _, _, _, h, k => W_lc_n (k _ _ .nil h)
  | d :: ds, _, _, m, h, k => by
    refine W_lc_c ?_
    obtain ⟨ρ1, e, h⟩ := step d _ (m d (by simp)) h
    refine ⟨ρ1, e, h.imp fun k' ρ2 h => ?_⟩
    obtain ⟨rfl, h⟩ := h
    refine KLc_t (h.imp fun x ρ3 h => W.imp h fun r ρ4 h => ?_)
    exact lc_mem J step ds (fun z hz => m z (by simp [hz])) h.2 fun rs ρ' f hJ => k _ _ (.cons h.1 f) hJ
/-- each item gives F of it -/
theorem lc_fun (F : D → D) (J : Env → Prop) {ds : List D} (step : ∀ d ρ, d ∈ ds → J ρ → KG g d ρ fun ρ1 => W (mt ρ1) fun k ρ2 => k = true ∧ W (me ρ2) fun x ρ3 => Kfrz ρ3 x fun r ρ4 => r = F d ∧ Kwipe vs ρ4 J)
    {ρ : Env} {Q : List D → Env → Prop} (h : J ρ) (k : ∀ ρ', J ρ' → Q (ds.map F) ρ') : W (lcGo g mt me vs ds ρ) Q :=
  lc_mem (P := fun d r => r = F d) J step ds (fun _ z => z) h fun rs ρ' f hJ => by
    have e : rs = ds.map F := by
      clear k h step
      induction f with
      | nil => rfl
      | cons h _ ih => rw [h, ih, List.map_cons]
    rw [e]
    exact k _ hJ
end
/-! ### functions -/
def Kout (io : Nat → Bool) (ρ : Env) (ts : List T) (Q : List T → Prop) : Prop := FB (outs io ρ 0 ts) Q
theorem Kout_ {io : Nat → Bool} {ts ts' : List T} {Q : List T → Prop} (z : outs io ρ 0 ts = some ts') (h : Q ts') : Kout io ρ ts Q := ⟨_, z, h⟩
def Kfn (io : Nat → Bool) (ts : List T) (Q : T → List T → Prop) : Fl → Env → Prop
  | .rt t, ρ => Kout io ρ ts (Q t)
  | .nx, ρ => Kout io ρ ts (Q (.fz .non))
  | _, _ => False
theorem Kfn_rt {io : Nat → Bool} {ts : List T} {Q : T → List T → Prop} {t : T} (h : Kout io ρ ts (Q t)) : Kfn io ts Q (.rt t) ρ := h
theorem Kfn_nx {io : Nat → Bool} {ts : List T} {Q : T → List T → Prop} (h : Kout io ρ ts (Q (.fz .non))) : Kfn io ts Q .nx ρ := h
theorem Fok_fnD {N : Nat} {io : Nat → Bool} {m : MS} {ts : List T} {Q : T → List T → Prop} (h : W (m (ts.map some ++ List.replicate (N - ts.length) none)) (Kfn io ts Q)) : Fok (fnD N io m ts) Q := by
  obtain ⟨fl, ρ, e, h⟩ := h
  unfold Fok fnD
  rw [e]
  cases fl with
  | rt t =>
    obtain ⟨ts', e2, h⟩ := h
    refine ⟨t, ts', ?_, h⟩
    show (outs io ρ 0 ts).bind _ = _
    rw [e2] <;> rfl
  | nx =>
    obtain ⟨ts', e2, h⟩ := h
    refine ⟨.fz .non, ts', ?_, h⟩
    show (outs io ρ 0 ts).bind _ = _
    rw [e2] <;> rfl
  | _ => exact h.elim
/-- a call of frozen values -/
def vls : List D → List Arg := fun ds => ds.map .vl
def KCall (fn : Fn) (Q : T → Env → Prop) (ys : List Arg) (ρ : Env) : Prop := W (oCall fn (fun ρ => some (ys, ρ)) ρ) Q
theorem W_oCall {fn : Fn} {as : MA} {Q : T → Env → Prop} (h : W (as ρ) (KCall fn Q)) : W (oCall fn as ρ) Q := .bind (h.imp fun x ρ1 h => h)
theorem bDs_vls : ∀ ds : List D, bDs ρ (vls ds) = some ds
  | [] => rfl
  | d :: ds => by
    show (some d).bind (fun d => (bDs ρ (vls ds)).bind fun ds => some (d :: ds)) = _
    rw [bDs_vls ds] <;> rfl
theorem frzL_vls : ∀ ds : List D, frzL ρ (vls ds) = some (ds, ρ)
  | [] => rfl
  | d :: ds => by
    show (some (d, ρ)).bind (fun x => (frzL x.2 (vls ds)).bind fun y => some (x.1 :: y.1, y.2)) = _
    show (frzL ρ (vls ds)).bind (fun y => some (d :: y.1, y.2)) = _
    rw [frzL_vls ds] <;> rfl
theorem callB_some {fn : Fn} {ys : List Arg} {d : D} (h : callB fn ρ ys = some d) : ∃ ds r, bDs ρ ys = some ds ∧ fn (ds.map .fz) = some r ∧ r.1 = .fz d := by
  unfold callB at h
  obtain ⟨ds, e1, h⟩ := ob h
  obtain ⟨r, e2, h⟩ := ob h
  refine ⟨ds, r, e1, e2, ?_⟩
  split at h
  · rename_i d' q
    by_cases z : scal d' = true
    · rw [if_pos z] at h
      cases h
      exact q
    · rw [if_neg z] at h
      cases h
  · cases h
theorem KCall_vls {fn : Fn} {Q : T → Env → Prop} {ds : List D} (h : Fok (fn (ds.map .fz)) fun r _ => Q r ρ) : KCall fn Q (vls ds) ρ := by
  obtain ⟨r, ts, e, h⟩ := h
  refine ⟨r, ρ, ?_, h⟩
  show (match callB fn ρ (vls ds) with
    | some d => some (T.fz d, ρ)
    | none => (frzL ρ (vls ds)).bind fun z => (fn (z.1.map .fz)).bind fun r => some (r.1, z.2)) = _
  cases c : callB fn ρ (vls ds) with
  | some d =>
    obtain ⟨ds', r', e1, e2, e3⟩ := callB_some c
    rw [bDs_vls] at e1
    cases e1
    rw [e] at e2
    cases e2
    have e4 : r = .fz d := e3
    rw [e4]
  | none =>
    show (frzL ρ (vls ds)).bind _ = _
    rw [frzL_vls]
    show (fn (ds.map .fz)).bind _ = _
    rw [e] <;> rfl
theorem KCall_1 {fn : Fn} {Q : T → Env → Prop} {d1 : D} (h : Fok (fn [.fz d1]) fun r _ => Q r ρ) : KCall fn Q [.vl d1] ρ := KCall_vls (ds := [d1]) h
theorem KCall_2 {fn : Fn} {Q : T → Env → Prop} {d1 d2 : D} (h : Fok (fn [.fz d1, .fz d2]) fun r _ => Q r ρ) : KCall fn Q [.vl d1, .vl d2] ρ := KCall_vls (ds := [d1, d2]) h
theorem KCall_3 {fn : Fn} {Q : T → Env → Prop} {d1 d2 d3 : D} (h : Fok (fn [.fz d1, .fz d2, .fz d3]) fun r _ => Q r ρ) : KCall fn Q [.vl d1, .vl d2, .vl d3] ρ := KCall_vls (ds := [d1, d2, d3]) h
theorem KCall_4 {fn : Fn} {Q : T → Env → Prop} {d1 d2 d3 d4 : D} (h : Fok (fn [.fz d1, .fz d2, .fz d3, .fz d4]) fun r _ => Q r ρ) : KCall fn Q [.vl d1, .vl d2, .vl d3, .vl d4] ρ := KCall_vls (ds := [d1, d2, d3, d4]) h
/-- a call that gives a plain value: what is ours stays ours -/
theorem KCall_b {fn : Fn} {Q : T → Env → Prop} {ys : List Arg} {ds : List D} (z : bDs ρ ys = some ds) (h : Fok (fn (ds.map .fz)) fun r _ => ∃ d, r = .fz d ∧ scal d = true ∧ Q (.fz d) ρ) : KCall fn Q ys ρ := by
  obtain ⟨r, ts, e, d, rfl, s, h⟩ := h
  refine ⟨.fz d, ρ, ?_, h⟩
  have c : callB fn ρ ys = some d := by
    unfold callB
    rw [z]
    show (fn (ds.map .fz)).bind _ = _
    rw [e]
    show (if scal d = true then some d else none) = _
    rw [if_pos s]
  show (match callB fn ρ ys with
    | some d => some (T.fz d, ρ)
    | none => (frzL ρ ys).bind fun z => (fn (z.1.map .fz)).bind fun r => some (r.1, z.2)) = _
  rw [c]
/-- a call that gives a node: its arguments are frozen -/
theorem KCall_z {fn : Fn} {Q : T → Env → Prop} {ys : List Arg} {ds : List D} (z : bDs ρ ys = some ds) (h : Kfrl ρ ys fun ds' ρ' => ds' = ds ∧ Fok (fn (ds.map .fz)) fun r _ => (∀ d, r = .fz d → scal d = false) ∧ Q r ρ') : KCall fn Q ys ρ := by
  obtain ⟨_, ρ', e1, rfl, r, ts, e2, s, h⟩ := h
  refine ⟨r, ρ', ?_, h⟩
  have c : callB fn ρ ys = none := by
    unfold callB
    rw [z]
    show (fn _).bind _ = _
    rw [e2]
    show (match r with
      | .fz d => if scal d = true then some d else none
      | _ => none) = _
    cases r with
    | fz d =>
      show (if scal d = true then some d else none) = none
      rw [s d rfl]
      rfl
    | nd _ _ => rfl
  show (match callB fn ρ ys with
    | some d => some (T.fz d, ρ)
    | none => (frzL ρ ys).bind fun z => (fn (z.1.map .fz)).bind fun r => some (r.1, z.2)) = _
  rw [c]
  show (frzL ρ ys).bind _ = _
  rw [e1]
  show (fn _).bind _ = _
  rw [e2] <;> rfl
def KIO (fn : Fn) (t : T) (ds : List D) (Q : T → List T → Prop) : Prop := Fok (fn (t :: ds.map .fz)) Q
theorem KIO_0 {fn : Fn} {t : T} {Q : T → List T → Prop} (h : Fok (fn [t]) Q) : KIO fn t [] Q := h
theorem KIO_1 {fn : Fn} {t : T} {d1 : D} {Q : T → List T → Prop} (h : Fok (fn [t, .fz d1]) Q) : KIO fn t [d1] Q := h
theorem KIO_2 {fn : Fn} {t : T} {d1 d2 : D} {Q : T → List T → Prop} (h : Fok (fn [t, .fz d1, .fz d2]) Q) : KIO fn t [d1, d2] Q := h
theorem KIO_3 {fn : Fn} {t : T} {d1 d2 d3 : D} {Q : T → List T → Prop} (h : Fok (fn [t, .fz d1, .fz d2, .fz d3]) Q) : KIO fn t [d1, d2, d3] Q := h
theorem KIO_4 {fn : Fn} {t : T} {d1 d2 d3 d4 : D} {Q : T → List T → Prop} (h : Fok (fn [t, .fz d1, .fz d2, .fz d3, .fz d4]) Q) : KIO fn t [d1, d2, d3, d4] Q := h
theorem FB_t {t : T} {Q : T → Prop} (z : ρ.t i = some t) (h : Q t) : FB (ρ.t i) Q := ⟨_, z, h⟩
/-- a call that changes what slot i holds -/
theorem W_oIO {fn : Fn} {as : MA} {t : T} {Q : T → Env → Prop} (z : ρ.t i = some t) (h : W (as ρ) fun ys ρ1 => Kfrl ρ1 ys fun ds ρ2 => FB (ρ2.t i) fun t2 => KIO fn t2 ds fun r ts => ∃ t' rest, ts = t' :: rest ∧ Kset i (some t') ρ2 fun ρ3 => Q r ρ3) : W (oIO fn i as ρ) Q := by
  obtain ⟨ys, ρ1, e1, ds, ρ2, e2, t2, e3, r, ts, e4, t', rst, rfl, h⟩ := h
  refine ⟨r, ρ2.set i (some t'), ?_, h⟩
  show (ρ.t i).bind _ = _
  rw [z]
  show (as ρ).bind _ = _
  rw [e1]
  show (frzL ρ1 ys).bind _ = _
  rw [e2]
  show (ρ2.t i).bind _ = _
  rw [e3]
  show (fn _).bind _ = _
  rw [e4] <;> rfl
theorem Kts {t : T} {ts : List T} {P : T → Prop} (h : P t) : ∃ t' rest, t :: ts = t' :: rest ∧ P t' := ⟨t, ts, rfl, h⟩
/-! ### changes -/
def Kmut (f : FM) (j : Nat) (ds : List D) (ρ : Env) (Q : D → Env → Prop) : Prop := W (mutAt f j [] ds ρ) Q
theorem Kmut_ {f : FM} {kk k' : DK} {ts ts' : List T} {ds : List D} {g : D} {Q : D → Env → Prop} (z : ρ.t j = some (.nd kk ts)) (z2 : f kk ts ds = some (g, k', ts')) (h : Kset j (some (.nd k' ts')) ρ (Q g)) : Kmut f j ds ρ Q := by
  refine ⟨g, _, ?_, h⟩
  show (ρ.t j).bind _ = _
  rw [z]
  show (f kk ts ds).bind _ = _
  rw [z2] <;> rfl
def KMu (T : String) (q : Bool) (f : FM) (as : MA) (Q : Arg → Env → Prop) (x : Arg) (ρ : Env) : Prop := tyA T ρ x = true ∧ W (as ρ) fun ys ρ1 => guard q x = false ∧ (x.deep && !ys.all Arg.isVl) = false ∧ match x with
  | .rf i π => Kfrl ρ1 ys fun ds ρ2 => W (mutAt f i π ds ρ2) fun r ρ3 => Q (.vl r) ρ3
  | .vl _ => False
theorem W_eMu {T : String} {f : FM} {o : M} {as : MA} {Q : Arg → Env → Prop} (h : W (o ρ) (KMu T q f as Q)) : W (eMu T q f o as ρ) Q := .bind (h.imp fun x ρ1 h => by
  obtain ⟨h1, h⟩ := h
  show W (if (!tyA T ρ1 x) = true then none else _) Q
  rw [h1, if_neg (fun z => nomatch z)]
  refine W.bind (h.imp fun ys ρ2 h => ?_)
  obtain ⟨h2, h3, h⟩ := h
  show W (if guard q x = true then none else if (x.deep && !ys.all Arg.isVl) = true then none else _) Q
  rw [h2, if_neg (fun z => nomatch z), h3, if_neg (fun z => nomatch z)]
  cases x with
  | vl d => exact h.elim
  | rf i π => exact W.bind (W.imp h fun ds ρ3 h => W.bind (h.imp fun r ρ4 h => .ok h)))
theorem KMu_0 {T : String} {f : FM} {as : MA} {Q : Arg → Env → Prop} (z : tyA T ρ (.rf i []) = true) (h : W (as ρ) fun ys ρ1 => Kfrl ρ1 ys fun ds ρ2 => Kmut f i ds ρ2 fun r ρ3 => Q (.vl r) ρ3) : KMu T q f as Q (.rf i []) ρ := ⟨z, h.imp fun ys ρ1 h => ⟨guard_0, rfl, h⟩⟩
theorem W_sSub {f : FM} {e o ix : M} {Q : Fl → Env → Prop} (h : W (e ρ) fun v ρ1 => v.deep = false ∧ W (o ρ1) fun x ρ2 => W (ix ρ2) fun y ρ3 => ∃ j, x = .rf j [] ∧ Kfrl ρ3 [y, v] fun ds ρ4 => Kmut f j ds ρ4 fun _ ρ5 => Q .nx ρ5) : W (sSub q f e o ix ρ) Q := .bind (h.imp fun v ρ1 h => by
  obtain ⟨h1, h⟩ := h
  show W (if v.deep = true then none else _) Q
  rw [h1, if_neg (fun z => nomatch z)]
  refine W.bind (h.imp fun x ρ2 h' => W.bind (h'.imp fun y ρ3 h'' => ?_))
  obtain ⟨j, ex, hk⟩ := h''
  clear h'
  subst ex
  show W (if guard q (.rf j []) = true then none else if (Arg.deep (.rf j []) && !(y.isVl && v.isVl)) = true then none else _) Q
  rw [guard_0, if_neg (fun z => nomatch z), if_neg (fun z => nomatch z)]
  exact W.bind (W.imp hk fun ds ρ4 h => W.bind (W.imp h fun r ρ5 h => .ok h)))
theorem Ksb {x : Nat} {P : Nat → Prop} (h : P x) : ∃ j, Arg.rf x [] = .rf j [] ∧ P j := ⟨x, rfl, h⟩
theorem Kdp {P : Prop} {d : D} (h : P) : Arg.deep (.vl d) = false ∧ P := ⟨rfl, h⟩
/-! ### a < b < c -/
def KCh1 (q r : Bool) (f g : D → D → Option D) (c : M) (x : Arg) (Q : Arg → Env → Prop) (y : Arg) (ρ : Env) : Prop := guard q x = false ∧ guard r y = false ∧ FB (deref ρ x) fun u => FB (deref ρ y) fun w => FB (f u w) fun k => ∃ kb, k = .bl kb ∧ if kb = true then W (c ρ) fun z ρ2 => FB (deref ρ2 y) fun w2 => FB (deref ρ2 z) fun w3 => FB (g w2 w3) fun res => Q (.vl res) ρ2 else Q (.vl (.bl false)) ρ
theorem W_eCh {r : Bool} {f g : D → D → Option D} {a b c : M} {Q : Arg → Env → Prop} (h : W (a ρ) fun x ρ1 => W (b ρ1) (KCh1 q r f g c x Q)) : W (eCh q r f g a b c ρ) Q := .bind (h.imp fun x ρ1 h => .bind (h.imp fun y ρ2 h => by
  obtain ⟨h1, h2, u, e1, w, e2, _, e3, kb, rfl, h⟩ := h
  show W (if guard q x = true then none else if guard r y = true then none else _) Q
  rw [h1, if_neg (fun z => nomatch z), h2, if_neg (fun z => nomatch z)]
  show W ((deref ρ2 x).bind _) Q
  rw [e1]
  show W ((deref ρ2 y).bind _) Q
  rw [e2]
  show W ((f u w).bind _) Q
  rw [e3]
  cases kb with
  | true => exact W.bind (W.imp (show W (c ρ2) _ from h) fun z ρ3 ⟨w2, e4, w3, e5, r, e6, h⟩ => by
      show W ((deref ρ3 y).bind _) Q
      rw [e4]
      show W ((deref ρ3 z).bind _) Q
      rw [e5]
      show W ((g w2 w3).bind _) Q
      rw [e6]
      exact .ok h)
  | false => exact .ok h))
theorem KCh1_vv {r : Bool} {f g : D → D → Option D} {c : M} {Q : Arg → Env → Prop} (h : FB (f u w) fun x => ∃ kb, x = .bl kb ∧ if kb = true then W (c ρ) fun z ρ2 => FB (deref ρ2 z) fun w3 => FB (g w w3) fun res => Q (.vl res) ρ2 else Q (.vl (.bl false)) ρ) : KCh1 q r f g c (.vl u) Q (.vl w) ρ := by
  obtain ⟨x, e, kb, rfl, h⟩ := h
  refine ⟨guard_vl, guard_vl, u, rfl, w, rfl, _, e, kb, rfl, ?_⟩
  cases kb with
  | true => exact W.imp (show W (c ρ) _ from h) fun z ρ2 h => ⟨w, rfl, h⟩
  | false => exact h
end
end DL

end

section
set_option Elab.async false
set_option linter.all false
set_option maxRecDepth 100000
/-! PC: the operations, one by one. -/
namespace DL
open PySem L2
section
variable {i j : Int} {Q : D → Prop} {d e : D} {ds es : List D} {ρ : Env} {n : Nat}
theorem FB_add (h : Q (.int (i + j))) : FB (fAdd (.int i) (.int j)) Q := ⟨_, rfl, h⟩
theorem FB_addI (h : Q (.int (i + j))) : FB (fAddI (.int i) (.int j)) Q := ⟨_, rfl, h⟩
theorem FB_sub (h : Q (.int (i - j))) : FB (fSub (.int i) (.int j)) Q := ⟨_, rfl, h⟩
theorem FB_mul (z : cMul i j = true) (h : Q (.int (i * j))) : FB (fMul (.int i) (.int j)) Q := ⟨_, by
  show ((if cMul i j = true then some (D.int (i * j)) else none).or _) = _
  rw [if_pos z] <;> rfl, h⟩
theorem cMul_l (h : -(2 ^ 64) < i ∧ i < 2 ^ 64) : cMul i j = true := by
  unfold cMul
  rw [decide_eq_true h.1, decide_eq_true h.2] <;> rfl
theorem cMul_r (h : -(2 ^ 64) < j ∧ j < 2 ^ 64) : cMul i j = true := by
  unfold cMul
  rw [decide_eq_true h.1, decide_eq_true h.2, Bool.or_comm] <;> rfl
theorem cMul_fm {m : Int} (h : 0 < m ∧ m ≤ 2 ^ 64) : cMul (i.fmod m) j = true := cMul_l (by
  have h1 := Int.fmod_nonneg_of_pos i h.1
  have h2 := Int.fmod_lt_of_pos i h.1
  omega)
theorem FB_div (z : j ≠ 0 ∧ j.natAbs < 1073741824) (h : Q (.int (i.fdiv j))) : FB (fDiv (.int i) (.int j)) Q := ⟨_, by
  show (if cDiv i j = true then some (D.int (i.fdiv j)) else none) = _
  rw [if_pos (by unfold cDiv; rw [decide_eq_true z.1, decide_eq_true z.2]; rfl)], h⟩
theorem FB_mod (z : j ≠ 0) (h : Q (.int (i.fmod j))) : FB (fMod (.int i) (.int j)) Q := ⟨_, by
  show (if cMod i j = true then some (D.int (i.fmod j)) else none) = _
  rw [if_pos (by unfold cMod; rw [decide_eq_true z])], h⟩
theorem FB_lt (h : Q (.bl (decide (i < j)))) : FB (fLt (.int i) (.int j)) Q := ⟨_, rfl, h⟩
theorem FB_le (h : Q (.bl (decide (i ≤ j)))) : FB (fLe (.int i) (.int j)) Q := ⟨_, rfl, h⟩
theorem FB_gt (h : Q (.bl (decide (j < i)))) : FB (fGt (.int i) (.int j)) Q := ⟨_, rfl, h⟩
theorem FB_ge (h : Q (.bl (decide (j ≤ i)))) : FB (fGe (.int i) (.int j)) Q := ⟨_, rfl, h⟩
theorem eqD_ii : eqD (.int i) (.int j) = some (decide (i = j)) := by
  show some (i == j) = some (decide (i = j))
  congr 1
theorem eqD_bb {a b : Bool} : eqD (.bl a) (.bl b) = some (a == b) := rfl
theorem FB_eq {k : Bool} (z : eqD d e = some k) (h : Q (.bl k)) : FB (fEq d e) Q := ⟨_, by show (eqD d e).map _ = _; rw [z]; rfl, h⟩
theorem FB_ne {k : Bool} (z : eqD d e = some k) (h : Q (.bl (!k))) : FB (fNe d e) Q := ⟨_, by show (eqD d e).map _ = _; rw [z]; rfl, h⟩
theorem FB_is {d : D} (h : Q (.bl (isN d))) : FB (fIs d .non) Q := ⟨_, by unfold fIs; rfl, h⟩
theorem FB_isn {d : D} (h : Q (.bl (!isN d))) : FB (fIsNot d .non) Q := ⟨_, by unfold fIsNot; rfl, h⟩
theorem intsD_map : ∀ ns : List Int, intsD (ns.map D.int) = some ns
  | [] => rfl
  | n :: ns => by
    show (intsD (ns.map D.int)).map (n :: ·) = _
    rw [intsD_map ns] <;> rfl
theorem FB_ltT {ns ms : List Int} (h : Q (.bl (HT.lexLt ns ms))) : FB (fLt (.nd .tup (ns.map .int)) (.nd .tup (ms.map .int))) Q := ⟨_, by
  show (none : Option D).or (((intsD (ns.map D.int)).bind fun ns => (intsD (ms.map D.int)).map fun ms => D.bl (HT.lexLt ns ms)).or _) = _
  rw [intsD_map, intsD_map] <;> rfl, h⟩
theorem FB_leT {ns ms : List Int} (h : Q (.bl (lexLeI ns ms))) : FB (fLe (.nd .tup (ns.map .int)) (.nd .tup (ms.map .int))) Q := ⟨_, by
  show (none : Option D).or ((intsD (ns.map D.int)).bind fun ns => (intsD (ms.map D.int)).map fun ms => D.bl (lexLeI ns ms)) = _
  rw [intsD_map, intsD_map] <;> rfl, h⟩
theorem FB_maxT {ns ms : List Int} (h : Q (.nd .tup ((if HT.lexLt ns ms = true then ms else ns).map .int))) : FB (fMaxT [.nd .tup (ns.map .int), .nd .tup (ms.map .int)]) Q := ⟨_, by
  show ((intsD (ns.map D.int)).bind fun ns' => (intsD (ms.map D.int)).map fun ms' => if HT.lexLt ns' ms' = true then D.nd .tup (ms.map D.int) else .nd .tup (ns.map D.int)) = some (D.nd .tup ((if HT.lexLt ns ms = true then ms else ns).map .int))
  rw [intsD_map, intsD_map]
  show some (if HT.lexLt ns ms = true then D.nd .tup (ms.map D.int) else .nd .tup (ns.map D.int)) = _
  cases HT.lexLt ns ms <;> rfl, h⟩
theorem FB_ix {k : DK} (z : atI ds i = some d) (hq : k.isQ = true) (h : Q d) : FB (fIx (.nd k ds) (.int i)) Q := ⟨_, by
  show (if k.isQ = true then atI ds i else none).or _ = _
  rw [if_pos hq, z] <;> rfl, h⟩
theorem atN {α : Type} {xs : List α} {n : Nat} {x : α} (h : xs[n]? = some x) : atI xs (n : Int) = some x := by
  have hl : n < xs.length := by
    rcases List.getElem?_eq_some_iff.mp h with ⟨h, _⟩
    exact h
  unfold atI ixN
  rw [if_pos (by omega), if_pos (by omega)]
  show xs[(n : Int).toNat]? = _
  rw [Int.toNat_natCast]
  exact h
theorem FB_len {k : DK} (hq : k.isQ = true) (h : Q (.int ds.length)) : FB (f1 fLen [.nd k ds]) Q := ⟨_, by
  show (if k.isQ = true then some (D.int ds.length) else none) = _
  rw [if_pos hq], h⟩
theorem FB_abs (h : Q (.int (if i < 0 then -i else i))) : FB (f1 fAbs [.int i]) Q := ⟨_, rfl, h⟩
theorem FB_int (h : Q (.int i)) : FB (f1 fInt [.int i]) Q := ⟨_, rfl, h⟩
theorem FB_tuple {k : DK} (hq : k.isQ = true) (h : Q (.nd .tup ds)) : FB (f1 fTuple [.nd k ds]) Q := ⟨_, by
  show (if k.isQ = true then some (D.nd .tup ds) else none) = _
  rw [if_pos hq], h⟩
theorem FB_list {k : DK} (hq : k.isQ = true) (h : Q (.nd .lst ds)) : FB (f1 fList [.nd k ds]) Q := ⟨_, by
  show (if k.isQ = true then some (D.nd .lst ds) else none) = _
  rw [if_pos hq], h⟩
theorem bls_map {α : Type} (f : α → Bool) : ∀ xs : List α, bls (xs.map fun x => D.bl (f x)) = some (xs.map f)
  | [] => rfl
  | x :: xs => by
    show (bls (xs.map fun x => D.bl (f x))).map (f x :: ·) = _
    rw [bls_map f xs] <;> rfl
theorem FB_all {k : DK} {bs : List Bool} (hq : k.isL = true) (z : bls ds = some bs) (h : Q (.bl (bs.all id))) : FB (f1 fAll [.nd k ds]) Q := ⟨_, by
  show (if k.isL = true then (bls ds).map fun bs => D.bl (bs.all id) else none) = _
  rw [if_pos hq, z] <;> rfl, h⟩
theorem FB_any {k : DK} {bs : List Bool} (hq : k.isL = true) (z : bls ds = some bs) (h : Q (.bl (bs.any id))) : FB (f1 fAny [.nd k ds]) Q := ⟨_, by
  show (if k.isL = true then (bls ds).map fun bs => D.bl (bs.any id) else none) = _
  rw [if_pos hq, z] <;> rfl, h⟩
theorem FB_slT {lo hi : Option Int} (h : Q (.nd .tup (cutD ds lo hi))) : FB (fSl (.nd .tup ds) lo hi) Q := ⟨_, rfl, h⟩
theorem FB_slL {lo hi : Option Int} (h : Q (.nd .lst (cutD ds lo hi))) : FB (fSl (.nd .lst ds) lo hi) Q := ⟨_, rfl, h⟩
theorem FB_slLL {lo hi : Option Int} (h : Q (.nd .lst (cutD ds lo hi))) : FB (fSl (.nd .ll ds) lo hi) Q := ⟨_, rfl, h⟩
theorem FB_catT (z : ds.length + es.length ≤ 100000) (h : Q (.nd .tup (ds ++ es))) : FB (fAdd (.nd .tup ds) (.nd .tup es)) Q := ⟨_, by
  show (none : Option D).or ((none : Option D).or ((if DK.tup = DK.lst ∧ DK.tup = DK.lst ∧ decide (ds.length + es.length ≤ 100000) = true then some (D.nd .lst (ds ++ es)) else none).or (if DK.tup = DK.tup ∧ DK.tup = DK.tup ∧ decide (ds.length + es.length ≤ 100000) = true then some (D.nd .tup (ds ++ es)) else none))) = _
  rw [if_neg (fun z => nomatch z.1), if_pos ⟨rfl, rfl, decide_eq_true z⟩] <;> rfl, h⟩
theorem FB_catL (z : ds.length + es.length ≤ 100000) (h : Q (.nd .lst (ds ++ es))) : FB (fAdd (.nd .lst ds) (.nd .lst es)) Q := ⟨_, by
  show (none : Option D).or ((none : Option D).or ((if DK.lst = DK.lst ∧ DK.lst = DK.lst ∧ decide (ds.length + es.length ≤ 100000) = true then some (D.nd .lst (ds ++ es)) else none).or _)) = _
  rw [if_pos ⟨rfl, rfl, decide_eq_true z⟩] <;> rfl, h⟩
theorem FB_rev (h : Q (.nd .tup ds.reverse)) : FB (fRev (.nd .tup ds)) Q := ⟨_, rfl, h⟩
theorem FB_neg (h : Q (.int (-i))) : FB (fNeg (.int i)) Q := ⟨_, rfl, h⟩
theorem FB_der (h : Q d) : FB (deref ρ (.vl d)) Q := ⟨_, rfl, h⟩
theorem FB_de0 {s : T} (z : ρ.t n = some s) (z2 : s.sh = some d) (h : Q d) : FB (deref ρ (.rf n [])) Q := ⟨d, by show ((ρ.t n).bind (tAt [])).bind T.sh = _; rw [z]; exact z2, h⟩
theorem fzs_map : ∀ ds : List D, T.fzs (ds.map .fz) = some ds
  | [] => rfl
  | d :: ds => by
    show (T.fzs (ds.map .fz)).map (d :: ·) = _
    rw [fzs_map ds] <;> rfl
theorem sh_map {k : DK} : T.sh (.nd k (ds.map .fz)) = some (.nd k ds) := by
  show (T.fzs (ds.map .fz)).map (D.nd k) = _
  rw [fzs_map] <;> rfl
theorem sh_fz : T.sh (.fz d) = some d := rfl
theorem sh_0 {k : DK} : T.sh (.nd k []) = some (.nd k []) := rfl
theorem sh_5 {k : DK} {a b c d e : D} : T.sh (.nd k [.fz a, .fz b, .fz c, .fz d, .fz e]) = some (.nd k [a, b, c, d, e]) := rfl
theorem toD_map {k : DK} : T.toD (.nd k (ds.map .fz)) = .nd k ds := by
  show D.nd k (T.toDs (ds.map .fz)) = _
  rw [toDs_fz]
theorem ftr {α : Type} {x : Option α} {Q : α → Prop} {a : α} (z : x = some a) (h : Q a) : FB x Q := ⟨_, z, h⟩
theorem kbl {k : Bool} {P : Bool → Prop} (h : P k) : ∃ kb, D.bl k = .bl kb ∧ P kb := ⟨_, rfl, h⟩
theorem ib_t {P R : Prop} (h : P) : if true = true then P else R := h
theorem ib_f {P R : Prop} (h : R) : if false = true then P else R := h
theorem ib_s {k : Bool} {P R : Prop} (h : k = true → P) (h2 : k = false → R) : if k = true then P else R := by
  cases k with
  | true => exact h rfl
  | false => exact h2 rfl
theorem fSet_N {ts : List T} {n : Nat} (hn : n < ts.length) : fSet .lst ts [.int (n : Int), d] = some (.non, .lst, ts.set n (.fz d)) := by
  show (ixN ts.length (n : Int)).bind _ = _
  unfold ixN
  rw [if_pos (by omega), if_pos (by omega), Int.toNat_natCast] <;> rfl
theorem fSet_0 {ts : List T} {a0 : T} : fSet .lst (a0 :: ts) [.int 0, d] = some (.non, .lst, .fz d :: ts) := fSet_N (n := 0) (by simp)
theorem fSet_1 {ts : List T} {a0 a1 : T} : fSet .lst (a0 :: a1 :: ts) [.int 1, d] = some (.non, .lst, a0 :: .fz d :: ts) := fSet_N (n := 1) (by simp)
theorem fSet_2 {ts : List T} {a0 a1 a2 : T} : fSet .lst (a0 :: a1 :: a2 :: ts) [.int 2, d] = some (.non, .lst, a0 :: a1 :: .fz d :: ts) := fSet_N (n := 2) (by simp)
theorem fSet_3 {ts : List T} {a0 a1 a2 a3 : T} : fSet .lst (a0 :: a1 :: a2 :: a3 :: ts) [.int 3, d] = some (.non, .lst, a0 :: a1 :: a2 :: .fz d :: ts) := fSet_N (n := 3) (by simp)
theorem fSet_4 {ts : List T} {a0 a1 a2 a3 a4 : T} : fSet .lst (a0 :: a1 :: a2 :: a3 :: a4 :: ts) [.int 4, d] = some (.non, .lst, a0 :: a1 :: a2 :: a3 :: .fz d :: ts) := fSet_N (n := 4) (by simp)
theorem fSet_5 {ts : List T} {a0 a1 a2 a3 a4 a5 : T} : fSet .lst (a0 :: a1 :: a2 :: a3 :: a4 :: a5 :: ts) [.int 5, d] = some (.non, .lst, a0 :: a1 :: a2 :: a3 :: a4 :: .fz d :: ts) := fSet_N (n := 5) (by simp)
theorem fSet_6 {ts : List T} {a0 a1 a2 a3 a4 a5 a6 : T} : fSet .lst (a0 :: a1 :: a2 :: a3 :: a4 :: a5 :: a6 :: ts) [.int 6, d] = some (.non, .lst, a0 :: a1 :: a2 :: a3 :: a4 :: a5 :: .fz d :: ts) := fSet_N (n := 6) (by simp)
theorem fSet_7 {ts : List T} {a0 a1 a2 a3 a4 a5 a6 a7 : T} : fSet .lst (a0 :: a1 :: a2 :: a3 :: a4 :: a5 :: a6 :: a7 :: ts) [.int 7, d] = some (.non, .lst, a0 :: a1 :: a2 :: a3 :: a4 :: a5 :: a6 :: .fz d :: ts) := fSet_N (n := 7) (by simp)
theorem FB_pow (z : cPow i j = true) (h : Q (.int (i ^ j.toNat))) : FB (fPow (.int i) (.int j)) Q := ⟨_, by
  show (if cPow i j = true then some (D.int (i ^ j.toNat)) else none) = _
  rw [if_pos z], h⟩
theorem fApp_ok {ts : List T} (h : ts.length < 100000) : fApp .lst ts [d] = some (.non, .lst, ts ++ [.fz d]) := by
  show (if decide (ts.length < 100000) = true then some (D.non, DK.lst, ts ++ [.fz d]) else none) = _
  rw [if_pos (decide_eq_true h)]
theorem fExt_ok {ts : List T} (h : ts.length + es.length ≤ 100000) : fExt .lst ts [.nd .lst es] = some (.non, .lst, ts ++ es.map .fz) := by
  show (if decide (ts.length + es.length ≤ 100000) = true then some (D.non, DK.lst, ts ++ es.map .fz) else none) = _
  rw [if_pos (decide_eq_true h)]
section
variable {k : Bool} {b : M} {Qa : Arg → Env → Prop} {Qb : Bool → Env → Prop} {n : MT} {a : M} {t : Tg}
theorem KAnd_y (z : k = true) (h : W (b ρ) Qa) : KAnd b Qa (.vl (.bl k)) ρ := by subst z; exact h
theorem KAnd_n (z : k = false) (h : Qa (.vl (.bl false)) ρ) : KAnd b Qa (.vl (.bl k)) ρ := by subst z; exact h
theorem KOr_y (z : k = true) (h : Qa (.vl (.bl true)) ρ) : KOr b Qa (.vl (.bl k)) ρ := by subst z; exact h
theorem KOr_n (z : k = false) (h : W (b ρ) Qa) : KOr b Qa (.vl (.bl k)) ρ := by subst z; exact h
theorem KtAnd_y (z : k = true) (h : W (n ρ) Qb) : KtAnd n Qb k ρ := by subst z; exact h
theorem KtAnd_n (z : k = false) (h : Qb false ρ) : KtAnd n Qb k ρ := by subst z; exact h
theorem KtOr_y (z : k = true) (h : Qb true ρ) : KtOr n Qb k ρ := by subst z; exact h
theorem KtOr_n (z : k = false) (h : W (n ρ) Qb) : KtOr n Qb k ρ := by subst z; exact h
theorem ib_y {P R : Prop} (z : k = true) (h : P) : if k = true then P else R := by subst z; exact h
theorem ib_n {P R : Prop} (z : k = false) (h : R) : if k = true then P else R := by subst z; exact h
def Kisi (t : Tg) (Q : Bool → Prop) (d : D) : Prop := Q (isi d.tg t)
theorem W_isi (h : W (a ρ) fun x ρ1 => FB (deref ρ1 x) (Kisi t fun k => Qa (.vl (.bl k)) ρ1)) : W (eIsi t a ρ) Qa := W_eIsi h
theorem Kisi_y {Q : Bool → Prop} (z : isi d.tg t = true) (h : Q true) : Kisi t Q d := by unfold Kisi; rw [z]; exact h
theorem Kisi_n {Q : Bool → Prop} (z : isi d.tg t = false) (h : Q false) : Kisi t Q d := by unfold Kisi; rw [z]; exact h
theorem Kisi_ {Q : Bool → Prop} (h : Q (isi d.tg t)) : Kisi t Q d := h
theorem FB_is_y (z : isN d = true) (h : Q (.bl true)) : FB (fIs d .non) Q := FB_is (by rw [z]; exact h)
theorem FB_is_n (z : isN d = false) (h : Q (.bl false)) : FB (fIs d .non) Q := FB_is (by rw [z]; exact h)
theorem FB_isn_y (z : isN d = true) (h : Q (.bl false)) : FB (fIsNot d .non) Q := FB_isn (by rw [z]; exact h)
theorem FB_isn_n (z : isN d = false) (h : Q (.bl true)) : FB (fIsNot d .non) Q := FB_isn (by rw [z]; exact h)
theorem KNot_t (h : Qa (.vl (.bl false)) ρ) : KNot Qa (.vl (.bl true)) ρ := h
theorem KNot_f (h : Qa (.vl (.bl true)) ρ) : KNot Qa (.vl (.bl false)) ρ := h
def KtNot (Q : Bool → Env → Prop) (k : Bool) (ρ : Env) : Prop := Q (!k) ρ
theorem W_tNt {m : MT} (h : W (m ρ) (KtNot Qb)) : W (tNotM m ρ) Qb := W_tNot h
theorem KtNot_t (h : Qb false ρ) : KtNot Qb true ρ := h
theorem KtNot_f (h : Qb true ρ) : KtNot Qb false ρ := h
theorem KtNot_ (h : Qb (!k) ρ) : KtNot Qb k ρ := h
def KeI2 (t u : Tg) (Q : Bool → Prop) (d : D) : Prop := Q (isi d.tg t || isi d.tg u)
theorem W_isi2 {u : Tg} (h : W (a ρ) fun x ρ1 => FB (deref ρ1 x) (KeI2 t u fun k => Qa (.vl (.bl k)) ρ1)) : W (eIsi2 t u a ρ) Qa := .bind (h.imp fun x ρ1 ⟨d, e1, h⟩ => by
  show W ((deref ρ1 x).bind _) _
  rw [e1]
  exact .ok h)
theorem KeI2_y {u : Tg} {Q : Bool → Prop} (z : (isi d.tg t || isi d.tg u) = true) (h : Q true) : KeI2 t u Q d := by unfold KeI2; rw [z]; exact h
theorem KeI2_n {u : Tg} {Q : Bool → Prop} (z : (isi d.tg t || isi d.tg u) = false) (h : Q false) : KeI2 t u Q d := by unfold KeI2; rw [z]; exact h
end
theorem eq_and {α : Type} {a b : α} {P : Prop} (z : a = b) (h : P) : a = b ∧ P := ⟨z, h⟩
theorem cut_take {n : Nat} : cutD ds none (some (n : Int)) = ds.take n := by
  unfold cutD
  rw [HT.sIx_nat]
  show (ds.drop 0).take (min n ds.length - 0) = _
  rw [List.drop_zero, Nat.sub_zero, List.take_eq_take_iff]
  omega
theorem cut_drop {n : Nat} : cutD ds (some (n : Int)) none = ds.drop n := by
  unfold cutD
  rw [HT.sIx_nat]
  show (ds.drop (min n ds.length)).take (ds.length - min n ds.length) = _
  by_cases h : n ≤ ds.length
  · rw [Nat.min_eq_left h, List.take_of_length_le (by rw [List.length_drop]; omega)]
  · rw [Nat.min_eq_right (by omega), List.drop_eq_nil_of_le (Nat.le_refl _), List.drop_eq_nil_of_le (by omega)]
    simp
theorem small_of (h : ds.length ≤ 100000) : small ds = true := decide_eq_true h
theorem isi_tup {d : D} (h : isi d.tg .tup = true) : ∃ ds, d = .nd .tup ds := by
  cases d with
  | nd k ds => cases k with
    | tup => exact ⟨ds, rfl⟩
    | _ => cases h
  | _ => cases h
theorem toDs_n : T.toDs [] = [] := rfl
theorem toDs_c {ts : List T} (h : T.toDs ts = ds) : T.toDs (.fz d :: ts) = d :: ds := congrArg (d :: ·) h
theorem toDs_nd {k : DK} {us ts : List T} (h0 : T.toDs us = es) (h : T.toDs ts = ds) : T.toDs (.nd k us :: ts) = .nd k es :: ds := by
  show T.toD (.nd k us) :: T.toDs ts = _
  rw [h]
  show D.nd k (T.toDs us) :: ds = _
  rw [h0]
theorem toD_nd {k : DK} {ts : List T} (h : T.toDs ts = ds) : T.toD (.nd k ts) = .nd k ds := congrArg (D.nd k) h
theorem toD_fz : T.toD (.fz d) = d := rfl
theorem fApp_map (h : ds.length < 100000) : fApp .lst (ds.map .fz) [d] = some (.non, .lst, (ds ++ [d]).map .fz) := by
  rw [List.map_append]
  exact fApp_ok (by rw [List.length_map]; exact h)
theorem fExt_map (h : ds.length + es.length ≤ 100000) : fExt .lst (ds.map .fz) [.nd .lst es] = some (.non, .lst, (ds ++ es).map .fz) := by
  rw [List.map_append]
  exact fExt_ok (by rw [List.length_map]; exact h)
theorem fzs_n : T.fzs [] = some [] := rfl
theorem fzs_c {ts : List T} (h : T.fzs ts = some ds) : T.fzs (.fz d :: ts) = some (d :: ds) := by
  show (T.fzs ts).map (d :: ·) = _
  rw [h] <;> rfl
theorem sh_nd {k : DK} {ts : List T} (h : T.fzs ts = some ds) : T.sh (.nd k ts) = some (.nd k ds) := by
  show (T.fzs ts).map (D.nd k) = _
  rw [h] <;> rfl
theorem F2_len {α β : Type} {P : α → β → Prop} {as : List α} {bs : List β} (h : F2 P as bs) : bs.length = as.length := by
  induction h with
  | nil => rfl
  | cons _ _ ih => rw [List.length_cons, List.length_cons, ih]
theorem F2_map {α β γ : Type} {P : α → β → Prop} {R : γ → Prop} {f : γ → β} {as : List α} {bs : List β} (h : F2 P as bs) (k : ∀ a b, P a b → ∃ c, R c ∧ b = f c) : ∃ cs : List γ, bs = cs.map f ∧ cs.length = as.length ∧ ∀ c ∈ cs, R c := by
  induction h with
  | nil => exact ⟨[], rfl, rfl, fun c hc => nomatch hc⟩
  | cons h _ ih =>
    obtain ⟨c, hc, e⟩ := k _ _ h
    obtain ⟨cs, e1, e2, e3⟩ := ih
    refine ⟨c :: cs, by rw [e, e1, List.map_cons], by rw [List.length_cons, List.length_cons, e2], fun x hx => ?_⟩
    rcases List.mem_cons.mp hx with rfl | hx
    · exact hc
    · exact e3 x hx
end
end DL

end

section
set_option Elab.async false
set_option linter.all false
set_option maxRecDepth 100000
/-! PD: loops by their counter. -/
namespace DL
open PySem L2
section
variable {ρ : Env} {Q : Fl → Env → Prop} {g : MG} {mb : MS}
theorem for_ix {ds : List D} (I : Nat → Env → Prop) (step : ∀ i d ρ, ds[i]? = some d → I i ρ → KG g d ρ fun ρ1 => W (mb ρ1) (Kinv (I (i + 1)) Q)) (done : ∀ ρ, I ds.length ρ → Q .nx ρ) (h : I 0 ρ) : W (forGo g mb ds ρ) Q := by
  refine for_inv (fun rest ρ => ∃ i, i ≤ ds.length ∧ rest = ds.drop i ∧ I i ρ) (fun d es ρ hI => ?_) (fun ρ hI => ?_) ds ⟨0, Nat.zero_le _, rfl, h⟩
  · obtain ⟨i, hi, e, hI⟩ := hI
    have hlt : i < ds.length := by
      by_cases z : i < ds.length
      · exact z
      · rw [List.drop_eq_nil_of_le (by omega)] at e
        cases e
    rw [List.drop_eq_getElem_cons hlt] at e
    cases e
    obtain ⟨ρ1, e1, h1⟩ := step i ds[i] ρ (by simp [hlt]) hI
    refine ⟨ρ1, e1, h1.imp fun fl ρ2 h => ?_⟩
    cases fl with
    | nx => exact ⟨i + 1, hlt, rfl, h⟩
    | ct => exact ⟨i + 1, hlt, rfl, h⟩
    | bk => exact h
    | rt t => exact h
  · obtain ⟨i, hi, e, hI⟩ := hI
    have : i = ds.length := by
      have := congrArg List.length e
      rw [List.length_drop] at this
      simp at this
      omega
    rw [this] at hI
    exact done ρ hI
theorem rng_at {N i : Nat} {d : D} (h : (rng 0 N)[i]? = some d) : i < N ∧ d = .int (i : Int) := by
  unfold rng at h
  rw [List.getElem?_map] at h
  by_cases z : i < N
  · rw [List.getElem?_range z] at h
    refine ⟨z, ?_⟩
    have h2 : D.int (0 + (i : Int)) = d := Option.some.inj h
    rw [← h2, Int.zero_add]
  · rw [List.getElem?_eq_none (by simp; omega)] at h
    cases h
theorem rng_len {lo : Int} {N : Nat} : (rng lo N).length = N := by
  unfold rng
  rw [List.length_map, List.length_range]
theorem for_rng {N : Nat} (I : Nat → Env → Prop) (step : ∀ (i : Nat) ρ, i < N → I i ρ → KG g (.int (i : Int)) ρ fun ρ1 => W (mb ρ1) (Kinv (I (i + 1)) Q)) (done : ∀ ρ, I N ρ → Q .nx ρ) (h : I 0 ρ) : W (forGo g mb (rng 0 N) ρ) Q := by
  refine for_ix I (fun i d ρ e hI => ?_) (fun ρ hI => ?_) h
  · obtain ⟨h1, rfl⟩ := rng_at e
    exact step i ρ h1 hI
  · rw [rng_len] at hI
    exact done ρ hI
theorem enum_at : ∀ {ds : List D} {n i : Nat} {d : D}, (enumD n ds)[i]? = some d → ∃ x, ds[i]? = some x ∧ d = .nd .tup [.int ((n + i : Nat) : Int), x]
  | [], _, _, _, h => by cases h
  | x :: xs, n, 0, d, h => ⟨x, rfl, (Option.some.inj h).symm⟩
  | x :: xs, n, i + 1, d, h => by
    obtain ⟨y, h1, h2⟩ := enum_at (ds := xs) (n := n + 1) (i := i) h
    exact ⟨y, h1, by rw [h2, show n + 1 + i = n + (i + 1) by omega]⟩
theorem enum_len : ∀ {ds : List D} {n : Nat}, (enumD n ds).length = ds.length
  | [], _ => rfl
  | _ :: xs, n => congrArg (· + 1) (enum_len (ds := xs) (n := n + 1))
theorem for_enum {ds : List D} (I : Nat → Env → Prop) (step : ∀ (i : Nat) d ρ, ds[i]? = some d → I i ρ → KG g (.nd .tup [.int (i : Int), d]) ρ fun ρ1 => W (mb ρ1) (Kinv (I (i + 1)) Q)) (done : ∀ ρ, I ds.length ρ → Q .nx ρ) (h : I 0 ρ) : W (forGo g mb (enumD 0 ds) ρ) Q := by
  refine for_ix I (fun i d ρ e hI => ?_) (fun ρ hI => ?_) h
  · obtain ⟨x, h1, rfl⟩ := enum_at e
    rw [Nat.zero_add]
    exact step i x ρ h1 hI
  · rw [enum_len] at hI
    exact done ρ hI
theorem atI_1 {α : Type} {xs : List α} {n : Nat} {x : α} (h : xs[n + 1]? = some x) : atI xs ((n : Int) + 1) = some x := by
  have := atN h
  rwa [Int.natCast_add] at this
theorem for_map {α : Type} (f : α → D) {xs : List α} (I : List α → Env → Prop) (step : ∀ dn x rest ρ, xs = dn ++ x :: rest → I dn ρ → KG g (f x) ρ fun ρ1 => W (mb ρ1) (Kinv (I (dn ++ [x])) Q)) (done : ∀ ρ, I xs ρ → Q .nx ρ) (h : I [] ρ) : W (forGo g mb (xs.map f) ρ) Q := by
  refine for_inv (fun rest ρ => ∃ dn r, xs = dn ++ r ∧ rest = r.map f ∧ I dn ρ) (fun d es ρ hI => ?_) (fun ρ hI => ?_) (xs.map f) ⟨[], xs, rfl, rfl, h⟩
  · obtain ⟨dn, r, e1, e2, hI⟩ := hI
    cases r with
    | nil => cases e2
    | cons x r =>
      cases e2
      obtain ⟨ρ1, e3, h1⟩ := step dn x r ρ e1 hI
      have e4 : xs = (dn ++ [x]) ++ r := by rw [e1]; simp
      refine ⟨ρ1, e3, h1.imp fun fl ρ2 h => ?_⟩
      cases fl with
      | nx => exact ⟨_, r, e4, rfl, h⟩
      | ct => exact ⟨_, r, e4, rfl, h⟩
      | bk => exact h
      | rt t => exact h
  · obtain ⟨dn, r, e1, e2, hI⟩ := hI
    cases r with
    | nil =>
      rw [List.append_nil] at e1
      subst e1
      exact done ρ hI
    | cons x r => cases e2
end
end DL

end

section
set_option Elab.async false
set_option linter.all false
/-! VR: versions, ranges, in plain Lean. -/
namespace VR
open DL PySem L2
abbrev V := List Int
abbrev S := V × Option V
abbrev lt (a b : V) : Bool := HT.lexLt a b
theorem lt_irr (a : V) : lt a a = false := lexLt_irrefl a
theorem lt_tr {a b c : V} (h : lt a b = true) (h2 : lt b c = true) : lt a c = true := lexLt_trans h h2
theorem lt_tot {a b : V} (e : a ≠ b) (h : lt a b = false) : lt b a = true := lexLt_total e h
theorem lt_asy {a b : V} (h : lt a b = true) : lt b a = false := by
  cases z : lt b a with
  | false => rfl
  | true => exact absurd (lt_tr h z) (by rw [lt_irr]; exact fun z => nomatch z)
theorem nlt_tr {a b c : V} (h : lt b a = false) (h2 : lt c b = false) : lt c a = false := by
  cases z : lt c a with
  | false => rfl
  | true =>
    by_cases e : a = b
    · subst e; rw [z] at h2; cases h2
    · cases q : lt a b with
      | true => rw [lt_tr z q] at h2; cases h2
      | false => rw [lt_tot e q] at h; cases h
/-- a ≤ b < c -/
theorem le_lt {a b c : V} (h : lt b a = false) (h2 : lt b c = true) : lt a c = true := by
  by_cases e : a = b
  · rw [e]; exact h2
  · cases q : lt a b with
    | true => exact lt_tr q h2
    | false => rw [lt_tot e q] at h; cases h
theorem lt_le {a b c : V} (h : lt a b = true) (h2 : lt c b = false) : lt a c = true := by
  by_cases e : b = c
  · rw [← e]; exact h
  · cases q : lt b c with
    | true => exact lt_tr h q
    | false => rw [lt_tot e q] at h2; cases h2
theorem leI_not : ∀ a b : V, lexLeI a b = !lt b a
  | [], [] => rfl
  | [], _ :: _ => rfl
  | _ :: _, [] => rfl
  | x :: xs, y :: ys => by
    show (if x = y then lexLeI xs ys else decide (x ≤ y)) = !(if y = x then lt ys xs else decide (y < x))
    by_cases e : x = y
    · rw [if_pos e, if_pos e.symm]
      exact leI_not xs ys
    · rw [if_neg e, if_neg (fun z => e z.symm)]
      by_cases h : x ≤ y
      · rw [decide_eq_true h, decide_eq_false (by omega)] <;> rfl
      · rw [decide_eq_false h, decide_eq_true (by omega)] <;> rfl
def bel (v : V) : Option V → Bool
  | none => true
  | some h => lt v h
def mx (a b : V) : V := if lt a b = true then b else a
def les : Option V → Option V → Option V
  | none, b => b
  | some a, none => some a
  | some a, some b => if lt a b = true then some a else some b
def inS (v : V) (s : S) : Bool := !lt v s.1 && bel v s.2
def has (r : List S) (v : V) : Bool := r.any (inS v)
def both1 (s t : S) : Option S := if bel (mx s.1 t.1) (les s.2 t.2) = true then some (mx s.1 t.1, les s.2 t.2) else none
def both (r s : List S) : List S := r.flatMap fun x => s.filterMap fun y => both1 x y
theorem mx_le {a b v : V} : lt v (mx a b) = false ↔ lt v a = false ∧ lt v b = false := by
  unfold mx
  cases z : lt a b with
  | true => exact ⟨fun h => ⟨nlt_tr (lt_asy z) h, h⟩, fun h => h.2⟩
  | false => exact ⟨fun h => ⟨h, nlt_tr z h⟩, fun h => h.1⟩
theorem bel_les {a b : Option V} {v : V} : bel v (les a b) = true ↔ bel v a = true ∧ bel v b = true := by
  cases a with
  | none => exact ⟨fun h => ⟨rfl, h⟩, fun h => h.2⟩
  | some a => cases b with
    | none => exact ⟨fun h => ⟨h, rfl⟩, fun h => h.1⟩
    | some b =>
      show bel v (if lt a b = true then some a else some b) = true ↔ lt v a = true ∧ lt v b = true
      cases z : lt a b with
      | true => exact ⟨fun h => ⟨h, lt_tr h z⟩, fun h => h.1⟩
      | false => exact ⟨fun h => ⟨lt_le h z, h⟩, fun h => h.2⟩
theorem bel_mono {u v : V} {h : Option V} (a : lt v u = false) (b : bel v h = true) : bel u h = true := by
  cases h with
  | none => rfl
  | some h => exact le_lt a b
theorem both_ne {r s : List S} : both r s ≠ [] ↔ ∃ v, has r v = true ∧ has s v = true := by
  constructor
  · intro h
    obtain ⟨p, hp⟩ := List.exists_mem_of_ne_nil _ h
    obtain ⟨x, hx, hp⟩ := List.mem_flatMap.mp hp
    obtain ⟨y, hy, e⟩ := List.mem_filterMap.mp hp
    unfold both1 at e
    split at e
    · rename_i z
      obtain ⟨z1, z2⟩ := bel_les.mp z
      obtain ⟨m1, m2⟩ := mx_le.mp (lt_irr (mx x.1 y.1))
      refine ⟨mx x.1 y.1, List.any_eq_true.mpr ⟨x, hx, ?_⟩, List.any_eq_true.mpr ⟨y, hy, ?_⟩⟩
      · unfold inS; rw [m1, z1] <;> rfl
      · unfold inS; rw [m2, z2] <;> rfl
    · cases e
  · rintro ⟨v, h1, h2⟩
    obtain ⟨x, hx, h1⟩ := List.any_eq_true.mp h1
    obtain ⟨y, hy, h2⟩ := List.any_eq_true.mp h2
    obtain ⟨a1, a2⟩ := Bool.and_eq_true_iff.mp h1
    obtain ⟨b1, b2⟩ := Bool.and_eq_true_iff.mp h2
    have a1 : lt v x.1 = false := by simpa using a1
    have b1 : lt v y.1 = false := by simpa using b1
    have z : bel (mx x.1 y.1) (les x.2 y.2) = true := bel_mono (mx_le.mpr ⟨a1, b1⟩) (bel_les.mpr ⟨a2, b2⟩)
    have e : both1 x y = some (mx x.1 y.1, les x.2 y.2) := by unfold both1; rw [if_pos z]
    exact List.ne_nil_of_mem (List.mem_flatMap.mpr ⟨x, hx, List.mem_filterMap.mpr ⟨y, hy, e⟩⟩)
/-! outside -/
def out : Option V → List S → List S
  | none, [] => []
  | some v, [] => [(v, none)]
  | none, (_, h) :: r => out h r
  | some v, (l, h) :: r => if lt v l = true then (v, some l) :: out h r else out h r
/-- sorted: each stretch is one, each begins behind the one before -/
def okR : Option V → List S → Prop
  | _, [] => True
  | none, _ :: _ => False
  | some v, (l, h) :: r => lt v l = true ∧ bel l h = true ∧ okR h r
def okR0 (z : V) : List S → Prop
  | [] => True
  | (l, h) :: r => lt l z = false ∧ bel l h = true ∧ okR h r
theorem has_low : ∀ {r : List S} {w v : V}, okR (some w) r → lt v w = true → has r v = false
  | [], _, _, _, _ => rfl
  | (l, h) :: r, w, v, ⟨h1, h2, h3⟩, hv => by
    have hl : lt v l = true := lt_tr hv h1
    have e : inS v (l, h) = false := by unfold inS; rw [hl]; rfl
    show (inS v (l, h) || has r v) = false
    rw [e, Bool.false_or]
    cases h with
    | none => cases r with
      | nil => rfl
      | cons _ _ => exact h3.elim
    | some w2 => exact has_low h3 (lt_tr hl h2)
/-- the points of the rest -/
theorem out_has : ∀ {r : List S} {b : Option V} {v : V}, okR b r → has (out b r) v = (match b with
    | none => false
    | some w => !lt v w && !has r v)
  | [], none, _, _ => rfl
  | [], some w, v, _ => by
    show ((!lt v w && bel v none) || false) = (!lt v w && !false)
    simp [bel]
  | (l, h) :: r, none, _, hk => hk.elim
  | (l, h) :: r, some w, v, ⟨h1, h2, h3⟩ => by
    show has (if lt w l = true then (w, some l) :: out h r else out h r) v = (!lt v w && !(inS v (l, h) || has r v))
    rw [if_pos h1]
    show (inS v (w, some l) || has (out h r) v) = _
    rw [out_has h3]
    show ((!lt v w && lt v l) || _) = (!lt v w && !((!lt v l && bel v h) || has r v))
    cases hvw : lt v w with
    | true =>
      have : lt v l = true := lt_tr hvw h1
      cases h with
      | none => rfl
      | some h =>
        have t2 : lt v h = true := lt_tr this h2
        show ((!true && lt v l) || (!lt v h && !has r v)) = (!true && !((!lt v l && lt v h) || has r v))
        rw [t2] <;> rfl
    | false =>
      cases hvl : lt v l with
      | true =>
        have hr : has r v = false := by
          cases h with
          | none => cases r with
            | nil => rfl
            | cons _ _ => exact h3.elim
          | some h => exact has_low h3 (lt_tr hvl h2)
        rw [hr]
        rfl
      | false =>
        cases h with
        | none =>
          show (_ || false) = _
          simp [bel]
        | some h =>
          show (_ || (!lt v h && !has r v)) = (!false && !((!false && lt v h) || has r v))
          cases lt v h <;> cases has r v <;> rfl
theorem out_has0 {z : V} {r : List S} {v : V} (h : okR0 z r) : has (out (some z) r) v = (!lt v z && !has r v) := by
  cases r with
  | nil => exact out_has (b := some z) (r := []) trivial
  | cons s r =>
    obtain ⟨l, hh⟩ := s
    obtain ⟨h1, h2, h3⟩ := h
    cases hz : lt z l with
    | true => exact out_has (b := some z) (r := (l, hh) :: r) ⟨hz, h2, h3⟩
    | false =>
      have e : z = l := by
        by_cases e : z = l
        · exact e
        · rw [lt_tot e hz] at h1; cases h1
      subst e
      show has (if lt z z = true then _ else out hh r) v = (!lt v z && !((!lt v z && bel v hh) || has r v))
      rw [if_neg (by rw [lt_irr]; exact fun q => nomatch q), out_has h3]
      cases hv : lt v z with
      | true =>
        cases hh with
        | none => rfl
        | some w =>
          have : lt v w = true := lt_tr hv h2
          show (!lt v w && _) = _
          rw [this] <;> rfl
      | false =>
        cases hh with
        | none => simp [bel]
        | some w =>
          show (!lt v w && !has r v) = (!false && !((!false && lt v w) || has r v))
          cases lt v w <;> cases has r v <;> rfl
/-! the law's own way: marks -/
def mk : Option V → List (V × Bool) → List S
  | none, [] => []
  | some b, [] => [(b, none)]
  | none, (m, f) :: r => if f = true then mk (some m) r else mk none r
  | some b, (m, f) :: r => if f = true then mk (some b) r else (b, some m) :: mk none r
def cov : Bool → List (V × Bool) → V → Bool
  | c, [], _ => c
  | c, (m, f) :: r, v => if lt v m = false then cov f r v else c
def asc (l : List V) : Prop := l.Pairwise fun a b => lt a b = true
theorem mk_low : ∀ {l : List (V × Bool)} {v : V}, (∀ p ∈ l, lt v p.1 = true) → has (mk none l) v = false
  | [], _, _ => rfl
  | (m, f) :: r, v, h => by
    show has (if f = true then mk (some m) r else mk none r) v = false
    cases f with
    | false => exact mk_low fun p hp => h p (List.mem_cons_of_mem _ hp)
    | true => exact mk_lowS (h (m, true) (List.mem_cons_self ..)) fun p hp => h p (List.mem_cons_of_mem _ hp)
where
  mk_lowS : ∀ {l : List (V × Bool)} {b v : V}, lt v b = true → (∀ p ∈ l, lt v p.1 = true) → has (mk (some b) l) v = false
  | [], b, v, hb, _ => by
    show ((!lt v b && _) || false) = false
    rw [hb] <;> rfl
  | (m, f) :: r, b, v, hb, h => by
    show has (if f = true then mk (some b) r else (b, some m) :: mk none r) v = false
    cases f with
    | true => exact mk_lowS hb fun p hp => h p (List.mem_cons_of_mem _ hp)
    | false =>
      show ((!lt v b && _) || has (mk none r) v) = false
      rw [hb, mk_low fun p hp => h p (List.mem_cons_of_mem _ hp)] <;> rfl
theorem mk_cov : ∀ {l : List (V × Bool)} {o : Option V} {v : V}, asc (l.map (·.1)) → (∀ b, o = some b → lt v b = false ∧ ∀ p ∈ l, lt b p.1 = true) → has (mk o l) v = cov (o.isSome) l v
  | [], none, _, _, _ => rfl
  | [], some b, v, _, h => by
    show ((!lt v b && true) || false) = true
    rw [(h b rfl).1] <;> rfl
  | (m, f) :: r, o, v, ha, h => by
    have ha2 := List.pairwise_cons.mp ha
    have hr : ∀ p ∈ r, lt m p.1 = true := fun p hp => ha2.1 p.1 (List.mem_map_of_mem hp)
    show has (mk o ((m, f) :: r)) v = if lt v m = false then cov f r v else o.isSome
    cases hv : lt v m with
    | false =>
      rw [if_pos rfl]
      cases o with
      | none =>
        show has (if f = true then mk (some m) r else mk none r) v = _
        cases f with
        | true => exact mk_cov ha2.2 fun b e => by cases e; exact ⟨hv, hr⟩
        | false => exact mk_cov ha2.2 fun b e => by cases e
      | some b =>
        obtain ⟨h1, h2⟩ := h b rfl
        show has (if f = true then mk (some b) r else (b, some m) :: mk none r) v = _
        cases f with
        | true => exact mk_cov ha2.2 fun b' e => by cases e; exact ⟨h1, fun p hp => h2 p (List.mem_cons_of_mem _ hp)⟩
        | false =>
          show ((!lt v b && lt v m) || has (mk none r) v) = _
          rw [hv, Bool.and_false, Bool.false_or]
          exact mk_cov ha2.2 fun b e => by cases e
    | true =>
      rw [if_neg (fun z => nomatch z)]
      have hlow : ∀ p ∈ r, lt v p.1 = true := fun p hp => lt_tr hv (hr p hp)
      cases o with
      | none =>
        show has (if f = true then mk (some m) r else mk none r) v = _
        cases f with
        | true => exact mk_low.mk_lowS hv hlow
        | false => exact mk_low hlow
      | some b =>
        obtain ⟨h1, h2⟩ := h b rfl
        show has (if f = true then mk (some b) r else (b, some m) :: mk none r) v = true
        cases f with
        | true =>
          rw [if_pos rfl, mk_cov (o := some b) ha2.2 fun b' e => by cases e; exact ⟨h1, fun p hp => h2 p (List.mem_cons_of_mem _ hp)⟩]
          cases r with
          | nil => rfl
          | cons p r =>
            obtain ⟨m2, f2⟩ := p
            show (if lt v m2 = false then _ else true) = true
            rw [if_neg (by rw [hlow (m2, f2) (List.mem_cons_self ..)]; exact fun z => nomatch z)]
        | false =>
          show ((!lt v b && lt v m) || _) = true
          rw [h1, hv] <;> rfl
theorem cov_last {F : V → Bool} {v : V} : ∀ {l : List V} {c : Bool}, asc l → (∃ m ∈ l, lt v m = false) → ∃ m ∈ l, lt v m = false ∧ (∀ m' ∈ l, lt v m' = false → lt m m' = false) ∧ cov c (l.map fun m => (m, F m)) v = F m
  | [], _, _, h => by obtain ⟨m, hm, _⟩ := h; cases hm
  | m :: r, c, ha, h => by
    have ha2 := List.pairwise_cons.mp ha
    have hm : lt v m = false := by
      obtain ⟨m', hm', h⟩ := h
      rcases List.mem_cons.mp hm' with rfl | hm'
      · exact h
      · cases z : lt v m with
        | false => rfl
        | true => rw [lt_tr z (ha2.1 m' hm')] at h; cases h
    show ∃ m' ∈ m :: r, lt v m' = false ∧ _ ∧ (if lt v m = false then cov (F m) (r.map fun m => (m, F m)) v else c) = F m'
    rw [if_pos hm]
    by_cases hr : ∃ m' ∈ r, lt v m' = false
    · obtain ⟨m', h1, h2, h3, h4⟩ := cov_last (F := F) (c := F m) ha2.2 hr
      refine ⟨m', List.mem_cons_of_mem _ h1, h2, fun m'' h5 h6 => ?_, h4⟩
      rcases List.mem_cons.mp h5 with rfl | h5
      · exact lt_asy (ha2.1 m' h1)
      · exact h3 m'' h5 h6
    · refine ⟨m, List.mem_cons_self .., hm, fun m'' h5 h6 => ?_, ?_⟩
      · rcases List.mem_cons.mp h5 with rfl | h5
        · exact lt_irr _
        · exact absurd ⟨m'', h5, h6⟩ hr
      · cases r with
        | nil => rfl
        | cons m2 r =>
          show (if lt v m2 = false then _ else F m) = F m
          rw [if_neg fun z => hr ⟨m2, List.mem_cons_self .., z⟩]
/-- the marks of a range -/
def ends (s : S) : List V := match s.2 with
  | none => [s.1]
  | some h => [s.1, h]
def pts (r : List S) : List V := r.flatMap ends
theorem has_same {r : List S} {l : List V} {m v : V} (hp : ∀ p ∈ pts r, p ∈ l) (h1 : lt v m = false) (h2 : ∀ m' ∈ l, lt v m' = false → lt m m' = false) : has r m = has r v := by
  have key : ∀ s ∈ r, inS m s = inS v s := fun s hs => by
    obtain ⟨a, b⟩ := s
    have hin : ∀ p ∈ ends (a, b), p ∈ l := fun p hp' => hp p (List.mem_flatMap.mpr ⟨(a, b), hs, hp'⟩)
    have ea : lt m a = lt v a := by
      have ha : a ∈ l := hin a (by cases b <;> exact List.mem_cons_self ..)
      cases z : lt v a with
      | false => exact h2 a ha z
      | true =>
        exact le_lt h1 z
    have eb : bel m b = bel v b := by
      cases b with
      | none => rfl
      | some b =>
        have hb : b ∈ l := hin b (List.mem_cons_of_mem _ (List.mem_cons_self ..))
        show lt m b = lt v b
        cases z : lt v b with
        | false => exact h2 b hb z
        | true => exact le_lt h1 z
    show (!lt m a && bel m b) = (!lt v a && bel v b)
    rw [ea, eb]
  unfold has
  induction r with
  | nil => rfl
  | cons s r ih =>
    rw [List.any_cons, List.any_cons, key s (List.mem_cons_self ..), ih (fun p hp' => hp p (by
      obtain ⟨x, hx, hy⟩ := List.mem_flatMap.mp hp'
      exact List.mem_flatMap.mpr ⟨x, List.mem_cons_of_mem _ hx, hy⟩)) fun s hs => key s (List.mem_cons_of_mem _ hs)]
def zero : V := [0, 0, 0]
def marks (rs : List (List S)) : List V := sortT (zero :: rs.flatMap pts)
theorem marks_asc (rs : List (List S)) : asc (marks rs) := sortT_asc _
theorem marks_mem {rs : List (List S)} {m : V} : m ∈ marks rs ↔ m = zero ∨ ∃ r ∈ rs, m ∈ pts r := by
  unfold marks
  rw [sortT_mem, List.mem_cons, List.mem_flatMap]
def made (ms : List V) (F : V → Bool) : List S := mk none (ms.map fun m => (m, F m))
def lout (r : List S) : List S := made (marks [r]) fun m => !has r m
def lboth (r s : List S) : List S := made (marks [r, s]) fun m => has r m && has s m
theorem map_fst {F : V → Bool} (ms : List V) : (ms.map fun m => (m, F m)).map (·.1) = ms := by
  rw [List.map_map]
  exact List.map_id ms
theorem lout_has {r : List S} {v : V} (hv : lt v zero = false) : has (lout r) v = !has r v := by
  unfold lout made
  rw [mk_cov (o := none) (by rw [map_fst]; exact marks_asc _) fun b e => by cases e]
  obtain ⟨m, h1, h2, h3, h4⟩ := cov_last (F := fun m => !has r m) (c := false) (marks_asc [r]) ⟨zero, marks_mem.mpr (.inl rfl), hv⟩
  show cov false _ v = _
  rw [h4, has_same (fun p hp => marks_mem.mpr (.inr ⟨r, List.mem_cons_self .., hp⟩)) h2 h3]
theorem mk_nil : ∀ {l : List (V × Bool)}, mk none l = [] ↔ ∀ p ∈ l, p.2 = false
  | [] => by simp [mk]
  | (m, f) :: r => by
    show (if f = true then mk (some m) r else mk none r) = [] ↔ _
    cases f with
    | false =>
      rw [if_neg (fun z => nomatch z), mk_nil]
      constructor
      · intro h p hp
        rcases List.mem_cons.mp hp with rfl | hp
        · rfl
        · exact h p hp
      · exact fun h p hp => h p (List.mem_cons_of_mem _ hp)
    | true =>
      constructor
      · intro h
        exact absurd h (by rw [if_pos rfl]; exact mk_some r m)
      · intro h
        cases h (m, true) (List.mem_cons_self ..)
where
  mk_some : ∀ (l : List (V × Bool)) (b : V), mk (some b) l ≠ []
  | [], b => fun z => nomatch z
  | (m, f) :: r, b => by
    show (if f = true then mk (some b) r else (b, some m) :: mk none r) ≠ []
    cases f with
    | true => exact mk_some r b
    | false => exact fun z => nomatch z
theorem lboth_ne {r s : List S} : lboth r s ≠ [] ↔ ∃ v, has r v = true ∧ has s v = true := by
  unfold lboth made
  constructor
  · intro h
    have : ¬ ∀ p ∈ (marks [r, s]).map (fun m => (m, has r m && has s m)), p.2 = false := fun z => h (mk_nil.mpr z)
    by_cases q : ∃ v, has r v = true ∧ has s v = true
    · exact q
    · exact absurd (fun p hp => by
        obtain ⟨m, hm, rfl⟩ := List.mem_map.mp hp
        show (has r m && has s m) = false
        cases h1 : has r m with
        | false => rfl
        | true => cases h2 : has s m with
          | false => rfl
          | true => exact absurd ⟨m, h1, h2⟩ q) this
  · rintro ⟨v, h1, h2⟩ z
    have z := mk_nil.mp z
    obtain ⟨x, hx, g1⟩ := List.any_eq_true.mp h1
    obtain ⟨y, hy, g2⟩ := List.any_eq_true.mp h2
    obtain ⟨a1, a2⟩ := Bool.and_eq_true_iff.mp g1
    obtain ⟨b1, b2⟩ := Bool.and_eq_true_iff.mp g2
    have a1 : lt v x.1 = false := by simpa using a1
    have b1 : lt v y.1 = false := by simpa using b1
    obtain ⟨m1, m2⟩ := mx_le.mp (lt_irr (mx x.1 y.1))
    have hm := mx_le.mpr ⟨a1, b1⟩
    have i1 : has r (mx x.1 y.1) = true := List.any_eq_true.mpr ⟨x, hx, by unfold inS; rw [m1, bel_mono hm a2] <;> rfl⟩
    have i2 : has s (mx x.1 y.1) = true := List.any_eq_true.mpr ⟨y, hy, by unfold inS; rw [m2, bel_mono hm b2] <;> rfl⟩
    have low : ∀ {p : S}, p.1 ∈ ends p := fun {p} => by
      obtain ⟨a, b⟩ := p
      cases b <;> exact List.mem_cons_self ..
    have hmem : mx x.1 y.1 ∈ marks [r, s] := marks_mem.mpr (.inr (by
      unfold mx
      cases lt x.1 y.1 with
      | true => exact ⟨s, by simp, List.mem_flatMap.mpr ⟨y, hy, low⟩⟩
      | false => exact ⟨r, by simp, List.mem_flatMap.mpr ⟨x, hx, low⟩⟩))
    have := z _ (List.mem_map.mpr ⟨_, hmem, rfl⟩)
    simp only [i1, i2] at this
    cases this
/-- THE LAW: within, both ways -/
theorem part_same {r s : List S} (hs : okR0 zero s) (hr : ∀ v, has r v = true → lt v zero = false) : (both r (out (some zero) s) = []) ↔ (lboth r (lout s) = []) := by
  have e : (∃ v, has r v = true ∧ has (out (some zero) s) v = true) ↔ ∃ v, has r v = true ∧ has (lout s) v = true := by
    constructor
    · rintro ⟨v, h1, h2⟩
      rw [out_has0 hs, hr v h1] at h2
      exact ⟨v, h1, by rw [lout_has (hr v h1)]; simpa using h2⟩
    · rintro ⟨v, h1, h2⟩
      rw [lout_has (hr v h1)] at h2
      exact ⟨v, h1, by rw [out_has0 hs, hr v h1]; simpa using h2⟩
  have e2 := both_ne.trans (e.trans lboth_ne.symm)
  constructor
  · intro h
    by_cases q : lboth r (lout s) = []
    · exact q
    · exact absurd h (e2.mpr q)
  · intro h
    by_cases q : both r (out (some zero) s) = []
    · exact q
    · exact absurd h (e2.mp q)
end VR

end

section
set_option Elab.async false
set_option linter.all false
set_option maxRecDepth 100000
set_option maxHeartbeats 0
namespace K04
open PySem PySem.Spec PyProof.Rows L2 DL
def lots : Nat := 200
def top (i : Nat) : Stmt := PySem.Challenge.pw_pinforge_k04_versions_and_ranges_judged.main.body.getD i (.Pass ⟨0, 0, 0, 0⟩)
def k_GREATEST : D := (D.int (1000000))
def k_LEAST : D := (D.nd .tup [(D.int (0)), (D.int (0)), (D.int (0))])
abbrev s_is_integer : Stmt := top 1
def m_is_integer : MS := (sRt (oE (eAnd (eIsi .int (eV 0)) (eNot (eIsi .bl (eV 0))))))
def io_is_integer : Nat → Bool := fun j => false
def d_is_integer : Fn := fnD 1 io_is_integer m_is_integer
abbrev s_is_within : Stmt := top 2
def m_is_within : MS := (sRt (oE (eAnd (eO (oCall d_is_integer (mCons true (eV 0) mNil))) (eCh true true fLe fLe (eV 1) (eV 0) (eV 2)))))
def io_is_within : Nat → Bool := fun j => false
def d_is_within : Fn := fnD 3 io_is_within m_is_within
abbrev s_is_version : Stmt := top 6
def m_is_version : MS := (sRt (oE (eAnd (eIsi .tup (eV 0)) (eAnd (eB true fEq (eCB (f1 fLen) (mCons true (eV 0) mNil)) (eK (D.int (3)))) (eCB (f1 fAll) (mCons true (eO (oLc (iSq DK.isQ (eV 0)) (gNm 1) mYes (eO (oCall d_is_within (mCons true (eV 1) (mCons true (eK (D.int (0))) (mCons true (eK k_GREATEST) mNil))))) [1])) mNil))))))
def io_is_version : Nat → Bool := fun j => false
def d_is_version : Fn := fnD 2 io_is_version m_is_version
abbrev s_is_stretch : Stmt := top 7
def m_is_stretch : MS := (sSq (sIf (tOrM (tNotM (tM (eIsi .tup (eV 0)))) (tOrM (tB true fNe (eCB (f1 fLen) (mCons true (eV 0) mNil)) (eK (D.int (2)))) (tNotM (tM (eO (oCall d_is_version (mCons true (eB true fIx (eV 0) (eK (D.int (0)))) mNil))))))) (sRt (oE (eK (D.bl false)))) sNx) (sRt (oE (eOr (eB true fIs (eB true fIx (eV 0) (eK (D.int (1)))) (eK D.non)) (eAnd (eO (oCall d_is_version (mCons true (eB true fIx (eV 0) (eK (D.int (1)))) mNil))) (eB true fLt (eB true fIx (eV 0) (eK (D.int (0)))) (eB true fIx (eV 0) (eK (D.int (1))))))))))
def io_is_stretch : Nat → Bool := fun j => false
def d_is_stretch : Fn := fnD 1 io_is_stretch m_is_stretch
abbrev s_is_range : Stmt := top 8
def m_is_range : MS := (sSq (sIf (tOrM (tNotM (tM (eIsi .tup (eV 0)))) (tNotM (tM (eCB (f1 fAll) (mCons true (eO (oLc (iSq DK.isQ (eV 0)) (gNm 2) mYes (eO (oCall d_is_stretch (mCons true (eV 2) mNil))) [2])) mNil))))) (sRt (oE (eK (D.bl false)))) sNx) (sSq (sFor (iRg1 (eB true fSub (eCB (f1 fLen) (mCons true (eV 0) mNil)) (eK (D.int (1))))) (gNm 1) (sIf (tOrM (tB true fIs (eB true fIx (eB true fIx (eV 0) (eV 1)) (eK (D.int (1)))) (eK D.non)) (tNotM (tB true fLt (eB true fIx (eB true fIx (eV 0) (eV 1)) (eK (D.int (1)))) (eB true fIx (eB true fIx (eV 0) (eB true fAdd (eV 1) (eK (D.int (1))))) (eK (D.int (0))))))) (sRt (oE (eK (D.bl false)))) sNx)) (sRt (oE (eK (D.bl true))))))
def io_is_range : Nat → Bool := fun j => false
def d_is_range : Fn := fnD 3 io_is_range m_is_range
abbrev s_is_below : Stmt := top 9
def m_is_below : MS := (sRt (oE (eOr (eB true fIs (eV 1) (eK D.non)) (eB true fLt (eV 0) (eV 1)))))
def io_is_below : Nat → Bool := fun j => false
def d_is_below : Fn := fnD 2 io_is_below m_is_below
abbrev s_lesser_high : Stmt := top 10
def m_lesser_high : MS := (sSq (sIf (tB true fIs (eV 0) (eK D.non)) (sRt (oV 1)) sNx) (sRt (oE (eIf (tOrM (tB true fIs (eV 1) (eK D.non)) (tB true fLt (eV 0) (eV 1))) (eV 0) (eV 1)))))
def io_lesser_high : Nat → Bool := fun j => false
def d_lesser_high : Fn := fnD 2 io_lesser_high m_lesser_high
abbrev s_both : Stmt := top 11
def m_both : MS := (sSq (sAs 2 (oLs osN)) (sSq (sFor (iSq DK.isQ (eV 0)) (gTp 2 (gsC (gNm 3) (gsC (gNm 4) gsN))) (sFor (iSq DK.isQ (eV 1)) (gTp 2 (gsC (gNm 5) (gsC (gNm 6) gsN))) (sSq (sAs 7 (oE (eCB fMaxT (mCons true (eV 3) (mCons true (eV 5) mNil))))) (sSq (sAs 8 (oCall d_lesser_high (mCons true (eV 4) (mCons true (eV 6) mNil)))) (sIf (tM (eO (oCall d_is_below (mCons true (eV 7) (mCons true (eV 8) mNil))))) (sEx (eMu "list" false fApp (eV 2) (mCons true (eTup (mCons true (eV 7) (mCons true (eV 8) mNil))) mNil))) sNx))))) (sRt (oE (eCB (f1 fTuple) (mCons true (eV 2) mNil))))))
def io_both : Nat → Bool := fun j => false
def d_both : Fn := fnD 9 io_both m_both
abbrev s_outside : Stmt := top 12
def m_outside : MS := (sSq (sAs 1 (oLs osN)) (sSq (sAs 2 (oE (eK k_LEAST))) (sSq (sFor (iSq DK.isQ (eV 0)) (gTp 2 (gsC (gNm 3) (gsC (gNm 4) gsN))) (sSq (sIf (tAndM (tB true fIsNot (eV 2) (eK D.non)) (tB true fLt (eV 2) (eV 3))) (sEx (eMu "list" false fApp (eV 1) (mCons true (eTup (mCons true (eV 2) (mCons true (eV 3) mNil))) mNil))) sNx) (sAs 2 (oE (eV 4))))) (sSq (sIf (tB true fIsNot (eV 2) (eK D.non)) (sEx (eMu "list" false fApp (eV 1) (mCons true (eTup (mCons true (eV 2) (mCons true (eK D.non) mNil))) mNil))) sNx) (sRt (oE (eCB (f1 fTuple) (mCons true (eV 1) mNil))))))))
def io_outside : Nat → Bool := fun j => false
def d_outside : Fn := fnD 5 io_outside m_outside
abbrev s_is_part : Stmt := top 13
def m_is_part : MS := (sRt (oE (eAnd (eO (oCall d_is_range (mCons true (eV 1) mNil))) (eB false fEq (eO (oCall d_both (mCons false (eV 0) (mCons true (eO (oCall d_outside (mCons true (eV 1) mNil))) mNil)))) (eTup mNil)))))
def io_is_part : Nat → Bool := fun j => false
def d_is_part : Fn := fnD 2 io_is_part m_is_part
abbrev s_law_hand : Stmt := top 15
def m_law_hand : MS := (sSq (sAs 1 (oLc (iSq DK.isQ (eSl fSl (eV 0) pN (pM (eK (D.int (63)))))) (gNm 2) mYes (eCB (f1 fAbs) (mCons true (eCB (f1 fInt) (mCons true (eV 2) mNil)) mNil)) [2])) (sRt (oLs (osC (oE (eV 1)) (osC (oE (eK (D.int (0)))) (osC (oE (eK (D.int (0)))) (osC (oE (eB true fAdd (eK (D.int (1))) (eCB (f1 fLen) (mCons true (eV 1) mNil)))) (osC (oE (eK (D.int (0)))) osN))))))))
def io_law_hand : Nat → Bool := fun j => false
def d_law_hand : Fn := fnD 3 io_law_hand m_law_hand
abbrev s_law_draw : Stmt := top 16
def m_law_draw : MS := (sSq (sIf (tAndM (tB true fEq (eB true fIx (eV 0) (eK (D.int (2)))) (eK (D.int (0)))) (tB true fLt (eB true fIx (eV 0) (eK (D.int (1)))) (eCB (f1 fLen) (mCons true (eB true fIx (eV 0) (eK (D.int (0)))) mNil)))) (sSq (sAs 3 (oE (eB true fIx (eB true fIx (eV 0) (eK (D.int (0)))) (eB true fIx (eV 0) (eK (D.int (1))))))) (sSq (sSub true fSet (eB true fAdd (eB true fIx (eV 0) (eK (D.int (1)))) (eK (D.int (1)))) (eV 0) (eK (D.int (1)))) (sSq (sSub true fSet (eB true fMod (eCB (f1 fInt) (mCons true (eB true fAdd (eB true fAdd (eB true fMul (eB true fIx (eV 0) (eK (D.int (3)))) (eK (D.int (69621)))) (eV 3)) (eK (D.int (11)))) mNil)) (eK (D.int (2147483629)))) (eV 0) (eK (D.int (3)))) (sIf (tB true fGe (eV 3) (eB true fPow (eK (D.int (10))) (eK (D.int (18))))) (sSub true fSet (eV 3) (eV 0) (eK (D.int (2)))) sNx)))) sNx) (sSq (sIf (tB true fGt (eB true fIx (eV 0) (eK (D.int (2)))) (eK (D.int (0)))) (sSq (sAs 4 (oE (eB true fMod (eCB (f1 fInt) (mCons true (eB true fIx (eV 0) (eK (D.int (2)))) mNil)) (eV 1)))) (sSq (sSub true fSet (eB true fDiv (eB true fIx (eV 0) (eK (D.int (2)))) (eV 1)) (eV 0) (eK (D.int (2)))) (sRt (oV 4)))) sNx) (sSq (sSub true fSet (eB true fAdd (eB true fIx (eV 0) (eK (D.int (4)))) (eK (D.int (1)))) (eV 0) (eK (D.int (4)))) (sSq (sAs 2 (oE (eB true fMod (eCB (f1 fInt) (mCons true (eB true fMul (eCB (f1 fInt) (mCons true (eB true fAdd (eB true fIx (eV 0) (eK (D.int (3)))) (eB true fMul (eK (D.int (7919))) (eB true fIx (eV 0) (eK (D.int (4)))))) mNil)) (eK (D.int (48271)))) mNil)) (eK (D.int (2147483647)))))) (sSq (sAs 2 (oE (eB true fMod (eCB (f1 fInt) (mCons true (eB true fMul (eV 2) (eB true fAdd (eB true fDiv (eV 2) (eK (D.int (1009)))) (eK (D.int (69621))))) mNil)) (eK (D.int (2147483647)))))) (sSq (sAs 2 (oE (eB true fMod (eCB (f1 fInt) (mCons true (eB true fMul (eV 2) (eB true fAdd (eB true fDiv (eV 2) (eK (D.int (2003)))) (eK (D.int (40692))))) mNil)) (eK (D.int (2147483399)))))) (sRt (oE (eB true fMod (eCB (f1 fInt) (mCons true (eB true fDiv (eV 2) (eK (D.int (16)))) mNil)) (eV 1))))))))))
def io_law_draw : Nat → Bool := fun j => j == 0
def d_law_draw : Fn := fnD 5 io_law_draw m_law_draw
abbrev s_law_some : Stmt := top 17
def m_law_some : MS := (sRt (oE (eB false fIx (eV 1) (eO (oIO d_law_draw 0 (mCons true (eCB (f1 fLen) (mCons true (eV 1) mNil)) mNil))))))
def io_law_some : Nat → Bool := fun j => j == 0
def d_law_some : Fn := fnD 2 io_law_some m_law_some
abbrev s_law_flag : Stmt := top 18
def m_law_flag : MS := (sRt (oE (eAnd (eIsi .bl (eV 0)) (eB true fEq (eV 0) (eV 1)))))
def io_law_flag : Nat → Bool := fun j => false
def d_law_flag : Fn := fnD 2 io_law_flag m_law_flag
abbrev s_law_deep : Stmt := top 19
def m_law_deep : MS := (sSq (sAs 1 (oE (eK D.non))) (sSq (sFor (iRg1 (eK (D.int (36)))) (gNm 2) (sAs 1 (oE (eIf (tB true fEq (eV 0) (eK (D.int (0)))) (eO (oLs (osC (oE (eV 1)) osN))) (eTup (mCons true (eV 1) mNil)))))) (sRt (oV 1))))
def io_law_deep : Nat → Bool := fun j => false
def d_law_deep : Fn := fnD 3 io_law_deep m_law_deep
abbrev s_law_version : Stmt := top 20
def m_law_version : MS := (sSq (sAs 1 (oIO d_law_draw 0 (mCons true (eK (D.int (16))) mNil))) (sSq (sIf (tB true fEq (eV 1) (eK (D.int (0)))) (sRt (oE (eCB (f1 fTuple) (mCons true (eO (oLc (iRg1 (eK (D.int (3)))) (gNm 3) mYes (eO (oIO d_law_some 0 (mCons true (eO (oLs (osC (oE (eK (D.int (0)))) (osC (oE (eK (D.int (1)))) (osC (oE (eK (D.int (9)))) (osC (oE (eK (D.int (10)))) (osC (oE (eK (D.int (99)))) (osC (oE (eK (D.int (999999)))) (osC (oIO d_law_draw 0 (mCons true (eK (D.int (999999))) mNil)) osN))))))))) mNil))) [3])) mNil)))) sNx) (sSq (sAs 2 (oIO d_law_some 0 (mCons true (eO (oLs (osC (oE (eK (D.int (2)))) (osC (oE (eK (D.int (3)))) (osC (oE (eK (D.int (3)))) (osC (oE (eK (D.int (4)))) osN)))))) mNil))) (sRt (oE (eTup (mCons false (eO (oIO d_law_draw 0 (mCons true (eV 2) mNil))) (mCons false (eO (oIO d_law_draw 0 (mCons true (eV 2) mNil))) (mCons true (eO (oIO d_law_draw 0 (mCons true (eV 2) mNil))) mNil)))))))))
def io_law_version : Nat → Bool := fun j => j == 0
def d_law_version : Fn := fnD 4 io_law_version m_law_version
abbrev s_law_has : Stmt := top 21
def m_law_has : MS := (sSq (sFor (iSq DK.isQ (eV 0)) (gTp 2 (gsC (gNm 2) (gsC (gNm 3) gsN))) (sIf (tAndM (tB true fLe (eV 2) (eV 1)) (tOrM (tB true fIs (eV 3) (eK D.non)) (tB true fLt (eV 1) (eV 3)))) (sRt (oE (eK (D.bl true)))) sNx)) (sRt (oE (eK (D.bl false)))))
def io_law_has : Nat → Bool := fun j => false
def d_law_has : Fn := fnD 4 io_law_has m_law_has
abbrev s_law_marks : Stmt := top 22
def m_law_marks : MS := (sSq (sAs 1 (oLs (osC (oE (eTup (mCons true (eK (D.int (0))) (mCons true (eK (D.int (0))) (mCons true (eK (D.int (0))) mNil))))) osN))) (sSq (sFor (iSq DK.isQ (eV 0)) (gNm 2) (sFor (iSq DK.isQ (eV 2)) (gTp 2 (gsC (gNm 3) (gsC (gNm 4) gsN))) (sEx (eMu "list" false fExt (eV 1) (mCons true (eIf (tB true fIs (eV 4) (eK D.non)) (eO (oLs (osC (oE (eV 3)) osN))) (eO (oLs (osC (oE (eV 3)) (osC (oE (eV 4)) osN))))) mNil))))) (sRt (oE (eU1 fSorSet (eV 1))))))
def io_law_marks : Nat → Bool := fun j => false
def d_law_marks : Fn := fnD 5 io_law_marks m_law_marks
abbrev s_law_made : Stmt := top 23
def m_law_made : MS := (sSq (sAs 2 (oLs osN)) (sSq (sFor (iRg1 (eCB (f1 fLen) (mCons true (eV 0) mNil))) (gNm 3) (sSq (sIf (tAndM (tM (eB true fIx (eV 1) (eV 3))) (tOrM (tB true fEq (eV 3) (eK (D.int (0)))) (tNotM (tM (eB true fIx (eV 1) (eB true fSub (eV 3) (eK (D.int (1))))))))) (sEx (eMu "list" false fApp (eV 2) (mCons true (eTup (mCons true (eB true fIx (eV 0) (eV 3)) (mCons true (eK D.non) mNil))) mNil))) sNx) (sIf (tAndM (tB true fGt (eV 3) (eK (D.int (0)))) (tAndM (tM (eB true fIx (eV 1) (eB true fSub (eV 3) (eK (D.int (1)))))) (tNotM (tM (eB true fIx (eV 1) (eV 3)))))) (sSub true fSet (eTup (mCons true (eB true fIx (eB true fIx (eV 2) (eU1 fNeg (eK (D.int (1))))) (eK (D.int (0)))) (mCons true (eB true fIx (eV 0) (eV 3)) mNil))) (eV 2) (eU1 fNeg (eK (D.int (1))))) sNx))) (sRt (oE (eCB (f1 fTuple) (mCons true (eV 2) mNil))))))
def io_law_made : Nat → Bool := fun j => false
def d_law_made : Fn := fnD 4 io_law_made m_law_made
abbrev s_law_both : Stmt := top 24
def m_law_both : MS := (sSq (sAs 2 (oCall d_law_marks (mCons true (eO (oLs (osC (oE (eV 0)) (osC (oE (eV 1)) osN)))) mNil))) (sRt (oCall d_law_made (mCons false (eV 2) (mCons true (eO (oLc (iSq DK.isQ (eV 2)) (gNm 3) mYes (eAnd (eO (oCall d_law_has (mCons true (eV 0) (mCons true (eV 3) mNil)))) (eO (oCall d_law_has (mCons true (eV 1) (mCons true (eV 3) mNil))))) [3])) mNil)))))
def io_law_both : Nat → Bool := fun j => false
def d_law_both : Fn := fnD 4 io_law_both m_law_both
abbrev s_law_outside : Stmt := top 25
def m_law_outside : MS := (sSq (sAs 1 (oCall d_law_marks (mCons true (eO (oLs (osC (oE (eV 0)) osN))) mNil))) (sRt (oCall d_law_made (mCons false (eV 1) (mCons true (eO (oLc (iSq DK.isQ (eV 1)) (gNm 2) mYes (eNot (eO (oCall d_law_has (mCons true (eV 0) (mCons true (eV 2) mNil))))) [2])) mNil)))))
def io_law_outside : Nat → Bool := fun j => false
def d_law_outside : Fn := fnD 3 io_law_outside m_law_outside
abbrev s_law_range : Stmt := top 26
def m_law_range : MS := (sSq (sAs 1 (oE (eU1 fSorSet (eB false fAdd (eO (oLc (iRg1 (eB false fAdd (eK (D.int (1))) (eO (oIO d_law_draw 0 (mCons true (eK (D.int (5))) mNil))))) (gNm 3) mYes (eO (oIO d_law_version 0 mNil)) [3])) (eO (oLs (osC (oE (eTup (mCons true (eK (D.int (0))) (mCons true (eK (D.int (0))) (mCons true (eK (D.int (0))) mNil))))) osN))))))) (sRt (oCall d_law_made (mCons false (eV 1) (mCons true (eO (oLc (iSq DK.isQ (eV 1)) (gNm 2) mYes (eB true fEq (eO (oIO d_law_draw 0 (mCons true (eK (D.int (2))) mNil))) (eK (D.int (0)))) [2])) mNil)))))
def io_law_range : Nat → Bool := fun j => j == 0
def d_law_range : Fn := fnD 4 io_law_range m_law_range
abbrev s_law_is_whole : Stmt := top 27
def m_law_is_whole : MS := (sRt (oE (eAnd (eIsi .int (eV 0)) (eNot (eIsi .bl (eV 0))))))
def io_law_is_whole : Nat → Bool := fun j => false
def d_law_is_whole : Fn := fnD 1 io_law_is_whole m_law_is_whole
abbrev s_law_is_version : Stmt := top 28
def m_law_is_version : MS := (sSq (sIf (tOrM (tNotM (tM (eIsi .tup (eV 0)))) (tB true fNe (eCB (f1 fLen) (mCons true (eV 0) mNil)) (eK (D.int (3))))) (sRt (oE (eK (D.bl false)))) sNx) (sRt (oE (eCB (f1 fAll) (mCons true (eO (oLc (iSq DK.isQ (eV 0)) (gNm 2) mYes (eAnd (eO (oCall d_law_is_whole (mCons true (eV 2) mNil))) (eCh true true fLe fLe (eK (D.int (0))) (eV 2) (eV 1))) [2])) mNil)))))
def io_law_is_version : Nat → Bool := fun j => false
def d_law_is_version : Fn := fnD 3 io_law_is_version m_law_is_version
abbrev s_law_is_range : Stmt := top 29
def m_law_is_range : MS := (sSq (sIf (tNotM (tM (eIsi .tup (eV 0)))) (sRt (oE (eK (D.bl false)))) sNx) (sSq (sAs 1 (oE (eK D.non))) (sSq (sFor (iEn (eV 0)) (gTp 2 (gsC (gNm 2) (gsC (gNm 3) gsN))) (sSq (sIf (tOrM (tNotM (tM (eIsi .tup (eV 3)))) (tOrM (tB true fNe (eCB (f1 fLen) (mCons true (eV 3) mNil)) (eK (D.int (2)))) (tNotM (tM (eO (oCall d_law_is_version (mCons true (eB true fIx (eV 3) (eK (D.int (0)))) (mCons true (eK (D.int (1000000))) mNil)))))))) (sRt (oE (eK (D.bl false)))) sNx) (sSq (sIf (tAndM (tB true fGt (eV 2) (eK (D.int (0)))) (tOrM (tB true fIs (eV 1) (eK D.non)) (tNotM (tB true fLt (eV 1) (eB true fIx (eV 3) (eK (D.int (0)))))))) (sRt (oE (eK (D.bl false)))) sNx) (sSq (sAs 1 (oE (eB true fIx (eV 3) (eK (D.int (1)))))) (sIf (tAndM (tB true fIsNot (eV 1) (eK D.non)) (tOrM (tNotM (tM (eO (oCall d_law_is_version (mCons true (eV 1) (mCons true (eK (D.int (1000000))) mNil)))))) (tNotM (tB true fLt (eB true fIx (eV 3) (eK (D.int (0)))) (eV 1))))) (sRt (oE (eK (D.bl false)))) sNx))))) (sRt (oE (eK (D.bl true)))))))
def io_law_is_range : Nat → Bool := fun j => false
def d_law_is_range : Fn := fnD 4 io_law_is_range m_law_is_range
abbrev s_law_odd_version : Stmt := top 30
def m_law_odd_version : MS := (sSq (sAs 2 (oLs (osC (oE (eSl fSl (eV 1) pN (pM (eK (D.int (2)))))) (osC (oE (eB false fAdd (eV 1) (eTup (mCons true (eK (D.int (0))) mNil)))) (osC (oE (eCB (f1 fList) (mCons true (eV 1) mNil))) (osC (oE (eTup (mCons true (eK (D.int (0))) (mCons true (eK (D.int (0))) (mCons true (eU1 fNeg (eK (D.int (1)))) mNil))))) (osC (oE (eTup (mCons true (eK (D.int (0))) (mCons true (eK (D.bl true)) (mCons true (eK (D.int (0))) mNil))))) (osC (oE (eTup (mCons true (eK (D.int (0))) (mCons true (eK (D.int (0))) (mCons true (eK (D.int (1000001))) mNil))))) (osC (oE (eTup (mCons true (eK (D.int (0))) (mCons true (eK (D.int (0))) (mCons true (eK (D.int (1000000))) mNil))))) osN))))))))) (sSq (sAs 2 (oE (eB false fAdd (eV 2) (eO (oLs (osC (oE (eK D.non)) (osC (oE (eK (D.str "1.2.3"))) (osC (oE (eTup (mCons true (eK (D.int (0))) (mCons true (eK (D.int (0))) (mCons true (eK (D.str "0")) mNil))))) (osC (oE (eTup mNil)) (osC (oE (eK (D.int (7)))) (osC (oE (eO oDic0)) (osC (oE (eTup (mCons true (eK (D.int (1))) (mCons true (eK D.non) (mCons true (eK (D.int (0))) mNil))))) (osC (oCall d_law_deep (mCons true (eK (D.int (0))) mNil)) (osC (oCall d_law_deep (mCons true (eK (D.int (1))) mNil)) osN)))))))))))))) (sRt (oIO d_law_some 0 (mCons true (eB false fAdd (eV 2) (eO (oLs (osC (oE (eV 1)) (osC (oIO d_law_version 0 mNil) osN))))) mNil)))))
def io_law_odd_version : Nat → Bool := fun j => j == 0
def d_law_odd_version : Fn := fnD 3 io_law_odd_version m_law_odd_version
abbrev s_law_odd_range : Stmt := top 31
def m_law_odd_range : MS := (sSq (sIf (tOrM (tB true fEq (eCB (f1 fLen) (mCons true (eV 1) mNil)) (eK (D.int (0)))) (tB true fEq (eO (oIO d_law_draw 0 (mCons true (eK (D.int (5))) mNil))) (eK (D.int (0))))) (sRt (oIO d_law_some 0 (mCons true (eO (oLs (osC (oE (eK D.non)) (osC (oE (eO (oLs osN))) (osC (oE (eTup (mCons true (eK D.non) mNil))) (osC (oE (eTup (mCons true (eTup (mCons true (eTup (mCons true (eK (D.int (0))) (mCons true (eK (D.int (0))) (mCons true (eK (D.int (0))) mNil)))) mNil)) mNil))) (osC (oE (eK (D.str "*"))) (osC (oE (eK (D.int (0)))) (osC (oE (eO oDic0)) (osC (oE (eV 1)) (osC (oE (eCB (f1 fList) (mCons true (eV 1) mNil))) (osC (oCall d_law_deep (mCons true (eK (D.int (0))) mNil)) (osC (oE (eTup (mCons false (eTup mNil) (mCons true (eTup mNil) mNil)))) osN))))))))))))) mNil))) sNx) (sSq (sAs 2 (oIO d_law_draw 0 (mCons true (eCB (f1 fLen) (mCons true (eV 1) mNil)) mNil))) (sSq (sTg (eB true fIx (eV 1) (eV 2)) (gTp 2 (gsC (gNm 4) (gsC (gNm 5) gsN)))) (sSq (sAs 3 (oLs (osC (oE (eTup (mCons true (eO (oIO d_law_odd_version 0 (mCons true (eV 4) mNil))) (mCons true (eV 5) mNil)))) (osC (oE (eTup (mCons false (eV 4) (mCons true (eO (oIO d_law_odd_version 0 (mCons true (eV 4) mNil))) mNil)))) (osC (oE (eO (oLs (osC (oE (eV 4)) (osC (oE (eV 5)) osN))))) (osC (oE (eTup (mCons true (eV 4) mNil))) (osC (oE (eTup (mCons true (eV 5) (mCons true (eV 4) mNil)))) osN))))))) (sSq (sAs 3 (oE (eB false fAdd (eV 3) (eO (oLs (osC (oE (eTup (mCons true (eV 4) (mCons true (eK D.non) mNil)))) (osC (oE (eTup (mCons true (eV 4) (mCons true (eV 4) mNil)))) (osC (oE (eTup (mCons true (eV 4) (mCons true (eV 5) (mCons true (eK D.non) mNil))))) (osC (oE (eK D.non)) (osC (oE (eV 4)) (osC (oE (eTup (mCons true (eV 4) (mCons true (eV 5) mNil)))) osN))))))))))) (sRt (oIO d_law_some 0 (mCons true (eO (oLs (osC (oE (eB false fAdd (eB false fAdd (eSl fSl (eV 1) pN (pM (eV 2))) (eTup (mCons true (eO (oIO d_law_some 0 (mCons true (eV 3) mNil))) mNil))) (eSl fSl (eV 1) (pM (eB true fAdd (eV 2) (eK (D.int (1))))) pN))) (osC (oE (eU1 fRev (eV 1))) (osC (oE (eB false fAdd (eV 1) (eSl fSl (eV 1) pN (pM (eK (D.int (1))))))) (osC (oE (eSl fSl (eV 1) (pM (eK (D.int (1)))) pN)) osN)))))) mNil))))))))
def io_law_odd_range : Nat → Bool := fun j => j == 0
def d_law_odd_range : Fn := fnD 6 io_law_odd_range m_law_odd_range
abbrev s_law : Stmt := top 32
def m_law : MS := (sSq (sAs 1 (oCall d_law_hand (mCons true (eV 0) mNil))) (sSq (sFor (iRg1 (eK (D.int (12)))) (gNm 2) (sSq (sPar 6 7 (osC (oIO d_law_version 1 mNil) (osC (oIO d_law_range 1 mNil) osN))) (sSq (sIf (tOrM (tNotM (tM (eO (oCall d_law_flag (mCons true (eO (oCall d_is_version (mCons true (eV 6) mNil))) (mCons true (eK (D.bl true)) mNil)))))) (tNotM (tM (eO (oCall d_law_flag (mCons true (eO (oCall d_is_range (mCons true (eV 7) mNil))) (mCons true (eK (D.bl true)) mNil))))))) (sRt (oE (eK (D.bl false)))) sNx) (sSq (sAs 3 (oIO d_law_odd_version 1 (mCons true (eV 6) mNil))) (sSq (sIf (tNotM (tM (eO (oCall d_law_flag (mCons false (eO (oCall d_is_version (mCons true (eV 3) mNil))) (mCons true (eO (oCall d_law_is_version (mCons true (eV 3) (mCons true (eK (D.int (1000000))) mNil)))) mNil)))))) (sRt (oE (eK (D.bl false)))) sNx) (sSq (sAs 3 (oIO d_law_odd_range 1 (mCons true (eV 7) mNil))) (sSq (sIf (tNotM (tM (eO (oCall d_law_flag (mCons false (eO (oCall d_is_range (mCons true (eV 3) mNil))) (mCons true (eO (oCall d_law_is_range (mCons true (eV 3) mNil))) mNil)))))) (sRt (oE (eK (D.bl false)))) sNx) (sSq (sAs 4 (oE (eAnd (eO (oCall d_law_is_range (mCons true (eV 3) mNil))) (eB false fEq (eO (oCall d_law_both (mCons false (eV 7) (mCons true (eO (oCall d_law_outside (mCons true (eV 3) mNil))) mNil)))) (eTup mNil))))) (sSq (sIf (tNotM (tM (eO (oCall d_law_flag (mCons true (eO (oCall d_is_part (mCons true (eV 7) (mCons true (eV 3) mNil)))) (mCons true (eV 4) mNil)))))) (sRt (oE (eK (D.bl false)))) sNx) (sSq (sAs 5 (oE (eIf (tB true fGt (eCB (f1 fLen) (mCons true (eV 7) mNil)) (eK (D.int (0)))) (eB false fAdd (eSl fSl (eV 7) pN (pM (eK (D.int (1))))) (eTup (mCons true (eTup (mCons true (eB true fIx (eB true fIx (eV 7) (eK (D.int (0)))) (eK (D.int (1)))) (mCons true (eK D.non) mNil))) mNil))) (eTup (mCons true (eTup (mCons true (eV 6) (mCons true (eV 6) mNil))) mNil))))) (sIf (tNotM (tM (eO (oCall d_law_flag (mCons false (eO (oCall d_is_range (mCons true (eV 5) mNil))) (mCons true (eO (oCall d_law_is_range (mCons true (eV 5) mNil))) mNil)))))) (sRt (oE (eK (D.bl false)))) sNx))))))))))) (sRt (oE (eK (D.bl true))))))
def io_law : Nat → Bool := fun j => false
def d_law : Fn := fnD 8 io_law m_law
theorem sc_is_integer : FnScope ["thing"] ["thing"] (defScope s_is_integer) := ⟨rfl, rfl, rfl, by decide +kernel, rfl, by decide +kernel, by decide +kernel⟩
theorem ok_is_integer {P : Program} {w : World} {K : PySem.W.Frag} {mg : Str → Option Value} {base : Heap} (F : IsDef K mg "is_integer" s_is_integer) (n_isinstance : mg "isinstance" = none) (n_int : mg "int" = none) (n_bool : mg "bool" = none) : Def P w K mg base 1 "is_integer" 1 d_is_integer :=
  def_ok F sc_is_integer rfl (fun _ _ _ _ _ _ _ us hl => match us, hl with | [_], _ => rfl) fun f cdv A outer s H E hr => (b_one (s_ret (o_of_e (p := true) (c_and (p := true) (q := true) (c_isi (p := true) (t := .int) (c_v 0) (by decide) n_isinstance n_int PyProof.Rows.boot_int) (c_one (c_not (c_isi (p := true) (t := .bl) (c_v 0) (by decide) n_isinstance n_bool PyProof.Rows.boot_bool)))))))
theorem sc_is_within : FnScope ["thing", "least", "most"] ["thing", "least", "most"] (defScope s_is_within) := ⟨rfl, rfl, rfl, by decide +kernel, rfl, by decide +kernel, by decide +kernel⟩
theorem ok_is_within {P : Program} {w : World} {K : PySem.W.Frag} {mg : Str → Option Value} {base : Heap} (F : IsDef K mg "is_within" s_is_within) (h_is_integer : Def P w K mg base 1 "is_integer" 1 d_is_integer) : Def P w K mg base 2 "is_within" 3 d_is_within :=
  def_ok F sc_is_within rfl (fun _ _ _ _ _ _ _ us hl => match us, hl with | [_, _, _], _ => rfl) fun f cdv A outer s H E hr => (b_one (s_ret (o_of_e (p := false) (c_and (p := false) (q := true) (e_of_o (c_call (p := true) h_is_integer hr (a_cons (p := true) (q := true) (c_v 0) a_nil) (ln_cons ln_nil))) (c_one (z_ch (p := true) (q := true) (r := true) (p_le (u0 hr)) (p_le (u0 hr)) (c_v 1) (c_v 0) (c_v 2)))))))
theorem sc_is_version : FnScope ["thing", "number"] ["thing"] (defScope s_is_version) := ⟨rfl, rfl, rfl, by decide +kernel, rfl, by decide +kernel, by decide +kernel⟩
theorem ok_is_version {P : Program} {w : World} {K : PySem.W.Frag} {mg : Str → Option Value} {base : Heap} (F : IsDef K mg "is_version" s_is_version) (h_is_within : Def P w K mg base 2 "is_within" 3 d_is_within) (n_isinstance : mg "isinstance" = none) (n_tuple : mg "tuple" = none) (n_len : mg "len" = none) (n_all : mg "all" = none) (c_GREATEST : IsC K mg "GREATEST" k_GREATEST) : Def P w K mg base 3 "is_version" 1 d_is_version :=
  def_ok F sc_is_version rfl (fun _ _ _ _ _ _ _ us hl => match us, hl with | [_], _ => rfl) fun f cdv A outer s H E hr => (b_one (s_ret (o_of_e (p := false) (c_and (p := true) (q := false) (c_isi (p := true) (t := .tup) (c_v 0) (by decide) n_isinstance n_tuple PyProof.Rows.boot_tuple) (c_and (p := true) (q := false) (z_cmp (p := true) (q := true) (p_eq hr.units) (z_cb (p := true) p_len n_len PySem.boot_len (a_cons (p := true) (q := true) (c_v 0) a_nil)) c_int) (c_one (z_cb (p := false) (p_all rfl) n_all PyProof.Rows.boot_all (a_cons (p := false) (q := true) (e_of_o (o_lc (p := true) (q := false) (js := [1]) (own := [("number", 1)]) rfl sc_is_version.nd (i_seq (p := true) (c_v 0)) (blkOk_by (own := [("number", 1)]) (N := ["thing", "number"]) (sc := defScope s_is_version) (by decide +kernel)) (fun _ _ _ _ _ => (g_nm (i := 1) sc_is_version.nd)) (fun _ _ _ _ _ => (ts_nil (p := true))) (fun _ _ _ _ _ => (e_of_o (c_call (p := true) h_is_within hr (a_cons (p := true) (q := true) (c_v 1) (a_cons (p := true) (q := true) c_int (a_cons (p := true) (q := true) (z_gl c_GREATEST) a_nil))) (ln_cons (ln_cons (ln_cons ln_nil)))))))) a_nil))))))))
theorem sc_is_stretch : FnScope ["thing"] ["thing"] (defScope s_is_stretch) := ⟨rfl, rfl, rfl, by decide +kernel, rfl, by decide +kernel, by decide +kernel⟩
theorem ok_is_stretch {P : Program} {w : World} {K : PySem.W.Frag} {mg : Str → Option Value} {base : Heap} (F : IsDef K mg "is_stretch" s_is_stretch) (h_is_version : Def P w K mg base 3 "is_version" 1 d_is_version) (n_isinstance : mg "isinstance" = none) (n_tuple : mg "tuple" = none) (n_len : mg "len" = none) : Def P w K mg base 4 "is_stretch" 1 d_is_stretch :=
  def_ok F sc_is_stretch rfl (fun _ _ _ _ _ _ _ us hl => match us, hl with | [_], _ => rfl) fun f cdv A outer s H E hr => (b_cons (s_if (p := false) (PW.pt (w_or (p := true) (q := false) (t_not (t_e (p := true) (c_isi (p := true) (t := .tup) (c_v 0) (by decide) n_isinstance n_tuple PyProof.Rows.boot_tuple))) (w_or (p := true) (q := false) (y_cmp (p := true) (q := true) (p_ne hr.units) (z_cb (p := true) p_len n_len PySem.boot_len (a_cons (p := true) (q := true) (c_v 0) a_nil)) c_int) (w_or1 (t_not (t_e (p := false) (e_of_o (c_call (p := true) h_is_version hr (a_cons (p := true) (q := true) (z_ix (p := true) (q := true) (c_v 0) c_int) a_nil) (ln_cons ln_nil))))))))) (b_one (s_ret (o_of_e (p := true) c_bl))) b_nil) (b_one (s_ret (o_of_e (p := false) (c_or (p := true) (q := false) (z_cmp (p := true) (q := true) p_is (z_ix (p := true) (q := true) (c_v 0) c_int) c_non) (c_one (c_and (p := false) (q := true) (e_of_o (c_call (p := true) h_is_version hr (a_cons (p := true) (q := true) (z_ix (p := true) (q := true) (c_v 0) c_int) a_nil) (ln_cons ln_nil))) (c_one (z_cmp (p := true) (q := true) (p_lt (u0 hr)) (z_ix (p := true) (q := true) (c_v 0) c_int) (z_ix (p := true) (q := true) (c_v 0) c_int))))))))))
theorem sc_is_range : FnScope ["thing", "at", "stretch"] ["thing"] (defScope s_is_range) := ⟨rfl, rfl, rfl, by decide +kernel, rfl, by decide +kernel, by decide +kernel⟩
theorem ok_is_range {P : Program} {w : World} {K : PySem.W.Frag} {mg : Str → Option Value} {base : Heap} (F : IsDef K mg "is_range" s_is_range) (h_is_stretch : Def P w K mg base 4 "is_stretch" 1 d_is_stretch) (n_isinstance : mg "isinstance" = none) (n_tuple : mg "tuple" = none) (n_all : mg "all" = none) (n_len : mg "len" = none) (n_range : mg "range" = none) : Def P w K mg base 5 "is_range" 1 d_is_range :=
  def_ok F sc_is_range rfl (fun _ _ _ _ _ _ _ us hl => match us, hl with | [_], _ => rfl) fun f cdv A outer s H E hr => (b_cons (s_if (p := false) (PW.pt (w_or (p := true) (q := false) (t_not (t_e (p := true) (c_isi (p := true) (t := .tup) (c_v 0) (by decide) n_isinstance n_tuple PyProof.Rows.boot_tuple))) (w_or1 (t_not (t_e (p := false) (z_cb (p := false) (p_all rfl) n_all PyProof.Rows.boot_all (a_cons (p := false) (q := true) (e_of_o (o_lc (p := true) (q := false) (js := [2]) (own := [("stretch", 2)]) rfl sc_is_range.nd (i_seq (p := true) (c_v 0)) (blkOk_by (own := [("stretch", 2)]) (N := ["thing", "at", "stretch"]) (sc := defScope s_is_range) (by decide +kernel)) (fun _ _ _ _ _ => (g_nm (i := 2) sc_is_range.nd)) (fun _ _ _ _ _ => (ts_nil (p := true))) (fun _ _ _ _ _ => (e_of_o (c_call (p := true) h_is_stretch hr (a_cons (p := true) (q := true) (c_v 2) a_nil) (ln_cons ln_nil)))))) a_nil))))))) (b_one (s_ret (o_of_e (p := true) c_bl))) b_nil) (b_cons (s_for (js := [1]) PassesOwn.never rfl (i_rg1 (p := true) n_range (z_op (p := true) (q := true) p_sub (z_cb (p := true) p_len n_len PySem.boot_len (a_cons (p := true) (q := true) (c_v 0) a_nil)) c_int)) (g_nm (i := 1) sc_is_range.nd) (b_one (s_if (p := true) (PW.pt (w_or (p := true) (q := true) (y_cmp (p := true) (q := true) p_is (z_ix (p := true) (q := true) (z_ix (p := true) (q := true) (c_v 0) (c_v 1)) c_int) c_non) (w_or1 (t_not (y_cmp (p := true) (q := true) (p_lt (u0 hr)) (z_ix (p := true) (q := true) (z_ix (p := true) (q := true) (c_v 0) (c_v 1)) c_int) (z_ix (p := true) (q := true) (z_ix (p := true) (q := true) (c_v 0) (z_op (p := true) (q := true) p_add (c_v 1) c_int)) c_int)))))) (b_one (s_ret (o_of_e (p := true) c_bl))) b_nil))) (b_one (s_ret (o_of_e (p := true) c_bl)))))
theorem sc_is_below : FnScope ["version", "high"] ["version", "high"] (defScope s_is_below) := ⟨rfl, rfl, rfl, by decide +kernel, rfl, by decide +kernel, by decide +kernel⟩
theorem ok_is_below {P : Program} {w : World} {K : PySem.W.Frag} {mg : Str → Option Value} {base : Heap} (F : IsDef K mg "is_below" s_is_below) : Def P w K mg base 1 "is_below" 2 d_is_below :=
  def_ok F sc_is_below rfl (fun _ _ _ _ _ _ _ us hl => match us, hl with | [_, _], _ => rfl) fun f cdv A outer s H E hr => (b_one (s_ret (o_of_e (p := true) (c_or (p := true) (q := true) (z_cmp (p := true) (q := true) p_is (c_v 1) c_non) (c_one (z_cmp (p := true) (q := true) (p_lt (u0 hr)) (c_v 0) (c_v 1)))))))
theorem sc_lesser_high : FnScope ["one", "other"] ["one", "other"] (defScope s_lesser_high) := ⟨rfl, rfl, rfl, by decide +kernel, rfl, by decide +kernel, by decide +kernel⟩
theorem ok_lesser_high {P : Program} {w : World} {K : PySem.W.Frag} {mg : Str → Option Value} {base : Heap} (F : IsDef K mg "lesser_high" s_lesser_high) : Def P w K mg base 1 "lesser_high" 2 d_lesser_high :=
  def_ok F sc_lesser_high rfl (fun _ _ _ _ _ _ _ us hl => match us, hl with | [_, _], _ => rfl) fun f cdv A outer s H E hr => (b_cons (s_if (p := true) (y_cmp (p := true) (q := true) p_is (c_v 0) c_non) (b_one (s_ret (o_v 1))) b_nil) (b_one (s_ret (o_of_e (p := true) (c_if (p := true) (q := true) (r := true) (PW.pt (w_or (p := true) (q := true) (y_cmp (p := true) (q := true) p_is (c_v 1) c_non) (w_or1 (y_cmp (p := true) (q := true) (p_lt (u0 hr)) (c_v 0) (c_v 1))))) (c_v 0) (c_v 1))))))
theorem sc_both : FnScope ["one", "other", "found", "low", "high", "down", "top", "begin", "end"] ["one", "other"] (defScope s_both) := ⟨rfl, rfl, rfl, by decide +kernel, rfl, by decide +kernel, by decide +kernel⟩
theorem ok_both {P : Program} {w : World} {K : PySem.W.Frag} {mg : Str → Option Value} {base : Heap} (F : IsDef K mg "both" s_both) (h_lesser_high : Def P w K mg base 1 "lesser_high" 2 d_lesser_high) (h_is_below : Def P w K mg base 1 "is_below" 2 d_is_below) (n_max : mg "max" = none) (n_tuple : mg "tuple" = none) : Def P w K mg base 2 "both" 2 d_both :=
  def_ok F sc_both rfl (fun _ _ _ _ _ _ _ us hl => match us, hl with | [_, _], _ => rfl) fun f cdv A outer s H E hr => (b_cons (s_asg (i := 2) sc_both.nd (o_ls os_nil)) (b_cons (s_for (js := [3, 4]) PassesOwn.never rfl (i_seq (p := true) (c_v 0)) (g_tup 2 rfl (g_cons (g_nm (i := 3) sc_both.nd) (g_cons (g_nm (i := 4) sc_both.nd) (g_nil (js := []))))) (b_one (s_for (js := [5, 6]) PassesOwn.never rfl (i_seq (p := true) (c_v 1)) (g_tup 2 rfl (g_cons (g_nm (i := 5) sc_both.nd) (g_cons (g_nm (i := 6) sc_both.nd) (g_nil (js := []))))) (b_cons (s_asg (i := 7) sc_both.nd (o_of_e (p := true) (z_cb (p := true) (p_max rfl (u4 hr)) n_max PyProof.Rows.boot_max (a_cons (p := true) (q := true) (c_v 3) (a_cons (p := true) (q := true) (c_v 5) a_nil))))) (b_cons (s_asg (i := 8) sc_both.nd (c_call (p := true) h_lesser_high hr (a_cons (p := true) (q := true) (c_v 4) (a_cons (p := true) (q := true) (c_v 6) a_nil)) (ln_cons (ln_cons ln_nil)))) (b_one (s_if (p := false) (t_e (p := false) (e_of_o (c_call (p := true) h_is_below hr (a_cons (p := true) (q := true) (c_v 7) (a_cons (p := true) (q := true) (c_v 8) a_nil)) (ln_cons (ln_cons ln_nil))))) (b_one (s_expr (p := false) (c_mu (p := true) (q := false) PySem.F.plainAttrs_list PySem.F.slot_list_append PySem.F.type_list_append mt_append m_app (c_v 2) (a_cons (p := false) (q := true) (c_tup (p := true) (a_cons (p := true) (q := true) (c_v 7) (a_cons (p := true) (q := true) (c_v 8) a_nil))) a_nil)))) b_nil))))))) (b_one (s_ret (o_of_e (p := true) (z_ct (p := true) p_tuple n_tuple PyProof.Rows.boot_tuple (a_cons (p := true) (q := true) (c_v 2) a_nil)))))))
theorem sc_outside : FnScope ["rng", "found", "begin", "low", "high"] ["rng"] (defScope s_outside) := ⟨rfl, rfl, rfl, by decide +kernel, rfl, by decide +kernel, by decide +kernel⟩
theorem ok_outside {P : Program} {w : World} {K : PySem.W.Frag} {mg : Str → Option Value} {base : Heap} (F : IsDef K mg "outside" s_outside) (n_tuple : mg "tuple" = none) (c_LEAST : IsC K mg "LEAST" k_LEAST) : Def P w K mg base 1 "outside" 1 d_outside :=
  def_ok F sc_outside rfl (fun _ _ _ _ _ _ _ us hl => match us, hl with | [_], _ => rfl) fun f cdv A outer s H E hr => (b_cons (s_asg (i := 1) sc_outside.nd (o_ls os_nil)) (b_cons (s_asg (i := 2) sc_outside.nd (o_of_e (p := true) (z_gl c_LEAST))) (b_cons (s_for (js := [3, 4]) PassesOwn.never rfl (i_seq (p := true) (c_v 0)) (g_tup 2 rfl (g_cons (g_nm (i := 3) sc_outside.nd) (g_cons (g_nm (i := 4) sc_outside.nd) (g_nil (js := []))))) (b_cons (s_if (p := true) (PW.pt (w_and (p := true) (q := true) (y_cmp (p := true) (q := true) p_isnot (c_v 2) c_non) (w_and1 (y_cmp (p := true) (q := true) (p_lt (u0 hr)) (c_v 2) (c_v 3))))) (b_one (s_expr (p := false) (c_mu (p := true) (q := false) PySem.F.plainAttrs_list PySem.F.slot_list_append PySem.F.type_list_append mt_append m_app (c_v 1) (a_cons (p := false) (q := true) (c_tup (p := true) (a_cons (p := true) (q := true) (c_v 2) (a_cons (p := true) (q := true) (c_v 3) a_nil))) a_nil)))) b_nil) (b_one (s_asg (i := 2) sc_outside.nd (o_of_e (p := true) (c_v 4)))))) (b_cons (s_if (p := true) (y_cmp (p := true) (q := true) p_isnot (c_v 2) c_non) (b_one (s_expr (p := false) (c_mu (p := true) (q := false) PySem.F.plainAttrs_list PySem.F.slot_list_append PySem.F.type_list_append mt_append m_app (c_v 1) (a_cons (p := false) (q := true) (c_tup (p := true) (a_cons (p := true) (q := true) (c_v 2) (a_cons (p := true) (q := true) c_non a_nil))) a_nil)))) b_nil) (b_one (s_ret (o_of_e (p := true) (z_ct (p := true) p_tuple n_tuple PyProof.Rows.boot_tuple (a_cons (p := true) (q := true) (c_v 1) a_nil)))))))))
theorem sc_is_part : FnScope ["one", "other"] ["one", "other"] (defScope s_is_part) := ⟨rfl, rfl, rfl, by decide +kernel, rfl, by decide +kernel, by decide +kernel⟩
theorem ok_is_part {P : Program} {w : World} {K : PySem.W.Frag} {mg : Str → Option Value} {base : Heap} (F : IsDef K mg "is_part" s_is_part) (h_is_range : Def P w K mg base 5 "is_range" 1 d_is_range) (h_both : Def P w K mg base 2 "both" 2 d_both) (h_outside : Def P w K mg base 1 "outside" 1 d_outside) : Def P w K mg base 6 "is_part" 2 d_is_part :=
  def_ok F sc_is_part rfl (fun _ _ _ _ _ _ _ us hl => match us, hl with | [_, _], _ => rfl) fun f cdv A outer s H E hr => (b_one (s_ret (o_of_e (p := false) (c_and (p := false) (q := false) (e_of_o (c_call (p := true) h_is_range hr (a_cons (p := true) (q := true) (c_v 1) a_nil) (ln_cons ln_nil))) (c_one (z_cmp (p := false) (q := false) (p_eq hr.units) (e_of_o (c_call (p := false) h_both hr (a_cons (p := true) (q := false) (c_v 0) (a_cons (p := false) (q := true) (e_of_o (c_call (p := true) h_outside hr (a_cons (p := true) (q := true) (c_v 1) a_nil) (ln_cons ln_nil))) a_nil)) (ln_cons (ln_cons ln_nil)))) (c_tup (p := true) a_nil)))))))
theorem sc_law_hand : FnScope ["script", "cells", "cell"] ["script"] (defScope s_law_hand) := ⟨rfl, rfl, rfl, by decide +kernel, rfl, by decide +kernel, by decide +kernel⟩
theorem ok_law_hand {P : Program} {w : World} {K : PySem.W.Frag} {mg : Str → Option Value} {base : Heap} (F : IsDef K mg "_law_hand" s_law_hand) (n_int : mg "int" = none) (n_abs : mg "abs" = none) (n_len : mg "len" = none) : Def P w K mg base 1 "_law_hand" 1 d_law_hand :=
  def_ok F sc_law_hand rfl (fun _ _ _ _ _ _ _ us hl => match us, hl with | [_], _ => rfl) fun f cdv A outer s H E hr => (b_cons (s_asgLc (p := true) (q := true) (js := [2]) (own := [("cell", 2)]) (i := 1) rfl sc_law_hand.nd rfl rfl (sw_true rfl rfl rfl (by decide +kernel)) (i_seq (p := false) (z_sl (p := true) (c_v 0) o_none (o_some (p := true) c_int))) (blkOk_by (own := [("cell", 2)]) (N := ["script", "cells", "cell"]) (sc := defScope s_law_hand) (by decide +kernel)) (fun _ _ _ _ _ => (g_nm (i := 2) sc_law_hand.nd)) (fun _ _ _ _ _ => (ts_nil (p := true))) (fun _ _ _ _ _ => (z_cb (p := true) p_abs n_abs PyProof.Rows.boot_abs (a_cons (p := true) (q := true) (z_ct (p := true) p_int n_int PyProof.Rows.boot_int (a_cons (p := true) (q := true) (c_v 2) a_nil)) a_nil)))) (b_one (s_ret (o_ls (os_cons (o_of_e (p := true) (c_v 1)) (os_cons (o_of_e (p := true) c_int) (os_cons (o_of_e (p := true) c_int) (os_cons (o_of_e (p := true) (z_op (p := true) (q := true) p_add c_int (z_cb (p := true) p_len n_len PySem.boot_len (a_cons (p := true) (q := true) (c_v 1) a_nil)))) (os_cons (o_of_e (p := true) c_int) os_nil)))))))))
theorem sc_law_draw : FnScope ["hand", "many", "number", "cell", "digit"] ["hand", "many"] (defScope s_law_draw) := ⟨rfl, rfl, rfl, by decide +kernel, rfl, by decide +kernel, by decide +kernel⟩
theorem ok_law_draw {P : Program} {w : World} {K : PySem.W.Frag} {mg : Str → Option Value} {base : Heap} (F : IsDef K mg "_law_draw" s_law_draw) (n_len : mg "len" = none) (n_int : mg "int" = none) : Def P w K mg base 1 "_law_draw" 2 d_law_draw :=
  def_ok F sc_law_draw rfl (fun _ _ _ _ _ _ _ us hl => match us, hl with | [_, _], _ => rfl) fun f cdv A outer s H E hr => (b_cons (s_if (p := true) (PW.pt (w_and (p := true) (q := true) (y_cmp (p := true) (q := true) (p_eq hr.units) (z_ix (p := true) (q := true) (c_v 0) c_int) c_int) (w_and1 (y_cmp (p := true) (q := true) (p_lt (u0 hr)) (z_ix (p := true) (q := true) (c_v 0) c_int) (z_cb (p := true) p_len n_len PySem.boot_len (a_cons (p := true) (q := true) (z_ix (p := true) (q := true) (c_v 0) c_int) a_nil)))))) (b_cons (s_asg (i := 3) sc_law_draw.nd (o_of_e (p := true) (z_ix (p := true) (q := true) (z_ix (p := true) (q := true) (c_v 0) c_int) (z_ix (p := true) (q := true) (c_v 0) c_int)))) (b_cons (s_sub (r1 := true) (p := true) (q := true) set_list m_set (z_op (p := true) (q := true) p_add (z_ix (p := true) (q := true) (c_v 0) c_int) c_int) (c_v 0) c_int) (b_cons (s_sub (r1 := true) (p := true) (q := true) set_list m_set (z_op (p := true) (q := true) p_mod (z_ct (p := true) p_int n_int PyProof.Rows.boot_int (a_cons (p := true) (q := true) (z_op (p := true) (q := true) p_add (z_op (p := true) (q := true) p_add (z_op (p := true) (q := true) p_mul (z_ix (p := true) (q := true) (c_v 0) c_int) c_int) (c_v 3)) c_int) a_nil)) c_int) (c_v 0) c_int) (b_one (s_if (p := true) (y_cmp (p := true) (q := true) p_ge (c_v 3) (z_op (p := true) (q := true) p_pow c_int c_int)) (b_one (s_sub (r1 := true) (p := true) (q := true) set_list m_set (c_v 3) (c_v 0) c_int)) b_nil))))) b_nil) (b_cons (s_if (p := true) (y_cmp (p := true) (q := true) p_gt (z_ix (p := true) (q := true) (c_v 0) c_int) c_int) (b_cons (s_asg (i := 4) sc_law_draw.nd (o_of_e (p := true) (z_op (p := true) (q := true) p_mod (z_ct (p := true) p_int n_int PyProof.Rows.boot_int (a_cons (p := true) (q := true) (z_ix (p := true) (q := true) (c_v 0) c_int) a_nil)) (c_v 1)))) (b_cons (s_sub (r1 := true) (p := true) (q := true) set_list m_set (z_op (p := true) (q := true) p_div (z_ix (p := true) (q := true) (c_v 0) c_int) (c_v 1)) (c_v 0) c_int) (b_one (s_ret (o_v 4))))) b_nil) (b_cons (s_sub (r1 := true) (p := true) (q := true) set_list m_set (z_op (p := true) (q := true) p_add (z_ix (p := true) (q := true) (c_v 0) c_int) c_int) (c_v 0) c_int) (b_cons (s_asg (i := 2) sc_law_draw.nd (o_of_e (p := true) (z_op (p := true) (q := true) p_mod (z_ct (p := true) p_int n_int PyProof.Rows.boot_int (a_cons (p := true) (q := true) (z_op (p := true) (q := true) p_mul (z_ct (p := true) p_int n_int PyProof.Rows.boot_int (a_cons (p := true) (q := true) (z_op (p := true) (q := true) p_add (z_ix (p := true) (q := true) (c_v 0) c_int) (z_op (p := true) (q := true) p_mul c_int (z_ix (p := true) (q := true) (c_v 0) c_int))) a_nil)) c_int) a_nil)) c_int))) (b_cons (s_asg (i := 2) sc_law_draw.nd (o_of_e (p := true) (z_op (p := true) (q := true) p_mod (z_ct (p := true) p_int n_int PyProof.Rows.boot_int (a_cons (p := true) (q := true) (z_op (p := true) (q := true) p_mul (c_v 2) (z_op (p := true) (q := true) p_add (z_op (p := true) (q := true) p_div (c_v 2) c_int) c_int)) a_nil)) c_int))) (b_cons (s_asg (i := 2) sc_law_draw.nd (o_of_e (p := true) (z_op (p := true) (q := true) p_mod (z_ct (p := true) p_int n_int PyProof.Rows.boot_int (a_cons (p := true) (q := true) (z_op (p := true) (q := true) p_mul (c_v 2) (z_op (p := true) (q := true) p_add (z_op (p := true) (q := true) p_div (c_v 2) c_int) c_int)) a_nil)) c_int))) (b_one (s_ret (o_of_e (p := true) (z_op (p := true) (q := true) p_mod (z_ct (p := true) p_int n_int PyProof.Rows.boot_int (a_cons (p := true) (q := true) (z_op (p := true) (q := true) p_div (c_v 2) c_int) a_nil)) (c_v 1)))))))))))
theorem sc_law_some : FnScope ["hand", "things"] ["hand", "things"] (defScope s_law_some) := ⟨rfl, rfl, rfl, by decide +kernel, rfl, by decide +kernel, by decide +kernel⟩
theorem ok_law_some {P : Program} {w : World} {K : PySem.W.Frag} {mg : Str → Option Value} {base : Heap} (F : IsDef K mg "_law_some" s_law_some) (h_law_draw : Def P w K mg base 1 "_law_draw" 2 d_law_draw) (n_len : mg "len" = none) : Def P w K mg base 2 "_law_some" 2 d_law_some :=
  def_ok F sc_law_some rfl (fun _ _ _ _ _ _ _ us hl => match us, hl with | [_, _], _ => rfl) fun f cdv A outer s H E hr => (b_one (s_ret (o_of_e (p := false) (z_ix (p := true) (q := false) (c_v 1) (e_of_o (c_io (p := true) 0 h_law_draw hr (a_cons (p := true) (q := true) (z_cb (p := true) p_len n_len PySem.boot_len (a_cons (p := true) (q := true) (c_v 1) a_nil)) a_nil) (ln_io (ln_cons ln_nil))))))))
theorem sc_law_flag : FnScope ["told", "due"] ["told", "due"] (defScope s_law_flag) := ⟨rfl, rfl, rfl, by decide +kernel, rfl, by decide +kernel, by decide +kernel⟩
theorem ok_law_flag {P : Program} {w : World} {K : PySem.W.Frag} {mg : Str → Option Value} {base : Heap} (F : IsDef K mg "_law_flag" s_law_flag) (n_isinstance : mg "isinstance" = none) (n_bool : mg "bool" = none) : Def P w K mg base 1 "_law_flag" 2 d_law_flag :=
  def_ok F sc_law_flag rfl (fun _ _ _ _ _ _ _ us hl => match us, hl with | [_, _], _ => rfl) fun f cdv A outer s H E hr => (b_one (s_ret (o_of_e (p := true) (c_and (p := true) (q := true) (c_isi (p := true) (t := .bl) (c_v 0) (by decide) n_isinstance n_bool PyProof.Rows.boot_bool) (c_one (z_cmp (p := true) (q := true) (p_eq hr.units) (c_v 0) (c_v 1)))))))
theorem sc_law_deep : FnScope ["kind", "found", "turn"] ["kind"] (defScope s_law_deep) := ⟨rfl, rfl, rfl, by decide +kernel, rfl, by decide +kernel, by decide +kernel⟩
theorem ok_law_deep {P : Program} {w : World} {K : PySem.W.Frag} {mg : Str → Option Value} {base : Heap} (F : IsDef K mg "_law_deep" s_law_deep) (n_range : mg "range" = none) : Def P w K mg base 1 "_law_deep" 1 d_law_deep :=
  def_ok F sc_law_deep rfl (fun _ _ _ _ _ _ _ us hl => match us, hl with | [_], _ => rfl) fun f cdv A outer s H E hr => (b_cons (s_asg (i := 1) sc_law_deep.nd (o_of_e (p := true) c_non)) (b_cons (s_for (js := [2]) PassesOwn.never rfl (i_rg1 (p := true) n_range c_int) (g_nm (i := 2) sc_law_deep.nd) (b_one (s_asg (i := 1) sc_law_deep.nd (o_of_e (p := false) (c_if (p := true) (q := false) (r := false) (y_cmp (p := true) (q := true) (p_eq hr.units) (c_v 0) c_int) (e_of_o (o_ls (os_cons (o_of_e (p := true) (c_v 1)) os_nil))) (c_tup (p := true) (a_cons (p := true) (q := true) (c_v 1) a_nil))))))) (b_one (s_ret (o_v 1)))))
theorem sc_law_version : FnScope ["hand", "kind", "most", "k"] ["hand"] (defScope s_law_version) := ⟨rfl, rfl, rfl, by decide +kernel, rfl, by decide +kernel, by decide +kernel⟩
theorem ok_law_version {P : Program} {w : World} {K : PySem.W.Frag} {mg : Str → Option Value} {base : Heap} (F : IsDef K mg "_law_version" s_law_version) (h_law_draw : Def P w K mg base 1 "_law_draw" 2 d_law_draw) (h_law_some : Def P w K mg base 2 "_law_some" 2 d_law_some) (n_range : mg "range" = none) (n_tuple : mg "tuple" = none) : Def P w K mg base 3 "_law_version" 1 d_law_version :=
  def_ok F sc_law_version rfl (fun _ _ _ _ _ _ _ us hl => match us, hl with | [_], _ => rfl) fun f cdv A outer s H E hr => (b_cons (s_asg (i := 1) sc_law_version.nd (c_io (p := true) 0 h_law_draw hr (a_cons (p := true) (q := true) c_int a_nil) (ln_io (ln_cons ln_nil)))) (b_cons (s_if (p := true) (y_cmp (p := true) (q := true) (p_eq hr.units) (c_v 1) c_int) (b_one (s_ret (o_of_e (p := false) (z_ct (p := false) p_tuple n_tuple PyProof.Rows.boot_tuple (a_cons (p := false) (q := true) (e_of_o (o_lc (p := true) (q := false) (js := [3]) (own := [("k", 3)]) rfl sc_law_version.nd (i_rg1 (p := true) n_range c_int) (blkOk_by (own := [("k", 3)]) (N := ["hand", "kind", "most", "k"]) (sc := defScope s_law_version) (by decide +kernel)) (fun _ _ _ _ _ => (g_nm (i := 3) sc_law_version.nd)) (fun _ _ _ _ _ => (ts_nil (p := true))) (fun _ _ _ _ _ => (e_of_o (c_io (p := false) 0 h_law_some hr (a_cons (p := false) (q := true) (e_of_o (o_ls (os_cons (o_of_e (p := true) c_int) (os_cons (o_of_e (p := true) c_int) (os_cons (o_of_e (p := true) c_int) (os_cons (o_of_e (p := true) c_int) (os_cons (o_of_e (p := true) c_int) (os_cons (o_of_e (p := true) c_int) (os_cons (c_io (p := true) 0 h_law_draw hr (a_cons (p := true) (q := true) c_int a_nil) (ln_io (ln_cons ln_nil))) os_nil))))))))) a_nil) (ln_io (ln_cons ln_nil))))))) a_nil))))) b_nil) (b_cons (s_asg (i := 2) sc_law_version.nd (c_io (p := false) 0 h_law_some hr (a_cons (p := false) (q := true) (e_of_o (o_ls (os_cons (o_of_e (p := true) c_int) (os_cons (o_of_e (p := true) c_int) (os_cons (o_of_e (p := true) c_int) (os_cons (o_of_e (p := true) c_int) os_nil)))))) a_nil) (ln_io (ln_cons ln_nil)))) (b_one (s_ret (o_of_e (p := false) (c_tup (p := false) (a_cons (p := false) (q := false) (e_of_o (c_io (p := true) 0 h_law_draw hr (a_cons (p := true) (q := true) (c_v 2) a_nil) (ln_io (ln_cons ln_nil)))) (a_cons (p := false) (q := false) (e_of_o (c_io (p := true) 0 h_law_draw hr (a_cons (p := true) (q := true) (c_v 2) a_nil) (ln_io (ln_cons ln_nil)))) (a_cons (p := false) (q := true) (e_of_o (c_io (p := true) 0 h_law_draw hr (a_cons (p := true) (q := true) (c_v 2) a_nil) (ln_io (ln_cons ln_nil)))) a_nil))))))))))
theorem sc_law_has : FnScope ["rng", "version", "low", "high"] ["rng", "version"] (defScope s_law_has) := ⟨rfl, rfl, rfl, by decide +kernel, rfl, by decide +kernel, by decide +kernel⟩
theorem ok_law_has {P : Program} {w : World} {K : PySem.W.Frag} {mg : Str → Option Value} {base : Heap} (F : IsDef K mg "_law_has" s_law_has) : Def P w K mg base 1 "_law_has" 2 d_law_has :=
  def_ok F sc_law_has rfl (fun _ _ _ _ _ _ _ us hl => match us, hl with | [_, _], _ => rfl) fun f cdv A outer s H E hr => (b_cons (s_for (js := [2, 3]) PassesOwn.never rfl (i_seq (p := true) (c_v 0)) (g_tup 2 rfl (g_cons (g_nm (i := 2) sc_law_has.nd) (g_cons (g_nm (i := 3) sc_law_has.nd) (g_nil (js := []))))) (b_one (s_if (p := true) (PW.pt (w_and (p := true) (q := true) (y_cmp (p := true) (q := true) (p_le (u0 hr)) (c_v 2) (c_v 1)) (w_and1 (PW.pt (w_or (p := true) (q := true) (y_cmp (p := true) (q := true) p_is (c_v 3) c_non) (w_or1 (y_cmp (p := true) (q := true) (p_lt (u0 hr)) (c_v 1) (c_v 3)))))))) (b_one (s_ret (o_of_e (p := true) c_bl))) b_nil))) (b_one (s_ret (o_of_e (p := true) c_bl))))
theorem sc_law_marks : FnScope ["ranges", "found", "rng", "low", "high"] ["ranges"] (defScope s_law_marks) := ⟨rfl, rfl, rfl, by decide +kernel, rfl, by decide +kernel, by decide +kernel⟩
theorem ok_law_marks {P : Program} {w : World} {K : PySem.W.Frag} {mg : Str → Option Value} {base : Heap} (F : IsDef K mg "_law_marks" s_law_marks) (n_sorted : mg "sorted" = none) (n_set : mg "set" = none) : Def P w K mg base 1 "_law_marks" 1 d_law_marks :=
  def_ok F sc_law_marks rfl (fun _ _ _ _ _ _ _ us hl => match us, hl with | [_], _ => rfl) fun f cdv A outer s H E hr => (b_cons (s_asg (i := 1) sc_law_marks.nd (o_ls (os_cons (o_of_e (p := false) (c_tup (p := true) (a_cons (p := true) (q := true) c_int (a_cons (p := true) (q := true) c_int (a_cons (p := true) (q := true) c_int a_nil))))) os_nil))) (b_cons (s_for (js := [2]) PassesOwn.never rfl (i_seq (p := true) (c_v 0)) (g_nm (i := 2) sc_law_marks.nd) (b_one (s_for (js := [3, 4]) PassesOwn.never rfl (i_seq (p := true) (c_v 2)) (g_tup 2 rfl (g_cons (g_nm (i := 3) sc_law_marks.nd) (g_cons (g_nm (i := 4) sc_law_marks.nd) (g_nil (js := []))))) (b_one (s_expr (p := false) (c_mu (p := true) (q := false) PySem.F.plainAttrs_list PySem.F.slot_list_extend PySem.F.type_list_extend mt_extend m_ext (c_v 1) (a_cons (p := false) (q := true) (c_if (p := true) (q := false) (r := false) (y_cmp (p := true) (q := true) p_is (c_v 4) c_non) (e_of_o (o_ls (os_cons (o_of_e (p := true) (c_v 3)) os_nil))) (e_of_o (o_ls (os_cons (o_of_e (p := true) (c_v 3)) (os_cons (o_of_e (p := true) (c_v 4)) os_nil))))) a_nil))))))) (b_one (s_ret (o_of_e (p := true) (c_ss (p := true) rfl hr.units (c_v 1) n_sorted n_set))))))
theorem sc_law_made : FnScope ["marks", "flags", "found", "at"] ["marks", "flags"] (defScope s_law_made) := ⟨rfl, rfl, rfl, by decide +kernel, rfl, by decide +kernel, by decide +kernel⟩
theorem ok_law_made {P : Program} {w : World} {K : PySem.W.Frag} {mg : Str → Option Value} {base : Heap} (F : IsDef K mg "_law_made" s_law_made) (n_len : mg "len" = none) (n_range : mg "range" = none) (n_tuple : mg "tuple" = none) : Def P w K mg base 1 "_law_made" 2 d_law_made :=
  def_ok F sc_law_made rfl (fun _ _ _ _ _ _ _ us hl => match us, hl with | [_, _], _ => rfl) fun f cdv A outer s H E hr => (b_cons (s_asg (i := 2) sc_law_made.nd (o_ls os_nil)) (b_cons (s_for (js := [3]) PassesOwn.never rfl (i_rg1 (p := true) n_range (z_cb (p := true) p_len n_len PySem.boot_len (a_cons (p := true) (q := true) (c_v 0) a_nil))) (g_nm (i := 3) sc_law_made.nd) (b_cons (s_if (p := true) (PW.pt (w_and (p := true) (q := true) (t_e (p := true) (z_ix (p := true) (q := true) (c_v 1) (c_v 3))) (w_and1 (PW.pt (w_or (p := true) (q := true) (y_cmp (p := true) (q := true) (p_eq hr.units) (c_v 3) c_int) (w_or1 (t_not (t_e (p := true) (z_ix (p := true) (q := true) (c_v 1) (z_op (p := true) (q := true) p_sub (c_v 3) c_int)))))))))) (b_one (s_expr (p := false) (c_mu (p := true) (q := false) PySem.F.plainAttrs_list PySem.F.slot_list_append PySem.F.type_list_append mt_append m_app (c_v 2) (a_cons (p := false) (q := true) (c_tup (p := true) (a_cons (p := true) (q := true) (z_ix (p := true) (q := true) (c_v 0) (c_v 3)) (a_cons (p := true) (q := true) c_non a_nil))) a_nil)))) b_nil) (b_one (s_if (p := true) (PW.pt (w_and (p := true) (q := true) (y_cmp (p := true) (q := true) p_gt (c_v 3) c_int) (w_and (p := true) (q := true) (t_e (p := true) (z_ix (p := true) (q := true) (c_v 1) (z_op (p := true) (q := true) p_sub (c_v 3) c_int))) (w_and1 (t_not (t_e (p := true) (z_ix (p := true) (q := true) (c_v 1) (c_v 3)))))))) (b_one (s_sub (r1 := false) (p := true) (q := true) set_list m_set (c_tup (p := true) (a_cons (p := true) (q := true) (z_ix (p := true) (q := true) (z_ix (p := true) (q := true) (c_v 2) (z_neg c_int)) c_int) (a_cons (p := true) (q := true) (z_ix (p := true) (q := true) (c_v 0) (c_v 3)) a_nil))) (c_v 2) (z_neg c_int))) b_nil)))) (b_one (s_ret (o_of_e (p := true) (z_ct (p := true) p_tuple n_tuple PyProof.Rows.boot_tuple (a_cons (p := true) (q := true) (c_v 2) a_nil)))))))
theorem sc_law_both : FnScope ["one", "other", "marks", "mark"] ["one", "other"] (defScope s_law_both) := ⟨rfl, rfl, rfl, by decide +kernel, rfl, by decide +kernel, by decide +kernel⟩
theorem ok_law_both {P : Program} {w : World} {K : PySem.W.Frag} {mg : Str → Option Value} {base : Heap} (F : IsDef K mg "_law_both" s_law_both) (h_law_marks : Def P w K mg base 1 "_law_marks" 1 d_law_marks) (h_law_made : Def P w K mg base 1 "_law_made" 2 d_law_made) (h_law_has : Def P w K mg base 1 "_law_has" 2 d_law_has) : Def P w K mg base 2 "_law_both" 2 d_law_both :=
  def_ok F sc_law_both rfl (fun _ _ _ _ _ _ _ us hl => match us, hl with | [_, _], _ => rfl) fun f cdv A outer s H E hr => (b_cons (s_asg (i := 2) sc_law_both.nd (c_call (p := false) h_law_marks hr (a_cons (p := false) (q := true) (e_of_o (o_ls (os_cons (o_of_e (p := true) (c_v 0)) (os_cons (o_of_e (p := true) (c_v 1)) os_nil)))) a_nil) (ln_cons ln_nil))) (b_one (s_ret (c_call (p := false) h_law_made hr (a_cons (p := true) (q := false) (c_v 2) (a_cons (p := false) (q := true) (e_of_o (o_lc (p := true) (q := false) (js := [3]) (own := [("mark", 3)]) rfl sc_law_both.nd (i_seq (p := true) (c_v 2)) (blkOk_by (own := [("mark", 3)]) (N := ["one", "other", "marks", "mark"]) (sc := defScope s_law_both) (by decide +kernel)) (fun _ _ _ _ _ => (g_nm (i := 3) sc_law_both.nd)) (fun _ _ _ _ _ => (ts_nil (p := true))) (fun _ _ _ _ _ => (c_and (p := false) (q := false) (e_of_o (c_call (p := true) h_law_has hr (a_cons (p := true) (q := true) (c_v 0) (a_cons (p := true) (q := true) (c_v 3) a_nil)) (ln_cons (ln_cons ln_nil)))) (c_one (e_of_o (c_call (p := true) h_law_has hr (a_cons (p := true) (q := true) (c_v 1) (a_cons (p := true) (q := true) (c_v 3) a_nil)) (ln_cons (ln_cons ln_nil))))))))) a_nil)) (ln_cons (ln_cons ln_nil))))))
theorem sc_law_outside : FnScope ["rng", "marks", "mark"] ["rng"] (defScope s_law_outside) := ⟨rfl, rfl, rfl, by decide +kernel, rfl, by decide +kernel, by decide +kernel⟩
theorem ok_law_outside {P : Program} {w : World} {K : PySem.W.Frag} {mg : Str → Option Value} {base : Heap} (F : IsDef K mg "_law_outside" s_law_outside) (h_law_marks : Def P w K mg base 1 "_law_marks" 1 d_law_marks) (h_law_made : Def P w K mg base 1 "_law_made" 2 d_law_made) (h_law_has : Def P w K mg base 1 "_law_has" 2 d_law_has) : Def P w K mg base 2 "_law_outside" 1 d_law_outside :=
  def_ok F sc_law_outside rfl (fun _ _ _ _ _ _ _ us hl => match us, hl with | [_], _ => rfl) fun f cdv A outer s H E hr => (b_cons (s_asg (i := 1) sc_law_outside.nd (c_call (p := false) h_law_marks hr (a_cons (p := false) (q := true) (e_of_o (o_ls (os_cons (o_of_e (p := true) (c_v 0)) os_nil))) a_nil) (ln_cons ln_nil))) (b_one (s_ret (c_call (p := false) h_law_made hr (a_cons (p := true) (q := false) (c_v 1) (a_cons (p := false) (q := true) (e_of_o (o_lc (p := true) (q := false) (js := [2]) (own := [("mark", 2)]) rfl sc_law_outside.nd (i_seq (p := true) (c_v 1)) (blkOk_by (own := [("mark", 2)]) (N := ["rng", "marks", "mark"]) (sc := defScope s_law_outside) (by decide +kernel)) (fun _ _ _ _ _ => (g_nm (i := 2) sc_law_outside.nd)) (fun _ _ _ _ _ => (ts_nil (p := true))) (fun _ _ _ _ _ => (c_not (e_of_o (c_call (p := true) h_law_has hr (a_cons (p := true) (q := true) (c_v 0) (a_cons (p := true) (q := true) (c_v 2) a_nil)) (ln_cons (ln_cons ln_nil)))))))) a_nil)) (ln_cons (ln_cons ln_nil))))))
theorem sc_law_range : FnScope ["hand", "marks", "mark", "k"] ["hand"] (defScope s_law_range) := ⟨rfl, rfl, rfl, by decide +kernel, rfl, by decide +kernel, by decide +kernel⟩
theorem ok_law_range {P : Program} {w : World} {K : PySem.W.Frag} {mg : Str → Option Value} {base : Heap} (F : IsDef K mg "_law_range" s_law_range) (h_law_draw : Def P w K mg base 1 "_law_draw" 2 d_law_draw) (h_law_version : Def P w K mg base 3 "_law_version" 1 d_law_version) (h_law_made : Def P w K mg base 1 "_law_made" 2 d_law_made) (n_range : mg "range" = none) (n_sorted : mg "sorted" = none) (n_set : mg "set" = none) : Def P w K mg base 4 "_law_range" 1 d_law_range :=
  def_ok F sc_law_range rfl (fun _ _ _ _ _ _ _ us hl => match us, hl with | [_], _ => rfl) fun f cdv A outer s H E hr => (b_cons (s_asg (i := 1) sc_law_range.nd (o_of_e (p := false) (c_ss (p := false) rfl hr.units (z_op (p := false) (q := false) p_add (e_of_o (o_lc (p := true) (q := false) (js := [3]) (own := [("k", 3)]) rfl sc_law_range.nd (i_rg1 (p := false) n_range (z_op (p := true) (q := false) p_add c_int (e_of_o (c_io (p := true) 0 h_law_draw hr (a_cons (p := true) (q := true) c_int a_nil) (ln_io (ln_cons ln_nil)))))) (blkOk_by (own := [("k", 3)]) (N := ["hand", "marks", "mark", "k"]) (sc := defScope s_law_range) (by decide +kernel)) (fun _ _ _ _ _ => (g_nm (i := 3) sc_law_range.nd)) (fun _ _ _ _ _ => (ts_nil (p := true))) (fun _ _ _ _ _ => (e_of_o (c_io (p := true) 0 h_law_version hr a_nil (ln_io ln_nil)))))) (e_of_o (o_ls (os_cons (o_of_e (p := false) (c_tup (p := true) (a_cons (p := true) (q := true) c_int (a_cons (p := true) (q := true) c_int (a_cons (p := true) (q := true) c_int a_nil))))) os_nil)))) n_sorted n_set))) (b_one (s_ret (c_call (p := false) h_law_made hr (a_cons (p := true) (q := false) (c_v 1) (a_cons (p := false) (q := true) (e_of_o (o_lc (p := true) (q := false) (js := [2]) (own := [("mark", 2)]) rfl sc_law_range.nd (i_seq (p := true) (c_v 1)) (blkOk_by (own := [("mark", 2)]) (N := ["hand", "marks", "mark", "k"]) (sc := defScope s_law_range) (by decide +kernel)) (fun _ _ _ _ _ => (g_nm (i := 2) sc_law_range.nd)) (fun _ _ _ _ _ => (ts_nil (p := true))) (fun _ _ _ _ _ => (z_cmp (p := false) (q := true) (p_eq hr.units) (e_of_o (c_io (p := true) 0 h_law_draw hr (a_cons (p := true) (q := true) c_int a_nil) (ln_io (ln_cons ln_nil)))) c_int)))) a_nil)) (ln_cons (ln_cons ln_nil))))))
theorem sc_law_is_whole : FnScope ["thing"] ["thing"] (defScope s_law_is_whole) := ⟨rfl, rfl, rfl, by decide +kernel, rfl, by decide +kernel, by decide +kernel⟩
theorem ok_law_is_whole {P : Program} {w : World} {K : PySem.W.Frag} {mg : Str → Option Value} {base : Heap} (F : IsDef K mg "_law_is_whole" s_law_is_whole) (n_isinstance : mg "isinstance" = none) (n_int : mg "int" = none) (n_bool : mg "bool" = none) : Def P w K mg base 1 "_law_is_whole" 1 d_law_is_whole :=
  def_ok F sc_law_is_whole rfl (fun _ _ _ _ _ _ _ us hl => match us, hl with | [_], _ => rfl) fun f cdv A outer s H E hr => (b_one (s_ret (o_of_e (p := true) (c_and (p := true) (q := true) (c_isi (p := true) (t := .int) (c_v 0) (by decide) n_isinstance n_int PyProof.Rows.boot_int) (c_one (c_not (c_isi (p := true) (t := .bl) (c_v 0) (by decide) n_isinstance n_bool PyProof.Rows.boot_bool)))))))
theorem sc_law_is_version : FnScope ["thing", "most", "number"] ["thing", "most"] (defScope s_law_is_version) := ⟨rfl, rfl, rfl, by decide +kernel, rfl, by decide +kernel, by decide +kernel⟩
theorem ok_law_is_version {P : Program} {w : World} {K : PySem.W.Frag} {mg : Str → Option Value} {base : Heap} (F : IsDef K mg "_law_is_version" s_law_is_version) (h_law_is_whole : Def P w K mg base 1 "_law_is_whole" 1 d_law_is_whole) (n_isinstance : mg "isinstance" = none) (n_tuple : mg "tuple" = none) (n_len : mg "len" = none) (n_all : mg "all" = none) : Def P w K mg base 2 "_law_is_version" 2 d_law_is_version :=
  def_ok F sc_law_is_version rfl (fun _ _ _ _ _ _ _ us hl => match us, hl with | [_, _], _ => rfl) fun f cdv A outer s H E hr => (b_cons (s_if (p := true) (PW.pt (w_or (p := true) (q := true) (t_not (t_e (p := true) (c_isi (p := true) (t := .tup) (c_v 0) (by decide) n_isinstance n_tuple PyProof.Rows.boot_tuple))) (w_or1 (y_cmp (p := true) (q := true) (p_ne hr.units) (z_cb (p := true) p_len n_len PySem.boot_len (a_cons (p := true) (q := true) (c_v 0) a_nil)) c_int)))) (b_one (s_ret (o_of_e (p := true) c_bl))) b_nil) (b_one (s_ret (o_of_e (p := false) (z_cb (p := false) (p_all rfl) n_all PyProof.Rows.boot_all (a_cons (p := false) (q := true) (e_of_o (o_lc (p := true) (q := false) (js := [2]) (own := [("number", 2)]) rfl sc_law_is_version.nd (i_seq (p := true) (c_v 0)) (blkOk_by (own := [("number", 2)]) (N := ["thing", "most", "number"]) (sc := defScope s_law_is_version) (by decide +kernel)) (fun _ _ _ _ _ => (g_nm (i := 2) sc_law_is_version.nd)) (fun _ _ _ _ _ => (ts_nil (p := true))) (fun _ _ _ _ _ => (c_and (p := false) (q := true) (e_of_o (c_call (p := true) h_law_is_whole hr (a_cons (p := true) (q := true) (c_v 2) a_nil) (ln_cons ln_nil))) (c_one (z_ch (p := true) (q := true) (r := true) (p_le (u0 hr)) (p_le (u0 hr)) c_int (c_v 2) (c_v 1))))))) a_nil))))))
theorem sc_law_is_range : FnScope ["thing", "last", "at", "pair"] ["thing"] (defScope s_law_is_range) := ⟨rfl, rfl, rfl, by decide +kernel, rfl, by decide +kernel, by decide +kernel⟩
theorem ok_law_is_range {P : Program} {w : World} {K : PySem.W.Frag} {mg : Str → Option Value} {base : Heap} (F : IsDef K mg "_law_is_range" s_law_is_range) (h_law_is_version : Def P w K mg base 2 "_law_is_version" 2 d_law_is_version) (n_isinstance : mg "isinstance" = none) (n_tuple : mg "tuple" = none) (n_enumerate : mg "enumerate" = none) (n_len : mg "len" = none) : Def P w K mg base 3 "_law_is_range" 1 d_law_is_range :=
  def_ok F sc_law_is_range rfl (fun _ _ _ _ _ _ _ us hl => match us, hl with | [_], _ => rfl) fun f cdv A outer s H E hr => (b_cons (s_if (p := true) (t_not (t_e (p := true) (c_isi (p := true) (t := .tup) (c_v 0) (by decide) n_isinstance n_tuple PyProof.Rows.boot_tuple))) (b_one (s_ret (o_of_e (p := true) c_bl))) b_nil) (b_cons (s_asg (i := 1) sc_law_is_range.nd (o_of_e (p := true) c_non)) (b_cons (s_for (js := [2, 3]) PassesOwn.never rfl (i_en (p := true) n_enumerate (c_v 0)) (g_tup 2 rfl (g_cons (g_nm (i := 2) sc_law_is_range.nd) (g_cons (g_nm (i := 3) sc_law_is_range.nd) (g_nil (js := []))))) (b_cons (s_if (p := false) (PW.pt (w_or (p := true) (q := false) (t_not (t_e (p := true) (c_isi (p := true) (t := .tup) (c_v 3) (by decide) n_isinstance n_tuple PyProof.Rows.boot_tuple))) (w_or (p := true) (q := false) (y_cmp (p := true) (q := true) (p_ne hr.units) (z_cb (p := true) p_len n_len PySem.boot_len (a_cons (p := true) (q := true) (c_v 3) a_nil)) c_int) (w_or1 (t_not (t_e (p := false) (e_of_o (c_call (p := true) h_law_is_version hr (a_cons (p := true) (q := true) (z_ix (p := true) (q := true) (c_v 3) c_int) (a_cons (p := true) (q := true) c_int a_nil)) (ln_cons (ln_cons ln_nil)))))))))) (b_one (s_ret (o_of_e (p := true) c_bl))) b_nil) (b_cons (s_if (p := true) (PW.pt (w_and (p := true) (q := true) (y_cmp (p := true) (q := true) p_gt (c_v 2) c_int) (w_and1 (PW.pt (w_or (p := true) (q := true) (y_cmp (p := true) (q := true) p_is (c_v 1) c_non) (w_or1 (t_not (y_cmp (p := true) (q := true) (p_lt (u0 hr)) (c_v 1) (z_ix (p := true) (q := true) (c_v 3) c_int))))))))) (b_one (s_ret (o_of_e (p := true) c_bl))) b_nil) (b_cons (s_asg (i := 1) sc_law_is_range.nd (o_of_e (p := true) (z_ix (p := true) (q := true) (c_v 3) c_int))) (b_one (s_if (p := false) (PW.pt (w_and (p := true) (q := false) (y_cmp (p := true) (q := true) p_isnot (c_v 1) c_non) (w_and1 (PW.pt (w_or (p := false) (q := true) (t_not (t_e (p := false) (e_of_o (c_call (p := true) h_law_is_version hr (a_cons (p := true) (q := true) (c_v 1) (a_cons (p := true) (q := true) c_int a_nil)) (ln_cons (ln_cons ln_nil)))))) (w_or1 (t_not (y_cmp (p := true) (q := true) (p_lt (u0 hr)) (z_ix (p := true) (q := true) (c_v 3) c_int) (c_v 1))))))))) (b_one (s_ret (o_of_e (p := true) c_bl))) b_nil)))))) (b_one (s_ret (o_of_e (p := true) c_bl))))))
theorem sc_law_odd_version : FnScope ["hand", "version", "odd"] ["hand", "version"] (defScope s_law_odd_version) := ⟨rfl, rfl, rfl, by decide +kernel, rfl, by decide +kernel, by decide +kernel⟩
theorem ok_law_odd_version {P : Program} {w : World} {K : PySem.W.Frag} {mg : Str → Option Value} {base : Heap} (F : IsDef K mg "_law_odd_version" s_law_odd_version) (h_law_deep : Def P w K mg base 1 "_law_deep" 1 d_law_deep) (h_law_some : Def P w K mg base 2 "_law_some" 2 d_law_some) (h_law_version : Def P w K mg base 3 "_law_version" 1 d_law_version) (n_list : mg "list" = none) : Def P w K mg base 4 "_law_odd_version" 2 d_law_odd_version :=
  def_ok F sc_law_odd_version rfl (fun _ _ _ _ _ _ _ us hl => match us, hl with | [_, _], _ => rfl) fun f cdv A outer s H E hr => (b_cons (s_asg (i := 2) sc_law_odd_version.nd (o_ls (os_cons (o_of_e (p := false) (z_sl (p := true) (c_v 1) o_none (o_some (p := true) c_int))) (os_cons (o_of_e (p := false) (z_op (p := true) (q := false) p_add (c_v 1) (c_tup (p := true) (a_cons (p := true) (q := true) c_int a_nil)))) (os_cons (o_of_e (p := true) (z_ct (p := true) p_list n_list PyProof.Rows.boot_list (a_cons (p := true) (q := true) (c_v 1) a_nil))) (os_cons (o_of_e (p := false) (c_tup (p := true) (a_cons (p := true) (q := true) c_int (a_cons (p := true) (q := true) c_int (a_cons (p := true) (q := true) (z_neg c_int) a_nil))))) (os_cons (o_of_e (p := false) (c_tup (p := true) (a_cons (p := true) (q := true) c_int (a_cons (p := true) (q := true) c_bl (a_cons (p := true) (q := true) c_int a_nil))))) (os_cons (o_of_e (p := false) (c_tup (p := true) (a_cons (p := true) (q := true) c_int (a_cons (p := true) (q := true) c_int (a_cons (p := true) (q := true) c_int a_nil))))) (os_cons (o_of_e (p := false) (c_tup (p := true) (a_cons (p := true) (q := true) c_int (a_cons (p := true) (q := true) c_int (a_cons (p := true) (q := true) c_int a_nil))))) os_nil))))))))) (b_cons (s_asg (i := 2) sc_law_odd_version.nd (o_of_e (p := false) (z_op (p := true) (q := false) p_add (c_v 2) (e_of_o (o_ls (os_cons (o_of_e (p := true) c_non) (os_cons (o_of_e (p := true) c_str) (os_cons (o_of_e (p := false) (c_tup (p := true) (a_cons (p := true) (q := true) c_int (a_cons (p := true) (q := true) c_int (a_cons (p := true) (q := true) c_str a_nil))))) (os_cons (o_of_e (p := false) (c_tup (p := true) a_nil)) (os_cons (o_of_e (p := true) c_int) (os_cons (o_of_e (p := false) (e_of_o o_dic0)) (os_cons (o_of_e (p := false) (c_tup (p := true) (a_cons (p := true) (q := true) c_int (a_cons (p := true) (q := true) c_non (a_cons (p := true) (q := true) c_int a_nil))))) (os_cons (c_call (p := true) h_law_deep hr (a_cons (p := true) (q := true) c_int a_nil) (ln_cons ln_nil)) (os_cons (c_call (p := true) h_law_deep hr (a_cons (p := true) (q := true) c_int a_nil) (ln_cons ln_nil)) os_nil)))))))))))))) (b_one (s_ret (c_io (p := false) 0 h_law_some hr (a_cons (p := false) (q := true) (z_op (p := true) (q := false) p_add (c_v 2) (e_of_o (o_ls (os_cons (o_of_e (p := true) (c_v 1)) (os_cons (c_io (p := true) 0 h_law_version hr a_nil (ln_io ln_nil)) os_nil))))) a_nil) (ln_io (ln_cons ln_nil)))))))
theorem sc_law_odd_range : FnScope ["hand", "rng", "at", "some", "low", "high"] ["hand", "rng"] (defScope s_law_odd_range) := ⟨rfl, rfl, rfl, by decide +kernel, rfl, by decide +kernel, by decide +kernel⟩
theorem ok_law_odd_range {P : Program} {w : World} {K : PySem.W.Frag} {mg : Str → Option Value} {base : Heap} (F : IsDef K mg "_law_odd_range" s_law_odd_range) (h_law_draw : Def P w K mg base 1 "_law_draw" 2 d_law_draw) (h_law_some : Def P w K mg base 2 "_law_some" 2 d_law_some) (h_law_deep : Def P w K mg base 1 "_law_deep" 1 d_law_deep) (h_law_odd_version : Def P w K mg base 4 "_law_odd_version" 2 d_law_odd_version) (n_len : mg "len" = none) (n_list : mg "list" = none) : Def P w K mg base 5 "_law_odd_range" 2 d_law_odd_range :=
  def_ok F sc_law_odd_range rfl (fun _ _ _ _ _ _ _ us hl => match us, hl with | [_, _], _ => rfl) fun f cdv A outer s H E hr => (b_cons (s_if (p := false) (PW.pt (w_or (p := true) (q := false) (y_cmp (p := true) (q := true) (p_eq hr.units) (z_cb (p := true) p_len n_len PySem.boot_len (a_cons (p := true) (q := true) (c_v 1) a_nil)) c_int) (w_or1 (y_cmp (p := false) (q := true) (p_eq hr.units) (e_of_o (c_io (p := true) 0 h_law_draw hr (a_cons (p := true) (q := true) c_int a_nil) (ln_io (ln_cons ln_nil)))) c_int)))) (b_one (s_ret (c_io (p := false) 0 h_law_some hr (a_cons (p := false) (q := true) (e_of_o (o_ls (os_cons (o_of_e (p := true) c_non) (os_cons (o_of_e (p := false) (e_of_o (o_ls os_nil))) (os_cons (o_of_e (p := false) (c_tup (p := true) (a_cons (p := true) (q := true) c_non a_nil))) (os_cons (o_of_e (p := false) (c_tup (p := false) (a_cons (p := false) (q := true) (c_tup (p := false) (a_cons (p := false) (q := true) (c_tup (p := true) (a_cons (p := true) (q := true) c_int (a_cons (p := true) (q := true) c_int (a_cons (p := true) (q := true) c_int a_nil)))) a_nil)) a_nil))) (os_cons (o_of_e (p := true) c_str) (os_cons (o_of_e (p := true) c_int) (os_cons (o_of_e (p := false) (e_of_o o_dic0)) (os_cons (o_of_e (p := true) (c_v 1)) (os_cons (o_of_e (p := true) (z_ct (p := true) p_list n_list PyProof.Rows.boot_list (a_cons (p := true) (q := true) (c_v 1) a_nil))) (os_cons (c_call (p := true) h_law_deep hr (a_cons (p := true) (q := true) c_int a_nil) (ln_cons ln_nil)) (os_cons (o_of_e (p := false) (c_tup (p := false) (a_cons (p := false) (q := false) (c_tup (p := true) a_nil) (a_cons (p := false) (q := true) (c_tup (p := true) a_nil) a_nil)))) os_nil))))))))))))) a_nil) (ln_io (ln_cons ln_nil))))) b_nil) (b_cons (s_asg (i := 2) sc_law_odd_range.nd (c_io (p := true) 0 h_law_draw hr (a_cons (p := true) (q := true) (z_cb (p := true) p_len n_len PySem.boot_len (a_cons (p := true) (q := true) (c_v 1) a_nil)) a_nil) (ln_io (ln_cons ln_nil)))) (b_cons (s_tg (p := true) (js := [4, 5]) (z_ix (p := true) (q := true) (c_v 1) (c_v 2)) (g_tup 2 rfl (g_cons (g_nm (i := 4) sc_law_odd_range.nd) (g_cons (g_nm (i := 5) sc_law_odd_range.nd) (g_nil (js := [])))))) (b_cons (s_asg (i := 3) sc_law_odd_range.nd (o_ls (os_cons (o_of_e (p := false) (c_tup (p := false) (a_cons (p := false) (q := true) (e_of_o (c_io (p := true) 0 h_law_odd_version hr (a_cons (p := true) (q := true) (c_v 4) a_nil) (ln_io (ln_cons ln_nil)))) (a_cons (p := true) (q := true) (c_v 5) a_nil)))) (os_cons (o_of_e (p := false) (c_tup (p := false) (a_cons (p := true) (q := false) (c_v 4) (a_cons (p := false) (q := true) (e_of_o (c_io (p := true) 0 h_law_odd_version hr (a_cons (p := true) (q := true) (c_v 4) a_nil) (ln_io (ln_cons ln_nil)))) a_nil)))) (os_cons (o_of_e (p := false) (e_of_o (o_ls (os_cons (o_of_e (p := true) (c_v 4)) (os_cons (o_of_e (p := true) (c_v 5)) os_nil))))) (os_cons (o_of_e (p := false) (c_tup (p := true) (a_cons (p := true) (q := true) (c_v 4) a_nil))) (os_cons (o_of_e (p := false) (c_tup (p := true) (a_cons (p := true) (q := true) (c_v 5) (a_cons (p := true) (q := true) (c_v 4) a_nil)))) os_nil))))))) (b_cons (s_asg (i := 3) sc_law_odd_range.nd (o_of_e (p := false) (z_op (p := true) (q := false) p_add (c_v 3) (e_of_o (o_ls (os_cons (o_of_e (p := false) (c_tup (p := true) (a_cons (p := true) (q := true) (c_v 4) (a_cons (p := true) (q := true) c_non a_nil)))) (os_cons (o_of_e (p := false) (c_tup (p := true) (a_cons (p := true) (q := true) (c_v 4) (a_cons (p := true) (q := true) (c_v 4) a_nil)))) (os_cons (o_of_e (p := false) (c_tup (p := true) (a_cons (p := true) (q := true) (c_v 4) (a_cons (p := true) (q := true) (c_v 5) (a_cons (p := true) (q := true) c_non a_nil))))) (os_cons (o_of_e (p := true) c_non) (os_cons (o_of_e (p := true) (c_v 4)) (os_cons (o_of_e (p := false) (c_tup (p := true) (a_cons (p := true) (q := true) (c_v 4) (a_cons (p := true) (q := true) (c_v 5) a_nil)))) os_nil))))))))))) (b_one (s_ret (c_io (p := false) 0 h_law_some hr (a_cons (p := false) (q := true) (e_of_o (o_ls (os_cons (o_of_e (p := false) (z_op (p := false) (q := false) p_add (z_op (p := false) (q := false) p_add (z_sl (p := true) (c_v 1) o_none (o_some (p := true) (c_v 2))) (c_tup (p := false) (a_cons (p := false) (q := true) (e_of_o (c_io (p := true) 0 h_law_some hr (a_cons (p := true) (q := true) (c_v 3) a_nil) (ln_io (ln_cons ln_nil)))) a_nil))) (z_sl (p := true) (c_v 1) (o_some (p := true) (z_op (p := true) (q := true) p_add (c_v 2) c_int)) o_none))) (os_cons (o_of_e (p := true) (c_rev (p := true) (c_v 1))) (os_cons (o_of_e (p := false) (z_op (p := true) (q := false) p_add (c_v 1) (z_sl (p := true) (c_v 1) o_none (o_some (p := true) c_int)))) (os_cons (o_of_e (p := false) (z_sl (p := true) (c_v 1) (o_some (p := true) c_int) o_none)) os_nil)))))) a_nil) (ln_io (ln_cons ln_nil))))))))))
theorem sc_law : FnScope ["script", "hand", "turn", "thing", "due", "touch", "version", "rng"] ["script"] (defScope s_law) := ⟨rfl, rfl, rfl, by decide +kernel, rfl, by decide +kernel, by decide +kernel⟩
theorem ok_law {P : Program} {w : World} {K : PySem.W.Frag} {mg : Str → Option Value} {base : Heap} {f : Addr} {fd : FuncData} (F : FunD K "law" "law" (defArgs s_law) (defBody s_law) (defScope s_law) [] [] f fd) (h_law_hand : Def P w K mg base 1 "_law_hand" 1 d_law_hand) (h_law_range : Def P w K mg base 4 "_law_range" 1 d_law_range) (h_law_version : Def P w K mg base 3 "_law_version" 1 d_law_version) (h_law_flag : Def P w K mg base 1 "_law_flag" 2 d_law_flag) (h_is_version : Def P w K mg base 3 "is_version" 1 d_is_version) (h_is_range : Def P w K mg base 5 "is_range" 1 d_is_range) (h_law_odd_version : Def P w K mg base 4 "_law_odd_version" 2 d_law_odd_version) (h_law_is_version : Def P w K mg base 2 "_law_is_version" 2 d_law_is_version) (h_law_odd_range : Def P w K mg base 5 "_law_odd_range" 2 d_law_odd_range) (h_law_is_range : Def P w K mg base 3 "_law_is_range" 1 d_law_is_range) (h_law_both : Def P w K mg base 2 "_law_both" 2 d_law_both) (h_law_outside : Def P w K mg base 2 "_law_outside" 1 d_law_outside) (h_is_part : Def P w K mg base 6 "is_part" 2 d_is_part) (n_range : mg "range" = none) (n_len : mg "len" = none) : FnOk P w K mg base CX0 7 f fd ["script"] (spF K 1 d_law) :=
  def_okF F sc_law rfl fun f cdv A outer s H E hr => (b_cons (s_asg (i := 1) sc_law.nd (c_call (p := true) h_law_hand hr (a_cons (p := true) (q := true) (c_v 0) a_nil) (ln_cons ln_nil))) (b_cons (s_for (js := [2]) PassesOwn.never rfl (i_rg1 (p := true) n_range c_int) (g_nm (i := 2) sc_law.nd) (b_cons (s_par (i := 6) (j := 7) rfl sc_law.nd (os_cons (c_io (p := true) 1 h_law_version hr a_nil (ln_io ln_nil)) (os_cons (c_io (p := true) 1 h_law_range hr a_nil (ln_io ln_nil)) os_nil))) (b_cons (s_if (p := false) (PW.pt (w_or (p := false) (q := false) (t_not (t_e (p := false) (e_of_o (c_call (p := false) h_law_flag hr (a_cons (p := false) (q := true) (e_of_o (c_call (p := true) h_is_version hr (a_cons (p := true) (q := true) (c_v 6) a_nil) (ln_cons ln_nil))) (a_cons (p := true) (q := true) c_bl a_nil)) (ln_cons (ln_cons ln_nil)))))) (w_or1 (t_not (t_e (p := false) (e_of_o (c_call (p := false) h_law_flag hr (a_cons (p := false) (q := true) (e_of_o (c_call (p := true) h_is_range hr (a_cons (p := true) (q := true) (c_v 7) a_nil) (ln_cons ln_nil))) (a_cons (p := true) (q := true) c_bl a_nil)) (ln_cons (ln_cons ln_nil))))))))) (b_one (s_ret (o_of_e (p := true) c_bl))) b_nil) (b_cons (s_asg (i := 3) sc_law.nd (c_io (p := true) 1 h_law_odd_version hr (a_cons (p := true) (q := true) (c_v 6) a_nil) (ln_io (ln_cons ln_nil)))) (b_cons (s_if (p := false) (t_not (t_e (p := false) (e_of_o (c_call (p := false) h_law_flag hr (a_cons (p := false) (q := false) (e_of_o (c_call (p := true) h_is_version hr (a_cons (p := true) (q := true) (c_v 3) a_nil) (ln_cons ln_nil))) (a_cons (p := false) (q := true) (e_of_o (c_call (p := true) h_law_is_version hr (a_cons (p := true) (q := true) (c_v 3) (a_cons (p := true) (q := true) c_int a_nil)) (ln_cons (ln_cons ln_nil)))) a_nil)) (ln_cons (ln_cons ln_nil)))))) (b_one (s_ret (o_of_e (p := true) c_bl))) b_nil) (b_cons (s_asg (i := 3) sc_law.nd (c_io (p := true) 1 h_law_odd_range hr (a_cons (p := true) (q := true) (c_v 7) a_nil) (ln_io (ln_cons ln_nil)))) (b_cons (s_if (p := false) (t_not (t_e (p := false) (e_of_o (c_call (p := false) h_law_flag hr (a_cons (p := false) (q := false) (e_of_o (c_call (p := true) h_is_range hr (a_cons (p := true) (q := true) (c_v 3) a_nil) (ln_cons ln_nil))) (a_cons (p := false) (q := true) (e_of_o (c_call (p := true) h_law_is_range hr (a_cons (p := true) (q := true) (c_v 3) a_nil) (ln_cons ln_nil))) a_nil)) (ln_cons (ln_cons ln_nil)))))) (b_one (s_ret (o_of_e (p := true) c_bl))) b_nil) (b_cons (s_asg (i := 4) sc_law.nd (o_of_e (p := false) (c_and (p := false) (q := false) (e_of_o (c_call (p := true) h_law_is_range hr (a_cons (p := true) (q := true) (c_v 3) a_nil) (ln_cons ln_nil))) (c_one (z_cmp (p := false) (q := false) (p_eq hr.units) (e_of_o (c_call (p := false) h_law_both hr (a_cons (p := true) (q := false) (c_v 7) (a_cons (p := false) (q := true) (e_of_o (c_call (p := true) h_law_outside hr (a_cons (p := true) (q := true) (c_v 3) a_nil) (ln_cons ln_nil))) a_nil)) (ln_cons (ln_cons ln_nil)))) (c_tup (p := true) a_nil)))))) (b_cons (s_if (p := false) (t_not (t_e (p := false) (e_of_o (c_call (p := false) h_law_flag hr (a_cons (p := false) (q := true) (e_of_o (c_call (p := true) h_is_part hr (a_cons (p := true) (q := true) (c_v 7) (a_cons (p := true) (q := true) (c_v 3) a_nil)) (ln_cons (ln_cons ln_nil)))) (a_cons (p := true) (q := true) (c_v 4) a_nil)) (ln_cons (ln_cons ln_nil)))))) (b_one (s_ret (o_of_e (p := true) c_bl))) b_nil) (b_cons (s_asg (i := 5) sc_law.nd (o_of_e (p := false) (c_if (p := true) (q := false) (r := false) (y_cmp (p := true) (q := true) p_gt (z_cb (p := true) p_len n_len PySem.boot_len (a_cons (p := true) (q := true) (c_v 7) a_nil)) c_int) (z_op (p := false) (q := false) p_add (z_sl (p := true) (c_v 7) o_none (o_some (p := true) c_int)) (c_tup (p := false) (a_cons (p := false) (q := true) (c_tup (p := true) (a_cons (p := true) (q := true) (z_ix (p := true) (q := true) (z_ix (p := true) (q := true) (c_v 7) c_int) c_int) (a_cons (p := true) (q := true) c_non a_nil))) a_nil))) (c_tup (p := false) (a_cons (p := false) (q := true) (c_tup (p := true) (a_cons (p := true) (q := true) (c_v 6) (a_cons (p := true) (q := true) (c_v 6) a_nil))) a_nil))))) (b_one (s_if (p := false) (t_not (t_e (p := false) (e_of_o (c_call (p := false) h_law_flag hr (a_cons (p := false) (q := false) (e_of_o (c_call (p := true) h_is_range hr (a_cons (p := true) (q := true) (c_v 5) a_nil) (ln_cons ln_nil))) (a_cons (p := false) (q := true) (e_of_o (c_call (p := true) h_law_is_range hr (a_cons (p := true) (q := true) (c_v 5) a_nil) (ln_cons ln_nil))) a_nil)) (ln_cons (ln_cons ln_nil)))))) (b_one (s_ret (o_of_e (p := true) c_bl))) b_nil)))))))))))) (b_one (s_ret (o_of_e (p := true) c_bl)))))
end K04

end

section
set_option Elab.async false
set_option linter.all false
set_option maxRecDepth 100000
set_option maxHeartbeats 0
namespace K04
open PySem L2 DL
theorem F_law_hand {a0 : T} {Q : T → List T → Prop} (h : W (m_law_hand [some a0, none, none]) (Kfn io_law_hand [a0] Q)) : Fok (d_law_hand [a0]) Q := Fok_fnD h
theorem F_law_draw {a0 a1 : T} {Q : T → List T → Prop} (h : W (m_law_draw [some a0, some a1, none, none, none]) (Kfn io_law_draw [a0, a1] Q)) : Fok (d_law_draw [a0, a1]) Q := Fok_fnD h
theorem F_law_some {a0 a1 : T} {Q : T → List T → Prop} (h : W (m_law_some [some a0, some a1]) (Kfn io_law_some [a0, a1] Q)) : Fok (d_law_some [a0, a1]) Q := Fok_fnD h
theorem F_law_version {a0 : T} {Q : T → List T → Prop} (h : W (m_law_version [some a0, none, none, none]) (Kfn io_law_version [a0] Q)) : Fok (d_law_version [a0]) Q := Fok_fnD h
theorem F_law_made {a0 a1 : T} {Q : T → List T → Prop} (h : W (m_law_made [some a0, some a1, none, none]) (Kfn io_law_made [a0, a1] Q)) : Fok (d_law_made [a0, a1]) Q := Fok_fnD h
theorem F_law_range {a0 : T} {Q : T → List T → Prop} (h : W (m_law_range [some a0, none, none, none]) (Kfn io_law_range [a0] Q)) : Fok (d_law_range [a0]) Q := Fok_fnD h
theorem F_law_flag {a0 a1 : T} {Q : T → List T → Prop} (h : W (m_law_flag [some a0, some a1]) (Kfn io_law_flag [a0, a1] Q)) : Fok (d_law_flag [a0, a1]) Q := Fok_fnD h
theorem F_is_integer {a0 : T} {Q : T → List T → Prop} (h : W (m_is_integer [some a0]) (Kfn io_is_integer [a0] Q)) : Fok (d_is_integer [a0]) Q := Fok_fnD h
theorem F_is_within {a0 a1 a2 : T} {Q : T → List T → Prop} (h : W (m_is_within [some a0, some a1, some a2]) (Kfn io_is_within [a0, a1, a2] Q)) : Fok (d_is_within [a0, a1, a2]) Q := Fok_fnD h
theorem F_is_version {a0 : T} {Q : T → List T → Prop} (h : W (m_is_version [some a0, none]) (Kfn io_is_version [a0] Q)) : Fok (d_is_version [a0]) Q := Fok_fnD h
theorem F_is_stretch {a0 : T} {Q : T → List T → Prop} (h : W (m_is_stretch [some a0]) (Kfn io_is_stretch [a0] Q)) : Fok (d_is_stretch [a0]) Q := Fok_fnD h
theorem F_is_range {a0 : T} {Q : T → List T → Prop} (h : W (m_is_range [some a0, none, none]) (Kfn io_is_range [a0] Q)) : Fok (d_is_range [a0]) Q := Fok_fnD h
theorem F_law_deep {a0 : T} {Q : T → List T → Prop} (h : W (m_law_deep [some a0, none, none]) (Kfn io_law_deep [a0] Q)) : Fok (d_law_deep [a0]) Q := Fok_fnD h
theorem F_law_odd_version {a0 a1 : T} {Q : T → List T → Prop} (h : W (m_law_odd_version [some a0, some a1, none]) (Kfn io_law_odd_version [a0, a1] Q)) : Fok (d_law_odd_version [a0, a1]) Q := Fok_fnD h
theorem F_law_is_whole {a0 : T} {Q : T → List T → Prop} (h : W (m_law_is_whole [some a0]) (Kfn io_law_is_whole [a0] Q)) : Fok (d_law_is_whole [a0]) Q := Fok_fnD h
theorem F_law_is_version {a0 a1 : T} {Q : T → List T → Prop} (h : W (m_law_is_version [some a0, some a1, none]) (Kfn io_law_is_version [a0, a1] Q)) : Fok (d_law_is_version [a0, a1]) Q := Fok_fnD h
theorem F_law_odd_range {a0 a1 : T} {Q : T → List T → Prop} (h : W (m_law_odd_range [some a0, some a1, none, none, none, none]) (Kfn io_law_odd_range [a0, a1] Q)) : Fok (d_law_odd_range [a0, a1]) Q := Fok_fnD h
theorem F_law_is_range {a0 : T} {Q : T → List T → Prop} (h : W (m_law_is_range [some a0, none, none, none]) (Kfn io_law_is_range [a0] Q)) : Fok (d_law_is_range [a0]) Q := Fok_fnD h
theorem F_law_marks {a0 : T} {Q : T → List T → Prop} (h : W (m_law_marks [some a0, none, none, none, none]) (Kfn io_law_marks [a0] Q)) : Fok (d_law_marks [a0]) Q := Fok_fnD h
theorem F_law_has {a0 a1 : T} {Q : T → List T → Prop} (h : W (m_law_has [some a0, some a1, none, none]) (Kfn io_law_has [a0, a1] Q)) : Fok (d_law_has [a0, a1]) Q := Fok_fnD h
theorem F_law_both {a0 a1 : T} {Q : T → List T → Prop} (h : W (m_law_both [some a0, some a1, none, none]) (Kfn io_law_both [a0, a1] Q)) : Fok (d_law_both [a0, a1]) Q := Fok_fnD h
theorem F_law_outside {a0 : T} {Q : T → List T → Prop} (h : W (m_law_outside [some a0, none, none]) (Kfn io_law_outside [a0] Q)) : Fok (d_law_outside [a0]) Q := Fok_fnD h
theorem F_lesser_high {a0 a1 : T} {Q : T → List T → Prop} (h : W (m_lesser_high [some a0, some a1]) (Kfn io_lesser_high [a0, a1] Q)) : Fok (d_lesser_high [a0, a1]) Q := Fok_fnD h
theorem F_is_below {a0 a1 : T} {Q : T → List T → Prop} (h : W (m_is_below [some a0, some a1]) (Kfn io_is_below [a0, a1] Q)) : Fok (d_is_below [a0, a1]) Q := Fok_fnD h
theorem F_both {a0 a1 : T} {Q : T → List T → Prop} (h : W (m_both [some a0, some a1, none, none, none, none, none, none, none]) (Kfn io_both [a0, a1] Q)) : Fok (d_both [a0, a1]) Q := Fok_fnD h
theorem F_outside {a0 : T} {Q : T → List T → Prop} (h : W (m_outside [some a0, none, none, none, none]) (Kfn io_outside [a0] Q)) : Fok (d_outside [a0]) Q := Fok_fnD h
theorem F_is_part {a0 a1 : T} {Q : T → List T → Prop} (h : W (m_is_part [some a0, some a1]) (Kfn io_is_part [a0, a1] Q)) : Fok (d_is_part [a0, a1]) Q := Fok_fnD h
theorem F_law {a0 : T} {Q : T → List T → Prop} (h : W (m_law [some a0, none, none, none, none, none, none, none]) (Kfn io_law [a0] Q)) : Fok (d_law [a0]) Q := Fok_fnD h
end K04

end

section
set_option Elab.async false
set_option linter.all false
set_option maxRecDepth 100000
set_option maxHeartbeats 0
namespace K04
open PySem PySem.Spec PyProof.Rows L2 DL
def hd_fr : List Str := ["isinstance", "int", "bool", "tuple", "len", "all", "range", "max", "abs", "sorted", "set", "enumerate", "list"]
def hd_cs : List (Str × D) := [("GREATEST", k_GREATEST), ("LEAST", k_LEAST)]
def hd_fn : List (Str × Stmt) := [("_law_hand", s_law_hand), ("_law_draw", s_law_draw), ("_law_some", s_law_some), ("_law_version", s_law_version), ("_law_made", s_law_made), ("_law_range", s_law_range), ("_law_flag", s_law_flag), ("is_integer", s_is_integer), ("is_within", s_is_within), ("is_version", s_is_version), ("is_stretch", s_is_stretch), ("is_range", s_is_range), ("_law_deep", s_law_deep), ("_law_odd_version", s_law_odd_version), ("_law_is_whole", s_law_is_whole), ("_law_is_version", s_law_is_version), ("_law_odd_range", s_law_odd_range), ("_law_is_range", s_law_is_range), ("_law_marks", s_law_marks), ("_law_has", s_law_has), ("_law_both", s_law_both), ("_law_outside", s_law_outside), ("lesser_high", s_lesser_high), ("is_below", s_is_below), ("both", s_both), ("outside", s_outside), ("is_part", s_is_part), ("law", s_law)]
abbrev R : PySem.W.OpenRow := PySem.W.OpenLaw.row PySem.Challenge.rw_pinforge_k04_versions_and_ranges_judged
abbrev hk : PySem.W.Hook := hookJ 4 hd_fr hd_cs hd_fn
def ob (s : PySem.W.SharedT) : AlJ := obsJG 4 hd_fr hd_cs hd_fn (HandSHeadRun.getT s)
theorem ob_eq (s : PySem.W.SharedT) : ob s = hk.obs s.abs := obsJG_eq (HandSHeadRun.getT_eq s)
def loose : List Str := (["is_integer", "is_within", "is_version", "is_stretch", "is_range", "is_below", "lesser_high", "both", "outside", "is_part", "_law_hand", "_law_draw", "_law_some", "_law_flag", "_law_deep", "_law_version", "_law_has", "_law_marks", "_law_made", "_law_both", "_law_outside", "_law_range", "_law_is_whole", "_law_is_version", "_law_is_range", "_law_odd_version", "_law_odd_range", "GREATEST", "LEAST"] : List Str)
theorem run (w : World) : HandSHeadRun.RunEq R (PySem.W.view R.prog [32]) hk ob 20000 loose w := by
  intro os
  kernel_rfl
theorem facts {P : Program} {w : World} {K : PySem.W.Frag} {h : Heap} {mg : Str → Option Value} {f : Addr} (X : K.In h) (G : h.Ns mainGlobals mg) (hfa : mg ("law" : Str) = some (.ref f)) (c : SaysJ hd_fr hd_cs hd_fn K) :
    ∃ fd : FuncData, (∀ (s : Shared) (v : Value), BindsTo s fd ⟨[v], []⟩ [("script", v)]) ∧ ∀ base : Heap, K.In base → base.Ns mainGlobals mg → FnOk P w K mg base CX0 7 f fd ["script"] (spF K 1 d_law) := by
  obtain ⟨fd, F, g⟩ := c.fun_ X G 27 (x := "law") (st := s_law) rfl
  cases hfa.symm.trans g
  have b := FunD.bindsA (ps := ["script"]) F fun _ _ _ _ _ _ us hl => match us, hl with | [_], _ => rfl
  refine ⟨fd, fun s v => b s [v] rfl, fun base _ _ => ?_⟩
  have n_isinstance : mg "isinstance" = none := c.free X G 0 rfl
  have n_int : mg "int" = none := c.free X G 1 rfl
  have n_bool : mg "bool" = none := c.free X G 2 rfl
  have n_tuple : mg "tuple" = none := c.free X G 3 rfl
  have n_len : mg "len" = none := c.free X G 4 rfl
  have n_all : mg "all" = none := c.free X G 5 rfl
  have n_range : mg "range" = none := c.free X G 6 rfl
  have n_max : mg "max" = none := c.free X G 7 rfl
  have n_abs : mg "abs" = none := c.free X G 8 rfl
  have n_sorted : mg "sorted" = none := c.free X G 9 rfl
  have n_set : mg "set" = none := c.free X G 10 rfl
  have n_enumerate : mg "enumerate" = none := c.free X G 11 rfl
  have n_list : mg "list" = none := c.free X G 12 rfl
  have c_GREATEST : IsC K mg "GREATEST" k_GREATEST := c.con X G 0 rfl
  have c_LEAST : IsC K mg "LEAST" k_LEAST := c.con X G 1 rfl
  have h_law_hand := ok_law_hand (P := P) (w := w) (base := base) (c.def_ X G 0 (x := "_law_hand") (st := s_law_hand) rfl) n_int n_abs n_len
  have h_law_draw := ok_law_draw (P := P) (w := w) (base := base) (c.def_ X G 1 (x := "_law_draw") (st := s_law_draw) rfl) n_len n_int
  have h_law_some := ok_law_some (P := P) (w := w) (base := base) (c.def_ X G 2 (x := "_law_some") (st := s_law_some) rfl) h_law_draw n_len
  have h_law_version := ok_law_version (P := P) (w := w) (base := base) (c.def_ X G 3 (x := "_law_version") (st := s_law_version) rfl) h_law_draw h_law_some n_range n_tuple
  have h_law_made := ok_law_made (P := P) (w := w) (base := base) (c.def_ X G 4 (x := "_law_made") (st := s_law_made) rfl) n_len n_range n_tuple
  have h_law_range := ok_law_range (P := P) (w := w) (base := base) (c.def_ X G 5 (x := "_law_range") (st := s_law_range) rfl) h_law_draw h_law_version h_law_made n_range n_sorted n_set
  have h_law_flag := ok_law_flag (P := P) (w := w) (base := base) (c.def_ X G 6 (x := "_law_flag") (st := s_law_flag) rfl) n_isinstance n_bool
  have h_is_integer := ok_is_integer (P := P) (w := w) (base := base) (c.def_ X G 7 (x := "is_integer") (st := s_is_integer) rfl) n_isinstance n_int n_bool
  have h_is_within := ok_is_within (P := P) (w := w) (base := base) (c.def_ X G 8 (x := "is_within") (st := s_is_within) rfl) h_is_integer
  have h_is_version := ok_is_version (P := P) (w := w) (base := base) (c.def_ X G 9 (x := "is_version") (st := s_is_version) rfl) h_is_within n_isinstance n_tuple n_len n_all c_GREATEST
  have h_is_stretch := ok_is_stretch (P := P) (w := w) (base := base) (c.def_ X G 10 (x := "is_stretch") (st := s_is_stretch) rfl) h_is_version n_isinstance n_tuple n_len
  have h_is_range := ok_is_range (P := P) (w := w) (base := base) (c.def_ X G 11 (x := "is_range") (st := s_is_range) rfl) h_is_stretch n_isinstance n_tuple n_all n_len n_range
  have h_law_deep := ok_law_deep (P := P) (w := w) (base := base) (c.def_ X G 12 (x := "_law_deep") (st := s_law_deep) rfl) n_range
  have h_law_odd_version := ok_law_odd_version (P := P) (w := w) (base := base) (c.def_ X G 13 (x := "_law_odd_version") (st := s_law_odd_version) rfl) h_law_deep h_law_some h_law_version n_list
  have h_law_is_whole := ok_law_is_whole (P := P) (w := w) (base := base) (c.def_ X G 14 (x := "_law_is_whole") (st := s_law_is_whole) rfl) n_isinstance n_int n_bool
  have h_law_is_version := ok_law_is_version (P := P) (w := w) (base := base) (c.def_ X G 15 (x := "_law_is_version") (st := s_law_is_version) rfl) h_law_is_whole n_isinstance n_tuple n_len n_all
  have h_law_odd_range := ok_law_odd_range (P := P) (w := w) (base := base) (c.def_ X G 16 (x := "_law_odd_range") (st := s_law_odd_range) rfl) h_law_draw h_law_some h_law_deep h_law_odd_version n_len n_list
  have h_law_is_range := ok_law_is_range (P := P) (w := w) (base := base) (c.def_ X G 17 (x := "_law_is_range") (st := s_law_is_range) rfl) h_law_is_version n_isinstance n_tuple n_enumerate n_len
  have h_law_marks := ok_law_marks (P := P) (w := w) (base := base) (c.def_ X G 18 (x := "_law_marks") (st := s_law_marks) rfl) n_sorted n_set
  have h_law_has := ok_law_has (P := P) (w := w) (base := base) (c.def_ X G 19 (x := "_law_has") (st := s_law_has) rfl)
  have h_law_both := ok_law_both (P := P) (w := w) (base := base) (c.def_ X G 20 (x := "_law_both") (st := s_law_both) rfl) h_law_marks h_law_made h_law_has
  have h_law_outside := ok_law_outside (P := P) (w := w) (base := base) (c.def_ X G 21 (x := "_law_outside") (st := s_law_outside) rfl) h_law_marks h_law_made h_law_has
  have h_lesser_high := ok_lesser_high (P := P) (w := w) (base := base) (c.def_ X G 22 (x := "lesser_high") (st := s_lesser_high) rfl)
  have h_is_below := ok_is_below (P := P) (w := w) (base := base) (c.def_ X G 23 (x := "is_below") (st := s_is_below) rfl)
  have h_both := ok_both (P := P) (w := w) (base := base) (c.def_ X G 24 (x := "both") (st := s_both) rfl) h_lesser_high h_is_below n_max n_tuple
  have h_outside := ok_outside (P := P) (w := w) (base := base) (c.def_ X G 25 (x := "outside") (st := s_outside) rfl) n_tuple c_LEAST
  have h_is_part := ok_is_part (P := P) (w := w) (base := base) (c.def_ X G 26 (x := "is_part") (st := s_is_part) rfl) h_is_range h_both h_outside
  exact ok_law F h_law_hand h_law_range h_law_version h_law_flag h_is_version h_is_range h_law_odd_version h_law_is_version h_law_odd_range h_law_is_range h_law_both h_law_outside h_is_part n_range n_len
end K04

end

section
set_option maxHeartbeats 0
set_option maxRecDepth 100000
set_option linter.all false
open PySem L2 DL
local macro_rules | `(tactic| k_call_by "lf" 0) => `(tactic| first
  | (with_reducible exact sh_map)
  | (with_reducible exact sh_5)
  | (with_reducible exact sh_0)
  | (with_reducible exact sh_fz)
  | ((with_reducible apply sh_nd); k_call_by "fz" 0)
  | exact rfl)
local macro_rules | `(tactic| k_call_by "fz" 0) => `(tactic| first
  | (with_reducible exact fzs_n)
  | (with_reducible exact fzs_map _)
  | ((with_reducible apply fzs_c); k_call_by "fz" 0))
local macro_rules | `(tactic| k_call_by "mu" 0) => `(tactic| first
  | exact fSet_0
  | exact fSet_1
  | exact fSet_2
  | exact fSet_3
  | exact fSet_4
  | exact fSet_5
  | exact fSet_6
  | exact fSet_7
  | exact fApp_map (by first | assumption | (simp; done) | (simp; omega))
  | exact fExt_map (by first | assumption | (simp; done) | (simp; omega))
  | exact fApp_ok (by first | assumption | (simp; done) | (simp; omega))
  | exact fExt_ok (by first | assumption | (simp; done) | (simp; omega))
  | assumption
  | exact rfl)
local macro_rules | `(tactic| k_call_by "td" 0) => `(tactic| first
  | (with_reducible exact toDs_n)
  | (with_reducible exact toDs_fz _)
  | ((with_reducible apply toDs_c); k_call_by "td" 0)
  | ((with_reducible apply toDs_nd); k_call_by "td" 0; k_call_by "td" 0)
  | exact rfl)
local macro_rules | `(tactic| k_call_by "tz" 0) => `(tactic| first
  | (with_reducible exact toD_fz)
  | (with_reducible exact toD_map)
  | ((with_reducible apply toD_nd); k_call_by "td" 0)
  | exact rfl)
local macro_rules | `(tactic| k_call_by "call" 0) => `(tactic| fail)
local macro_rules | `(tactic| k_call_by "wA" 0) => `(tactic| first
  | ((with_reducible apply W_eVf); exact rfl)
  | ((with_reducible apply W_eVr); exact rfl)
  | with_reducible apply W_eK
  | with_reducible apply W_eB
  | with_reducible apply W_eCB
  | with_reducible apply W_eO
  | with_reducible apply W_eTup
  | with_reducible apply W_isi
  | with_reducible apply W_isi2
  | with_reducible apply W_eAnd
  | with_reducible apply W_eOr
  | with_reducible apply W_eNot
  | with_reducible apply W_eIf
  | with_reducible apply W_eU1
  | with_reducible apply W_eSl
  | with_reducible apply W_eCh
  | with_reducible apply W_eMu)
local macro_rules | `(tactic| k_call_by "wS" 0) => `(tactic| first
  | with_reducible apply W_sSq
  | with_reducible apply W_sIf
  | with_reducible apply W_sRt
  | with_reducible apply W_sAs
  | with_reducible apply W_sSub
  | with_reducible apply W_sNx
  | with_reducible apply W_sEx
  | with_reducible apply W_sTg
  | with_reducible apply W_sFor
  | with_reducible apply W_sPar
  | with_reducible apply W_sBk
  | with_reducible apply W_sCt
  | with_reducible apply W_sRtN
  | with_reducible apply W_for_n
  | ((with_reducible apply W_sAug); exact rfl))
local macro_rules | `(tactic| k_call_by "wB" 0) => `(tactic| first
  | with_reducible apply W_tB
  | with_reducible apply W_tM
  | with_reducible apply W_tAnd
  | with_reducible apply W_tOr
  | with_reducible apply W_tNt
  | with_reducible apply W_mYes)
local macro_rules | `(tactic| k_call_by "wO" 0) => `(tactic| first
  | with_reducible apply W_oE
  | with_reducible apply W_oCall
  | with_reducible apply W_oLc
  | with_reducible apply W_oLs
  | with_reducible apply W_oDic0
  | ((with_reducible apply W_oV); exact rfl)
  | ((with_reducible apply W_oIO); exact rfl))
local macro_rules | `(tactic| k_call_by "wL" 0) => `(tactic| first
  | with_reducible apply W_mNil
  | with_reducible apply W_mCons)
local macro_rules | `(tactic| k_call_by "wD" 0) => `(tactic| first
  | with_reducible apply W_iSq
  | with_reducible apply W_iRg1
  | with_reducible apply W_iEn)
local macro_rules | `(tactic| k_call_by "wP" 0) => `(tactic| first
  | with_reducible apply W_pN
  | with_reducible apply W_pM)
local macro_rules | `(tactic| k_call_by "wT" 0) => `(tactic| first
  | with_reducible apply W_osN
  | with_reducible apply W_osC)
local macro_rules | `(tactic| k_call_by "wF" 0) => `(tactic| first
  | with_reducible apply FB_add
  | with_reducible apply FB_addI
  | with_reducible apply FB_sub
  | with_reducible apply FB_lt
  | with_reducible apply FB_le
  | with_reducible apply FB_gt
  | with_reducible apply FB_ge
  | with_reducible apply FB_ltT
  | with_reducible apply FB_leT
  | with_reducible apply FB_maxT
  | with_reducible apply FB_abs
  | with_reducible apply FB_int
  | with_reducible apply FB_slT
  | with_reducible apply FB_slL
  | with_reducible apply FB_slLL
  | with_reducible apply FB_rev
  | with_reducible apply FB_neg
  | with_reducible apply FB_der
  | ((with_reducible apply FB_mul); (first | exact cMul_r (by decide) | exact cMul_l (by decide) | exact cMul_fm (by decide) | exact cMul_l (by omega) | exact cMul_r (by omega) | assumption))
  | ((with_reducible apply FB_div); (first | decide | assumption | omega))
  | ((with_reducible apply FB_mod); (first | decide | assumption | omega))
  | ((with_reducible apply FB_pow); (first | exact rfl | decide))
  | ((with_reducible apply FB_eq); (first | exact eqD_ii | exact eqD_bb | assumption))
  | ((with_reducible apply FB_ne); (first | exact eqD_ii | exact eqD_bb | assumption))
  | ((with_reducible apply FB_ix); (first | assumption | exact rfl); exact rfl)
  | ((with_reducible apply FB_len); exact rfl)
  | ((with_reducible apply FB_tuple); exact rfl)
  | ((with_reducible apply FB_list); exact rfl)
  | ((with_reducible apply FB_all); exact rfl; (first | assumption | exact bls_map _ _ | exact rfl))
  | ((with_reducible apply FB_any); exact rfl; (first | assumption | exact bls_map _ _ | exact rfl))
  | ((with_reducible apply FB_catT); (first | decide | assumption | (simp only [List.length_map, List.length_append, List.length_cons, List.length_nil]; omega)))
  | ((with_reducible apply FB_catL); (first | decide | assumption | (simp only [List.length_map, List.length_append, List.length_cons, List.length_nil]; omega)))
  | ((with_reducible apply FB_de0); exact rfl; k_call_by "lf" 0)
  | ((with_reducible apply FB_t); exact rfl)
  | ((with_reducible apply FB_is_y); exact rfl)
  | ((with_reducible apply FB_is_n); exact rfl)
  | ((with_reducible apply FB_isn_y); exact rfl)
  | ((with_reducible apply FB_isn_n); exact rfl)
  | with_reducible apply FB_is
  | with_reducible apply FB_isn)
local macro_rules | `(tactic| k_call_by "wK" 0) => `(tactic| first
  | with_reducible apply KB2_vv
  | ((with_reducible apply KB2_0v); exact rfl; k_call_by "lf" 0)
  | with_reducible apply KtB_
  | with_reducible apply Ksq_nx
  | with_reducible apply Kfrz_v
  | with_reducible apply KC_v
  | with_reducible apply Kder_n
  | with_reducible apply Kder_v
  | with_reducible apply Kset_0
  | with_reducible apply Kset_s
  | with_reducible apply Kput_0
  | with_reducible apply Kput_s
  | with_reducible apply Kif_t
  | with_reducible apply Kif_f
  | with_reducible apply KG_nm
  | with_reducible apply Kfrl_n
  | with_reducible apply Kfrl_c
  | with_reducible apply KeO_f
  | with_reducible apply KeO_m
  | ((with_reducible apply KB2_v0); exact rfl; k_call_by "lf" 0)
  | ((with_reducible apply Kder_0); exact rfl; k_call_by "lf" 0)
  | with_reducible apply KtM_b
  | with_reducible apply KNot_t
  | with_reducible apply KNot_f
  | with_reducible apply KNot_
  | with_reducible apply KtNot_t
  | with_reducible apply KtNot_f
  | with_reducible apply KtNot_
  | with_reducible apply KC_0
  | with_reducible apply Ksq_rt
  | with_reducible apply Ksq_bk
  | with_reducible apply Ksq_ct
  | with_reducible apply KAnd_t
  | with_reducible apply KAnd_f
  | with_reducible apply KOr_t
  | with_reducible apply KOr_f
  | with_reducible apply KU1_v
  | with_reducible apply Kwipe_nil
  | with_reducible apply Kwipe_cons
  | with_reducible apply Krest_nil
  | with_reducible apply Kfn_rt
  | with_reducible apply Kfn_nx
  | with_reducible apply KCall_1
  | with_reducible apply KCall_2
  | with_reducible apply KCall_3
  | with_reducible apply KCall_4
  | with_reducible apply KIO_0
  | with_reducible apply KIO_1
  | with_reducible apply KIO_2
  | with_reducible apply KIO_3
  | with_reducible apply KIO_4
  | with_reducible apply Kts
  | with_reducible apply Ksb
  | with_reducible apply Kdp
  | with_reducible apply KpM_
  | with_reducible apply KSl_v
  | with_reducible apply KtAnd_t
  | with_reducible apply KtAnd_f
  | with_reducible apply KtOr_t
  | with_reducible apply KtOr_f
  | with_reducible apply KCh1_vv
  | with_reducible apply kbl
  | with_reducible apply ib_t
  | with_reducible apply ib_f
  | with_reducible apply KGs_n
  | with_reducible apply KGs_c
  | with_reducible apply Kpar
  | with_reducible apply Kfor_nx
  | with_reducible apply Kfor_ct
  | with_reducible apply Kfor_bk
  | with_reducible apply Kfor_rt
  | with_reducible apply Kinv_nx
  | with_reducible apply Kinv_ct
  | with_reducible apply Kinv_bk
  | with_reducible apply Kinv_rt
  | with_reducible apply KLc_t
  | with_reducible apply KLc_f
  | ((with_reducible apply Kfrz_0); exact rfl; k_call_by "tz" 0)
  | ((with_reducible apply Kout_); exact rfl)
  | ((with_reducible apply Krest_n); exact rfl)
  | ((with_reducible apply Krest_f); exact rfl)
  | ((with_reducible apply Kmut_); exact rfl; k_call_by "mu" 0)
  | ((with_reducible apply KMu_0); exact rfl)
  | ((with_reducible apply KU1_0); exact rfl; k_call_by "lf" 0)
  | ((with_reducible apply KSl_0); exact rfl; k_call_by "lf" 0)
  | ((with_reducible apply KtM_v); exact rfl)
  | ((with_reducible apply KtM_0); exact rfl; k_call_by "lf" 0; exact rfl)
  | ((with_reducible apply KeO_n); k_call_by "td" 0)
  | ((with_reducible apply KeS); (first | exact rfl | assumption))
  | ((with_reducible apply KG_tp); exact rfl)
  | ((with_reducible apply Kseq_); exact rfl)
  | ((with_reducible apply KRg_); (first | decide | omega | (simp only [List.length_map, List.length_append, List.length_cons, List.length_reverse]; omega)))
  | ((with_reducible apply Kisi_y); exact rfl)
  | ((with_reducible apply Kisi_n); exact rfl)
  | ((with_reducible apply KeI2_y); exact rfl)
  | ((with_reducible apply KeI2_n); exact rfl)
  | ((with_reducible apply Kif_y); exact rfl)
  | ((with_reducible apply Kif_n); exact rfl)
  | ((with_reducible apply KtAnd_y); exact rfl)
  | ((with_reducible apply KtAnd_n); exact rfl)
  | ((with_reducible apply KtOr_y); exact rfl)
  | ((with_reducible apply KtOr_n); exact rfl)
  | ((with_reducible apply KAnd_y); exact rfl)
  | ((with_reducible apply KAnd_n); exact rfl)
  | ((with_reducible apply KOr_y); exact rfl)
  | ((with_reducible apply KOr_n); exact rfl)
  | ((with_reducible apply ib_y); exact rfl)
  | ((with_reducible apply ib_n); exact rfl)
  | with_reducible apply Kisi_
  | ((with_reducible apply eq_and); exact rfl)
  | (refine ⟨?_, ?_⟩; first | exact (rfl : decide _ = true) | exact decide_eq_true (by assumption)))
local macro_rules | `(tactic| k_call_by "ev1" 0) => `(tactic| first
  | ((with_reducible show @W DL.Arg _ _); k_call_by "wA" 0)
  | ((with_reducible show @W DL.Fl _ _); k_call_by "wS" 0)
  | ((with_reducible show @W Bool _ _); k_call_by "wB" 0)
  | ((with_reducible show @W (List DL.Arg) _ _); k_call_by "wL" 0)
  | ((with_reducible show @W DL.T _ _); k_call_by "wO" 0)
  | ((with_reducible show @FB _ _ _); k_call_by "wF" 0)
  | ((with_reducible show @W (List DL.D) _ _); k_call_by "wD" 0)
  | ((with_reducible show @W (Option Int) _ _); k_call_by "wP" 0)
  | ((with_reducible show @W (List DL.T) _ _); k_call_by "wT" 0)
  | k_call_by "call" 0
  | k_call_by "wK" 0)
local macro_rules | `(tactic| k_call_by "ev" 0) => `(tactic| repeat k_call_by "ev1" 0)
local macro_rules | `(tactic| k_call_by "sp" 0) => `(tactic| first
  | ((with_reducible apply Kif_s) <;> intro _)
  | ((with_reducible apply KtAnd_s) <;> intro _)
  | ((with_reducible apply KtOr_s) <;> intro _)
  | ((with_reducible apply KAnd_s) <;> intro _)
  | ((with_reducible apply KOr_s) <;> intro _)
  | ((with_reducible apply ib_s) <;> intro _))
local macro_rules | `(tactic| k_call_by "evs" 0) => `(tactic| repeat' (first | k_call_by "ev1" 0 | k_call_by "sp" 0))

section

namespace K04
structure HandOk (t : T) : Prop where
  ex : ∃ (cs : List Int) (i j k l : Int), (∀ c ∈ cs, 0 ≤ c) ∧ 0 ≤ i ∧ 0 ≤ j ∧ t = .nd .lst [.fz (.nd .lst (cs.map .int)), .fz (.int i), .fz (.int j), .fz (.int k), .fz (.int l)]
theorem at_int {cs : List Int} {i : Int} (hi : 0 ≤ i) (hl : i < cs.length) : ∃ c, c ∈ cs ∧ atI (cs.map D.int) i = some (.int c) := by
  have hn : i.toNat < cs.length := by omega
  refine ⟨cs[i.toNat], List.getElem_mem hn, ?_⟩
  have e : (i.toNat : Int) = i := by omega
  have z := atN (xs := cs.map D.int) (n := i.toNat) (x := D.int cs[i.toNat]) (by simp [hn])
  rw [e] at z
  exact z
theorem draw_ok {t : T} {m : Int} {Q : T → List T → Prop} (h : HandOk t) (hm : 1 ≤ m ∧ m < 1073741824) (k : ∀ r t', 0 ≤ r → r < m → HandOk t' → Q (.fz (.int r)) [t', .fz (.int m)]) : Fok (d_law_draw [t, .fz (.int m)]) Q := by
  obtain ⟨cs, i, j, kk, l, hc, hi, hj, rfl⟩ := h.ex
  refine F_law_draw ?_
  unfold m_law_draw
  have m0 : m ≠ 0 := by omega
  have fin : ∀ (x i j kk l : Int), 0 ≤ i → 0 ≤ j → Q (.fz (.int (x.fmod m))) [.nd .lst [.fz (.nd .lst (cs.map .int)), .fz (.int i), .fz (.int j), .fz (.int kk), .fz (.int l)], .fz (.int m)] := fun x i j kk l h1 h2 => k _ _ (Int.fmod_nonneg_of_pos _ (by omega)) (Int.fmod_lt_of_pos _ (by omega)) ⟨cs, i, j, kk, l, hc, h1, h2, rfl⟩
  have dv : ∀ x : Int, 0 ≤ x → 0 ≤ x.fdiv m := fun x hx => Int.fdiv_nonneg hx (by omega)
  by_cases hl : i < cs.length
  · obtain ⟨c, c0, ec⟩ := at_int hi hl
    have c0 := hc c c0
    k_call_by "evs" 0
    all_goals first
      | exact fin _ _ _ _ _ (by omega) (by omega)
      | exact fin _ _ _ _ _ (by omega) (dv _ (by omega))
      | exact fin _ _ _ _ _ (by omega) hj
  · k_call_by "evs" 0
    all_goals first
      | exact fin _ _ _ _ _ (by omega) (by omega)
      | exact fin _ _ _ _ _ (by omega) (dv _ (by omega))
      | exact fin _ _ _ _ _ (by omega) hj
      | (simp only [decide_eq_true_eq, List.length_map] at *; omega)
/-- a list's item -/
theorem some_ok {t : T} {ds : List D} {Q : T → List T → Prop} (h : HandOk t) (hl : 1 ≤ ds.length ∧ ds.length < 1073741824) (k : ∀ d t', d ∈ ds → HandOk t' → Q (.fz d) [t', .fz (.nd .lst ds)]) : Fok (d_law_some [t, .fz (.nd .lst ds)]) Q := by
  have h0 := h
  obtain ⟨cs, i, j, kk, l, hc, hi, hj, rfl⟩ := h.ex
  refine F_law_some ?_
  unfold m_law_some
  k_call_by "ev" 0
  refine draw_ok h0 (by omega) fun r t' h1 h2 ht' => ?_
  have hn : r.toNat < ds.length := by omega
  have z := atN (xs := ds) (n := r.toNat) (x := ds[r.toNat]) (by simp [hn])
  rw [show (r.toNat : Int) = r by omega] at z
  k_call_by "ev" 0
  exact k _ _ (List.getElem_mem hn) ht'
theorem flag_ok {a b : Bool} {Q : T → List T → Prop} (k : Q (.fz (.bl (a == b))) [.fz (.bl a), .fz (.bl b)]) : Fok (d_law_flag [.fz (.bl a), .fz (.bl b)]) Q := by
  refine F_law_flag ?_
  unfold m_law_flag
  k_call_by "ev" 0
  exact k
theorem hand_ok {ns : List Int} {Q : T → List T → Prop} (k : ∀ t ts, HandOk t → Q t ts) : Fok (d_law_hand [script ns]) Q := by
  refine F_law_hand ?_
  unfold m_law_hand script
  k_call_by "ev" 0
  rw [show (63 : Int) = ((63 : Nat) : Int) from rfl, cut_take, ← List.map_take]
  refine lc_fun (fun d => match d with
    | .int i => .int (if i < 0 then -i else i)
    | d => d) (fun ρ => ρ = [some (.fz (.nd .ll (ns.map .int))), none, none]) (fun d ρ hd hr => ?_) rfl fun ρ' hr => ?_
  · subst hr
    obtain ⟨i, _, rfl⟩ := List.mem_map.mp hd
    k_call_by "ev" 0
    rfl
  · subst hr
    have e : ((ns.take 63).map D.int).map (fun d => match d with
      | .int i => .int (if i < 0 then -i else i)
      | d => d) = ((ns.take 63).map fun i => if i < 0 then -i else i).map D.int := by
      rw [List.map_map, List.map_map]
      rfl
    rw [e]
    refine ⟨small_of (by simp; omega), ?_⟩
    k_call_by "ev" 0
    refine k _ _ ⟨_, 0, 0, _, 0, ?_, by omega, by omega, rfl⟩
    intro c hc
    obtain ⟨i, _, rfl⟩ := List.mem_map.mp hc
    split <;> omega
theorem deep_ok {k : Int} {Q : T → List T → Prop} (h : ∀ d, (∀ kk ds, d = .nd kk ds → ds.length ≤ 14) → Q (.fz d) [.fz (.int k)]) : Fok (d_law_deep [.fz (.int k)]) Q := by
  refine F_law_deep ?_
  unfold m_law_deep
  k_call_by "ev" 0
  refine for_inv (fun _ ρ => ∃ d x, (∀ kk ds, d = .nd kk ds → ds.length ≤ 14) ∧ ρ = [some (.fz (.int k)), some (.fz d), x]) (fun e es ρ hI => ?_) (fun ρ hI => ?_) _ ⟨.non, none, (fun _ _ z => nomatch z), rfl⟩
  · obtain ⟨d, x, hd, rfl⟩ := hI
    k_call_by "evs" 0
    · exact ⟨_, _, (fun kk ds z => by cases z; exact Nat.le_of_ble_eq_true rfl), rfl⟩
    · exact ⟨_, _, (fun kk ds z => by cases z; exact Nat.le_of_ble_eq_true rfl), rfl⟩
  · obtain ⟨d, x, hd, rfl⟩ := hI
    k_call_by "ev" 0
    exact h d hd
end K04

end
section

namespace K04
/-! what is a version, a stretch, a range -/
def isW : D → Bool
  | .int _ => true
  | _ => false
def wthn (a b : Int) : D → Bool
  | .int i => decide (a ≤ i) && decide (i ≤ b)
  | _ => false
def isV (m : Int) : D → Bool
  | .nd .tup ds => decide ((ds.length : Int) = 3) && ds.all (wthn 0 m)
  | _ => false
theorem is_integer_ok {d : D} {Q : T → List T → Prop} (k : Q (.fz (.bl (isW d))) [.fz d]) : Fok (d_is_integer [.fz d]) Q := by
  refine F_is_integer ?_
  unfold m_is_integer
  cases d with
  | nd kk ds => cases kk <;> (k_call_by "ev" 0; exact k)
  | _ => k_call_by "ev" 0; exact k
theorem law_is_whole_ok {d : D} {Q : T → List T → Prop} (k : Q (.fz (.bl (isW d))) [.fz d]) : Fok (d_law_is_whole [.fz d]) Q := is_integer_ok k
local macro_rules | `(tactic| k_call_by "call" 0) => `(tactic| first
  | with_reducible apply is_integer_ok
  | with_reducible apply law_is_whole_ok)
theorem is_within_ok {d : D} {a b : Int} {Q : T → List T → Prop} (k : Q (.fz (.bl (wthn a b d))) [.fz d, .fz (.int a), .fz (.int b)]) : Fok (d_is_within [.fz d, .fz (.int a), .fz (.int b)]) Q := by
  refine F_is_within ?_
  unfold m_is_within
  cases d with
  | int i =>
    k_call_by "ev" 0
    k_call_by "evs" 0
    all_goals simp_all [wthn]
  | _ => k_call_by "ev" 0; exact k
local macro_rules | `(tactic| k_call_by "call" 0) => `(tactic| with_reducible apply is_within_ok)
theorem is_version_ok {d : D} {Q : T → List T → Prop} (k : Q (.fz (.bl (isV 1000000 d))) [.fz d]) : Fok (d_is_version [.fz d]) Q := by
  refine F_is_version ?_
  unfold m_is_version k_GREATEST
  cases d with
  | nd kk ds =>
    cases kk with
    | tup =>
      k_call_by "evs" 0
      · rename_i h
        have hl := of_decide_eq_true h
        refine lc_fun (fun d => .bl (wthn 0 1000000 d)) (fun ρ => ρ = [some (.fz (.nd .tup ds)), none]) (fun d ρ hd hr => ?_) rfl fun ρ' hr => ?_
        · subst hr
          k_call_by "ev" 0
          rfl
        · subst hr
          refine ⟨small_of (by rw [List.length_map]; omega), ?_⟩
          k_call_by "ev" 0
          have e : isV 1000000 (.nd .tup ds) = (ds.map (wthn 0 1000000)).all id := by
            show (decide ((ds.length : Int) = 3) && _) = _
            rw [h, List.all_map, Bool.true_and]
            rfl
          rw [← e]
          exact k
      · rename_i h
        have e : isV 1000000 (.nd .tup ds) = false := by
          show (decide ((ds.length : Int) = 3) && _) = _
          rw [h, Bool.false_and]
        rw [e] at k
        exact k
    | _ => k_call_by "ev" 0; exact k
  | _ => k_call_by "ev" 0; exact k
theorem law_is_version_ok {d : D} {m : Int} {Q : T → List T → Prop} (k : Q (.fz (.bl (isV m d))) [.fz d, .fz (.int m)]) : Fok (d_law_is_version [.fz d, .fz (.int m)]) Q := by
  refine F_law_is_version ?_
  unfold m_law_is_version
  cases d with
  | nd kk ds =>
    cases kk with
    | tup =>
      k_call_by "ev" 0
      by_cases hl : (ds.length : Int) = 3
      · rw [decide_eq_true hl]
        k_call_by "ev" 0
        refine lc_fun (fun d => .bl (wthn 0 m d)) (fun ρ => ρ = [some (.fz (.nd .tup ds)), some (.fz (.int m)), none]) (fun d ρ hd hr => ?_) rfl fun ρ' hr => ?_
        · subst hr
          cases d with
          | int i =>
            k_call_by "ev" 0
            k_call_by "evs" 0
            all_goals first
              | (simp_all [wthn, Kwipe, wipeR]; done)
              | (simp_all [wthn, Kwipe, wipeR]; intro _; omega)
          | _ => k_call_by "ev" 0; rfl
        · subst hr
          refine ⟨small_of (by rw [List.length_map]; omega), ?_⟩
          k_call_by "ev" 0
          have e : isV m (.nd .tup ds) = (ds.map (wthn 0 m)).all id := by
            show (decide ((ds.length : Int) = 3) && _) = _
            rw [decide_eq_true hl, List.all_map, Bool.true_and]
            rfl
          rw [← e]
          exact k
      · rw [decide_eq_false hl]
        k_call_by "ev" 0
        have e : isV m (.nd .tup ds) = false := by
          show (decide ((ds.length : Int) = 3) && _) = _
          rw [decide_eq_false hl, Bool.false_and]
        rw [e] at k
        exact k
    | _ => k_call_by "ev" 0; exact k
  | _ => k_call_by "ev" 0; exact k
local macro_rules | `(tactic| k_call_by "call" 0) => `(tactic| first
  | with_reducible apply is_version_ok
  | with_reducible apply law_is_version_ok)
/-! stretches, ranges -/
def vals : D → List Int
  | .nd _ ds => ds.map fun d => match d with
    | .int i => i
    | _ => 0
  | _ => []
abbrev vD (v : List Int) : D := .nd .tup (v.map .int)
theorem vals_vD (v : List Int) : vals (vD v) = v := by
  show (v.map D.int).map _ = v
  rw [List.map_map]
  exact List.map_id v
theorem wthn_int {m : Int} : ∀ {ds : List D}, ds.all (wthn 0 m) = true → ds = (ds.map fun d => match d with
    | .int i => i
    | _ => 0).map .int
  | [], _ => rfl
  | d :: ds, h => by
    obtain ⟨h1, h2⟩ := Bool.and_eq_true_iff.mp (show (wthn 0 m d && ds.all (wthn 0 m)) = true from h)
    cases d with
    | int i => exact congrArg (D.int i :: ·) (wthn_int h2)
    | _ => cases h1
theorem isV_vD {m : Int} {d : D} (h : isV m d = true) : d = vD (vals d) := by
  cases d with
  | nd kk ds => cases kk with
    | tup =>
      have h2 := (Bool.and_eq_true_iff.mp (show (decide ((ds.length : Int) = 3) && ds.all (wthn 0 m)) = true from h)).2
      show D.nd .tup ds = .nd .tup ((ds.map _).map _)
      congr 1
      exact wthn_int h2
    | _ => cases h
  | _ => cases h
def ltD (a b : D) : Bool := HT.lexLt (vals a) (vals b)
theorem FB_ltV {m n : Int} {a b : D} {Q : D → Prop} (ha : isV m a = true) (hb : isV n b = true) (h : Q (.bl (ltD a b))) : FB (fLt a b) Q := by
  have e : FB (fLt (vD (vals a)) (vD (vals b))) Q := FB_ltT h
  rwa [← isV_vD ha, ← isV_vD hb] at e
def isS : D → Bool
  | .nd .tup [a, b] => isV 1000000 a && (isN b || (isV 1000000 b && ltD a b))
  | _ => false
theorem is_stretch_ok {d : D} {Q : T → List T → Prop} (k : Q (.fz (.bl (isS d))) [.fz d]) : Fok (d_is_stretch [.fz d]) Q := by
  refine F_is_stretch ?_
  unfold m_is_stretch
  cases d with
  | nd kk ds =>
    cases kk with
    | tup =>
      match ds, k with
      | [a, b], k =>
        k_call_by "ev" 0
        cases ha : isV 1000000 a with
        | false =>
          k_call_by "ev" 0
          have e : isS (.nd .tup [a, b]) = false := by
            show (isV 1000000 a && _) = _
            rw [ha, Bool.false_and]
          rw [e] at k
          exact k
        | true =>
          k_call_by "ev" 0
          cases hn : isN b with
          | true =>
            k_call_by "ev" 0
            have e : isS (.nd .tup [a, b]) = true := by
              show (isV 1000000 a && (isN b || _)) = _
              rw [ha, hn, Bool.true_or, Bool.true_and]
            rw [e] at k
            exact k
          | false =>
            have e : isS (.nd .tup [a, b]) = (isV 1000000 b && ltD a b) := by
              show (isV 1000000 a && (isN b || _)) = _
              rw [ha, hn, Bool.false_or, Bool.true_and]
            k_call_by "ev" 0
            cases hb : isV 1000000 b with
            | false =>
              k_call_by "ev" 0
              rw [e, hb, Bool.false_and] at k
              exact k
            | true =>
              k_call_by "ev" 0
              refine FB_ltV ha hb ?_
              k_call_by "ev" 0
              rw [e, hb, Bool.true_and] at k
              exact k
      | [], k => k_call_by "ev" 0; exact k
      | [a], k => k_call_by "ev" 0; exact k
      | a :: b :: c :: r, k => k_call_by "ev" 0; exact k
    | _ => k_call_by "ev" 0; exact k
  | _ => k_call_by "ev" 0; exact k
local macro_rules | `(tactic| k_call_by "call" 0) => `(tactic| with_reducible apply is_stretch_ok)
/-- the last end, the stretches -/
def okE (l h : D) : Bool := !isN l && ltD l h
def sLo : D → D
  | .nd .tup [a, _] => a
  | _ => .non
def sHi : D → D
  | .nd .tup [_, b] => b
  | _ => .non
def adj : List D → Bool
  | s :: t :: ds => okE (sHi s) (sLo t) && adj (t :: ds)
  | _ => true
def isR : D → Bool
  | .nd .tup ds => ds.all isS && adj ds
  | _ => false
theorem isS_2 {d : D} (h : isS d = true) : ∃ a b, d = .nd .tup [a, b] ∧ isV 1000000 a = true ∧ (isN b = true ∨ isN b = false ∧ isV 1000000 b = true ∧ ltD a b = true) := by
  cases d with
  | nd kk ds => cases kk with
    | tup =>
      match ds, h with
      | [a, b], h =>
        obtain ⟨h1, h2⟩ := Bool.and_eq_true_iff.mp (show (isV 1000000 a && (isN b || (isV 1000000 b && ltD a b))) = true from h)
        refine ⟨a, b, rfl, h1, ?_⟩
        cases hn : isN b with
        | true => exact .inl rfl
        | false =>
          rw [hn, Bool.false_or] at h2
          exact .inr ⟨rfl, Bool.and_eq_true_iff.mp h2⟩
    | _ => cases h
  | _ => cases h
theorem adj_at : ∀ {ds : List D}, adj ds = true ↔ ∀ i s t, ds[i]? = some s → ds[i + 1]? = some t → okE (sHi s) (sLo t) = true
  | [] => by simp [adj]
  | [s] => by simp [adj]
  | s :: t :: ds => by
    show (okE (sHi s) (sLo t) && adj (t :: ds)) = true ↔ _
    rw [Bool.and_eq_true_iff, adj_at (ds := t :: ds)]
    constructor
    · rintro ⟨h1, h2⟩ i s' t' e1 e2
      cases i with
      | zero =>
        simp at e1 e2
        subst e1 e2
        exact h1
      | succ i => exact h2 i s' t' (by simpa using e1) (by simpa using e2)
    · intro h
      exact ⟨h 0 s t rfl rfl, fun i s' t' e1 e2 => h (i + 1) s' t' (by simpa using e1) (by simpa using e2)⟩
theorem is_range_ok {d : D} {Q : T → List T → Prop} (hl : ∀ kk ds, d = .nd kk ds → ds.length ≤ 100000) (k : Q (.fz (.bl (isR d))) [.fz d]) : Fok (d_is_range [.fz d]) Q := by
  refine F_is_range ?_
  unfold m_is_range
  cases d with
  | nd kk ds =>
    have hl := hl _ _ rfl
    cases kk with
    | tup =>
      k_call_by "ev" 0
      refine lc_fun (fun d => .bl (isS d)) (fun ρ => ρ = [some (.fz (.nd .tup ds)), none, none]) (fun d ρ hd hr => ?_) rfl fun ρ' hr => ?_
      · subst hr
        k_call_by "ev" 0
        rfl
      · subst hr
        refine ⟨small_of (by rw [List.length_map]; omega), ?_⟩
        k_call_by "ev" 0
        have ea : (ds.map isS).all id = ds.all isS := by rw [List.all_map]; rfl
        rw [ea]
        have e : isR (.nd .tup ds) = (ds.all isS && adj ds) := rfl
        cases hs : ds.all isS with
        | false =>
          k_call_by "ev" 0
          rw [e, hs, Bool.false_and] at k
          exact k
        | true =>
          rw [e, hs, Bool.true_and] at k
          k_call_by "ev" 0
          refine for_rng (fun n ρ => (∃ x, ρ = [some (.fz (.nd .tup ds)), x, none]) ∧ ∀ i, i < n → ∀ s t, ds[i]? = some s → ds[i + 1]? = some t → okE (sHi s) (sLo t) = true) (fun i ρ hi hI => ?_) (fun ρ hI => ?_) ⟨⟨_, rfl⟩, fun i z => absurd z (Nat.not_lt_zero i)⟩
          · obtain ⟨⟨x, rfl⟩, hI⟩ := hI
            have h1 : i + 1 < ds.length := by omega
            have e1 : ds[i]? = some ds[i] := by simp [show i < ds.length by omega]
            have e2 : ds[i + 1]? = some ds[i + 1] := by simp [h1]
            obtain ⟨a, b, es, ha, hb⟩ := isS_2 (List.all_eq_true.mp hs ds[i] (List.getElem_mem _))
            obtain ⟨a', b', et, ha', hb'⟩ := isS_2 (List.all_eq_true.mp hs ds[i + 1] (List.getElem_mem _))
            rw [es] at e1
            rw [et] at e2
            have f1 := atN e1
            have f2 := atI_1 e2
            k_call_by "ev" 0
            have bad : okE b a' = false → Q (.fz (.bl false)) [.fz (.nd .tup ds)] := fun z => by
              have z2 : adj ds = false := by
                cases q : adj ds with
                | false => rfl
                | true =>
                  have := adj_at.mp q i _ _ e1 e2
                  rw [show okE (sHi (.nd .tup [a, b])) (sLo (.nd .tup [a', b'])) = okE b a' from rfl, z] at this
                  cases this
              rw [z2] at k
              exact k
            have good : okE b a' = true → ∀ j, j < i + 1 → ∀ s t, ds[j]? = some s → ds[j + 1]? = some t → okE (sHi s) (sLo t) = true := fun z j hj s t q1 q2 => by
              by_cases hji : j = i
              · subst hji
                rw [e1] at q1
                rw [e2] at q2
                cases q1
                cases q2
                exact z
              · exact hI j (by omega) s t q1 q2
            rcases hb with hn | ⟨hn, hb, _⟩
            · rw [hn]
              k_call_by "ev" 0
              exact bad (by unfold okE; rw [hn]; rfl)
            · rw [hn]
              k_call_by "ev" 0
              refine FB_ltV hb ha' ?_
              k_call_by "ev" 0
              cases z : ltD b a' with
              | false =>
                k_call_by "ev" 0
                exact bad (by unfold okE; rw [z, Bool.and_false])
              | true =>
                k_call_by "ev" 0
                exact ⟨⟨_, rfl⟩, good (by unfold okE; rw [z, hn]; rfl)⟩
          · obtain ⟨⟨x, rfl⟩, hI⟩ := hI
            k_call_by "ev" 0
            have z : adj ds = true := adj_at.mpr fun i s t e1 e2 => hI i (by
              rcases List.getElem?_eq_some_iff.mp e2 with ⟨h, _⟩
              omega) s t e1 e2
            rw [z] at k
            exact k
    | _ => k_call_by "ev" 0; exact k
  | _ => k_call_by "ev" 0; exact k
/-- one after another, as the law does it -/
def chk : Option D → List D → Bool
  | _, [] => true
  | l, s :: ds => isS s && ((match l with
    | none => true
    | some h => okE h (sLo s)) && chk (some (sHi s)) ds)
theorem chk_c (l : Option D) (s : D) (ds : List D) : chk l (s :: ds) = (isS s && ((match l with
    | none => true
    | some h => okE h (sLo s)) && chk (some (sHi s)) ds)) := by
  simp only [chk]
theorem chk_ok : ∀ (ds : List D) (l : Option D), chk l ds = (ds.all isS && (adj ds && match l, ds with
    | some h, s :: _ => okE h (sLo s)
    | _, _ => true))
  | [], l => by cases l <;> rfl
  | [s], l => by
    cases l <;> simp [chk, adj]
  | s :: t :: ds, l => by
    rw [chk_c, chk_ok (t :: ds) (some (sHi s))]
    cases l with
    | none =>
      simp only [List.all_cons, adj]
      cases isS s <;> cases isS t <;> cases ds.all isS <;> cases adj (t :: ds) <;> cases okE (sHi s) (sLo t) <;> rfl
    | some h =>
      simp only [List.all_cons, adj]
      cases isS s <;> cases isS t <;> cases ds.all isS <;> cases adj (t :: ds) <;> cases okE (sHi s) (sLo t) <;> cases okE h (sLo s) <;> rfl
theorem law_is_range_ok {d : D} {Q : T → List T → Prop} (k : Q (.fz (.bl (isR d))) [.fz d]) : Fok (d_law_is_range [.fz d]) Q := by
  refine F_law_is_range ?_
  unfold m_law_is_range
  cases d with
  | nd kk ds =>
    cases kk with
    | tup =>
      k_call_by "ev" 0
      have e0 : isR (.nd .tup ds) = chk none ds := by
        rw [chk_ok]
        simp [isR]
      rw [e0] at k
      refine for_enum (fun n ρ => (∃ l x y, ρ = [some (.fz (.nd .tup ds)), some (.fz l), x, y] ∧ chk none ds = chk (if n = 0 then none else some l) (ds.drop n) ∧ (n ≠ 0 → isN l = false → isV 1000000 l = true))) (fun i d ρ hi hI => ?_) (fun ρ hI => ?_) ⟨.non, none, none, rfl, rfl, fun z => absurd rfl z⟩
      · obtain ⟨l, x, y, rfl, e, hlv⟩ := hI
        have hlt : i < ds.length := (List.getElem?_eq_some_iff.mp hi).1
        have ed : ds.drop i = d :: ds.drop (i + 1) := by
          rw [List.drop_eq_getElem_cons hlt]
          congr 1
          exact (List.getElem?_eq_some_iff.mp hi).2
        have bad : isS d = false → Q (.fz (.bl false)) [.fz (.nd .tup ds)] := fun z => by
          rw [e, ed, chk_c, z, Bool.false_and] at k
          exact k
        k_call_by "ev" 0
        cases d with
        | nd k2 es =>
          cases k2 with
          | tup =>
            match es, bad with
            | [a, b], bad =>
              k_call_by "ev" 0
              have es : isS (.nd .tup [a, b]) = (isV 1000000 a && (isN b || (isV 1000000 b && ltD a b))) := rfl
              cases ha : isV 1000000 a with
              | false =>
                k_call_by "ev" 0
                exact bad (by rw [es, ha, Bool.false_and])
              | true =>
                k_call_by "ev" 0
                rw [ha, Bool.true_and] at es
                -- behind the test of the last end
                have rest : ((if i = 0 then none else some l : Option D) = none ∨ (if i = 0 then none else some l : Option D) = some l ∧ okE l a = true) → KtAnd (tOrM (tNotM (tM (eO (oCall d_law_is_version (mCons true (eV 1) (mCons true (eK (D.int 1000000)) mNil)))))) (tNotM (DL.tB true fLt (eB true fIx (eV 3) (eK (D.int 0))) (eV 1))))
                    (Kif (sRt (oE (eK (D.bl false)))) sNx (Kinv (fun ρ => ∃ l x y, ρ = [some (T.fz (D.nd DK.tup ds)), some (T.fz l), x, y] ∧ chk none ds = chk (if i + 1 = 0 then none else some l) (List.drop (i + 1) ds) ∧ (i + 1 ≠ 0 → isN l = false → isV 1000000 l = true)) (Ksq (sRt (oE (eK (D.bl true)))) (Kfn io_law_is_range [T.fz (D.nd DK.tup ds)] Q))))
                    (!isN b) [some (T.fz (D.nd DK.tup ds)), some (T.fz b), some (T.fz (D.int ↑i)), some (T.fz (D.nd DK.tup [a, b]))] := fun hz => by
                  have go : isS (.nd .tup [a, b]) = true → (isN b = false → isV 1000000 b = true) → ∃ l x y, [some (T.fz (D.nd DK.tup ds)), some (T.fz b), some (T.fz (D.int ↑i)), some (T.fz (D.nd DK.tup [a, b]))] = [some (T.fz (D.nd DK.tup ds)), some (T.fz l), x, y] ∧ chk none ds = chk (if i + 1 = 0 then none else some l) (List.drop (i + 1) ds) ∧ (i + 1 ≠ 0 → isN l = false → isV 1000000 l = true) := fun h1 h2 => by
                    refine ⟨b, _, _, rfl, ?_, fun _ => h2⟩
                    rw [e, ed, chk_c, h1, Bool.true_and, if_neg (Nat.succ_ne_zero i)]
                    rcases hz with hz | ⟨hz, ho⟩
                    · rw [hz]
                      rfl
                    · rw [hz]
                      show (okE l a && chk (some b) _) = _
                      rw [ho, Bool.true_and]
                  k_call_by "ev" 0
                  cases hn : isN b with
                  | true =>
                    k_call_by "ev" 0
                    exact go (by rw [es, hn, Bool.true_or]) (fun z => by rw [hn] at z; cases z)
                  | false =>
                    rw [hn, Bool.false_or] at es
                    k_call_by "ev" 0
                    cases hb : isV 1000000 b with
                    | false =>
                      k_call_by "ev" 0
                      exact bad (by rw [es, hb, Bool.false_and])
                    | true =>
                      rw [hb, Bool.true_and] at es
                      k_call_by "ev" 0
                      refine FB_ltV ha hb ?_
                      k_call_by "ev" 0
                      cases hlt2 : ltD a b with
                      | false =>
                        k_call_by "ev" 0
                        exact bad (by rw [es, hlt2])
                      | true =>
                        k_call_by "ev" 0
                        exact go (by rw [es, hlt2]) (fun _ => hb)
                by_cases hi0 : i = 0
                · rw [show decide ((0 : Int) < (i : Int)) = false by rw [hi0]; rfl]
                  k_call_by "ev" 0
                  exact rest (.inl (if_pos hi0))
                · rw [decide_eq_true (show (0 : Int) < (i : Int) by omega)]
                  have bad2 : okE l a = false → Q (.fz (.bl false)) [.fz (.nd .tup ds)] := fun z => by
                    rw [e, ed, chk_c, if_neg hi0] at k
                    have z2 : (isS (.nd .tup [a, b]) && (okE l (sLo (.nd .tup [a, b])) && chk (some (sHi (.nd .tup [a, b]))) (ds.drop (i + 1)))) = false := by
                      show (isS (.nd .tup [a, b]) && (okE l a && _)) = false
                      rw [z, Bool.false_and, Bool.and_false]
                    rw [show (match (some l : Option D) with
                      | none => true
                      | some h => okE h (sLo (.nd .tup [a, b]))) = okE l (sLo (.nd .tup [a, b])) from rfl, z2] at k
                    exact k
                  k_call_by "ev" 0
                  cases hn : isN l with
                  | true =>
                    k_call_by "ev" 0
                    exact bad2 (by unfold okE; rw [hn]; rfl)
                  | false =>
                    k_call_by "ev" 0
                    have hv := hlv hi0 hn
                    refine FB_ltV hv ha ?_
                    k_call_by "ev" 0
                    cases z : ltD l a with
                    | false =>
                      k_call_by "ev" 0
                      exact bad2 (by unfold okE; rw [z, Bool.and_false])
                    | true =>
                      k_call_by "ev" 0
                      exact rest (.inr ⟨if_neg hi0, by unfold okE; rw [z, hn]; rfl⟩)
            | [], bad => k_call_by "ev" 0; exact bad rfl
            | [a], bad => k_call_by "ev" 0; exact bad rfl
            | a :: b :: c :: r, bad => k_call_by "ev" 0; exact bad rfl
          | _ => k_call_by "ev" 0; exact bad rfl
        | _ => k_call_by "ev" 0; exact bad rfl
      · obtain ⟨l, x, y, rfl, e, _⟩ := hI
        k_call_by "ev" 0
        rw [e, List.drop_eq_nil_of_le (Nat.le_refl _)] at k
        simp only [chk] at k
        exact k
    | _ => k_call_by "ev" 0; exact k
  | _ => k_call_by "ev" 0; exact k
end K04

end
section

namespace K04
abbrev hD : Option (List Int) → D
  | none => .non
  | some v => vD v
abbrev sD (s : VR.S) : D := .nd .tup [vD s.1, hD s.2]
abbrev rD (r : List VR.S) : D := .nd .tup (r.map sD)
theorem is_below_ok {v : VR.V} {h : Option VR.V} {Q : T → List T → Prop} (k : Q (.fz (.bl (VR.bel v h))) [.fz (vD v), .fz (hD h)]) : Fok (d_is_below [.fz (vD v), .fz (hD h)]) Q := by
  refine F_is_below ?_
  unfold m_is_below
  cases h <;> (k_call_by "ev" 0; exact k)
theorem lesser_ok {a b : Option VR.V} {Q : T → List T → Prop} (k : Q (.fz (hD (VR.les a b))) [.fz (hD a), .fz (hD b)]) : Fok (d_lesser_high [.fz (hD a), .fz (hD b)]) Q := by
  refine F_lesser_high ?_
  unfold m_lesser_high
  cases a with
  | none => k_call_by "ev" 0; exact k
  | some a => cases b with
    | none => k_call_by "ev" 0; exact k
    | some b =>
      k_call_by "ev" 0
      have e : VR.les (some a) (some b) = if VR.lt a b = true then some a else some b := rfl
      cases z : HT.lexLt a b with
      | true =>
        k_call_by "ev" 0
        rw [e, if_pos z] at k
        exact k
      | false =>
        k_call_by "ev" 0
        rw [e, if_neg (by rw [show VR.lt a b = false from z]; exact fun z => nomatch z)] at k
        exact k
local macro_rules | `(tactic| k_call_by "call" 0) => `(tactic| first
  | with_reducible apply is_below_ok
  | with_reducible apply lesser_ok)
theorem fm_len {α β : Type} (f : α → Option β) : ∀ l : List α, (l.filterMap f).length ≤ l.length := fun l => List.length_filterMap_le f l
theorem both_len (s : List VR.S) : ∀ r : List VR.S, (VR.both r s).length ≤ r.length * s.length
  | [] => by simp [VR.both]
  | x :: r => by
    have e : VR.both (x :: r) s = (s.filterMap fun y => VR.both1 x y) ++ VR.both r s := by simp [VR.both]
    have h1 := fm_len (fun y => VR.both1 x y) s
    have h2 := both_len s r
    rw [e, List.length_append, List.length_cons, Nat.succ_mul]
    omega
theorem both_ok {r s : List VR.S} {Q : T → List T → Prop} (hr : r.length ≤ 100) (hs : s.length ≤ 100) (k : Q (.fz (rD (VR.both r s))) [.fz (rD r), .fz (rD s)]) : Fok (d_both [.fz (rD r), .fz (rD s)]) Q := by
  refine F_both ?_
  unfold m_both
  k_call_by "ev" 0
  refine for_map sD (fun dn ρ => ∃ a b c d e f, ρ = [some (.fz (rD r)), some (.fz (rD s)), some (.nd .lst (((VR.both dn s).map sD).map .fz)), a, b, c, d, e, f]) (fun dn x rest ρ e hI => ?_) (fun ρ hI => ?_) ⟨_, _, _, _, _, _, rfl⟩
  · obtain ⟨_, _, _, _, _, _, rfl⟩ := hI
    have hdn : dn.length ≤ 99 := by
      have := congrArg List.length e
      rw [List.length_append, List.length_cons] at this
      omega
    k_call_by "ev" 0
    refine for_map sD (fun dn2 ρ => ∃ c d e f, ρ = [some (.fz (rD r)), some (.fz (rD s)), some (.nd .lst (((VR.both dn s ++ dn2.filterMap fun y => VR.both1 x y).map sD).map .fz)), some (.fz (vD x.1)), some (.fz (hD x.2)), c, d, e, f]) (fun dn2 y rest2 ρ e2 hI => ?_) (fun ρ hI => ?_) ⟨_, _, _, _, by rw [List.filterMap_nil, List.append_nil]⟩
    · obtain ⟨_, _, _, _, rfl⟩ := hI
      have hd2 : dn2.length ≤ 99 := by
        have := congrArg List.length e2
        rw [List.length_append, List.length_cons] at this
        omega
      have hlen : ((VR.both dn s ++ dn2.filterMap fun y => VR.both1 x y).map sD).length < 100000 := by
        have h1 := both_len s dn
        have h2 := fm_len (fun y => VR.both1 x y) dn2
        have h3 : dn.length * s.length ≤ 99 * 100 := Nat.mul_le_mul hdn hs
        rw [List.length_map, List.length_append]
        omega
      k_call_by "ev" 0
      have e3 : (dn2 ++ [y]).filterMap (fun y => VR.both1 x y) = (dn2.filterMap fun y => VR.both1 x y) ++ (VR.both1 x y).toList := by
        rw [List.filterMap_append]
        congr 1
      have e4 : VR.both1 x y = if VR.bel (if HT.lexLt x.1 y.1 = true then y.1 else x.1) (VR.les x.2 y.2) = true then some (if HT.lexLt x.1 y.1 = true then y.1 else x.1, VR.les x.2 y.2) else none := rfl
      cases z : VR.bel (if HT.lexLt x.1 y.1 = true then y.1 else x.1) (VR.les x.2 y.2) with
      | true =>
        rw [z, if_pos rfl] at e4
        k_call_by "ev" 0
        have e5 : (VR.both dn s ++ (dn2 ++ [y]).filterMap fun y => VR.both1 x y).map sD = (VR.both dn s ++ dn2.filterMap fun y => VR.both1 x y).map sD ++ [sD (if HT.lexLt x.1 y.1 = true then y.1 else x.1, VR.les x.2 y.2)] := by
          rw [e3, e4, ← List.append_assoc, List.map_append]
          rfl
        exact ⟨_, _, _, _, by rw [e5]⟩
      | false =>
        rw [z, if_neg (fun z => nomatch z)] at e4
        k_call_by "ev" 0
        have e5 : VR.both dn s ++ ((dn2 ++ [y]).filterMap fun y => VR.both1 x y) = VR.both dn s ++ dn2.filterMap fun y => VR.both1 x y := by
          rw [e3, e4]
          show _ ++ (_ ++ []) = _
          rw [List.append_nil]
        exact ⟨_, _, _, _, by rw [e5]⟩
    · obtain ⟨_, _, _, _, rfl⟩ := hI
      k_call_by "ev" 0
      exact ⟨_, _, _, _, _, _, by rw [show VR.both (dn ++ [x]) s = VR.both dn s ++ s.filterMap fun y => VR.both1 x y by simp [VR.both]]⟩
  · obtain ⟨_, _, _, _, _, _, rfl⟩ := hI
    k_call_by "ev" 0
    exact k
theorem out_len : ∀ (b : Option VR.V) (r : List VR.S), (VR.out b r).length ≤ r.length + 1
  | none, [] => by simp [VR.out]
  | some v, [] => by simp [VR.out]
  | none, (_, h) :: r => by
    show (VR.out h r).length ≤ r.length + 1 + 1
    have := out_len h r
    omega
  | some v, (l, h) :: r => by
    show (if VR.lt v l = true then (v, some l) :: VR.out h r else VR.out h r).length ≤ r.length + 1 + 1
    have := out_len h r
    split
    · rw [List.length_cons]; omega
    · omega
theorem outside_ok {r : List VR.S} {Q : T → List T → Prop} (hr : r.length ≤ 100) (k : Q (.fz (rD (VR.out (some VR.zero) r))) [.fz (rD r)]) : Fok (d_outside [.fz (rD r)]) Q := by
  refine F_outside ?_
  unfold m_outside k_LEAST
  k_call_by "ev" 0
  refine for_map sD (fun dn ρ => ∃ acc b c d, ρ = [some (.fz (rD r)), some (.nd .lst ((acc.map sD).map .fz)), some (.fz (hD b)), c, d] ∧ acc.length ≤ dn.length ∧ ∀ rest, r = dn ++ rest → VR.out (some VR.zero) r = acc ++ VR.out b rest) (fun dn x rest ρ e hI => ?_) (fun ρ hI => ?_) ⟨[], some VR.zero, _, _, rfl, Nat.le_refl _, fun rest h => by rw [List.nil_append] at h; rw [h]; rfl⟩
  · obtain ⟨acc, b, _, _, rfl, hacc, he⟩ := hI
    have hdn : dn.length ≤ 99 := by
      have := congrArg List.length e
      rw [List.length_append, List.length_cons] at this
      omega
    have hlen : (acc.map sD).length < 100000 := by
      rw [List.length_map]
      omega
    obtain ⟨l, h⟩ := x
    have he2 := he _ e
    have fin : ∀ acc2, acc2.length ≤ dn.length + 1 → VR.out (some VR.zero) r = acc2 ++ VR.out h rest → ∃ acc b c d, [some (T.fz (rD r)), some (.nd .lst ((acc2.map sD).map .fz)), some (.fz (hD h)), some (.fz (vD l)), some (.fz (hD h))] = [some (.fz (rD r)), some (.nd .lst ((acc.map sD).map .fz)), some (.fz (hD b)), c, d] ∧ acc.length ≤ (dn ++ [(l, h)]).length ∧ ∀ rest, r = (dn ++ [(l, h)]) ++ rest → VR.out (some VR.zero) r = acc ++ VR.out b rest := fun acc2 h1 h2 => by
      refine ⟨acc2, h, _, _, rfl, by rw [List.length_append]; exact h1, fun rest2 e2 => ?_⟩
      rw [e, List.append_assoc, List.append_cancel_left_eq] at e2
      have : rest = rest2 := by simpa using e2
      rw [← this, h2]
    cases b with
    | none =>
      k_call_by "ev" 0
      exact fin acc (by omega) he2
    | some v =>
      k_call_by "ev" 0
      have e5 : VR.out (some v) ((l, h) :: rest) = if VR.lt v l = true then (v, some l) :: VR.out h rest else VR.out h rest := rfl
      rw [e5] at he2
      cases z : HT.lexLt v l with
      | true =>
        rw [if_pos z] at he2
        k_call_by "ev" 0
        have := fin (acc ++ [(v, some l)]) (by rw [List.length_append]; exact Nat.succ_le_succ hacc) (by rw [he2]; simp)
        rwa [List.map_append] at this
      | false =>
        rw [if_neg (by rw [show VR.lt v l = false from z]; exact fun z => nomatch z)] at he2
        k_call_by "ev" 0
        exact fin acc (by omega) he2
  · obtain ⟨acc, b, _, _, rfl, hacc, he⟩ := hI
    have he2 := he [] (by simp)
    have hlen : (acc.map sD).length < 100000 := by
      rw [List.length_map]
      omega
    cases b with
    | none =>
      k_call_by "ev" 0
      rw [he2, show VR.out none [] = [] from rfl, List.append_nil] at k
      exact k
    | some v =>
      k_call_by "ev" 0
      rw [he2, show VR.out (some v) [] = [(v, none)] from rfl, rD, List.map_append] at k
      exact k
end K04

end
section

namespace K04
open PyData in
theorem py_ints : ∀ v : List Int, toPys (v.map .int) = some (v.map .int)
  | [] => rfl
  | n :: v => by
    show (some (PyData.int n)).bind (fun p => (toPys (v.map D.int)).map (p :: ·)) = _
    rw [py_ints v] <;> rfl
def pyV (v : VR.V) : PyData := .tuple (v.map .int)
def pyS (s : VR.S) : PyData := .tuple [pyV s.1, match s.2 with
  | none => .none
  | some h => pyV h]
def pyR (r : List VR.S) : PyData := .tuple (r.map pyS)
theorem toPy_V (v : VR.V) : toPy (vD v) = some (pyV v) := by
  show (toPys (v.map D.int)).map PyData.tuple = _
  rw [py_ints] <;> rfl
theorem toPy_S (s : VR.S) : toPy (sD s) = some (pyS s) := by
  obtain ⟨l, h⟩ := s
  show ((toPy (vD l)).bind fun p => ((toPy (hD h)).bind fun q => (toPys []).map (q :: ·)).map (p :: ·)).map PyData.tuple = _
  rw [toPy_V]
  cases h with
  | none => rfl
  | some h =>
    show ((some (pyV l)).bind fun p => ((toPy (vD h)).bind fun q => (toPys []).map (q :: ·)).map (p :: ·)).map PyData.tuple = _
    rw [toPy_V] <;> rfl
theorem toPys_R : ∀ r : List VR.S, toPys (r.map sD) = some (r.map pyS)
  | [] => rfl
  | s :: r => by
    show (toPy (sD s)).bind (fun p => (toPys (r.map sD)).map (p :: ·)) = _
    rw [toPy_S, toPys_R r] <;> rfl
theorem toPy_R (r : List VR.S) : toPy (rD r) = some (pyR r) := by
  show (toPys (r.map sD)).map PyData.tuple = _
  rw [toPys_R] <;> rfl
theorem lay_ints : ∀ v : List Int, PyData.canLayAll0 (v.map .int) = true ∧ PyData.depthAll (v.map .int) = 0
  | [] => ⟨rfl, rfl⟩
  | n :: v => by
    obtain ⟨h1, h2⟩ := lay_ints v
    refine ⟨?_, ?_⟩
    · show (true && PyData.canLayAll0 (v.map .int)) = true
      rw [h1] <;> rfl
    · show max 0 (PyData.depthAll (v.map .int)) = 0
      rw [h2] <;> rfl
theorem lay_V (v : VR.V) : PyData.canLay0 (pyV v) = true ∧ PyData.depth (pyV v) = 1 := by
  obtain ⟨h1, h2⟩ := lay_ints v
  refine ⟨?_, ?_⟩
  · show PyData.canLayAll0 (v.map .int) = true
    exact h1
  · show PyData.depthAll (v.map .int) + 1 = 1
    rw [h2]
theorem lay_S (s : VR.S) : PyData.canLay0 (pyS s) = true ∧ PyData.depth (pyS s) = 2 := by
  obtain ⟨l, h⟩ := s
  obtain ⟨h1, h2⟩ := lay_V l
  cases h with
  | none =>
    refine ⟨?_, ?_⟩
    · show (PyData.canLay0 (pyV l) && (true && true)) = true
      rw [h1] <;> rfl
    · show max (PyData.depth (pyV l)) (max 0 0) + 1 = 2
      rw [h2] <;> rfl
  | some h =>
    obtain ⟨g1, g2⟩ := lay_V h
    refine ⟨?_, ?_⟩
    · show (PyData.canLay0 (pyV l) && (PyData.canLay0 (pyV h) && true)) = true
      rw [h1, g1] <;> rfl
    · show max (PyData.depth (pyV l)) (max (PyData.depth (pyV h)) 0) + 1 = 2
      rw [h2, g2] <;> rfl
theorem lay_R : ∀ r : List VR.S, PyData.canLayAll0 (r.map pyS) = true ∧ PyData.depthAll (r.map pyS) ≤ 2
  | [] => ⟨rfl, Nat.zero_le _⟩
  | s :: r => by
    obtain ⟨h1, h2⟩ := lay_R r
    obtain ⟨g1, g2⟩ := lay_S s
    refine ⟨?_, ?_⟩
    · show (PyData.canLay0 (pyS s) && PyData.canLayAll0 (r.map pyS)) = true
      rw [h1, g1] <;> rfl
    · show max (PyData.depth (pyS s)) (PyData.depthAll (r.map pyS)) ≤ 2
      rw [g2]
      omega
theorem shaped_R (r : List VR.S) : SeqAt.shaped (pyR r) = true := by
  obtain ⟨h1, h2⟩ := lay_R r
  unfold SeqAt.shaped
  rw [show PyData.canLay0 (pyR r) = PyData.canLayAll0 (r.map pyS) from rfl, h1]
  exact decide_eq_true (show PyData.depthAll (r.map pyS) + 1 ≤ 64 by omega)
theorem eqD_nil (r : List VR.S) : eqD (rD r) (.nd .tup []) = some r.isEmpty := by
  unfold eqD
  rw [toPy_R]
  show (if (SeqAt.shaped (pyR r) && SeqAt.shaped (pyR [])) = true then some (PyData.eqv (pyR r) (.tuple [])) else none) = _
  rw [shaped_R, shaped_R]
  cases r <;> rfl
/-! a thing that is a range -/
theorem isV_low {d : D} (h : isV 1000000 d = true) : VR.lt (vals d) VR.zero = false ∧ (vals d).length = 3 ∧ ∀ x ∈ vals d, 0 ≤ x := by
  have e := isV_vD h
  rw [e] at h
  obtain ⟨h1, h2⟩ := Bool.and_eq_true_iff.mp (show (decide ((((vals d).map D.int).length : Int) = 3) && ((vals d).map D.int).all (wthn 0 1000000)) = true from h)
  have hl : (vals d).length = 3 := by
    have := of_decide_eq_true h1
    rw [List.length_map] at this
    omega
  have hp : ∀ x ∈ vals d, 0 ≤ x := fun x hx => by
    have := List.all_eq_true.mp h2 (.int x) (List.mem_map_of_mem hx)
    have := (Bool.and_eq_true_iff.mp (show (decide (0 ≤ x) && decide (x ≤ 1000000)) = true from this)).1
    exact of_decide_eq_true this
  refine ⟨?_, hl, hp⟩
  match hv : vals d, hl, hp with
  | [a, b, c], _, hp =>
    have ha := hp a (by simp)
    have hb := hp b (by simp)
    have hc := hp c (by simp)
    show (if a = 0 then if b = 0 then if c = 0 then false else decide (c < 0) else decide (b < 0) else decide (a < 0)) = false
    split
    · split
      · split
        · rfl
        · exact decide_eq_false (by omega)
      · exact decide_eq_false (by omega)
    · exact decide_eq_false (by omega)
def unS (d : D) : VR.S := (vals (sLo d), if isN (sHi d) = true then none else some (vals (sHi d)))
theorem isN_non {d : D} (h : isN d = true) : d = .non := by
  cases d with
  | non => rfl
  | _ => cases h
theorem unS_sD {d : D} (h : isS d = true) : d = sD (unS d) ∧ VR.bel (unS d).1 (unS d).2 = true ∧ VR.lt (unS d).1 VR.zero = false := by
  obtain ⟨a, b, rfl, ha, hb⟩ := isS_2 h
  have ea := isV_vD ha
  rcases hb with hn | ⟨hn, hb, hlt⟩
  · have e : unS (.nd .tup [a, b]) = (vals a, none) := by
      show (vals a, if isN b = true then none else some (vals b)) = _
      rw [if_pos hn]
    rw [e]
    refine ⟨?_, rfl, (isV_low ha).1⟩
    show D.nd .tup [a, b] = .nd .tup [vD (vals a), .non]
    rw [← ea, isN_non hn]
  · have e : unS (.nd .tup [a, b]) = (vals a, some (vals b)) := by
      show (vals a, if isN b = true then none else some (vals b)) = _
      rw [if_neg (by rw [hn]; exact fun z => nomatch z)]
    rw [e]
    refine ⟨?_, hlt, (isV_low ha).1⟩
    show D.nd .tup [a, b] = .nd .tup [vD (vals a), vD (vals b)]
    rw [← ea, ← isV_vD hb]
theorem okR_of : ∀ {ds : List D} {l : D}, ds.all isS = true → adj ds = true → (∀ s r, ds = s :: r → okE l (sLo s) = true) → VR.okR (if isN l = true then none else some (vals l)) (ds.map unS)
  | [], l, _, _, _ => by
    show VR.okR _ []
    split <;> exact trivial
  | s :: r, l, h1, h2, h3 => by
    obtain ⟨h1a, h1b⟩ := Bool.and_eq_true_iff.mp (show (isS s && r.all isS) = true from h1)
    obtain ⟨o1, o2⟩ := Bool.and_eq_true_iff.mp (show (!isN l && ltD l (sLo s)) = true from h3 s r rfl)
    have hn : isN l = false := by simpa using o1
    rw [if_neg (by rw [hn]; exact fun z => nomatch z)]
    obtain ⟨e1, e2, e3⟩ := unS_sD h1a
    refine ⟨o2, e2, okR_of (l := sHi s) h1b ?_ fun t r' e => ?_⟩
    · cases r with
      | nil => rfl
      | cons t r => exact (Bool.and_eq_true_iff.mp (show (okE (sHi s) (sLo t) && adj (t :: r)) = true from h2)).2
    · subst e
      exact (Bool.and_eq_true_iff.mp (show (okE (sHi s) (sLo t) && adj (t :: r')) = true from h2)).1
theorem isR_rD {d : D} (h : isR d = true) : ∃ s, d = rD s ∧ VR.okR0 VR.zero s ∧ ∀ kk ds, d = .nd kk ds → ds.length = s.length := by
  cases d with
  | nd kk ds => cases kk with
    | tup =>
      obtain ⟨h1, h2⟩ := Bool.and_eq_true_iff.mp (show (ds.all isS && adj ds) = true from h)
      refine ⟨ds.map unS, ?_, ?_, fun kk es e => by cases e; rw [List.length_map]⟩
      · show D.nd .tup ds = .nd .tup ((ds.map unS).map sD)
        congr 1
        rw [List.map_map]
        have : ∀ d ∈ ds, (sD ∘ unS) d = d := fun d hd => (unS_sD (List.all_eq_true.mp h1 d hd)).1.symm
        exact (List.map_id' ds).symm.trans (List.map_congr_left fun d hd => (this d hd).symm)
      · cases ds with
        | nil => exact trivial
        | cons s r =>
          obtain ⟨h1a, h1b⟩ := Bool.and_eq_true_iff.mp (show (isS s && r.all isS) = true from h1)
          obtain ⟨e1, e2, e3⟩ := unS_sD h1a
          refine ⟨e3, e2, okR_of (l := sHi s) h1b ?_ fun t r' e => ?_⟩
          · cases r with
            | nil => rfl
            | cons t r => exact (Bool.and_eq_true_iff.mp (show (okE (sHi s) (sLo t) && adj (t :: r)) = true from h2)).2
          · subst e
            exact (Bool.and_eq_true_iff.mp (show (okE (sHi s) (sLo t) && adj (t :: r')) = true from h2)).1
    | _ => cases h
  | _ => cases h
theorem is_part_ok {r : List VR.S} {t : D} {Q : T → List T → Prop} (hr : r.length ≤ 90) (hl : ∀ kk ds, t = .nd kk ds → ds.length ≤ 90) (k0 : isR t = false → Q (.fz (.bl false)) [.fz (rD r), .fz t]) (k1 : ∀ s, t = rD s → VR.okR0 VR.zero s → isR t = true → s.length ≤ 90 → Q (.fz (.bl (VR.both r (VR.out (some VR.zero) s)).isEmpty)) [.fz (rD r), .fz t]) : Fok (d_is_part [.fz (rD r), .fz t]) Q := by
  refine F_is_part ?_
  unfold m_is_part
  k_call_by "ev" 0
  refine is_range_ok (fun kk ds e => Nat.le_trans (hl kk ds e) (by decide)) ?_
  cases z : isR t with
  | false =>
    k_call_by "ev" 0
    exact k0 z
  | true =>
    obtain ⟨s, rfl, h1, h2⟩ := isR_rD z
    have hs : s.length ≤ 90 := by
      have := hl _ _ rfl
      rwa [List.length_map] at this
    k_call_by "ev" 0
    refine outside_ok (by omega) ?_
    have ho := out_len (some VR.zero) s
    k_call_by "ev" 0
    refine both_ok (by omega) (by omega) ?_
    k_call_by "ev" 0
    refine FB_eq (eqD_nil _) ?_
    k_call_by "ev" 0
    exact k1 s rfl h1 z hs
end K04

end
section

namespace K04
theorem has_ok {r : List VR.S} {v : VR.V} {Q : T → List T → Prop} (k : Q (.fz (.bl (VR.has r v))) [.fz (rD r), .fz (vD v)]) : Fok (d_law_has [.fz (rD r), .fz (vD v)]) Q := by
  refine F_law_has ?_
  unfold m_law_has
  k_call_by "ev" 0
  refine for_map sD (fun dn ρ => (∃ a b, ρ = [some (.fz (rD r)), some (.fz (vD v)), a, b]) ∧ VR.has dn v = false) (fun dn x rest ρ e hI => ?_) (fun ρ hI => ?_) ⟨⟨_, _, rfl⟩, rfl⟩
  · obtain ⟨⟨_, _, rfl⟩, hd⟩ := hI
    obtain ⟨l, h⟩ := x
    have e1 : VR.has (dn ++ [(l, h)]) v = VR.inS v (l, h) := by
      show (dn ++ [(l, h)]).any (VR.inS v) = _
      rw [List.any_append, show dn.any (VR.inS v) = false from hd]
      simp
    have yes : VR.inS v (l, h) = true → Q (.fz (.bl true)) [.fz (rD r), .fz (vD v)] := fun z => by
      have : VR.has r v = true := List.any_eq_true.mpr ⟨(l, h), by rw [e]; simp, z⟩
      rw [this] at k
      exact k
    have e2 : VR.inS v (l, h) = (!VR.lt v l && VR.bel v h) := rfl
    k_call_by "ev" 0
    rw [VR.leI_not]
    cases z : VR.lt v l with
    | true =>
      k_call_by "ev" 0
      exact ⟨⟨_, _, rfl⟩, by rw [e1, e2, z]; rfl⟩
    | false =>
      cases h with
      | none =>
        k_call_by "ev" 0
        exact yes (by rw [e2, z]; rfl)
      | some h =>
        k_call_by "ev" 0
        cases z2 : HT.lexLt v h with
        | true =>
          k_call_by "ev" 0
          exact yes (by rw [e2, z]; exact z2)
        | false =>
          k_call_by "ev" 0
          exact ⟨⟨_, _, rfl⟩, by rw [e1, e2, z]; exact z2⟩
  · obtain ⟨⟨_, _, rfl⟩, hd⟩ := hI
    k_call_by "ev" 0
    rw [hd] at k
    exact k
def Good (r : List VR.S) : Prop := ∀ v ∈ VR.pts r, v.length = 3 ∧ ∀ x ∈ v, 0 ≤ x
theorem tups_V : ∀ vs : List VR.V, tups (vs.map fun v => vD v) = some vs
  | [] => rfl
  | v :: vs => by
    show (intsD (v.map D.int)).bind (fun k => (tups (vs.map fun v => vD v)).map (k :: ·)) = _
    rw [intsD_map, tups_V vs] <;> rfl
theorem FB_sort {vs : List VR.V} {Q : D → Prop} (hl : vs.length < 64) (hg : ∀ v ∈ vs, v.length = 3 ∧ ∀ x ∈ v, 0 ≤ x) (k : Q (.nd .lst ((sortT vs).map fun v => vD v))) : FB (fSorSet (.nd .lst (vs.map fun v => vD v))) Q := by
  refine ⟨_, ?_, k⟩
  show ((tups (vs.map fun v => vD v)).bind fun kss => if okT kss = true then some (D.nd .lst ((sortT kss).map tupD)) else none) = _
  rw [tups_V]
  show (if okT vs = true then some (D.nd .lst ((sortT vs).map tupD)) else none) = _
  have hw : vs ≠ [] → wid vs = 3 := fun z => by
    cases vs with
    | nil => exact absurd rfl z
    | cons v vs => exact (hg v (by simp)).1
  have hok : okT vs = true := by
    unfold okT
    rw [decide_eq_true hl, Bool.true_and, Bool.and_eq_true_iff]
    refine ⟨decide_eq_true ?_, List.all_eq_true.mpr fun v hv => ?_⟩
    · cases vs with
      | nil => exact Nat.le_refl _
      | cons v vs => rw [hw (by simp)]; decide
    · rw [hw (List.ne_nil_of_mem hv), Bool.and_eq_true_iff]
      exact ⟨decide_eq_true (hg v hv).1, List.all_eq_true.mpr fun x hx => decide_eq_true ((hg v hv).2 x hx)⟩
  rw [if_pos hok]
  rfl
theorem marks_ok {rs : List (List VR.S)} {Q : T → List T → Prop} (hr : rs.length ≤ 100) (hl : (rs.flatMap VR.pts).length ≤ 62) (hg : ∀ r ∈ rs, Good r) (k : Q (.fz (.nd .lst ((VR.marks rs).map fun v => vD v))) [.fz (.nd .lst (rs.map rD))]) : Fok (d_law_marks [.fz (.nd .lst (rs.map rD))]) Q := by
  refine F_law_marks ?_
  unfold m_law_marks
  k_call_by "ev" 0
  have lensub : ∀ dn r rest, rs = dn ++ r :: rest → (dn.flatMap VR.pts).length + (VR.pts r).length ≤ 62 := fun dn r rest e => by
    rw [e, List.flatMap_append, List.length_append, List.flatMap_cons, List.length_append] at hl
    omega
  refine for_map rD (fun dn ρ => ∃ a b c, ρ = [some (.fz (.nd .lst (rs.map rD))), some (.nd .lst (((VR.zero :: dn.flatMap VR.pts).map fun v => vD v).map .fz)), a, b, c]) (fun dn r rest ρ e hI => ?_) (fun ρ hI => ?_) ⟨_, _, _, rfl⟩
  · obtain ⟨_, _, _, rfl⟩ := hI
    k_call_by "ev" 0
    refine for_map sD (fun d2 ρ => ∃ b c, ρ = [some (.fz (.nd .lst (rs.map rD))), some (.nd .lst (((VR.zero :: (dn.flatMap VR.pts ++ VR.pts d2)).map fun v => vD v).map .fz)), some (.fz (rD r)), b, c]) (fun d2 x rest2 ρ e2 hI => ?_) (fun ρ hI => ?_) ⟨_, _, by rw [show VR.pts [] = [] from rfl, List.append_nil]⟩
    · obtain ⟨_, _, rfl⟩ := hI
      obtain ⟨l, h⟩ := x
      have h1 := lensub dn r rest e
      have h2 : (VR.pts d2).length + (VR.ends (l, h)).length ≤ (VR.pts r).length := by
        rw [e2]
        show _ ≤ ((d2 ++ (l, h) :: rest2).flatMap VR.ends).length
        rw [List.flatMap_append, List.length_append, List.flatMap_cons, List.length_append]
        show (d2.flatMap VR.ends).length + _ ≤ _
        omega
      have h3 : (VR.ends (l, h)).length ≤ 2 := by cases h <;> exact Nat.le_of_ble_eq_true rfl
      have e3 : VR.pts (d2 ++ [(l, h)]) = VR.pts d2 ++ VR.ends (l, h) := by
        show (d2 ++ [(l, h)]).flatMap VR.ends = _
        rw [List.flatMap_append]
        congr 1
        simp
      cases h with
      | none =>
        have hlen : ((VR.zero :: (dn.flatMap VR.pts ++ VR.pts d2)).map fun v => vD v).length + [vD l].length ≤ 100000 := by
          simp only [List.length_map, List.length_cons, List.length_append, List.length_nil]
          omega
        k_call_by "ev" 0
        have e6 : (VR.zero :: (dn.flatMap VR.pts ++ VR.pts (d2 ++ [(l, none)]))).map (fun v => vD v) = (VR.zero :: (dn.flatMap VR.pts ++ VR.pts d2)).map (fun v => vD v) ++ [vD l] := by
          rw [e3]
          simp [VR.ends]
        exact ⟨_, _, by rw [e6]⟩
      | some h =>
        have hlen : ((VR.zero :: (dn.flatMap VR.pts ++ VR.pts d2)).map fun v => vD v).length + [vD l, vD h].length ≤ 100000 := by
          simp only [List.length_map, List.length_cons, List.length_append, List.length_nil]
          omega
        k_call_by "ev" 0
        have e6 : (VR.zero :: (dn.flatMap VR.pts ++ VR.pts (d2 ++ [(l, some h)]))).map (fun v => vD v) = (VR.zero :: (dn.flatMap VR.pts ++ VR.pts d2)).map (fun v => vD v) ++ [vD l, vD h] := by
          rw [e3]
          simp [VR.ends]
        exact ⟨_, _, by rw [e6]⟩
    · obtain ⟨_, _, rfl⟩ := hI
      k_call_by "ev" 0
      exact ⟨_, _, _, by rw [show (dn ++ [r]).flatMap VR.pts = dn.flatMap VR.pts ++ VR.pts r by simp]⟩
  · obtain ⟨_, _, _, rfl⟩ := hI
    k_call_by "ev" 0
    refine FB_sort (by rw [List.length_cons]; omega) (fun v hv => ?_) ?_
    · rcases List.mem_cons.mp hv with rfl | hv
      · exact ⟨rfl, fun x hx => by
          have : x = 0 := by simpa [VR.zero] using hx
          omega⟩
      · obtain ⟨r, hr, hv⟩ := List.mem_flatMap.mp hv
        exact hg r hr v hv
    · k_call_by "ev" 0
      exact k
end K04

end
section

namespace K04
theorem atI_last {α : Type} {xs : List α} {x : α} : atI (xs ++ [x]) (-1) = some x := by
  unfold atI ixN
  rw [if_neg (by decide), List.length_append]
  show (if _ then some _ else none).bind _ = _
  rw [if_pos (by simp only [List.length_cons, List.length_nil]; omega)]
  show (xs ++ [x])[_]? = _
  rw [show ((-1 : Int) + ((xs.length + [x].length : Nat) : Int)).toNat = xs.length by simp only [List.length_cons, List.length_nil]; omega]
  simp
theorem fSet_last {ds : List D} {e d : D} : fSet .lst ((ds ++ [e]).map .fz) [.int (-1), d] = some (.non, .lst, (ds ++ [d]).map .fz) := by
  show (ixN ((ds ++ [e]).map T.fz).length (-1)).bind _ = _
  unfold ixN
  rw [if_neg (by decide), List.length_map, List.length_append]
  rw [if_pos (by simp only [List.length_cons, List.length_nil]; omega)]
  rw [show ((-1 : Int) + ((ds.length + [e].length : Nat) : Int)).toNat = ds.length by simp only [List.length_cons, List.length_nil]; omega]
  show some (D.non, DK.lst, (((ds ++ [e]).map T.fz).set ds.length (.fz d))) = _
  congr 3
  rw [List.map_append, List.map_append, List.set_append_right _ _ (by simp)]
  simp
local macro_rules | `(tactic| k_call_by "mu" 0) => `(tactic| exact fSet_last)
def opn : Option VR.V → List VR.S
  | none => []
  | some b => [(b, none)]
theorem mk_len : ∀ (l : List (VR.V × Bool)) (o : Option VR.V), (VR.mk o l).length ≤ l.length + (opn o).length
  | [], none => by simp [VR.mk, opn]
  | [], some b => by simp [VR.mk, opn]
  | (m, f) :: r, none => by
    have h1 := mk_len r none
    have h2 := mk_len r (some m)
    have e1 : (opn none).length = 0 := rfl
    have e2 : (opn (some m)).length = 1 := rfl
    show (if f = true then VR.mk (some m) r else VR.mk none r).length ≤ r.length + 1 + _
    split <;> omega
  | (m, f) :: r, some b => by
    have h1 := mk_len r none
    have h2 := mk_len r (some b)
    have e1 : (opn none).length = 0 := rfl
    have e2 : (opn (some b)).length = 1 := rfl
    show (if f = true then VR.mk (some b) r else (b, some m) :: VR.mk none r).length ≤ r.length + 1 + _
    split
    · omega
    · rw [List.length_cons]; omega
theorem made_ok {ms : List VR.V} {fs : List Bool} {Q : T → List T → Prop} (hm : ms.length ≤ 1000) (hf : fs.length = ms.length) (k : Q (.fz (rD (VR.mk none (ms.zip fs)))) [.fz (.nd .lst (ms.map fun v => vD v)), .fz (.nd .lst (fs.map .bl))]) : Fok (d_law_made [.fz (.nd .lst (ms.map fun v => vD v)), .fz (.nd .lst (fs.map .bl))]) Q := by
  refine F_law_made ?_
  unfold m_law_made
  have hz : (ms.zip fs).length = ms.length := by rw [List.length_zip]; omega
  k_call_by "ev" 0
  rw [Int.toNat_natCast, List.length_map]
  refine for_rng (fun n ρ => ∃ dn o x, ρ = [some (.fz (.nd .lst (ms.map fun v => vD v))), some (.fz (.nd .lst (fs.map .bl))), some (.nd .lst (((dn ++ opn o).map sD).map .fz)), x] ∧ VR.mk none (ms.zip fs) = dn ++ VR.mk o ((ms.zip fs).drop n) ∧ dn.length ≤ n ∧ (n = 0 → o = none) ∧ ∀ i, n = i + 1 → fs[i]? = some o.isSome) (fun n ρ hn hI => ?_) (fun ρ hI => ?_) ⟨[], none, none, rfl, rfl, Nat.le_refl _, fun _ => rfl, fun i h => by cases h⟩
  · obtain ⟨dn, o, _, rfl, he, hd, h0, hp⟩ := hI
    have hf' : n < fs.length := by omega
    have em : ms[n]? = some ms[n] := by simp [hn]
    have ef : fs[n]? = some fs[n] := by simp [hf']
    have ed : (ms.zip fs).drop n = (ms[n], fs[n]) :: (ms.zip fs).drop (n + 1) := by
      rw [List.drop_eq_getElem_cons (by omega), List.getElem_zip]
    rw [ed] at he
    generalize ms[n] = m at *
    generalize fs[n] = f at *
    have a1 : atI (ms.map fun v => vD v) (n : Int) = some (vD m) := atN (by rw [List.getElem?_map, em]; rfl)
    have a2 : atI (fs.map D.bl) (n : Int) = some (.bl f) := atN (by rw [List.getElem?_map, ef]; rfl)
    have nx : ∀ dn2 o2, (o2 : Option VR.V).isSome = f → dn2.length ≤ n + 1 → VR.mk none (ms.zip fs) = dn2 ++ VR.mk o2 ((ms.zip fs).drop (n + 1)) → ∃ dn o x, [some (T.fz (.nd .lst (ms.map fun v => vD v))), some (.fz (.nd .lst (fs.map .bl))), some (.nd .lst (((dn2 ++ opn o2).map sD).map .fz)), some (.fz (.int n))] = [some (.fz (.nd .lst (ms.map fun v => vD v))), some (.fz (.nd .lst (fs.map .bl))), some (.nd .lst (((dn ++ opn o).map sD).map .fz)), x] ∧ VR.mk none (ms.zip fs) = dn ++ VR.mk o ((ms.zip fs).drop (n + 1)) ∧ dn.length ≤ n + 1 ∧ (n + 1 = 0 → o = none) ∧ ∀ i, n + 1 = i + 1 → fs[i]? = some o.isSome := fun dn2 o2 h1 h2 h3 => ⟨dn2, o2, _, rfl, h3, h2, (fun z => by cases z), fun i hi => by
      have : n = i := by omega
      subst this
      rw [ef, h1]⟩
    have hlen : ((dn ++ opn o).map sD).length < 100000 := by
      have : (opn o).length ≤ 1 := by cases o <;> exact Nat.le_of_ble_eq_true rfl
      rw [List.length_map, List.length_append]
      omega
    by_cases hn0 : n = 0
    · have ho := h0 hn0
      subst ho
      subst hn0
      k_call_by "ev" 0
      cases f with
      | true =>
        k_call_by "ev" 0
        have e7 : (dn ++ opn none).map sD ++ [D.nd DK.tup [vD m, D.non]] = (dn ++ opn (some m)).map sD := by simp [opn]
        rw [e7]
        exact nx dn (some m) rfl (by omega) he
      | false =>
        k_call_by "ev" 0
        exact nx dn none rfl (by omega) he
    · have a3 : atI (fs.map D.bl) ((n : Int) - 1) = some (.bl o.isSome) := by
        have := hp (n - 1) (by omega)
        have z := atN (xs := fs.map D.bl) (n := n - 1) (x := .bl o.isSome) (by rw [List.getElem?_map, this]; rfl)
        rwa [show ((n - 1 : Nat) : Int) = (n : Int) - 1 by omega] at z
      have d0 : decide ((n : Int) = 0) = false := decide_eq_false (by omega)
      have d1 : decide ((0 : Int) < (n : Int)) = true := decide_eq_true (by omega)
      k_call_by "ev" 0
      cases f with
      | true =>
        k_call_by "ev" 0
        rw [d0]
        k_call_by "ev" 0
        cases o with
        | none =>
          k_call_by "ev" 0
          rw [d1]
          k_call_by "ev" 0
          have e7 : (dn ++ opn none).map sD ++ [D.nd DK.tup [vD m, D.non]] = (dn ++ opn (some m)).map sD := by simp [opn]
          rw [e7]
          exact nx dn (some m) rfl (by omega) he
        | some b =>
          k_call_by "ev" 0
          rw [d1]
          k_call_by "ev" 0
          exact nx dn (some b) rfl (by omega) he
      | false =>
        k_call_by "ev" 0
        rw [d1]
        k_call_by "ev" 0
        cases o with
        | none =>
          k_call_by "ev" 0
          exact nx dn none rfl (by omega) he
        | some b =>
          have e8 : (dn ++ opn (some b)).map sD = dn.map sD ++ [sD (b, none)] := by simp [opn]
          rw [e8]
          have a4 : atI (dn.map sD ++ [sD (b, none)]) (-1) = some (sD (b, none)) := atI_last
          k_call_by "ev" 0
          have e9 : dn.map sD ++ [D.nd DK.tup [vD b, vD m]] = ((dn ++ [(b, some m)]) ++ opn none).map sD := by simp [opn]
          rw [e9]
          exact nx (dn ++ [(b, some m)]) none rfl (by rw [List.length_append]; exact Nat.succ_le_succ hd) (by rw [he]; simp [VR.mk])
  · obtain ⟨dn, o, _, rfl, he, hd, h0, hp⟩ := hI
    rw [List.drop_eq_nil_of_le (by omega)] at he
    k_call_by "ev" 0
    have : VR.mk o [] = opn o := by cases o <;> rfl
    rw [he, this] at k
    exact k
end K04

end
section

namespace K04
theorem insT_len (k : List Int) : ∀ l, (insT k l).length ≤ l.length + 1
  | [] => Nat.le_refl _
  | x :: xs => by
    have := insT_len k xs
    show (if k = x then x :: xs else if HT.lexLt k x = true then k :: x :: xs else x :: insT k xs).length ≤ _
    split
    · simp
    · split
      · simp
      · rw [List.length_cons, List.length_cons]; omega
theorem sortT_len : ∀ l, (sortT l).length ≤ l.length
  | [] => Nat.le_refl _
  | k :: ks => by
    have h1 := insT_len k (sortT ks)
    have h2 := sortT_len ks
    show (insT k (sortT ks)).length ≤ ks.length + 1
    omega
theorem zip_self {α β : Type} (f : α → β) : ∀ l : List α, l.zip (l.map f) = l.map fun a => (a, f a)
  | [] => rfl
  | a :: l => by rw [List.map_cons, List.zip_cons_cons, zip_self f l, List.map_cons]
theorem flags_map (ms : List VR.V) (G : VR.V → Bool) : (ms.map fun v => vD v).map (fun d => D.bl (G (vals d))) = (ms.map G).map .bl := by
  rw [List.map_map, List.map_map]
  exact List.map_congr_left fun v _ => by
    show D.bl (G (vals (vD v))) = .bl (G v)
    rw [vals_vD]
theorem made_len (ms : List VR.V) (F : VR.V → Bool) : (VR.made ms F).length ≤ ms.length := by
  have h := mk_len (ms.map fun m => (m, F m)) none
  rw [List.length_map] at h
  exact h
theorem marks_len {rs : List (List VR.S)} : (VR.marks rs).length ≤ (rs.flatMap VR.pts).length + 1 := sortT_len _
theorem lout_ok {r : List VR.S} {Q : T → List T → Prop} (hl : (VR.pts r).length ≤ 62) (hg : Good r) (k : Q (.fz (rD (VR.lout r))) [.fz (rD r)]) : Fok (d_law_outside [.fz (rD r)]) Q := by
  refine F_law_outside ?_
  unfold m_law_outside
  have hl' : ([r].flatMap VR.pts).length ≤ 62 := by simpa using hl
  k_call_by "ev" 0
  refine marks_ok (rs := [r]) (Nat.le_of_ble_eq_true rfl) hl' (fun x hx => by
    have : x = r := by simpa using hx
    rw [this]; exact hg) ?_
  have hml := marks_len (rs := [r])
  k_call_by "ev" 0
  refine lc_fun (fun d => .bl (!VR.has r (vals d))) (fun ρ => ρ = [some (.fz (rD r)), some (.fz (.nd .lst ((VR.marks [r]).map fun v => vD v))), none]) (fun d ρ hd hr => ?_) rfl fun ρ' hr => ?_
  · subst hr
    obtain ⟨v, _, rfl⟩ := List.mem_map.mp hd
    rw [vals_vD]
    k_call_by "ev" 0
    refine has_ok ?_
    k_call_by "ev" 0
    rfl
  · subst hr
    rw [flags_map (VR.marks [r]) fun v => !VR.has r v]
    refine ⟨small_of (by rw [List.length_map, List.length_map]; omega), ?_⟩
    k_call_by "ev" 0
    refine made_ok (by omega) (by rw [List.length_map]) ?_
    rw [zip_self]
    k_call_by "ev" 0
    exact k
theorem lboth_ok {r s : List VR.S} {Q : T → List T → Prop} (hl : (VR.pts r).length + (VR.pts s).length ≤ 62) (hg : Good r) (hg2 : Good s) (k : Q (.fz (rD (VR.lboth r s))) [.fz (rD r), .fz (rD s)]) : Fok (d_law_both [.fz (rD r), .fz (rD s)]) Q := by
  refine F_law_both ?_
  unfold m_law_both
  have hl' : ([r, s].flatMap VR.pts).length ≤ 62 := by simpa using hl
  k_call_by "ev" 0
  refine marks_ok (rs := [r, s]) (Nat.le_of_ble_eq_true rfl) hl' (fun x hx => by
    have : x = r ∨ x = s := by simpa using hx
    rcases this with rfl | rfl
    · exact hg
    · exact hg2) ?_
  have hml := marks_len (rs := [r, s])
  k_call_by "ev" 0
  refine lc_fun (fun d => .bl (VR.has r (vals d) && VR.has s (vals d))) (fun ρ => ρ = [some (.fz (rD r)), some (.fz (rD s)), some (.fz (.nd .lst ((VR.marks [r, s]).map fun v => vD v))), none]) (fun d ρ hd hr => ?_) rfl fun ρ' hr => ?_
  · subst hr
    obtain ⟨v, _, rfl⟩ := List.mem_map.mp hd
    rw [vals_vD]
    k_call_by "ev" 0
    refine has_ok ?_
    cases z : VR.has r v with
    | true =>
      k_call_by "ev" 0
      refine has_ok ?_
      k_call_by "ev" 0
      rfl
    | false =>
      k_call_by "ev" 0
      rfl
  · subst hr
    rw [flags_map (VR.marks [r, s]) fun v => VR.has r v && VR.has s v]
    refine ⟨small_of (by rw [List.length_map, List.length_map]; omega), ?_⟩
    k_call_by "ev" 0
    refine made_ok (by omega) (by rw [List.length_map]) ?_
    rw [zip_self]
    k_call_by "ev" 0
    exact k
local macro_rules | `(tactic| k_call_by "call" 0) => `(tactic| ((with_reducible apply draw_ok); assumption; (first | decide | omega); intro _ _ _ _ _))
/-- a drawn version -/
def Ver (v : VR.V) : Prop := v.length = 3 ∧ ∀ x ∈ v, 0 ≤ x ∧ x ≤ 1000000
theorem ver3 {a b c : Int} (ha : 0 ≤ a ∧ a ≤ 1000000) (hb : 0 ≤ b ∧ b ≤ 1000000) (hc : 0 ≤ c ∧ c ≤ 1000000) : Ver [a, b, c] := ⟨rfl, fun x hx => by
  have : x = a ∨ x = b ∨ x = c := by simpa using hx
  rcases this with rfl | rfl | rfl
  · exact ha
  · exact hb
  · exact hc⟩
theorem version_ok {t : T} {Q : T → List T → Prop} (h : HandOk t) (k : ∀ v t', Ver v → HandOk t' → Q (.fz (vD v)) [t']) : Fok (d_law_version [t]) Q := by
  refine F_law_version ?_
  unfold m_law_version
  k_call_by "ev" 0
  rename_i kind t1 k0 k1 h1
  cases z : decide (kind = 0) with
  | true =>
    k_call_by "ev" 0
    refine lc_map (P := fun _ r => ∃ x : Int, (0 ≤ x ∧ x ≤ 1000000) ∧ r = .int x) (fun ρ => ∃ t, HandOk t ∧ ρ = [some t, some (.fz (.int kind)), none, none]) (fun d ρ hr => ?_) _ ⟨t1, h1, rfl⟩ fun rs ρ' f hr => ?_
    · obtain ⟨t2, h2, rfl⟩ := hr
      k_call_by "ev" 0
      rename_i x t3 x0 x1 h3
      refine some_ok h3 ⟨Nat.le_of_ble_eq_true rfl, Nat.le_of_ble_eq_true rfl⟩ fun d t2 hd h2 => ?_
      obtain ⟨m, hm, rfl⟩ : ∃ m : Int, (0 ≤ m ∧ m ≤ 1000000) ∧ d = .int m := by
        simp only [List.mem_cons, List.not_mem_nil, or_false] at hd
        rcases hd with rfl | rfl | rfl | rfl | rfl | rfl | rfl
        · exact ⟨0, by omega, rfl⟩
        · exact ⟨1, by omega, rfl⟩
        · exact ⟨9, by omega, rfl⟩
        · exact ⟨10, by omega, rfl⟩
        · exact ⟨99, by omega, rfl⟩
        · exact ⟨999999, by omega, rfl⟩
        · exact ⟨x, by omega, rfl⟩
      k_call_by "ev" 0
      refine ⟨⟨m, hm, rfl⟩, ?_⟩
      k_call_by "ev" 0
      exact ⟨_, h2, rfl⟩
    · obtain ⟨t2, h2, rfl⟩ := hr
      obtain ⟨xs, rfl, e2, e3⟩ := F2_map (R := fun x : Int => 0 ≤ x ∧ x ≤ 1000000) (f := D.int) f fun a b h => h
      have e2 : xs.length = 3 := e2
      refine ⟨small_of (by rw [List.length_map]; omega), ?_⟩
      k_call_by "ev" 0
      exact k xs _ ⟨e2, e3⟩ h2
  | false =>
    k_call_by "ev" 0
    refine some_ok h1 ⟨Nat.le_of_ble_eq_true rfl, Nat.le_of_ble_eq_true rfl⟩ fun d t2 hd h2 => ?_
    obtain ⟨m, hm, rfl⟩ : ∃ m : Int, (2 ≤ m ∧ m ≤ 4) ∧ d = .int m := by
      simp only [List.mem_cons, List.not_mem_nil, or_false] at hd
      rcases hd with rfl | rfl | rfl | rfl
      · exact ⟨2, by omega, rfl⟩
      · exact ⟨3, by omega, rfl⟩
      · exact ⟨3, by omega, rfl⟩
      · exact ⟨4, by omega, rfl⟩
    k_call_by "ev" 0
    rename_i a t3 a0 a1 h3 b t4 b0 b1 h4 c t5 c0 c1 h5
    exact k [a, b, c] _ (ver3 ⟨a0, by omega⟩ ⟨b0, by omega⟩ ⟨c0, by omega⟩) h5
local macro_rules | `(tactic| k_call_by "call" 0) => `(tactic| first
  | ((with_reducible apply version_ok); assumption; intro _ _ _ _)
  | ((with_reducible apply deep_ok); intro _ _))
theorem odd_version_ok {t : T} {v : VR.V} {Q : T → List T → Prop} (h : HandOk t) (hv : v.length = 3) (k : ∀ d t', HandOk t' → Q (.fz d) [t', .fz (vD v)]) : Fok (d_law_odd_version [t, .fz (vD v)]) Q := by
  refine F_law_odd_version ?_
  unfold m_law_odd_version
  k_call_by "ev" 0
  refine some_ok (by assumption) ⟨?_, ?_⟩ fun d t2 hd h2 => ?_
  · simp only [List.length_append, List.length_cons]
    omega
  · simp only [List.length_append, List.length_cons, List.length_nil]
    omega
  k_call_by "ev" 0
  exact k _ _ h2
def lenOk (d : D) : Prop := ∀ kk ds, d = .nd kk ds → ds.length ≤ 14
theorem lenOk_nd {k : DK} {ds : List D} (h : ds.length ≤ 14) : lenOk (.nd k ds) := fun kk es e => by cases e; exact h
end K04

end
section

namespace K04
local macro_rules | `(tactic| k_call_by "call" 0) => `(tactic| first
  | ((with_reducible apply draw_ok); assumption; (first | decide | omega); intro _ _ _ _ _)
  | ((with_reducible apply version_ok); assumption; intro _ _ _ _)
  | ((with_reducible apply deep_ok); intro _ _))
/-! what is made of marks is a range -/
theorem mk_okR : ∀ {l : List (VR.V × Bool)} {v : VR.V}, VR.asc (l.map (·.1)) → (∀ p ∈ l, VR.lt v p.1 = true) → VR.okR (some v) (VR.mk none l) ∧ ∀ b, VR.lt v b = true → (∀ p ∈ l, VR.lt b p.1 = true) → VR.okR (some v) (VR.mk (some b) l)
  | [], v, _, _ => ⟨trivial, fun b hb _ => ⟨hb, rfl, trivial⟩⟩
  | (m, f) :: r, v, ha, h => by
    have ha2 := List.pairwise_cons.mp ha
    have hm := h (m, f) (List.mem_cons_self ..)
    have hr : ∀ p ∈ r, VR.lt m p.1 = true := fun p hp => ha2.1 p.1 (List.mem_map_of_mem hp)
    have hvr : ∀ p ∈ r, VR.lt v p.1 = true := fun p hp => h p (List.mem_cons_of_mem _ hp)
    refine ⟨?_, fun b hb hbl => ?_⟩
    · show VR.okR (some v) (if f = true then VR.mk (some m) r else VR.mk none r)
      cases f with
      | true => exact (mk_okR ha2.2 hvr).2 m hm hr
      | false => exact (mk_okR ha2.2 hvr).1
    · have hbm := hbl (m, f) (List.mem_cons_self ..)
      show VR.okR (some v) (if f = true then VR.mk (some b) r else (b, some m) :: VR.mk none r)
      cases f with
      | true => exact (mk_okR ha2.2 hvr).2 b hb fun p hp => hbl p (List.mem_cons_of_mem _ hp)
      | false => exact ⟨hb, hbm, (mk_okR ha2.2 hr).1⟩
theorem mk_okR0 : ∀ {l : List (VR.V × Bool)} {z : VR.V}, VR.asc (l.map (·.1)) → (∀ p ∈ l, VR.lt p.1 z = false) → VR.okR0 z (VR.mk none l) ∧ ∀ b, VR.lt b z = false → (∀ p ∈ l, VR.lt b p.1 = true) → VR.okR0 z (VR.mk (some b) l)
  | [], z, _, _ => ⟨trivial, fun b hb _ => ⟨hb, rfl, trivial⟩⟩
  | (m, f) :: r, z, ha, h => by
    have ha2 := List.pairwise_cons.mp ha
    have hm := h (m, f) (List.mem_cons_self ..)
    have hr : ∀ p ∈ r, VR.lt m p.1 = true := fun p hp => ha2.1 p.1 (List.mem_map_of_mem hp)
    have hvr : ∀ p ∈ r, VR.lt p.1 z = false := fun p hp => h p (List.mem_cons_of_mem _ hp)
    refine ⟨?_, fun b hb hbl => ?_⟩
    · show VR.okR0 z (if f = true then VR.mk (some m) r else VR.mk none r)
      cases f with
      | true => exact (mk_okR0 ha2.2 hvr).2 m hm hr
      | false => exact (mk_okR0 ha2.2 hvr).1
    · have hbm := hbl (m, f) (List.mem_cons_self ..)
      show VR.okR0 z (if f = true then VR.mk (some b) r else (b, some m) :: VR.mk none r)
      cases f with
      | true => exact (mk_okR0 ha2.2 hvr).2 b hb fun p hp => hbl p (List.mem_cons_of_mem _ hp)
      | false => exact ⟨hb, hbm, (mk_okR ha2.2 hr).1⟩
theorem mk_pts : ∀ {l : List (VR.V × Bool)} {o : Option VR.V} {v : VR.V}, v ∈ VR.pts (VR.mk o l) → (∃ f, (v, f) ∈ l) ∨ o = some v
  | [], none, v, h => by cases h
  | [], some b, v, h => by
    have : v = b := by simpa [VR.mk, VR.pts, VR.ends] using h
    exact .inr (by rw [this])
  | (m, f) :: r, none, v, h => by
    have h : v ∈ VR.pts (if f = true then VR.mk (some m) r else VR.mk none r) := h
    cases f with
    | true =>
      rcases mk_pts (show v ∈ VR.pts (VR.mk (some m) r) from h) with ⟨g, h⟩ | h
      · exact .inl ⟨g, List.mem_cons_of_mem _ h⟩
      · cases h
        exact .inl ⟨true, List.mem_cons_self ..⟩
    | false =>
      rcases mk_pts (show v ∈ VR.pts (VR.mk none r) from h) with ⟨g, h⟩ | h
      · exact .inl ⟨g, List.mem_cons_of_mem _ h⟩
      · cases h
  | (m, f) :: r, some b, v, h => by
    have h : v ∈ VR.pts (if f = true then VR.mk (some b) r else (b, some m) :: VR.mk none r) := h
    cases f with
    | true =>
      rcases mk_pts (show v ∈ VR.pts (VR.mk (some b) r) from h) with ⟨g, h⟩ | h
      · exact .inl ⟨g, List.mem_cons_of_mem _ h⟩
      · exact .inr h
    | false =>
      have h : v ∈ VR.ends (b, some m) ++ VR.pts (VR.mk none r) := h
      rcases List.mem_append.mp h with h | h
      · have : v = b ∨ v = m := by simpa [VR.ends] using h
        rcases this with rfl | rfl
        · exact .inr rfl
        · exact .inl ⟨false, List.mem_cons_self ..⟩
      · rcases mk_pts h with ⟨g, h⟩ | h
        · exact .inl ⟨g, List.mem_cons_of_mem _ h⟩
        · cases h
theorem isV_Ver {v : VR.V} (h : Ver v) : isV 1000000 (vD v) = true := by
  show (decide (((v.map D.int).length : Int) = 3) && (v.map D.int).all (wthn 0 1000000)) = true
  rw [decide_eq_true (by rw [List.length_map, h.1]; rfl), Bool.true_and]
  refine List.all_eq_true.mpr fun d hd => ?_
  obtain ⟨x, hx, rfl⟩ := List.mem_map.mp hd
  show (decide (0 ≤ x) && decide (x ≤ 1000000)) = true
  rw [decide_eq_true (h.2 x hx).1, decide_eq_true (h.2 x hx).2] <;> rfl
theorem isS_sD {s : VR.S} (h : ∀ v ∈ VR.ends s, Ver v) (hb : VR.bel s.1 s.2 = true) : isS (sD s) = true := by
  obtain ⟨l, o⟩ := s
  have hl := isV_Ver (h l (by cases o <;> exact List.mem_cons_self ..))
  cases o with
  | none =>
    show (isV 1000000 (vD l) && (true || _)) = true
    rw [hl] <;> rfl
  | some o =>
    have ho := isV_Ver (h o (List.mem_cons_of_mem _ (List.mem_cons_self ..)))
    show (isV 1000000 (vD l) && (false || (isV 1000000 (vD o) && ltD (vD l) (vD o)))) = true
    rw [hl, ho]
    show HT.lexLt (vals (vD l)) (vals (vD o)) = true
    rw [vals_vD, vals_vD]
    exact hb
theorem isR_of : ∀ {r : List VR.S} {o : Option VR.V}, (∀ v ∈ VR.pts r, Ver v) → VR.okR o r → (r.map sD).all isS = true ∧ adj (r.map sD) = true ∧ ∀ s t, r = s :: t → ∃ w, o = some w ∧ VR.lt w s.1 = true
  | [], _, _, _ => ⟨rfl, rfl, fun _ _ h => nomatch h⟩
  | s :: r, none, _, h => h.elim
  | s :: r, some w, hv, h => by
    obtain ⟨l, o⟩ := s
    obtain ⟨h1, h2, h3⟩ := h
    have hs := isS_sD (s := (l, o)) (fun v hv' => hv v (List.mem_append_left _ hv')) h2
    obtain ⟨g1, g2, g3⟩ := isR_of (fun v hv' => hv v (List.mem_append_right _ hv')) h3
    refine ⟨?_, ?_, fun s t e => by cases e; exact ⟨w, rfl, h1⟩⟩
    · show (isS (sD (l, o)) && (r.map sD).all isS) = true
      rw [hs, g1] <;> rfl
    · cases r with
      | nil => rfl
      | cons t r =>
        obtain ⟨w2, e, hlt⟩ := g3 t r rfl
        show (okE (hD o) (vD t.1) && adj ((t :: r).map sD)) = true
        rw [g2, Bool.and_true]
        subst e
        show (!isN (vD w2) && ltD (vD w2) (vD t.1)) = true
        show (true && HT.lexLt (vals (vD w2)) (vals (vD t.1))) = true
        rw [vals_vD, vals_vD]
        exact hlt
theorem isR_of0 {r : List VR.S} {z : VR.V} (hv : ∀ v ∈ VR.pts r, Ver v) (h : VR.okR0 z r) : isR (rD r) = true := by
  cases r with
  | nil => rfl
  | cons s r =>
    obtain ⟨l, o⟩ := s
    obtain ⟨h1, h2, h3⟩ := h
    have hs := isS_sD (s := (l, o)) (fun v hv' => hv v (List.mem_append_left _ hv')) h2
    obtain ⟨g1, g2, g3⟩ := isR_of (fun v hv' => hv v (List.mem_append_right _ hv')) h3
    show ((isS (sD (l, o)) && (r.map sD).all isS) && adj ((((l, o) : VR.S) :: r).map sD)) = true
    rw [hs, g1]
    cases r with
    | nil => rfl
    | cons t r =>
      obtain ⟨w2, e, hlt⟩ := g3 t r rfl
      show (true && (okE (hD o) (vD t.1) && adj ((t :: r).map sD))) = true
      rw [g2, Bool.and_true]
      subst e
      show (true && (true && HT.lexLt (vals (vD w2)) (vals (vD t.1)))) = true
      rw [vals_vD, vals_vD]
      exact hlt
/-- a drawn range -/
structure Rng (r : List VR.S) : Prop where
  ok : VR.okR0 VR.zero r
  vs : ∀ v ∈ VR.pts r, Ver v
  ln : r.length ≤ 6
theorem pts_len (r : List VR.S) : (VR.pts r).length ≤ 2 * r.length := by
  induction r with
  | nil => exact Nat.zero_le _
  | cons s r ih =>
    have e : VR.pts (s :: r) = VR.ends s ++ VR.pts r := rfl
    have : (VR.ends s).length ≤ 2 := by
      obtain ⟨l, o⟩ := s
      cases o <;> exact Nat.le_of_ble_eq_true rfl
    rw [e, List.length_append, List.length_cons]
    omega
theorem Rng.isR {r : List VR.S} (h : Rng r) : K04.isR (rD r) = true := isR_of0 h.vs h.ok
theorem Rng.good {r : List VR.S} (h : Rng r) : Good r := fun v hv => ⟨(h.vs v hv).1, fun x hx => ((h.vs v hv).2 x hx).1⟩
theorem ver_zero : Ver VR.zero := ver3 (by omega) (by omega) (by omega)
theorem ver_low {v : VR.V} (h : Ver v) : VR.lt v VR.zero = false := by
  have := (isV_low (isV_Ver h)).1
  rwa [vals_vD] at this
theorem range_ok {t : T} {Q : T → List T → Prop} (h : HandOk t) (k : ∀ r t', Rng r → HandOk t' → Q (.fz (rD r)) [t']) : Fok (d_law_range [t]) Q := by
  refine F_law_range ?_
  unfold m_law_range
  k_call_by "ev" 0
  rename_i n t1 n0 n1 h1
  refine lc_map (P := fun _ r => ∃ v, Ver v ∧ r = vD v) (fun ρ => ∃ t, HandOk t ∧ ρ = [some t, none, none, none]) (fun d ρ hr => ?_) _ ⟨t1, h1, rfl⟩ fun rs ρ' f hr => ?_
  · obtain ⟨t2, h2, rfl⟩ := hr
    k_call_by "ev" 0
    rename_i v t3 hv h3
    refine ⟨⟨v, hv, rfl⟩, ?_⟩
    k_call_by "ev" 0
    exact ⟨_, h3, rfl⟩
  · obtain ⟨t2, h2, rfl⟩ := hr
    obtain ⟨vs, rfl, e2, e3⟩ := F2_map (R := Ver) (f := fun v => vD v) f fun a b h => h
    rw [rng_len] at e2
    refine ⟨small_of (by rw [List.length_map]; omega), ?_⟩
    k_call_by "ev" 0
    have e4 : (vs.map fun v => vD v) ++ [D.nd .tup [.int 0, .int 0, .int 0]] = (vs ++ [VR.zero]).map fun v => vD v := by
      rw [List.map_append]
      rfl
    rw [e4]
    have hver : ∀ v ∈ vs ++ [VR.zero], Ver v := fun v hv => by
      rcases List.mem_append.mp hv with hv | hv
      · exact e3 v hv
      · have : v = VR.zero := by simpa using hv
        rw [this]
        exact ver_zero
    have hvl : (vs ++ [VR.zero]).length ≤ 6 := by rw [List.length_append, List.length_singleton]; omega
    refine FB_sort (by omega) (fun v hv => ⟨(hver v hv).1, fun x hx => ((hver v hv).2 x hx).1⟩) ?_
    have hml := sortT_len (vs ++ [VR.zero])
    k_call_by "ev" 0
    generalize hms : sortT (vs ++ [VR.zero]) = ms at *
    refine lc_map (P := fun _ r => ∃ b : Bool, True ∧ r = .bl b) (fun ρ => ∃ t, HandOk t ∧ ρ = [some t, some (.fz (.nd .lst (ms.map fun v => vD v))), none, none]) (fun d ρ hr => ?_) _ ⟨_, h2, rfl⟩ fun rs ρ' f2 hr => ?_
    · obtain ⟨t3, h3, rfl⟩ := hr
      k_call_by "ev" 0
      refine ⟨⟨_, trivial, rfl⟩, ?_⟩
      k_call_by "ev" 0
      exact ⟨_, by assumption, rfl⟩
    · obtain ⟨t3, h3, rfl⟩ := hr
      obtain ⟨bs, rfl, e5, _⟩ := F2_map (R := fun _ : Bool => True) (f := D.bl) f2 fun a b h => h
      rw [List.length_map] at e5
      refine ⟨small_of (by rw [List.length_map]; omega), ?_⟩
      k_call_by "ev" 0
      refine made_ok (by omega) e5 ?_
      k_call_by "ev" 0
      have hz : (ms.zip bs).map (·.1) = ms := List.map_fst_zip (by omega)
      have hmem : ∀ p ∈ ms.zip bs, Ver p.1 := fun p hp => by
        have : p.1 ∈ ms := by
          rw [← hz]
          exact List.mem_map_of_mem hp
        rw [← hms] at this
        exact hver _ (sortT_mem.mp this)
      refine k _ _ ⟨?_, fun v hv => ?_, ?_⟩ h3
      · refine (mk_okR0 ?_ fun p hp => ver_low (hmem p hp)).1
        rw [hz, ← hms]
        exact sortT_asc _
      · rcases mk_pts hv with ⟨g, hg⟩ | hg
        · exact hmem _ hg
        · cases hg
      · have := mk_len (ms.zip bs) none
        rw [List.length_zip] at this
        have e0 : (opn none).length = 0 := rfl
        omega
end K04

end
section

namespace K04
local macro_rules | `(tactic| k_call_by "call" 0) => `(tactic| first
  | ((with_reducible apply draw_ok); assumption; (first | decide | omega); intro _ _ _ _ _)
  | ((with_reducible apply version_ok); assumption; intro _ _ _ _)
  | ((with_reducible apply range_ok); assumption; intro _ _ _ _)
  | ((with_reducible apply odd_version_ok); assumption; assumption; intro _ _ _)
  | ((with_reducible apply deep_ok); intro _ _)
  | with_reducible apply flag_ok
  | with_reducible apply is_version_ok
  | with_reducible apply law_is_version_ok)
theorem cutD_len (ds : List D) (lo hi : Option Int) : (cutD ds lo hi).length ≤ ds.length := by
  unfold cutD
  rw [List.length_take, List.length_drop]
  omega
theorem odd_range_ok {t : T} {r : List VR.S} {Q : T → List T → Prop} (h : HandOk t) (hr : Rng r) (k : ∀ d t', lenOk d → HandOk t' → Q (.fz d) [t', .fz (rD r)]) : Fok (d_law_odd_range [t, .fz (rD r)]) Q := by
  refine F_law_odd_range ?_
  unfold m_law_odd_range
  have hl := hr.ln
  have small6 : (r.map sD).length ≤ 6 := by rw [List.length_map]; exact hl
  have m1 : ∀ d, d ∈ [D.non, .nd .lst [], .nd .tup [.non], .nd .tup [.nd .tup [.nd .tup [.int 0, .int 0, .int 0]]], .str "*", .int 0, .nd (.dic []) [], rD r, .nd .lst (r.map sD), .nd .tup [.nd .tup [], .nd .tup []]] → lenOk d := fun d hd => by
    simp only [List.mem_cons, List.not_mem_nil, or_false] at hd
    rcases hd with rfl | rfl | rfl | rfl | rfl | rfl | rfl | rfl | rfl | rfl <;> first
      | exact lenOk_nd (Nat.le_of_ble_eq_true rfl)
      | exact lenOk_nd (by omega)
      | exact fun kk ds e => by cases e
  k_call_by "ev" 0
  cases r with
  | nil =>
    k_call_by "ev" 0
    rename_i dd hdd
    refine some_ok (by assumption) ⟨Nat.le_of_ble_eq_true rfl, Nat.le_of_ble_eq_true rfl⟩ fun d t2 hd h2 => ?_
    k_call_by "ev" 0
    refine k _ _ ?_ h2
    by_cases e : d = dd
    · rw [e]; exact hdd
    · refine m1 d ?_
      simp only [List.mem_cons, List.not_mem_nil, or_false] at hd ⊢
      simpa only [e, false_or] using hd
  | cons s r' =>
    rw [show decide ((((s :: r').map sD).length : Int) = 0) = false from decide_eq_false (by simp only [List.length_map, List.length_cons]; omega)]
    have hn : 1 ≤ ((s :: r').map sD).length := by simp only [List.length_map, List.length_cons]; omega
    k_call_by "ev" 0
    rename_i z t1 z0 z1 h1
    cases hz : decide (z = 0) with
    | true =>
      k_call_by "ev" 0
      rename_i dd hdd
      refine some_ok (by assumption) ⟨Nat.le_of_ble_eq_true rfl, Nat.le_of_ble_eq_true rfl⟩ fun d t2 hd h2 => ?_
      k_call_by "ev" 0
      refine k _ _ ?_ h2
      by_cases e : d = dd
      · rw [e]; exact hdd
      · refine m1 d ?_
        simp only [List.mem_cons, List.not_mem_nil, or_false] at hd ⊢
        simpa only [e, false_or] using hd
    | false =>
      k_call_by "ev" 0
      rename_i at_ t2 a0 a1 h2
      have hat : at_.toNat < (s :: r').length := by
        rw [List.length_map] at a1
        omega
      have e1 : atI ((s :: r').map sD) at_ = some (sD ((s :: r')[at_.toNat])) := by
        have := atN (xs := (s :: r').map sD) (n := at_.toNat) (x := sD ((s :: r')[at_.toNat])) (by rw [List.getElem?_map, List.getElem?_eq_getElem hat]; rfl)
        rwa [show (at_.toNat : Int) = at_ by omega] at this
      have hmem : (s :: r')[at_.toNat] ∈ s :: r' := List.getElem_mem hat
      generalize (s :: r')[at_.toNat] = p at *
      obtain ⟨l, o⟩ := p
      have hv3 : List.length l = 3 := (hr.vs l (List.mem_flatMap.mpr ⟨(l, o), hmem, by cases o <;> exact List.mem_cons_self ..⟩)).1
      k_call_by "ev" 0
      refine some_ok (by assumption) ⟨Nat.le_of_ble_eq_true rfl, Nat.le_of_ble_eq_true rfl⟩ fun d t3 hd h3 => ?_
      have hl2 : r'.length + 1 ≤ 6 := hl
      have c1 : (cutD ((s :: r').map sD) none (some at_)).length ≤ 6 := Nat.le_trans (cutD_len _ _ _) small6
      have c2 : (cutD ((s :: r').map sD) (some (at_ + 1)) none).length ≤ 6 := Nat.le_trans (cutD_len _ _ _) small6
      have c3 : (cutD ((s :: r').map sD) none (some 1)).length ≤ 6 := Nat.le_trans (cutD_len _ _ _) small6
      have c4 : (cutD ((s :: r').map sD) (some 1) none).length ≤ 6 := Nat.le_trans (cutD_len _ _ _) small6
      k_call_by "ev" 0
      refine some_ok (by assumption) ⟨Nat.le_of_ble_eq_true rfl, Nat.le_of_ble_eq_true rfl⟩ fun d2 t4 hd2 h4 => ?_
      k_call_by "ev" 0
      refine k _ _ ?_ h4
      simp only [List.mem_cons, List.not_mem_nil, or_false] at hd2
      rcases hd2 with rfl | rfl | rfl | rfl
      · exact lenOk_nd (by simp only [List.length_append, List.length_cons, List.length_nil]; omega)
      · exact lenOk_nd (by rw [List.length_reverse]; omega)
      · exact lenOk_nd (by simp only [List.length_append] at *; omega)
      · exact lenOk_nd (by omega)
theorem mk_len2 : ∀ (l : List (VR.V × Bool)), 2 * (VR.mk none l).length ≤ l.length + 1 ∧ ∀ b, 2 * (VR.mk (some b) l).length ≤ l.length + 2
  | [] => ⟨Nat.le_of_ble_eq_true rfl, fun _ => Nat.le_of_ble_eq_true rfl⟩
  | (m, f) :: r => by
    obtain ⟨h1, h2⟩ := mk_len2 r
    refine ⟨?_, fun b => ?_⟩
    · show 2 * (if f = true then VR.mk (some m) r else VR.mk none r).length ≤ r.length + 1 + 1
      have := h2 m
      split <;> omega
    · show 2 * (if f = true then VR.mk (some b) r else (b, some m) :: VR.mk none r).length ≤ r.length + 1 + 2
      have := h2 b
      split
      · omega
      · rw [List.length_cons]; omega
theorem lout_pts {s : List VR.S} (h : s.length ≤ 14) : (VR.pts (VR.lout s)).length ≤ 30 := by
  have h1 := pts_len (VR.lout s)
  have h2 := (mk_len2 ((VR.marks [s]).map fun m => (m, !VR.has s m))).1
  have h3 := marks_len (rs := [s])
  have h4 := pts_len s
  have h5 : ([s].flatMap VR.pts).length = (VR.pts s).length := by simp
  rw [List.length_map] at h2
  have h6 : (VR.lout s).length = (VR.mk none ((VR.marks [s]).map fun m => (m, !VR.has s m))).length := rfl
  omega
theorem lout_good {s : List VR.S} (h : Good s) : Good (VR.lout s) := fun v hv => by
  rcases mk_pts hv with ⟨g, hg⟩ | hg
  · obtain ⟨m, hm, e⟩ := List.mem_map.mp hg
    cases e
    rcases VR.marks_mem.mp hm with rfl | ⟨x, hx, hp⟩
    · exact ⟨rfl, fun x hx => (ver_zero.2 x hx).1⟩
    · have : x = s := by simpa using hx
      rw [this] at hp
      exact h v hp
  · cases hg
theorem isR_good {s : List VR.S} (h : isR (rD s) = true) : Good s := fun v hv => by
  have h1 := (Bool.and_eq_true_iff.mp (show ((s.map sD).all isS && adj (s.map sD)) = true from h)).1
  obtain ⟨x, hx, hv⟩ := List.mem_flatMap.mp hv
  have hs := List.all_eq_true.mp h1 (sD x) (List.mem_map_of_mem hx)
  obtain ⟨a, b, e, ha, hb⟩ := isS_2 hs
  obtain ⟨l, o⟩ := x
  have el : vD l = a := by
    cases e
    rfl
  have eo : hD o = b := by
    cases e
    rfl
  have good : ∀ d, isV 1000000 d = true → (vals d).length = 3 ∧ ∀ x ∈ vals d, 0 ≤ x := fun d hd => (isV_low hd).2
  cases o with
  | none =>
    have : v = l := by simpa [VR.ends] using hv
    rw [this, ← vals_vD l, el]
    exact good a ha
  | some w =>
    have : v = l ∨ v = w := by simpa [VR.ends] using hv
    rcases this with rfl | rfl
    · rw [← vals_vD v, el]
      exact good a ha
    · rcases hb with hn | ⟨_, hb, _⟩
      · rw [← eo] at hn
        cases hn
      · rw [← vals_vD v, show vD v = b from eo]
        exact good b hb
theorem vD_inj {a b : VR.V} (h : vD a = vD b) : a = b := by
  have := congrArg vals h
  rwa [vals_vD, vals_vD] at this
theorem hD_inj {a b : Option VR.V} (h : hD a = hD b) : a = b := by
  cases a <;> cases b
  · rfl
  · cases h
  · cases h
  · exact congrArg some (vD_inj h)
theorem sD_inj {a b : VR.S} (h : sD a = sD b) : a = b := by
  obtain ⟨a1, a2⟩ := a
  obtain ⟨b1, b2⟩ := b
  have h1 : vD a1 = vD b1 := congrArg sLo h
  have h2 : hD a2 = hD b2 := congrArg sHi h
  rw [vD_inj h1, hD_inj h2]
theorem rD_inj {a b : List VR.S} (h : rD a = rD b) : a = b := by
  have h1 : a.map sD = b.map sD := (D.nd.inj h).2
  exact (List.map_inj_right fun x y e => sD_inj e).mp h1
theorem has_zero {r : List VR.S} {v : VR.V} (h : VR.okR0 VR.zero r) (hv : VR.has r v = true) : VR.lt v VR.zero = false := by
  cases r with
  | nil => cases hv
  | cons s r =>
    obtain ⟨l, o⟩ := s
    obtain ⟨h1, h2, h3⟩ := h
    have hv : (VR.inS v (l, o) || VR.has r v) = true := hv
    rcases Bool.or_eq_true_iff.mp hv with h | h
    · have h4 := (Bool.and_eq_true_iff.mp (show (!VR.lt v l && VR.bel v o) = true from h)).1
      exact VR.nlt_tr h1 (by simpa using h4)
    · cases o with
      | none =>
        cases r with
        | nil => cases h
        | cons s r => exact h3.elim
      | some w =>
        cases z : VR.lt v VR.zero with
        | false => rfl
        | true =>
          have h5 : VR.lt v w = true := VR.lt_tr (VR.lt_le z h1) h2
          rw [VR.has_low h3 h5] at h
          cases h
theorem isEmpty_iff {α β : Type} {a : List α} {b : List β} (h : a = [] ↔ b = []) : a.isEmpty = b.isEmpty := by
  cases a <;> cases b <;> simp_all
/-- one turn, all turns -/
theorem lenOk.big {d : D} (h : lenOk d) : ∀ kk ds, d = .nd kk ds → ds.length ≤ 100000 := fun kk ds e => Nat.le_trans (h kk ds e) (Nat.le_of_ble_eq_true rfl)
theorem rD_len {r : List VR.S} (h : Rng r) : lenOk (rD r) := lenOk_nd (by rw [List.length_map]; have := h.ln; omega)
local macro_rules | `(tactic| k_call_by "call" 0) => `(tactic| first
  | ((with_reducible apply is_range_ok); exact lenOk.big (by assumption))
  | with_reducible apply law_is_range_ok
  | ((with_reducible apply odd_range_ok); assumption; assumption; intro _ _ _ _))
theorem law_yes : LawYes d_law := fun ns _ => by
  suffices h : Fok (d_law [script ns]) fun r _ => r = .fz (.bl true) by
    obtain ⟨r, ts, e, rfl⟩ := h
    exact ⟨ts, e⟩
  refine F_law ?_
  unfold m_law
  have hs : script ns = .fz (.nd .ll (ns.map D.int)) := rfl
  k_call_by "ev" 0
  refine hand_ok fun t _ ht => ?_
  k_call_by "ev" 0
  refine for_inv (fun _ ρ => ∃ t a b c d e f, HandOk t ∧ ρ = [some (script ns), some t, a, b, c, d, e, f]) (fun d ds ρ hI => ?_) (fun ρ hI => ?_) _ ⟨t, _, _, _, _, _, _, ht, rfl⟩
  · obtain ⟨t, _, _, _, _, _, _, ht, rfl⟩ := hI
    k_call_by "ev" 0
    rename_i v t1 hv h1 r t2 hr h2
    have hiv := isV_Ver hv
    have hir := hr.isR
    have hrl := rD_len hr
    have hv3 := hv.1
    rw [hiv]
    k_call_by "ev" 0
    rw [hir]
    k_call_by "ev" 0
    rw [beq_self_eq_true, Bool.not_true]
    k_call_by "ev" 0
    rw [beq_self_eq_true, Bool.not_true]
    k_call_by "ev" 0
    rename_i th t4 hth h4
    cases hR : isR th with
    | false =>
      k_call_by "ev" 0
      refine is_part_ok (by have := hr.ln; omega) (fun kk ds e => Nat.le_trans (hth kk ds e) (Nat.le_of_ble_eq_true rfl)) (fun _ => ?_) fun s e _ z _ => by rw [hR] at z; cases z
      k_call_by "ev" 0
      cases r with
      | nil =>
        rw [show decide (((List.map sD []).length : Int) > 0) = false from rfl]
        have hd : lenOk (.nd .tup [.nd .tup [vD v, vD v]]) := lenOk_nd (Nat.le_of_ble_eq_true rfl)
        k_call_by "ev" 0
        rw [beq_self_eq_true, Bool.not_true]
        k_call_by "ev" 0
        exact ⟨_, _, _, _, _, _, _, h4, rfl⟩
      | cons s0 r' =>
        obtain ⟨l0, o0⟩ := s0
        rw [show decide (((List.map sD ((l0, o0) :: r')).length : Int) > 0) = true from decide_eq_true (by rw [List.map_cons, List.length_cons]; omega)]
        have e0 : atI (List.map sD ((l0, o0) :: r')) 0 = some (sD (l0, o0)) := atN (n := 0) rfl
        have c3 : (cutD (((l0, o0) :: r').map sD) none (some 1)).length ≤ 6 := Nat.le_trans (cutD_len _ _ _) (by rw [List.length_map]; exact hr.ln)
        have hd : lenOk (.nd .tup (cutD (((l0, o0) :: r').map sD) none (some 1) ++ [.nd .tup [hD o0, .non]])) := lenOk_nd (by rw [List.length_append, List.length_singleton]; omega)
        k_call_by "ev" 0
        rw [beq_self_eq_true, Bool.not_true]
        k_call_by "ev" 0
        exact ⟨_, _, _, _, _, _, _, h4, rfl⟩
    | true =>
      obtain ⟨s, rfl, hs0, hsl⟩ := isR_rD hR
      have hs14 : s.length ≤ 14 := by
        have := hth _ _ rfl
        rwa [List.length_map] at this
      have hgs := isR_good hR
      have hp := pts_len s
      k_call_by "ev" 0
      refine lout_ok (by omega) hgs ?_
      k_call_by "ev" 0
      have hlp := lout_pts hs14
      have hrp := pts_len r
      have hrl6 := hr.ln
      refine lboth_ok (by omega) hr.good (lout_good hgs) ?_
      k_call_by "ev" 0
      refine FB_eq (eqD_nil _) ?_
      k_call_by "ev" 0
      refine is_part_ok (by omega) (fun kk ds e => Nat.le_trans (hth kk ds e) (Nat.le_of_ble_eq_true rfl)) (fun z => by rw [hR] at z; cases z) fun s2 e2 _ _ _ => ?_
      have es := rD_inj e2
      subst es
      rw [isEmpty_iff (VR.part_same hs0 fun v hv => has_zero hr.ok hv)]
      k_call_by "ev" 0
      rw [beq_self_eq_true, Bool.not_true]
      k_call_by "ev" 0
      cases r with
      | nil =>
        rw [show decide (((List.map sD []).length : Int) > 0) = false from rfl]
        have hd : lenOk (.nd .tup [.nd .tup [vD v, vD v]]) := lenOk_nd (Nat.le_of_ble_eq_true rfl)
        k_call_by "ev" 0
        rw [beq_self_eq_true, Bool.not_true]
        k_call_by "ev" 0
        exact ⟨_, _, _, _, _, _, _, h4, rfl⟩
      | cons s0 r' =>
        obtain ⟨l0, o0⟩ := s0
        rw [show decide (((List.map sD ((l0, o0) :: r')).length : Int) > 0) = true from decide_eq_true (by rw [List.map_cons, List.length_cons]; omega)]
        have e0 : atI (List.map sD ((l0, o0) :: r')) 0 = some (sD (l0, o0)) := atN (n := 0) rfl
        have c3 : (cutD (((l0, o0) :: r').map sD) none (some 1)).length ≤ 6 := Nat.le_trans (cutD_len _ _ _) (by rw [List.length_map]; exact hr.ln)
        have hd : lenOk (.nd .tup (cutD (((l0, o0) :: r').map sD) none (some 1) ++ [.nd .tup [hD o0, .non]])) := lenOk_nd (by rw [List.length_append, List.length_singleton]; omega)
        k_call_by "ev" 0
        rw [beq_self_eq_true, Bool.not_true]
        k_call_by "ev" 0
        exact ⟨_, _, _, _, _, _, _, h4, rfl⟩
  · obtain ⟨t, _, _, _, _, _, _, ht, rfl⟩ := hI
    k_call_by "ev" 0
    rfl
end K04

end
end

set_option Elab.async false
set_option linter.all false
set_option maxRecDepth 100000
set_option maxHeartbeats 0
open PySem PySem.W PySem.Calls PyProof.Rows
theorem PySem.Challenge.cw_pinforge_k04_versions_and_ranges_judged_holds : PySem.Challenge.rw_pinforge_k04_versions_and_ranges_judged.Holds := by
  w_on; o_law
  refine HandSHeadRun.head_any (r := OpenLaw.row PySem.Challenge.rw_pinforge_k04_versions_and_ranges_judged) (q := view (OpenLaw.row PySem.Challenge.rw_pinforge_k04_versions_and_ranges_judged).prog [32]) (H := K04.hk) (ob := K04.ob) (M := 20000) (loose := K04.loose) (d := HandSHeadRun.topDef (OpenLaw.row PySem.Challenge.rw_pinforge_k04_versions_and_ranges_judged).prog 32) (kwd := []) K04.ob_eq
    (by kernel_rfl) (fun s => by kernel_rfl) K04.run (by kernel_rfl) (by kernel_rfl) (by kernel_rfl) (by rfl) (by first | assumption | decide +kernel) (by decide +kernel) ⟨rfl, rfl, rfl, rfl, rfl, by decide +kernel⟩ ?hw ?hc
  case hw => w_witness2
  case hc =>
    refine L2.walk_ofE (l := PySem.Challenge.rw_pinforge_k04_versions_and_ranges_judged) (n := 63) (k := 7) (x := "script") (CX := L2.CX0) rfl (by decide) (by kernel_rfl) ⟨rfl, by decide, by decide⟩ ?F (fun _ _ _ _ z => z)
    intro w mg fa h Y G hmg0
    obtain ⟨K, KX, c⟩ := Y
    have hmg : mg ("law" : PySem.Str) = some (.ref fa) := by
      have e : (HandSHeadRun.topDef (OpenLaw.row PySem.Challenge.rw_pinforge_k04_versions_and_ranges_judged).prog 32).name = ("law" : PySem.Str) := by kernel_rfl
      rw [← e]
      exact hmg0
    obtain ⟨fd, hb, hF⟩ := K04.facts (P := (PySem.Challenge.rw_pinforge_k04_versions_and_ranges_judged).prog) (w := w) KX G hmg c
    exact ⟨K, fd, DL.spF K 1 K04.d_law, KX, hb, fun H a ns hl _ hS => DL.law_sp K04.law_yes hl hS, hF⟩
