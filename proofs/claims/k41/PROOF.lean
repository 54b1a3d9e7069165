import PyProof.Rows.All
import HandS.ForMost
import HandS.HeadHook1
import HandS.ExcInit
import HandS.ExcIs
import HandS.IsInst
import HandS.Defaults
import HandS.TupAny
import HandS.TupLe
import HandS.More
import HandS.TupSets
import KE.GoesEnum
import HandS.Style
import HandS.Head0
import HandS.Head1
import HandS.Head2
import HandS.HeadEnd
import HandS.HeadHook2
import PyProof.MaxThree
import HandS.Small
import HandS.NoneIn
import HandS.Steps
import KE.KExcSuper
import HandS.ExcOwn
import HandS.ExcField
import HandS.Nested
import HandS.WordsExc
import HandS.TryOnly
import HandS.Strs
import PyProof.Rows.SortShellAny
import PySem.Challenge.RW_pinforge_k41_whole_locks_there_and_back
set_option Elab.async false
set_option linter.all false
section
set_option Elab.async false
set_option linter.all false
set_option maxRecDepth 100000
set_option maxHeartbeats 2000000
namespace DL
open PySem L2

/-! ### data -/
inductive DK where
  | tup | lst | ll | dic (ks : List Key) | exc (c : Str) (fs : List Str) | ins (c : Str) (fs : List Str)
  deriving DecidableEq
inductive D where
  | non | bl (b : Bool) | int (i : Int) | str (s : Str) | nd (k : DK) (ds : List D)
/-- data of which some nodes are ours to change -/
inductive T where
  | fz (d : D) | nd (k : DK) (ts : List T)
mutual
def T.toD : T → D
  | .fz d => d
  | .nd k ts => .nd k (T.toDs ts)
def T.toDs : List T → List D
  | [] => []
  | t :: ts => t.toD :: T.toDs ts
end
/-- all are frozen -/
def T.fzs : List T → Option (List D)
  | [] => some []
  | .fz d :: ts => (T.fzs ts).map (d :: ·)
  | .nd _ _ :: _ => none
/-- the shallow view: a node of frozen items -/
def T.sh : T → Option D
  | .fz d => some d
  | .nd k ts => (T.fzs ts).map (.nd k)

def Ex (H H' : Hp) : Prop := ∀ a o, H a = some o → H' a = some o
theorem Ex.refl (H : Hp) : Ex H H := fun _ _ h => h
theorem Ex.trans {H H1 H2 : Hp} (a : Ex H H1) (b : Ex H1 H2) : Ex H H2 := fun x o h => b x o (a x o h)
theorem Ex.new {H : Hp} {p : Addr} {o : HO} (h : H p = none) : Ex H (upd H p o) := fun a u e => by
  rw [upd_ne (ne_of_none e h)]; exact e
theorem Ex.rd {H H' : Hp} {a : Addr} {u : HO} (e : Ex H H') (h : Rd H a u) : Rd H' a u := by
  rcases h with h | ⟨o, h⟩
  · exact Or.inl (e a _ h)
  · exact Or.inr ⟨o, e a _ h⟩
theorem Ex.sl {K : PySem.W.Frag} {H H' : Hp} {a : Addr} {xs : List V} (e : Ex H H') (h : SqL K H a xs) : SqL K H' a xs := by
  rcases h with h | h
  · exact Or.inl (e.rd h)
  · exact Or.inr h
theorem Ex.st {K : PySem.W.Frag} {H H' : Hp} {a : Addr} {xs : List V} (e : Ex H H') (h : SqT K H a xs) : SqT K H' a xs := by
  rcases h with h | h
  · exact Or.inl (e.rd h)
  · exact Or.inr h

/-! ### the types that a program asks for -/
inductive Tg where
  | non | bl | int | str | tup | lst | dic | oth
  deriving DecidableEq
def Tg.nm : Tg → String
  | .non => "NoneType" | .bl => "bool" | .int => "int" | .str => "str" | .tup => "tuple" | .lst => "list" | .dic => "dict" | .oth => "object"
/-- instances of the class at C are of no such type -/
def KitN (K : PySem.W.Frag) (C : Addr) : Prop := ∀ t : Tg, t ≠ .non → t ≠ .oth → PySem.W.kitOne K (.ref C) (.type t.nm) = some false
/-- what instances of an own class need -/
structure InsC (K : PySem.W.Frag) (C : Addr) : Prop where
  cls : Cls K C
  ha : PySem.W.findIn K (.ref C) "__class__" = some (some (.builtin "object.__class__"))
  hn : PySem.W.specialIn K (.builtin "object.__class__") "__get__" = some (some (.builtin "getset_descriptor.__get__"))
  ht : PySem.W.takesIn K (.builtin "object.__class__") = some true
  hm : PySem.W.mroIn K C (.type "object") = some true
  kit : KitN K C
/-- what errors of an own class need -/
structure ErrC (K : PySem.W.Frag) (C : Addr) : Prop where
  exc : ExcC K C
  kit : KitN K C
/-- a caught error's object: its class, its dict -/
def exoC (a C : Addr) (d : Option Addr) : HO := .ext fun h => ∃ (vs : Array Value) (sl : Array (Option Value)), h.get? a = some ({ cls := .ref C, dict := d, data := .fields vs, slots := sl } : Obj)
/-- an error's fields fs are vs -/
def ExF (B : Hp) (fs : List Str) (d : Option Addr) (vs : List V) : Prop := fs.length = vs.length ∧ match fs, d with
  | [], none => True
  | _ :: _, some dd => B dd = some (.xd (fs.zip vs))
  | _, _ => False
theorem ExF.mono {B B' : Hp} (e : Ex B B') {fs : List Str} {d : Option Addr} {vs : List V} (h : ExF B fs d vs) : ExF B' fs d vs := by
  obtain ⟨h1, h2⟩ := h
  refine ⟨h1, ?_⟩
  cases fs with
  | nil => cases d <;> exact h2
  | cons f fs => cases d with
    | none => exact h2
    | some dd => exact e _ _ h2
section
variable (K : PySem.W.Frag)
/-- a node of this kind stands at a, its items vs; ll: a list that is only read (the script, a list of the module) -/
def DatN (B : Hp) : DK → Addr → List V → Prop
  | .tup, a, vs => SqT K B a vs
  | .lst, a, vs => B a = some (.lst vs)
  | .ll, a, vs => SqL K B a vs
  | .dic ks, a, vs => ks.length = vs.length ∧ Rd B a (.dK (ks.zip vs))
  | .exc c fs, a, vs => ErrC K (He.ga K c) ∧ ∃ d, B a = some (exoC a (He.ga K c) d) ∧ ExF B fs d vs
  | .ins c fs, a, vs => InsC K (He.ga K c) ∧ fs.length = vs.length ∧ ∃ dx, B a = some (.ins (He.ga K c) dx (fs.zip vs))
mutual
def Dat (B : Hp) : D → V → Prop
  | .non, v => v = .non
  | .bl b, v => v = .bl b
  | .int i, v => v = .int i
  | .str s, v => v = .str s
  | .nd k ds, v => ∃ a vs, v = .ref a ∧ DatN K B k a vs ∧ DatL B ds vs
def DatL (B : Hp) : List D → List V → Prop
  | [], vs => vs = []
  | d :: ds, vs => ∃ v r, vs = v :: r ∧ Dat B d v ∧ DatL B ds r
end
/-- shallow: the top node in H, the items in B -/
def Sh (B H : Hp) : D → V → Prop
  | .nd .tup ds, v => Dat K B (.nd .tup ds) v
  | .nd k ds, v => ∃ a vs, v = .ref a ∧ DatN K H k a vs ∧ DatL K B ds vs
  | d, v => Dat K B d v
/-- a node that is ours -/
def OwnN (H : Hp) : DK → Addr → List V → Prop
  | .tup, _, _ => False
  | .lst, a, vs => H a = some (.lst vs)
  | .ll, _, _ => False
  | .dic ks, a, vs => ks.length = vs.length ∧ H a = some (.dK (ks.zip vs))
  | .exc _ _, _, _ => False
  | .ins c fs, a, vs => InsC K (He.ga K c) ∧ fs.length = vs.length ∧ ∃ dx, H a = some (.ins (He.ga K c) dx (fs.zip vs))
mutual
def Own (B H : Hp) : (Addr → Prop) → T → V → Prop
  | _, .fz d, v => Dat K B d v
  | F, .nd k ts, v => ∃ l vs, v = .ref l ∧ F l ∧ OwnN K H k l vs ∧ OwnL B H (fun a => F a ∧ a ≠ l) ts vs
def OwnL (B H : Hp) : (Addr → Prop) → List T → List V → Prop
  | _, [], vs => vs = []
  | F, t :: ts, vs => ∃ (v : V) (r : List V) (G : Addr → Prop), vs = v :: r ∧ (∀ a, G a → F a) ∧ Own B H G t v ∧ OwnL B H (fun a => F a ∧ ¬ G a) ts r
end
end

section
variable {K : PySem.W.Frag} {B B' H H' : Hp}
theorem DatN.mono (e : Ex B B') : ∀ {k : DK} {a : Addr} {vs : List V}, DatN K B k a vs → DatN K B' k a vs
  | .tup, _, _, h => e.st h
  | .lst, _, _, h => e _ _ h
  | .ll, _, _, h => e.sl h
  | .dic _, _, _, h => ⟨h.1, e.rd h.2⟩
  | .exc _ _, _, _, ⟨h0, d, h1, h2⟩ => ⟨h0, d, e _ _ h1, h2.mono e⟩
  | .ins _ _, _, _, ⟨h0, h1, dx, h2⟩ => ⟨h0, h1, dx, e _ _ h2⟩
mutual
theorem Dat.mono (e : Ex B B') : ∀ {d : D} {v : V}, Dat K B d v → Dat K B' d v
  | .non, _, h => h
  | .bl _, _, h => h
  | .int _, _, h => h
  | .str _, _, h => h
  | .nd _ _, _, ⟨a, vs, h1, h2, h3⟩ => ⟨a, vs, h1, h2.mono e, DatL.mono e h3⟩
theorem DatL.mono (e : Ex B B') : ∀ {ds : List D} {vs : List V}, DatL K B ds vs → DatL K B' ds vs
  | [], _, h => h
  | _ :: _, _, ⟨v, r, h1, h2, h3⟩ => ⟨v, r, h1, Dat.mono e h2, DatL.mono e h3⟩
end
theorem DatL.nil : DatL K B [] [] := rfl
theorem DatL.cons {d : D} {ds : List D} {v : V} {vs : List V} (h : Dat K B d v) (h2 : DatL K B ds vs) : DatL K B (d :: ds) (v :: vs) := ⟨v, vs, rfl, h, h2⟩
theorem DatL.len : ∀ {ds : List D} {vs : List V}, DatL K B ds vs → ds.length = vs.length
  | [], _, h => by cases (show _ = [] from h); rfl
  | _ :: _, _, ⟨v, r, h1, _, h3⟩ => by rw [h1, List.length_cons, List.length_cons, h3.len]
theorem DatL.get : ∀ {ds : List D} {vs : List V} {i : Nat} {d : D}, DatL K B ds vs → ds[i]? = some d → ∃ v, vs[i]? = some v ∧ Dat K B d v
  | [], _, _, _, _, e => by simp at e
  | _ :: _, _, 0, _, ⟨v, r, h1, h2, _⟩, e => by simp at e; subst e; subst h1; exact ⟨v, rfl, h2⟩
  | _ :: ds, _, i + 1, d, ⟨v, r, h1, _, h3⟩, e => by
    subst h1
    obtain ⟨w, e1, e2⟩ := DatL.get (i := i) (d := d) h3 (by simpa using e)
    exact ⟨w, by simpa using e1, e2⟩
theorem DatL.get' : ∀ {ds : List D} {vs : List V} {i : Nat} {v : V}, DatL K B ds vs → vs[i]? = some v → ∃ d, ds[i]? = some d ∧ Dat K B d v
  | [], _, _, _, h, e => by rw [show _ = [] from h] at e; simp at e
  | d :: _, _, 0, _, ⟨v, r, h1, h2, _⟩, e => by subst h1; simp at e; subst e; exact ⟨d, rfl, h2⟩
  | _ :: ds, _, i + 1, w, ⟨v, r, h1, _, h3⟩, e => by
    subst h1
    obtain ⟨d, e1, e2⟩ := DatL.get' (i := i) (v := w) h3 (by simpa using e)
    exact ⟨d, by simpa using e1, e2⟩
theorem DatL.app : ∀ {ds es : List D} {vs ws : List V}, DatL K B ds vs → DatL K B es ws → DatL K B (ds ++ es) (vs ++ ws)
  | [], _, _, _, h, h2 => by rw [show _ = [] from h]; exact h2
  | _ :: _, _, _, _, ⟨v, r, h1, h2, h3⟩, h4 => by subst h1; exact ⟨v, _, rfl, h2, h3.app h4⟩
theorem DatL.take : ∀ {ds : List D} {vs : List V} (n : Nat), DatL K B ds vs → DatL K B (ds.take n) (vs.take n)
  | [], _, n, h => by rw [show _ = [] from h]; simp [DatL]
  | _ :: _, _, 0, _ => rfl
  | _ :: _, _, n + 1, ⟨v, r, h1, h2, h3⟩ => by subst h1; exact ⟨v, _, rfl, h2, h3.take n⟩
theorem DatL.drop : ∀ {ds : List D} {vs : List V} (n : Nat), DatL K B ds vs → DatL K B (ds.drop n) (vs.drop n)
  | [], _, n, h => by rw [show _ = [] from h]; simp [DatL]
  | _ :: _, _, 0, h => h
  | _ :: _, _, n + 1, ⟨v, r, h1, h2, h3⟩ => by subst h1; exact h3.drop n
theorem DatL.set : ∀ {ds : List D} {vs : List V} {d : D} {v : V} (n : Nat), DatL K B ds vs → Dat K B d v → DatL K B (ds.set n d) (vs.set n v)
  | [], _, _, _, n, h, _ => by rw [show _ = [] from h]; simp [DatL]
  | _ :: _, _, _, _, 0, ⟨v, r, h1, h2, h3⟩, hd => by subst h1; exact ⟨_, _, rfl, hd, h3⟩
  | _ :: _, _, _, _, n + 1, ⟨v, r, h1, h2, h3⟩, hd => by subst h1; exact ⟨v, _, rfl, h2, h3.set n hd⟩
theorem Dat.sh (b : Ex B H) : ∀ {d : D} {v : V}, Dat K B d v → Sh K B H d v
  | .non, _, h => h
  | .bl _, _, h => h
  | .int _, _, h => h
  | .str _, _, h => h
  | .nd .tup _, _, h => h
  | .nd .lst _, _, ⟨a, vs, h1, h2, h3⟩ => ⟨a, vs, h1, h2.mono b, h3⟩
  | .nd .ll _, _, ⟨a, vs, h1, h2, h3⟩ => ⟨a, vs, h1, h2.mono b, h3⟩
  | .nd (.dic _) _, _, ⟨a, vs, h1, h2, h3⟩ => ⟨a, vs, h1, h2.mono b, h3⟩
  | .nd (.exc _ _) _, _, ⟨a, vs, h1, h2, h3⟩ => ⟨a, vs, h1, h2.mono b, h3⟩
  | .nd (.ins _ _) _, _, ⟨a, vs, h1, h2, h3⟩ => ⟨a, vs, h1, h2.mono b, h3⟩
theorem Sh.nd (b : Ex B H) : ∀ {k : DK} {ds : List D} {v : V}, Sh K B H (.nd k ds) v → ∃ a vs, v = .ref a ∧ DatN K H k a vs ∧ DatL K B ds vs
  | .tup, _, _, ⟨a, vs, h1, h2, h3⟩ => ⟨a, vs, h1, h2.mono b, h3⟩
  | .lst, _, _, h => h
  | .ll, _, _, h => h
  | .dic _, _, _, h => h
  | .exc _ _, _, _, h => h
  | .ins _ _, _, _, h => h
theorem Sh.dat (b : Ex B H) : ∀ {d : D} {v : V}, Sh K B H d v → Dat K H d v
  | .non, _, h => h
  | .bl _, _, h => h
  | .int _, _, h => h
  | .str _, _, h => h
  | .nd .tup _, _, h => Dat.mono b h
  | .nd .lst _, _, ⟨a, vs, h1, h2, h3⟩ => ⟨a, vs, h1, h2, h3.mono b⟩
  | .nd .ll _, _, ⟨a, vs, h1, h2, h3⟩ => ⟨a, vs, h1, h2, h3.mono b⟩
  | .nd (.dic _) _, _, ⟨a, vs, h1, h2, h3⟩ => ⟨a, vs, h1, h2, h3.mono b⟩
  | .nd (.exc _ _) _, _, ⟨a, vs, h1, h2, h3⟩ => ⟨a, vs, h1, h2, h3.mono b⟩
  | .nd (.ins _ _) _, _, ⟨a, vs, h1, h2, h3⟩ => ⟨a, vs, h1, h2, h3.mono b⟩
theorem OwnN.dat : ∀ {k : DK} {a : Addr} {vs : List V}, OwnN K H k a vs → DatN K H k a vs
  | .tup, _, _, h => h.elim
  | .lst, _, _, h => h
  | .ll, _, _, h => h.elim
  | .dic _, _, _, h => ⟨h.1, Or.inl h.2⟩
  | .exc _ _, _, _, h => h.elim
  | .ins _ _, _, _, h => h
theorem OwnN.at_ : ∀ {k : DK} {a : Addr} {vs : List V}, OwnN K H k a vs → ∃ o, H a = some o
  | .tup, _, _, h => h.elim
  | .lst, _, _, h => ⟨_, h⟩
  | .ll, _, _, h => h.elim
  | .dic _, _, _, h => ⟨_, h.2⟩
  | .exc _ _, _, _, h => h.elim
  | .ins _ _, _, _, ⟨_, _, _, h⟩ => ⟨_, h⟩
theorem OwnN.congr {a : Addr} (e : ∀ o, H a = some o → H' a = some o) : ∀ {k : DK} {vs : List V}, OwnN K H k a vs → OwnN K H' k a vs
  | .tup, _, h => h.elim
  | .lst, _, h => e _ h
  | .ll, _, h => h.elim
  | .dic _, _, h => ⟨h.1, e _ h.2⟩
  | .exc _ _, _, h => h.elim
  | .ins _ _, _, ⟨h0, h1, dx, h2⟩ => ⟨h0, h1, dx, e _ h2⟩
mutual
theorem Own.mono : ∀ {F G : Addr → Prop} {t : T} {v : V}, Own K B H F t v → (∀ a, F a → G a) → Own K B H G t v
  | _, _, .fz _, _, h, _ => h
  | _, _, .nd _ _, _, ⟨l, vs, h1, h2, h3, h4⟩, w => ⟨l, vs, h1, w _ h2, h3, OwnL.mono h4 fun a z => ⟨w a z.1, z.2⟩⟩
theorem OwnL.mono : ∀ {F G : Addr → Prop} {ts : List T} {vs : List V}, OwnL K B H F ts vs → (∀ a, F a → G a) → OwnL K B H G ts vs
  | _, _, [], _, h, _ => h
  | _, _, _ :: _, _, ⟨v, r, G1, h1, h2, h3, h4⟩, w => ⟨v, r, G1, h1, fun a z => w a (h2 a z), h3, OwnL.mono h4 fun a z => ⟨w a z.1, z.2⟩⟩
end
mutual
/-- what is ours is as it was, what is frozen has grown -/
theorem Own.frame (e : Ex B B') : ∀ {F : Addr → Prop} {t : T} {v : V}, Own K B H F t v → (∀ a o, F a → H a = some o → H' a = some o) → Own K B' H' F t v
  | _, .fz _, _, h, _ => Dat.mono e h
  | _, .nd _ _, _, ⟨l, vs, h1, h2, h3, h4⟩, w => ⟨l, vs, h1, h2, h3.congr fun o q => w l o h2 q, OwnL.frame e h4 fun a o z => w a o z.1⟩
theorem OwnL.frame (e : Ex B B') : ∀ {F : Addr → Prop} {ts : List T} {vs : List V}, OwnL K B H F ts vs → (∀ a o, F a → H a = some o → H' a = some o) → OwnL K B' H' F ts vs
  | _, [], _, h, _ => h
  | _, _ :: _, _, ⟨v, r, G1, h1, h2, h3, h4⟩, w => ⟨v, r, G1, h1, h2, Own.frame e h3 fun a o z => w a o (h2 a z), OwnL.frame e h4 fun a o z => w a o z.1⟩
end
theorem OwnL.len : ∀ {F : Addr → Prop} {ts : List T} {vs : List V}, OwnL K B H F ts vs → ts.length = vs.length
  | _, [], _, h => by cases (show _ = [] from h); rfl
  | _, _ :: _, _, ⟨v, r, G1, h1, h2, h3, h4⟩ => by rw [h1, List.length_cons, List.length_cons, h4.len]
theorem OwnL.fzs : ∀ {F : Addr → Prop} {ts : List T} {vs : List V} {ds : List D}, OwnL K B H F ts vs → T.fzs ts = some ds → DatL K B ds vs
  | _, [], _, _, h, e => by
    cases (show some [] = some _ from e)
    exact h
  | _, .fz d :: ts, _, _, ⟨v, r, G1, h1, h2, h3, h4⟩, e => by
    have e' : (T.fzs ts).map (d :: ·) = some _ := e
    cases q : T.fzs ts with
    | none => rw [q] at e'; cases e'
    | some ds =>
      rw [q] at e'
      cases e'
      exact ⟨v, r, h1, h3, h4.fzs q⟩
  | _, .nd _ _ :: _, _, _, _, e => nomatch (show (none : Option (List D)) = some _ from e)
theorem OwnL.of_dat {F : Addr → Prop} : ∀ {ds : List D} {vs : List V}, DatL K B ds vs → OwnL K B H F (ds.map .fz) vs
  | [], _, h => h
  | _ :: _, _, ⟨v, r, h1, h2, h3⟩ => ⟨v, r, fun _ => False, h1, fun _ z => z.elim, h2, OwnL.of_dat h3⟩
theorem Own.sh {F : Addr → Prop} {t : T} {v : V} {d : D} (b : Ex B H) (h : Own K B H F t v) (e : t.sh = some d) : Sh K B H d v := by
  cases t with
  | fz d' =>
    cases (show some d' = some d from e)
    exact Dat.sh b h
  | nd k ts =>
    have e' : (T.fzs ts).map (.nd k) = some d := e
    cases q : T.fzs ts with
    | none => rw [q] at e'; cases e'
    | some ds =>
      rw [q] at e'
      cases e'
      obtain ⟨l, vs, h1, h2, h3, h4⟩ := h
      cases k with
      | tup => exact h3.elim
      | ll => exact h3.elim
      | lst => exact ⟨l, vs, h1, h3.dat, h4.fzs q⟩
      | dic _ => exact ⟨l, vs, h1, h3.dat, h4.fzs q⟩
      | exc _ _ => exact h3.elim
      | ins _ _ => exact ⟨l, vs, h1, h3.dat, h4.fzs q⟩
open Classical in
/-- B with what is ours at F frozen -/
noncomputable def frzB (B H : Hp) (F : Addr → Prop) : Hp := fun a => if F a then H a else B a
theorem frzB_in {F : Addr → Prop} {a : Addr} (h : F a) : frzB B H F a = H a := by unfold frzB; rw [if_pos h]
theorem frzB_out {F : Addr → Prop} {a : Addr} (h : ¬ F a) : frzB B H F a = B a := by unfold frzB; rw [if_neg h]
theorem frzB_ex {F : Addr → Prop} (h : ∀ a, F a → B a = none) : Ex B (frzB B H F) := fun a o e => by
  rw [frzB_out fun z => by rw [h a z] at e; cases e]
  exact e
theorem frzB_le {F : Addr → Prop} (b : Ex B H) : Ex (frzB B H F) H := fun a o e => by
  by_cases z : F a
  · rw [frzB_in z] at e; exact e
  · rw [frzB_out z] at e; exact b a o e
mutual
theorem Own.toD {F : Addr → Prop} {C : Hp} (e : Ex B C) (w : ∀ a o, F a → H a = some o → C a = some o) : ∀ {G : Addr → Prop} {t : T} {v : V}, Own K B H G t v → (∀ a, G a → F a) → Dat K C t.toD v
  | _, .fz _, _, h, _ => Dat.mono e h
  | _, .nd k _, _, ⟨l, vs, h1, h2, h3, h4⟩, g => ⟨l, vs, h1, (h3.congr fun o q => w l o (g l h2) q).dat, OwnL.toD e w h4 fun a z => g a z.1⟩
theorem OwnL.toD {F : Addr → Prop} {C : Hp} (e : Ex B C) (w : ∀ a o, F a → H a = some o → C a = some o) : ∀ {G : Addr → Prop} {ts : List T} {vs : List V}, OwnL K B H G ts vs → (∀ a, G a → F a) → DatL K C (T.toDs ts) vs
  | _, [], _, h, _ => h
  | _, _ :: _, _, ⟨v, r, G1, h1, h2, h3, h4⟩, g => ⟨v, r, h1, Own.toD e w h3 fun a z => g a (h2 a z), OwnL.toD e w h4 fun a z => g a z.1⟩
end
theorem Own.frozen {F : Addr → Prop} {t : T} {v : V} (h : Own K B H F t v) (n : ∀ a, F a → B a = none) : Dat K (frzB B H F) t.toD v :=
  Own.toD (F := F) (frzB_ex n) (fun a o z q => by rw [frzB_in z]; exact q) h fun _ z => z
end
end DL

end

section
set_option Elab.async false
set_option linter.all false
set_option maxRecDepth 100000
set_option maxHeartbeats 2000000
namespace DL
open PySem L2

/-! ### the frame's data -/
abbrev Env := List (Option T)
def Env.t (ρ : Env) (i : Nat) : Option T := match ρ[i]? with
  | some (some t) => some t
  | _ => none
theorem Env.t_some {ρ : Env} {i : Nat} {t : T} (h : ρ.t i = some t) : ρ[i]? = some (some t) := by
  unfold Env.t at h
  split at h
  · rename_i q; cases h; exact q
  · cases h
theorem Env.t_of {ρ : Env} {i : Nat} {t : T} (h : ρ[i]? = some (some t)) : ρ.t i = some t := by unfold Env.t; rw [h]
/-- an operand: data, or a place in what is ours -/
inductive Arg where
  | vl (d : D) | rf (i : Nat) (π : List Nat)
def Arg.deep : Arg → Bool
  | .rf _ (_ :: _) => true
  | _ => false
def tAt : List Nat → T → Option T
  | [], t => some t
  | j :: π, .nd _ ts => (ts[j]?).bind (tAt π)
  | _ :: _, .fz _ => none
def tSet : List Nat → T → T → T
  | [], n, _ => n
  | j :: π, n, .nd k ts => match ts[j]? with
    | some t => .nd k (ts.set j (tSet π n t))
    | none => .nd k ts
  | _ :: _, _, t => t
def deref (ρ : Env) : Arg → Option D
  | .vl d => some d
  | .rf i π => ((ρ.t i).bind (tAt π)).bind T.sh
/-- which value stands at a path -/
def PathV (K : PySem.W.Frag) (H : Hp) : List Nat → T → V → V → Prop
  | [], _, w, v => v = w
  | j :: π, .nd k ts, w, v => ∃ l vs x t, w = .ref l ∧ OwnN K H k l vs ∧ vs[j]? = some x ∧ ts[j]? = some t ∧ PathV K H π t x v
  | _ :: _, .fz _, _, _ => False

structure St (K : PySem.W.Frag) (B H : Hp) (σ : L2.St) (ρ : Env) (F : Nat → Addr → Prop) : Prop where
  bh : Ex B H
  sl : ∀ i t, ρ[i]? = some (some t) → ∃ v, σ[i]? = some (some v) ∧ Own K B H (F i) t v
  nb : ∀ i a, F i a → B a = none
  al : ∀ i a, F i a → H a ≠ none
  dj : ∀ i j a, i ≠ j → F i a → ¬ F j a
  ln : σ.length = ρ.length
def U (F : Nat → Addr → Prop) (a : Addr) : Prop := ∃ i, F i a
structure Ext (B H : Hp) (F : Addr → Prop) (B' H' : Hp) (F' : Addr → Prop) : Prop where
  bb : Ex B B'
  fr : ∀ a o, H a = some o → ¬ F a → H' a = some o
  nb : ∀ a, H a ≠ none → ¬ F a → B a = none → B' a = none
  nf : ∀ a, H a ≠ none → ¬ F a → ¬ F' a
theorem Ext.refl {B H : Hp} {F : Addr → Prop} : Ext B H F B H F := ⟨Ex.refl _, fun _ _ h _ => h, fun _ _ _ h => h, fun _ _ h => h⟩
theorem Ext.trans {B H B1 H1 B2 H2 : Hp} {F F1 F2 : Addr → Prop} (a : Ext B H F B1 H1 F1) (b : Ext B1 H1 F1 B2 H2 F2) : Ext B H F B2 H2 F2 := by
  have al : ∀ x, H x ≠ none → ¬ F x → H1 x ≠ none := fun x h n => by
    cases q : H x with
    | none => exact absurd q h
    | some o => rw [a.fr x o q n]; exact fun z => nomatch z
  exact ⟨a.bb.trans b.bb, fun x o h n => b.fr x o (a.fr x o h n) (a.nf x (by rw [h]; exact fun z => nomatch z) n), fun x h n z => b.nb x (al x h n) (a.nf x h n) (a.nb x h n z), fun x h n => b.nf x (al x h n) (a.nf x h n)⟩
theorem Ext.less {B H B1 H1 : Hp} {F F1 F2 : Addr → Prop} (a : Ext B H F B1 H1 F1) (h : ∀ x, F2 x → F1 x) : Ext B H F B1 H1 F2 :=
  ⟨a.bb, a.fr, a.nb, fun x h1 h2 z => a.nf x h1 h2 (h x z)⟩
/-- only new things are laid -/
structure New (B H B' H' : Hp) : Prop where
  bb : Ex B B'
  hh : Ex H H'
  bh : Ex B' H'
  fr : ∀ a, H a ≠ none → B a = none → B' a = none
theorem New.refl {B H : Hp} (b : Ex B H) : New B H B H := ⟨Ex.refl _, Ex.refl _, b, fun _ _ h => h⟩
theorem New.lay {B H : Hp} {p : Addr} {o : HO} (b : Ex B H) (h : H p = none) : New B H (upd B p o) (upd H p o) := by
  have bp : B p = none := by
    cases q : B p with
    | none => rfl
    | some u => rw [b p u q] at h; cases h
  refine ⟨Ex.new bp, Ex.new h, fun a u e => ?_, fun a n e => ?_⟩
  · by_cases z : a = p
    · subst z; rw [upd_same] at e ⊢; exact e
    · rw [upd_ne z] at e ⊢; exact b a u e
  · by_cases z : a = p
    · subst z; exact absurd h n
    · rw [upd_ne z]; exact e

section
variable {K : PySem.W.Frag} {B B' H H' : Hp} {σ : L2.St} {ρ : Env} {F : Nat → Addr → Prop}
theorem St.new (S : St K B H σ ρ F) (n : New B H B' H') : St K B' H' σ ρ F :=
  ⟨n.bh, fun i t e => let ⟨v, h1, h2⟩ := S.sl i t e; ⟨v, h1, h2.frame n.bb fun a o _ q => n.hh a o q⟩, fun i a h => n.fr a (S.al i a h) (S.nb i a h), (fun i a h => by
    cases q : H a with
    | none => exact absurd q (S.al i a h)
    | some o => rw [n.hh a o q]; exact fun z => nomatch z), S.dj, S.ln⟩
theorem New.ext (n : New B H B' H') {G : Addr → Prop} : Ext B H G B' H' G := ⟨n.bb, fun a o h _ => n.hh a o h, fun a h _ e => n.fr a h e, fun _ _ h => h⟩
def ArgOk (K : PySem.W.Frag) (B H : Hp) (σ : L2.St) (ρ : Env) : Arg → V → Prop
  | .vl d, v => Dat K B d v
  | .rf i [], v => σ[i]? = some (some v)
  | .rf i (j :: π), v => ∃ w t, σ[i]? = some (some w) ∧ ρ.t i = some t ∧ PathV K H (j :: π) t w v
theorem PathV.mono (e : Ex H H') : ∀ {π : List Nat} {t : T} {w v : V}, PathV K H π t w v → PathV K H' π t w v
  | [], _, _, _, h => h
  | _ :: _, .nd _ _, _, _, ⟨l, vs, x, t, h1, h2, h3, h4, h5⟩ => ⟨l, vs, x, t, h1, h2.congr fun o q => e l o q, h3, h4, PathV.mono e h5⟩
  | _ :: _, .fz _, _, _, h => h.elim
/-- an operand outlasts what follows -/
theorem ArgOk.keep {ρ' : Env} {a : Arg} {v : V} (h : ArgOk K B H σ ρ a v) (b : Ex B B') (c : a.deep = true → ρ' = ρ ∧ Ex H H') : ArgOk K B' H' σ ρ' a v := by
  match a, h, c with
  | .vl d, h, _ => exact Dat.mono b h
  | .rf i [], h, _ => exact h
  | .rf i (j :: π), ⟨w, t, h1, h2, h3⟩, c =>
    obtain ⟨e1, e2⟩ := c rfl
    subst e1
    exact ⟨w, t, h1, h2, h3.mono e2⟩
theorem OwnL.get : ∀ {G : Addr → Prop} {ts : List T} {vs : List V} {j : Nat} {t : T} {x : V}, OwnL K B H G ts vs → ts[j]? = some t → vs[j]? = some x → ∃ G1 : Addr → Prop, (∀ a, G1 a → G a) ∧ Own K B H G1 t x ∧
    ∀ (B' H' : Hp) (t' : T), Ex B B' → (∀ a o, G a → ¬ G1 a → H a = some o → H' a = some o) → Own K B' H' G1 t' x → OwnL K B' H' G (ts.set j t') vs
  | _, [], _, _, _, _, _, e, _ => by simp at e
  | G, u :: ts, vs, 0, t, x, ⟨v, r, G1, h1, h2, h3, h4⟩, e1, e2 => by
    subst h1
    simp at e1 e2
    subst e1 e2
    exact ⟨G1, h2, h3, fun B' H' t' b w o => ⟨_, _, G1, rfl, h2, o, h4.frame b fun a o z q => w a o z.1 z.2 q⟩⟩
  | G, u :: ts, vs, j + 1, t, x, ⟨v, r, G1, h1, h2, h3, h4⟩, e1, e2 => by
    subst h1
    obtain ⟨G2, k1, k2, k3⟩ := OwnL.get (j := j) (t := t) (x := x) h4 (by simpa using e1) (by simpa using e2)
    refine ⟨G2, fun a z => (k1 a z).1, k2, fun B' H' t' b w o => ⟨_, _, G1, rfl, h2, h3.frame b fun a o z q => w a o (h2 a z) (fun y => (k1 a y).2 z) q, k3 B' H' t' b (fun a o z n q => w a o z.1 n q) o⟩⟩
theorem OwnN.inj {k : DK} {l : Addr} {vs ws : List V} (a : OwnN K H k l vs) (b : OwnN K H k l ws) : vs = ws := by
  cases k with
  | tup => exact (show False from a).elim
  | lst =>
    have h : some (HO.lst vs) = some (HO.lst ws) := (show H l = _ from a).symm.trans (show H l = _ from b)
    injection h with h; injection h
  | ll => exact (show False from a).elim
  | exc _ _ => exact (show False from a).elim
  | ins c fs =>
    obtain ⟨_, a1, d1, a2⟩ := a
    obtain ⟨_, b1, d2, b2⟩ := b
    have h := a2.symm.trans b2
    injection h with h
    injection h with _ _ h
    have := congrArg (List.map Prod.snd) h
    rwa [List.map_snd_zip (by omega), List.map_snd_zip (by omega)] at this
  | dic ks =>
    obtain ⟨a1, a2⟩ := a
    obtain ⟨b1, b2⟩ := b
    have h : some (HO.dK (ks.zip vs)) = some (HO.dK (ks.zip ws)) := a2.symm.trans b2
    injection h with h
    injection h with h
    have := congrArg (List.map Prod.snd) h
    rwa [List.map_snd_zip (by omega), List.map_snd_zip (by omega)] at this
/-- a place, and the tree with another thing there -/
theorem own_upd : ∀ {π : List Nat} {G : Addr → Prop} {t s : T} {w v : V}, Own K B H G t w → PathV K H π t w v → tAt π t = some s → ∃ G1 : Addr → Prop, (∀ a, G1 a → G a) ∧ Own K B H G1 s v ∧
    ∀ (B' H' : Hp) (s' : T), Ex B B' → (∀ a o, G a → ¬ G1 a → H a = some o → H' a = some o) → Own K B' H' G1 s' v → Own K B' H' G (tSet π s' t) w
  | [], G, t, s, w, v, h, p, e => by
    cases (show some t = some s from e)
    cases (show v = w from p)
    exact ⟨G, fun _ z => z, h, fun B' H' s' _ _ o => o⟩
  | j :: π, G, .nd k ts, s, w, v, ⟨l, vs, h1, h2, h3, h4⟩, ⟨l', vs', x, t, p1, p2, p3, p4, p5⟩, e => by
    subst h1
    cases p1
    cases h3.inj p2
    have e' : tAt π t = some s := by
      have q : (ts[j]?).bind (tAt π) = some s := e
      rw [p4] at q
      exact q
    obtain ⟨G1, k1, k2, k3⟩ := h4.get p4 p3
    obtain ⟨G2, m1, m2, m3⟩ := own_upd k2 p5 e'
    refine ⟨G2, fun a z => (k1 a (m1 a z)).1, m2, fun B' H' s' b wf o => ?_⟩
    have nl : ¬ G2 l := fun z => (k1 l (m1 l z)).2 rfl
    show Own K B' H' G (match ts[j]? with
      | some t => T.nd k (ts.set j (tSet π s' t))
      | none => .nd k ts) (.ref l)
    rw [p4]
    refine ⟨l, vs, rfl, h2, h3.congr fun o q => wf l o h2 nl q, k3 B' H' _ b (fun a o z n q => wf a o z.1 (fun y => n (m1 a y)) q) (m3 B' H' s' b (fun a o z n q => wf a o (k1 a z).1 n q) o)⟩
  | _ :: _, _, .fz _, _, _, _, _, p, _ => p.elim
theorem St.deref (S : St K B H σ ρ F) {a : Arg} {v : V} {d : D} (h : ArgOk K B H σ ρ a v) (e : deref ρ a = some d) : Sh K B H d v := by
  match a, h, e with
  | .vl d', h, e => cases (show some d' = some d from e); exact Dat.sh S.bh h
  | .rf i [], h, e =>
    have e' : ((ρ.t i).bind (tAt [])).bind T.sh = some d := e
    cases q : ρ.t i with
    | none => rw [q] at e'; cases e'
    | some t =>
      rw [q] at e'
      obtain ⟨w, h1, h2⟩ := S.sl i t (Env.t_some q)
      have h' : σ[i]? = some (some v) := h
      rw [h'] at h1
      cases h1
      exact h2.sh S.bh e'
  | .rf i (j :: π), ⟨w, t, h1, h2, h3⟩, e =>
    have e' : ((ρ.t i).bind (tAt (j :: π))).bind T.sh = some d := e
    rw [h2] at e'
    cases q : tAt (j :: π) t with
    | none =>
      rw [show (some t).bind (tAt (j :: π)) = tAt (j :: π) t from rfl, q] at e'; cases e'
    | some s =>
      rw [show (some t).bind (tAt (j :: π)) = tAt (j :: π) t from rfl, q] at e'
      obtain ⟨w', g1, g2⟩ := S.sl i t (Env.t_some h2)
      rw [h1] at g1
      cases g1
      obtain ⟨G1, _, m2, _⟩ := own_upd g2 h3 q
      exact m2.sh S.bh e'
/-- the slot i holds another thing, whose own part is G -/
theorem St.put (S : St K B H σ ρ F) {i : Nat} {v : V} {t : T} {G : Addr → Prop} (o : Own K B H G t v) (g1 : ∀ a, G a → B a = none) (g2 : ∀ a, G a → H a ≠ none) (g3 : ∀ j a, j ≠ i → G a → ¬ F j a)
    (hi : i < ρ.length) : St K B H (σ.set i (some v)) (ρ.set i (some t)) (fun j => if j = i then G else F j) := by
  refine ⟨S.bh, fun j u e => ?_, fun j a z => ?_, fun j a z => ?_, fun j l a n z => ?_, by rw [List.length_set, List.length_set]; exact S.ln⟩
  · by_cases h : j = i
    · subst h
      rw [List.getElem?_set_self hi] at e
      cases e
      refine ⟨v, List.getElem?_set_self (by rw [S.ln]; exact hi), ?_⟩
      rw [if_pos rfl]; exact o
    · rw [List.getElem?_set_ne (Ne.symm h)] at e ⊢
      rw [if_neg h]
      exact S.sl j u e
  · by_cases h : j = i
    · rw [if_pos h] at z; exact g1 a z
    · rw [if_neg h] at z; exact S.nb j a z
  · by_cases h : j = i
    · rw [if_pos h] at z; exact g2 a z
    · rw [if_neg h] at z; exact S.al j a z
  · by_cases h : j = i
    · rw [if_pos h] at z
      have hl : l ≠ i := fun q => n (h.trans q.symm)
      rw [if_neg hl]
      exact g3 l a hl z
    · rw [if_neg h] at z
      by_cases hl : l = i
      · rw [if_pos hl]
        exact fun y => g3 j a h y z
      · rw [if_neg hl]
        exact S.dj j l a n z
end
end DL

end

section
set_option Elab.async false
set_option linter.all false
set_option maxRecDepth 100000
set_option maxHeartbeats 2000000
namespace DL
open PySem L2

/-! ### judgements -/
abbrev M := Env → Option (Arg × Env)
abbrev MT := Env → Option (Bool × Env)
abbrev MA := Env → Option (List Arg × Env)
inductive Fl where
  | nx | rt (t : T) | bk | ct | ex (c : Str) (fs : List Str) (ds : List D)
/-- which parameters are handed back, and what is wished of an error -/
structure Io where
  f : Nat → Bool
  w : WX
instance : CoeFun Io (fun _ => Nat → Bool) := ⟨Io.f⟩
/-- .. where none is let out -/
def io0 (f : Nat → Bool) : Io := ⟨f, fun _ _ _ _ => False⟩
abbrev MS := Env → Option (Fl × Env)
def ArgsOk (K : PySem.W.Frag) (B H : Hp) (σ : L2.St) (ρ : Env) : List Arg → List V → Prop
  | [], vs => vs = []
  | a :: as, vs => ∃ v r, vs = v :: r ∧ ArgOk K B H σ ρ a v ∧ ArgsOk K B H σ ρ as r

def tE (K : PySem.W.Frag) (p : Bool) (m : M) : TE := fun σ H Q => ∃ B ρ F, St K B H σ ρ F ∧ ∃ a ρ', m ρ = some (a, ρ') ∧ ∀ v B' H' F', Ext B H (U F) B' H' (U F') → St K B' H' σ ρ' F' → ArgOk K B' H' σ ρ' a v →
  (p = true → ρ' = ρ ∧ F' = F ∧ Ex H H') → Q v H'
def tT (K : PySem.W.Frag) (p : Bool) (m : MT) : TT := fun σ H Q => ∃ B ρ F, St K B H σ ρ F ∧ ∃ b ρ', m ρ = some (b, ρ') ∧ ∀ B' H' F', Ext B H (U F) B' H' (U F') → St K B' H' σ ρ' F' →
  (p = true → ρ' = ρ ∧ F' = F ∧ Ex H H') → Q b H'
def tA (K : PySem.W.Frag) (p : Bool) (m : MA) : TA := fun σ H Q => ∃ B ρ F, St K B H σ ρ F ∧ ∃ as ρ', m ρ = some (as, ρ') ∧ ∀ vs B' H' F', Ext B H (U F) B' H' (U F') → St K B' H' σ ρ' F' → ArgsOk K B' H' σ ρ' as vs →
  (p = true → ρ' = ρ ∧ F' = F ∧ Ex H H') → Q vs H'
/-- a value whose tree is ours, besides the frame's -/
structure OwnX (K : PySem.W.Frag) (B H : Hp) (F : Nat → Addr → Prop) (G : Addr → Prop) (t : T) (v : V) : Prop where
  own : Own K B H G t v
  nb : ∀ a, G a → B a = none
  al : ∀ a, G a → H a ≠ none
  dj : ∀ i a, G a → ¬ F i a
/-- an expression whose value is ours -/
def tO (K : PySem.W.Frag) (m : Env → Option (T × Env)) : TE := fun σ H Q => ∃ B ρ F, St K B H σ ρ F ∧ ∃ t ρ', m ρ = some (t, ρ') ∧ ∀ v B' H' F' G, Ext B H (U F) B' H' (fun a => U F' a ∨ G a) → St K B' H' σ ρ' F' → OwnX K B' H' F' G t v → Q v H'
def tS (K : PySem.W.Frag) (io : Io) (m : MS) : TS := fun D σ H => ∃ B ρ F, St K B H σ ρ F ∧ ∃ fl ρ', m ρ = some (fl, ρ') ∧ match fl with
  | .nx => ∀ σ' B' H' F', Ext B H (U F) B' H' (U F') → St K B' H' σ' ρ' F' → (∀ j, io j = true → σ'[j]? = σ[j]?) → D.nx σ' H'
  | .bk => ∀ σ' B' H' F', Ext B H (U F) B' H' (U F') → St K B' H' σ' ρ' F' → (∀ j, io j = true → σ'[j]? = σ[j]?) → D.bk σ' H'
  | .ct => ∀ σ' B' H' F', Ext B H (U F) B' H' (U F') → St K B' H' σ' ρ' F' → (∀ j, io j = true → σ'[j]? = σ[j]?) → D.ct σ' H'
  | .rt t => ∀ v σ' B' H' F' G, Ext B H (U F) B' H' (fun a => U F' a ∨ G a) → St K B' H' σ' ρ' F' → OwnX K B' H' F' G t v → (∀ j, io j = true → σ'[j]? = σ[j]?) → D.rt v H'
  | .ex c fs ds => ∀ cls d σ' B' H' F' vs, Ext B H (U F) B' H' (U F') → St K B' H' σ' ρ' F' → (∀ j, io j = true → σ'[j]? = σ[j]?) → cls = .ref (He.ga K c) → DatL K B' ds vs → ExF B' fs d vs → io.w cls d σ' H'

theorem peW {X : Cx} {e : Expr} {t t' : TE} (h : PE X e t) (f : ∀ σ H Q, t' σ H Q → t σ H Q) : PE X e t' := ⟨fun pins s σ H Q I q => h.run pins s σ H Q I (f _ _ _ q)⟩
theorem ptW {X : Cx} {e : Expr} {t t' : TT} (h : PT X e t) (f : ∀ σ H Q, t' σ H Q → t σ H Q) : PT X e t' := ⟨fun pins s σ H Q I q => h.run pins s σ H Q I (f _ _ _ q)⟩
theorem pwW {X : Cx} {e : Expr} {t t' : TT} (h : PW X e t) (f : ∀ σ H Q, t' σ H Q → t σ H Q) : PW X e t' := ⟨fun wh pins s σ H Q I q => h.run wh pins s σ H Q I (f _ _ _ q)⟩
theorem paW {X : Cx} {e : List Expr} {t t' : TA} (h : PA X e t) (f : ∀ σ H Q, t' σ H Q → t σ H Q) : PA X e t' := ⟨fun ps pins s σ H Q I q => h.run ps pins s σ H Q I (f _ _ _ q)⟩
theorem psW {X : Cx} {e : Stmt} {t t' : TS} (h : PS X e t) (f : ∀ D σ H, t' D σ H → t D σ H) : PS X e t' := ⟨fun pins s σ H D I q => h.run pins s σ H D I (f _ _ _ q)⟩
theorem pssW {X : Cx} {e : List Stmt} {t t' : TS} (h : PSs X e t) (f : ∀ D σ H, t' D σ H → t D σ H) : PSs X e t' := ⟨fun pins s σ H D I q => h.run pins s σ H D I (f _ _ _ q)⟩

theorem ob {α β : Type} {o : Option α} {f : α → Option β} {b : β} (h : o.bind f = some b) : ∃ a, o = some a ∧ f a = some b := by
  cases o with
  | none => cases h
  | some a => exact ⟨a, rfl, h⟩
theorem og {α : Type} {c : Bool} {o : Option α} {b : α} (h : (if c = true then none else o) = some b) : c = false ∧ o = some b := by
  cases c with
  | true => cases h
  | false => exact ⟨rfl, h⟩

section
variable {X : Cx} {p q : Bool} {pos : Pos}
/-! ### names, constants -/
def eK (d : D) : M := fun ρ => some (.vl d, ρ)
def eV (i : Nat) : M := fun ρ => match ρ.t i with
  | some (.fz d) => some (.vl d, ρ)
  | some (.nd _ _) => some (.rf i [], ρ)
  | none => none
theorem tE_val {K : PySem.W.Frag} {d : D} {v : V} {σ : L2.St} {H : Hp} {Q : VK} (h : tE K p (eK d) σ H Q) (hv : ∀ B, Dat K B d v) : Q v H := by
  obtain ⟨B, ρ, F, S, a, ρ', e, k⟩ := h
  cases (show some (Arg.vl d, ρ) = some (a, ρ') from e)
  exact k v B H F Ext.refl S (hv B) fun _ => ⟨rfl, rfl, Ex.refl _⟩
theorem c_int {i j} : PE X (.Constant (.int i) j pos) (tE X.K p (eK (.int i))) := peW pe_int fun _ _ _ h => tE_val h fun _ => rfl
theorem c_bl {b j} : PE X (.Constant (.bool b) j pos) (tE X.K p (eK (.bl b))) := peW pe_bl fun _ _ _ h => tE_val h fun _ => rfl
theorem c_non {j} : PE X (.Constant .none j pos) (tE X.K p (eK .non)) := peW pe_non fun _ _ _ h => tE_val h fun _ => rfl
theorem c_str {x j} : PE X (.Constant (.str x) j pos) (tE X.K p (eK (.str x))) := peW pe_str fun _ _ _ h => tE_val h fun _ => rfl
/-- a module's constant -/
theorem c_glob {x : Str} {v : V} {u : Value} {d : D} (hg : Gl X x) (hm : X.mg x = some u) (r : RelV v u) (hd : ∀ B, Dat X.K B d v) (hb : (x == ("__debug__" : Str)) = false := by decide) : PE X (.Name x pos) (tE X.K p (eK d)) :=
  peW (pe_glob hg hm r hb) fun _ _ _ h => tE_val h hd
theorem c_v (i : Nat) {x : Str} (hN : X.N[i]? = some x := by rfl) (hv : Vis X.env.scope x := by first | exact Or.inl rfl | exact Or.inr (Or.inl rfl) | exact Or.inr (Or.inr rfl)) (hd : (x == ("__debug__" : Str)) = false := by decide)
    (hcd : (x == ("__classdict__" : Str)) = false := by decide) : PE X (.Name x pos) (tE X.K p (eV i)) := peW (pe_var hN hv hd hcd) fun σ H Q h => by
  obtain ⟨B, ρ, F, S, a, ρ', e, k⟩ := h
  unfold eV at e
  cases q : ρ.t i with
  | none => rw [q] at e; cases e
  | some t =>
    rw [q] at e
    obtain ⟨v, h1, h2⟩ := S.sl i t (Env.t_some q)
    refine ⟨v, h1, ?_⟩
    cases t with
    | fz d =>
      cases e
      exact k v B H F Ext.refl S h2 fun _ => ⟨rfl, rfl, Ex.refl _⟩
    | nd kk ts =>
      cases e
      exact k v B H F Ext.refl S h1 fun _ => ⟨rfl, rfl, Ex.refl _⟩

/-! ### operators -/
/-- the first operand must outlast the second -/
def guard (q : Bool) (a : Arg) : Bool := !q && a.deep
theorem guard_keep {q : Bool} {a : Arg} {ρ ρ' : Env} {F F' : Nat → Addr → Prop} {H H' : Hp} (g : guard q a = false) (h : q = true → ρ' = ρ ∧ F' = F ∧ Ex H H') : a.deep = true → ρ' = ρ ∧ Ex H H' := fun z => by
  cases q with
  | true => exact ⟨(h rfl).1, (h rfl).2.2⟩
  | false => rw [show guard false a = a.deep from rfl, z] at g; cases g
def eB (q : Bool) (f : D → D → Option D) (a b : M) : M := fun ρ => (a ρ).bind fun x => (b x.2).bind fun y => if guard q x.1 = true then none else (deref y.2 x.1).bind fun u => (deref y.2 y.1).bind fun w => (f u w).bind fun r => some (.vl r, y.2)
/-- two values by a rule, as data -/
def OpD (K : PySem.W.Frag) (r : R2) (f : D → D → Option D) : Prop := ∀ (B H : Hp) (x y : V) (d e g : D) (Q : VK), Ex B H → Sh K B H d x → Sh K B H e y → f d e = some g → (∀ v B' H', New B H B' H' → Dat K B' g v → Q v H') → r x y H Q
theorem and_both {p q : Bool} (h : (p && q) = true) : p = true ∧ q = true := by cases p <;> cases q <;> first | exact ⟨rfl, rfl⟩ | cases h
theorem tE_bin {K : PySem.W.Frag} {r : R2} {f : D → D → Option D} {ma mb : M} (O : OpD K r f) {σ : L2.St} {H : Hp} {Q : VK} (h : tE K (p && q) (eB q f ma mb) σ H Q) : tE K p ma σ H fun x H1 => tE K q mb σ H1 fun y H2 => r x y H2 Q := by
  obtain ⟨B, ρ, F, S, a, ρ', e, k⟩ := h
  obtain ⟨⟨x, ρ1⟩, ea, e⟩ := ob e
  obtain ⟨⟨y, ρ2⟩, eb, e⟩ := ob e
  obtain ⟨eg, e⟩ := og e
  obtain ⟨u, eu, e⟩ := ob e
  obtain ⟨w, ew, e⟩ := ob e
  obtain ⟨g, ef, e⟩ := ob e
  cases e
  refine ⟨B, ρ, F, S, x, ρ1, ea, fun v1 B1 H1 F1 E1 S1 A1 P1 => ⟨B1, ρ1, F1, S1, y, ρ2, eb, fun v2 B2 H2 F2 E2 S2 A2 P2 => ?_⟩⟩
  have A1' := A1.keep (B' := B2) (ρ' := ρ2) (H' := H2) E2.bb (guard_keep eg P2)
  refine O B2 H2 v1 v2 u w g Q S2.bh (S2.deref A1' eu) (S2.deref A2 ew) ef fun v B3 H3 n dv => ?_
  refine k v B3 H3 F2 ((E1.trans E2).trans n.ext) (S2.new n) dv fun z => ?_
  obtain ⟨z1, z2⟩ := and_both z
  obtain ⟨a1, a2, a3⟩ := P1 z1
  obtain ⟨b1, b2, b3⟩ := P2 z2
  exact ⟨b1.trans a1, b2.trans a2, (a3.trans b3).trans n.hh⟩
theorem c_op {op : Operator} {r : R2} {f : D → D → Option D} {a b : Expr} {ma mb : M} (ho : OpR X (binaryOp op) r) (O : OpD X.K r f) (ha : PE X a (tE X.K p ma)) (hb : PE X b (tE X.K q mb)) : PE X (.BinOp a op b pos) (tE X.K (p && q) (eB q f ma mb)) :=
  peW (pe_op ho ha hb) fun _ _ _ h => tE_bin O h
theorem c_cmp {op : CmpOp} {r : R2} {f : D → D → Option D} {a b : Expr} {ma mb : M} (ho : OpR X (compareOp op) r) (O : OpD X.K r f) (hm : behindInMarks op b = false) (ha : PE X a (tE X.K p ma)) (hb : PE X b (tE X.K q mb)) :
    PE X (.Compare a [op] [b] pos) (tE X.K (p && q) (eB q f ma mb)) := peW (pe_cmpR ho ha hb hm) fun _ _ _ h => tE_bin O h
theorem c_ix {r : R2} {f : D → D → Option D} {a b : Expr} {ma mb : M} (ho : IxR X r) (O : OpD X.K r f) (ha : PE X a (tE X.K p ma)) (hb : PE X b (tE X.K q mb)) (hs : PlainIx b) : PE X (.Subscript a b pos) (tE X.K (p && q) (eB q f ma mb)) :=
  peW (pe_ix ho ha hb hs) fun _ _ _ h => tE_bin O h
theorem OpR.or {f : Value → Value → Sem Value} {r r' : R2} (h : OpR X f r) (h' : OpR X f r') : OpR X f (fun x y H Q => r x y H Q ∨ r' x y H Q) := fun pins s σ H x y v u Q I rx ry z => z.elim (fun z => h pins s σ H x y v u Q I rx ry z) fun z => h' pins s σ H x y v u Q I rx ry z
theorem OpD.or {K : PySem.W.Frag} {r r' : R2} {f f' : D → D → Option D} (h : OpD K r f) (h' : OpD K r' f') : OpD K (fun x y H Q => r x y H Q ∨ r' x y H Q) (fun d e => (f d e).or (f' d e)) := fun B H x y d e g Q b sx sy ef k => by
  cases z : f d e with
  | some g' =>
    have ef' : (f d e).or (f' d e) = some g := ef
    rw [z] at ef'
    cases ef'
    exact Or.inl (h B H x y d e g Q b sx sy z k)
  | none =>
    have ef' : (f d e).or (f' d e) = some g := ef
    rw [z] at ef'
    exact Or.inr (h' B H x y d e g Q b sx sy ef' k)
end
end DL

end

section
set_option Elab.async false
set_option linter.all false
set_option maxRecDepth 100000
set_option maxHeartbeats 2000000
namespace DL
open PySem L2

section
variable {K : PySem.W.Frag} {B B' H H' : Hp} {σ : L2.St} {ρ ρ' : Env} {F : Nat → Addr → Prop}
def guards (q : Bool) (as : List Arg) : Bool := !q && as.any Arg.deep
theorem ArgsOk.keep : ∀ {as : List Arg} {vs : List V}, ArgsOk K B H σ ρ as vs → Ex B B' → (as.any Arg.deep = true → ρ' = ρ ∧ Ex H H') → ArgsOk K B' H' σ ρ' as vs
  | [], _, h, _, _ => h
  | a :: as, _, ⟨v, r, h1, h2, h3⟩, b, c => ⟨v, r, h1, h2.keep b (fun z => c (by simp [z])), h3.keep b fun z => c (by simp only [List.any_cons, z, Bool.or_true])⟩
def derefs (ρ : Env) : List Arg → Option (List D)
  | [] => some []
  | a :: as => (deref ρ a).bind fun d => (derefs ρ as).bind fun ds => some (d :: ds)
def ShL (K : PySem.W.Frag) (B H : Hp) : List D → List V → Prop
  | [], vs => vs = []
  | d :: ds, vs => ∃ v r, vs = v :: r ∧ Sh K B H d v ∧ ShL K B H ds r
theorem St.derefs (S : St K B H σ ρ F) : ∀ {as : List Arg} {vs : List V} {ds : List D}, ArgsOk K B H σ ρ as vs → derefs ρ as = some ds → ShL K B H ds vs
  | [], _, _, h, e => by cases (show some [] = some _ from e); exact h
  | a :: as, _, ds, ⟨v, r, h1, h2, h3⟩, e => by
    obtain ⟨d, e1, e⟩ := ob e
    obtain ⟨ds, e2, e⟩ := ob e
    cases e
    exact ⟨v, r, h1, S.deref h2 e1, S.derefs h3 e2⟩
/-- a slot's tree is frozen -/
theorem St.freeze (S : St K B H σ ρ F) {i : Nat} {t : T} (e : ρ[i]? = some (some t)) : ∃ v B', σ[i]? = some (some v) ∧ Ext B H (U F) B' H (U fun j => if j = i then fun _ => False else F j) ∧
    St K B' H σ (ρ.set i (some (.fz t.toD))) (fun j => if j = i then fun _ => False else F j) ∧ Dat K B' t.toD v := by
  obtain ⟨v, h1, h2⟩ := S.sl i t e
  have n : ∀ a, F i a → B a = none := S.nb i
  have hi : i < ρ.length := (List.getElem?_eq_some_iff.mp e).1
  refine ⟨v, frzB B H (F i), h1, ⟨frzB_ex n, fun a o z _ => z, fun a _ u z => ?_, fun a _ u z => ?_⟩, ?_, h2.frozen n⟩
  · rw [frzB_out fun y => u ⟨i, y⟩]; exact z
  · obtain ⟨j, z⟩ := z
    by_cases q : j = i
    · rw [if_pos q] at z; exact z
    · rw [if_neg q] at z; exact u ⟨j, z⟩
  · refine ⟨frzB_le S.bh, fun j u e' => ?_, fun j a z => ?_, fun j a z => ?_, fun j l a ne z => ?_, by rw [List.length_set]; exact S.ln⟩
    · by_cases q : j = i
      · subst q
        rw [List.getElem?_set_self hi] at e'
        cases e'
        exact ⟨v, h1, h2.frozen n⟩
      · rw [List.getElem?_set_ne (Ne.symm q)] at e'
        obtain ⟨w, g1, g2⟩ := S.sl j u e'
        rw [if_neg q]
        exact ⟨w, g1, g2.frame (frzB_ex n) fun _ _ _ z => z⟩
    · by_cases q : j = i
      · rw [if_pos q] at z; exact z.elim
      · rw [if_neg q] at z
        rw [frzB_out (S.dj j i a q z)]
        exact S.nb j a z
    · by_cases q : j = i
      · rw [if_pos q] at z; exact z.elim
      · rw [if_neg q] at z; exact S.al j a z
    · by_cases q : j = i
      · rw [if_pos q] at z; exact z.elim
      · rw [if_neg q] at z
        by_cases q2 : l = i
        · rw [if_pos q2]; exact fun y => y
        · rw [if_neg q2]; exact S.dj j l a ne z
/-- an operand as data for good -/
def frzA (ρ : Env) : Arg → Option (D × Env)
  | .vl d => some (d, ρ)
  | .rf i [] => (ρ.t i).bind fun t => some (t.toD, ρ.set i (some (.fz t.toD)))
  | .rf _ (_ :: _) => none
theorem St.frzA (S : St K B H σ ρ F) {a : Arg} {v : V} {d : D} (h : ArgOk K B H σ ρ a v) (e : frzA ρ a = some (d, ρ')) : ∃ B' F', Ext B H (U F) B' H (U F') ∧ St K B' H σ ρ' F' ∧ Dat K B' d v := by
  match a, h, e with
  | .vl d', h, e =>
    cases (show some (d', ρ) = some (d, ρ') from e)
    exact ⟨B, F, Ext.refl, S, h⟩
  | .rf i [], h, e =>
    have e' : (ρ.t i).bind (fun t => some (t.toD, ρ.set i (some (.fz t.toD)))) = some (d, ρ') := e
    obtain ⟨t, e1, e2⟩ := ob e'
    cases e2
    obtain ⟨w, B', g1, g2, g3, g4⟩ := S.freeze (Env.t_some e1)
    rw [show σ[i]? = some (some v) from h] at g1
    cases g1
    exact ⟨B', _, g2, g3, g4⟩
  | .rf _ (_ :: _), _, e => cases (show none = some (d, ρ') from e)
def frzL (ρ : Env) : List Arg → Option (List D × Env)
  | [] => some ([], ρ)
  | a :: as => (frzA ρ a).bind fun x => (frzL x.2 as).bind fun y => some (x.1 :: y.1, y.2)
theorem frzA_nodeep {a : Arg} {x : D × Env} (e : frzA ρ a = some x) : a.deep = false := by
  match a, e with
  | .vl _, _ => rfl
  | .rf _ [], _ => rfl
  | .rf _ (_ :: _), e => cases (show none = some x from e)
theorem frzL_nodeep : ∀ {as : List Arg} {ρ : Env} {x : List D × Env}, frzL ρ as = some x → as.any Arg.deep = false
  | [], _, _, _ => rfl
  | a :: as, ρ, x, e => by
    obtain ⟨y, e1, e⟩ := ob e
    obtain ⟨z, e2, e⟩ := ob e
    rw [List.any_cons, frzA_nodeep e1, frzL_nodeep e2]
    rfl
theorem frzL_sound : ∀ {as : List Arg} {vs : List V} {ds : List D} {B H : Hp} {ρ ρ' : Env} {F : Nat → Addr → Prop}, St K B H σ ρ F → ArgsOk K B H σ ρ as vs → frzL ρ as = some (ds, ρ') → ∃ B' F', Ext B H (U F) B' H (U F') ∧ St K B' H σ ρ' F' ∧ DatL K B' ds vs
  | [], _, _, B, H, ρ, _, F, S, h, e => by
    cases (show some ([], ρ) = some _ from e)
    exact ⟨B, F, Ext.refl, S, h⟩
  | a :: as, _, _, B, H, ρ, _, F, S, ⟨v, r, h1, h2, h3⟩, e => by
    obtain ⟨⟨d, ρ1⟩, e1, e⟩ := ob e
    obtain ⟨⟨ds, ρ2⟩, e2, e⟩ := ob e
    cases e
    obtain ⟨B1, F1, E1, S1, d1⟩ := S.frzA h2 e1
    obtain ⟨B2, F2, E2, S2, d2⟩ := frzL_sound S1 (h3.keep E1.bb (ρ' := ρ1) (H' := H) fun z => by rw [frzL_nodeep e2] at z; cases z) e2
    exact ⟨B2, F2, E1.trans E2, S2, v, r, h1, d1.mono E2.bb, d2⟩
end

section
variable {X : Cx} {p q : Bool} {pos : Pos}
/-! ### arguments -/
def mNil : MA := fun ρ => some ([], ρ)
def mCons (q : Bool) (a : M) (as : MA) : MA := fun ρ => (a ρ).bind fun x => (as x.2).bind fun y => if guard q x.1 = true then none else some (x.1 :: y.1, y.2)
theorem a_nil : PA X [] (tA X.K p mNil) := paW pa_nil fun σ H Q h => by
  obtain ⟨B, ρ, F, S, as, ρ', e, k⟩ := h
  cases (show some ([], ρ) = some (as, ρ') from e)
  exact k [] B H F Ext.refl S rfl fun _ => ⟨rfl, rfl, Ex.refl _⟩
theorem a_cons {e : Expr} {es : List Expr} {ma : M} {ms : MA} (ha : PE X e (tE X.K p ma)) (hs : PA X es (tA X.K q ms)) (h : starEach (e :: es) X.env = (false, eval e X.env) :: starEach es X.env := by rfl) :
    PA X (e :: es) (tA X.K (p && q) (mCons q ma ms)) := paW (pa_cons ha hs h) fun σ H Q h => by
  obtain ⟨B, ρ, F, S, as, ρ', e, k⟩ := h
  obtain ⟨⟨x, ρ1⟩, ea, e⟩ := ob e
  obtain ⟨⟨ys, ρ2⟩, eb, e⟩ := ob e
  obtain ⟨eg, e⟩ := og e
  cases e
  refine ⟨B, ρ, F, S, x, ρ1, ea, fun v1 B1 H1 F1 E1 S1 A1 P1 => ⟨B1, ρ1, F1, S1, ys, ρ2, eb, fun vs B2 H2 F2 E2 S2 A2 P2 => ?_⟩⟩
  refine k (v1 :: vs) B2 H2 F2 (E1.trans E2) S2 ⟨v1, vs, rfl, A1.keep E2.bb (guard_keep eg P2), A2⟩ fun z => ?_
  obtain ⟨z1, z2⟩ := and_both z
  obtain ⟨a1, a2, a3⟩ := P1 z1
  obtain ⟨b1, b2, b3⟩ := P2 z2
  exact ⟨b1.trans a1, b2.trans a2, a3.trans b3⟩
/-! ### a builtin called -/
def eCB (f : List D → Option D) (as : MA) : M := fun ρ => (as ρ).bind fun y => (derefs y.2 y.1).bind fun ds => (f ds).bind fun r => some (.vl r, y.2)
def OpA (K : PySem.W.Frag) (r : List V → Hp → VK → Prop) (f : List D → Option D) : Prop := ∀ (B H : Hp) (vs : List V) (ds : List D) (g : D) (Q : VK), Ex B H → ShL K B H ds vs → f ds = some g → (∀ v B' H', New B H B' H' → Dat K B' g v → Q v H') → r vs H Q
theorem tE_cb {K : PySem.W.Frag} {r : List V → Hp → VK → Prop} {f : List D → Option D} {ms : MA} (O : OpA K r f) {σ : L2.St} {H : Hp} {Q : VK} (h : tE K p (eCB f ms) σ H Q) : tA K p ms σ H fun vs H1 => r vs H1 Q := by
  obtain ⟨B, ρ, F, S, a, ρ', e, k⟩ := h
  obtain ⟨⟨ys, ρ1⟩, ea, e⟩ := ob e
  obtain ⟨ds, ed, e⟩ := ob e
  obtain ⟨g, ef, e⟩ := ob e
  cases e
  refine ⟨B, ρ, F, S, ys, ρ1, ea, fun vs B1 H1 F1 E1 S1 A1 P1 => ?_⟩
  refine O B1 H1 vs ds g Q S1.bh (S1.derefs A1 ed) ef fun v B2 H2 n dv => ?_
  refine k v B2 H2 F1 (E1.trans n.ext) (S1.new n) dv fun z => ?_
  obtain ⟨a1, a2, a3⟩ := P1 z
  exact ⟨a1, a2, a3.trans n.hh⟩
theorem c_cb {id : String} {x : Str} {po : Pos} {e : Expr} {es : List Expr} {r : List V → Hp → VK → Prop} {f : List D → Option D} {ms : MA} (hc : CallR X (.builtin id) r) (O : OpA X.K r f) (hm : X.mg x = none) (hv : bootBuiltins x = some (.builtin id)) (ha : PA X (e :: es) (tA X.K p ms)) (hg : Gl X x := by rfl)
    (hn : x ≠ "__name__" := by decide) (hdb : (x == ("__debug__" : Str)) = false := by decide)
    (he : starEach (e :: es) X.env = (false, eval e X.env) :: starEach es X.env := by rfl) (hpl : (backTo pos (starEach es X.env)).any (·.1) = false := by rfl) : PE X (.Call (.Name x po) (e :: es) [] pos) (tE X.K p (eCB f ms)) :=
  peW (pe_callB hc hg hm hv ha hn hdb he hpl) fun _ _ _ h => tE_cb O h
theorem c_ct {T : String} {x : Str} {po : Pos} {e : Expr} {es : List Expr} {r : List V → Hp → VK → Prop} {f : List D → Option D} {ms : MA} (hc : CallR X (.type T) r) (O : OpA X.K r f) (hm : X.mg x = none) (hv : bootBuiltins x = some (.type T)) (ha : PA X (e :: es) (tA X.K p ms)) (hg : Gl X x := by rfl)
    (hn : x ≠ "__name__" := by decide) (hdb : (x == ("__debug__" : Str)) = false := by decide)
    (he : starEach (e :: es) X.env = (false, eval e X.env) :: starEach es X.env := by rfl) (hpl : (backTo pos (starEach es X.env)).any (·.1) = false := by rfl) : PE X (.Call (.Name x po) (e :: es) [] pos) (tE X.K p (eCB f ms)) :=
  peW (pe_callTy hc hg hm hv ha hn hdb he hpl) fun _ _ _ h => tE_cb O h
/-! ### ours and frozen -/
abbrev MO := Env → Option (T × Env)
def eO (m : MO) : M := fun ρ => (m ρ).bind fun x => some (.vl x.1.toD, x.2)
/-- an expression whose value is ours, its value frozen -/
theorem e_of_o {e : Expr} {m : MO} (h : PE X e (tO X.K m)) : PE X e (tE X.K false (eO m)) := peW h fun σ H Q h => by
  obtain ⟨B, ρ, F, S, a, ρ', e, k⟩ := h
  obtain ⟨⟨t, ρ1⟩, ea, e⟩ := ob e
  cases e
  refine ⟨B, ρ, F, S, t, ρ1, ea, fun v B1 H1 F1 G E1 S1 O1 => ?_⟩
  refine k v (frzB B1 H1 G) H1 F1 ⟨E1.bb.trans (frzB_ex O1.nb), E1.fr, fun a h n z => ?_, fun a h n z => E1.nf a h n (Or.inl z)⟩ ⟨frzB_le S1.bh, fun i t e => ?_, fun i a z => ?_, S1.al, S1.dj, S1.ln⟩ (O1.own.frozen O1.nb) fun z => nomatch z
  · rw [frzB_out fun y => E1.nf a h n (Or.inr y)]
    exact E1.nb a h n z
  · obtain ⟨w, g1, g2⟩ := S1.sl i t e
    exact ⟨w, g1, g2.frame (frzB_ex O1.nb) fun _ _ _ z => z⟩
  · rw [frzB_out fun y => O1.dj i a y z]
    exact S1.nb i a z
def oE (m : M) : MO := fun ρ => (m ρ).bind fun x => (frzA x.2 x.1).bind fun y => some (.fz y.1, y.2)
theorem o_of_e {e : Expr} {m : M} (h : PE X e (tE X.K p m)) : PE X e (tO X.K (oE m)) := peW h fun σ H Q h => by
  obtain ⟨B, ρ, F, S, t, ρ', e, k⟩ := h
  obtain ⟨⟨a, ρ1⟩, ea, e⟩ := ob e
  obtain ⟨⟨d, ρ2⟩, ed, e⟩ := ob e
  cases e
  refine ⟨B, ρ, F, S, a, ρ1, ea, fun v B1 H1 F1 E1 S1 A1 P1 => ?_⟩
  obtain ⟨B2, F2, E2, S2, d2⟩ := S1.frzA A1 ed
  exact k v B2 H1 F2 (fun _ => False) ((E1.trans E2).less fun x z => z.elim (fun y => y) fun y => y.elim) S2 ⟨d2, fun _ z => z.elim, fun _ z => z.elim, fun _ _ z => z.elim⟩
/-- a slot's tree is given away -/
def oV (i : Nat) : MO := fun ρ => (ρ.t i).bind fun t => some (t, ρ.set i none)
theorem o_v (i : Nat) {x : Str} (hN : X.N[i]? = some x := by rfl) (hv : Vis X.env.scope x := by first | exact Or.inl rfl | exact Or.inr (Or.inl rfl) | exact Or.inr (Or.inr rfl)) (hd : (x == ("__debug__" : Str)) = false := by decide)
    (hcd : (x == ("__classdict__" : Str)) = false := by decide) : PE X (.Name x pos) (tO X.K (oV i)) := peW (pe_var hN hv hd hcd) fun σ H Q h => by
  obtain ⟨B, ρ, F, S, t, ρ', e, k⟩ := h
  obtain ⟨t', e1, e⟩ := ob e
  cases e
  obtain ⟨v, h1, h2⟩ := S.sl i t (Env.t_some e1)
  have hi : i < ρ.length := (List.getElem?_eq_some_iff.mp (Env.t_some e1)).1
  refine ⟨v, h1, k v B H (fun j => if j = i then fun _ => False else F j) (F i) ⟨Ex.refl _, fun a o z _ => z, fun a _ _ z => z, fun a _ n z => ?_⟩ ⟨S.bh, fun j u e => ?_, fun j a z => ?_, fun j a z => ?_, fun j l a ne z => ?_, by rw [List.length_set]; exact S.ln⟩ ⟨h2, S.nb i, S.al i, fun j a z => ?_⟩⟩
  · rcases z with ⟨j, z⟩ | z
    · by_cases q : j = i
      · rw [if_pos q] at z; exact z
      · rw [if_neg q] at z; exact n ⟨j, z⟩
    · exact n ⟨i, z⟩
  · by_cases q : j = i
    · subst q
      rw [List.getElem?_set_self hi] at e
      cases e
    · rw [List.getElem?_set_ne (Ne.symm q)] at e
      rw [if_neg q]
      exact S.sl j u e
  · by_cases q : j = i
    · rw [if_pos q] at z; exact z.elim
    · rw [if_neg q] at z; exact S.nb j a z
  · by_cases q : j = i
    · rw [if_pos q] at z; exact z.elim
    · rw [if_neg q] at z; exact S.al j a z
  · by_cases q : j = i
    · rw [if_pos q] at z; exact z.elim
    · rw [if_neg q] at z
      by_cases q2 : l = i
      · rw [if_pos q2]; exact fun y => y
      · rw [if_neg q2]; exact S.dj j l a ne z
  · by_cases q : j = i
    · rw [if_pos q]; exact fun y => y
    · rw [if_neg q]; exact S.dj i j a (Ne.symm q) z
/-! ### displays -/
theorem new_own {K : PySem.W.Frag} {B H : Hp} {σ : L2.St} {ρ : Env} {F : Nat → Addr → Prop} (S : St K B H σ ρ F) {pp : Addr} {o : HO} (h : H pp = none) : Ext B H (U F) B (upd H pp o) (fun a => U F a ∨ a = pp) ∧ St K B (upd H pp o) σ ρ F ∧
    (∀ a, a = pp → B a = none) ∧ (∀ a, a = pp → upd H pp o a ≠ none) ∧ (∀ i a, a = pp → ¬ F i a) := by
  have bp : B pp = none := by
    cases q : B pp with
    | none => rfl
    | some u => rw [S.bh pp u q] at h; cases h
  have fp : ∀ i, ¬ F i pp := fun i z => S.al i pp z h
  refine ⟨⟨Ex.refl _, fun a o e _ => Ex.new h a o e, fun a _ _ z => z, fun a n u z => ?_⟩, ⟨S.bh.trans (Ex.new h), fun i t e => ?_, S.nb, fun i a z => ?_, S.dj, S.ln⟩, (fun a e => by rw [e]; exact bp), (fun a e => by rw [e, upd_same]; exact fun z => nomatch z), fun i a e => by rw [e]; exact fp i⟩
  · rcases z with z | z
    · exact u z
    · rw [z] at n; exact n h
  · obtain ⟨v, h1, h2⟩ := S.sl i t e
    exact ⟨v, h1, h2.frame (Ex.refl _) fun a o _ q => Ex.new h a o q⟩
  · cases q : H a with
    | none => exact absurd q (S.al i a z)
    | some u => rw [Ex.new h a u q]; exact fun z => nomatch z
def small (ds : List D) : Bool := decide (ds.length ≤ 100000)
theorem small_le {ds : List D} (h : small ds = true) : ds.length ≤ sizeLine := Nat.le_trans (of_decide_eq_true h) (by decide)
def oLst (as : MA) : MO := fun ρ => (as ρ).bind fun y => (frzL y.2 y.1).bind fun z => if (!small z.1) = true then none else some (.nd .lst (z.1.map .fz), z.2)
theorem o_lst {es : List Expr} {ms : MA} (h : PA X es (tA X.K p ms)) : PE X (.List es pos) (tO X.K (oLst ms)) := peW (pe_lst h) fun σ H Q h => by
  obtain ⟨B, ρ, F, S, t, ρ', e, k⟩ := h
  obtain ⟨⟨ys, ρ1⟩, ea, e⟩ := ob e
  obtain ⟨⟨ds, ρ2⟩, ed, e⟩ := ob e
  obtain ⟨es, e⟩ := og e
  cases e
  refine ⟨B, ρ, F, S, ys, ρ1, ea, fun vs B1 H1 F1 E1 S1 A1 P1 => ?_⟩
  obtain ⟨B2, F2, E2, S2, d2⟩ := frzL_sound S1 A1 ed
  refine ⟨by rw [← d2.len]; exact small_le (by simpa using es), fun pp hp => ?_⟩
  obtain ⟨n1, n2, n3, n4, n5⟩ := new_own S2 (o := .lst vs) hp
  exact k _ B2 _ F2 (fun a => a = pp) ((E1.trans E2).trans n1) n2 ⟨⟨pp, vs, rfl, rfl, upd_same, OwnL.of_dat d2⟩, n3, n4, n5⟩
def eTup (as : MA) : M := fun ρ => (as ρ).bind fun y => (frzL y.2 y.1).bind fun z => if (!small z.1) = true then none else some (.vl (.nd .tup z.1), z.2)
theorem c_tup {x1} {es : List Expr} {ms : MA} (h : PA X es (tA X.K p ms)) : PE X (.Tuple es x1 pos) (tE X.K false (eTup ms)) := peW (pe_tup h) fun σ H Q h => by
  obtain ⟨B, ρ, F, S, t, ρ', e, k⟩ := h
  obtain ⟨⟨ys, ρ1⟩, ea, e⟩ := ob e
  obtain ⟨⟨ds, ρ2⟩, ed, e⟩ := ob e
  obtain ⟨es, e⟩ := og e
  cases e
  refine ⟨B, ρ, F, S, ys, ρ1, ea, fun vs B1 H1 F1 E1 S1 A1 P1 => ?_⟩
  obtain ⟨B2, F2, E2, S2, d2⟩ := frzL_sound S1 A1 ed
  refine ⟨by rw [← d2.len]; exact small_le (by simpa using es), fun pp hp => ?_⟩
  have n := New.lay (o := .tup vs) S2.bh hp
  exact k _ _ _ F2 ((E1.trans E2).trans n.ext) (S2.new n) ⟨pp, vs, rfl, SqT.of upd_same, d2.mono n.bb⟩ fun z => nomatch z
/-- an empty dict -/
def oDic0 : MO := fun ρ => some (.nd (.dic []) [], ρ)
theorem o_dic0 : PE X (.Dict [] [] pos) (tO X.K oDic0) := peW pe_dnewK fun σ H Q h => by
  obtain ⟨B, ρ, F, S, t, ρ', e, k⟩ := h
  cases (show some (T.nd (.dic []) [], ρ) = some (t, ρ') from e)
  intro pp hp
  obtain ⟨n1, n2, n3, n4, n5⟩ := new_own S (o := .dK []) hp
  exact k _ B _ F (fun a => a = pp) n1 n2 ⟨⟨pp, [], rfl, rfl, ⟨rfl, upd_same⟩, rfl⟩, n3, n4, n5⟩
end
end DL

end

section
set_option Elab.async false
set_option linter.all false
set_option maxRecDepth 100000
set_option maxHeartbeats 2000000
namespace DL
open PySem L2

section
variable {X : Cx} {p q : Bool} {pos : Pos}
/-! ### tests -/
def truD : D → Option Bool
  | .non => some false
  | .bl b => some b
  | .int i => some (i != 0)
  | .str s => if s.length ≤ 100000 then some ((s.length : Int) != 0) else none
  | .nd .tup ds => some (!ds.isEmpty)
  | .nd .lst ds => some (!ds.isEmpty)
  | .nd .ll ds => some (!ds.isEmpty)
  | .nd (.dic _) _ => none
  | .nd (.exc _ _) _ => none
  | .nd (.ins _ _) _ => none
def tM (m : M) : MT := fun ρ => (m ρ).bind fun x => (deref x.2 x.1).bind fun d => (truD d).bind fun b => some (b, x.2)
theorem isEmpty_len {α β : Type} {a : List α} {b : List β} (h : a.length = b.length) : a.isEmpty = b.isEmpty := by
  cases a <;> cases b <;> first | rfl | cases h
theorem tru_sh {K : PySem.W.Frag} {B H : Hp} (b : Ex B H) {d : D} {v : V} {k : Bool} (h : Sh K B H d v) (e : truD d = some k) : TruV K v H k := by
  cases d with
  | non => cases (show v = .non from h); cases (show some false = some k from e); rfl
  | bl x => cases (show v = .bl x from h); cases (show some x = some k from e); rfl
  | int i => cases (show v = .int i from h); cases (show some _ = some k from e); rfl
  | str s =>
    cases (show v = .str s from h)
    have e' : (if s.length ≤ 100000 then some ((s.length : Int) != 0) else none) = some k := e
    by_cases z : s.length ≤ 100000
    · rw [if_pos z] at e'
      cases e'
      exact ⟨Nat.le_trans z (by decide), rfl⟩
    · rw [if_neg z] at e'; cases e'
  | nd kk ds =>
    obtain ⟨a, vs, rfl, h2, h3⟩ := h.nd b
    have el := isEmpty_len h3.len
    cases kk with
    | tup => cases (show some _ = some k from e); exact Or.inr (Or.inl ⟨vs, h2, by rw [el]⟩)
    | lst => cases (show some _ = some k from e); exact Or.inl ⟨vs, SqL.of h2, by rw [el]⟩
    | ll => cases (show some _ = some k from e); exact Or.inl ⟨vs, h2, by rw [el]⟩
    | dic ks => cases (show none = some k from e)
    | exc _ _ => cases (show none = some k from e)
    | ins _ _ => cases (show none = some k from e)
theorem t_e {e : Expr} {m : M} (h : PE X e (tE X.K p m)) (he : ∀ whole, isTrue e X.env whole = (do let v ← whole; standAt e.pos; holding [v] (truthy v)) := by intro _; rfl) : PT X e (tT X.K p (tM m)) :=
  ptW (pt_truth h he) fun σ H Q h => by
    obtain ⟨B, ρ, F, S, b, ρ', e, k⟩ := h
    obtain ⟨⟨a, ρ1⟩, ea, e⟩ := ob e
    obtain ⟨d, ed, e⟩ := ob e
    obtain ⟨b', eb, e⟩ := ob e
    cases e
    exact ⟨B, ρ, F, S, a, ρ1, ea, fun v B1 H1 F1 E1 S1 A1 P1 => ⟨b, tru_sh S1.bh (S1.deref A1 ed) eb, k B1 H1 F1 E1 S1 P1⟩⟩
/-- a comparison as a test: its value is a bool -/
def tB (q : Bool) (f : D → D → Option D) (a b : M) : MT := fun ρ => (eB q f a b ρ).bind fun x => match x.1 with
  | .vl (.bl k) => some (k, x.2)
  | _ => none
theorem t_cmp {op : CmpOp} {r : R2} {f : D → D → Option D} {a b : Expr} {ma mb : M} (ho : OpR X (compareOp op) r) (O : OpD X.K r f) (hm : behindInMarks op b = false) (ha : PE X a (tE X.K p ma)) (hb : PE X b (tE X.K q mb)) :
    PT X (.Compare a [op] [b] pos) (tT X.K (p && q) (tB q f ma mb)) := ptW (pt_cmpR ho ha hb hm) fun σ H Q h => by
  obtain ⟨B, ρ, F, S, b, ρ', e, k⟩ := h
  obtain ⟨⟨a, ρ1⟩, ea, e⟩ := ob e
  refine tE_bin O ⟨B, ρ, F, S, a, ρ1, ea, fun v B1 H1 F1 E1 S1 A1 P1 => ?_⟩
  match a, e, A1 with
  | .vl (.bl k'), e, A1 =>
    cases (show some (k', ρ1) = some (b, ρ') from e)
    exact ⟨b, A1, k B1 H1 F1 E1 S1 P1⟩
  | .vl .non, e, _ => cases (show none = some _ from e)
  | .vl (.int _), e, _ => cases (show none = some _ from e)
  | .vl (.str _), e, _ => cases (show none = some _ from e)
  | .vl (.nd _ _), e, _ => cases (show none = some _ from e)
  | .rf _ _, e, _ => cases (show none = some _ from e)
/-! and, or, not as tests -/
def tAndM (a b : MT) : MT := fun ρ => (a ρ).bind fun x => if x.1 = true then b x.2 else some (false, x.2)
def tOrM (a b : MT) : MT := fun ρ => (a ρ).bind fun x => if x.1 = true then some (true, x.2) else b x.2
def tNotM (a : MT) : MT := fun ρ => (a ρ).bind fun x => some (!x.1, x.2)
theorem tT_and {K : PySem.W.Frag} {a b : MT} {σ : L2.St} {H : Hp} {Q : Bool → Hp → Prop} (h : tT K (p && q) (tAndM a b) σ H Q) : tAnd (tT K p a) (tT K q b) σ H Q := by
  obtain ⟨B, ρ, F, S, c, ρ', e, k⟩ := h
  obtain ⟨⟨x, ρ1⟩, ea, e⟩ := ob e
  refine ⟨B, ρ, F, S, x, ρ1, ea, fun B1 H1 F1 E1 S1 P1 => ?_⟩
  cases x with
  | true =>
    have e' : b ρ1 = some (c, ρ') := e
    refine iteT ⟨B1, ρ1, F1, S1, c, ρ', e', fun B2 H2 F2 E2 S2 P2 => k B2 H2 F2 (E1.trans E2) S2 fun z => ?_⟩
    obtain ⟨z1, z2⟩ := and_both z
    obtain ⟨a1, a2, a3⟩ := P1 z1
    obtain ⟨b1, b2, b3⟩ := P2 z2
    exact ⟨b1.trans a1, b2.trans a2, a3.trans b3⟩
  | false =>
    cases (show some (false, ρ1) = some (c, ρ') from e)
    exact iteF (k B1 H1 F1 E1 S1 fun z => P1 (and_both z).1)
theorem tT_or {K : PySem.W.Frag} {a b : MT} {σ : L2.St} {H : Hp} {Q : Bool → Hp → Prop} (h : tT K (p && q) (tOrM a b) σ H Q) : tOr (tT K p a) (tT K q b) σ H Q := by
  obtain ⟨B, ρ, F, S, c, ρ', e, k⟩ := h
  obtain ⟨⟨x, ρ1⟩, ea, e⟩ := ob e
  refine ⟨B, ρ, F, S, x, ρ1, ea, fun B1 H1 F1 E1 S1 P1 => ?_⟩
  cases x with
  | false =>
    have e' : b ρ1 = some (c, ρ') := e
    refine iteF ⟨B1, ρ1, F1, S1, c, ρ', e', fun B2 H2 F2 E2 S2 P2 => k B2 H2 F2 (E1.trans E2) S2 fun z => ?_⟩
    obtain ⟨z1, z2⟩ := and_both z
    obtain ⟨a1, a2, a3⟩ := P1 z1
    obtain ⟨b1, b2, b3⟩ := P2 z2
    exact ⟨b1.trans a1, b2.trans a2, a3.trans b3⟩
  | true =>
    cases (show some (true, ρ1) = some (c, ρ') from e)
    exact iteT (k B1 H1 F1 E1 S1 fun z => P1 (and_both z).1)
theorem w_and {a b : Expr} {rest : List Expr} {ma mb : MT} (ha : PT X a (tT X.K p ma)) (hb : PW X (.BoolOp .And (b :: rest) pos) (tT X.K q mb)) : PW X (.BoolOp .And (a :: b :: rest) pos) (tT X.K (p && q) (tAndM ma mb)) := pwW (pw_and ha hb) fun _ _ _ h => tT_and h
theorem w_or {a b : Expr} {rest : List Expr} {ma mb : MT} (ha : PT X a (tT X.K p ma)) (hb : PW X (.BoolOp .Or (b :: rest) pos) (tT X.K q mb)) : PW X (.BoolOp .Or (a :: b :: rest) pos) (tT X.K (p && q) (tOrM ma mb)) := pwW (pw_or ha hb) fun _ _ _ h => tT_or h
theorem t_not {a : Expr} {ma : MT} (ha : PT X a (tT X.K p ma)) : PT X (.UnaryOp .Not a pos) (tT X.K p (tNotM ma)) := ptW (pt_not ha) fun σ H Q h => by
  obtain ⟨B, ρ, F, S, c, ρ', e, k⟩ := h
  obtain ⟨⟨x, ρ1⟩, ea, e⟩ := ob e
  cases e
  exact ⟨B, ρ, F, S, x, ρ1, ea, fun B1 H1 F1 E1 S1 P1 => k B1 H1 F1 E1 S1 P1⟩
/-! and, or, not, if-else as values (the first ones are bools) -/
def eAnd (a b : M) : M := fun ρ => (a ρ).bind fun x => match x.1 with
  | .vl (.bl true) => b x.2
  | .vl (.bl false) => some (.vl (.bl false), x.2)
  | _ => none
def eOr (a b : M) : M := fun ρ => (a ρ).bind fun x => match x.1 with
  | .vl (.bl false) => b x.2
  | .vl (.bl true) => some (.vl (.bl true), x.2)
  | _ => none
def eNot (a : M) : M := fun ρ => (a ρ).bind fun x => match x.1 with
  | .vl (.bl k) => some (.vl (.bl (!k)), x.2)
  | _ => none
def eIf (c : MT) (a b : M) : M := fun ρ => (c ρ).bind fun x => if x.1 = true then a x.2 else b x.2
theorem c_and {a b : Expr} {rest : List Expr} {ma mb : M} (ha : PE X a (tE X.K p ma)) (hb : PE X (.BoolOp .And (b :: rest) pos) (tE X.K q mb)) : PE X (.BoolOp .And (a :: b :: rest) pos) (tE X.K (p && q) (eAnd ma mb)) := peW (pe_and ha hb) fun σ H Q h => by
  obtain ⟨B, ρ, F, S, c, ρ', e, k⟩ := h
  obtain ⟨⟨x, ρ1⟩, ea, e⟩ := ob e
  refine ⟨B, ρ, F, S, x, ρ1, ea, fun v B1 H1 F1 E1 S1 A1 P1 => ?_⟩
  match x, e, A1 with
  | .vl (.bl true), e, A1 =>
    have e' : mb ρ1 = some (c, ρ') := e
    refine ⟨true, A1, iteT ⟨B1, ρ1, F1, S1, c, ρ', e', fun v2 B2 H2 F2 E2 S2 A2 P2 => k v2 B2 H2 F2 (E1.trans E2) S2 A2 fun z => ?_⟩⟩
    obtain ⟨z1, z2⟩ := and_both z
    obtain ⟨a1, a2, a3⟩ := P1 z1
    obtain ⟨b1, b2, b3⟩ := P2 z2
    exact ⟨b1.trans a1, b2.trans a2, a3.trans b3⟩
  | .vl (.bl false), e, A1 =>
    cases (show some (Arg.vl (.bl false), ρ1) = some (c, ρ') from e)
    exact ⟨false, A1, iteF (k _ B1 H1 F1 E1 S1 rfl fun z => P1 (and_both z).1)⟩
  | .vl .non, e, _ => cases (show none = some _ from e)
  | .vl (.int _), e, _ => cases (show none = some _ from e)
  | .vl (.str _), e, _ => cases (show none = some _ from e)
  | .vl (.nd _ _), e, _ => cases (show none = some _ from e)
  | .rf _ _, e, _ => cases (show none = some _ from e)
theorem c_or {a b : Expr} {rest : List Expr} {ma mb : M} (ha : PE X a (tE X.K p ma)) (hb : PE X (.BoolOp .Or (b :: rest) pos) (tE X.K q mb)) : PE X (.BoolOp .Or (a :: b :: rest) pos) (tE X.K (p && q) (eOr ma mb)) := peW (pe_or ha hb) fun σ H Q h => by
  obtain ⟨B, ρ, F, S, c, ρ', e, k⟩ := h
  obtain ⟨⟨x, ρ1⟩, ea, e⟩ := ob e
  refine ⟨B, ρ, F, S, x, ρ1, ea, fun v B1 H1 F1 E1 S1 A1 P1 => ?_⟩
  match x, e, A1 with
  | .vl (.bl false), e, A1 =>
    have e' : mb ρ1 = some (c, ρ') := e
    refine ⟨false, A1, iteF ⟨B1, ρ1, F1, S1, c, ρ', e', fun v2 B2 H2 F2 E2 S2 A2 P2 => k v2 B2 H2 F2 (E1.trans E2) S2 A2 fun z => ?_⟩⟩
    obtain ⟨z1, z2⟩ := and_both z
    obtain ⟨a1, a2, a3⟩ := P1 z1
    obtain ⟨b1, b2, b3⟩ := P2 z2
    exact ⟨b1.trans a1, b2.trans a2, a3.trans b3⟩
  | .vl (.bl true), e, A1 =>
    cases (show some (Arg.vl (.bl true), ρ1) = some (c, ρ') from e)
    exact ⟨true, A1, iteT (k _ B1 H1 F1 E1 S1 rfl fun z => P1 (and_both z).1)⟩
  | .vl .non, e, _ => cases (show none = some _ from e)
  | .vl (.int _), e, _ => cases (show none = some _ from e)
  | .vl (.str _), e, _ => cases (show none = some _ from e)
  | .vl (.nd _ _), e, _ => cases (show none = some _ from e)
  | .rf _ _, e, _ => cases (show none = some _ from e)
theorem c_one {op} {a : Expr} {ma : M} (ha : PE X a (tE X.K p ma)) : PE X (.BoolOp op [a] pos) (tE X.K p ma) := pe_one ha
theorem c_not {a : Expr} {ma : M} (ha : PE X a (tE X.K p ma)) : PE X (.UnaryOp .Not a pos) (tE X.K p (eNot ma)) := peW (pe_not ha) fun σ H Q h => by
  obtain ⟨B, ρ, F, S, c, ρ', e, k⟩ := h
  obtain ⟨⟨x, ρ1⟩, ea, e⟩ := ob e
  refine ⟨B, ρ, F, S, x, ρ1, ea, fun v B1 H1 F1 E1 S1 A1 P1 => ?_⟩
  match x, e, A1 with
  | .vl (.bl b), e, A1 =>
    cases (show some (Arg.vl (.bl (!b)), ρ1) = some (c, ρ') from e)
    exact ⟨b, A1, k _ B1 H1 F1 E1 S1 rfl P1⟩
  | .vl .non, e, _ => cases (show none = some _ from e)
  | .vl (.int _), e, _ => cases (show none = some _ from e)
  | .vl (.str _), e, _ => cases (show none = some _ from e)
  | .vl (.nd _ _), e, _ => cases (show none = some _ from e)
  | .rf _ _, e, _ => cases (show none = some _ from e)
theorem and3 {p q r : Bool} (h : (p && (q && r)) = true) : p = true ∧ q = true ∧ r = true := ⟨(and_both h).1, and_both (and_both h).2⟩
theorem c_if {r : Bool} {c a b : Expr} {mc : MT} {ma mb : M} (hc : PT X c (tT X.K p mc)) (ha : PE X a (tE X.K q ma)) (hb : PE X b (tE X.K r mb)) : PE X (.IfExp c a b pos) (tE X.K (p && (q && r)) (eIf mc ma mb)) := peW (pe_ifExp hc ha hb) fun σ H Q h => by
  obtain ⟨B, ρ, F, S, v, ρ', e, k⟩ := h
  obtain ⟨⟨x, ρ1⟩, ea, e⟩ := ob e
  refine ⟨B, ρ, F, S, x, ρ1, ea, fun B1 H1 F1 E1 S1 P1 => ?_⟩
  cases x with
  | true =>
    have e' : ma ρ1 = some (v, ρ') := e
    refine iteT ⟨B1, ρ1, F1, S1, v, ρ', e', fun v2 B2 H2 F2 E2 S2 A2 P2 => k v2 B2 H2 F2 (E1.trans E2) S2 A2 fun z => ?_⟩
    obtain ⟨z1, z2, z3⟩ := and3 z
    obtain ⟨a1, a2, a3⟩ := P1 z1
    obtain ⟨b1, b2, b3⟩ := P2 z2
    exact ⟨b1.trans a1, b2.trans a2, a3.trans b3⟩
  | false =>
    have e' : mb ρ1 = some (v, ρ') := e
    refine iteF ⟨B1, ρ1, F1, S1, v, ρ', e', fun v2 B2 H2 F2 E2 S2 A2 P2 => k v2 B2 H2 F2 (E1.trans E2) S2 A2 fun z => ?_⟩
    obtain ⟨z1, z2, z3⟩ := and3 z
    obtain ⟨a1, a2, a3⟩ := P1 z1
    obtain ⟨b1, b2, b3⟩ := P2 z3
    exact ⟨b1.trans a1, b2.trans a2, a3.trans b3⟩
/-- a < b < c -/
def eCh (q r : Bool) (f g : D → D → Option D) (a b c : M) : M := fun ρ => (a ρ).bind fun x => (b x.2).bind fun y => if guard q x.1 = true then none else if guard r y.1 = true then none else
  (deref y.2 x.1).bind fun u => (deref y.2 y.1).bind fun w => (f u w).bind fun k => match k with
    | .bl true => (c y.2).bind fun z => (deref z.2 y.1).bind fun w2 => (deref z.2 z.1).bind fun w3 => (g w2 w3).bind fun res => some (.vl res, z.2)
    | .bl false => some (.vl (.bl false), y.2)
    | _ => none
theorem tE_ch {K : PySem.W.Frag} {r : Bool} {r1 r2 : R2} {f g : D → D → Option D} {ma mb mc : M} (O : OpD K r1 f) (O' : OpD K r2 g) {σ : L2.St} {H : Hp} {Q : VK} (h : tE K (p && (q && r)) (eCh q r f g ma mb mc) σ H Q) : tChain r1 r2 (tE K p ma) (tE K q mb) (tE K r mc) σ H Q := by
  obtain ⟨B, ρ, F, S, v, ρ', e, k⟩ := h
  obtain ⟨⟨x, ρ1⟩, ea, e⟩ := ob e
  obtain ⟨⟨y, ρ2⟩, eb, e⟩ := ob e
  obtain ⟨g1, e⟩ := og e
  obtain ⟨g2, e⟩ := og e
  obtain ⟨u, eu, e⟩ := ob e
  obtain ⟨w, ew, e⟩ := ob e
  obtain ⟨kk, ek, e⟩ := ob e
  refine ⟨B, ρ, F, S, x, ρ1, ea, fun v1 B1 H1 F1 E1 S1 A1 P1 => ⟨B1, ρ1, F1, S1, y, ρ2, eb, fun v2 B2 H2 F2 E2 S2 A2 P2 => ?_⟩⟩
  have A1' := A1.keep (B' := B2) (ρ' := ρ2) (H' := H2) E2.bb (guard_keep g1 P2)
  refine O B2 H2 v1 v2 u w kk _ S2.bh (S2.deref A1' eu) (S2.deref A2 ew) ek fun v3 B3 H3 n3 d3 => ?_
  have S3 := S2.new n3
  have A2' := A2.keep (B' := B3) (ρ' := ρ2) (H' := H3) n3.bb fun _ => ⟨rfl, n3.hh⟩
  match kk, e, d3 with
  | .bl true, e, d3 =>
    obtain ⟨⟨z, ρ3⟩, ez, e⟩ := ob (show (mc ρ2).bind _ = some (v, ρ') from e)
    obtain ⟨w2, e2, e⟩ := ob e
    obtain ⟨w3, e3, e⟩ := ob e
    obtain ⟨res, e4, e⟩ := ob e
    cases e
    refine ⟨true, d3, iteT ⟨B3, ρ2, F2, S3, z, ρ3, ez, fun v4 B4 H4 F4 E4 S4 A4 P4 => ?_⟩⟩
    have A2'' := A2'.keep (B' := B4) (ρ' := ρ3) (H' := H4) E4.bb (guard_keep g2 P4)
    refine O' B4 H4 v2 v4 w2 w3 res _ S4.bh (S4.deref A2'' e2) (S4.deref A4 e3) e4 fun v5 B5 H5 n5 d5 => ?_
    refine k v5 B5 H5 F4 ((((E1.trans E2).trans n3.ext).trans E4).trans n5.ext) (S4.new n5) d5 fun z => ?_
    obtain ⟨z1, z2, z3⟩ := and3 z
    obtain ⟨a1, a2, a3⟩ := P1 z1
    obtain ⟨b1, b2, b3⟩ := P2 z2
    obtain ⟨c1, c2, c3⟩ := P4 z3
    exact ⟨c1.trans (b1.trans a1), c2.trans (b2.trans a2), (((a3.trans b3).trans n3.hh).trans c3).trans n5.hh⟩
  | .bl false, e, d3 =>
    cases (show some (Arg.vl (.bl false), ρ2) = some (v, ρ') from e)
    refine ⟨false, d3, iteF (k _ B3 H3 F2 ((E1.trans E2).trans n3.ext) S3 rfl fun z => ?_)⟩
    obtain ⟨z1, z2, z3⟩ := and3 z
    obtain ⟨a1, a2, a3⟩ := P1 z1
    obtain ⟨b1, b2, b3⟩ := P2 z2
    exact ⟨b1.trans a1, b2.trans a2, (a3.trans b3).trans n3.hh⟩
  | .non, e, _ => cases (show none = some _ from e)
  | .int _, e, _ => cases (show none = some _ from e)
  | .str _, e, _ => cases (show none = some _ from e)
  | .nd _ _, e, _ => cases (show none = some _ from e)
theorem c_ch {r : Bool} {op op' : CmpOp} {r1 r2 : R2} {f g : D → D → Option D} {a b c : Expr} {ma mb mc : M} (ho : OpR X (compareOp op) r1) (O : OpD X.K r1 f) (ho' : OpR X (compareOp op') r2) (O' : OpD X.K r2 g)
    (ha : PE X a (tE X.K p ma)) (hb : PE X b (tE X.K q mb)) (hc : PE X c (tE X.K r mc)) (hm : lastMarks [op, op'] [b, c] = false := by rfl) : PE X (.Compare a [op, op'] [b, c] pos) (tE X.K (p && (q && r)) (eCh q r f g ma mb mc)) := peW (pe_chain ho ho' ha hb hc (hm := hm)) fun σ H Q h => tE_ch O O' h
def tBx (m : M) : MT := fun ρ => (m ρ).bind fun x => match x.1 with
  | .vl (.bl k) => some (k, x.2)
  | _ => none
theorem t_ch {r : Bool} {op op' : CmpOp} {r1 r2 : R2} {f g : D → D → Option D} {a b c : Expr} {ma mb mc : M} (ho : OpR X (compareOp op) r1) (O : OpD X.K r1 f) (ho' : OpR X (compareOp op') r2) (O' : OpD X.K r2 g)
    (ha : PE X a (tE X.K p ma)) (hb : PE X b (tE X.K q mb)) (hc : PE X c (tE X.K r mc)) (hm : lastMarks [op, op'] [b, c] = false := by rfl) : PT X (.Compare a [op, op'] [b, c] pos) (tT X.K (p && (q && r)) (tBx (eCh q r f g ma mb mc))) := ptW (pt_chain ho ho' ha hb hc (hm := hm)) fun σ H Q h => by
  obtain ⟨B, ρ, F, S, b, ρ', e, k⟩ := h
  obtain ⟨⟨a, ρ1⟩, ea, e⟩ := ob e
  refine tE_ch O O' ⟨B, ρ, F, S, a, ρ1, ea, fun v B1 H1 F1 E1 S1 A1 P1 => ?_⟩
  match a, e, A1 with
  | .vl (.bl k'), e, A1 =>
    cases (show some (k', ρ1) = some (b, ρ') from e)
    exact ⟨b, A1, k B1 H1 F1 E1 S1 P1⟩
  | .vl .non, e, _ => cases (show none = some _ from e)
  | .vl (.int _), e, _ => cases (show none = some _ from e)
  | .vl (.str _), e, _ => cases (show none = some _ from e)
  | .vl (.nd _ _), e, _ => cases (show none = some _ from e)
  | .rf _ _, e, _ => cases (show none = some _ from e)
/-! ### slices -/
abbrev MP := Env → Option (Option Int × Env)
def tP (K : PySem.W.Frag) (m : MP) : TO := fun σ H Q => ∃ B ρ F, St K B H σ ρ F ∧ ∃ i ρ', m ρ = some (i, ρ') ∧ ∀ B' H' F', Ext B H (U F) B' H' (U F') → St K B' H' σ ρ' F' → Q i H'
def pN : MP := fun ρ => some (none, ρ)
def pM (m : M) : MP := fun ρ => (m ρ).bind fun x => match x.1 with
  | .vl (.int i) => some (some i, x.2)
  | _ => none
theorem poW {e : Option Expr} {t t' : TO} (h : PO X e t) (f : ∀ σ H Q, t' σ H Q → t σ H Q) : PO X e t' := ⟨fun pins s σ H Q I q => h.run pins s σ H Q I (f _ _ _ q)⟩
theorem o_none : PO X none (tP X.K pN) := poW po_none fun σ H Q h => by
  obtain ⟨B, ρ, F, S, v, ρ', e, k⟩ := h
  cases (show some (none, ρ) = some (v, ρ') from e)
  exact k B H F Ext.refl S
theorem o_some {e : Expr} {m : M} (h : PE X e (tE X.K p m)) : PO X (some e) (tP X.K (pM m)) := poW (po_some h) fun σ H Q h => by
  obtain ⟨B, ρ, F, S, v, ρ', e, k⟩ := h
  obtain ⟨⟨x, ρ1⟩, ea, e⟩ := ob e
  refine ⟨B, ρ, F, S, x, ρ1, ea, fun v1 B1 H1 F1 E1 S1 A1 P1 => ?_⟩
  match x, e, A1 with
  | .vl (.int i), e, A1 =>
    cases (show some (some i, ρ1) = some (v, ρ') from e)
    exact ⟨i, A1, k B1 H1 F1 E1 S1⟩
  | .vl .non, e, _ => cases (show none = some _ from e)
  | .vl (.bl _), e, _ => cases (show none = some _ from e)
  | .vl (.str _), e, _ => cases (show none = some _ from e)
  | .vl (.nd _ _), e, _ => cases (show none = some _ from e)
  | .rf _ _, e, _ => cases (show none = some _ from e)
def eSl (f : D → Option Int → Option Int → Option D) (a : M) (lo hi : MP) : M := fun ρ => (a ρ).bind fun x => if x.1.deep = true then none else (lo x.2).bind fun l => (hi l.2).bind fun u => (deref u.2 x.1).bind fun d => (f d l.1 u.1).bind fun r => some (.vl r, u.2)
def OpS (K : PySem.W.Frag) (r : V → Option Int → Option Int → Hp → VK → Prop) (f : D → Option Int → Option Int → Option D) : Prop := ∀ (B H : Hp) (x : V) (d g : D) (lo hi : Option Int) (Q : VK), Ex B H → Sh K B H d x → f d lo hi = some g → (∀ v B' H', New B H B' H' → Dat K B' g v → Q v H') → r x lo hi H Q
theorem c_sl {r : V → Option Int → Option Int → Hp → VK → Prop} {f : D → Option Int → Option Int → Option D} {e : Expr} {lo hi : Option Expr} {p2 : Pos} {m : M} {ml mh : MP} (hr : SlR X r) (O : OpS X.K r f) (he : PE X e (tE X.K p m)) (hl : PO X lo (tP X.K ml)) (hu : PO X hi (tP X.K mh)) :
    PE X (.Subscript e (.Slice lo hi none p2) pos) (tE X.K false (eSl f m ml mh)) := peW (pe_slice hr he hl hu) fun σ H Q h => by
  obtain ⟨B, ρ, F, S, v, ρ', e, k⟩ := h
  obtain ⟨⟨x, ρ1⟩, ea, e⟩ := ob e
  obtain ⟨g1, e⟩ := og e
  obtain ⟨⟨l, ρ2⟩, el, e⟩ := ob e
  obtain ⟨⟨u, ρ3⟩, eu, e⟩ := ob e
  obtain ⟨d, ed, e⟩ := ob e
  obtain ⟨g, ef, e⟩ := ob e
  cases e
  refine ⟨B, ρ, F, S, x, ρ1, ea, fun v1 B1 H1 F1 E1 S1 A1 P1 => ⟨B1, ρ1, F1, S1, l, ρ2, el, fun B2 H2 F2 E2 S2 => ⟨B2, ρ2, F2, S2, u, ρ3, eu, fun B3 H3 F3 E3 S3 => ?_⟩⟩⟩
  have A3 := A1.keep (B' := B3) (ρ' := ρ3) (H' := H3) (E2.bb.trans E3.bb) fun z => by rw [show x.deep = false from g1] at z; cases z
  refine O B3 H3 v1 d g l u Q S3.bh (S3.deref A3 ed) ef fun w B4 H4 n dv => ?_
  exact k w B4 H4 F3 (((E1.trans E2).trans E3).trans n.ext) (S3.new n) dv fun z => nomatch z
end
end DL

end

section
set_option Elab.async false
set_option linter.all false
set_option maxRecDepth 100000
set_option maxHeartbeats 2000000
namespace DL
open PySem L2

/-! ### targets -/
abbrev MG := D → Env → Option Env
abbrev MGs := List D → Env → Option Env
def tG (K : PySem.W.Frag) (js : List Nat) (g : MG) : TG := fun v σ H Q => ∃ B ρ F d, St K B H σ ρ F ∧ Dat K B d v ∧ ∃ ρ', g d ρ = some ρ' ∧ ∀ σ' F', (∀ a, U F' a → U F a) → St K B H σ' ρ' F' → ((∀ j, j ∉ js → σ'[j]? = σ[j]?) ∧ σ'.length = σ.length) → Q σ' H
def tGs (K : PySem.W.Frag) (js : List Nat) (g : MGs) : TGs := fun vs σ H Q => ∃ B ρ F ds, St K B H σ ρ F ∧ DatL K B ds vs ∧ ∃ ρ', g ds ρ = some ρ' ∧ ∀ σ' F', (∀ a, U F' a → U F a) → St K B H σ' ρ' F' → ((∀ j, j ∉ js → σ'[j]? = σ[j]?) ∧ σ'.length = σ.length) → Q σ' H
theorem pgW {X : Cx} {e : Expr} {t t' : TG} (h : PG X e t) (f : ∀ v σ H Q, t' v σ H Q → t v σ H Q) : PG X e t' := ⟨fun pins s σ H v u Q I r q => h.run pins s σ H v u Q I r (f _ _ _ _ q)⟩
theorem pgsW {X : Cx} {e : List Expr} {t t' : TGs} (h : PGs X e t) (f : ∀ v σ H Q, t' v σ H Q → t v σ H Q) : PGs X e t' := ⟨fun pins s σ H v u Q I r q => h.run pins s σ H v u Q I r (f _ _ _ _ q)⟩
def put (i : Nat) (t : T) (ρ : Env) : Option Env := if i < ρ.length then some (ρ.set i (some t)) else none
def gNm (i : Nat) : MG := fun d ρ => put i (.fz d) ρ
def gsN : MGs := fun ds ρ => match ds with
  | [] => some ρ
  | _ => none
def gsC (g : MG) (gs : MGs) : MGs := fun ds ρ => match ds with
  | d :: ds => (g d ρ).bind (gs ds)
  | [] => none
def gTp (n : Nat) (gs : MGs) : MG := fun d ρ => match d with
  | .nd .tup ds => if ds.length = n then gs ds ρ else none
  | _ => none
section
variable {X : Cx} {p q : Bool} {pos : Pos} {js ks : List Nat}
theorem put_sound {K : PySem.W.Frag} {B H : Hp} {σ : L2.St} {ρ ρ' : Env} {F : Nat → Addr → Prop} (S : St K B H σ ρ F) {i : Nat} {d : D} {v : V} (h : Dat K B d v) (e : put i (.fz d) ρ = some ρ') :
    ∃ F', (∀ a, U F' a → U F a) ∧ St K B H (σ.set i (some v)) ρ' F' := by
  unfold put at e
  by_cases z : i < ρ.length
  · rw [if_pos z] at e
    cases e
    refine ⟨_, fun a u => ?_, S.put (t := .fz d) (G := fun _ => False) h (fun _ z => z.elim) (fun _ z => z.elim) (fun _ _ _ z => z.elim) z⟩
    obtain ⟨j, u⟩ := u
    by_cases q : j = i
    · rw [if_pos q] at u; exact u.elim
    · rw [if_neg q] at u; exact ⟨j, u⟩
  · rw [if_neg z] at e; cases e
theorem g_nm {i : Nat} {x : Str} (hN : X.N.Nodup) (hi : X.N[i]? = some x := by rfl) (hx : Loc X.env.scope x := by first | exact Or.inl rfl | exact Or.inr rfl) (hf : X.fn x = true ∨ X.env.scope.names.lookup x = some .local := by first | exact .inl rfl | exact .inr rfl | assumption) :
    PG X (.Name x pos) (tG X.K [i] (gNm i)) := pgW (pg_name hN hi hx hf) fun v σ H Q h => by
  obtain ⟨B, ρ, F, d, S, hd, ρ', e, k⟩ := h
  obtain ⟨F', h1, h2⟩ := put_sound S hd e
  exact k _ F' h1 h2 ⟨fun j n => List.getElem?_set_ne (fun z => n (by simp [z])), List.length_set⟩
theorem g_nil : PGs X [] (tGs X.K js gsN) := pgsW pgs_nil fun vs σ H Q h => by
  obtain ⟨B, ρ, F, ds, S, hd, ρ', e, k⟩ := h
  cases ds with
  | nil => cases (show some ρ = some ρ' from e); exact ⟨hd, k σ F (fun _ z => z) S ⟨fun _ _ => rfl, rfl⟩⟩
  | cons d ds => cases (show none = some ρ' from e)
theorem g_cons {e : Expr} {es : List Expr} {g : MG} {gs : MGs} (h1 : PG X e (tG X.K js g)) (h2 : PGs X es (tGs X.K ks gs)) (hs : (assignEach (e :: es) X.env).map (·.2) = assign e X.env :: (assignEach es X.env).map (·.2) := by rfl) : PGs X (e :: es) (tGs X.K (js ++ ks) (gsC g gs)) := pgsW (pgs_cons h1 h2 hs) fun vs σ H Q h => by
  obtain ⟨B, ρ, F, ds, S, hd, ρ', e, k⟩ := h
  cases ds with
  | nil => cases (show none = some ρ' from e)
  | cons d ds =>
    obtain ⟨v, r, h1, h2, h3⟩ := hd
    obtain ⟨ρ1, e1, e2⟩ := ob (show (g d ρ).bind (gs ds) = some ρ' from e)
    refine ⟨v, r, h1, B, ρ, F, d, S, h2, ρ1, e1, fun σ1 F1 u1 S1 w1 => ⟨B, ρ1, F1, ds, S1, h3, ρ', e2, fun σ2 F2 u2 S2 w2 => ?_⟩⟩
    exact k σ2 F2 (fun a z => u1 a (u2 a z)) S2 ⟨fun j n => (w2.1 j fun z => n (List.mem_append_right _ z)).trans (w1.1 j fun z => n (List.mem_append_left _ z)), w2.2.trans w1.2⟩
theorem g_tup {es : List Expr} {k : Nat} {gs : MGs} (n : Nat) (hc : X.calm = true) (h : PGs X es (tGs X.K js gs)) (hn : (assignEach es X.env).length = n := by rfl) (hst : (assignEach es X.env).findIdx? (·.1) = none := by rfl) :
    PG X (.Tuple es k pos) (tG X.K js (gTp n gs)) := pgW (pg_tup hc h hn hst) fun v σ H Q h => by
  obtain ⟨B, ρ, F, d, S, hd, ρ', e, k⟩ := h
  match d, hd, e with
  | .nd .tup ds, ⟨a, vs, h1, h2, h3⟩, e =>
    have e' : (if ds.length = n then gs ds ρ else none) = some ρ' := e
    by_cases z : ds.length = n
    · rw [if_pos z] at e'
      exact ⟨a, vs, h1, S.bh.st h2, h3.len.symm.trans z, B, ρ, F, ds, S, h3, ρ', e', k⟩
    · rw [if_neg z] at e'; cases e'
  | .nd .lst _, _, e => cases (show none = some ρ' from e)
  | .nd .ll _, _, e => cases (show none = some ρ' from e)
  | .nd (.dic _) _, _, e => cases (show none = some ρ' from e)
  | .nd (.exc _ _) _, _, e => cases (show none = some ρ' from e)
  | .nd (.ins _ _) _, _, e => cases (show none = some ρ' from e)
  | .non, _, e => cases (show none = some ρ' from e)
  | .bl _, _, e => cases (show none = some ρ' from e)
  | .int _, _, e => cases (show none = some ρ' from e)
  | .str _, _, e => cases (show none = some ρ' from e)
end

/-! ### statements -/
/-- what is wanted behind a statement that ends so -/
def Post (K : PySem.W.Frag) (io : Io) (B H : Hp) (σ : L2.St) (F : Nat → Addr → Prop) (D : Ends) : Fl → Env → Prop
  | .nx, ρ' => ∀ σ' B' H' F', Ext B H (U F) B' H' (U F') → St K B' H' σ' ρ' F' → (∀ j, io j = true → σ'[j]? = σ[j]?) → D.nx σ' H'
  | .bk, ρ' => ∀ σ' B' H' F', Ext B H (U F) B' H' (U F') → St K B' H' σ' ρ' F' → (∀ j, io j = true → σ'[j]? = σ[j]?) → D.bk σ' H'
  | .ct, ρ' => ∀ σ' B' H' F', Ext B H (U F) B' H' (U F') → St K B' H' σ' ρ' F' → (∀ j, io j = true → σ'[j]? = σ[j]?) → D.ct σ' H'
  | .rt t, ρ' => ∀ v σ' B' H' F' G, Ext B H (U F) B' H' (fun a => U F' a ∨ G a) → St K B' H' σ' ρ' F' → OwnX K B' H' F' G t v → (∀ j, io j = true → σ'[j]? = σ[j]?) → D.rt v H'
  | .ex c fs ds, ρ' => ∀ cls d σ' B' H' F' vs, Ext B H (U F) B' H' (U F') → St K B' H' σ' ρ' F' → (∀ j, io j = true → σ'[j]? = σ[j]?) → cls = .ref (He.ga K c) → DatL K B' ds vs → ExF B' fs d vs → io.w cls d σ' H'
theorem tS_eq {K : PySem.W.Frag} {io : Io} {m : MS} {D : Ends} {σ : L2.St} {H : Hp} : tS K io m D σ H ↔ ∃ B ρ F, St K B H σ ρ F ∧ ∃ fl ρ', m ρ = some (fl, ρ') ∧ Post K io B H σ F D fl ρ' := by
  constructor
  · rintro ⟨B, ρ, F, S, fl, ρ', e, k⟩
    refine ⟨B, ρ, F, S, fl, ρ', e, ?_⟩
    cases fl <;> exact k
  · rintro ⟨B, ρ, F, S, fl, ρ', e, k⟩
    refine ⟨B, ρ, F, S, fl, ρ', e, ?_⟩
    cases fl <;> exact k
/-- the ways out but the next statement, from a later state -/
theorem Post.after {K : PySem.W.Frag} {io : Io} {B H B1 H1 : Hp} {σ σ1 : L2.St} {F F1 : Nat → Addr → Prop} {D : Ends} {fl : Fl} {ρ' : Env} (k : Post K io B H σ F D fl ρ') (E1 : Ext B H (U F) B1 H1 (U F1)) (w1 : ∀ j, io j = true → σ1[j]? = σ[j]?) :
    Post K io B1 H1 σ1 F1 D fl ρ' := by
  cases fl with
  | nx => exact fun σ' B' H' F' E S w => k σ' B' H' F' (E1.trans E) S fun j z => (w j z).trans (w1 j z)
  | bk => exact fun σ' B' H' F' E S w => k σ' B' H' F' (E1.trans E) S fun j z => (w j z).trans (w1 j z)
  | ct => exact fun σ' B' H' F' E S w => k σ' B' H' F' (E1.trans E) S fun j z => (w j z).trans (w1 j z)
  | rt t => exact fun v σ' B' H' F' G E S O w => k v σ' B' H' F' G (E1.trans E) S O fun j z => (w j z).trans (w1 j z)
  | ex c fs ds => exact fun cls d σ' B' H' F' vs E S w => k cls d σ' B' H' F' vs (E1.trans E) S fun j z => (w j z).trans (w1 j z)
/-- only the next way out is another one -/
theorem Post.ends {K : PySem.W.Frag} {io : Io} {B H : Hp} {σ : L2.St} {F : Nat → Addr → Prop} {D D' : Ends} {fl : Fl} {ρ' : Env} (k : Post K io B H σ F D fl ρ') (h1 : fl ≠ .nx) (h2 : D'.rt = D.rt) (h3 : D'.bk = D.bk) (h4 : D'.ct = D.ct) : Post K io B H σ F D' fl ρ' := by
  cases fl with
  | nx => exact absurd rfl h1
  | bk => intro σ' B' H' F' E S w; rw [h3]; exact k σ' B' H' F' E S w
  | ct => intro σ' B' H' F' E S w; rw [h4]; exact k σ' B' H' F' E S w
  | rt t => intro v σ' B' H' F' G E S O w; rw [h2]; exact k v σ' B' H' F' G E S O w
  | ex c fs ds => exact k
section
variable {X : Cx} {p q : Bool} {pos : Pos} {js ks : List Nat} {io : Io}
def sNx : MS := fun ρ => some (.nx, ρ)
def sBk : MS := fun ρ => some (.bk, ρ)
def sCt : MS := fun ρ => some (.ct, ρ)
def sNo : MS := fun _ => none
def sSq (a b : MS) : MS := fun ρ => (a ρ).bind fun x => match x.1 with
  | .nx => b x.2
  | fl => some (fl, x.2)
theorem b_nil : PSs X [] (tS X.K io sNx) := pssW pss_nil fun D σ H h => by
  obtain ⟨B, ρ, F, S, fl, ρ', e, k⟩ := tS_eq.mp h
  cases (show some (Fl.nx, ρ) = some (fl, ρ') from e)
  exact k σ B H F Ext.refl S fun _ _ => rfl
theorem tS_seq {K : PySem.W.Frag} {a b : MS} {D : Ends} {σ : L2.St} {H : Hp} (h : tS K io (sSq a b) D σ H) : tSeq (tS K io a) (tS K io b) D σ H := by
  obtain ⟨B, ρ, F, S, fl, ρ', e, k⟩ := tS_eq.mp h
  obtain ⟨⟨x, ρ1⟩, ea, e⟩ := ob e
  refine tS_eq.mpr ⟨B, ρ, F, S, x, ρ1, ea, ?_⟩
  cases x with
  | nx =>
    have e' : b ρ1 = some (fl, ρ') := e
    exact fun σ1 B1 H1 F1 E1 S1 w1 => tS_eq.mpr ⟨B1, ρ1, F1, S1, fl, ρ', e', k.after E1 w1⟩
  | bk => cases (show some (Fl.bk, ρ1) = some (fl, ρ') from e); exact k.ends (fun z => nomatch z) rfl rfl rfl
  | ct => cases (show some (Fl.ct, ρ1) = some (fl, ρ') from e); exact k.ends (fun z => nomatch z) rfl rfl rfl
  | rt t => cases (show some (Fl.rt t, ρ1) = some (fl, ρ') from e); exact k.ends (fun z => nomatch z) rfl rfl rfl
  | ex c fs ds => cases (show some (Fl.ex c fs ds, ρ1) = some (fl, ρ') from e); exact k.ends (fun z => nomatch z) rfl rfl rfl
theorem b_cons {st : Stmt} {rest : List Stmt} {a b : MS} (h1 : PS X st (tS X.K io a)) (h2 : PSs X rest (tS X.K io b)) : PSs X (st :: rest) (tS X.K io (sSq a b)) := pssW (pss_cons h1 h2) fun _ _ _ h => tS_seq h
theorem b_one {st : Stmt} {a : MS} (h1 : PS X st (tS X.K io a)) : PSs X [st] (tS X.K io a) := pss_one h1
theorem s_pass : PS X (.Pass pos) (tS X.K io sNx) := psW ps_pass fun D σ H h => by
  obtain ⟨B, ρ, F, S, fl, ρ', e, k⟩ := tS_eq.mp h
  cases (show some (Fl.nx, ρ) = some (fl, ρ') from e)
  exact k σ B H F Ext.refl S fun _ _ => rfl
theorem s_break : PS X (.Break pos) (tS X.K io sBk) := psW ps_break fun D σ H h => by
  obtain ⟨B, ρ, F, S, fl, ρ', e, k⟩ := tS_eq.mp h
  cases (show some (Fl.bk, ρ) = some (fl, ρ') from e)
  exact k σ B H F Ext.refl S fun _ _ => rfl
theorem s_continue : PS X (.Continue pos) (tS X.K io sCt) := psW ps_continue fun D σ H h => by
  obtain ⟨B, ρ, F, S, fl, ρ', e, k⟩ := tS_eq.mp h
  cases (show some (Fl.ct, ρ) = some (fl, ρ') from e)
  exact k σ B H F Ext.refl S fun _ _ => rfl
theorem s_never {st : Stmt} : PS X st (tS X.K io sNo) := psW ps_never fun D σ H h => by
  obtain ⟨B, ρ, F, S, fl, ρ', e, k⟩ := tS_eq.mp h
  cases (show none = some (fl, ρ') from e)
/-- an expression alone -/
def sEx (m : M) : MS := fun ρ => (m ρ).bind fun x => some (.nx, x.2)
theorem s_expr {e : Expr} {m : M} (he : PE X e (tE X.K p m)) (hs : swapsWith e none pos.line X.env = pure false := by rfl) : PS X (.Expr e pos) (tS X.K io (sEx m)) := psW (ps_expr he hs) fun D σ H h => by
  obtain ⟨B, ρ, F, S, fl, ρ', e, k⟩ := tS_eq.mp h
  obtain ⟨⟨x, ρ1⟩, ea, e⟩ := ob e
  cases e
  exact ⟨B, ρ, F, S, x, _, ea, fun v B1 H1 F1 E1 S1 A1 P1 => k σ B1 H1 F1 E1 S1 fun _ _ => rfl⟩
def sRt (m : MO) : MS := fun ρ => (m ρ).bind fun x => some (.rt x.1, x.2)
theorem s_ret {e : Expr} {m : MO} (he : PE X e (tO X.K m)) : PS X (.Return (some e) pos) (tS X.K io (sRt m)) := psW (ps_ret he) fun D σ H h => by
  obtain ⟨B, ρ, F, S, fl, ρ', e, k⟩ := tS_eq.mp h
  obtain ⟨⟨x, ρ1⟩, ea, e⟩ := ob e
  cases e
  exact ⟨B, ρ, F, S, x, _, ea, fun v B1 H1 F1 G E1 S1 O1 => k v σ B1 H1 F1 G E1 S1 O1 fun _ _ => rfl⟩
def sRtN : MS := fun ρ => some (.rt (.fz .non), ρ)
theorem s_retN : PS X (.Return none pos) (tS X.K io sRtN) := psW ps_retN fun D σ H h => by
  obtain ⟨B, ρ, F, S, fl, ρ', e, k⟩ := tS_eq.mp h
  cases (show some (Fl.rt (.fz .non), ρ) = some (fl, ρ') from e)
  exact k .non σ B H F (fun _ => False) (Ext.refl.less fun a z => z.elim (fun y => y) fun y => y.elim) S ⟨rfl, fun _ z => z.elim, fun _ z => z.elim, fun _ _ z => z.elim⟩ fun _ _ => rfl
def sIf (c : MT) (a b : MS) : MS := fun ρ => (c ρ).bind fun x => if x.1 = true then a x.2 else b x.2
theorem s_if {c : Expr} {a b : List Stmt} {mc : MT} {ma mb : MS} (hc : PT X c (tT X.K p mc)) (ha : PSs X a (tS X.K io ma)) (hb : PSs X b (tS X.K io mb)) : PS X (.If c a b pos) (tS X.K io (sIf mc ma mb)) := psW (ps_if hc ha hb) fun D σ H h => by
  obtain ⟨B, ρ, F, S, fl, ρ', e, k⟩ := tS_eq.mp h
  obtain ⟨⟨x, ρ1⟩, ea, e⟩ := ob e
  refine ⟨B, ρ, F, S, x, ρ1, ea, fun B1 H1 F1 E1 S1 P1 => ?_⟩
  cases x with
  | true => exact iteT (tS_eq.mpr ⟨B1, ρ1, F1, S1, fl, ρ', e, k.after E1 fun _ _ => rfl⟩)
  | false => exact iteF (tS_eq.mpr ⟨B1, ρ1, F1, S1, fl, ρ', e, k.after E1 fun _ _ => rfl⟩)
/-- x = e -/
def sAs (i : Nat) (m : MO) : MS := fun ρ => (m ρ).bind fun x => (put i x.1 x.2).bind fun ρ' => some (.nx, ρ')
theorem put_own {K : PySem.W.Frag} {B H : Hp} {σ : L2.St} {ρ ρ' : Env} {F : Nat → Addr → Prop} (S : St K B H σ ρ F) {i : Nat} {t : T} {v : V} {G : Addr → Prop} (O : OwnX K B H F G t v) (e : put i t ρ = some ρ') :
    ∃ F', (∀ a, U F' a → U F a ∨ G a) ∧ St K B H (σ.set i (some v)) ρ' F' := by
  unfold put at e
  by_cases z : i < ρ.length
  · rw [if_pos z] at e
    cases e
    refine ⟨_, fun a u => ?_, S.put O.own O.nb O.al (fun j a _ y => O.dj j a y) z⟩
    obtain ⟨j, u⟩ := u
    by_cases q : j = i
    · rw [if_pos q] at u; exact Or.inr u
    · rw [if_neg q] at u; exact Or.inl ⟨j, u⟩
  · rw [if_neg z] at e; cases e
theorem tS_asg {K : PySem.W.Frag} {i : Nat} {m : MO} {D : Ends} {σ : L2.St} {H : Hp} (hio : io i = false) (h : tS K io (sAs i m) D σ H) : tAsg (tO K m) (gName i) D σ H := by
  obtain ⟨B, ρ, F, S, fl, ρ', e, k⟩ := tS_eq.mp h
  obtain ⟨⟨x, ρ1⟩, ea, e⟩ := ob e
  obtain ⟨ρ2, ep, e⟩ := ob e
  cases e
  refine ⟨B, ρ, F, S, x, ρ1, ea, fun v B1 H1 F1 G E1 S1 O1 => ?_⟩
  obtain ⟨F2, u2, S2⟩ := put_own S1 O1 ep
  exact k _ B1 H1 F2 (E1.less u2) S2 fun j z => List.getElem?_set_ne (fun y => by subst y; rw [hio] at z; cases z)
theorem s_asg {i : Nat} {x : Str} {e : Expr} {m : MO} {pos' : Pos} (hN : X.N.Nodup) (he : PE X e (tO X.K m)) (hi : X.N[i]? = some x := by rfl) (hx : Loc X.env.scope x := by first | exact Or.inl rfl | exact Or.inr rfl) (hio : io i = false := by rfl) (hs : swapsWith e (some (.Name x pos')) pos.line X.env = pure false := by rfl)
    (hf : X.fn x = true ∨ X.env.scope.names.lookup x = some .local := by first | exact .inl rfl | exact .inr rfl | assumption) : PS X (.Assign [.Name x pos'] e pos) (tS X.K io (sAs i m)) := psW (ps_set hN hi hx he hs hf) fun _ _ _ h => tS_asg hio h
/-- target = e -/
def sTg (m : M) (g : MG) : MS := fun ρ => (m ρ).bind fun x => (frzA x.2 x.1).bind fun y => (g y.1 y.2).bind fun ρ' => some (.nx, ρ')
theorem s_tg {tg e : Expr} {m : M} {g : MG} (he : PE X e (tE X.K p m)) (hg : PG X tg (tG X.K js g)) (hio : js.all (fun j => !io j) = true := by rfl) (hs : swapsWithSole [tg] e pos.line X.env = pure false := by rfl) (hw : swappedStores [tg] e X.env = pure none := by rfl)
    (h1 : (assignEach [tg] X.env).map (·.2) = [assign tg X.env] := by rfl) : PS X (.Assign [tg] e pos) (tS X.K io (sTg m g)) := psW (ps_asg he hg hs hw h1) fun D σ H h => by
  obtain ⟨B, ρ, F, S, fl, ρ', e, k⟩ := tS_eq.mp h
  obtain ⟨⟨x, ρ1⟩, ea, e⟩ := ob e
  obtain ⟨⟨d, ρ2⟩, ed, e⟩ := ob e
  obtain ⟨ρ3, eg, e⟩ := ob e
  cases e
  refine ⟨B, ρ, F, S, x, ρ1, ea, fun v B1 H1 F1 E1 S1 A1 P1 => ?_⟩
  obtain ⟨B2, F2, E2, S2, d2⟩ := S1.frzA A1 ed
  refine ⟨B2, ρ2, F2, d, S2, d2, _, eg, fun σ' F' u S' w => k σ' B2 H1 F' ((E1.trans E2).less u) S' fun j z => w.1 j fun y => ?_⟩
  have := List.all_eq_true.mp hio j y
  rw [z] at this
  cases this
end
end DL

end

section
set_option Elab.async false
set_option linter.all false
set_option maxRecDepth 100000
set_option maxHeartbeats 2000000
namespace DL
open PySem L2
open PyProof.Rows (envOfC)

/-! ### defs -/
abbrev Fn := List T → Option (T × List T)
def spF (K : PySem.W.Frag) (n : Nat) (f : Fn) : Sp := fun vs H Q E => ∃ B ts F, vs.length = n ∧ St K B H (vs.map some) (ts.map some) F ∧ ∃ r ts', f ts = some (r, ts') ∧
  ∀ v B' H' F' G, Ext B H (U F) B' H' (fun a => U F' a ∨ G a) → St K B' H' (vs.map some) (ts'.map some) F' → OwnX K B' H' F' G r v → Q v H'
/-- what the parameters hold at the end: those of io as they are then, the others (frozen) as they were -/
def outs (io : Nat → Bool) (ρ' : Env) : Nat → List T → Option (List T)
  | _, [] => some []
  | j, t :: ts => (if io j = true then ρ'.t j else match t with
    | .fz d => some (.fz d)
    | .nd _ _ => none).bind fun t' => (outs io ρ' (j + 1) ts).bind fun ts' => some (t' :: ts')
theorem outs_len {io : Nat → Bool} {ρ' : Env} : ∀ {j : Nat} {ts ts' : List T}, outs io ρ' j ts = some ts' → ts'.length = ts.length
  | _, [], _, e => by cases (show some [] = some _ from e); rfl
  | j, t :: ts, _, e => by
    obtain ⟨t', e1, e⟩ := ob e
    obtain ⟨r, e2, e⟩ := ob e
    cases e
    rw [List.length_cons, List.length_cons, outs_len e2]
theorem outs_get {io : Nat → Bool} {ρ' : Env} : ∀ {j : Nat} {ts ts' : List T} {i : Nat} {t : T}, outs io ρ' j ts = some ts' → ts'[i]? = some t → (io (j + i) = true ∧ ρ'.t (j + i) = some t) ∨ (io (j + i) = false ∧ ts[i]? = some t ∧ ∃ d, t = .fz d)
  | _, [], _, _, _, e, g => by cases (show some [] = some _ from e); simp at g
  | j, u :: ts, _, 0, t, e, g => by
    obtain ⟨t', e1, e⟩ := ob e
    obtain ⟨r, e2, e⟩ := ob e
    cases e
    simp at g
    subst g
    rw [Nat.add_zero]
    cases h : io j with
    | true => rw [if_pos h] at e1; exact Or.inl ⟨rfl, e1⟩
    | false =>
      rw [if_neg (by rw [h]; exact Bool.false_ne_true)] at e1
      cases u with
      | fz d => cases e1; exact Or.inr ⟨rfl, rfl, d, rfl⟩
      | nd k l => cases e1
  | j, u :: ts, _, i + 1, t, e, g => by
    obtain ⟨t', e1, e⟩ := ob e
    obtain ⟨r, e2, e⟩ := ob e
    cases e
    have h := outs_get (i := i) (t := t) e2 (by simpa using g)
    rw [show j + 1 + i = j + (i + 1) from by omega] at h
    simpa using h
def fnD (N : Nat) (io : Nat → Bool) (body : MS) : Fn := fun ts => (body (ts.map some ++ List.replicate (N - ts.length) none)).bind fun x => (outs io x.2 0 ts).bind fun ts' => match x.1 with
  | .rt t => some (t, ts')
  | .nx => some (.fz .non, ts')
  | _ => none
theorem St.more {K : PySem.W.Frag} {B H : Hp} {vs : List V} {ts : List T} {F : Nat → Addr → Prop} (S : St K B H (vs.map some) (ts.map some) F) (n : Nat) : St K B H (vs.map some ++ List.replicate n none) (ts.map some ++ List.replicate n none) F := by
  have hl : vs.length = ts.length := by simpa using S.ln
  refine ⟨S.bh, fun i t e => ?_, S.nb, S.al, S.dj, by simp [hl]⟩
  by_cases h : i < (ts.map some).length
  · rw [List.getElem?_append_left h] at e
    obtain ⟨v, h1, h2⟩ := S.sl i t e
    exact ⟨v, by rw [List.getElem?_append_left (by simpa [hl] using h)]; exact h1, h2⟩
  · rw [List.getElem?_append_right (by omega), List.getElem?_replicate] at e
    split at e <;> cases e
/-- the frame at the end, as the parameters see it -/
theorem St.outs {K : PySem.W.Frag} {B H B' H' : Hp} {vs : List V} {ts ts' : List T} {σ' : L2.St} {ρ' : Env} {F F' : Nat → Addr → Prop} {G : Addr → Prop} {io : Nat → Bool} {m : Nat} (S : St K B H (vs.map some) (ts.map some) F) (E : Ext B H (U F) B' H' (fun a => U F' a ∨ G a)) (S' : St K B' H' σ' ρ' F')
    (w : ∀ j, io j = true → σ'[j]? = (vs.map some ++ List.replicate m none)[j]?) (e : outs io ρ' 0 ts = some ts') : St K B' H' (vs.map some) (ts'.map some) F' := by
  have hl : vs.length = ts.length := by simpa using S.ln
  have hl' := outs_len e
  refine ⟨S'.bh, fun i t g => ?_, S'.nb, S'.al, S'.dj, by simp [hl, hl']⟩
  have g' : ts'[i]? = some t := by
    rw [List.getElem?_map] at g
    cases q : ts'[i]? with
    | none => rw [q] at g; cases g
    | some u => rw [q] at g; cases g; rfl
  have hi : i < vs.length := by
    have := (List.getElem?_eq_some_iff.mp g').1
    omega
  rcases outs_get e g' with ⟨h1, h2⟩ | ⟨h1, h2, d, h3⟩
  · rw [Nat.zero_add] at h1 h2
    obtain ⟨v, k1, k2⟩ := S'.sl i t (Env.t_some h2)
    refine ⟨v, ?_, k2⟩
    rw [← k1, w i h1, List.getElem?_append_left (by simpa using hi)]
  · subst h3
    obtain ⟨v, k1, k2⟩ := S.sl i (.fz d) (by rw [List.getElem?_map, h2]; rfl)
    exact ⟨v, k1, Dat.mono E.bb k2⟩
theorem fn_read {K : PySem.W.Frag} {N : List Str} {n : Nat} {io : Nat → Bool} {body : MS} {vs : List V} {H : Hp} {Q : VK} {E : XK} (h : spF K n (fnD N.length io body) vs H Q E) : tS K (io0 io) body { nx := fun _ H' => Q .non H', rt := Q } (L2.start N vs) H := by
  obtain ⟨B, ts, F, hn, S, r, ts', e, k⟩ := h
  have hl : vs.length = ts.length := by simpa using S.ln
  obtain ⟨⟨fl, ρ'⟩, eb, e⟩ := ob e
  obtain ⟨ts2, eo, e⟩ := ob e
  refine tS_eq.mpr ⟨B, _, F, ?_, fl, ρ', eb, ?_⟩
  · unfold L2.start
    rw [hl]
    exact S.more _
  · cases fl with
    | nx =>
      cases (show some (T.fz .non, ts2) = some (r, ts') from e)
      exact fun σ' B' H' F' E' S' w => k .non B' H' F' (fun _ => False) (E'.less fun a z => z.elim (fun y => y) fun y => y.elim) (S.outs (G := fun _ => False) (E'.less fun a z => z.elim (fun y => y) fun y => y.elim) S' w eo) ⟨rfl, fun _ z => z.elim, fun _ z => z.elim, fun _ _ z => z.elim⟩
    | rt t =>
      cases (show some (t, ts2) = some (r, ts') from e)
      exact fun v σ' B' H' F' G E' S' O w => k v B' H' F' G E' (S.outs E' S' w eo) O
    | bk => cases (show none = some (r, ts') from e)
    | ct => cases (show none = some (r, ts') from e)
    | ex c fs ds => cases (show none = some (r, ts') from e)

/-- a def of the module, with what it computes -/
def Def (P : Program) (w : World) (K : PySem.W.Frag) (mg : Str → Option Value) (base : Heap) (k : Nat) (x : Str) (n : Nat) (fn : Fn) : Prop :=
  ∃ f fd ps, FnOk P w K mg base CX0 k f fd ps (spF K n fn) ∧ mg x = some (.ref f) ∧ PySem.W.keepIn K (.ref f) = true ∧ Binds K fd ps []
/-- the def st of the text stands as x -/
def IsDef (K : PySem.W.Frag) (mg : Str → Option Value) (x : Str) (st : Stmt) : Prop := ∃ f fd, FunD K x x (defArgs st) (defBody st) (defScope st) [] [] f fd ∧ mg x = some (.ref f)
/-- THE RULE for a def -/
theorem def_ok {P : Program} {w : World} {K : PySem.W.Frag} {mg : Str → Option Value} {base : Heap} {x : Str} {st : Stmt} {N ps : List Str} {k n : Nat} {io : Nat → Bool} {m : MS} (F : IsDef K mg x st) (S : FnScope N ps (defScope st)) (hn : ps.length = n)
    (hbd : ∀ (dV kV doc pm : Value) (an : Option Addr) (cdv ct : Value) (us : List Value), us.length = ps.length → bindArgs (PySem.W.fnOf x x (defArgs st) (defBody st) (defScope st) .none kV doc pm an cdv ct) ⟨us, []⟩ = pure (ps.zip us))
    (hb : ∀ (f : Addr) (cdv : Value) (A : Around) (outer : List PySem.Env) (s : Shared) (H : Hp) (E : XK), Room k (A.deeper (envOfC x (defScope st) s.heap.objs.size f cdv)) → PSs (cxOf CX0 P w K mg base N x (defScope st) f cdv A outer s H E).nox (defBody st) (tS K (io0 io) m)) :
    Def P w K mg base (k + 1) x n (fnD N.length io m) := by
  obtain ⟨f, fd, F, hg⟩ := F
  refine ⟨f, fd, ps, F.ok S (fun vs H Q E h => ?_) (fun cdv A outer s H vs Q E hr h => ⟨tS K (io0 io) m, (hb f cdv A outer s H E hr).nox, fn_read h⟩), hg, F.kp, F.bindsN fun kV doc pm an cdv ct us hl => hbd .none kV doc pm an cdv ct us hl⟩
  obtain ⟨B, ts, F', h1, _⟩ := h
  rw [h1, hn]
theorem Def.mono {P : Program} {w : World} {K : PySem.W.Frag} {mg : Str → Option Value} {base : Heap} {x : Str} {j k n : Nat} {fn : Fn} (d : Def P w K mg base j x n fn) (h : j ≤ k) : Def P w K mg base k x n fn := by
  obtain ⟨f, fd, ps, F, r⟩ := d
  exact ⟨f, fd, ps, F.mono h, r⟩

/-! ### calls -/
def scal : D → Bool
  | .nd _ _ => false
  | _ => true
def bD (ρ : Env) : Arg → Option D
  | .vl d => some d
  | .rf i π => ((ρ.t i).bind (tAt π)).map T.toD
def bDs (ρ : Env) : List Arg → Option (List D)
  | [] => some []
  | a :: as => (bD ρ a).bind fun d => (bDs ρ as).bind fun ds => some (d :: ds)
section
variable {K : PySem.W.Frag} {B B' H H' : Hp} {σ : L2.St} {ρ ρ' : Env} {F : Nat → Addr → Prop}
theorem scal_dat {d : D} {v : V} (h : scal d = true) (k : Dat K B d v) : Dat K B' d v := by
  cases d with
  | nd _ _ => cases h
  | _ => exact k
theorem U_nb (S : St K B H σ ρ F) : ∀ a, U F a → B a = none := fun a ⟨i, z⟩ => S.nb i a z
theorem St.bD (S : St K B H σ ρ F) {a : Arg} {v : V} {d : D} (h : ArgOk K B H σ ρ a v) (e : bD ρ a = some d) : Dat K (frzB B H (U F)) d v := by
  have ex := frzB_ex (H := H) (U_nb S)
  have w : ∀ i a o, F i a → H a = some o → frzB B H (U F) a = some o := fun i a o z q => by rw [frzB_in ⟨i, z⟩]; exact q
  match a, h, e with
  | .vl d', h, e => cases (show some d' = some d from e); exact Dat.mono ex h
  | .rf i [], h, e =>
    have e' : ((ρ.t i).bind (tAt [])).map T.toD = some d := e
    cases q : ρ.t i with
    | none => rw [q] at e'; cases e'
    | some t =>
      rw [q] at e'
      cases (show some t.toD = some d from e')
      obtain ⟨v', h1, h2⟩ := S.sl i t (Env.t_some q)
      rw [show σ[i]? = some (some v) from h] at h1
      cases h1
      exact Own.toD ex (w i) h2 fun _ z => z
  | .rf i (j :: π), ⟨w', t, h1, h2, h3⟩, e =>
    have e' : ((ρ.t i).bind (tAt (j :: π))).map T.toD = some d := e
    rw [h2] at e'
    cases q : tAt (j :: π) t with
    | none => rw [show (some t).bind (tAt (j :: π)) = tAt (j :: π) t from rfl, q] at e'; cases e'
    | some s =>
      rw [show (some t).bind (tAt (j :: π)) = tAt (j :: π) t from rfl, q] at e'
      cases (show some s.toD = some d from e')
      obtain ⟨v', g1, g2⟩ := S.sl i t (Env.t_some h2)
      rw [h1] at g1
      cases g1
      obtain ⟨G1, m1, m2, _⟩ := own_upd g2 h3 q
      exact Own.toD ex (w i) m2 m1
theorem St.bDs (S : St K B H σ ρ F) : ∀ {as : List Arg} {vs : List V} {ds : List D}, ArgsOk K B H σ ρ as vs → bDs ρ as = some ds → DatL K (frzB B H (U F)) ds vs
  | [], _, _, h, e => by cases (show some [] = some _ from e); exact h
  | a :: as, _, ds, ⟨v, r, h1, h2, h3⟩, e => by
    obtain ⟨d, e1, e⟩ := ob e
    obtain ⟨ds, e2, e⟩ := ob e
    cases e
    exact ⟨v, r, h1, S.bD h2 e1, S.bDs h3 e2⟩
/-- frozen arguments as a frame -/
theorem St.args (b : Ex B H) : ∀ {ds : List D} {vs : List V}, DatL K B ds vs → St K B H (vs.map some) ((ds.map T.fz).map some) (fun _ _ => False) := fun {ds vs} h => by
  refine ⟨b, fun i t e => ?_, fun _ _ z => z.elim, fun _ _ z => z.elim, fun _ _ _ _ z => z.elim, by simp [h.len]⟩
  rw [List.getElem?_map, List.getElem?_map] at e
  cases q : ds[i]? with
  | none => rw [q] at e; cases e
  | some d =>
    rw [q] at e
    cases e
    obtain ⟨v, h1, h2⟩ := h.get q
    exact ⟨v, by rw [List.getElem?_map, h1]; rfl, h2⟩
theorem U_none {a : Addr} : ¬ U (fun _ _ => False) a := fun ⟨_, z⟩ => z
end
def callB (fn : Fn) (ρ : Env) (as : List Arg) : Option D := (bDs ρ as).bind fun ds => (fn (ds.map .fz)).bind fun r => match r.1 with
  | .fz d => if scal d = true then some d else none
  | _ => none
def oCall (fn : Fn) (as : MA) : MO := fun ρ => (as ρ).bind fun y => match callB fn y.2 y.1 with
  | some d => some (.fz d, y.2)
  | none => (frzL y.2 y.1).bind fun z => (fn (z.1.map .fz)).bind fun r => some (r.1, z.2)
section
variable {X : Cx} {p q : Bool} {pos : Pos}
theorem tO_call {K : PySem.W.Frag} {n : Nat} {fn : Fn} {ms : MA} {σ : L2.St} {H : Hp} {Q : VK} {E : XK} (hn : ∀ ρ y, ms ρ = some y → y.1.length = n) (h : tO K (oCall fn ms) σ H Q) : tA K p ms σ H fun vs H1 => spF K n fn (vs ++ []) H1 Q E := by
  obtain ⟨B, ρ, F, S, t, ρ', e, k⟩ := h
  obtain ⟨⟨ys, ρ1⟩, ea, e⟩ := ob e
  refine ⟨B, ρ, F, S, ys, ρ1, ea, fun vs B1 H1 F1 E1 S1 A1 P1 => ?_⟩
  show spF K n fn (vs ++ []) H1 Q E
  rw [List.append_nil]
  have hl : ∀ {ds : List D}, DatL K B1 ds vs ∨ (∃ C, DatL K C ds vs) → ds.length = n → vs.length = n := fun {ds} h e => by
    rcases h with h | ⟨C, h⟩
    · rw [← h.len]; exact e
    · rw [← h.len]; exact e
  have hys : ys.length = n := hn _ _ ea
  have alen : ∀ {as : List Arg} {ws : List V}, ArgsOk K B1 H1 σ ρ1 as ws → as.length = ws.length := by
    intro as
    induction as with
    | nil => intro ws h; rw [show ws = [] from h]; rfl
    | cons a as ih => intro ws h; obtain ⟨v, r, e, _, h⟩ := h; rw [e, List.length_cons, List.length_cons, ih h]
  have hvs : vs.length = n := (alen A1).symm.trans hys
  have e' : (match callB fn ρ1 ys with
    | some d => some (T.fz d, ρ1)
    | none => (frzL ρ1 ys).bind fun z => (fn (z.1.map .fz)).bind fun r => some (r.1, z.2)) = some (t, ρ') := e
  cases hc : callB fn ρ1 ys with
  | some d =>
    rw [hc] at e'
    cases e'
    obtain ⟨ds, e1, e2⟩ := ob hc
    obtain ⟨⟨r, ts'⟩, e3, e4⟩ := ob e2
    have d2 := S1.bDs A1 e1
    refine ⟨frzB B1 H1 (U F1), ds.map .fz, _, hvs, St.args (frzB_le S1.bh) d2, r, ts', e3, fun v B2 H2 F2 G2 E2 S2 O2 => ?_⟩
    have hh : Ex H1 H2 := fun a o z => E2.fr a o z U_none
    cases r with
    | nd _ _ => cases (show none = some d from e4)
    | fz d' =>
      have e5 : (if scal d' = true then some d' else none) = some d := e4
      by_cases z : scal d' = true
      · rw [if_pos z] at e5
        cases e5
        have n' : New B1 H1 B1 H2 := ⟨Ex.refl _, hh, S1.bh.trans hh, fun _ _ q => q⟩
        exact k v B1 H2 F1 (fun _ => False) ((E1.trans n'.ext).less fun a z => z.elim (fun y => y) fun y => y.elim) (S1.new n') ⟨scal_dat z (show Dat K B2 _ v from O2.own), fun _ z => z.elim, fun _ z => z.elim, fun _ _ z => z.elim⟩
      · rw [if_neg z] at e5; cases e5
  | none =>
    rw [hc] at e'
    obtain ⟨⟨ds, ρ2⟩, ed, e'⟩ := ob e'
    obtain ⟨⟨r, ts'⟩, er, e'⟩ := ob e'
    cases e'
    obtain ⟨B2, F2, E2, S2, d2⟩ := frzL_sound S1 A1 ed
    refine ⟨B2, ds.map .fz, _, hvs, St.args S2.bh d2, r, ts', er, fun v B3 H3 F3 G3 E3 S3 O3 => ?_⟩
    have hh : Ex H1 H3 := fun a o z => E3.fr a o z U_none
    have n' : New B2 H1 B3 H3 := ⟨E3.bb, hh, S3.bh, fun a z y => E3.nb a z U_none y⟩
    refine k v B3 H3 F2 G3 ⟨((E1.trans E2).trans n'.ext).bb, ((E1.trans E2).trans n'.ext).fr, ((E1.trans E2).trans n'.ext).nb, fun a z y q => ?_⟩ (S2.new n') ⟨O3.own, O3.nb, O3.al, fun i a z y => ?_⟩
    · rcases q with q | q
      · exact ((E1.trans E2).trans n'.ext).nf a z y q
      · have z1 : H1 a ≠ none := by
          cases hq : H a with
          | none => exact absurd hq z
          | some o => rw [E1.fr a o hq y]; exact fun z => nomatch z
        exact E3.nf a z1 U_none (Or.inr q)
    · exact E3.nf a (S2.al i a y) U_none (Or.inr z)
theorem c_call {j kk n : Nat} {x : Str} {fn : Fn} {po : Pos} {e : Expr} {es : List Expr} {ms : MA} (G : Def X.prog X.w X.K X.mg X.base j x n fn) (hr : Room kk X.A) (ha : PA X (e :: es) (tA X.K p ms)) (hn : ∀ ρ y, ms ρ = some y → y.1.length = n) (hj : j ≤ kk := by decide) (hg : Gl X x := by rfl)
    (hdb : (x == ("__debug__" : Str)) = false := by decide) (he : starEach (e :: es) X.env = (false, eval e X.env) :: starEach es X.env := by rfl) (hpl : (backTo pos (starEach es X.env)).any (·.1) = false := by rfl) :
    PE X (.Call (.Name x po) (e :: es) [] pos) (tO X.K (oCall fn ms)) := by
  obtain ⟨f, fd, ps, F, h1, h2, h3⟩ := G
  exact peW (pe_call F (hr.mono hj) hg h1 h2 h3 .nil pass0 ha hdb he hpl) fun _ _ _ h => tO_call hn h
end
end DL

end

section
set_option Elab.async false
set_option linter.all false
set_option maxRecDepth 100000
set_option maxHeartbeats 2000000
namespace DL
open PySem L2

/-! ### what is walked -/
structure Wk (K : PySem.W.Frag) (B : Hp) (J : It) (ds : List D) : Prop where
  stop : ∀ B1 H, Ex B B1 → Ex B1 H → J.stop ds.length H
  go : ∀ i d, ds[i]? = some d → ∀ B1 H, Ex B B1 → Ex B1 H → J.go i H ∧ ∀ x H', J.yld i H x H' → ∃ B2, New B1 H B2 H' ∧ Dat K B2 d x
abbrev MI := Env → Option (List D × Env)
def tI (K : PySem.W.Frag) (m : MI) : TI := fun σ H R => ∃ B ρ F, St K B H σ ρ F ∧ ∃ ds ρ', m ρ = some (ds, ρ') ∧ ∀ J B' H' F', Ext B H (U F) B' H' (U F') → St K B' H' σ ρ' F' → Wk K B' J ds → R J H'
theorem piW {X : Cx} {tg e : Expr} {t t' : TI} (h : PI X tg e t) (f : ∀ σ H R, t' σ H R → t σ H R) : PI X tg e t' := ⟨fun pins s σ H R I q => h.run pins s σ H R I (f _ _ _ q)⟩
section
variable {K : PySem.W.Frag} {B : Hp}
/-- the list kinds -/
def DK.isL : DK → Bool
  | .lst => true
  | .ll => true
  | _ => false
theorem DatN.sl {k : DK} (hk : k.isL = true) {a : Addr} {vs : List V} (h : DatN K B k a vs) : SqL K B a vs := by
  cases k with
  | lst => exact SqL.of h
  | ll => exact h
  | tup => cases hk
  | dic _ => cases hk
  | exc _ _ => cases hk
  | ins _ _ => cases hk
def DK.isT : DK → Bool
  | .tup => true
  | _ => false
theorem DatN.st {k : DK} (hk : k.isT = true) {a : Addr} {vs : List V} (h : DatN K B k a vs) : SqT K B a vs := by
  cases k with
  | tup => exact h
  | lst => cases hk
  | ll => cases hk
  | dic _ => cases hk
  | exc _ _ => cases hk
  | ins _ _ => cases hk
theorem wk_list {a : Addr} {vs : List V} {ds : List D} (h : SqL K B a vs) (hd : DatL K B ds vs) : Wk K B (Itl K a) ds :=
  ⟨fun B1 H e1 e2 => ⟨vs, (e1.trans e2).sl h, by rw [hd.len]; exact Nat.le_refl _⟩, fun i d g B1 H e1 e2 => by
    obtain ⟨v, g1, g2⟩ := hd.get g
    exact ⟨⟨vs, v, (e1.trans e2).sl h, g1⟩, fun x H' y => by
      obtain ⟨rfl, y⟩ := y
      have := y vs ((e1.trans e2).sl h)
      rw [g1] at this
      cases this
      exact ⟨B1, New.refl e2, g2.mono e1⟩⟩⟩
theorem wk_tup {a : Addr} {vs : List V} {ds : List D} (h : SqT K B a vs) (hd : DatL K B ds vs) : Wk K B (Itt K a) ds :=
  ⟨fun B1 H e1 e2 => ⟨vs, (e1.trans e2).st h, by rw [hd.len]; exact Nat.le_refl _⟩, fun i d g B1 H e1 e2 => by
    obtain ⟨v, g1, g2⟩ := hd.get g
    exact ⟨⟨vs, v, (e1.trans e2).st h, g1⟩, fun x H' y => by
      obtain ⟨rfl, y⟩ := y
      have := y vs ((e1.trans e2).st h)
      rw [g1] at this
      cases this
      exact ⟨B1, New.refl e2, g2.mono e1⟩⟩⟩
def rng (lo : Int) (n : Nat) : List D := (List.range n).map fun (i : Nat) => D.int (lo + (i : Int))
theorem wk_rng {lo : Int} {n : Nat} : Wk K B (Itr lo n) (rng lo n) :=
  ⟨fun B1 H _ _ => by show n ≤ _; unfold rng; simp, fun i d g B1 H e1 e2 => by
    unfold rng at g
    rw [List.getElem?_map] at g
    cases q : (List.range n)[i]? with
    | none => rw [q] at g; cases g
    | some j =>
      rw [q] at g
      cases g
      obtain ⟨h1, h2⟩ := List.getElem?_eq_some_iff.mp q
      rw [List.getElem_range] at h2
      subst h2
      exact ⟨show _ < n by simpa using h1, fun x H' y => by
        obtain ⟨rfl, rfl⟩ := y
        exact ⟨B1, New.refl e2, rfl⟩⟩⟩
end
section
variable {X : Cx} {p q : Bool} {pos : Pos} {js ks : List Nat} {io : Io}
def iSq (k : DK → Bool) (m : M) : MI := fun ρ => (m ρ).bind fun x => (frzA x.2 x.1).bind fun y => match y.1 with
  | .nd k' ds => if k k' = true then some (ds, y.2) else none
  | _ => none
theorem tE_sq {K : PySem.W.Frag} {k : DK → Bool} {m : M} {σ : L2.St} {H : Hp} {R : List D → V → Hp → Prop} {ds : List D} {ρ' : Env} {B : Hp} {ρ : Env} {F : Nat → Addr → Prop} (S : St K B H σ ρ F) (e : iSq k m ρ = some (ds, ρ'))
    (kk : ∀ k' a vs B' H' F', k k' = true → Ext B H (U F) B' H' (U F') → St K B' H' σ ρ' F' → DatN K B' k' a vs → DatL K B' ds vs → R ds (.ref a) H') : tE K p m σ H fun x H1 => R ds x H1 := by
  obtain ⟨⟨x, ρ1⟩, ea, e⟩ := ob e
  obtain ⟨⟨d, ρ2⟩, ed, e⟩ := ob e
  refine ⟨B, ρ, F, S, x, ρ1, ea, fun v B1 H1 F1 E1 S1 A1 P1 => ?_⟩
  obtain ⟨B2, F2, E2, S2, d2⟩ := S1.frzA A1 ed
  cases d with
  | nd k' ds' =>
    have e' : (if k k' = true then some (ds', ρ2) else none) = some (ds, ρ') := e
    by_cases z : k k' = true
    · rw [if_pos z] at e'
      cases e'
      obtain ⟨a, vs, rfl, h2, h3⟩ := d2
      exact kk k' a vs B2 H1 F2 z (E1.trans E2) S2 h2 h3
    · rw [if_neg z] at e'; cases e'
  | non => cases (show none = some (ds, ρ') from e)
  | bl _ => cases (show none = some (ds, ρ') from e)
  | int _ => cases (show none = some (ds, ρ') from e)
  | str _ => cases (show none = some (ds, ρ') from e)
theorem i_tup {tg e : Expr} {m : M} (h : PE X e (tE X.K p m)) : PI X tg e (tI X.K (iSq DK.isT m)) := piW (pi_tup h) fun σ H R h => by
  obtain ⟨B, ρ, F, S, ds, ρ', e, k⟩ := h
  exact tE_sq (R := fun _ x H1 => ∃ a, x = .ref a ∧ (∃ xs, SqT X.K H1 a xs) ∧ R (Itt X.K a) H1) S e fun k' a vs B' H' F' z E' S' h1 h2 => ⟨a, rfl, ⟨vs, S'.bh.st (h1.st z)⟩, k (Itt X.K a) B' H' F' E' S' (wk_tup (h1.st z) h2)⟩
theorem i_list {tg e : Expr} {m : M} (h : PE X e (tE X.K p m)) : PI X tg e (tI X.K (iSq DK.isL m)) := piW (pi_list h) fun σ H R h => by
  obtain ⟨B, ρ, F, S, ds, ρ', e, k⟩ := h
  exact tE_sq (R := fun _ x H1 => ∃ a, x = .ref a ∧ (∃ xs, SqL X.K H1 a xs) ∧ R (Itl X.K a) H1) S e fun k' a vs B' H' F' z E' S' h1 h2 => ⟨a, rfl, ⟨vs, S'.bh.sl (h1.sl z)⟩, k (Itl X.K a) B' H' F' E' S' (wk_list (h1.sl z) h2)⟩
def iRg1 (m : M) : MI := fun ρ => (m ρ).bind fun x => match x.1 with
  | .vl (.int n) => if -(2 ^ 62) ≤ n ∧ n < 2 ^ 62 then some (rng 0 n.toNat, x.2) else none
  | _ => none
theorem i_rg1 {tg a : Expr} {m : M} {po : Pos} (hm : X.mg "range" = none) (h : PE X a (tE X.K p m)) (hg : Gl X "range" := by rfl) (hs1 : starEach [a] X.env = (false, eval a X.env) :: starEach [] X.env := by rfl) (hs : starEach [a] X.env = [(false, eval a X.env)] := by rfl) :
    PI X tg (.Call (.Name "range" po) [a] [] pos) (tI X.K (iRg1 m)) := piW (pi_range1 hg hm (pa_cons h pa_nil hs1) hs) fun σ H R h => by
  obtain ⟨B, ρ, F, S, ds, ρ', e, k⟩ := h
  obtain ⟨⟨x, ρ1⟩, ea, e⟩ := ob e
  refine ⟨B, ρ, F, S, x, ρ1, ea, fun v B1 H1 F1 E1 S1 A1 P1 => ?_⟩
  match x, e, A1 with
  | .vl (.int n), e, A1 =>
    have e' : (if -(2 ^ 62) ≤ n ∧ n < 2 ^ 62 then some (rng 0 n.toNat, ρ1) else none) = some (ds, ρ') := e
    by_cases z : -(2 ^ 62) ≤ n ∧ n < 2 ^ 62
    · rw [if_pos z] at e'
      cases e'
      exact ⟨n, by rw [show v = .int n from A1], z.1, z.2, k _ B1 H1 F1 E1 S1 wk_rng⟩
    · rw [if_neg z] at e'; cases e'
  | .vl .non, e, _ => cases (show none = some _ from e)
  | .vl (.bl _), e, _ => cases (show none = some _ from e)
  | .vl (.str _), e, _ => cases (show none = some _ from e)
  | .vl (.nd _ _), e, _ => cases (show none = some _ from e)
  | .rf _ _, e, _ => cases (show none = some _ from e)
/-! ### for -/
def forGo (g : MG) (mb : MS) : List D → Env → Option (Fl × Env)
  | [], ρ => some (.nx, ρ)
  | d :: ds, ρ => (g d ρ).bind fun ρ1 => (mb ρ1).bind fun x => match x.1 with
    | .nx => forGo g mb ds x.2
    | .ct => forGo g mb ds x.2
    | .bk => some (.nx, x.2)
    | .rt t => some (.rt t, x.2)
    | .ex c fs es => some (.ex c fs es, x.2)
def sFor (mi : MI) (g : MG) (mb : MS) : MS := fun ρ => (mi ρ).bind fun x => forGo g mb x.1 x.2
theorem drop_cons {α : Type} {l : List α} {i : Nat} (h : i < l.length) : ∃ d, l[i]? = some d ∧ l.drop i = d :: l.drop (i + 1) := ⟨l[i], by simp [h], by rw [List.drop_eq_getElem_cons h]⟩
theorem s_for {tg iter : Expr} {body : List Stmt} {mi : MI} {g : MG} {mb : MS} (hp : PassesOwn (model X.prog X.w) X.A X.env X.xe) (hc : X.calm = true) (hi : PI X tg iter (tI X.K mi)) (hg : PG X tg (tG X.K js g)) (hb : PSs X body (tS X.K io mb)) (hio : js.all (fun j => !io j) = true := by rfl)
    (hs : ∀ x, foldedSetIterable iter X.env x = pure x := by intro _; rfl) : PS X (.For tg iter body [] pos) (tS X.K io (sFor mi g mb)) := psW (ps_for hp hc hi hg hb hs) fun D σ H h => by
  have nio : ∀ j, io j = true → j ∉ js := fun j z y => by
    have := List.all_eq_true.mp hio j y
    rw [z] at this
    cases this
  obtain ⟨B, ρ, F, S, fl, ρ', e, k⟩ := tS_eq.mp h
  obtain ⟨⟨ds, ρ1⟩, ei, e⟩ := ob e
  refine ⟨B, ρ, F, S, ds, ρ1, ei, fun J B1 H1 F1 E1 S1 wk => ?_⟩
  refine ⟨fun i m σ2 H2 => m = ds.length - i ∧ i ≤ ds.length ∧ ∃ B2 ρ2 F2, Ext B H (U F) B2 H2 (U F2) ∧ Ex B1 B2 ∧ St X.K B2 H2 σ2 ρ2 F2 ∧ (∀ j, io j = true → σ2[j]? = σ[j]?) ∧ forGo g mb (ds.drop i) ρ2 = some (fl, ρ'),
    ⟨ds.length, by simp, Nat.zero_le _, B1, ρ1, F1, E1, Ex.refl _, S1, fun _ _ => rfl, e⟩, ?_⟩
  rintro i m σ2 H2 ⟨rfl, hi, B2, ρ2, F2, E2, b12, S2, w2, e2⟩
  by_cases hlt : i < ds.length
  · obtain ⟨d, hd, hdr⟩ := drop_cons hlt
    obtain ⟨go, yl⟩ := wk.go i d hd B2 H2 b12 S2.bh
    rw [hdr] at e2
    obtain ⟨ρ3, eg, e2⟩ := ob (show (g d ρ2).bind _ = some (fl, ρ') from e2)
    obtain ⟨⟨f1, ρ4⟩, eb, e2⟩ := ob e2
    refine Or.inr ⟨go, fun σ4 H4 => i + 1 ≤ ds.length ∧ ∃ B2 ρ2 F2, Ext B H (U F) B2 H4 (U F2) ∧ Ex B1 B2 ∧ St X.K B2 H4 σ4 ρ2 F2 ∧ (∀ j, io j = true → σ4[j]? = σ[j]?) ∧ forGo g mb (ds.drop (i + 1)) ρ2 = some (fl, ρ'), fun σ4 H4 p4 => ⟨ds.length - (i + 1), by omega, rfl, p4.1, p4.2⟩, fun x H3 y => ?_⟩
    obtain ⟨B3, n3, d3⟩ := yl x H3 y
    refine ⟨B3, ρ2, F2, d, S2.new n3, d3, ρ3, eg, fun σ5 F5 u5 S5 w5 => ?_⟩
    have E5 : Ext B H (U F) B3 H3 (U F5) := (E2.trans n3.ext).less u5
    have w5' : ∀ j, io j = true → σ5[j]? = σ[j]? := fun j z => (w5.1 j (nio j z)).trans (w2 j z)
    refine tS_eq.mpr ⟨B3, ρ3, F5, S5, f1, ρ4, eb, ?_⟩
    cases f1 with
    | nx => exact fun σ6 B6 H6 F6 E6 S6 w6 => ⟨hlt, B6, ρ4, F6, E5.trans E6, (b12.trans n3.bb).trans E6.bb, S6, fun j z => (w6 j z).trans (w5' j z), e2⟩
    | ct => exact fun σ6 B6 H6 F6 E6 S6 w6 => ⟨hlt, B6, ρ4, F6, E5.trans E6, (b12.trans n3.bb).trans E6.bb, S6, fun j z => (w6 j z).trans (w5' j z), e2⟩
    | bk =>
      cases (show some (Fl.nx, ρ4) = some (fl, ρ') from e2)
      exact fun σ6 B6 H6 F6 E6 S6 w6 => k σ6 B6 H6 F6 (E5.trans E6) S6 fun j z => (w6 j z).trans (w5' j z)
    | rt t =>
      cases (show some (Fl.rt t, ρ4) = some (fl, ρ') from e2)
      exact fun v σ6 B6 H6 F6 G6 E6 S6 O6 w6 => k v σ6 B6 H6 F6 G6 (E5.trans E6) S6 O6 fun j z => (w6 j z).trans (w5' j z)
    | ex c fs es =>
      cases (show some (Fl.ex c fs es, ρ4) = some (fl, ρ') from e2)
      exact fun cls dv σ6 B6 H6 F6 vs E6 S6 w6 => k cls dv σ6 B6 H6 F6 vs (E5.trans E6) S6 fun j z => (w6 j z).trans (w5' j z)
  · have ei : i = ds.length := by omega
    subst ei
    rw [List.drop_length] at e2
    cases (show some (Fl.nx, ρ2) = some (fl, ρ') from e2)
    exact Or.inl ⟨wk.stop B2 H2 b12 S2.bh, k σ2 B2 H2 F2 E2 S2 w2⟩
/-! ### while -/
def whGo (c : MT) (mb : MS) : Nat → Env → Option (Fl × Env)
  | 0, _ => none
  | n + 1, ρ => (c ρ).bind fun x => if x.1 = true then (mb x.2).bind fun y => match y.1 with
    | .nx => whGo c mb n y.2
    | .ct => whGo c mb n y.2
    | .bk => some (.nx, y.2)
    | .rt t => some (.rt t, y.2)
    | .ex c fs es => some (.ex c fs es, y.2)
    else some (.nx, x.2)
def sWh (n : Nat) (c : MT) (mb : MS) : MS := whGo c mb n
theorem s_wh {c : Expr} {body : List Stmt} {mc : MT} {mb : MS} (n : Nat) (hp : PassesOwn (model X.prog X.w) X.A X.env X.xe) (hc : PT X c (tT X.K p mc)) (hb : PSs X body (tS X.K io mb)) : PS X (.While c body [] pos) (tS X.K io (sWh n mc mb)) := psW (ps_while hp hc hb) fun D σ H h => by
  obtain ⟨B, ρ, F, S, fl, ρ', e, k⟩ := tS_eq.mp h
  refine ⟨fun m σ2 H2 => ∃ B2 ρ2 F2, Ext B H (U F) B2 H2 (U F2) ∧ St X.K B2 H2 σ2 ρ2 F2 ∧ (∀ j, io j = true → σ2[j]? = σ[j]?) ∧ whGo mc mb m ρ2 = some (fl, ρ'), ⟨n, B, ρ, F, Ext.refl, S, fun _ _ => rfl, e⟩, ?_⟩
  rintro m σ2 H2 ⟨B2, ρ2, F2, E2, S2, w2, e2⟩
  cases m with
  | zero => cases (show none = some (fl, ρ') from e2)
  | succ m =>
    obtain ⟨⟨x, ρ3⟩, ec, e2⟩ := ob (show (mc ρ2).bind _ = some (fl, ρ') from e2)
    refine ⟨B2, ρ2, F2, S2, x, ρ3, ec, fun B3 H3 F3 E3 S3 P3 => ?_⟩
    cases x with
    | false =>
      cases (show some (Fl.nx, ρ3) = some (fl, ρ') from e2)
      exact iteF (k σ2 B3 H3 F3 (E2.trans E3) S3 w2)
    | true =>
      obtain ⟨⟨f1, ρ4⟩, eb, e2⟩ := ob (show (mb ρ3).bind _ = some (fl, ρ') from e2)
      refine iteT ⟨fun σ4 H4 => ∃ B2 ρ2 F2, Ext B H (U F) B2 H4 (U F2) ∧ St X.K B2 H4 σ4 ρ2 F2 ∧ (∀ j, io j = true → σ4[j]? = σ[j]?) ∧ whGo mc mb m ρ2 = some (fl, ρ'), fun σ4 H4 p4 => ⟨m, Nat.lt_succ_self _, p4⟩, ?_⟩
      refine tS_eq.mpr ⟨B3, ρ3, F3, S3, f1, ρ4, eb, ?_⟩
      cases f1 with
      | nx => exact fun σ6 B6 H6 F6 E6 S6 w6 => ⟨B6, ρ4, F6, (E2.trans E3).trans E6, S6, fun j z => (w6 j z).trans (w2 j z), e2⟩
      | ct => exact fun σ6 B6 H6 F6 E6 S6 w6 => ⟨B6, ρ4, F6, (E2.trans E3).trans E6, S6, fun j z => (w6 j z).trans (w2 j z), e2⟩
      | bk =>
        cases (show some (Fl.nx, ρ4) = some (fl, ρ') from e2)
        exact fun σ6 B6 H6 F6 E6 S6 w6 => k σ6 B6 H6 F6 ((E2.trans E3).trans E6) S6 fun j z => (w6 j z).trans (w2 j z)
      | rt t =>
        cases (show some (Fl.rt t, ρ4) = some (fl, ρ') from e2)
        exact fun v σ6 B6 H6 F6 G6 E6 S6 O6 w6 => k v σ6 B6 H6 F6 G6 ((E2.trans E3).trans E6) S6 O6 fun j z => (w6 j z).trans (w2 j z)
      | ex c fs es =>
        cases (show some (Fl.ex c fs es, ρ4) = some (fl, ρ') from e2)
        exact fun cls dv σ6 B6 H6 F6 vs E6 S6 w6 => k cls dv σ6 B6 H6 F6 vs ((E2.trans E3).trans E6) S6 fun j z => (w6 j z).trans (w2 j z)
end
end DL

end

section
set_option Elab.async false
set_option linter.all false
set_option maxRecDepth 100000
set_option maxHeartbeats 2000000
namespace DL
open PySem L2

/-! ### comprehensions -/
def wipeR (ρ : Env) : List Nat → Env
  | [] => ρ
  | v :: vs => (wipeR ρ vs).set v none
theorem wipeR_len (ρ : Env) : ∀ vs : List Nat, (wipeR ρ vs).length = ρ.length
  | [] => rfl
  | v :: vs => by unfold wipeR; rw [List.length_set, wipeR_len ρ vs]
theorem wipeR_some {ρ : Env} {i : Nat} {t : T} : ∀ {vs : List Nat}, (wipeR ρ vs)[i]? = some (some t) → ρ[i]? = some (some t) ∧ i ∉ vs
  | [], h => ⟨h, by simp⟩
  | v :: vs, h => by
    have h' : ((wipeR ρ vs).set v none)[i]? = some (some t) := h
    by_cases z : v = i
    · subst z
      by_cases l : v < (wipeR ρ vs).length
      · rw [List.getElem?_set_self l] at h'; cases h'
      · rw [List.getElem?_eq_none (by rw [List.length_set]; omega)] at h'; cases h'
    · rw [List.getElem?_set_ne z] at h'
      obtain ⟨h1, h2⟩ := wipeR_some h'
      exact ⟨h1, by simp [h2, Ne.symm z]⟩
theorem wipe_out {σ : L2.St} {i : Nat} : ∀ {vs : List Nat}, i ∉ vs → (wipe σ vs)[i]? = σ[i]?
  | [], _ => rfl
  | v :: vs, h => by
    have h1 : i ≠ v := fun z => h (by simp [z])
    have h2 : i ∉ vs := fun z => h (by simp [z])
    show ((wipe σ vs).set v none)[i]? = _
    rw [List.getElem?_set_ne (Ne.symm h1), wipe_out h2]
theorem wipe_in {σ : L2.St} {i : Nat} (hl : i < σ.length) : ∀ {vs : List Nat}, i ∈ vs → (wipe σ vs)[i]? = some none
  | v :: vs, h => by
    show ((wipe σ vs).set v none)[i]? = _
    by_cases z : v = i
    · subst z
      rw [List.getElem?_set_self (by rw [wipe_length]; exact hl)]
    · rw [List.getElem?_set_ne z]
      exact wipe_in hl ((List.mem_cons.mp h).resolve_left fun y => z y.symm)
theorem wipe_eq {σ τ : L2.St} {vs : List Nat} (hl : τ.length = σ.length) (h : ∀ j, j ∉ vs → τ[j]? = σ[j]?) : wipe τ vs = wipe σ vs := by
  apply List.ext_getElem?
  intro i
  by_cases m : i ∈ vs
  · by_cases l : i < σ.length
    · rw [wipe_in l m, wipe_in (by omega) m]
    · rw [List.getElem?_eq_none (by rw [wipe_length]; omega), List.getElem?_eq_none (by rw [wipe_length]; omega)]
  · rw [wipe_out m, wipe_out m, h i m]
def rest (ρ0 : Env) : List Nat → Env → Env
  | [], ρ => ρ
  | i :: vs, ρ => match ρ0.t i with
    | some (.fz d) => (rest ρ0 vs ρ).set i (some (.fz d))
    | _ => rest ρ0 vs ρ
section
variable {K : PySem.W.Frag} {B B' H H' : Hp} {σ : L2.St} {ρ ρ' : Env} {F F' : Nat → Addr → Prop}
theorem St.wiped (S : St K B H σ ρ F) (vs : List Nat) : St K B H (wipe σ vs) (wipeR ρ vs) F :=
  ⟨S.bh, fun i t e => by
    obtain ⟨h1, h2⟩ := wipeR_some e
    obtain ⟨v, k1, k2⟩ := S.sl i t h1
    exact ⟨v, by rw [wipe_out h2]; exact k1, k2⟩, S.nb, S.al, S.dj, by rw [wipe_length, wipeR_len]; exact S.ln⟩
theorem St.unwiped {vs : List Nat} (S : St K B H (wipe σ vs) ρ F) : St K B H σ ρ F :=
  ⟨S.bh, fun i t e => by
    obtain ⟨v, k1, k2⟩ := S.sl i t e
    exact ⟨v, (wipe_some k1).1, k2⟩, S.nb, S.al, S.dj, by rw [← S.ln, wipe_length]⟩
theorem St.rested {ρ0 : Env} {B0 H0 : Hp} {F0 : Nat → Addr → Prop} (S0 : St K B0 H0 σ ρ0 F0) (b : Ex B0 B) : ∀ {vs : List Nat} {ρ : Env} {F : Nat → Addr → Prop}, St K B H σ ρ F → ∃ F', (∀ a, U F' a → U F a) ∧ St K B H σ (rest ρ0 vs ρ) F'
  | [], ρ, F, S => ⟨F, fun _ z => z, S⟩
  | i :: vs, ρ, F, S => by
    obtain ⟨F1, u1, S1⟩ := St.rested S0 b (vs := vs) S
    unfold rest
    split
    · rename_i d q
      obtain ⟨v, h1, h2⟩ := S0.sl i _ (Env.t_some q)
      have hi : i < (rest ρ0 vs ρ).length := by
        rw [← S1.ln]
        exact (List.getElem?_eq_some_iff.mp h1).1
      have hs : σ.set i (some v) = σ := by
        obtain ⟨l, e⟩ := List.getElem?_eq_some_iff.mp h1
        rw [← e]
        exact List.set_getElem_self l
      have S2 := S1.put (i := i) (v := v) (t := .fz d) (G := fun _ => False) (Dat.mono b h2) (fun _ z => z.elim) (fun _ z => z.elim) (fun _ _ _ z => z.elim) hi
      rw [hs] at S2
      refine ⟨_, fun a z => u1 a ?_, S2⟩
      obtain ⟨j, z⟩ := z
      by_cases y : j = i
      · rw [if_pos y] at z; exact z.elim
      · rw [if_neg y] at z; exact ⟨j, z⟩
    · exact ⟨F1, u1, S1⟩
end
theorem Ext.less' {B H B1 H1 : Hp} {F F1 F2 : Addr → Prop} {D : Addr} (a : Ext B H F B1 H1 F1) (h : ∀ x, F2 x → F1 x) (n : ¬ F D → H D = none) : Ext B H F B1 H1 (fun x => F2 x ∨ x = D) :=
  ⟨a.bb, a.fr, a.nb, fun x h1 h2 z => z.elim (fun z => a.nf x h1 h2 (h x z)) fun z => h1 (by rw [z] at h2 ⊢; exact n h2)⟩
def lcGo (g : MG) (mt : MT) (me : M) (vs : List Nat) : List D → Env → Option (List D × Env)
  | [], ρ => some ([], ρ)
  | d :: ds, ρ => (g d ρ).bind fun ρ1 => (mt ρ1).bind fun b => if b.1 = true then (me b.2).bind fun x => (frzA x.2 x.1).bind fun y => (lcGo g mt me vs ds (wipeR y.2 vs)).bind fun r => some (y.1 :: r.1, r.2)
    else lcGo g mt me vs ds (wipeR b.2 vs)
def oLc (mi : MI) (g : MG) (mt : MT) (me : M) (vs : List Nat) : MO := fun ρ => (mi ρ).bind fun x => (lcGo g mt me vs x.1 (wipeR x.2 vs)).bind fun y => if (!small y.1) = true then none else some (.nd .lst (y.1.map .fz), rest x.2 vs y.2)
def mYes : MT := fun ρ => some (true, ρ)
section
variable {X : Cx} {p q : Bool} {pos : Pos} {js ks : List Nat} {io : Io}
theorem ptsW {X : Cx} {e : List Expr} {t t' : TT} (h : PTs X e t) (f : ∀ σ H Q, t' σ H Q → t σ H Q) : PTs X e t' := ⟨fun pins s σ H Q I q => h.run pins s σ H Q I (f _ _ _ q)⟩
theorem ts_nil : PTs X [] (tT X.K p mYes) := ptsW pts_nil fun σ H Q h => by
  obtain ⟨B, ρ, F, S, c, ρ', e, k⟩ := h
  cases (show some (true, ρ) = some (c, ρ') from e)
  exact k B H F Ext.refl S fun _ => ⟨rfl, rfl, Ex.refl _⟩
theorem ts_one {c : Expr} {m : MT} (h : PT X c (tT X.K p m)) : PTs X [c] (tT X.K p m) := pts_one h
theorem tO_lc {K : PySem.W.Frag} {mi : MI} {g : MG} {mt : MT} {me : M} {vs : List Nat} {σ : L2.St} {H : Hp} {Q : VK} (hjs : js.all (fun j => vs.contains j) = true) (h : tO K (oLc mi g mt me vs) σ H Q) : tLc (tI K mi) (tG K js g) (tT K p mt) (tE K q me) vs σ H Q := by
  have hj : ∀ j, j ∈ js → j ∈ vs := fun j z => by simpa using List.all_eq_true.mp hjs j z
  obtain ⟨B, ρ, F, S, t, ρ', e, k⟩ := h
  obtain ⟨⟨ds, ρ1⟩, ei, e⟩ := ob e
  obtain ⟨⟨es, ρ2⟩, el, e⟩ := ob e
  obtain ⟨esm, e⟩ := og e
  cases e
  refine ⟨B, ρ, F, S, ds, ρ1, ei, fun J B1 H1 F1 E1 S1 wk D hD => ?_⟩
  have bD : B1 D = none := by
    cases z : B1 D with
    | none => rfl
    | some o => rw [S1.bh D o z] at hD; cases hD
  have fD : ¬ U F1 D := fun ⟨i, z⟩ => S1.al i D z hD
  obtain ⟨n1, n2, n3, n4, n5⟩ := new_own S1 (o := .lst []) hD
  have N1 : Ext B H (U F) B1 (upd H1 D (.lst [])) (U F1) := (E1.trans n1).less fun a z => Or.inl z
  have hDH : ¬ U F D → H D = none := fun n => by
    cases z : H D with
    | none => rfl
    | some o => rw [E1.fr D o z n] at hD; cases hD
  refine ⟨fun i m H2 => m = ds.length - i ∧ i ≤ ds.length ∧ ∃ B2 ρ3 F2 acc vacc r, Ext B H (U F) B2 H2 (U F2) ∧ Ex B1 B2 ∧ St K B2 H2 (wipe σ vs) ρ3 F2 ∧ lcGo g mt me vs (ds.drop i) ρ3 = some (r, ρ2) ∧ acc ++ r = es ∧ DatL K B2 acc vacc ∧ H2 D = some (.lst vacc) ∧ B2 D = none ∧ ¬ U F2 D,
    ⟨ds.length, by simp, Nat.zero_le _, B1, _, F1, [], [], es, N1, Ex.refl _, n2.wiped vs, el, rfl, rfl, upd_same, bD, fD⟩, ?_⟩
  rintro i m H2 ⟨rfl, hi, B2, ρ3, F2, acc, vacc, r, E2, b12, S2, e2, er, da, hD2, bD2, fD2⟩
  by_cases hlt : i < ds.length
  · obtain ⟨d, hd, hdr⟩ := drop_cons hlt
    obtain ⟨go, yl⟩ := wk.go i d hd B2 H2 b12 S2.bh
    rw [hdr] at e2
    obtain ⟨ρ4, eg, e2⟩ := ob (show (g d ρ3).bind _ = some (r, ρ2) from e2)
    obtain ⟨⟨b, ρ5⟩, et, e2⟩ := ob e2
    refine Or.inr ⟨go, fun H4 => i + 1 ≤ ds.length ∧ ∃ B2 ρ3 F2 acc vacc r, Ext B H (U F) B2 H4 (U F2) ∧ Ex B1 B2 ∧ St K B2 H4 (wipe σ vs) ρ3 F2 ∧ lcGo g mt me vs (ds.drop (i + 1)) ρ3 = some (r, ρ2) ∧ acc ++ r = es ∧ DatL K B2 acc vacc ∧ H4 D = some (.lst vacc) ∧ B2 D = none ∧ ¬ U F2 D,
      fun H4 p4 => ⟨ds.length - (i + 1), by omega, rfl, p4.1, p4.2⟩, fun x H3 y => ?_⟩
    obtain ⟨B3, nw3, d3⟩ := yl x H3 y
    have hD3 : H3 D = some (.lst vacc) := nw3.hh D _ hD2
    have bD3 : B3 D = none := nw3.fr D (by rw [hD2]; exact fun z => nomatch z) bD2
    refine ⟨B3, ρ3, F2, d, S2.new nw3, d3, ρ4, eg, fun σ5 F5 u5 S5 w5 => ?_⟩
    have hw : wipe σ5 vs = wipe σ vs := by
      refine wipe_eq (w5.2.trans (wipe_length _ _)) fun j z => ?_
      rw [w5.1 j (fun y => z (hj j y)), wipe_out z]
    have E5 : Ext B H (U F) B3 H3 (U F5) := (E2.trans nw3.ext).less u5
    have fD5 : ¬ U F5 D := fun z => fD2 (u5 D z)
    have hn3 : H3 D ≠ none := by rw [hD3]; exact fun z => nomatch z
    refine ⟨hw, B3, ρ4, F5, S5, b, ρ5, et, fun B6 H6 F6 E6 S6 P6 => ?_⟩
    have hD6 : H6 D = some (.lst vacc) := E6.fr D _ hD3 fD5
    have hn6 : H6 D ≠ none := by rw [hD6]; exact fun z => nomatch z
    have bD6 : B6 D = none := E6.nb D hn3 fD5 bD3
    have fD6 : ¬ U F6 D := E6.nf D hn3 fD5
    cases b with
    | false =>
      have e3 : lcGo g mt me vs (ds.drop (i + 1)) (wipeR ρ5 vs) = some (r, ρ2) := e2
      refine iteF ⟨hlt, B6, _, F6, acc, vacc, r, E5.trans E6, (b12.trans nw3.bb).trans E6.bb, ?_, e3, er, da.mono (nw3.bb.trans E6.bb), hD6, bD6, fD6⟩
      rw [← hw]
      exact S6.wiped vs
    | true =>
      obtain ⟨⟨x7, ρ7⟩, ex, e2⟩ := ob (show (me ρ5).bind _ = some (r, ρ2) from e2)
      obtain ⟨⟨d7, ρ8⟩, ed, e2⟩ := ob e2
      obtain ⟨⟨r', ρ9⟩, e9, e2⟩ := ob e2
      cases e2
      refine iteT ⟨B6, ρ5, F6, S6, x7, ρ7, ex, fun v7 B7 H7 F7 E7 S7 A7 P7 => ?_⟩
      obtain ⟨B8, F8, E8, S8, d8⟩ := S7.frzA A7 ed
      have hD7 : H7 D = some (.lst vacc) := E7.fr D _ hD6 fD6
      have hn7 : H7 D ≠ none := by rw [hD7]; exact fun z => nomatch z
      have bD7 : B7 D = none := E7.nb D hn6 fD6 bD6
      have fD7 : ¬ U F7 D := E7.nf D hn6 fD6
      have bD8 : B8 D = none := E8.nb D hn7 fD7 bD7
      have fD8 : ¬ U F8 D := E8.nf D hn7 fD7
      have hup : ∀ a o, H7 a = some o → a ≠ D → upd H7 D (.lst (vacc ++ [v7])) a = some o := fun a o z n => by rw [upd_ne n]; exact z
      have hbu : Ex B8 (upd H7 D (.lst (vacc ++ [v7]))) := fun a o z => hup a o (S8.bh a o z) fun y => by rw [y, bD8] at z; cases z
      have hlen : acc.length + 1 ≤ es.length := by rw [← er, List.length_append, List.length_cons]; omega
      have hsm : es.length ≤ 100000 := of_decide_eq_true (show small es = true by simpa using esm)
      refine ⟨vacc, hD7, by rw [← da.len]; exact Nat.lt_of_lt_of_le (Nat.lt_of_succ_le (Nat.le_trans hlen hsm)) (by decide), hlt, B8, wipeR ρ8 vs, F8, acc ++ [d7], vacc ++ [v7], r', ?_, ((b12.trans nw3.bb).trans E6.bb).trans (E7.bb.trans E8.bb), ?_, e9, by rw [List.append_assoc]; exact er,
        (da.mono ((nw3.bb.trans E6.bb).trans (E7.bb.trans E8.bb))).app (DatL.cons d8 DatL.nil), upd_same, bD8, fD8⟩
      · have EE := ((E5.trans E6).trans E7).trans E8
        have bD0 : ¬ U F D → H D = none := hDH
        refine ⟨EE.bb, fun a o z n => hup a o (EE.fr a o z n) fun y => ?_, EE.nb, EE.nf⟩
        rw [y] at z n
        rw [hDH n] at z
        cases z
      · rw [← hw]
        refine St.wiped ⟨hbu, fun j t z => ?_, S8.nb, fun j a z => ?_, S8.dj, S8.ln⟩ vs
        · obtain ⟨v, g1, g2⟩ := S8.sl j t z
          exact ⟨v, g1, g2.frame (Ex.refl _) fun a o z q => hup a o q fun y => fD8 ⟨j, y ▸ z⟩⟩
        · have nD : a ≠ D := fun y => fD8 ⟨j, y ▸ z⟩
          rw [upd_ne nD]
          exact S8.al j a z
  · have ei : i = ds.length := by omega
    subst ei
    rw [List.drop_length] at e2
    cases (show some ([], ρ3) = some (r, ρ2) from e2)
    rw [List.append_nil] at er
    subst er
    refine Or.inl ⟨wk.stop B2 H2 b12 S2.bh, ?_⟩
    obtain ⟨F3, u3, S3⟩ := S1.rested (b12) (vs := vs) S2.unwiped
    refine k (.ref D) B2 H2 F3 (fun a => a = D) (E2.less' u3 hDH) S3 ⟨⟨D, vacc, rfl, rfl, hD2, OwnL.of_dat da⟩, (fun a z => by rw [z]; exact bD2), (fun a z => by rw [z, hD2]; exact fun y => nomatch y), fun i a z y => fD2 (u3 D ⟨i, by rw [z] at y; exact y⟩)⟩
theorem o_lc {elt tg iter : Expr} {ifs : List Expr} {scope : Scope} {own : List (Str × Nat)} {mi : MI} {g : MG} {mt : MT} {me : M} (hc : X.calm = true) (hN : X.N.Nodup) (hi : PI X tg iter (tI X.K mi)) (ok : BlkOk X.N X.env.scope scope own)
    (hg : ∀ (s : Shared) (H : Hp) (C : Addr) (cl : List (Str × Addr)) (fp : List Addr), PG (X.blk s H scope (compEnvC scope cl C X.env) fp) tg (tG X.K js g)) (ht : ∀ (s : Shared) (H : Hp) (C : Addr) (cl : List (Str × Addr)) (fp : List Addr), PTs (X.blk s H scope (compEnvC scope cl C X.env) fp) ifs (tT X.K p mt))
    (he : ∀ (s : Shared) (H : Hp) (C : Addr) (cl : List (Str × Addr)) (fp : List Addr), PE (X.blk s H scope (compEnvC scope cl C X.env) fp) elt (tE X.K q me)) (hjs : js.all (fun j => (own.map (·.2)).contains j) = true := by rfl) (hs : ∀ x, foldedSetIterable iter X.env x = pure x := by intro _; rfl) :
    PE X (.ListComp elt [⟨tg, iter, ifs, 0⟩] scope pos) (tO X.K (oLc mi g mt me (own.map (·.2)))) := peW (pe_lc hc hN hi ok hg ht he hs) fun _ _ _ h => tO_lc hjs h
/-- y = [..] -/
theorem s_asgLc {i : Nat} {y : Str} {py spos : Pos} {elt tg iter : Expr} {ifs : List Expr} {scope : Scope} {own : List (Str × Nat)} {mi : MI} {g : MG} {mt : MT} {me : M} (hc : X.calm = true) (hN : X.N.Nodup) (hy : X.N[i]? = some y) (hyl : X.env.scope.names.lookup y = some .local)
    (hsw : swapsWith (.ListComp elt [⟨tg, iter, ifs, 0⟩] scope pos) (some (.Name y py)) spos.line X.env = pure true) (hi : PI X tg iter (tI X.K mi)) (ok : BlkOk X.N X.env.scope scope own)
    (hg : ∀ (s : Shared) (H : Hp) (C : Addr) (cl : List (Str × Addr)) (fp : List Addr), PG (X.blk s H scope (compEnvC scope cl C X.env) fp) tg (tG X.K js g)) (ht : ∀ (s : Shared) (H : Hp) (C : Addr) (cl : List (Str × Addr)) (fp : List Addr), PTs (X.blk s H scope (compEnvC scope cl C X.env) fp) ifs (tT X.K p mt))
    (he : ∀ (s : Shared) (H : Hp) (C : Addr) (cl : List (Str × Addr)) (fp : List Addr), PE (X.blk s H scope (compEnvC scope cl C X.env) fp) elt (tE X.K q me)) (hjs : js.all (fun j => (own.map (·.2)).contains j) = true := by rfl) (hio : io i = false := by rfl) (hs : ∀ x, foldedSetIterable iter X.env x = pure x := by intro _; rfl) :
    PS X (.Assign [.Name y py] (.ListComp elt [⟨tg, iter, ifs, 0⟩] scope pos) spos) (tS X.K io (sAs i (oLc mi g mt me (own.map (·.2))))) := psW (ps_setLc hc hN hy hyl hsw hi ok hg ht he hs) fun D σ H h => by
  obtain ⟨B, ρ, F, S, fl, ρ', e, k⟩ := tS_eq.mp h
  obtain ⟨⟨x, ρ1⟩, ea, e⟩ := ob e
  obtain ⟨ρ2, ep, e⟩ := ob e
  cases e
  refine tO_lc (p := p) (q := q) hjs ⟨B, ρ, F, S, x, ρ1, ea, fun v B1 H1 F1 G E1 S1 O1 => ?_⟩
  obtain ⟨F2, u2, S2⟩ := put_own S1 O1 ep
  exact k _ B1 H1 F2 (E1.less u2) S2 fun j z => List.getElem?_set_ne (fun y => by subst y; rw [hio] at z; cases z)
end
end DL

end

section
set_option Elab.async false
set_option linter.all false
set_option maxRecDepth 100000
set_option maxHeartbeats 2000000
namespace DL
open PySem L2

/-! ### what is ours, changed -/
abbrev FM := DK → List T → List D → Option (D × DK × List T)
def mutAt (f : FM) (i : Nat) (π : List Nat) (ds : List D) (ρ : Env) : Option (D × Env) := (ρ.t i).bind fun t => (tAt π t).bind fun s => match s with
  | .nd k ts => (f k ts ds).bind fun r => some (r.1, ρ.set i (some (tSet π (.nd r.2.1 r.2.2) t)))
  | .fz _ => none
/-- a change of a node, told by its values -/
def MutR (K : PySem.W.Frag) (r : V → List V → Hp → VK → Prop) (f : FM) : Prop := ∀ (B H : Hp) (G : Addr → Prop) (k k' : DK) (ts ts' : List T) (l : Addr) (vs ws : List V) (ds : List D) (g : D) (Q : VK), Ex B H → B l = none → OwnN K H k l vs → OwnL K B H G ts vs → DatL K B ds ws → f k ts ds = some (g, k', ts') →
  (∀ v o vs', Dat K B g v → OwnN K (upd H l o) k' l vs' → OwnL K B H G ts' vs' → Q v (upd H l o)) → r (.ref l) ws H Q
section
variable {K : PySem.W.Frag} {B B' H H' : Hp} {σ : L2.St} {ρ ρ' : Env} {F F' : Nat → Addr → Prop}
theorem ArgOk.path {i : Nat} {π : List Nat} {v : V} {t : T} (S : St K B H σ ρ F) (h : ArgOk K B H σ ρ (.rf i π) v) (e : ρ.t i = some t) : ∃ w, σ[i]? = some (some w) ∧ PathV K H π t w v := by
  cases π with
  | nil => exact ⟨v, h, rfl⟩
  | cons j π =>
    obtain ⟨w, t', h1, h2, h3⟩ := h
    rw [e] at h2
    cases h2
    exact ⟨w, h1, h3⟩
theorem mut_core {f : FM} (S : St K B H σ ρ F) {i : Nat} {π : List Nat} {v : V} {ds : List D} {g : D} {P : V → Prop} (A : ArgOk K B H σ ρ (.rf i π) v) (e : mutAt f i π ds ρ = some (g, ρ'))
    (R : ∀ (G : Addr → Prop) k k' ts ts' l vs, B l = none → OwnN K H k l vs → OwnL K B H G ts vs → f k ts ds = some (g, k', ts') → (∀ o vs', OwnN K (upd H l o) k' l vs' → OwnL K B H G ts' vs' → Ext B H (U F) B (upd H l o) (U F) ∧ St K B (upd H l o) σ ρ' F) → P (.ref l)) : P v := by
  obtain ⟨t, e1, e⟩ := ob e
  obtain ⟨s, e2, e⟩ := ob e
  obtain ⟨w, a1, a2⟩ := A.path S e1
  obtain ⟨w', b1, b2⟩ := S.sl i t (Env.t_some e1)
  rw [a1] at b1
  cases b1
  obtain ⟨G1, g1, g2, g3⟩ := own_upd b2 a2 e2
  cases s with
  | fz d => cases (show none = some (g, ρ') from e)
  | nd kk ts =>
    obtain ⟨⟨g', k', ts'⟩, e3, e⟩ := ob (show (f kk ts ds).bind _ = some (g, ρ') from e)
    cases e
    obtain ⟨l, vs, rfl, h2, h3, h4⟩ := g2
    have hBl : B l = none := S.nb i l (g1 l h2)
    have hi : i < ρ.length := (List.getElem?_eq_some_iff.mp (Env.t_some e1)).1
    refine R _ kk k' ts ts' l vs hBl h3 h4 e3 fun o vs' on ol => ?_
    have up : ∀ a u, a ≠ l → H a = some u → upd H l o a = some u := fun a u n z => by rw [upd_ne n]; exact z
    have bh' : Ex B (upd H l o) := fun a u z => up a u (fun y => by rw [y, hBl] at z; cases z) (S.bh a u z)
    refine ⟨⟨Ex.refl _, fun a u z n => up a u (fun y => n ⟨i, by rw [y]; exact g1 l h2⟩) z, fun _ _ _ z => z, fun _ _ z => z⟩, ?_⟩
    refine ⟨bh', fun j u z => ?_, S.nb, fun j a z => ?_, S.dj, by rw [List.length_set]; exact S.ln⟩
    · by_cases y : j = i
      · subst y
        rw [List.getElem?_set_self hi] at z
        cases z
        refine ⟨w, a1, g3 B (upd H l o) _ (Ex.refl _) (fun a u _ n q => up a u (fun y => n (by rw [y]; exact h2)) q) ⟨l, vs', rfl, h2, on, ol.frame (Ex.refl _) fun a u z q => up a u z.2 q⟩⟩
      · rw [List.getElem?_set_ne (Ne.symm y)] at z
        obtain ⟨v', c1, c2⟩ := S.sl j u z
        exact ⟨v', c1, c2.frame (Ex.refl _) fun a u z q => up a u (fun x => S.dj j i a y z (by rw [x]; exact g1 l h2)) q⟩
    · by_cases y : a = l
      · rw [y, upd_same]; exact fun z => nomatch z
      · rw [upd_ne y]; exact S.al j a z
theorem mut_sound {r : V → List V → Hp → VK → Prop} {f : FM} (R : MutR K r f) (S : St K B H σ ρ F) {i : Nat} {π : List Nat} {v : V} {ds : List D} {ws : List V} {g : D} {Q : VK} (A : ArgOk K B H σ ρ (.rf i π) v) (hd : DatL K B ds ws) (e : mutAt f i π ds ρ = some (g, ρ'))
    (k : ∀ x H', Ext B H (U F) B H' (U F) → St K B H' σ ρ' F → Dat K B g x → Q x H') : r v ws H Q :=
  mut_core (P := fun v => r v ws H Q) S A e fun G kk k' ts ts' l vs bl on ol e3 st => R B H G kk k' ts ts' l vs ws ds g Q S.bh bl on ol hd e3 fun x o vs' dx on' ol' => k x _ (st o vs' on' ol').1 (st o vs' on' ol').2 dx
def Arg.isVl : Arg → Bool
  | .vl _ => true
  | _ => false
theorem frzL_vl : ∀ {as : List Arg} {x : List D × Env}, as.all Arg.isVl = true → frzL ρ as = some x → x.2 = ρ
  | [], x, _, e => by cases (show some ([], ρ) = some x from e); rfl
  | .vl d :: as, x, h, e => by
    obtain ⟨y, e1, e⟩ := ob e
    cases (show some (d, ρ) = some y from e1)
    obtain ⟨z, e2, e⟩ := ob e
    cases e
    have h' : as.all Arg.isVl = true := by rw [List.all_cons] at h; exact (Bool.and_eq_true_iff.mp h).2
    show z.2 = ρ
    exact frzL_vl h' e2
  | .rf _ _ :: as, x, h, e => by
    rw [List.all_cons] at h
    cases h
/-- frozen arguments behind a place -/
theorem frz_behind {x : Arg} {v : V} {as : List Arg} {vs : List V} {ds : List D} (S : St K B H σ ρ F) (A : ArgOk K B H σ ρ x v) (As : ArgsOk K B H σ ρ as vs) (g : (x.deep && !as.all Arg.isVl) = false) (e : frzL ρ as = some (ds, ρ')) :
    ∃ B' F', Ext B H (U F) B' H (U F') ∧ St K B' H σ ρ' F' ∧ DatL K B' ds vs ∧ ArgOk K B' H σ ρ' x v := by
  obtain ⟨B1, F1, E1, S1, d1⟩ := frzL_sound S As e
  refine ⟨B1, F1, E1, S1, d1, A.keep E1.bb fun z => ⟨?_, Ex.refl _⟩⟩
  rw [z] at g
  exact frzL_vl (by simpa using g) e
end
def derefT (ρ : Env) : Arg → Option T
  | .vl d => some (.fz d)
  | .rf i π => (ρ.t i).bind (tAt π)
def tyA (T : String) (ρ : Env) (a : Arg) : Bool := match derefT ρ a with
  | some (.nd .lst _) => T == "list"
  | some (.nd (.dic _) _) => T == "dict"
  | _ => false
section
variable {X : Cx} {p q : Bool} {pos : Pos} {io : Io}
theorem ty_sound {K : PySem.W.Frag} {B H : Hp} {σ : L2.St} {ρ : Env} {F : Nat → Addr → Prop} {T : String} {a : Arg} {v : V} (S : St K B H σ ρ F) (A : ArgOk K B H σ ρ a v) (e : tyA T ρ a = true) : tyV K T v H := by
  unfold tyA at e
  cases a with
  | vl d => cases (show false = true from e)
  | rf i π =>
    cases q : derefT ρ (.rf i π) with
    | none => rw [q] at e; cases e
    | some s =>
      rw [q] at e
      obtain ⟨t, e1, e2⟩ := ob (show (ρ.t i).bind (tAt π) = some s from q)
      obtain ⟨w, a1, a2⟩ := A.path S e1
      obtain ⟨w', b1, b2⟩ := S.sl i t (Env.t_some e1)
      rw [a1] at b1
      cases b1
      obtain ⟨G1, g1, g2, g3⟩ := own_upd b2 a2 e2
      cases s with
      | fz _ => cases e
      | nd k ts =>
        obtain ⟨l, vs, rfl, h2, h3, h4⟩ := g2
        cases k with
        | tup => exact h3.elim
        | lst => exact Or.inl ⟨by simpa using e, vs, SqL.of h3⟩
        | ll => cases e
        | dic ks => exact Or.inr (Or.inr (Or.inl ⟨by simpa using e, Or.inl ⟨_, h3.2⟩⟩))
        | exc _ _ => cases e
        | ins _ _ => cases e
def eMu (T : String) (q : Bool) (f : FM) (o : M) (as : MA) : M := fun ρ => (o ρ).bind fun x => if (!tyA T x.2 x.1) = true then none else (as x.2).bind fun y => if guard q x.1 = true then none else if (x.1.deep && !y.1.all Arg.isVl) = true then none else
  match x.1 with
  | .rf i π => (frzL y.2 y.1).bind fun z => (mutAt f i π z.1 z.2).bind fun r => some (.vl r.1, r.2)
  | .vl _ => none
theorem tE_mu {K : PySem.W.Frag} {T : String} {r : V → List V → Hp → VK → Prop} {f : FM} {mo : M} {ms : MA} (R : MutR K r f) {σ : L2.St} {H : Hp} {Q : VK} (h : tE K false (eMu T q f mo ms) σ H Q) : tBM K T r (tE K p mo) (tA K q ms) σ H Q := by
  obtain ⟨B, ρ, F, S, a, ρ', e, k⟩ := h
  obtain ⟨⟨x, ρ1⟩, ea, e⟩ := ob e
  obtain ⟨et, e⟩ := og e
  obtain ⟨⟨ys, ρ2⟩, eb, e⟩ := ob e
  obtain ⟨eg, e⟩ := og e
  obtain ⟨eh, e⟩ := og e
  refine ⟨B, ρ, F, S, x, ρ1, ea, fun v B1 H1 F1 E1 S1 A1 P1 => ⟨ty_sound S1 A1 (by simpa using et), B1, ρ1, F1, S1, ys, ρ2, eb, fun vs B2 H2 F2 E2 S2 A2 P2 => ?_⟩⟩
  have A1' := A1.keep (B' := B2) (ρ' := ρ2) (H' := H2) E2.bb (guard_keep eg P2)
  cases x with
  | vl d => cases (show none = some (a, ρ') from e)
  | rf i π =>
    obtain ⟨⟨ds, ρ3⟩, ed, e⟩ := ob (show (frzL ρ2 ys).bind _ = some (a, ρ') from e)
    obtain ⟨⟨g, ρ4⟩, em, e⟩ := ob e
    cases e
    obtain ⟨B3, F3, E3, S3, d3, A3⟩ := frz_behind S2 A1' A2 eh ed
    exact mut_sound R S3 A3 d3 em fun x H' E' S' dx => k x B3 H' F3 (((E1.trans E2).trans E3).trans E') S' dx fun z => nomatch z
theorem c_mu {o e : Expr} {es : List Expr} {name : Str} {apos : Pos} {T id : String} {r : V → List V → Hp → VK → Prop} {f : FM} {mo : M} {ms : MA} (pa : PlainAttrs T) (slot : Slot T name id) (hty : typeOf (.builtin id) = pure (.type "method_descriptor")) (hm : MtR X id r) (R : MutR X.K r f)
    (ho : PE X o (tE X.K p mo)) (ha : PA X (e :: es) (tA X.K q ms))
    (hbase : attributeBase o name X.env (eval o X.env) = eval o X.env := by rfl)
    (hfew : ((backTo pos (starEach (e :: es) X.env)).all (fun x => !x.1) && (backToKw pos (keywordEach [] X.env)).all (fun x => x.1.isSome)
      && decide ((e :: es).length + ([] : List Keyword).length + (if ([] : List Keyword).isEmpty then 0 else 1) < 30)) = true := by rfl)
    (hline : (apos.endLine == pos.line) = true := by rfl) (hs : starEach (e :: es) X.env = (false, eval e X.env) :: starEach es X.env := by rfl) (hplain : (backTo pos (starEach es X.env)).any (·.1) = false := by rfl) :
    PE X (.Call (.Attribute o name apos) (e :: es) [] pos) (tE X.K false (eMu T q f mo ms)) := peW (pe_bm pa slot hty hm ho ha hbase hfew hline hs hplain) fun _ _ _ h => tE_mu R h
/-- without arguments -/
theorem c_mu0 {o : Expr} {name : Str} {apos : Pos} {T id : String} {r : V → List V → Hp → VK → Prop} {f : FM} {mo : M} (pa : PlainAttrs T) (slot : Slot T name id) (hty : typeOf (.builtin id) = pure (.type "method_descriptor")) (hm : MtR X id r) (R : MutR X.K r f)
    (ho : PE X o (tE X.K p mo)) (hbase : attributeBase o name X.env (eval o X.env) = eval o X.env := by rfl) (hline : (apos.endLine == pos.line) = true := by rfl) :
    PE X (.Call (.Attribute o name apos) [] [] pos) (tE X.K false (eMu T true f mo mNil)) := peW (pe_bm0 pa slot hty hm ho hbase hline) fun σ H Q h => by
  have h' := tE_mu (p := p) (q := true) R h
  obtain ⟨B, ρ, F, S, x, ρ1, ea, k⟩ := h'
  refine ⟨B, ρ, F, S, x, ρ1, ea, fun v B1 H1 F1 E1 S1 A1 P1 => ?_⟩
  obtain ⟨k1, B2, ρ2, F2, S2, as, ρ3, e3, k2⟩ := k v B1 H1 F1 E1 S1 A1 P1
  cases (show some ([], ρ2) = some (as, ρ3) from e3)
  exact ⟨k1, k2 [] B2 H1 F2 Ext.refl S2 rfl fun _ => ⟨rfl, rfl, Ex.refl _⟩⟩
/-! o[i] = e -/
def SetR (K : PySem.W.Frag) (t : TSet) (f : FM) : Prop := ∀ (B H : Hp) (G : Addr → Prop) (k k' : DK) (ts ts' : List T) (l : Addr) (vs : List V) (iv v : V) (di dv g : D) (Q : Hp → Prop), Ex B H → B l = none → OwnN K H k l vs → OwnL K B H G ts vs → Dat K B di iv → Dat K B dv v → f k ts [di, dv] = some (g, k', ts') →
  (∀ o vs', OwnN K (upd H l o) k' l vs' → OwnL K B H G ts' vs' → Q (upd H l o)) → t (.ref l) iv v H Q
def sSub (q : Bool) (f : FM) (e o i : M) : MS := fun ρ => (e ρ).bind fun v => if v.1.deep = true then none else (o v.2).bind fun x => (i x.2).bind fun y => if guard q x.1 = true then none else if (x.1.deep && !(y.1.isVl && v.1.isVl)) = true then none else
  match x.1 with
  | .rf j π => (frzL y.2 [y.1, v.1]).bind fun z => (mutAt f j π z.1 z.2).bind fun r => some (.nx, r.2)
  | .vl _ => none
theorem s_sub {r1 : Bool} {o i e : Expr} {po : Pos} {t : TSet} {f : FM} {me mo mi : M} (hs : PSet X t) (R : SetR X.K t f) (he : PE X e (tE X.K r1 me)) (ho : PE X o (tE X.K p mo)) (hi : PE X i (tE X.K q mi))
    (ha : ∀ v, assign (.Subscript o i po) X.env v = (do
      let ov ← holding [v] (eval o X.env)
      let iv ← holding [v, ov] (eval i X.env)
      standAt po
      holding [v, ov, iv] (setItem ov iv v)
      release [v, ov, iv] []) := by intro _; rfl)
    (hsw : swapsWithSole [.Subscript o i po] e pos.line X.env = pure false := by rfl) (hw : swappedStores [.Subscript o i po] e X.env = pure none := by rfl)
    (h1 : (assignEach [.Subscript o i po] X.env).map (·.2) = [assign (.Subscript o i po) X.env] := by rfl) : PS X (.Assign [.Subscript o i po] e pos) (tS X.K io (sSub q f me mo mi)) := psW (ps_asg he (pg_sub ho hi hs ha) hsw hw h1) fun Z σ H h => by
  obtain ⟨B, ρ, F, S, fl, ρ', e, k⟩ := tS_eq.mp h
  obtain ⟨⟨xv, ρ1⟩, ev, e⟩ := ob e
  obtain ⟨g0, e⟩ := og e
  obtain ⟨⟨xo, ρ2⟩, eo, e⟩ := ob e
  obtain ⟨⟨xi, ρ3⟩, ei, e⟩ := ob e
  obtain ⟨g1, e⟩ := og e
  obtain ⟨g2, e⟩ := og e
  refine ⟨B, ρ, F, S, xv, ρ1, ev, fun v1 B1 H1 F1 E1 S1 A1 P1 => ⟨B1, ρ1, F1, S1, xo, ρ2, eo, fun v2 B2 H2 F2 E2 S2 A2 P2 => ⟨B2, ρ2, F2, S2, xi, ρ3, ei, fun v3 B3 H3 F3 E3 S3 A3 P3 => ?_⟩⟩⟩
  have A2' := A2.keep (B' := B3) (ρ' := ρ3) (H' := H3) E3.bb (guard_keep g1 P3)
  have A1' := A1.keep (B' := B3) (ρ' := ρ3) (H' := H3) (E2.bb.trans E3.bb) fun z => by rw [show xv.deep = false from g0] at z; cases z
  cases xo with
  | vl d => cases (show none = some (fl, ρ') from e)
  | rf j π =>
    obtain ⟨⟨ds, ρ4⟩, ed, e⟩ := ob (show (frzL ρ3 [xi, xv]).bind _ = some (fl, ρ') from e)
    obtain ⟨⟨g, ρ5⟩, em, e⟩ := ob e
    cases e
    obtain ⟨B4, F4, E4, S4, d4, A4⟩ := frz_behind (as := [xi, xv]) (vs := [v3, v1]) S3 A2' ⟨v3, _, rfl, A3, v1, _, rfl, A1', rfl⟩ (by simpa [List.all_cons] using g2) ed
    obtain ⟨di, dv, rfl⟩ : ∃ di dv, ds = [di, dv] := by
      obtain ⟨y, _, e⟩ := ob ed
      obtain ⟨z, ez, e⟩ := ob e
      obtain ⟨y2, _, ez⟩ := ob ez
      obtain ⟨z2, ez2, ez⟩ := ob ez
      cases (show some ([], y2.2) = some z2 from ez2)
      cases ez
      cases e
      exact ⟨_, _, rfl⟩
    obtain ⟨_, _, q1, hi, _, _, q2, hv, q3⟩ := d4
    cases q1
    cases q2
    exact mut_core (P := fun v => t v v3 v1 H3 fun H' => Z.nx σ H') S4 A4 em fun G kk k' ts ts' l vs bl on ol e3 st => R B4 H3 G kk k' ts ts' l vs v3 v1 di dv g _ S4.bh bl on ol hi hv e3 fun o vs' on' ol' =>
      k σ B4 _ F4 ((((E1.trans E2).trans E3).trans E4).trans (st o vs' on' ol').1) (st o vs' on' ol').2 fun _ _ => rfl
end
end DL

end

section
set_option Elab.async false
set_option linter.all false
set_option maxRecDepth 100000
set_option maxHeartbeats 2000000
namespace DL
open PySem L2

/-! ### calls that change what the slot i holds (the first argument) -/
def oIO (fn : Fn) (i : Nat) (as : MA) : MO := fun ρ => (ρ.t i).bind fun _ => (as ρ).bind fun y => (frzL y.2 y.1).bind fun z => (z.2.t i).bind fun t => (fn (t :: z.1.map .fz)).bind fun r => match r.2 with
  | t' :: _ => some (r.1, z.2.set i (some t'))
  | [] => none
section
variable {X : Cx} {p q : Bool} {pos : Pos}
theorem tO_io {K : PySem.W.Frag} {n : Nat} {fn : Fn} {i : Nat} {ms : MA} {σ : L2.St} {H : Hp} {Q : VK} {E : XK} (hn : ∀ ρ y, ms ρ = some y → y.1.length + 1 = n) (h : tO K (oIO fn i ms) σ H Q) :
    tCall (spF K n fn) [] E (tCons (tVar i) (tA K p ms)) σ H Q := by
  obtain ⟨B, ρ, F, S, t0, ρ', e, k⟩ := h
  obtain ⟨u, eu, e⟩ := ob e
  obtain ⟨⟨ys, ρ1⟩, ea, e⟩ := ob e
  obtain ⟨⟨ds, ρ2⟩, ed, e⟩ := ob e
  obtain ⟨t, et, e⟩ := ob e
  obtain ⟨⟨r, ts'⟩, er, e⟩ := ob e
  cases ts' with
  | nil => cases (show none = some (t0, ρ') from e)
  | cons t' rest =>
    cases (show some (r, ρ2.set i (some t')) = some (t0, ρ') from e)
    obtain ⟨v, hv, _⟩ := S.sl i u (Env.t_some eu)
    refine ⟨v, hv, B, ρ, F, S, ys, ρ1, ea, fun vs B1 H1 F1 E1 S1 A1 P1 => ?_⟩
    show spF K n fn ((v :: vs) ++ []) H1 Q E
    rw [List.append_nil]
    obtain ⟨B2, F2, E2, S2, d2⟩ := frzL_sound S1 A1 ed
    obtain ⟨v', hv', o2⟩ := S2.sl i t (Env.t_some et)
    rw [hv] at hv'
    cases hv'
    have hi : i < ρ2.length := (List.getElem?_eq_some_iff.mp (Env.t_some et)).1
    have hlen : (v :: vs).length = n := by
      have h1 := hn _ _ ea
      have h2 := d2.len
      have h3 : ys.length = ds.length := by
        have : ∀ {as : List Arg} {ρ : Env} {x : List D × Env}, frzL ρ as = some x → as.length = x.1.length := by
          intro as
          induction as with
          | nil => intro ρ x e; cases (show some ([], ρ) = some x from e); rfl
          | cons a as ih =>
            intro ρ x e
            obtain ⟨y, e1, e⟩ := ob e
            obtain ⟨z, e2, e⟩ := ob e
            cases e
            rw [List.length_cons, List.length_cons, ih e2]
        exact this ed
      rw [List.length_cons]
      simp only at h1
      omega
    refine ⟨B2, t :: ds.map .fz, fun j => if j = 0 then F2 i else fun _ => False, hlen, ⟨S2.bh, fun j u z => ?_, fun j a z => ?_, fun j a z => ?_, fun j l a ne z => ?_, by simp [d2.len]⟩, _, t' :: rest, er, fun x B3 H3 F3 G3 E3 S3 O3 => ?_⟩
    · cases j with
      | zero =>
        cases z
        exact ⟨v, rfl, by rw [if_pos rfl]; exact o2⟩
      | succ j =>
        have z' : ((ds.map T.fz).map some)[j]? = some (some u) := z
        rw [List.getElem?_map, List.getElem?_map] at z'
        cases q : ds[j]? with
        | none => rw [q] at z'; cases z'
        | some d =>
          rw [q] at z'
          cases z'
          obtain ⟨w, h1, h2⟩ := d2.get q
          exact ⟨w, by show (vs.map some)[j]? = _; rw [List.getElem?_map, h1]; rfl, h2⟩
    · by_cases y : j = 0
      · rw [if_pos y] at z; exact S2.nb i a z
      · rw [if_neg y] at z; exact z.elim
    · by_cases y : j = 0
      · rw [if_pos y] at z; exact S2.al i a z
      · rw [if_neg y] at z; exact z.elim
    · by_cases y : j = 0
      · by_cases y2 : l = 0
        · exact absurd (y.trans y2.symm) ne
        · rw [if_neg y2]; exact fun q => q
      · rw [if_neg y] at z; exact z.elim
    · have uc : ∀ a, ¬ F2 i a → ¬ U (fun j => if j = 0 then F2 i else fun _ => False) a := fun a n ⟨j, z⟩ => by
        have z : (if j = 0 then F2 i else fun _ => False) a := z
        by_cases y : j = 0
        · rw [if_pos y] at z; exact n z
        · rw [if_neg y] at z; exact z
      obtain ⟨v3, k1, k2⟩ := S3.sl 0 t' rfl
      cases (show some (some v) = some (some v3) from k1)
      -- what else is the frame's stays
      have hk : ∀ j, j ≠ i → ∀ a, F2 j a → ¬ F2 i a := fun j n a z => S2.dj j i a n z
      have S4 : St K B3 H3 σ (ρ2.set i (some t')) (fun j => if j = i then F3 0 else F2 j) := by
        refine ⟨S3.bh, fun j u z => ?_, fun j a z => ?_, fun j a z => ?_, fun j l a ne z => ?_, by rw [List.length_set]; exact S2.ln⟩
        · by_cases y : j = i
          · subst y
            rw [List.getElem?_set_self hi] at z
            cases z
            exact ⟨v, hv, by rw [if_pos rfl]; exact k2⟩
          · rw [List.getElem?_set_ne (Ne.symm y)] at z
            obtain ⟨w, c1, c2⟩ := S2.sl j u z
            refine ⟨w, c1, ?_⟩
            rw [if_neg y]
            exact c2.frame E3.bb fun a o z q => E3.fr a o q (uc a (hk j y a z))
        · by_cases y : j = i
          · rw [if_pos y] at z; exact S3.nb 0 a z
          · rw [if_neg y] at z; exact E3.nb a (S2.al j a z) (uc a (hk j y a z)) (S2.nb j a z)
        · by_cases y : j = i
          · rw [if_pos y] at z; exact S3.al 0 a z
          · rw [if_neg y] at z
            cases q : H1 a with
            | none => exact absurd q (S2.al j a z)
            | some o => rw [E3.fr a o q (uc a (hk j y a z))]; exact fun z => nomatch z
        · by_cases y : j = i
          · rw [if_pos y] at z
            have hl : l ≠ i := fun q => ne (y.trans q.symm)
            rw [if_neg hl]
            exact fun q => E3.nf a (S2.al l a q) (uc a (hk l hl a q)) (Or.inl ⟨0, z⟩)
          · rw [if_neg y] at z
            by_cases y2 : l = i
            · rw [if_pos y2]
              exact fun q => E3.nf a (S2.al j a z) (uc a (hk j y a z)) (Or.inl ⟨0, q⟩)
            · rw [if_neg y2]; exact S2.dj j l a ne z
      have EE : Ext B H (U F) B2 H1 (U F2) := E1.trans E2
      refine k x B3 H3 _ G3 ⟨EE.bb.trans E3.bb, fun a o z n => E3.fr a o (EE.fr a o z n) (uc a fun y => ?_), fun a z n y => ?_, fun a z n y => ?_⟩ S4 ⟨O3.own, O3.nb, O3.al, fun j a z => ?_⟩
      · exact EE.nf a (by rw [z]; exact fun q => nomatch q) n ⟨i, y⟩
      · have h1 : ¬ U F2 a := EE.nf a z n
        have h2 : H1 a ≠ none := by
          cases q : H a with
          | none => exact absurd q z
          | some o => rw [EE.fr a o q n]; exact fun z => nomatch z
        exact E3.nb a h2 (uc a fun q => h1 ⟨i, q⟩) (EE.nb a z n y)
      · have h1 : ¬ U F2 a := EE.nf a z n
        have h2 : H1 a ≠ none := by
          cases q : H a with
          | none => exact absurd q z
          | some o => rw [EE.fr a o q n]; exact fun z => nomatch z
        have h3 := E3.nf a h2 (uc a fun q => h1 ⟨i, q⟩)
        rcases y with ⟨j, y⟩ | y
        · by_cases w : j = i
          · rw [if_pos w] at y; exact h3 (Or.inl ⟨0, y⟩)
          · rw [if_neg w] at y; exact h1 ⟨j, y⟩
        · exact h3 (Or.inr y)
      · by_cases w : j = i
        · rw [if_pos w]; exact O3.dj 0 a z
        · rw [if_neg w]
          exact fun q => E3.nf a (S2.al j a q) (uc a (hk j w a q)) (Or.inr z)
theorem c_io {j kk n : Nat} {x y : Str} {fn : Fn} {po py : Pos} {es : List Expr} {ms : MA} (i : Nat) (G : Def X.prog X.w X.K X.mg X.base j x n fn) (hr : Room kk X.A) (ha : PA X es (tA X.K p ms)) (hn : ∀ ρ y, ms ρ = some y → y.1.length + 1 = n) (hN : X.N[i]? = some y := by rfl)
    (hv : Vis X.env.scope y := by first | exact Or.inl rfl | exact Or.inr (Or.inl rfl) | exact Or.inr (Or.inr rfl)) (hj : j ≤ kk := by decide) (hg : Gl X x := by rfl)
    (hdb : (x == ("__debug__" : Str)) = false := by decide) (hdy : (y == ("__debug__" : Str)) = false := by decide) (hcy : (y == ("__classdict__" : Str)) = false := by decide)
    (he : starEach (.Name y py :: es) X.env = (false, eval (.Name y py) X.env) :: starEach es X.env := by rfl) (hpl : (backTo pos (starEach es X.env)).any (·.1) = false := by rfl) :
    PE X (.Call (.Name x po) (.Name y py :: es) [] pos) (tO X.K (oIO fn i ms)) := by
  obtain ⟨f, fd, ps, F, h1, h2, h3⟩ := G
  exact peW (pe_call F (hr.mono hj) hg h1 h2 h3 .nil pass0 (pa_cons (pe_var hN hv hdy hcy) ha he) hdb he hpl) fun _ _ _ h => tO_io hn h
end
end DL

end

section
set_option Elab.async false
set_option linter.all false
set_option maxRecDepth 100000
set_option maxHeartbeats 2000000
namespace DL
open PySem L2

/-! ### operators on data -/
section
variable {X : Cx} {K : PySem.W.Frag}
theorem scalV {B H : Hp} {d : D} {v : V} (h : scal d = true) (k : Sh K B H d v) : Dat K B d v := by
  cases d with
  | nd _ _ => cases h
  | _ => exact k
def fI (c : Int → Int → Bool) (g : Int → Int → D) : D → D → Option D
  | .int i, .int j => if c i j = true then some (g i j) else none
  | _, _ => none
theorem opd_I {C : Int → Int → Prop} {g : Int → Int → V} {c : Int → Int → Bool} {g' : Int → Int → D} (hc : ∀ i j, c i j = true → C i j) (hg : ∀ B i j, Dat K B (g' i j) (g i j)) : OpD K (rI C g) (fI c g') := fun B H x y d e r Q b sx sy ef k => by
  match d, e, sx, sy, ef with
  | .int i, .int j, sx, sy, ef =>
    have ef' : (if c i j = true then some (g' i j) else none) = some r := ef
    by_cases z : c i j = true
    · rw [if_pos z] at ef'
      cases ef'
      exact ⟨i, j, sx, sy, hc i j z, k _ B H (New.refl b) (hg B i j)⟩
    · rw [if_neg z] at ef'; cases ef'
  | .int _, .non, _, _, ef => cases ef
  | .int _, .bl _, _, _, ef => cases ef
  | .int _, .str _, _, _, ef => cases ef
  | .int _, .nd _ _, _, _, ef => cases ef
  | .non, _, _, _, ef => cases ef
  | .bl _, _, _, _, ef => cases ef
  | .str _, _, _, _, ef => cases ef
  | .nd _ _, _, _, _, ef => cases ef
def tt2 : Int → Int → Bool := fun _ _ => true
theorem opd_I0 {g : Int → Int → V} {g' : Int → Int → D} (hg : ∀ B i j, Dat K B (g' i j) (g i j)) : OpD K (rI0 g) (fI tt2 g') := fun B H x y d e r Q b sx sy ef k => by
  obtain ⟨i, j, h1, h2, _, h3⟩ := opd_I (C := fun _ _ => True) (g := g) (fun _ _ _ => trivial) hg B H x y d e r Q b sx sy ef k
  exact ⟨i, j, h1, h2, h3⟩
/-! strs -/
def fSS (f : Str → Str → Option D) : D → D → Option D
  | .str i, .str j => f i j
  | _, _ => none
theorem shS {B H : Hp} {f : Str → Str → Option D} {d e r : D} {x y : V} (sx : Sh K B H d x) (sy : Sh K B H e y) (ef : fSS f d e = some r) : ∃ i j, x = .str i ∧ y = .str j ∧ f i j = some r := by
  match d, e, sx, sy, ef with
  | .str i, .str j, sx, sy, ef => exact ⟨i, j, sx, sy, ef⟩
  | .str _, .non, _, _, ef => cases ef
  | .str _, .bl _, _, _, ef => cases ef
  | .str _, .int _, _, _, ef => cases ef
  | .str _, .nd _ _, _, _, ef => cases ef
  | .non, _, _, _, ef => cases ef
  | .bl _, _, _, _, ef => cases ef
  | .int _, _, _, _, ef => cases ef
  | .nd _ _, _, _, _, ef => cases ef
/-! two nodes -/
def fNN (f : DK → List D → DK → List D → Option D) : D → D → Option D
  | .nd k ds, .nd l es => f k ds l es
  | _, _ => none
theorem shN {B H : Hp} (b : Ex B H) {f : DK → List D → DK → List D → Option D} {d e r : D} {x y : V} (sx : Sh K B H d x) (sy : Sh K B H e y) (ef : fNN f d e = some r) :
    ∃ k ds l es a vs b ws, x = .ref a ∧ y = .ref b ∧ DatN K H k a vs ∧ DatL K B ds vs ∧ DatN K H l b ws ∧ DatL K B es ws ∧ f k ds l es = some r := by
  match d, e, sx, sy, ef with
  | .nd k ds, .nd l es, sx, sy, ef =>
    obtain ⟨a, vs, h1, h2, h3⟩ := sx.nd b
    obtain ⟨c, ws, g1, g2, g3⟩ := sy.nd b
    exact ⟨k, ds, l, es, a, vs, c, ws, h1, g1, h2, h3, g2, g3, ef⟩
  | .nd _ _, .non, _, _, ef => cases ef
  | .nd _ _, .bl _, _, _, ef => cases ef
  | .nd _ _, .int _, _, _, ef => cases ef
  | .nd _ _, .str _, _, _, ef => cases ef
  | .non, _, _, _, ef => cases ef
  | .bl _, _, _, _, ef => cases ef
  | .int _, _, _, _, ef => cases ef
  | .str _, _, _, _, ef => cases ef
theorem sz {n : Nat} (h : decide (n ≤ 100000) = true) : n ≤ sizeLine := Nat.le_trans (of_decide_eq_true h) (by decide)
/-! + -/
def fCatS : D → D → Option D := fSS fun i j => if decide (i.length + j.length ≤ 100000) = true then some (.str (i ++ j)) else none
def fCatL : D → D → Option D := fNN fun k ds l es => if k = .lst ∧ l = .lst ∧ decide (ds.length + es.length ≤ 100000) = true then some (.nd .lst (ds ++ es)) else none
def fCatT : D → D → Option D := fNN fun k ds l es => if k = .tup ∧ l = .tup ∧ decide (ds.length + es.length ≤ 100000) = true then some (.nd .tup (ds ++ es)) else none
theorem opd_catS : OpD K (fun x y H Q => ∃ i j, x = .str i ∧ y = .str j ∧ i.length + j.length ≤ sizeLine ∧ Q (.str (i ++ j)) H) fCatS := fun B H x y d e r Q b sx sy ef k => by
  obtain ⟨i, j, rfl, rfl, ef⟩ := shS sx sy ef
  by_cases z : decide (i.length + j.length ≤ 100000) = true
  · rw [if_pos z] at ef
    cases ef
    exact ⟨i, j, rfl, rfl, sz z, k _ B H (New.refl b) rfl⟩
  · rw [if_neg z] at ef; cases ef
theorem opd_catL : OpD K rCat fCatL := fun B H x y d e r Q b sx sy ef k => by
  obtain ⟨kk, ds, l, es, p, vs, q, ws, rfl, rfl, h1, h2, g1, g2, ef⟩ := shN b sx sy ef
  by_cases z : kk = .lst ∧ l = .lst ∧ decide (ds.length + es.length ≤ 100000) = true
  · rw [if_pos z] at ef
    cases ef
    obtain ⟨rfl, rfl, z⟩ := z
    refine ⟨p, q, vs, ws, rfl, rfl, h1, g1, by rw [← h2.len, ← g2.len]; exact sz z, fun r hr => ?_⟩
    have n := New.lay (o := .lst (vs ++ ws)) b hr
    exact k _ _ _ n ⟨r, vs ++ ws, rfl, upd_same, (h2.mono n.bb).app (g2.mono n.bb)⟩
  · rw [if_neg z] at ef; cases ef
theorem opd_catT : OpD K (rCatA K) fCatT := fun B H x y d e r Q b sx sy ef k => by
  match d, e, sx, sy, ef with
  | .nd .tup ds, .nd .tup es, ⟨p, vs, h0, h1, h2⟩, ⟨q, ws, g0, g1, g2⟩, ef =>
    have ef' : (if DK.tup = .tup ∧ DK.tup = .tup ∧ decide (ds.length + es.length ≤ 100000) = true then some (D.nd .tup (ds ++ es)) else none) = some r := ef
    by_cases z : decide (ds.length + es.length ≤ 100000) = true
    · rw [if_pos ⟨rfl, rfl, z⟩] at ef'
      cases ef'
      subst h0 g0
      refine ⟨p, q, vs, ws, rfl, rfl, b.st h1, b.st g1, by rw [← h2.len, ← g2.len]; exact sz z, fun e => ?_, fun e1 e2 => ?_, fun e1 e2 t ht => ?_⟩
      · subst e
        have : ds = [] := List.length_eq_zero_iff.mp (h2.len.trans rfl)
        subst this
        exact k _ B H (New.refl b) ⟨q, ws, rfl, g1, g2⟩
      · subst e2
        have : es = [] := List.length_eq_zero_iff.mp (g2.len.trans rfl)
        subst this
        rw [List.append_nil] at k
        exact k _ B H (New.refl b) ⟨p, vs, rfl, h1, h2⟩
      · have n := New.lay (o := .tup (vs ++ ws)) b ht
        exact k _ _ _ n ⟨t, vs ++ ws, rfl, SqT.of upd_same, (h2.mono n.bb).app (g2.mono n.bb)⟩
    · rw [if_neg (fun y => z y.2.2)] at ef'; cases ef'
  | .nd .tup _, .nd .lst _, _, _, ef => simp [fCatT, fNN] at ef
  | .nd .tup _, .nd .ll _, _, _, ef => simp [fCatT, fNN] at ef
  | .nd .tup _, .nd (.dic _) _, _, _, ef => simp [fCatT, fNN] at ef
  | .nd .tup _, .nd (.exc _ _) _, _, _, ef => simp [fCatT, fNN] at ef
  | .nd .tup _, .nd (.ins _ _) _, _, _, ef => simp [fCatT, fNN] at ef
  | .nd .lst _, .nd _ _, _, _, ef => simp [fCatT, fNN] at ef
  | .nd .ll _, .nd _ _, _, _, ef => simp [fCatT, fNN] at ef
  | .nd (.dic _) _, .nd _ _, _, _, ef => simp [fCatT, fNN] at ef
  | .nd (.exc _ _) _, .nd _ _, _, _, ef => simp [fCatT, fNN] at ef
  | .nd (.ins _ _) _, .nd _ _, _, _, ef => simp [fCatT, fNN] at ef
  | .nd _ _, .non, _, _, ef => simp [fCatT, fNN] at ef
  | .nd _ _, .bl _, _, _, ef => simp [fCatT, fNN] at ef
  | .nd _ _, .int _, _, _, ef => simp [fCatT, fNN] at ef
  | .nd _ _, .str _, _, _, ef => simp [fCatT, fNN] at ef
  | .non, _, _, _, ef => simp [fCatT, fNN] at ef
  | .bl _, _, _, _, ef => simp [fCatT, fNN] at ef
  | .int _, _, _, _, ef => simp [fCatT, fNN] at ef
  | .str _, _, _, _, ef => simp [fCatT, fNN] at ef
/-! the operators as they stand -/
theorem OpR.mk {f : Value → Value → Sem Value} {r : R2} {g : D → D → Option D} (h : OpR X f r) (k : OpD X.K r g) : OpR X f r ∧ OpD X.K r g := ⟨h, k⟩
def fAddI : D → D → Option D := fI tt2 fun i j => .int (i + j)
def fAdd : D → D → Option D := fun d e => (fAddI d e).or ((fCatS d e).or ((fCatL d e).or (fCatT d e)))
theorem p_add : ∃ r, OpR X (binaryOp .Add) r ∧ OpD X.K r fAdd := ⟨_, OpR.or op_add (OpR.or op_add_str (OpR.or op_cat op_catA)), OpD.or (opd_I0 fun _ _ _ => rfl) (OpD.or opd_catS (OpD.or opd_catL opd_catT))⟩
def fSub : D → D → Option D := fI tt2 fun i j => .int (i - j)
theorem p_sub : ∃ r, OpR X (binaryOp .Sub) r ∧ OpD X.K r fSub := ⟨_, op_sub, opd_I0 fun _ _ _ => rfl⟩
def cMul (i j : Int) : Bool := (decide (-(2 ^ 64) < i) && decide (i < 2 ^ 64)) || (decide (-(2 ^ 64) < j) && decide (j < 2 ^ 64))
def fMulI : D → D → Option D := fI cMul fun i j => .int (i * j)
def fRep : D → D → Option D
  | .nd .lst ds, .int k => if decide (-(2 ^ 63) ≤ k ∧ k < 2 ^ 63 ∧ ds.length * k.toNat ≤ 100000) = true then some (.nd .lst (List.replicate k.toNat ds).flatten) else none
  | _, _ => none
theorem DatL.rep {B : Hp} {ds : List D} {vs : List V} (h : DatL K B ds vs) : ∀ n, DatL K B (List.replicate n ds).flatten (List.replicate n vs).flatten
  | 0 => rfl
  | n + 1 => by rw [List.replicate_succ, List.replicate_succ, List.flatten_cons, List.flatten_cons]; exact h.app (DatL.rep h n)
theorem opd_rep : OpD K rRep fRep := fun B H x y d e r Q b sx sy ef k => by
  unfold fRep at ef
  split at ef
  · rename_i ds n
    by_cases z : decide (-(2 ^ 63) ≤ n ∧ n < 2 ^ 63 ∧ ds.length * n.toNat ≤ 100000) = true
    · rw [if_pos z] at ef
      cases ef
      obtain ⟨z1, z2, z3⟩ := of_decide_eq_true z
      obtain ⟨a, vs, rfl, h2, h3⟩ := sx.nd b
      refine ⟨a, n, vs, rfl, sy, h2, z1, z2, by rw [← h3.len]; exact Nat.le_trans z3 (by decide), fun p hp => ?_⟩
      have nw := New.lay (o := .lst (List.replicate n.toNat vs).flatten) b hp
      exact k _ _ _ nw ⟨p, _, rfl, upd_same, (h3.mono nw.bb).rep _⟩
    · rw [if_neg z] at ef; cases ef
  · cases ef
theorem cMul_ok {i j : Int} (h : cMul i j = true) : CMul i j := by
  unfold cMul at h
  simp only [Bool.or_eq_true, Bool.and_eq_true, decide_eq_true_eq] at h
  exact h
def fMul : D → D → Option D := fun d e => (fMulI d e).or (fRep d e)
theorem p_mul : ∃ r, OpR X (binaryOp .Mult) r ∧ OpD X.K r fMul := ⟨_, OpR.or op_mul op_rep, OpD.or (opd_I (fun _ _ h => cMul_ok h) fun _ _ _ => rfl) opd_rep⟩
def cDiv (_ j : Int) : Bool := decide (j ≠ 0) && decide (j.natAbs < 1073741824)
def fDiv : D → D → Option D := fI cDiv fun i j => .int (i.fdiv j)
theorem p_div : ∃ r, OpR X (binaryOp .FloorDiv) r ∧ OpD X.K r fDiv := ⟨_, op_fdivN, opd_I (fun i j h => by unfold cDiv at h; simpa [CDivN] using h) fun _ _ _ => rfl⟩
def cMod (_ j : Int) : Bool := decide (j ≠ 0)
def fMod : D → D → Option D := fI cMod fun i j => .int (i.fmod j)
theorem p_mod : ∃ r, OpR X (binaryOp .Mod) r ∧ OpD X.K r fMod := ⟨_, op_modN, opd_I (fun i j h => of_decide_eq_true h) fun _ _ _ => rfl⟩
def cPow (i j : Int) : Bool := decide (0 ≤ j) && (decide (j ≤ 1000000) && decide (i.natAbs < 2 ^ 64))
def fPow : D → D → Option D := fI cPow fun i j => .int (i ^ j.toNat)
theorem p_pow : ∃ r, OpR X (binaryOp .Pow) r ∧ OpD X.K r fPow := ⟨_, op_pow, opd_I (fun i j h => by unfold cPow at h; simpa [CPow] using h) fun _ _ _ => rfl⟩
/-! ### order -/
def intsD : List D → Option (List Int)
  | [] => some []
  | .int i :: ds => (intsD ds).map (i :: ·)
  | _ :: _ => none
theorem intsD_vs {B : Hp} : ∀ {ds : List D} {vs : List V} {ns : List Int}, DatL K B ds vs → intsD ds = some ns → vs = ns.map V.int
  | [], _, _, h, e => by cases (show some [] = some _ from e); exact h
  | .int i :: ds, _, _, ⟨v, r, h1, h2, h3⟩, e => by
    have e' : (intsD ds).map (i :: ·) = some _ := e
    cases q : intsD ds with
    | none => rw [q] at e'; cases e'
    | some ns =>
      rw [q] at e'
      cases e'
      rw [h1, show v = V.int i from h2, intsD_vs h3 q]
      rfl
  | .non :: _, _, _, _, e => by cases e
  | .bl _ :: _, _, _, _, e => by cases e
  | .str _ :: _, _, _, _, e => by cases e
  | .nd _ _ :: _, _, _, _, e => by cases e
def fLtT : D → D → Option D
  | .nd .tup ds, .nd .tup es => (intsD ds).bind fun ns => (intsD es).map fun ms => .bl (HT.lexLt ns ms)
  | _, _ => none
theorem opd_ltT : OpD K (rLtT K) fLtT := fun B H x y d e r Q b sx sy ef k => by
  unfold fLtT at ef
  split at ef
  · rename_i ds es
    obtain ⟨ns, e1, ef⟩ := ob ef
    cases q : intsD es with
    | none => rw [q] at ef; cases ef
    | some ms =>
      rw [q] at ef
      cases ef
      obtain ⟨a, vs, rfl, h2, h3⟩ := sx
      obtain ⟨c, ws, rfl, g2, g3⟩ := sy
      have i1 := intsD_vs h3 e1
      have i2 := intsD_vs g3 q
      subst i1 i2
      exact ⟨a, c, ns, ms, rfl, rfl, b.st h2, b.st g2, k _ B H (New.refl b) rfl⟩
  · cases ef
def fLtI : D → D → Option D := fI tt2 fun i j => .bl (decide (i < j))
def fLtS : D → D → Option D := fSS fun i j => some (.bl (decide (i.cps.toList < j.cps.toList)))
theorem opd_ltS : OpD K (fun x y H Q => ∃ i j, x = .str i ∧ y = .str j ∧ Q (.bl (decide (i.cps.toList < j.cps.toList))) H) fLtS := fun B H x y d e r Q b sx sy ef k => by
  obtain ⟨i, j, rfl, rfl, ef⟩ := shS sx sy ef
  cases ef
  exact ⟨i, j, rfl, rfl, k _ B H (New.refl b) rfl⟩
def fLt : D → D → Option D := fun d e => (fLtI d e).or ((fLtT d e).or (fLtS d e))
theorem p_lt (hu : X.A.units < cLine) : ∃ r, OpR X (compareOp .Lt) r ∧ OpD X.K r fLt := ⟨_, OpR.or op_lt (OpR.or (op_ltT hu) op_lt_str), OpD.or (opd_I0 fun _ _ _ => rfl) (OpD.or opd_ltT opd_ltS)⟩
theorem lexAt_shift {e r : Nat → Bool} {z : Bool} : ∀ {k i : Nat}, Ob.lexAt e r z (i + 1) k = Ob.lexAt (fun j => e (j + 1)) (fun j => r (j + 1)) z i k
  | 0, _ => rfl
  | k + 1, i => by rw [Ob.lexAt_succ, Ob.lexAt_succ, lexAt_shift]
theorem lexAt_le : ∀ (ns ms : List Int), Ob.lexAt (fun j => decide (ns.getD j 0 = ms.getD j 0)) (fun j => decide (ns.getD j 0 ≤ ms.getD j 0)) (decide (ns.length ≤ ms.length)) 0 (min ns.length ms.length) = lexLeI ns ms
  | [], ms => by simp [Ob.lexAt_zero, lexLeI]
  | x :: xs, [] => by simp [Ob.lexAt_zero, lexLeI]
  | x :: xs, y :: ys => by
    rw [show min (x :: xs).length (y :: ys).length = min xs.length ys.length + 1 by simp only [List.length_cons]; omega, Ob.lexAt_succ, lexAt_shift]
    show (if decide (x = y) = true then _ else decide (x ≤ y)) = _
    have h : decide ((x :: xs).length ≤ (y :: ys).length) = decide (xs.length ≤ ys.length) := by simp
    rw [h]
    have := lexAt_le xs ys
    show (if decide (x = y) = true then Ob.lexAt (fun j => decide (xs.getD j 0 = ys.getD j 0)) (fun j => decide (xs.getD j 0 ≤ ys.getD j 0)) (decide (xs.length ≤ ys.length)) 0 (min xs.length ys.length) else decide (x ≤ y)) = if x = y then lexLeI xs ys else decide (x ≤ y)
    rw [this]
    by_cases e : x = y
    · simp [e]
    · simp [e]
def lexLeD : D → D → Option D
  | .nd .tup ds, .nd .tup es => (intsD ds).bind fun ns => (intsD es).map fun ms => .bl (lexLeI ns ms)
  | _, _ => none
theorem opd_leT : OpD K (rLeT K) lexLeD := fun B H x y d e r Q b sx sy ef k => by
  unfold lexLeD at ef
  split at ef
  · rename_i ds es
    obtain ⟨ns, e1, ef⟩ := ob ef
    cases q : intsD es with
    | none => rw [q] at ef; cases ef
    | some ms =>
      rw [q] at ef
      cases ef
      obtain ⟨a, vs, rfl, h2, h3⟩ := sx
      obtain ⟨c, ws, rfl, g2, g3⟩ := sy
      have i1 := intsD_vs h3 e1
      have i2 := intsD_vs g3 q
      subst i1 i2
      exact ⟨a, c, ns, ms, rfl, rfl, b.st h2, b.st g2, (by rw [lexAt_le]; exact k _ B H (New.refl b) rfl)⟩
  · cases ef
def fLe : D → D → Option D := fun d e => (fI tt2 (fun i j => .bl (decide (i ≤ j))) d e).or (lexLeD d e)
theorem p_le (hu : X.A.units < cLine) : ∃ r, OpR X (compareOp .LtE) r ∧ OpD X.K r fLe := ⟨_, OpR.or op_le (op_leT hu), OpD.or (opd_I0 fun _ _ _ => rfl) opd_leT⟩
def fGt : D → D → Option D := fI tt2 fun i j => .bl (decide (j < i))
theorem p_gt : ∃ r, OpR X (compareOp .Gt) r ∧ OpD X.K r fGt := ⟨_, op_gt, opd_I0 fun _ _ _ => rfl⟩
def fGe : D → D → Option D := fI tt2 fun i j => .bl (decide (j ≤ i))
theorem p_ge : ∃ r, OpR X (compareOp .GtE) r ∧ OpD X.K r fGe := ⟨_, op_ge, opd_I0 fun _ _ _ => rfl⟩
end
end DL

end

section
set_option Elab.async false
set_option linter.all false
set_option maxRecDepth 100000
set_option maxHeartbeats 2000000
namespace DL
open PySem L2

/-! ### ==, is None, in, subscripts, slices, builtins -/
mutual
def toPy : D → Option PyData
  | .non => some .none
  | .bl b => some (.bool b)
  | .int i => some (.int i)
  | .str s => some (.str s)
  | .nd .tup ds => (toPys ds).map .tuple
  | .nd .lst ds => (toPys ds).map .list
  | .nd .ll ds => (toPys ds).map .list
  | .nd (.dic _) _ => none
  | .nd (.exc _ _) _ => none
  | .nd (.ins _ _) _ => none
def toPys : List D → Option (List PyData)
  | [] => some []
  | d :: ds => (toPy d).bind fun p => (toPys ds).map (p :: ·)
end
section
variable {X : Cx} {K : PySem.W.Frag} {H B : Hp}
mutual
theorem toPy_dp : ∀ {d : D} {v : V} {p : PyData}, Dat K H d v → toPy d = some p → Dp K H v p
  | .non, _, _, h, e => by cases (show _ = V.non from h); cases (show some _ = some _ from e); exact .non
  | .bl b, _, _, h, e => by cases (show _ = V.bl b from h); cases (show some _ = some _ from e); exact .bl b
  | .int i, _, _, h, e => by cases (show _ = V.int i from h); cases (show some _ = some _ from e); exact .int i
  | .str s, _, _, h, e => by cases (show _ = V.str s from h); cases (show some _ = some _ from e); exact .str s
  | .nd .tup ds, _, _, ⟨a, vs, h1, h2, h3⟩, e => by
    subst h1
    have e' : (toPys ds).map PyData.tuple = some _ := e
    cases q : toPys ds with
    | none => rw [q] at e'; cases e'
    | some ps => rw [q] at e'; cases e'; exact .tup h2 (toPys_dp h3 q)
  | .nd .lst ds, _, _, ⟨a, vs, h1, h2, h3⟩, e => by
    subst h1
    have e' : (toPys ds).map PyData.list = some _ := e
    cases q : toPys ds with
    | none => rw [q] at e'; cases e'
    | some ps => rw [q] at e'; cases e'; exact .lst (SqL.of h2) (toPys_dp h3 q)
  | .nd .ll ds, _, _, ⟨a, vs, h1, h2, h3⟩, e => by
    subst h1
    have e' : (toPys ds).map PyData.list = some _ := e
    cases q : toPys ds with
    | none => rw [q] at e'; cases e'
    | some ps => rw [q] at e'; cases e'; exact .lst h2 (toPys_dp h3 q)
  | .nd (.dic _) _, _, _, _, e => by cases (show none = some _ from e)
  | .nd (.exc _ _) _, _, _, _, e => by cases (show none = some _ from e)
  | .nd (.ins _ _) _, _, _, _, e => by cases (show none = some _ from e)
theorem toPys_dp : ∀ {ds : List D} {vs : List V} {ps : List PyData}, DatL K H ds vs → toPys ds = some ps → DpAll K H vs ps
  | [], _, _, h, e => by cases (show _ = [] from h); cases (show some [] = some _ from e); exact .nil
  | d :: ds, _, _, ⟨v, r, h1, h2, h3⟩, e => by
    subst h1
    obtain ⟨p, e1, e⟩ := ob (show (toPy d).bind _ = some _ from e)
    cases q : toPys ds with
    | none => rw [q] at e; cases e
    | some ps => rw [q] at e; cases e; exact .cons (toPy_dp h2 e1) (toPys_dp h3 q)
end
def eqD (d e : D) : Option Bool := (toPy d).bind fun x => (toPy e).bind fun y => if (SeqAt.shaped x && SeqAt.shaped y) = true then some (PyData.eqv x y) else none
def fEq : D → D → Option D := fun d e => (eqD d e).map .bl
def fNe : D → D → Option D := fun d e => (eqD d e).map fun b => .bl (!b)
theorem eqD_sound {d e : D} {x y : V} {k : Bool} (b : Ex B H) (sx : Sh K B H d x) (sy : Sh K B H e y) (ef : eqD d e = some k) : ∃ p q, Dp K H x p ∧ Dp K H y q ∧ SeqAt.shaped p = true ∧ SeqAt.shaped q = true ∧ PyData.eqv p q = k := by
  obtain ⟨p, e1, ef⟩ := ob ef
  obtain ⟨q, e2, ef⟩ := ob ef
  by_cases z : (SeqAt.shaped p && SeqAt.shaped q) = true
  · rw [if_pos z] at ef
    cases ef
    exact ⟨p, q, toPy_dp (sx.dat b) e1, toPy_dp (sy.dat b) e2, (and_both z).1, (and_both z).2, rfl⟩
  · rw [if_neg z] at ef; cases ef
theorem opd_eq : OpD K (rEqD K) fEq := fun B H x y d e r Q b sx sy ef k => by
  have ef' : (eqD d e).map D.bl = some r := ef
  cases q : eqD d e with
  | none => rw [q] at ef'; cases ef'
  | some c =>
    rw [q] at ef'
    cases ef'
    obtain ⟨p, p', h1, h2, h3, h4, h5⟩ := eqD_sound b sx sy q
    exact ⟨p, p', h1, h2, h3, h4, by rw [h5]; exact k _ B H (New.refl b) rfl⟩
theorem opd_ne : OpD K (rNeD K) fNe := fun B H x y d e r Q b sx sy ef k => by
  have ef' : (eqD d e).map (fun b => D.bl (!b)) = some r := ef
  cases q : eqD d e with
  | none => rw [q] at ef'; cases ef'
  | some c =>
    rw [q] at ef'
    cases ef'
    obtain ⟨p, p', h1, h2, h3, h4, h5⟩ := eqD_sound b sx sy q
    exact ⟨p, p', h1, h2, h3, h4, by rw [h5]; exact k _ B H (New.refl b) rfl⟩
theorem p_eq (hu : X.A.units + 64 < cLine) : ∃ r, OpR X (compareOp .Eq) r ∧ OpD X.K r fEq := ⟨_, op_eqD hu, opd_eq⟩
theorem p_ne (hu : X.A.units + 64 < cLine) : ∃ r, OpR X (compareOp .NotEq) r ∧ OpD X.K r fNe := ⟨_, op_neD hu, opd_ne⟩
def isN : D → Bool
  | .non => true
  | _ => false
def fIs : D → D → Option D
  | d, .non => some (.bl (isN d))
  | _, _ => none
def fIsNot : D → D → Option D
  | d, .non => some (.bl (!isN d))
  | _, _ => none
theorem isN_sh {d : D} {x : V} (b : Ex B H) (h : Sh K B H d x) : decide (x = .non) = isN d := by
  cases d with
  | non => rw [show x = .non from h]; rfl
  | bl k => rw [show x = .bl k from h]; rfl
  | int k => rw [show x = .int k from h]; rfl
  | str k => rw [show x = .str k from h]; rfl
  | nd k ds => obtain ⟨a, vs, rfl, _⟩ := h.nd b; rfl
theorem p_is : ∃ r, OpR X (compareOp .Is) r ∧ OpD X.K r fIs := ⟨_, op_isN, fun B H x y d e r Q b sx sy ef k => by
  unfold fIs at ef
  split at ef
  · cases ef
    exact ⟨sy, by rw [isN_sh b sx]; exact k _ B H (New.refl b) rfl⟩
  · cases ef⟩
theorem p_isnot : ∃ r, OpR X (compareOp .IsNot) r ∧ OpD X.K r fIsNot := ⟨_, op_notN, fun B H x y d e r Q b sx sy ef k => by
  unfold fIsNot at ef
  split at ef
  · cases ef
    exact ⟨sy, by rw [isN_sh b sx]; exact k _ B H (New.refl b) rfl⟩
  · cases ef⟩
/-! in -/
def D.v : D → V
  | .bl b => .bl b
  | .int i => .int i
  | .str s => .str s
  | _ => .non
theorem D.v_of {d : D} {x : V} (s : scal d = true) (h : Dat K B d x) : x = d.v := by
  cases d with
  | nd _ _ => cases s
  | _ => exact h
theorem DatL.vs_of : ∀ {ds : List D} {vs : List V}, ds.all scal = true → DatL K B ds vs → vs = ds.map D.v
  | [], _, _, h => h
  | d :: ds, _, s, ⟨v, r, h1, h2, h3⟩ => by
    rw [List.all_cons] at s
    obtain ⟨s1, s2⟩ := and_both s
    rw [h1, D.v_of s1 h2, h3.vs_of s2, List.map_cons]
theorem flat_v : ∀ {d : D}, scal d = true → flatV d.v = true
  | .non, _ => rfl
  | .bl _, _ => rfl
  | .int _, _ => rfl
  | .str _, _ => rfl
  | .nd _ _, h => by cases h
def DK.isQ : DK → Bool
  | .dic _ => false
  | .exc _ _ => false
  | .ins _ _ => false
  | _ => true
theorem DatN.q {k : DK} (hk : k.isQ = true) {a : Addr} {vs : List V} (h : DatN K H k a vs) : SqL K H a vs ∨ SqT K H a vs := by
  cases k with
  | tup => exact Or.inr h
  | lst => exact Or.inl (SqL.of h)
  | ll => exact Or.inl h
  | dic _ => cases hk
  | exc _ _ => cases hk
  | ins _ _ => cases hk
def inD (d : D) (ds : List D) : Bool := inV d.v (ds.map D.v)
def fInQ (neg : Bool) : D → D → Option D
  | d, .nd k ds => if (scal d && (k.isQ && ds.all scal)) = true then some (.bl (if neg then !inD d ds else inD d ds)) else none
  | _, _ => none
theorem opd_inQ {neg : Bool} : OpD K (rIn K neg) (fInQ neg) := fun B H x y d e r Q b sx sy ef k => by
  unfold fInQ at ef
  split at ef
  · rename_i kk ds
    by_cases z : (scal d && (kk.isQ && ds.all scal)) = true
    · rw [if_pos z] at ef
      cases ef
      obtain ⟨z1, z2, z3⟩ := and3 z
      obtain ⟨a, vs, rfl, h2, h3⟩ := sy.nd b
      have e1 := D.v_of z1 (scalV z1 sx)
      have e2 := h3.vs_of z3
      subst e1 e2
      refine ⟨a, _, rfl, h2.q z2, flat_v z1, ?_, k _ B H (New.refl b) rfl⟩
      rw [List.all_map]
      exact List.all_eq_true.mpr fun w hw => flat_v (List.all_eq_true.mp z3 w hw)
    · rw [if_neg z] at ef; cases ef
  · cases ef
def fInS (neg : Bool) : D → D → Option D := fSS fun i j => let k := !(Builtin.Str.occurrences j i 0 j.length 1).isEmpty; some (.bl (if neg then !k else k))
theorem opd_inS : OpD K (fun x y H Q => ∃ i j, x = .str i ∧ y = .str j ∧ Q (.bl (!(Builtin.Str.occurrences j i 0 j.length 1).isEmpty)) H) (fInS false) := fun B H x y d e r Q b sx sy ef k => by
  obtain ⟨i, j, rfl, rfl, ef⟩ := shS sx sy ef
  cases ef
  exact ⟨i, j, rfl, rfl, k _ B H (New.refl b) rfl⟩
def fIn : D → D → Option D := fun d e => (fInQ false d e).or (fInS false d e)
theorem p_in : ∃ r, OpR X (compareOp .In) r ∧ OpD X.K r fIn := ⟨_, OpR.or op_in_seq op_in_str, OpD.or opd_inQ opd_inS⟩
def fNotIn : D → D → Option D := fInQ true
theorem p_notin : ∃ r, OpR X (compareOp .NotIn) r ∧ OpD X.K r fNotIn := ⟨_, op_notIn_seq, opd_inQ⟩
/-! subscripts -/
def fIxQ : D → D → Option D
  | .nd k ds, .int i => if k.isQ = true then atI ds i else none
  | _, _ => none
theorem atI_dat {ds : List D} {vs : List V} {i : Int} {d : D} (h : DatL K B ds vs) (e : atI ds i = some d) : ∃ v, atI vs i = some v ∧ Dat K B d v := by
  unfold atI at e ⊢
  obtain ⟨j, e1, e2⟩ := ob e
  obtain ⟨v, g1, g2⟩ := h.get e2
  exact ⟨v, by rw [← h.len, e1]; exact g1, g2⟩
def fIxS : D → D → Option D
  | .str z, .int i => if decide (z.length ≤ 100000) = true then (atI z.cps.toList i).map fun c => .str ⟨#[c]⟩ else none
  | _, _ => none
def fIx : D → D → Option D := fun d e => (fIxQ d e).or (fIxS d e)
theorem opd_ix : OpD K (rIx K) fIx := fun B H x y d e r Q b sx sy ef k => by
  have ef' : (fIxQ d e).or (fIxS d e) = some r := ef
  cases q : fIxQ d e with
  | some r' =>
    rw [q] at ef'
    cases ef'
    unfold fIxQ at q
    split at q
    · rename_i kk ds i
      by_cases z : kk.isQ = true
      · rw [if_pos z] at q
        obtain ⟨a, vs, rfl, h2, h3⟩ := sx.nd b
        obtain ⟨v, g1, g2⟩ := atI_dat h3 q
        rcases h2.q z with h2 | h2
        · exact Or.inl ⟨a, vs, i, v, rfl, sy, h2, g1, k _ B H (New.refl b) g2⟩
        · exact Or.inr (Or.inl ⟨a, vs, i, v, rfl, sy, h2, g1, k _ B H (New.refl b) g2⟩)
      · rw [if_neg z] at q; cases q
    · cases q
  | none =>
    rw [q] at ef'
    have ef'' : fIxS d e = some r := ef'
    unfold fIxS at ef''
    split at ef''
    · rename_i z i
      by_cases w : decide (z.length ≤ 100000) = true
      · rw [if_pos w] at ef''
        cases q2 : atI z.cps.toList i with
        | none => rw [q2] at ef''; cases ef''
        | some c =>
          rw [q2] at ef''
          cases ef''
          exact Or.inr (Or.inr ⟨z, i, c, sx, sy, sz w, q2, k _ B H (New.refl b) rfl⟩)
      · rw [if_neg w] at ef''; cases ef''
    · cases ef''
theorem p_ix : ∃ r, IxR X r ∧ OpD X.K r fIx := ⟨_, ix_seq, opd_ix⟩
/-! slices -/
def cutD (ds : List D) (lo hi : Option Int) : List D := (ds.drop (HT.sIx ds.length 0 lo)).take (HT.sIx ds.length ds.length hi - HT.sIx ds.length 0 lo)
theorem cutD_dat {ds : List D} {vs : List V} (h : DatL K B ds vs) (lo hi : Option Int) : DatL K B (cutD ds lo hi) (cutV vs lo hi) := by
  unfold cutD cutV
  rw [h.len]
  exact (h.drop _).take _
def fSl : D → Option Int → Option Int → Option D
  | .nd .tup ds, lo, hi => some (.nd .tup (cutD ds lo hi))
  | .nd .lst ds, lo, hi => some (.nd .lst (cutD ds lo hi))
  | .nd .ll ds, lo, hi => some (.nd .lst (cutD ds lo hi))
  | .str z, lo, hi => if decide (z.length ≤ 100000) = true then some (.str (cutS z lo hi)) else none
  | _, _, _ => none
theorem sIx_max (n : Nat) (hi : Option Int) : HT.sIx n n hi ≤ n := HT.sIx_le _ _ (Nat.le_refl _) _
theorem SlR.or {r r' : V → Option Int → Option Int → Hp → VK → Prop} (h : SlR X r) (h' : SlR X r') : SlR X (fun x lo hi H Q => r x lo hi H Q ∨ r' x lo hi H Q) := by
  intro pins s σ H x v vl vu lo hi sl Q I rx hs pl pu q
  rcases q with q | q
  · exact h pins s σ H x v vl vu lo hi sl Q I rx hs pl pu q
  · exact h' pins s σ H x v vl vu lo hi sl Q I rx hs pl pu q
theorem p_sl : ∃ r, SlR X r ∧ OpS X.K r fSl := ⟨_, SlR.or sl_list (SlR.or sl_tupA sl_str), fun B H x d g lo hi Q b sx ef k => by
  unfold fSl at ef
  split at ef
  · cases ef
    obtain ⟨a, vs, rfl, h2, h3⟩ := sx
    rename_i ds
    refine Or.inr (Or.inl ⟨a, vs, rfl, b.st h2, fun e => ?_, fun _ p hp => ?_⟩)
    · refine k _ B H (New.refl b) ⟨a, vs, rfl, h2, ?_⟩
      have e2 : cutV vs lo hi = vs := by
        unfold cutV
        rw [e.1, e.2]
        simp
      have := cutD_dat h3 lo hi
      rwa [e2] at this
    · have n := New.lay (o := .tup (cutV vs lo hi)) b hp
      exact k _ _ _ n ⟨p, _, rfl, SqT.of upd_same, (cutD_dat h3 lo hi).mono n.bb⟩
  · cases ef
    obtain ⟨a, vs, rfl, h2, h3⟩ := sx
    refine Or.inl ⟨a, vs, rfl, SqL.of h2, fun p hp => ?_⟩
    have n := New.lay (o := .lst (cutV vs lo hi)) b hp
    exact k _ _ _ n ⟨p, _, rfl, upd_same, (cutD_dat h3 lo hi).mono n.bb⟩
  · cases ef
    obtain ⟨a, vs, rfl, h2, h3⟩ := sx
    refine Or.inl ⟨a, vs, rfl, h2, fun p hp => ?_⟩
    have n := New.lay (o := .lst (cutV vs lo hi)) b hp
    exact k _ _ _ n ⟨p, _, rfl, upd_same, (cutD_dat h3 lo hi).mono n.bb⟩
  · rename_i z
    by_cases w : decide (z.length ≤ 100000) = true
    · rw [if_pos w] at ef
      cases ef
      exact Or.inr (Or.inr ⟨z, sx, sz w, k _ B H (New.refl b) rfl⟩)
    · rw [if_neg w] at ef; cases ef
  · cases ef⟩
/-! ### builtins -/
theorem ShL.one {ds : List D} {vs : List V} {d : D} (h : ShL K B H ds vs) (e : ds = [d]) : ∃ v, vs = [v] ∧ Sh K B H d v := by
  subst e
  obtain ⟨v, r, h1, h2, h3⟩ := h
  rw [show r = [] from h3] at h1
  exact ⟨v, h1, h2⟩
theorem ShL.two {ds : List D} {vs : List V} {d e : D} (h : ShL K B H ds vs) (q : ds = [d, e]) : ∃ v w, vs = [v, w] ∧ Sh K B H d v ∧ Sh K B H e w := by
  subst q
  obtain ⟨v, r, h1, h2, w, r2, h3, h4, h5⟩ := h
  rw [show r2 = [] from h5] at h3
  rw [h3] at h1
  exact ⟨v, w, h1, h2, h4⟩
def f1 (f : D → Option D) : List D → Option D
  | [d] => f d
  | _ => none
theorem f1_of {f : D → Option D} {ds : List D} {r : D} (e : f1 f ds = some r) : ∃ d, ds = [d] ∧ f d = some r := by
  match ds, e with
  | [d], e => exact ⟨d, rfl, e⟩
  | [], e => cases e
  | _ :: _ :: _, e => cases e
def fLen : D → Option D
  | .str s => if decide (s.length ≤ 100000) = true then some (.int s.length) else none
  | .nd k ds => if k.isQ = true then some (.int ds.length) else none
  | _ => none
theorem opa_len : OpA K (fun xs H Q => ∃ x n, xs = [x] ∧ LenV K x H n ∧ Q (.int n) H) (f1 fLen) := fun B H vs ds g Q b sh ef k => by
  obtain ⟨d, e1, e2⟩ := f1_of ef
  obtain ⟨v, rfl, hv⟩ := sh.one e1
  unfold fLen at e2
  split at e2
  · rename_i s
    by_cases w : decide (s.length ≤ 100000) = true
    · rw [if_pos w] at e2
      cases e2
      cases (show v = .str s from hv)
      exact ⟨_, s.length, rfl, ⟨sz w, rfl⟩, k _ B H (New.refl b) rfl⟩
    · rw [if_neg w] at e2; cases e2
  · rename_i kk es
    by_cases w : kk.isQ = true
    · rw [if_pos w] at e2
      cases e2
      obtain ⟨a, vs, rfl, h2, h3⟩ := hv.nd b
      refine ⟨_, vs.length, rfl, (h2.q w).elim (fun h => Or.inl ⟨vs, h, rfl⟩) (fun h => Or.inr ⟨vs, h, rfl⟩), ?_⟩
      rw [← h3.len]
      exact k _ B H (New.refl b) rfl
    · rw [if_neg w] at e2; cases e2
  · cases e2
theorem p_len : ∃ r, CallR X (.builtin "len") r ∧ OpA X.K r (f1 fLen) := ⟨_, call_len, opa_len⟩
def fAbs : D → Option D
  | .int i => some (.int (if i < 0 then -i else i))
  | _ => none
theorem p_abs : ∃ r, CallR X (.builtin "abs") r ∧ OpA X.K r (f1 fAbs) := ⟨_, call_abs, fun B H vs ds g Q b sh ef k => by
  obtain ⟨d, e1, e2⟩ := f1_of ef
  obtain ⟨v, rfl, hv⟩ := sh.one e1
  unfold fAbs at e2
  split at e2
  · rename_i i
    cases e2
    cases (show v = .int i from hv)
    exact ⟨i, rfl, k _ B H (New.refl b) rfl⟩
  · cases e2⟩
def fInt : D → Option D
  | .int i => some (.int i)
  | .bl k => some (.int (if k then 1 else 0))
  | _ => none
theorem p_int : ∃ r, CallR X (.type "int") r ∧ OpA X.K r (f1 fInt) := ⟨_, call_int1, fun B H vs ds g Q b sh ef k => by
  obtain ⟨d, e1, e2⟩ := f1_of ef
  obtain ⟨v, rfl, hv⟩ := sh.one e1
  unfold fInt at e2
  split at e2
  · rename_i i
    cases e2
    cases (show v = .int i from hv)
    exact Or.inl ⟨i, rfl, k _ B H (New.refl b) rfl⟩
  · rename_i i
    cases e2
    cases (show v = .bl i from hv)
    exact Or.inr ⟨i, rfl, k _ B H (New.refl b) rfl⟩
  · cases e2⟩
def bls : List D → Option (List Bool)
  | [] => some []
  | .bl i :: ds => (bls ds).map (i :: ·)
  | _ :: _ => none
theorem bls_vs : ∀ {ds : List D} {vs : List V} {ns : List Bool}, DatL K B ds vs → bls ds = some ns → vs = ns.map V.bl
  | [], _, _, h, e => by cases (show some [] = some _ from e); exact h
  | .bl i :: ds, _, _, ⟨v, r, h1, h2, h3⟩, e => by
    have e' : (bls ds).map (i :: ·) = some _ := e
    cases q : bls ds with
    | none => rw [q] at e'; cases e'
    | some ns =>
      rw [q] at e'
      cases e'
      rw [h1, show v = V.bl i from h2, bls_vs h3 q]
      rfl
  | .non :: _, _, _, _, e => by cases e
  | .int _ :: _, _, _, _, e => by cases e
  | .str _ :: _, _, _, _, e => by cases e
  | .nd _ _ :: _, _, _, _, e => by cases e
def fAll : D → Option D
  | .nd k ds => if k.isL = true then (bls ds).map fun bs => .bl (bs.all id) else none
  | _ => none
def fAny : D → Option D
  | .nd k ds => if k.isL = true then (bls ds).map fun bs => .bl (bs.any id) else none
  | _ => none
theorem p_all (hc : X.calm = true) : ∃ r, CallR X (.builtin "all") r ∧ OpA X.K r (f1 fAll) := ⟨_, cr_all hc, fun B H vs ds g Q b sh ef k => by
  obtain ⟨d, e1, e2⟩ := f1_of ef
  obtain ⟨v, rfl, hv⟩ := sh.one e1
  unfold fAll at e2
  split at e2
  · rename_i kk es
    by_cases w : kk.isL = true
    · rw [if_pos w] at e2
      cases q : bls es with
      | none => rw [q] at e2; cases e2
      | some bs =>
        rw [q] at e2
        cases e2
        obtain ⟨a, ws, rfl, h2, h3⟩ := hv.nd b
        have := bls_vs h3 q
        subst this
        exact ⟨a, bs, rfl, h2.sl w, k _ B H (New.refl b) rfl⟩
    · rw [if_neg w] at e2; cases e2
  · cases e2⟩
theorem p_any (hc : X.calm = true) : ∃ r, CallR X (.builtin "any") r ∧ OpA X.K r (f1 fAny) := ⟨_, cr_any hc, fun B H vs ds g Q b sh ef k => by
  obtain ⟨d, e1, e2⟩ := f1_of ef
  obtain ⟨v, rfl, hv⟩ := sh.one e1
  unfold fAny at e2
  split at e2
  · rename_i kk es
    by_cases w : kk.isL = true
    · rw [if_pos w] at e2
      cases q : bls es with
      | none => rw [q] at e2; cases e2
      | some bs =>
        rw [q] at e2
        cases e2
        obtain ⟨a, ws, rfl, h2, h3⟩ := hv.nd b
        have := bls_vs h3 q
        subst this
        exact ⟨a, bs, rfl, h2.sl w, k _ B H (New.refl b) rfl⟩
    · rw [if_neg w] at e2; cases e2
  · cases e2⟩
def fTuple : D → Option D
  | .nd k ds => if k.isQ = true then some (.nd .tup ds) else none
  | _ => none
theorem p_tuple : ∃ r, CallR X (.type "tuple") r ∧ OpA X.K r (f1 fTuple) := ⟨_, call_tuple_of, fun B H vs ds g Q b sh ef k => by
  obtain ⟨d, e1, e2⟩ := f1_of ef
  obtain ⟨v, rfl, hv⟩ := sh.one e1
  unfold fTuple at e2
  split at e2
  · rename_i kk es
    by_cases w : kk.isQ = true
    · rw [if_pos w] at e2
      cases e2
      by_cases t : kk = .tup
      · subst t
        obtain ⟨a, ws, rfl, h2, h3⟩ := hv
        exact ⟨a, ws, rfl, Or.inr ⟨b.st h2, k _ B H (New.refl b) ⟨a, ws, rfl, h2, h3⟩⟩⟩
      · obtain ⟨a, ws, rfl, h2, h3⟩ := hv.nd b
        have hl : kk.isL = true := by
          cases kk with
          | tup => exact absurd rfl t
          | lst => rfl
          | ll => rfl
          | dic _ => cases w
          | exc _ _ => cases w
          | ins _ _ => cases w
        exact ⟨a, ws, rfl, Or.inl ⟨h2.sl hl, fun l hp => by
          have n := New.lay (o := .tup ws) b hp
          exact k _ _ _ n ⟨l, ws, rfl, SqT.of upd_same, h3.mono n.bb⟩⟩⟩
    · rw [if_neg w] at e2; cases e2
  · cases e2⟩
def fList : D → Option D
  | .nd k ds => if k.isQ = true then some (.nd .lst ds) else none
  | _ => none
theorem p_list : ∃ r, CallR X (.type "list") r ∧ OpA X.K r (f1 fList) := ⟨_, call_list_of, fun B H vs ds g Q b sh ef k => by
  obtain ⟨d, e1, e2⟩ := f1_of ef
  obtain ⟨v, rfl, hv⟩ := sh.one e1
  unfold fList at e2
  split at e2
  · rename_i kk es
    by_cases w : kk.isQ = true
    · rw [if_pos w] at e2
      cases e2
      obtain ⟨a, ws, rfl, h2, h3⟩ := hv.nd b
      exact ⟨a, ws, rfl, h2.q w, fun l hp => by
        have n := New.lay (o := .lst ws) b hp
        exact k _ _ _ n ⟨l, ws, rfl, upd_same, h3.mono n.bb⟩⟩
    · rw [if_neg w] at e2; cases e2
  · cases e2⟩
end
end DL

end

section
set_option Elab.async false
set_option linter.all false
set_option maxRecDepth 100000
set_option maxHeartbeats 2000000
namespace DL
open PySem L2

/-! ### isinstance -/
def D.tg : D → Tg
  | .non => .non
  | .bl _ => .bl
  | .int _ => .int
  | .str _ => .str
  | .nd .tup _ => .tup
  | .nd .lst _ => .lst
  | .nd .ll _ => .lst
  | .nd (.dic _) _ => .dic
  | .nd (.exc _ _) _ => .oth
  | .nd (.ins _ _) _ => .oth
def isi (a t : Tg) : Bool := a == t || (a == .bl && t == .int)
theorem isi_kit (a t : Tg) (h : t ≠ .non) (ha : a ≠ .oth) (ht : t ≠ .oth) : kitB a.nm t.nm = some (isi a t) := by
  cases t with
  | non => exact absurd rfl h
  | oth => exact absurd rfl ht
  | bl => cases a <;> first | exact absurd rfl ha | decide +kernel
  | int => cases a <;> first | exact absurd rfl ha | decide +kernel
  | str => cases a <;> first | exact absurd rfl ha | decide +kernel
  | tup => cases a <;> first | exact absurd rfl ha | decide +kernel
  | lst => cases a <;> first | exact absurd rfl ha | decide +kernel
  | dic => cases a <;> first | exact absurd rfl ha | decide +kernel
theorem isi_oth (t : Tg) (h : t ≠ .oth) : isi .oth t = false := by cases t <;> first | exact absurd rfl h | rfl
/-- a value's type, as isinstance asks for it -/
def TyD (X : Cx) (H : Hp) (x : V) (t : Value) : Prop := ∀ (pins : List (Addr × Obj)) (σ : L2.St) (s : Shared) (u : Value), L2.Inv X pins σ H s → RelV x u → ∃ P : Heap → Prop, PySem.W.KitX X.K u t P ∧ P s.heap ∧ u ≠ .builtin "__main__.__loader__#opaque"
theorem TyD.of {X : Cx} {H : Hp} {x : V} {t : Value} (h : TyX X.K H x t) : TyD X H x t := fun _ _ _ _ I r => kit_of I r h
def rIsiD (X : Cx) : List V → Hp → VK → Prop := fun xs H Q => ∃ (x c : V) (t u : Value) (b : Bool), xs = [x, c] ∧ ClsV c u ∧ TyD X H x t ∧ PySem.W.kitOne X.K t u = some b ∧ Q (.bl b) H
def rIsiDT (X : Cx) : List V → Hp → VK → Prop := fun xs H Q => ∃ (x : V) (tp : Addr) (cs : List V) (t : Value) (us : List Value) (b : Bool), xs = [x, .ref tp] ∧ H tp = some (.tup cs) ∧ Paired ClsV cs us ∧ TyD X H x t ∧ PySem.W.kitAny X.K t us = some b ∧ Q (.bl b) H
theorem call_isiD {X : Cx} : CallR X (.builtin "isinstance") (rIsiD X) := by
  intro pins s σ H xs us Q I r h
  obtain ⟨x, c, t, u, b, rfl, k, ty, e, q⟩ := h
  obtain ⟨u1, u2, rfl, r1, r2⟩ := vals2 r
  have e2 := k.eq r2
  subst e2
  obtain ⟨P, Z, p, hx⟩ := ty _ _ _ _ I r1
  exact PySem.W.kia_one Z I.kIn p e hx fun tk => ⟨.bl b, H, I.tok tk, rfl, q⟩
theorem call_isiDT {X : Cx} : CallR X (.builtin "isinstance") (rIsiDT X) := by
  intro pins s σ H xs us Q I r h
  obtain ⟨x, tp, cs, t, ws, b, rfl, hT, k, ty, e, q⟩ := h
  obtain ⟨u1, u2, rfl, r1, r2⟩ := vals2 r
  cases (show u2 = Value.ref tp from r2)
  obtain ⟨P, Z, p, hx⟩ := ty _ _ _ _ I r1
  obtain ⟨_, its, rv, o, h1, h2, n, h3⟩ := (show ObjOk X.prog X.w H s.heap tp (.tup cs) from I.hok tp _ hT)
  have e3 := ClsV.all k rv
  subst e3
  obtain ⟨oc, od, dt, sl⟩ := o
  simp only at h2 h3
  subst h2 h3
  exact PySem.W.kia_tup Z I.kIn p h1 e hx fun tk => ⟨.bl b, H, I.tok tk, rfl, q⟩
theorem exoC_at {P : Program} {w : World} {H : Hp} {h : Heap} {a C : Addr} {d : Option Addr} (hok : HOk P w H h) (he : H a = some (exoC a C d)) : ∃ (vs : Array Value) (sl : Array (Option Value)), h.get? a = some ({ cls := .ref C, dict := d, data := .fields vs, slots := sl } : Obj) := by
  have x : ObjOk P w H h a (.ext fun h => ∃ (vs : Array Value) (sl : Array (Option Value)), h.get? a = some ({ cls := .ref C, dict := d, data := .fields vs, slots := sl } : Obj)) := hok a _ he
  exact x.1
theorem xd_at {P : Program} {w : World} {H : Hp} {h : Heap} {dd : Addr} {fs : List (Str × V)} (hok : HOk P w H h) (he : H dd = some (.xd fs)) : ∃ mA, h.Ns1 dd mA ∧ ∀ f, RelO (fs.lookup f) (mA f) := by
  have x : ObjOk P w H h dd (.xd fs) := hok dd _ he
  exact x
theorem findObj_dataD {K : PySem.W.Frag} {C : Addr} {od : Option Obj} {name : Str} {a g : Value} (hc : (PySem.W.clsIn K C).isSome = true) (ha : PySem.W.findIn K (.ref C) name = some (some a)) (hg : PySem.W.specialIn K a "__get__" = some (some g)) (ht : PySem.W.takesIn K a = some true) : PySem.W.findObj K C od name = some (.bind g a) := by
  obtain ⟨cd, hc⟩ := Option.isSome_iff_exists.mp hc
  unfold PySem.W.findObj
  rw [hc, Option.bind_some, ha, Option.bind_some]
  simp [hg, ht]
section
open PySem.W (Looks InstAt specialIn takesIn findIn subIn hasDictIn mroIn)
/-- x.__class__ of an error, with a dict or without -/
theorem exc_class {prog : Program} {w : World} {A : Around} {E : Value → Shared → Prop} {s : Shared} {K : PySem.W.Frag} {x D : Addr} {ox : Obj} {od : Option Obj} {Q : Option Value → Shared → Prop} (C : ExcC K D) (X : K.In s.heap) (I : InstAt s.heap x ox D od)
    (h : Q (some (.ref D)) { s with toks := s.toks + 1 }) : wpAny (model prog w) A (getAttr? (.ref x) "__class__") Q E s := by
  have hf := findObj_dataD (od := od) (by obtain ⟨cd, hc, _⟩ := PySem.W.any_some C.hd; rw [hc]; rfl) C.ha C.hn C.ht
  have sub : Looks (model prog w) s.heap (isInstance (.ref x) (.type "BaseException")) true := (I.type (M := model prog w)).andThen (PySem.W.looks_subIn X C.hs)
  obtain ⟨hp, g, d, t, os⟩ := s
  have ne : (Value.builtin "BaseException.__getattribute__" == Value.builtin "object.__getattribute__") = false := by decide +kernel
  have sl := PySem.F.excAttr_ValueError.ga
  unfold getAttr? getAttrBy? getAttrBy
  refine wpAny_bind (wpAny_mkText (wpAny_bind (wpAny_attempt (wpAny_holding (wpAny_bind ((I.type (M := model prog w)).at (wpAny_bind ((PySem.W.looks_findIn X C.hg).at ?_))))))))
  show wpAny _ _ (if (onTheHeap (Value.ref D) && Value.builtin "BaseException.__getattribute__" == Value.builtin "object.__getattribute__") = true then _ else _) _ _ _
  rw [ne, Bool.and_false, if_neg Bool.false_ne_true]
  unfold getAttrByItsOwn hookBefore
  refine wpAny_bind ?_
  rw [if_pos (show onTheHeap (Value.ref D) = true from rfl)]
  refine (PySem.W.looks_findIn X C.hk).at (wpAny_bind (wpAny_attempt (wpAny_holding ?_)))
  unfold callGetattribute
  rw [Bool.false_and, if_neg Bool.false_ne_true]
  unfold boundAndCalled
  rw [sl.bind (.ref x)]
  refine wpAny_bind (wpAny_pure (wpAny_call (codeAny_call_builtin sl.plain PySem.F.entry_bexc_ga ?_)))
  refine @PySem.W.check_slot (model prog w) _ _ ⟨hp, g, d, t + 1, os⟩ "BaseException.__getattribute__" "BaseException" "__getattribute__" (.ref x) [.str "__class__" t] [] _ (by decide +kernel) (by decide +kernel) sub (PySem.F.args_bexc_ga (.ref x) (.str "__class__" t)) ?_
  unfold Builtin.«object.__getattribute__»
  refine wpAny_bind (wpAny_of_eq (a := ((Value.ref x : Value), [Value.str "__class__" t])) (by first | rfl | (simp only [slotArgs]; rfl)) (wpAny_bind (wpAny_pure (wpAny_bind ((I.type (M := model prog w)).at (wpAny_bind ((PySem.W.looks_find X I hf).at ?_)))))))
  show wpAny _ _ (holding [Value.builtin "object.__class__"] (call (.builtin "getset_descriptor.__get__") [.builtin "object.__class__", .ref x, .ref D]) >>= ret) _ _ _
  refine wpAny_bind (wpAny_holding (wpAny_call (PySem.W.class_get (s := ⟨hp, g, d, t + 1, os⟩) (ox := ox) (od := od) X I C.hm (wpAny_pure ?_))))
  show wpAny _ _ (handedOut (.ref D)) _ _ _
  rw [PySem.W.handedOut_of (v := .ref D) rfl]
  first
    | exact wpAny_pure (wpAny_pure h)
    | exact wpAny_pure h
    | exact wpAny_pure (wpAny_bind (wpAny_pure (wpAny_pure h)))
theorem exc_kit {K : PySem.W.Frag} {x D : Addr} {ox : Obj} {od : Option Obj} (C : ExcC K D) : PySem.W.KitX K (.ref x) (.ref D) (fun h => InstAt h x ox D od) where
  ty := fun _ _ _ I => I.type
  it := fun _ _ X _ => by
    obtain ⟨cd, hc, _⟩ := PySem.W.any_some C.hd
    unfold PySem.W.clsIn at hc
    split at hc
    · rename_i ho
      intro A' Q' E' s' k q
      unfold isType loadHead
      exact wpAny_bind (wpAny_loadPart (k _ _ (X _ _ ho)) (wpAny_pure q))
    · cases hc
  ne := fun h tp dd its n sl X htp => by
    obtain ⟨cd, hc, _⟩ := PySem.W.any_some C.hd
    refine Bool.eq_false_iff.mpr fun q => ?_
    have e : D = tp := Value.ref.inj (beq_iff_eq.mp q)
    subst e
    unfold PySem.W.clsIn at hc
    split at hc
    · rename_i ho
      cases (X _ _ ho).symm.trans htp
    · cases hc
  ca := fun X I k => exc_class C X I k
end
/-- the type of data as isinstance asks for it -/
def tyv (K : PySem.W.Frag) : D → Value
  | .nd (.exc c _) _ => .ref (He.ga K c)
  | .nd (.ins c _) _ => .ref (He.ga K c)
  | d => .type d.tg.nm
section
variable {X : Cx} {K : PySem.W.Frag} {H B : Hp} {p q : Bool} {pos : Pos}
theorem ty_ofX {d : D} {v : V} (b : Ex B H) (h : Sh K B H d v) (hd : d.tg ≠ .oth) : TyX K H v (.type d.tg.nm) := by
  cases d with
  | non => rw [show v = .non from h]; exact .base .non
  | bl k => rw [show v = .bl k from h]; exact .base (.bl k)
  | int k => rw [show v = .int k from h]; exact .base (.int k)
  | str k => rw [show v = .str k from h]; exact .base (.str k)
  | nd k ds =>
    obtain ⟨a, vs, rfl, h2, h3⟩ := h.nd b
    cases k with
    | tup =>
      rcases h2 with (h2 | ⟨o, h2⟩) | ⟨o, its, n, h2, hc, _⟩
      · exact .base (.tup h2)
      · exact .fTuple h2
      · exact .kTuple h2 hc
    | lst => exact .base (.lst h2)
    | ll =>
      rcases h2 with (h2 | ⟨o, h2⟩) | ⟨o, its, n, h2, hc, _⟩
      · exact .base (.lst h2)
      · exact .base (.frz h2)
      · exact .kList h2 hc
    | dic ks =>
      rcases h2.2 with h2 | ⟨o, h2⟩
      · exact .base (.dK h2)
      · exact .fDict h2
    | exc _ _ => exact absurd rfl hd
    | ins _ _ => exact absurd rfl hd
theorem tyv_of {X : Cx} {d : D} {v : V} (b : Ex B H) (h : Sh X.K B H d v) : TyD X H v (tyv X.K d) ∧ ∀ t : Tg, t ≠ .non → t ≠ .oth → PySem.W.kitOne X.K (tyv X.K d) (.type t.nm) = some (isi d.tg t) := by
  have base : d.tg ≠ .oth → tyv X.K d = .type d.tg.nm → TyD X H v (tyv X.K d) ∧ ∀ t : Tg, t ≠ .non → t ≠ .oth → PySem.W.kitOne X.K (tyv X.K d) (.type t.nm) = some (isi d.tg t) := fun h1 e =>
    ⟨by rw [e]; exact .of (ty_ofX b h h1), fun t h2 h3 => by rw [e]; exact kit_ty (isi_kit d.tg t h2 h1 h3)⟩
  cases d with
  | non => exact base (by decide) rfl
  | bl _ => exact base (fun z => nomatch z) rfl
  | int _ => exact base (fun z => nomatch z) rfl
  | str _ => exact base (fun z => nomatch z) rfl
  | nd k ds =>
    cases k with
    | tup => exact base (fun z => nomatch z) rfl
    | lst => exact base (fun z => nomatch z) rfl
    | ll => exact base (fun z => nomatch z) rfl
    | dic _ => exact base (fun z => nomatch z) rfl
    | ins c fs =>
      obtain ⟨a, vs, rfl, ⟨T, h1, dx, h2⟩, h3⟩ := h.nd b
      refine ⟨.of (.base (.ins h2 T.cls T.ha T.hn T.ht T.hm)), fun t z1 z2 => ?_⟩
      rw [show D.tg (.nd (.ins c fs) ds) = .oth from rfl, isi_oth t z2]
      exact T.kit t z1 z2
    | exc c fs =>
      obtain ⟨a, vs, rfl, ⟨T, d, h1, h2⟩, h3⟩ := h.nd b
      refine ⟨fun pins σ s u I r => ?_, fun t z1 z2 => ?_⟩
      · cases (show u = Value.ref a from r)
        obtain ⟨gs, sl, ho⟩ := exoC_at I.hok h1
        have hd : ∃ od, PySem.W.InstAt s.heap a ({ cls := .ref (He.ga X.K c), dict := d, data := .fields gs, slots := sl } : Obj) (He.ga X.K c) od := by
          obtain ⟨_, h2⟩ := h2
          cases d with
          | none => exact ⟨none, ho, rfl, rfl, trivial⟩
          | some dd =>
            cases fs with
            | nil => exact h2.elim
            | cons f fs =>
              obtain ⟨mA, hns, _⟩ := xd_at I.hok h2
              obtain ⟨o, _, _, ho2, _⟩ := hns
              exact ⟨some o, ho, rfl, rfl, ho2⟩
        obtain ⟨od, J⟩ := hd
        exact ⟨_, exc_kit T.exc, J, fun z => nomatch z⟩
      · rw [show D.tg (.nd (.exc c fs) ds) = .oth from rfl, isi_oth t z2]
        exact T.kit t z1 z2
def eIsi (t : Tg) (m : M) : M := fun ρ => (m ρ).bind fun x => (deref x.2 x.1).bind fun d => some (.vl (.bl (isi d.tg t)), x.2)
theorem c_isi {e : Expr} {x : Str} {t : Tg} {m : M} {po pt : Pos} (he : PE X e (tE X.K p m)) (ht : t ≠ .non ∧ t ≠ .oth) (hm : X.mg "isinstance" = none) (hmx : X.mg x = none) (hv : bootBuiltins x = some (.type t.nm)) (hg : Gl X "isinstance" := by rfl) (hgx : Gl X x := by rfl)
    (hn : x ≠ "__name__" := by decide) (hd : (x == ("__debug__" : Str)) = false := by decide)
    (s1 : starEach (e :: [.Name x pt]) X.env = (false, eval e X.env) :: starEach [.Name x pt] X.env := by rfl) (s2 : starEach [.Name x pt] X.env = (false, eval (.Name x pt) X.env) :: starEach [] X.env := by rfl) (hpl : (backTo pos (starEach [.Name x pt] X.env)).any (·.1) = false := by rfl) :
    PE X (.Call (.Name "isinstance" po) [e, .Name x pt] [] pos) (tE X.K p (eIsi t m)) :=
  peW (pe_callB call_isiD hg hm PyProof.Rows.boot_isinstance (pa_cons he (pa_cons (pe_bltn (v := .ty t.nm) hgx hmx hv rfl hn hd) pa_nil s2) s1) (he := s1) (hpl := hpl)) fun σ H Q h => by
    obtain ⟨B, ρ, F, S, a, ρ', e, k⟩ := h
    obtain ⟨⟨y, ρ1⟩, ea, e⟩ := ob e
    obtain ⟨d, ed, e⟩ := ob e
    cases e
    refine ⟨B, ρ, F, S, y, ρ1, ea, fun v B1 H1 F1 E1 S1 A1 P1 => ?_⟩
    exact ⟨v, .ty t.nm, _, _, isi d.tg t, rfl, .ty _, (tyv_of S1.bh (S1.deref A1 ed)).1, (tyv_of S1.bh (S1.deref A1 ed)).2 t ht.1 ht.2, k _ B1 H1 F1 E1 S1 rfl P1⟩
/-- isinstance(x, (S, T)) -/
def eIsi2 (t u : Tg) (m : M) : M := fun ρ => (m ρ).bind fun x => (deref x.2 x.1).bind fun d => some (.vl (.bl (isi d.tg t || isi d.tg u)), x.2)
theorem c_isi2 {e : Expr} {x y : Str} {t u : Tg} {m : M} {po pt pu ptt : Pos} {kk} (he : PE X e (tE X.K p m)) (ht : t ≠ .non ∧ t ≠ .oth) (hu : u ≠ .non ∧ u ≠ .oth) (hm : X.mg "isinstance" = none) (hmx : X.mg x = none) (hv : bootBuiltins x = some (.type t.nm)) (hmy : X.mg y = none) (hvy : bootBuiltins y = some (.type u.nm))
    (hg : Gl X "isinstance" := by rfl) (hgx : Gl X x := by rfl) (hgy : Gl X y := by rfl)
    (hn : x ≠ "__name__" := by decide) (hd : (x == ("__debug__" : Str)) = false := by decide) (hny : y ≠ "__name__" := by decide) (hdy : (y == ("__debug__" : Str)) = false := by decide)
    (s0 : starEach [.Name x pt, .Name y pu] X.env = (false, eval (.Name x pt) X.env) :: starEach [.Name y pu] X.env := by rfl) (s00 : starEach [.Name y pu] X.env = (false, eval (.Name y pu) X.env) :: starEach [] X.env := by rfl)
    (s1 : starEach (e :: [.Tuple [.Name x pt, .Name y pu] kk ptt]) X.env = (false, eval e X.env) :: starEach [.Tuple [.Name x pt, .Name y pu] kk ptt] X.env := by rfl)
    (s2 : starEach [.Tuple [.Name x pt, .Name y pu] kk ptt] X.env = (false, eval (.Tuple [.Name x pt, .Name y pu] kk ptt) X.env) :: starEach [] X.env := by rfl) (hpl : (backTo pos (starEach [.Tuple [.Name x pt, .Name y pu] kk ptt] X.env)).any (·.1) = false := by rfl) :
    PE X (.Call (.Name "isinstance" po) [e, .Tuple [.Name x pt, .Name y pu] kk ptt] [] pos) (tE X.K false (eIsi2 t u m)) :=
  peW (pe_callB call_isiDT hg hm PyProof.Rows.boot_isinstance (pa_cons he (pa_cons (pe_tup (pa_cons (pe_bltn (v := .ty t.nm) hgx hmx hv rfl hn hd) (pa_cons (pe_bltn (v := .ty u.nm) hgy hmy hvy rfl hny hdy) pa_nil s00) s0)) pa_nil s2) s1) (he := s1) (hpl := hpl)) fun σ H Q h => by
    obtain ⟨B, ρ, F, S, a, ρ', e, k⟩ := h
    obtain ⟨⟨y, ρ1⟩, ea, e⟩ := ob e
    obtain ⟨d, ed, e⟩ := ob e
    cases e
    refine ⟨B, ρ, F, S, y, ρ1, ea, fun v B1 H1 F1 E1 S1 A1 P1 => ⟨(by show 2 ≤ sizeLine; decide), fun pp hp => ?_⟩⟩
    have n := New.lay (o := .tup [.ty t.nm, .ty u.nm]) S1.bh hp
    have S2 := S1.new n
    have A2 := A1.keep (B' := upd B1 pp (.tup [.ty t.nm, .ty u.nm])) (ρ' := ρ1) (H' := upd H1 pp (.tup [.ty t.nm, .ty u.nm])) n.bb fun _ => ⟨rfl, n.hh⟩
    refine ⟨v, pp, _, _, _, isi d.tg t || isi d.tg u, rfl, upd_same, .cons (.ty _) (.cons (.ty _) .nil), (tyv_of S2.bh (S2.deref A2 ed)).1, ?_, k _ _ _ F1 (E1.trans n.ext) S2 rfl fun z => nomatch z⟩
    refine kitAny_cons ((tyv_of S2.bh (S2.deref A2 ed)).2 t ht.1 ht.2) (fun e => ?_) fun e => by rw [e]; rfl
    rw [e]
    refine kitAny_cons ((tyv_of S2.bh (S2.deref A2 ed)).2 u hu.1 hu.2) (fun e => ?_) fun e => by rw [e]; rfl
    rw [e]
    rfl
/-! ### lists that change -/
theorem OwnL.app1 {B H : Hp} : ∀ {G : Addr → Prop} {ts : List T} {vs : List V} {d : D} {v : V}, OwnL K B H G ts vs → Dat K B d v → OwnL K B H G (ts ++ [.fz d]) (vs ++ [v])
  | _, [], _, _, v, h, hd => by
    rw [show _ = [] from h]
    exact ⟨v, [], fun _ => False, rfl, fun _ z => z.elim, hd, rfl⟩
  | _, t :: ts, _, _, _, ⟨v, r, G1, h1, h2, h3, h4⟩, hd => by
    subst h1
    exact ⟨v, _, G1, rfl, h2, h3, h4.app1 hd⟩
theorem OwnL.appL {B H : Hp} : ∀ {G : Addr → Prop} {ts : List T} {vs : List V} {ds : List D} {ws : List V}, OwnL K B H G ts vs → DatL K B ds ws → OwnL K B H G (ts ++ ds.map .fz) (vs ++ ws)
  | _, [], _, _, _, h, hd => by
    rw [show _ = [] from h]
    exact OwnL.of_dat hd
  | _, t :: ts, _, _, _, ⟨v, r, G1, h1, h2, h3, h4⟩, hd => by
    subst h1
    exact ⟨v, _, G1, rfl, h2, h3, h4.appL hd⟩
theorem OwnL.setF {B H : Hp} : ∀ {G : Addr → Prop} {ts : List T} {vs : List V} {d : D} {v : V} (n : Nat), OwnL K B H G ts vs → Dat K B d v → OwnL K B H G (ts.set n (.fz d)) (vs.set n v)
  | _, [], _, _, _, n, h, _ => by rw [show _ = [] from h]; simp [OwnL]
  | _, t :: ts, _, _, w, 0, ⟨v, r, G1, h1, h2, h3, h4⟩, hd => by
    subst h1
    exact ⟨w, _, G1, rfl, h2, hd, h4⟩
  | _, t :: ts, _, _, _, n + 1, ⟨v, r, G1, h1, h2, h3, h4⟩, hd => by
    subst h1
    exact ⟨v, _, G1, rfl, h2, h3, h4.setF n hd⟩
theorem OwnL.erase {B H : Hp} : ∀ {G : Addr → Prop} {ts : List T} {vs : List V} (n : Nat), OwnL K B H G ts vs → OwnL K B H G (ts.eraseIdx n) (vs.eraseIdx n)
  | _, [], _, n, h => by rw [show _ = [] from h]; simp [OwnL]
  | G, t :: ts, _, 0, ⟨v, r, G1, h1, h2, h3, h4⟩ => by
    subst h1
    exact h4.mono fun a z => z.1
  | _, t :: ts, _, n + 1, ⟨v, r, G1, h1, h2, h3, h4⟩ => by
    subst h1
    exact ⟨v, _, G1, rfl, h2, h3, h4.erase n⟩
theorem OwnL.at_ {B H : Hp} : ∀ {G : Addr → Prop} {ts : List T} {vs : List V} {n : Nat} {d : D}, OwnL K B H G ts vs → ts[n]? = some (.fz d) → ∃ v, vs[n]? = some v ∧ Dat K B d v
  | _, [], _, n, _, _, e => by simp at e
  | _, t :: ts, _, 0, d, ⟨v, r, G1, h1, h2, h3, h4⟩, e => by
    subst h1
    simp at e
    subst e
    exact ⟨v, rfl, h3⟩
  | _, t :: ts, _, n + 1, d, ⟨v, r, G1, h1, h2, h3, h4⟩, e => by
    subst h1
    obtain ⟨w, g1, g2⟩ := h4.at_ (n := n) (d := d) (by simpa using e)
    exact ⟨w, by simpa using g1, g2⟩
def fApp : FM := fun k ts ds => match k, ds with
  | .lst, [d] => if decide (ts.length < 100000) = true then some (.non, .lst, ts ++ [.fz d]) else none
  | _, _ => none
theorem lt_sz {n : Nat} (h : decide (n < 100000) = true) : n < sizeLine := Nat.lt_of_lt_of_le (of_decide_eq_true h) (by decide)
theorem m_app : MutR K rAppend fApp := fun B H G k k' ts ts' l vs ws ds g Q b bl on ol hd e kk => by
  unfold fApp at e
  split at e
  · rename_i d
    by_cases z : decide (ts.length < 100000) = true
    · rw [if_pos z] at e
      cases e
      obtain ⟨w, r, e1, hw, e2⟩ := hd
      subst e1
      rw [show r = [] from e2]
      exact ⟨l, vs, w, rfl, rfl, on, by rw [← ol.len]; exact lt_sz z, kk .non _ (vs ++ [w]) rfl upd_same (ol.app1 hw)⟩
    · rw [if_neg z] at e; cases e
  · cases e
def fExt : FM := fun k ts ds => match k, ds with
  | .lst, [.nd .lst es] => if decide (ts.length + es.length ≤ 100000) = true then some (.non, .lst, ts ++ es.map .fz) else none
  | _, _ => none
theorem m_ext : MutR K rExtend fExt := fun B H G k k' ts ts' l vs ws ds g Q b bl on ol hd e kk => by
  unfold fExt at e
  split at e
  · rename_i es
    by_cases z : decide (ts.length + es.length ≤ 100000) = true
    · rw [if_pos z] at e
      cases e
      obtain ⟨w, r, e1, ⟨c, zs, hc, hz, hl⟩, e2⟩ := hd
      subst e1 hc
      rw [show r = [] from e2]
      exact ⟨l, c, vs, zs, rfl, rfl, on, b _ _ hz, by rw [← ol.len, ← hl.len]; exact sz z, kk .non _ (vs ++ zs) rfl upd_same (ol.appL hl)⟩
    · rw [if_neg z] at e; cases e
  · cases e
def fPop : FM := fun k ts ds => match k, ds with
  | .lst, [] => match ts[ts.length - 1]? with
    | some (.fz d) => some (d, .lst, ts.eraseIdx (ts.length - 1))
    | _ => none
  | _, _ => none
theorem m_pop : MutR K rPop fPop := fun B H G k k' ts ts' l vs ws ds g Q b bl on ol hd e kk => by
  unfold fPop at e
  split at e
  · split at e
    · rename_i d q
      cases e
      obtain ⟨v, g1, g2⟩ := ol.at_ q
      rw [ol.len] at g1
      refine ⟨l, vs, v, rfl, hd, on, g1, kk v _ vs.dropLast g2 upd_same ?_⟩
      have := ol.erase (ts.length - 1)
      rw [ol.len] at this ⊢
      rw [← List.eraseIdx_length_sub_one]
      exact this
    · cases e
  · cases e
def fPopAt : FM := fun k ts ds => match k, ds with
  | .lst, [.int i] => if decide (-(2 ^ 63) ≤ i ∧ i < 2 ^ 63) = true then (seqIndex? i ts.length).bind fun j => match ts[j]? with
    | some (.fz d) => some (d, .lst, ts.eraseIdx j)
    | _ => none
    else none
  | _, _ => none
theorem m_popAt : MutR K rPopAt fPopAt := fun B H G k k' ts ts' l vs ws ds g Q b bl on ol hd e kk => by
  unfold fPopAt at e
  split at e
  · rename_i i
    by_cases z : decide (-(2 ^ 63) ≤ i ∧ i < 2 ^ 63) = true
    · rw [if_pos z] at e
      obtain ⟨j, e1, e⟩ := ob e
      split at e
      · rename_i d q
        cases e
        obtain ⟨v, g1, g2⟩ := ol.at_ q
        obtain ⟨w, r, hw, hi, e2⟩ := hd
        rw [show r = [] from e2, show w = .int i from hi] at hw
        obtain ⟨z1, z2⟩ := of_decide_eq_true z
        exact ⟨l, vs, i, j, v, rfl, hw, on, z1, z2, by rw [← ol.len]; exact e1, g1, kk v _ _ g2 upd_same (ol.erase j)⟩
      · cases e
    · rw [if_neg z] at e; cases e
  · cases e
def fSet : FM := fun k ts ds => match k, ds with
  | .lst, [.int i, d] => (ixN ts.length i).bind fun j => some (.non, .lst, ts.set j (.fz d))
  | _, _ => none
theorem m_set : SetR K rSetL fSet := fun B H G k k' ts ts' l vs iv v di dv g Q b bl on ol hi hv e kk => by
  match k, di, hi, on, e with
  | .lst, .int i, hi, on, e =>
    obtain ⟨j, e1, e⟩ := ob (show (ixN ts.length i).bind _ = some _ from e)
    cases e
    exact ⟨l, vs, i, j, rfl, hi, on, by rw [← ol.len]; exact e1, kk _ (vs.set j v) upd_same (ol.setF j hv)⟩
  | .lst, .non, _, _, e => cases e
  | .lst, .bl _, _, _, e => cases e
  | .lst, .str _, _, _, e => cases e
  | .lst, .nd _ _, _, _, e => cases e
  | .tup, _, _, _, e => cases e
  | .ll, _, _, _, e => cases e
  | .dic _, _, _, _, e => cases e
  | .exc _ _, _, _, _, e => cases e
  | .ins _ _, _, _, _, e => cases e
end
end DL

end

section
set_option Elab.async false
set_option linter.all false
set_option maxRecDepth 100000
set_option maxHeartbeats 2000000
namespace DL
open PySem L2

/-! ### sorted(set(a list of tuples of ints)) -/
/-- one by one into a strictly ascending list -/
def insT (k : List Int) : List (List Int) → List (List Int)
  | [] => [k]
  | x :: xs => if k = x then x :: xs else if HT.lexLt k x = true then k :: x :: xs else x :: insT k xs
def sortT : List (List Int) → List (List Int)
  | [] => []
  | k :: ks => insT k (sortT ks)
theorem lexLt_irrefl : ∀ a : List Int, HT.lexLt a a = false
  | [] => rfl
  | x :: xs => by rw [HT.lexLt_cons, if_pos rfl, lexLt_irrefl xs]
theorem lexLt_trans : ∀ {a b c : List Int}, HT.lexLt a b = true → HT.lexLt b c = true → HT.lexLt a c = true
  | [], [], _, h, _ => by cases h
  | [], _ :: _, [], _, h => by cases h
  | [], _ :: _, _ :: _, _, _ => rfl
  | _ :: _, [], _, h, _ => by cases h
  | x :: xs, y :: ys, [], _, h => by cases h
  | x :: xs, y :: ys, z :: zs, h1, h2 => by
    rw [HT.lexLt_cons] at *
    by_cases e1 : x = y
    · rw [if_pos e1] at h1
      by_cases e2 : y = z
      · rw [if_pos e2] at h2
        rw [if_pos (e1.trans e2)]
        exact lexLt_trans h1 h2
      · rw [if_neg e2] at h2
        rw [if_neg (fun q => e2 (e1.symm.trans q)), e1]
        exact h2
    · rw [if_neg e1] at h1
      have h1' := of_decide_eq_true h1
      by_cases e2 : y = z
      · rw [if_neg (fun q => e1 (q.trans e2.symm)), ← e2]
        exact h1
      · rw [if_neg e2] at h2
        have h2' := of_decide_eq_true h2
        rw [if_neg (by omega)]
        exact decide_eq_true (by omega)
theorem lexLt_total : ∀ {a b : List Int}, a ≠ b → HT.lexLt a b = false → HT.lexLt b a = true
  | [], [], h, _ => absurd rfl h
  | [], _ :: _, _, h => by cases h
  | _ :: _, [], _, _ => rfl
  | x :: xs, y :: ys, h, h2 => by
    rw [HT.lexLt_cons] at *
    by_cases e : x = y
    · rw [if_pos e] at h2
      rw [if_pos e.symm]
      exact lexLt_total (fun q => h (by rw [e, q])) h2
    · rw [if_neg e] at h2
      rw [if_neg (Ne.symm e)]
      have := of_decide_eq_false h2
      exact decide_eq_true (by omega)
theorem insT_mem {k x : List Int} : ∀ {l : List (List Int)}, x ∈ insT k l ↔ x = k ∨ x ∈ l
  | [] => by simp [insT]
  | y :: ys => by
    unfold insT
    by_cases e : k = y
    · rw [if_pos e, e]; simp
    · rw [if_neg e]
      by_cases h : HT.lexLt k y = true
      · rw [if_pos h]; simp
      · rw [if_neg h, List.mem_cons, insT_mem, List.mem_cons]
        constructor
        · rintro (h | h | h)
          · exact Or.inr (Or.inl h)
          · exact Or.inl h
          · exact Or.inr (Or.inr h)
        · rintro (h | h | h)
          · exact Or.inr (Or.inl h)
          · exact Or.inl h
          · exact Or.inr (Or.inr h)
theorem sortT_mem {x : List Int} : ∀ {l : List (List Int)}, x ∈ sortT l ↔ x ∈ l
  | [] => by simp [sortT]
  | y :: ys => by show x ∈ insT y (sortT ys) ↔ _; rw [insT_mem, sortT_mem, List.mem_cons]
theorem insT_asc {k : List Int} : ∀ {l : List (List Int)}, l.Pairwise (fun a b => HT.lexLt a b = true) → (insT k l).Pairwise (fun a b => HT.lexLt a b = true)
  | [], _ => by simp [insT]
  | y :: ys, h => by
    unfold insT
    by_cases e : k = y
    · rw [if_pos e]; exact h
    · rw [if_neg e]
      by_cases q : HT.lexLt k y = true
      · rw [if_pos q]
        refine List.pairwise_cons.mpr ⟨fun z hz => ?_, h⟩
        rcases List.mem_cons.mp hz with rfl | hz
        · exact q
        · exact lexLt_trans q ((List.pairwise_cons.mp h).1 z hz)
      · rw [if_neg q]
        refine List.pairwise_cons.mpr ⟨fun z hz => ?_, insT_asc (List.pairwise_cons.mp h).2⟩
        rcases insT_mem.mp hz with rfl | hz
        · exact lexLt_total e (by simpa using q)
        · exact (List.pairwise_cons.mp h).1 z hz
theorem sortT_asc : ∀ l : List (List Int), (sortT l).Pairwise (fun a b => HT.lexLt a b = true)
  | [] => .nil
  | y :: ys => insT_asc (sortT_asc ys)
/-- two strictly ascending lists of the same things -/
theorem asc_eq : ∀ {a b : List (List Int)}, a.Pairwise (fun a b => HT.lexLt a b = true) → b.Pairwise (fun a b => HT.lexLt a b = true) → (∀ x, x ∈ a ↔ x ∈ b) → a = b
  | [], [], _, _, _ => rfl
  | [], y :: ys, _, _, h => by have := (h y).mpr (by simp); cases this
  | x :: xs, [], _, _, h => by have := (h x).mp (by simp); cases this
  | x :: xs, y :: ys, h1, h2, h => by
    obtain ⟨h1a, h1b⟩ := List.pairwise_cons.mp h1
    obtain ⟨h2a, h2b⟩ := List.pairwise_cons.mp h2
    have e : x = y := by
      rcases List.mem_cons.mp ((h x).mp (by simp)) with q | q
      · exact q
      · rcases List.mem_cons.mp ((h y).mpr (by simp)) with q2 | q2
        · exact q2.symm
        · have := lexLt_trans (h1a y q2) (h2a x q)
          rw [lexLt_irrefl] at this
          cases this
    subst e
    rw [asc_eq h1b h2b fun z => ?_]
    constructor
    · intro hz
      rcases List.mem_cons.mp ((h z).mp (List.mem_cons_of_mem _ hz)) with q | q
      · subst q
        have := h1a z hz
        rw [lexLt_irrefl] at this
        cases this
      · exact q
    · intro hz
      rcases List.mem_cons.mp ((h z).mpr (List.mem_cons_of_mem _ hz)) with q | q
      · subst q
        have := h2a z hz
        rw [lexLt_irrefl] at this
        cases this
      · exact q
theorem code_lexLt {b : Int} : ∀ {m n : List Int}, m.length = n.length → TS.Bd b m → TS.Bd b n → m ≠ n → TS.code b m ≤ TS.code b n → HT.lexLt m n = true
  | [], [], _, _, _, h, _ => absurd rfl h
  | [], _ :: _, h, _, _, _, _ => by cases h
  | _ :: _, [], h, _, _, _, _ => by cases h
  | x :: xs, y :: ys, hl, h1, h2, hn, hc => by
    have hl' : xs.length = ys.length := by simpa using hl
    have b1 : TS.Bd b xs := fun m hm => h1 m (List.mem_cons_of_mem _ hm)
    have b2 : TS.Bd b ys := fun m hm => h2 m (List.mem_cons_of_mem _ hm)
    rw [HT.lexLt_cons]
    by_cases e : x = y
    · rw [if_pos e]
      subst e
      refine code_lexLt hl' b1 b2 (fun q => hn (by rw [q])) ?_
      have := (TS.code_same (B := b) (d := x) hl'.symm)
      by_cases z : TS.code b xs ≤ TS.code b ys
      · exact z
      · have := this.mpr (by omega)
        omega
    · rw [if_neg e]
      by_cases z : x < y
      · exact decide_eq_true z
      · have := TS.code_lt (B := b) hl'.symm b2 b1 (show y < x by omega)
        omega
def tups : List D → Option (List (List Int))
  | [] => some []
  | .nd .tup ds :: r => (intsD ds).bind fun k => (tups r).map (k :: ·)
  | _ :: _ => none
def tupD (k : List Int) : D := .nd .tup (k.map .int)
def wid : List (List Int) → Nat
  | [] => 1
  | k :: _ => k.length
def bnd (kss : List (List Int)) : Int := 1 + (kss.flatten).sum
def okT (kss : List (List Int)) : Bool := decide (kss.length < 64) && (decide (1 ≤ wid kss) && kss.all fun k => decide (k.length = wid kss) && k.all fun m => decide (0 ≤ m))
def fSorSet : D → Option D
  | .nd .lst ds => (tups ds).bind fun kss => if okT kss = true then some (.nd .lst ((sortT kss).map tupD)) else none
  | _ => none
theorem sum_ge : ∀ {l : List Int}, (∀ m ∈ l, 0 ≤ m) → 0 ≤ l.sum ∧ ∀ m ∈ l, m ≤ l.sum
  | [], _ => ⟨by simp, fun m h => by cases h⟩
  | x :: xs, h => by
    obtain ⟨h1, h2⟩ := sum_ge (l := xs) fun m hm => h m (List.mem_cons_of_mem _ hm)
    have h0 := h x (by simp)
    rw [List.sum_cons]
    refine ⟨by omega, fun m hm => ?_⟩
    rcases List.mem_cons.mp hm with rfl | hm
    · omega
    · have := h2 m hm; omega
section
variable {X : Cx} {K : PySem.W.Frag} {H B : Hp} {p q : Bool} {pos : Pos}
theorem tups_ks : ∀ {ds : List D} {vs : List V} {kss : List (List Int)}, DatL K B ds vs → tups ds = some kss → ∃ ks : List (Addr × List Int), vs = ks.map (fun p => V.ref p.1) ∧ ks.map (·.2) = kss ∧ ∀ p ∈ ks, SqT K B p.1 (p.2.map V.int)
  | [], _, _, h, e => by
    cases (show some [] = some _ from e)
    exact ⟨[], h, rfl, fun p h => by cases h⟩
  | .nd .tup es :: ds, _, _, ⟨v, r, h1, ⟨a, ws, h2, h3, h4⟩, h5⟩, e => by
    obtain ⟨k, e1, e⟩ := ob (show (intsD es).bind _ = some _ from e)
    cases q : tups ds with
    | none => rw [q] at e; cases e
    | some kss =>
      rw [q] at e
      cases e
      obtain ⟨ks, g1, g2, g3⟩ := tups_ks h5 q
      have := intsD_vs h4 e1
      subst this h1 h2 g1
      refine ⟨(a, k) :: ks, rfl, by rw [List.map_cons, g2], fun p hp => ?_⟩
      rcases List.mem_cons.mp hp with rfl | hp
      · exact h3
      · exact g3 p hp
  | .nd .lst _ :: _, _, _, _, e => by cases e
  | .nd .ll _ :: _, _, _, _, e => by cases e
  | .nd (.dic _) _ :: _, _, _, _, e => by cases e
  | .nd (.exc _ _) _ :: _, _, _, _, e => by cases e
  | .nd (.ins _ _) _ :: _, _, _, _, e => by cases e
  | .non :: _, _, _, _, e => by cases e
  | .bl _ :: _, _, _, _, e => by cases e
  | .int _ :: _, _, _, _, e => by cases e
  | .str _ :: _, _, _, _, e => by cases e
theorem ks_dat {ks : List (Addr × List Int)} (h : ∀ p ∈ ks, SqT K B p.1 (p.2.map V.int)) : DatL K B ((ks.map (·.2)).map tupD) (ks.map fun p => V.ref p.1) := by
  induction ks with
  | nil => rfl
  | cons p ks ih =>
    refine ⟨_, _, rfl, ⟨p.1, p.2.map V.int, rfl, h p (by simp), ?_⟩, ih fun q hq => h q (List.mem_cons_of_mem _ hq)⟩
    have : ∀ l : List Int, DatL K B (l.map D.int) (l.map V.int) := fun l => by
      induction l with
      | nil => rfl
      | cons x l ih => exact ⟨_, _, rfl, rfl, ih⟩
    exact this p.2
def eU1 (f : D → Option D) (m : M) : M := fun ρ => (m ρ).bind fun x => (deref x.2 x.1).bind fun d => (f d).bind fun r => some (.vl r, x.2)
theorem tE_1 {m : M} {f : D → Option D} {σ : L2.St} {H : Hp} {Q : VK} {R : V → Hp → Prop} (h : tE K p (eU1 f m) σ H Q)
    (r : ∀ B H v d g, Ex B H → Sh K B H d v → f d = some g → (∀ w B' H', New B H B' H' → Dat K B' g w → Q w H') → R v H) : tE K p m σ H R := by
  obtain ⟨B, ρ, F, S, a, ρ', e, k⟩ := h
  obtain ⟨⟨x, ρ1⟩, ea, e⟩ := ob e
  obtain ⟨d, ed, e⟩ := ob e
  obtain ⟨g, eg, e⟩ := ob e
  cases e
  refine ⟨B, ρ, F, S, x, ρ1, ea, fun v B1 H1 F1 E1 S1 A1 P1 => r B1 H1 v d g S1.bh (S1.deref A1 ed) eg fun w B' H' n dw => ?_⟩
  exact k w B' H' F1 (E1.trans n.ext) (S1.new n) dw fun z => ⟨(P1 z).1, (P1 z).2.1, (P1 z).2.2.trans n.hh⟩
theorem c_ss {e : Expr} {m : M} {po p2 pos2 : Pos} (hc : X.calm = true) (hu : X.A.units + 64 < cLine) (he : PE X e (tE X.K p m)) (hm1 : X.mg "sorted" = none) (hm2 : X.mg "set" = none) (hg1 : Gl X "sorted" := by rfl) (hg2 : Gl X "set" := by rfl)
    (s1 : starEach [e] X.env = (false, eval e X.env) :: starEach [] X.env := by rfl) (hpl1 : (backTo pos2 (starEach [] X.env)).any (·.1) = false := by rfl)
    (s2 : starEach [.Call (.Name "set" p2) [e] [] pos2] X.env = (false, eval (.Call (.Name "set" p2) [e] [] pos2) X.env) :: starEach [] X.env := by rfl) (hpl2 : (backTo pos (starEach [] X.env)).any (·.1) = false := by rfl) :
    PE X (.Call (.Name "sorted" po) [.Call (.Name "set" p2) [e] [] pos2] [] pos) (tE X.K p (eU1 fSorSet m)) :=
  peW (pe_callB (cr_sortedT hc) hg1 hm1 PyProof.Rows.boot_sorted (pa_cons (pe_callTy (cr_setOfT hc hu) hg2 hm2 PyProof.Rows.boot_set (pa_cons he pa_nil s1) (he := s1) (hpl := hpl1)) pa_nil s2) (he := s2) (hpl := hpl2)) fun σ H Q h => by
    refine tE_1 h fun B H v d g b sh ef k => ?_
    unfold fSorSet at ef
    split at ef
    · rename_i ds
      obtain ⟨kss, e1, ef⟩ := ob ef
      by_cases z : okT kss = true
      · rw [if_pos z] at ef
        cases ef
        obtain ⟨z1, z2, z3⟩ := and3 z
        obtain ⟨a, vs, rfl, h2, h3⟩ := sh
        obtain ⟨ks, rfl, g2, g3⟩ := tups_ks h3 e1
        have hlen : ks.length < 64 := by
          have := of_decide_eq_true z1
          rw [← g2, List.length_map] at this
          exact this
        refine ⟨a, ks, rfl, SqL.of h2, fun p hp => b.st (g3 p hp), hlen, fun c L hc hL hk => ?_⟩
        have hall : ∀ p ∈ ks, p.2.length = wid kss ∧ TS.Bd (bnd kss) p.2 := fun p hp => by
          have hm : p.2 ∈ kss := by rw [← g2]; exact List.mem_map_of_mem hp
          have h4 := List.all_eq_true.mp z3 p.2 hm
          obtain ⟨h5, h6⟩ := and_both h4
          refine ⟨of_decide_eq_true h5, fun m hmm => ?_⟩
          have h0 : ∀ m ∈ kss.flatten, 0 ≤ m := fun m hm2 => by
            obtain ⟨l, hl, hml⟩ := List.mem_flatten.mp hm2
            have h7 := List.all_eq_true.mp z3 l hl
            exact of_decide_eq_true (List.all_eq_true.mp (and_both h7).2 m hml)
          obtain ⟨_, h8⟩ := sum_ge h0
          have h9 : m ∈ kss.flatten := List.mem_flatten.mpr ⟨p.2, hm, hmm⟩
          have h10 := h8 m h9
          exact ⟨h0 m h9, by unfold bnd; omega⟩
        refine ⟨c, L, wid kss, bnd kss, rfl, upd_same, fun p hp => (Ex.new hc).st (b.st (g3 p (hL p hp))), of_decide_eq_true z2, fun p hp => hall p (hL p hp), fun L' pp pm nd few pw hpp => ?_⟩
        have hH : H pp = none := by
          cases q : H pp with
          | none => rfl
          | some o => rw [Ex.new hc pp o q] at hpp; cases hpp
        have hbp : B pp = none := by
          cases q : B pp with
          | none => rfl
          | some o => rw [b pp o q] at hH; cases hH
        have hs : L'.map (·.2) = sortT kss := by
          refine asc_eq ?_ (sortT_asc kss) fun x => ?_
          · rw [List.pairwise_map]
            have nd' : L'.Pairwise (fun q r => q.2 ≠ r.2) := by
              have := nd
              unfold List.Nodup at this
              rwa [List.pairwise_map] at this
            have both := pw.and nd'
            refine both.imp_of_mem fun {q r} hq hr hqr => ?_
            have m1 := hall q (hL q (pm.mem_iff.mp hq))
            have m2 := hall r (hL r (pm.mem_iff.mp hr))
            exact code_lexLt (m1.1.trans m2.1.symm) m1.2 m2.2 hqr.2 hqr.1
          · rw [sortT_mem]
            constructor
            · intro hx
              obtain ⟨q, hq, rfl⟩ := List.mem_map.mp hx
              rw [← g2]
              exact List.mem_map_of_mem (hL q (pm.mem_iff.mp hq))
            · intro hx
              rw [← g2] at hx
              obtain ⟨q, hq, rfl⟩ := List.mem_map.mp hx
              have := hk q hq
              obtain ⟨r, hr, e⟩ := List.mem_map.mp this
              rw [← e]
              exact List.mem_map_of_mem (pm.mem_iff.mpr hr)
        have n : New B H (upd B pp (.lst (L'.map fun q => V.ref q.1))) (upd (upd H c (SetTO X.prog X.w c L)) pp (.lst (L'.map fun q => V.ref q.1))) := by
          refine ⟨Ex.new hbp, (Ex.new hc).trans (Ex.new hpp), fun x o e => ?_, fun x e1 e2 => ?_⟩
          · by_cases w : x = pp
            · rw [w, upd_same] at e ⊢; exact e
            · rw [upd_ne w] at e ⊢; exact Ex.new hc x o (b x o e)
          · have w : x ≠ pp := fun w => e1 (by rw [w]; exact hH)
            rw [upd_ne w]; exact e2
        refine k _ _ _ n ⟨pp, _, rfl, upd_same, ?_⟩
        rw [← hs]
        exact (ks_dat fun p hp => g3 p (hL p (pm.mem_iff.mp hp))).mono n.bb
      · rw [if_neg z] at ef; cases ef
    · cases ef
end
end DL

end

section
set_option Elab.async false
set_option linter.all false
set_option maxRecDepth 100000
set_option maxHeartbeats 2000000
/-! max of two things whose order hangs on the heap: the walk of max's own loop, the comparison asked at states that keep h0 -/
namespace DL
open PySem PySem.Spec PyProof.Rows
def Kp (h0 h : Heap) : Prop := ∀ b o, h0.get? b = some o → h.get? b = some o
def CmpK (P : Program) (w : World) (A : Around) (h0 : Heap) (it : Nat → Value → Prop) (bt : Nat → Nat → Bool) : Prop :=
  ∀ i j vi vj (s : Shared) (Q : Value → Shared → Prop) (E : Value → Shared → Prop), Kp h0 s.heap → it i vi → it j vj → Q (.bool (bt i j)) s → wpAny (model P w) A (richCompare .Gt vi vj) Q E s
section
variable {P : Program} {w : World} {A : Around} {R : Result → Shared → Prop} {I S : Addr} {fp wr : List Addr} {n : Nat} {it : Nat → Value → Prop} {Sn : Nat → Heap → Prop} {h0 : Heap}
theorem max_rounds (W : Walks P w A.in1 I fp wr n it Sn) (bt : Nat → Nat → Bool) (cmp : CmpK P w A.in1 h0 it bt) (nS : S ∉ fp) (hw : ∀ b ∈ wr, h0.get? b = none) (hS0 : h0.get? S = none) :
    ∀ (k j : Nat) (s : Shared) (vb : Value) (c : Nat), n - (j + 1) = k → j + 1 ≤ n → Kp h0 s.heap → Sn (j + 1) s.heap → it (argBest bt j) vb →
    s.heap.get? S = some { cls := .type "list", dict := none, data := .seq #[vb, vb] c, slots := #[] } →
    (∀ v h' tk, it (argBest bt (n - 1)) v → (∀ b o, b ∉ wr → b ≠ S → s.heap.get? b = some o → h'.get? b = some o) → R (.ok (.ret v)) { s with heap := h', toks := tk }) →
    codeAny (model P w) A (.builtin "max.loop" ⟨[.ref I, .none, .ref S], []⟩) R s := by
  have nw : S ∉ wr := fun h => nS (W.sub _ h)
  have nm : (toString "max" ++ toString ".loop" : String) = "max.loop" := by decide
  have keepW : ∀ {h h' : Heap}, Kp h0 h → (∀ b o, b ∉ wr → h.get? b = some o → h'.get? b = some o) → Kp h0 h' := fun a b x o e => b x o (fun m => by rw [hw x m] at e; cases e) (a x o e)
  have keepS : ∀ {h : Heap} {f : Obj → Obj}, Kp h0 h → Kp h0 (h.update S f) := fun a x o e => (Heap.get?_update_other _ _ (fun z : S = x => by rw [← z, hS0] at e; cases e)).trans (a x o e)
  intro k
  induction k with
  | zero =>
    intro j s vb c hk hj kp hst best hS fin
    have last : j + 1 = n := by omega
    refine codeAny_builtin F.entry_max_loop ?_
    rw [Around.under_plainId F.plain_max_loop _]
    show wpAny _ A.in1 (seqItems? (.ref S) >>= _) _ _ s
    refine wpAny_bind (wpAny_seqItems hS rfl ?_)
    show wpAny _ A.in1 (tryCatch (pyNext (.ref I)) _ >>= _) _ _ s
    refine wpAny_bind (wpAny_tryCatch (W.done s _ _ (last ▸ hst) fun h' tk hk' => ?_))
    have hS' := hk' S _ nw hS
    show wpAny _ A.in1 (updateSeq S (fun _ => #[]) >>= _) _ _ _
    refine wpAny_bind (wpAny_updateSeq hS' rfl (wpAny_bind (wpAny_letGo (wpAny_pure ?_))))
    exact fin vb _ tk (by rw [← last]; exact best) fun b o hbw hbS e => (Heap.get?_update_other _ _ (Ne.symm hbS)).trans (hk' b o hbw e)
  | succ k ih =>
    intro j s vb c hk hj kp hst best hS fin
    have more : j + 1 < n := by omega
    refine codeAny_builtin F.entry_max_loop ?_
    rw [Around.under_plainId F.plain_max_loop _]
    show wpAny _ A.in1 (seqItems? (.ref S) >>= _) _ _ s
    refine wpAny_bind (wpAny_seqItems hS rfl ?_)
    show wpAny _ A.in1 (tryCatch (pyNext (.ref I)) _ >>= _) _ _ s
    refine wpAny_bind (wpAny_tryCatch (W.item (j + 1) s _ _ more hst fun v h' tk hv hst' hk' => ?_))
    have hS' := hk' S _ nw hS
    have kp' := keepW kp hk'
    show wpAny _ A.in1 (tryCatch (holding [v, v] (richCompare .Gt v vb >>= _)) _ >>= _) _ _ _
    refine wpAny_bind (wpAny_tryCatch (wpAny_holding (wpAny_bind (cmp (j + 1) (argBest bt j) v vb _ _ _ kp' hv best ?_))))
    refine wpAny_bind (wpAny_holding (wpAny_truthy_bool ?_))
    refine wpAny_bind (wpAny_letGo (wpAny_pure ?_))
    cases hb : bt (j + 1) (argBest bt j) with
    | true =>
      simp only [if_true]
      refine wpAny_bind (wpAny_updateSeq hS' rfl (wpAny_bind (wpAny_letGo ?_)))
      rw [nm]
      refine wpAny_pure ⟨plainId_quiet F.plain_max_loop _, ih (j + 1) _ v _ (by omega) more (keepS kp') (W.frame _ _ _ hst' fun b hbf o e => (Heap.get?_update_other _ _ (fun z : S = b => nS (by rw [z]; exact hbf))).trans e) (by simp only [argBest, hb, if_true]; exact hv) (Heap.get?_update_self _ hS' rfl)
        fun v' h'' tk'' hP' hk'' => ?_⟩
      exact fin v' h'' tk'' hP' fun b o hbw hbS e => hk'' b o hbw hbS ((Heap.get?_update_other _ _ (Ne.symm hbS)).trans (hk' b o hbw e))
    | false =>
      simp only [Bool.false_eq_true, if_false]
      refine wpAny_bind (wpAny_letGo ?_)
      rw [nm]
      refine wpAny_pure ⟨plainId_quiet F.plain_max_loop _, ih (j + 1) _ vb c (by omega) more kp' hst' (by simp only [argBest, hb, Bool.false_eq_true, if_false]; exact best) hS' fun v' h'' tk'' hP' hk'' => ?_⟩
      exact fin v' h'' tk'' hP' fun b o hbw hbS e => hk'' b o hbw hbS (hk' b o hbw e)
theorem max_begin (W : Walks P w A.in1 I fp wr n it Sn) (bt : Nat → Nat → Bool) (cmp : CmpK P w A.in1 h0 it bt) (nS : S ∉ fp) (hw : ∀ b ∈ wr, h0.get? b = none) (hS0 : h0.get? S = none) (hn : 0 < n) {s : Shared} {c : Nat} (kp : Kp h0 s.heap) (hst : Sn 0 s.heap)
    (hS : s.heap.get? S = some { cls := .type "list", dict := none, data := .seq #[] c, slots := #[] })
    (fin : ∀ v h' tk, it (argBest bt (n - 1)) v → (∀ b o, b ∉ wr → b ≠ S → s.heap.get? b = some o → h'.get? b = some o) → R (.ok (.ret v)) { s with heap := h', toks := tk }) :
    codeAny (model P w) A (.builtin "max.loop" ⟨[.ref I, .none, .ref S], []⟩) R s := by
  have nw : S ∉ wr := fun h => nS (W.sub _ h)
  have nm : (toString "max" ++ toString ".loop" : String) = "max.loop" := by decide
  refine codeAny_builtin F.entry_max_loop ?_
  rw [Around.under_plainId F.plain_max_loop _]
  show wpAny _ A.in1 (seqItems? (.ref S) >>= _) _ _ s
  refine wpAny_bind (wpAny_seqItems hS rfl ?_)
  show wpAny _ A.in1 (tryCatch (pyNext (.ref I)) _ >>= _) _ _ s
  refine wpAny_bind (wpAny_tryCatch (W.item 0 s _ _ hn hst fun v h' tk hv hst' hk' => ?_))
  have hS' := hk' S _ nw hS
  have kp' : Kp h0 h' := fun x o e => hk' x o (fun m => by rw [hw x m] at e; cases e) (kp x o e)
  show wpAny _ A.in1 (updateSeq S (fun _ => #[v, v]) >>= _) _ _ _
  refine wpAny_bind (wpAny_updateSeq hS' rfl ?_)
  rw [nm]
  refine wpAny_pure ⟨plainId_quiet F.plain_max_loop _, max_rounds W bt cmp nS hw hS0 _ 0 _ v _ rfl hn (fun x o e => (Heap.get?_update_other _ _ (fun z : S = x => by rw [← z, hS0] at e; cases e)).trans (kp' x o e))
    (W.frame _ _ _ hst' fun b hbf o e => (Heap.get?_update_other _ _ (fun z : S = b => nS (by rw [z]; exact hbf))).trans e) hv (Heap.get?_update_self _ hS' rfl) fun v' h'' tk'' hP' hk'' => ?_⟩
  exact fin v' h'' tk'' hP' fun b o hbw hbS e => hk'' b o hbw hbS ((Heap.get?_update_other _ _ (Ne.symm hbS)).trans (hk' b o hbw e))
/-- max(a, b) -/
theorem max2K {a b : Value} {s : Shared} {E : Value → Shared → Prop} {Q : Value → Shared → Prop} (hh : A.handled = none) (bt : Nat → Nat → Bool) (cmp : CmpK P w A.in1 s.heap (fun i v => #[a, b][i]? = some v) bt)
    (fin : ∀ h' tk, Kp s.heap h' → Q (if bt 1 0 = true then b else a) { s with heap := h', toks := tk }) : wpAny (model P w) A (PySem.call (.builtin "max") [a, b]) Q E s := by
  have nm : (toString "max" ++ toString ".loop" : String) = "max.loop" := by decide
  refine call_function_tree F.kind_max F.plain_max F.entry_max (F.args_max2 _ _) ?_
  show wpAny _ A.in1 (Builtin.Builtins.bindParams "max" ["key", "default"] 0 ⟨[], []⟩ >>= _) _ _ s
  refine wpAny_bind (wpAny_of_eq (show Builtin.Builtins.bindParams "max" ["key", "default"] 0 ⟨[], []⟩ = pure [none, none] from rfl) ?_)
  show wpAny _ A.in1 (newTuple [a, b] >>= _) _ _ s
  refine wpAny_bind (wpAny_newObj_type ?_)
  have hT : (s.heap.push { cls := .type "tuple", data := .seq #[a, b] }).IsTuple s.heap.objs.size #[a, b] := ⟨_, Heap.get?_push_size _ rfl, rfl, 0, rfl⟩
  have z1 : (s.heap.push { cls := .type "tuple", data := .seq #[a, b] }).objs.size = s.heap.objs.size + 1 := Heap.size_push ..
  refine wpAny_bind (wpAny_pyIter_tuple hT ?_)
  refine wpAny_bind (wpAny_newObj_type ?_)
  rw [nm]
  have out : ∀ k, s.heap.objs.size ≤ k → s.heap.get? k = none := fun k hk => by
    cases q : s.heap.get? k with
    | none => rfl
    | some o => exact absurd (Nat.lt_of_lt_of_le (Heap.lt_size q) hk) (Nat.lt_irrefl _)
  have z2 : ((s.heap.push { cls := .type "tuple", data := .seq #[a, b] }).push { cls := .type "tuple_iterator", data := .fields #[.ref s.heap.objs.size, .int 0 0] }).objs.size = s.heap.objs.size + 2 := by rw [Heap.size_push, z1]
  refine wpAny_pure ⟨plainId_quiet F.plain_max_loop _, ?_⟩
  have push2 : ∀ {x : Addr} {o u v : Obj}, s.heap.get? x = some o → ((s.heap.push u).push v).get? x = some o := fun e => Heap.get?_push_of_some _ (Heap.get?_push_of_some _ e)
  refine max_begin (c := 0) (h0 := s.heap) (Walks.tuple (A := A.in1) hh _ s.heap.objs.size (by show s.heap.objs.size ≠ (s.heap.push _).objs.size; rw [z1]; exact Nat.ne_of_lt (Nat.lt_succ_self _)) #[a, b]) bt cmp ?_ ?_ ?_ (show 0 < 2 by decide) ?_ ?_ ?_ ?_
  · show ((s.heap.push _).push _).objs.size ∉ [(s.heap.push _).objs.size, s.heap.objs.size]
    rw [z2, z1]
    intro m
    rcases List.mem_cons.mp m with m | m
    · exact absurd m (by omega)
    · rcases List.mem_cons.mp m with m | m
      · exact absurd m (by omega)
      · cases m
  · intro x m
    rw [List.mem_singleton.mp m]
    exact out _ (by show s.heap.objs.size ≤ (s.heap.push _).objs.size; rw [z1]; omega)
  · show s.heap.get? ((s.heap.push _).push _).objs.size = none
    exact out _ (by rw [z2]; omega)
  · exact fun x o e => Heap.get?_push_of_some _ (push2 e)
  · exact ⟨⟨_, Heap.get?_push_of_some _ (Heap.get?_push_size _ rfl), rfl, rfl⟩, (hT.push _).push _⟩
  · exact Heap.get?_push_size _ rfl
  · intro v h' tk hv hk
    have e : v = if bt 1 0 = true then b else a := by
      have hv' : #[a, b][if bt 1 0 = true then 1 else 0]? = some v := hv
      by_cases q : bt 1 0 = true
      · rw [if_pos q] at hv' ⊢
        have : some b = some v := hv'
        cases this
        rfl
      · rw [if_neg q] at hv' ⊢
        have : some a = some v := hv'
        cases this
        rfl
    rw [e]
    refine fin h' tk fun x o ex => hk x o (fun m => ?_) (fun m => ?_) (Heap.get?_push_of_some _ (push2 ex))
    · have hx := Heap.lt_size ex
      have m' : x = (s.heap.push { cls := .type "tuple", data := .seq #[a, b] }).objs.size := List.mem_singleton.mp m
      have hx' : (x : Nat) < s.heap.objs.size := hx
      have m2 : (x : Nat) = s.heap.objs.size + 1 := m'.trans z1
      rw [m2] at hx'
      exact absurd hx' (Nat.not_lt.mpr (Nat.le_add_right _ _))
    · have hx := Heap.lt_size ex
      have m' : x = ((s.heap.push { cls := .type "tuple", data := .seq #[a, b] }).push { cls := .type "tuple_iterator", data := .fields #[.ref s.heap.objs.size, .int 0 0] }).objs.size := m
      have hx' : (x : Nat) < s.heap.objs.size := hx
      have m2 : (x : Nat) = s.heap.objs.size + 2 := m'.trans z2
      rw [m2] at hx'
      exact absurd hx' (Nat.not_lt.mpr (Nat.le_add_right _ _))
end
open PySem L2
/-! ### max(t, u) of two tuples of ints -/
def fMaxT : List D → Option D
  | [.nd .tup ds, .nd .tup es] => (intsD ds).bind fun ns => (intsD es).map fun ms => if HT.lexLt ns ms = true then .nd .tup es else .nd .tup ds
  | [.int i, .int j] => some (.int (if j > i then j else i))
  | _ => none
def rMaxT (K : PySem.W.Frag) : List V → Hp → VK → Prop := fun xs H Q => ∃ a b ns ms, xs = [.ref a, .ref b] ∧ SqT K H a (ns.map V.int) ∧ SqT K H b (ms.map V.int) ∧ Q (if HT.lexLt ns ms = true then .ref b else .ref a) H
theorem lexAt_gt : ∀ (ns ms : List Int), Ob.lexAt (fun j => decide (ms.getD j 0 = ns.getD j 0)) (fun j => decide (ns.getD j 0 < ms.getD j 0)) (decide (ms.length > ns.length)) 0 (min ms.length ns.length) = HT.lexLt ns ms
  | [], [] => by simp [Ob.lexAt_zero, HT.lexLt]
  | [], m :: ms => by simp [Ob.lexAt_zero, HT.lexLt]
  | x :: xs, [] => by simp [Ob.lexAt_zero, HT.lexLt]
  | x :: xs, y :: ys => by
    rw [show min (y :: ys).length (x :: xs).length = min ys.length xs.length + 1 by simp only [List.length_cons]; omega, Ob.lexAt_succ, lexAt_shift]
    have h : decide ((y :: ys).length > (x :: xs).length) = decide (ys.length > xs.length) := by simp
    rw [h]
    show (if decide (y = x) = true then Ob.lexAt (fun j => decide (ys.getD j 0 = xs.getD j 0)) (fun j => decide (xs.getD j 0 < ys.getD j 0)) (decide (ys.length > xs.length)) 0 (min ys.length xs.length) else decide (x < y)) = _
    rw [lexAt_gt xs ys, HT.lexLt_cons]
    by_cases e : x = y
    · simp [e]
    · rw [if_neg e, if_neg (by simpa using fun q => e q.symm)]
theorem gt_tups {A : Around} {s : Shared} {a b : Addr} {its its2 : List Value} {ns ms : List Int} (h1 : s.heap.IsTuple a its.toArray) (h2 : s.heap.IsTuple b its2.toArray) (i1 : IntsAre its ns) (i2 : IntsAre its2 ms) (hu : A.units < cLine) :
    Ob.RcOp .Gt A s (.ref a) (.ref b) (HT.lexLt ms ns) := by
  have e1 : its.toArray.size = ns.length := by rw [List.size_toArray]; exact i1.length
  have e2 : its2.toArray.size = ms.length := by rw [List.size_toArray]; exact i2.length
  have at1 : ∀ j (h1 : j < its.toArray.size), ∃ t, its.toArray[j] = .int (ns.getD j 0) t := fun j h1 => PyProof.Rows.IntsAre.int_at i1 _ _ (by simp at h1; simp [h1])
  have at2 : ∀ j (h1 : j < its2.toArray.size), ∃ t, its2.toArray[j] = .int (ms.getD j 0) t := fun j h1 => PyProof.Rows.IntsAre.int_at i2 _ _ (by simp at h1; simp [h1])
  have R := Ob.RcOp.tuples_gt (A := A) (s := s) (e := fun j => decide (ns.getD j 0 = ms.getD j 0)) (r := fun j => decide (ms.getD j 0 < ns.getD j 0)) h1 h2 hu (fun j g1 g2 => by
    obtain ⟨t, et⟩ := at1 j g1
    obtain ⟨t', et'⟩ := at2 j g2
    rw [et, et']
    have z : (ns.getD j 0 == ms.getD j 0) = decide (ns.getD j 0 = ms.getD j 0) := by
      by_cases q : ns.getD j 0 = ms.getD j 0
      · rw [decide_eq_true q]; exact beq_iff_eq.mpr q
      · rw [decide_eq_false q]; exact beq_eq_false_iff_ne.mpr q
    rw [← z]
    exact SeqAt.EqAt.int_int _ _ _ _) (fun j g1 g2 _ => by
    obtain ⟨t, et⟩ := at1 j g1
    obtain ⟨t', et'⟩ := at2 j g2
    rw [et, et']
    exact Ob.RcOp.gt_int _ _ _ _)
  rw [e1, e2, lexAt_gt ms ns] at R
  exact R
theorem call_maxT {X : Cx} (hc : X.calm = true) (hu : X.A.units + 4 < cLine) : CallR X (.builtin "max") (rMaxT X.K) := by
  intro pins s σ H xs us Q I r h
  obtain ⟨a, b, ns, ms, rfl, h1, h2, q⟩ := h
  obtain ⟨u, w, rfl, r1, r2⟩ := vals2 r
  cases r1
  cases r2
  obtain ⟨its, r1, p1, _⟩ := I.tuple h1
  obtain ⟨its2, r2, p2, _⟩ := I.tuple h2
  have i1 : IntsAre its ns := Vals.ints r1
  have i2 : IntsAre its2 ms := Vals.ints r2
  have hin : X.A.in1.units < cLine := by rw [PyProof.Rows.units_in1]; omega
  refine max2K (I.ok.hd hc) (fun i j => HT.lexLt (if j = 0 then ns else ms) (if i = 0 then ns else ms)) (fun i j vi vj s' Q' E' kp hi hj hq => ?_) fun h' tk kp => ?_
  · have t1 : s'.heap.IsTuple a its.toArray := let ⟨o, ho, z⟩ := p1; ⟨o, kp _ _ ho, z⟩
    have t2 : s'.heap.IsTuple b its2.toArray := let ⟨o, ho, z⟩ := p2; ⟨o, kp _ _ ho, z⟩
    have go : ∀ (i : Nat) (v : Value), #[Value.ref a, Value.ref b][i]? = some v → ∃ c ks its3, v = .ref c ∧ (if i = 0 then ns else ms) = ks ∧ s'.heap.IsTuple c its3.toArray ∧ IntsAre (its3 : List Value) ks := fun i v e => by
      match i, e with
      | 0, e =>
        cases (show some (Value.ref a) = some v from e)
        exact ⟨a, ns, its, rfl, rfl, t1, i1⟩
      | 1, e =>
        cases (show some (Value.ref b) = some v from e)
        exact ⟨b, ms, its2, rfl, rfl, t2, i2⟩
      | n + 2, e => simp at e
    obtain ⟨c1, k1, x1, rfl, e1, g1, g2⟩ := go i vi hi
    obtain ⟨c2, k2, x2, rfl, e2, f1, f2⟩ := go j vj hj
    have R := gt_tups g1 f1 g2 f2 hin
    have hq' : Q' (.bool (HT.lexLt k2 k1)) s' := by
      rw [← e1, ← e2]
      exact hq
    exact R X.prog X.w E' Q' hq'
  · have J : Inv X pins σ H { s with heap := h', toks := tk } := I.kept kp
    show EP X pins σ Q (if HT.lexLt ns ms = true then Value.ref b else Value.ref a) _
    by_cases z : HT.lexLt ns ms = true
    · rw [if_pos z] at q ⊢; exact ⟨.ref b, H, J, rfl, q⟩
    · rw [if_neg z] at q ⊢; exact ⟨.ref a, H, J, rfl, q⟩
theorem CallR.or {X : Cx} {f : Value} {r r' : List V → Hp → VK → Prop} (h : CallR X f r) (h' : CallR X f r') : CallR X f (fun xs H Q => r xs H Q ∨ r' xs H Q) := fun pins s σ H xs us Q I rx z => z.elim (fun z => h pins s σ H xs us Q I rx z) fun z => h' pins s σ H xs us Q I rx z
theorem p_max {X : Cx} (hc : X.calm = true) (hu : X.A.units + 4 < cLine) : ∃ r, CallR X (.builtin "max") r ∧ OpA X.K r fMaxT := ⟨_, CallR.or (call_maxT hc hu) (call_max2 hc), fun B H vs ds g Q b sh ef k => by
  unfold fMaxT at ef
  split at ef
  · rename_i ds es
    obtain ⟨ns, e1, ef⟩ := ob ef
    cases q : intsD es with
    | none => rw [q] at ef; cases ef
    | some ms =>
      rw [q] at ef
      cases ef
      obtain ⟨v, w, rfl, s1, s2⟩ := sh.two rfl
      obtain ⟨a, vs, rfl, h2, h3⟩ := s1
      obtain ⟨c, ws, rfl, g2, g3⟩ := s2
      have i1 := intsD_vs h3 e1
      have i2 := intsD_vs g3 q
      subst i1 i2
      refine Or.inl ⟨a, c, ns, ms, rfl, b.st h2, b.st g2, ?_⟩
      by_cases z : HT.lexLt ns ms = true
      · simp only [if_pos z] at k ⊢; exact k _ B H (New.refl b) ⟨c, _, rfl, g2, g3⟩
      · simp only [if_neg z] at k ⊢; exact k _ B H (New.refl b) ⟨a, _, rfl, h2, h3⟩
  · rename_i i j
    cases ef
    obtain ⟨v, w, rfl, s1, s2⟩ := sh.two rfl
    cases (show v = .int i from s1)
    cases (show w = .int j from s2)
    exact Or.inr ⟨i, j, rfl, k _ B H (New.refl b) rfl⟩
  · cases ef⟩
end DL

end

section
set_option Elab.async false
set_option linter.all false
set_option maxRecDepth 100000
set_option maxHeartbeats 2000000
namespace DL
open PySem L2

/-! ### several owned values -/
abbrev MOs := Env → Option (List T × Env)
structure OwnXs (K : PySem.W.Frag) (B H : Hp) (F : Nat → Addr → Prop) (G : Addr → Prop) (ts : List T) (vs : List V) : Prop where
  own : OwnL K B H G ts vs
  nb : ∀ a, G a → B a = none
  al : ∀ a, G a → H a ≠ none
  dj : ∀ i a, G a → ¬ F i a
def tOs (K : PySem.W.Frag) (m : MOs) : TA := fun σ H Q => ∃ B ρ F, St K B H σ ρ F ∧ ∃ ts ρ', m ρ = some (ts, ρ') ∧ ∀ vs B' H' F' G, Ext B H (U F) B' H' (fun a => U F' a ∨ G a) → St K B' H' σ ρ' F' → OwnXs K B' H' F' G ts vs → Q vs H'
def osN : MOs := fun ρ => some ([], ρ)
def osC (a : MO) (as : MOs) : MOs := fun ρ => (a ρ).bind fun x => (as x.2).bind fun y => some (x.1 :: y.1, y.2)
section
variable {X : Cx} {p q : Bool} {pos : Pos} {io : Io}
theorem os_nil : PA X [] (tOs X.K osN) := paW pa_nil fun σ H Q h => by
  obtain ⟨B, ρ, F, S, as, ρ', e, k⟩ := h
  cases (show some ([], ρ) = some (as, ρ') from e)
  exact k [] B H F (fun _ => False) (Ext.refl.less fun a z => z.elim (fun y => y) fun y => y.elim) S ⟨rfl, fun _ z => z.elim, fun _ z => z.elim, fun _ _ z => z.elim⟩
theorem os_cons {e : Expr} {es : List Expr} {ma : MO} {ms : MOs} (ha : PE X e (tO X.K ma)) (hs : PA X es (tOs X.K ms)) (h : starEach (e :: es) X.env = (false, eval e X.env) :: starEach es X.env := by rfl) :
    PA X (e :: es) (tOs X.K (osC ma ms)) := paW (pa_cons ha hs h) fun σ H Q h => by
  obtain ⟨B, ρ, F, S, as, ρ', e, k⟩ := h
  obtain ⟨⟨t, ρ1⟩, ea, e⟩ := ob e
  obtain ⟨⟨ts, ρ2⟩, eb, e⟩ := ob e
  cases e
  refine ⟨B, ρ, F, S, t, ρ1, ea, fun v1 B1 H1 F1 G1 E1 S1 O1 => ⟨B1, ρ1, F1, S1, ts, ρ2, eb, fun vs B2 H2 F2 G2 E2 S2 O2 => ?_⟩⟩
  have g1 : ∀ a, G1 a → ¬ U F1 a := fun a z ⟨i, y⟩ => O1.dj i a z y
  have d12 : ∀ a, G2 a → ¬ G1 a := fun a z y => E2.nf a (O1.al a y) (g1 a y) (Or.inr z)
  refine k (v1 :: vs) B2 H2 F2 (fun a => G1 a ∨ G2 a) ⟨E1.bb.trans E2.bb, fun a o z n => E2.fr a o (E1.fr a o z n) fun y => E1.nf a (by rw [z]; exact fun q => nomatch q) n (Or.inl y), fun a z n y => ?_, fun a z n y => ?_⟩ S2
    ⟨⟨v1, vs, G1, rfl, fun a z => Or.inl z, O1.own.frame E2.bb fun a o z y => E2.fr a o y (g1 a z), O2.own.mono fun a z => ⟨Or.inr z, d12 a z⟩⟩, fun a z => ?_, fun a z => ?_, fun i a z => ?_⟩
  · have h1 : ¬ U F1 a := fun y => E1.nf a z n (Or.inl y)
    have h2 : H1 a ≠ none := by
      cases q : H a with
      | none => exact absurd q z
      | some o => rw [E1.fr a o q n]; exact fun z => nomatch z
    exact E2.nb a h2 h1 (E1.nb a z n y)
  · have h1 : ¬ U F1 a := fun y => E1.nf a z n (Or.inl y)
    have h2 : H1 a ≠ none := by
      cases q : H a with
      | none => exact absurd q z
      | some o => rw [E1.fr a o q n]; exact fun z => nomatch z
    rcases y with y | y | y
    · exact E2.nf a h2 h1 (Or.inl y)
    · exact E1.nf a z n (Or.inr y)
    · exact E2.nf a h2 h1 (Or.inr y)
  · rcases z with z | z
    · exact E2.nb a (O1.al a z) (g1 a z) (O1.nb a z)
    · exact O2.nb a z
  · rcases z with z | z
    · cases q : H1 a with
      | none => exact absurd q (O1.al a z)
      | some o => rw [E2.fr a o q (g1 a z)]; exact fun z => nomatch z
    · exact O2.al a z
  · rcases z with z | z
    · exact fun y => E2.nf a (O1.al a z) (g1 a z) (Or.inl ⟨i, y⟩)
    · exact O2.dj i a z
/-- a written list, its parts ours too -/
def oLs (as : MOs) : MO := fun ρ => (as ρ).bind fun z => if (!decide (z.1.length ≤ 100000)) = true then none else some (.nd .lst z.1, z.2)
theorem own_node {K : PySem.W.Frag} {B H H0 B0 : Hp} {F0 : Addr → Prop} {σ : L2.St} {ρ : Env} {F : Nat → Addr → Prop} {G : Addr → Prop} {ts : List T} {vs : List V} {pp : Addr} {o : HO} {kd : DK} (S : St K B H σ ρ F) (E : Ext B0 H0 F0 B H (fun a => U F a ∨ G a)) (O : OwnXs K B H F G ts vs) (hp : H pp = none) (on : OwnN K (upd H pp o) kd pp vs)
    (h0 : H0 pp ≠ none → F0 pp) :
    Ext B0 H0 F0 B (upd H pp o) (fun a => U F a ∨ (G a ∨ a = pp)) ∧ St K B (upd H pp o) σ ρ F ∧ OwnX K B (upd H pp o) F (fun a => G a ∨ a = pp) (.nd kd ts) (.ref pp) := by
  obtain ⟨n1, n2, n3, n4, n5⟩ := new_own S (o := o) hp
  have gp : ¬ G pp := fun z => O.al pp z hp
  refine ⟨⟨E.bb, fun a o' z n => Ex.new hp a o' (E.fr a o' z n), E.nb, fun a z n y => ?_⟩, n2, ⟨⟨pp, vs, rfl, Or.inr rfl, on, (O.own.frame (Ex.refl _) fun a o' _ q => Ex.new hp a o' q).mono fun a z => ⟨Or.inl z, fun q => gp (q ▸ z)⟩⟩, fun a z => ?_, fun a z => ?_, fun i a z => ?_⟩⟩
  · rcases y with y | y | y
    · exact E.nf a z n (Or.inl y)
    · exact E.nf a z n (Or.inr y)
    · rw [y] at z n; exact n (h0 z)
  · rcases z with z | z
    · exact O.nb a z
    · exact n3 a z
  · rcases z with z | z
    · cases q : H a with
      | none => exact absurd q (O.al a z)
      | some u => rw [Ex.new hp a u q]; exact fun z => nomatch z
    · exact n4 a z
  · rcases z with z | z
    · exact O.dj i a z
    · exact n5 i a z
theorem o_ls {es : List Expr} {ms : MOs} (h : PA X es (tOs X.K ms)) : PE X (.List es pos) (tO X.K (oLs ms)) := peW (pe_lst h) fun σ H Q h => by
  obtain ⟨B, ρ, F, S, t, ρ', e, k⟩ := h
  obtain ⟨⟨ts, ρ1⟩, ea, e⟩ := ob e
  obtain ⟨es, e⟩ := og e
  cases e
  refine ⟨B, ρ, F, S, ts, ρ1, ea, fun vs B1 H1 F1 G1 E1 S1 O1 => ⟨by rw [← O1.own.len]; exact Nat.le_trans (of_decide_eq_true (by simpa using es)) (by decide), fun pp hp => ?_⟩⟩
  obtain ⟨a1, a2, a3⟩ := own_node (kd := .lst) (o := .lst vs) S1 E1 O1 hp upd_same fun z => by
    by_cases y : U F pp
    · exact y
    · cases q : H pp with
      | none => exact absurd q z
      | some o => rw [E1.fr pp o q y] at hp; cases hp
  exact k _ B1 _ F1 _ a1 a2 a3
/-- a, b = e1, e2 -/
def sPar (i j : Nat) (m : MOs) : MS := fun ρ => (m ρ).bind fun x => match x.1 with
  | [t, u] => (put i t x.2).bind fun ρ1 => (put j u ρ1).bind fun ρ2 => some (.nx, ρ2)
  | _ => none
theorem s_par {i j : Nat} {x y : Str} {a b : Expr} {ms : MOs} {px py pt : Pos} {kt k2 pt2} (hc : X.calm = true) (hN : X.N.Nodup) (ha : PA X [a, b] (tOs X.K ms)) (hi : X.N[i]? = some x := by rfl) (hj : X.N[j]? = some y := by rfl) (hij : i ≠ j := by decide)
    (hx : X.env.scope.names.lookup x = some .local := by rfl) (hy : X.env.scope.names.lookup y = some .local := by rfl) (hio : io i = false := by rfl) (hjo : io j = false := by rfl)
    (hw : swappedStores [.Tuple [.Name x px, .Name y py] kt pt] (.Tuple [a, b] k2 pt2) X.env = pure (some [x, y]) := by rfl)
    (hs : swapsWithSole [.Tuple [.Name x px, .Name y py] kt pt] (.Tuple [a, b] k2 pt2) pos.line X.env = pure false := by rfl) :
    PS X (.Assign [.Tuple [.Name x px, .Name y py] kt pt] (.Tuple [a, b] k2 pt2) pos) (tS X.K io (sPar i j ms)) := psW (ps_par hc hN hi hj hij hx hy ha hw hs) fun Z σ H h => by
  obtain ⟨B, ρ, F, S, fl, ρ', e, k⟩ := tS_eq.mp h
  obtain ⟨⟨ts, ρ1⟩, ea, e⟩ := ob e
  refine ⟨B, ρ, F, S, ts, ρ1, ea, fun vs B1 H1 F1 G1 E1 S1 O1 => ?_⟩
  match ts, e, O1 with
  | [t, u], e, ⟨⟨v, r, G2, h1, h2, h3, w, r2, G3, h4, h5, h6, h7⟩, O2, O3, O4⟩ =>
    obtain ⟨ρ2, e1, e⟩ := ob (show (put i t ρ1).bind _ = some (fl, ρ') from e)
    obtain ⟨ρ3, e2, e⟩ := ob e
    cases e
    cases (show r2 = [] from h7)
    subst h4 h1
    refine ⟨v, w, rfl, ?_⟩
    obtain ⟨F2, u2, S2⟩ := put_own S1 (t := t) (v := v) (G := G2) ⟨h3, fun a z => O2 a (h2 a z), fun a z => O3 a (h2 a z), fun i a z => O4 i a (h2 a z)⟩ e1
    have dj3 : ∀ l a, G3 a → ¬ F2 l a := fun l a z y => by
      rcases u2 a ⟨l, y⟩ with y | y
      · obtain ⟨l', y⟩ := y; exact O4 l' a (h5 a z).1 y
      · exact (h5 a z).2 y
    obtain ⟨F3, u3, S3⟩ := put_own S2 (t := u) (v := w) (G := G3) ⟨h6, fun a z => O2 a (h5 a z).1, fun a z => O3 a (h5 a z).1, dj3⟩ e2
    refine k _ B1 H1 F3 (E1.less fun a z => ?_) S3 fun l z => ?_
    · rcases u3 a z with z | z
      · rcases u2 a z with z | z
        · exact Or.inl z
        · exact Or.inr (h2 a z)
      · exact Or.inr (h5 a z).1
    · have n1 : l ≠ i := fun q => by rw [q, hio] at z; cases z
      have n2 : l ≠ j := fun q => by rw [q, hjo] at z; cases z
      rw [List.getElem?_set_ne (Ne.symm n2), List.getElem?_set_ne (Ne.symm n1)]
  | [], e, _ => cases (show none = some (fl, ρ') from e)
  | [_], e, _ => cases (show none = some (fl, ρ') from e)
  | _ :: _ :: _ :: _, e, _ => cases (show none = some (fl, ρ') from e)
/-! ### x op= e -/
def sAug (i : Nat) (f : D → D → Option D) (m : M) : MS := fun ρ => (ρ.t i).bind fun t => (m ρ).bind fun x => (t.sh).bind fun d => (deref x.2 x.1).bind fun e => (f d e).bind fun r => (put i (.fz r) x.2).bind fun ρ' => match t with
  | .fz _ => some (.nx, ρ')
  | .nd _ _ => none
theorem s_aug {i : Nat} {x : Str} {e : Expr} {m : M} {op : Operator} {pos' : Pos} {r : R2} {f : D → D → Option D} (hN : X.N.Nodup) (ho : PIp X op r) (O : OpD X.K r f) (he : PE X e (tE X.K p m)) (hi : X.N[i]? = some x := by rfl) (hx : Loc X.env.scope x := by first | exact Or.inl rfl | exact Or.inr rfl) (hio : io i = false := by rfl)
    (hf : X.fn x = true ∨ X.env.scope.names.lookup x = some .local := by first | exact .inl rfl | exact .inr rfl | assumption) :
    PS X (.AugAssign (.Name x pos') op e pos) (tS X.K io (sAug i f m)) := psW (ps_aug hN hi hx he ho hf) fun Z σ H h => by
  obtain ⟨B, ρ, F, S, fl, ρ', e, k⟩ := tS_eq.mp h
  obtain ⟨t, et, e⟩ := ob e
  obtain ⟨⟨y, ρ1⟩, ey, e⟩ := ob e
  obtain ⟨d, ed, e⟩ := ob e
  obtain ⟨d2, ed2, e⟩ := ob e
  obtain ⟨g, eg, e⟩ := ob e
  obtain ⟨ρ2, ep, e⟩ := ob e
  cases t with
  | nd _ _ => cases (show none = some (fl, ρ') from e)
  | fz dd =>
    cases (show some (Fl.nx, ρ2) = some (fl, ρ') from e)
    cases (show some dd = some d from ed)
    obtain ⟨v, h1, h2⟩ := S.sl i _ (Env.t_some et)
    refine ⟨v, h1, B, ρ, F, S, y, ρ1, ey, fun w B1 H1 F1 E1 S1 A1 P1 => ?_⟩
    refine O B1 H1 v w d d2 g _ S1.bh (Dat.sh S1.bh (Dat.mono E1.bb (show Dat X.K B d v from h2))) (S1.deref A1 ed2) eg fun z B2 H2 n dz => ?_
    obtain ⟨F3, u3, S3⟩ := put_sound (S1.new n) dz ep
    exact k _ B2 H2 F3 ((E1.trans n.ext).less u3) S3 fun l q => List.getElem?_set_ne fun w => by rw [← w, hio] at q; cases q
theorem p_iadd : PIp X .Add (ipI fun i j => i + j) ∧ OpD X.K (ipI fun i j => i + j) fAddI := ⟨ip_add, fun B H x y d e g Q b sx sy ef k => by
  obtain ⟨i, j, h1, h2, h3⟩ := opd_I0 (K := X.K) (g := fun i j => .int (i + j)) (g' := fun i j => .int (i + j)) (fun _ _ _ => rfl) B H x y d e g Q b sx sy ef k
  exact ⟨i, j, h1, h2, h3⟩⟩
theorem p_isub : PIp X .Sub (ipI fun i j => i - j) ∧ OpD X.K (ipI fun i j => i - j) fSub := ⟨ip_sub, fun B H x y d e g Q b sx sy ef k => by
  obtain ⟨i, j, h1, h2, h3⟩ := opd_I0 (K := X.K) (g := fun i j => .int (i - j)) (g' := fun i j => .int (i - j)) (fun _ _ _ => rfl) B H x y d e g Q b sx sy ef k
  exact ⟨i, j, h1, h2, h3⟩⟩
/-! ### the rules in short -/
theorem z_op {op : Operator} {f : D → D → Option D} {a b : Expr} {ma mb : M} (h : ∃ r, OpR X (binaryOp op) r ∧ OpD X.K r f) (ha : PE X a (tE X.K p ma)) (hb : PE X b (tE X.K q mb)) : PE X (.BinOp a op b pos) (tE X.K (p && q) (eB q f ma mb)) := by
  obtain ⟨r, h1, h2⟩ := h
  exact c_op h1 h2 ha hb
theorem z_cmp {op : CmpOp} {f : D → D → Option D} {a b : Expr} {ma mb : M} (h : ∃ r, OpR X (compareOp op) r ∧ OpD X.K r f) (ha : PE X a (tE X.K p ma)) (hb : PE X b (tE X.K q mb)) (hm : behindInMarks op b = false := by first | exact nomark _ | rfl) : PE X (.Compare a [op] [b] pos) (tE X.K (p && q) (eB q f ma mb)) := by
  obtain ⟨r, h1, h2⟩ := h
  exact c_cmp h1 h2 hm ha hb
theorem y_cmp {op : CmpOp} {f : D → D → Option D} {a b : Expr} {ma mb : M} (h : ∃ r, OpR X (compareOp op) r ∧ OpD X.K r f) (ha : PE X a (tE X.K p ma)) (hb : PE X b (tE X.K q mb)) (hm : behindInMarks op b = false := by first | exact nomark _ | rfl) : PT X (.Compare a [op] [b] pos) (tT X.K (p && q) (tB q f ma mb)) := by
  obtain ⟨r, h1, h2⟩ := h
  exact t_cmp h1 h2 hm ha hb
theorem z_ch {r : Bool} {op op' : CmpOp} {f g : D → D → Option D} {a b c : Expr} {ma mb mc : M} (h : ∃ r, OpR X (compareOp op) r ∧ OpD X.K r f) (h' : ∃ r, OpR X (compareOp op') r ∧ OpD X.K r g) (ha : PE X a (tE X.K p ma)) (hb : PE X b (tE X.K q mb)) (hc : PE X c (tE X.K r mc)) (hm : lastMarks [op, op'] [b, c] = false := by rfl) :
    PE X (.Compare a [op, op'] [b, c] pos) (tE X.K (p && (q && r)) (eCh q r f g ma mb mc)) := by
  obtain ⟨r1, h1, h2⟩ := h
  obtain ⟨r2, h3, h4⟩ := h'
  exact c_ch h1 h2 h3 h4 ha hb hc hm
theorem y_ch {r : Bool} {op op' : CmpOp} {f g : D → D → Option D} {a b c : Expr} {ma mb mc : M} (h : ∃ r, OpR X (compareOp op) r ∧ OpD X.K r f) (h' : ∃ r, OpR X (compareOp op') r ∧ OpD X.K r g) (ha : PE X a (tE X.K p ma)) (hb : PE X b (tE X.K q mb)) (hc : PE X c (tE X.K r mc)) (hm : lastMarks [op, op'] [b, c] = false := by rfl) :
    PT X (.Compare a [op, op'] [b, c] pos) (tT X.K (p && (q && r)) (tBx (eCh q r f g ma mb mc))) := by
  obtain ⟨r1, h1, h2⟩ := h
  obtain ⟨r2, h3, h4⟩ := h'
  exact t_ch h1 h2 h3 h4 ha hb hc hm
theorem z_ix {a b : Expr} {ma mb : M} (ha : PE X a (tE X.K p ma)) (hb : PE X b (tE X.K q mb)) (hs : PlainIx b := by exact fun _ _ => rfl) : PE X (.Subscript a b pos) (tE X.K (p && q) (eB q fIx ma mb)) := by
  obtain ⟨r, h1, h2⟩ := p_ix (X := X)
  exact c_ix h1 h2 ha hb hs
theorem z_sl {e : Expr} {lo hi : Option Expr} {p2 : Pos} {m : M} {ml mh : MP} (he : PE X e (tE X.K p m)) (hl : PO X lo (tP X.K ml)) (hu : PO X hi (tP X.K mh)) : PE X (.Subscript e (.Slice lo hi none p2) pos) (tE X.K false (eSl fSl m ml mh)) := by
  obtain ⟨r, h1, h2⟩ := p_sl (X := X)
  exact c_sl h1 h2 he hl hu
theorem z_cb {id : String} {x : Str} {po : Pos} {e : Expr} {es : List Expr} {f : List D → Option D} {ms : MA} (h : ∃ r, CallR X (.builtin id) r ∧ OpA X.K r f) (hm : X.mg x = none) (hv : bootBuiltins x = some (.builtin id)) (ha : PA X (e :: es) (tA X.K p ms)) (hg : Gl X x := by rfl)
    (hn : x ≠ "__name__" := by decide) (hdb : (x == ("__debug__" : Str)) = false := by decide)
    (he : starEach (e :: es) X.env = (false, eval e X.env) :: starEach es X.env := by rfl) (hpl : (backTo pos (starEach es X.env)).any (·.1) = false := by rfl) : PE X (.Call (.Name x po) (e :: es) [] pos) (tE X.K p (eCB f ms)) := by
  obtain ⟨r, h1, h2⟩ := h
  exact c_cb h1 h2 hm hv ha hg hn hdb he hpl
theorem z_ct {T : String} {x : Str} {po : Pos} {e : Expr} {es : List Expr} {f : List D → Option D} {ms : MA} (h : ∃ r, CallR X (.type T) r ∧ OpA X.K r f) (hm : X.mg x = none) (hv : bootBuiltins x = some (.type T)) (ha : PA X (e :: es) (tA X.K p ms)) (hg : Gl X x := by rfl)
    (hn : x ≠ "__name__" := by decide) (hdb : (x == ("__debug__" : Str)) = false := by decide)
    (he : starEach (e :: es) X.env = (false, eval e X.env) :: starEach es X.env := by rfl) (hpl : (backTo pos (starEach es X.env)).any (·.1) = false := by rfl) : PE X (.Call (.Name x po) (e :: es) [] pos) (tE X.K p (eCB f ms)) := by
  obtain ⟨r, h1, h2⟩ := h
  exact c_ct h1 h2 hm hv ha hg hn hdb he hpl
/-- a module's constant -/
def IsC (K : PySem.W.Frag) (mg : Str → Option Value) (x : Str) (d : D) : Prop := ∃ u v, mg x = some u ∧ RelV v u ∧ ∀ B, Dat K B d v
theorem z_gl {x : Str} {d : D} (h : IsC X.K X.mg x d) (hg : Gl X x := by rfl) (hb : (x == ("__debug__" : Str)) = false := by decide) : PE X (.Name x pos) (tE X.K p (eK d)) := by
  obtain ⟨u, v, h1, h2, h3⟩ := h
  exact c_glob hg h1 h2 h3 hb
/-- -e -/
def fNeg : D → Option D
  | .int i => some (.int (-i))
  | _ => none
theorem z_neg {a : Expr} {m : M} (ha : PE X a (tE X.K p m)) : PE X (.UnaryOp .USub a pos) (tE X.K p (eU1 fNeg m)) := peW (pe_un un_neg ha) fun σ H Q h => by
  refine tE_1 h fun B H v d g b sh ef k => ?_
  unfold fNeg at ef
  split at ef
  · rename_i i
    cases ef
    exact ⟨i, sh, k _ B H (New.refl b) rfl⟩
  · cases ef
/-! ### for over a list or a tuple -/
theorem pi_seq {tg l : Expr} {tl : TE} (hl : PE X l tl) : PI X tg l (fun σ H R => tl σ H fun x H1 => (∃ a, x = .ref a ∧ (∃ xs, SqL X.K H1 a xs) ∧ R (Itl X.K a) H1) ∨ ∃ a, x = .ref a ∧ (∃ xs, SqT X.K H1 a xs) ∧ R (Itt X.K a) H1) := by
  refine ⟨fun pins s σ H R I h => thn (hl.run pins s σ H _ I h) fun v s1 ⟨x, H1, I1, r1, q1⟩ => ?_⟩
  have fp : ∀ b ∈ [s1.heap.objs.size], FpOk X pins H1 b := fun b hb => by
    rw [List.mem_singleton.mp hb]
    exact I1.fpOk (Nat.le_refl _) (I1.hok.fresh (Nat.le_refl _))
  rcases q1 with ⟨a, rfl, ⟨xs, hq⟩, q⟩ | ⟨a, rfl, ⟨xs, hq⟩, q⟩
  · cases r1
    obtain ⟨its, rv, pl, hz⟩ := I1.list hq
    exact wpAny_pyIter_list pl.isList ⟨s1.heap.objs.size, [s1.heap.objs.size], _, _, H1, rfl, I1.kept (t' := s1.toks) fun b o e => Heap.get?_push_of_some _ e, turn_list a _, ⟨_, Heap.get?_push_size _ rfl, rfl, rfl⟩, fp, q⟩
  · cases r1
    obtain ⟨its, rv, pl, hz⟩ := I1.tuple hq
    exact wpAny_pyIter_tuple (show s1.heap.IsTuple a its.toArray from pl) ⟨s1.heap.objs.size, [s1.heap.objs.size], _, _, H1, rfl, I1.kept (t' := s1.toks) fun b o e => Heap.get?_push_of_some _ e, turn_tuple a _, ⟨_, Heap.get?_push_size _ rfl, rfl, rfl⟩, fp, q⟩
theorem i_seq {tg e : Expr} {m : M} (h : PE X e (tE X.K p m)) : PI X tg e (tI X.K (iSq DK.isQ m)) := piW (pi_seq h) fun σ H R h => by
  obtain ⟨B, ρ, F, S, ds, ρ', e, k⟩ := h
  refine tE_sq (R := fun _ x H1 => (∃ a, x = .ref a ∧ (∃ xs, SqL X.K H1 a xs) ∧ R (Itl X.K a) H1) ∨ ∃ a, x = .ref a ∧ (∃ xs, SqT X.K H1 a xs) ∧ R (Itt X.K a) H1) S e fun k' a vs B' H' F' z E' S' h1 h2 => ?_
  rcases h1.q z with h1 | h1
  · exact Or.inl ⟨a, rfl, ⟨vs, S'.bh.sl h1⟩, k (Itl X.K a) B' H' F' E' S' (wk_list h1 h2)⟩
  · exact Or.inr ⟨a, rfl, ⟨vs, S'.bh.st h1⟩, k (Itt X.K a) B' H' F' E' S' (wk_tup h1 h2)⟩
/-- for i, x in enumerate(a list) -/
def enumD : Nat → List D → List D
  | _, [] => []
  | n, d :: ds => .nd .tup [.int (n : Int), d] :: enumD (n + 1) ds
def iEn (m : M) : MI := fun ρ => (iSq DK.isQ m ρ).bind fun x => some (enumD 0 x.1, x.2)
end
end DL

end

section
set_option Elab.async false
set_option linter.all false
set_option maxRecDepth 100000
set_option maxHeartbeats 4000000
/-! for i, x in enumerate(a tuple) -/
namespace DL
open PySem PySem.Spec PyProof.Rows
theorem enum_made {v : Value} {o : Obj} {H : Heap → Prop} (B : Begins v o H) :
    Meets (Builtin.«enumerate.__new__» ⟨[.type "enumerate", v], []⟩) (fun _ R s => H s.heap ∧
      R (.ok (.ret (.ref (s.heap.push o).objs.size))) { s with heap := (s.heap.push o).push { cls := .type "enumerate", data := .fields #[.none, .bool false, .ref s.heap.objs.size, rawInt 0, .none, .none] } }) :=
  .of_wp fun prog w A R s h => by
    obtain ⟨hp, g, d, tk, os⟩ := s
    obtain ⟨h1, h⟩ := h
    have hsub := sub_enumerate
    have step : ∀ {A' : Around} {E : Value → Shared → Prop} {Q : Value → Shared → Prop}, Q (.ref hp.objs.size) ⟨hp.push o, g, d, tk, os⟩ → wpAny (model prog w) A' (pyIter v) Q E ⟨hp, g, d, tk, os⟩ :=
      fun q => B.iter prog w _ _ ⟨hp, g, d, tk, os⟩ _ h1 q
    wp_walk using step
    refine wpAny_stack_any fun st => wpAny_pure ?_
    split
    · rename_i c _ _ _ _ _
      cases (c == Value.type "enumerate") <;> (wp_walk using step; exact ⟨_, rfl, h⟩)
    · wp_walk using step
      exact ⟨_, rfl, h⟩
theorem call_enumB {prog : Program} {w : World} {A : Around} {E : Value → Shared → Prop} {s : Shared} {v : Value} {o : Obj} {H : Heap → Prop} {Q : Value → Shared → Prop} (B : Begins v o H) (h1 : H s.heap)
    (h : ∀ h', IsEnum h' (s.heap.objs.size + 1) s.heap.objs.size 0 .none → h'.get? s.heap.objs.size = some o → h'.objs.size = s.heap.objs.size + 2 → (∀ b o, s.heap.get? b = some o → h'.get? b = some o) → Q (.ref (s.heap.objs.size + 1)) { s with heap := h' }) :
    wpAny (model prog w) A (PySem.call (.type "enumerate") [v]) Q E s := by
  refine callType_new F.called_enumerate (by decide) (F.typeCall_enumerate_1 _) (F.newCall_enumerate_1 _) (fun obj => F.args_object_init_2 obj _) F.entry_enumerate_new (enum_made B) ⟨h1, ?_⟩
  have hz : (s.heap.push o).objs.size = s.heap.objs.size + 1 := Heap.size_push ..
  show _ ∧ _
  rw [hz]
  have he : IsEnum ((s.heap.push o).push { cls := .type "enumerate", data := .fields #[.none, .bool false, .ref s.heap.objs.size, rawInt 0, .none, .none] }) (s.heap.objs.size + 1) s.heap.objs.size 0 .none := by
    have z := Heap.get?_push_size (s.heap.push o) (o := { cls := .type "enumerate", data := .fields #[.none, .bool false, .ref s.heap.objs.size, rawInt 0, .none, .none] }) rfl
    rw [hz] at z
    exact z
  exact ⟨⟨_, he, rfl⟩, h _ he (Heap.get?_push_of_some _ (Heap.get?_push_size _ B.free)) (by rw [Heap.size_push, hz]) fun b o x => Heap.get?_push_of_some _ (Heap.get?_push_of_some _ x)⟩
/-- a tuple's iterator at its end, wherever its place stands -/
theorem drawsT {prog : Program} {w : World} {A : Around} (hh : A.handled = none) (it t : Addr) (hne : t ≠ it) (items : Array Value) :
    Draws prog w A it [it, t] items.size (fun i v => items[i]? = some v) (fun j h => ∃ i, (i = j ∨ (items.size ≤ j ∧ items.size ≤ i)) ∧ h.IsTupleIter it t i ∧ h.IsTuple t items) where
  live := fun _ _ st => let ⟨_, _, st, _⟩ := st; let ⟨o, ho, _⟩ := st; ⟨o, ho⟩
  frame := fun _ _ _ st hk => let ⟨i, e, st1, st2⟩ := st; ⟨i, e, st1.at fun o e => hk it (by simp) o e, st2.at fun o e => hk t (by simp) o e⟩
  item := fun j s Q E hj st hQ => by
    obtain ⟨i, e, st1, st2⟩ := st
    have e' : i = j := by omega
    subst e'
    refine wpAny_nextOf_tuple_item st1 st2 (x := items[i]) (by simp [hj]) fun h' hit' hs' => ?_
    exact hQ _ h' s.toks (by simp [hj]) ⟨i + 1, Or.inl rfl, hit', st2.extBut hs'.extBut hne⟩ hs'
  done := fun s Q E st hE => by
    obtain ⟨i, e, st1, st2⟩ := st
    exact wpAny_nextOf_tuple_end hh st1 st2 (by simp; omega) hE
open L2
/-- the tuple at a, each item in a new pair -/
def ItT (K : PySem.W.Frag) (a : Addr) : It :=
  ⟨fun i H => ∃ (xs : List V) (x : V), SqT K H a xs ∧ xs[i]? = some x, fun i H v H' => ∃ T x, v = .ref T ∧ H T = none ∧ H' = upd H T (.tup [.int (i : Nat), x]) ∧ ∀ xs, SqT K H a xs → xs[i]? = some x, fun i H => ∃ xs : List V, SqT K H a xs ∧ xs.length ≤ i⟩
theorem turn_enumT {P : Program} {w : World} {K : PySem.W.Frag} {elts : List Expr} {kk : Nat} {tpos : Pos} (a e it : Addr) :
    Turn P w K (.Tuple elts kk tpos) (ItT K a) [e, it] e (fun i h => (∃ old, IsEnum h e it ((i : Nat) : Int) old) ∧ h.IsTupleIter it a i ∧ (e ≠ it ∧ a ≠ it ∧ a ≠ e)) where
  mem := by simp
  obj := fun i h st b hb => by
    obtain ⟨⟨old, he⟩, ⟨o, ho, hc, hd⟩, _⟩ := st
    rcases List.mem_cons.mp hb with z | z
    · rw [z]; exact ⟨_, he, fun v q => nomatch q⟩
    · rw [List.mem_singleton.mp z]; exact ⟨o, ho, fun v q => by rw [hd] at q; cases q⟩
  keep := fun i h h' st k => let ⟨⟨old, he⟩, hi, hne⟩ := st; ⟨⟨old, k e (by simp) _ he⟩, hi.at fun o q => k it (by simp) o q, hne⟩
  item := by
    intro X hP hw hK hc i pins s σ H E I hf st hg
    subst hP hw hK
    obtain ⟨⟨old, he⟩, hit, hne, hai, hae⟩ := st
    obtain ⟨xs, x, hq, hx⟩ := hg
    obtain ⟨its, rv, p, hz⟩ := I.tuple hq
    obtain ⟨u, hu, ru⟩ := rv.get hx
    have hel : e < s.heap.objs.size := Heap.lt_size he
    have hil : it < s.heap.objs.size := by obtain ⟨_, q, _⟩ := hit; exact Heap.lt_size q
    have hlt : i < its.toArray.size := by simpa using (List.getElem?_eq_some_iff.mp hu).1
    refine wpAny_pyNext_enum_itemD (Draws.tuple (A := X.A.in1) (I.ok.hd hc) it a hai its.toArray) he ⟨hit, p⟩ hlt hne (by simp [hne, Ne.symm hae]) fun y h' tk hy ho hit' hT hsz hk => ?_
    have ey : y = u := by
      have hy' : its.toArray[i]? = some y := hy
      rw [show its.toArray[i]? = its[i]? by simp, hu] at hy'
      cases hy'
      rfl
    subst ey
    refine ⟨_, rfl, wpAny_letOwnedTupleGo_enum (s := { s with heap := h', toks := tk + 1 }) ho fun h'' he' sb => ?_⟩
    have hT2 : h''.get? s.heap.objs.size = some { cls := .type "tuple", data := .seq #[.int i tk, y] } := (sb.2 _ (Nat.ne_of_gt hel)).trans hT
    have new : ObjOk X.prog X.w (upd H s.heap.objs.size (.tup [.int (i : Nat), x])) h'' s.heap.objs.size (.tup [.int (i : Nat), x]) :=
      ⟨by show 2 ≤ sizeLine; decide, [.int i tk, y], .cons ⟨_, rfl⟩ (.cons ru .nil), ⟨_, hT2, rfl, _, rfl⟩⟩
    have I1 : Inv X pins σ (upd H s.heap.objs.size (.tup [.int (i : Nat), x])) { s with heap := h'', toks := tk + 1 } :=
      I.turnedNew (ch := [e, it]) (fun b ob hb q => (sb.2 b (fun z => hb (by simp [z]))).trans (hk b ob (fun z => hb (by simp [z])) (fun z => hb (by simp [z])) q)) hf (Nat.le_refl _) new
    refine ⟨.ref s.heap.objs.size, _, I1, rfl, ⟨_, x, rfl, I.hok.fresh (Nat.le_refl _), rfl, fun ys hy => by rw [I.tuple_inj hy hq]; exact hx⟩, ⟨⟨y, ?_⟩, hit'.1.at fun o q => (sb.2 it (Ne.symm hne)).trans q, hne, hai, hae⟩, fun b hb => ?_⟩
    · have e1 : ((i + 1 : Nat) : Int) = (i : Int) + 1 := by omega
      rw [e1]; exact he'
    · have hb' : b < s.heap.objs.size := by
        rcases List.mem_cons.mp hb with z | z
        · rw [z]; exact hel
        · rw [List.mem_singleton.mp z]; exact hil
      rw [upd_ne (Nat.ne_of_lt hb')]
      exact (hf b hb).1
  done := by
    intro X hP hw hK hc i pins s σ H E I hf st hg
    subst hP hw hK
    obtain ⟨⟨old, he⟩, hit, hne, hai, hae⟩ := st
    obtain ⟨xs, hq, hx⟩ := hg
    obtain ⟨its, rv, p, hz⟩ := I.tuple hq
    obtain ⟨f0, f1, f2, f3, f4, f5⟩ := hf it (by simp)
    have hl := rv.length
    refine wpAny_pyNext_enum_endD (drawsT (A := X.A.in1) (I.ok.hd hc) it a hai its.toArray) he ⟨i, Or.inr ⟨Nat.le_refl _, by simp; omega⟩, hit, p⟩ fun h' eb => ⟨rfl, ?_⟩
    exact I.turned (t' := s.toks) (fun b o hb q => eb b o hb q) f0 f1 f3 f4 f5
  self := fun A i s Q E st h => let ⟨⟨_, he⟩, _⟩ := st; wpAny_pyIter_enum he h
def iEnT (K : PySem.W.Frag) (ta : TA) : TI := fun σ H R => ta σ H fun vs H1 => (∃ a xs, vs = [.ref a] ∧ SqT K H1 a xs ∧ R (ItT K a) H1) ∨ ∃ a xs, vs = [.ref a] ∧ SqL K H1 a xs ∧ R (Ite K a) H1
theorem pi_enumQ {X : Cx} {e : Expr} {ta : TA} {p pos tpos : Pos} {elts : List Expr} {kk : Nat} (hg : Gl X "enumerate") (hm : X.mg "enumerate" = none) (ha : PA X [e] ta) (hs : starEach [e] X.env = [(false, eval e X.env)] := by rfl) :
    PI X (.Tuple elts kk tpos) (.Call (.Name "enumerate" p) [e] [] pos) (iEnT X.K ta) := by
  refine ⟨fun pins s σ H R I h => ?_⟩
  refine Call_ (ld_blt I hg hm boot_enumerate (PyProof.Rows.callWith_type1 (thn (ha.run pos pins s σ H _ I h) fun us s1 ⟨vs, H1, I1, r1, q1⟩ => ?_) hs rfl))
  have fp : ∀ b ∈ [s1.heap.objs.size + 1, s1.heap.objs.size], FpOk X pins H1 b := fun b hb => by
    have hle : s1.heap.objs.size ≤ b := by
      rcases List.mem_cons.mp hb with z | z
      · rw [z]; exact Nat.le_add_right _ _
      · rw [List.mem_singleton.mp z]; exact Nat.le_refl _
    exact I1.fpOk hle (I1.hok.fresh hle)
  rcases q1 with ⟨a, xs, rfl, hq, q⟩ | ⟨a, xs, rfl, hq, q⟩
  · obtain ⟨u, rfl, ru⟩ := vals1 r1
    cases ru
    obtain ⟨its, rv, p', hz⟩ := I1.tuple hq
    have ha : a < s1.heap.objs.size := let ⟨o, ho, _⟩ := p'; Heap.lt_size ho
    refine call_enumB (begins_tuple a its.toArray) p' fun h' he hit hsz hk => wpAny_pyIter_enum he ?_
    have I2 : Inv X pins σ H1 { s1 with heap := h' } := I1.kept (t' := s1.toks) hk
    exact ⟨s1.heap.objs.size + 1, [s1.heap.objs.size + 1, s1.heap.objs.size], _, _, H1, rfl, I2, turn_enumT a (s1.heap.objs.size + 1) s1.heap.objs.size, ⟨⟨.none, he⟩, ⟨_, hit, rfl, rfl⟩, Nat.succ_ne_self _, Nat.ne_of_lt ha, Nat.ne_of_lt (Nat.lt_succ_of_lt ha)⟩, fp, q⟩
  · obtain ⟨u, rfl, ru⟩ := vals1 r1
    cases ru
    obtain ⟨its, rv, p', hz⟩ := I1.list hq
    refine call_enumerate_list p'.isList fun h' he hit hsz hk => wpAny_pyIter_enum he ?_
    have I2 : Inv X pins σ H1 { s1 with heap := h' } := I1.kept (t' := s1.toks) hk
    exact ⟨s1.heap.objs.size + 1, [s1.heap.objs.size + 1, s1.heap.objs.size], _, _, H1, rfl, I2, turn_enum a (s1.heap.objs.size + 1) s1.heap.objs.size, ⟨⟨.none, he⟩, hit, Nat.succ_ne_self _⟩, fp, q⟩
section
variable {X : Cx} {p : Bool} {pos : Pos}
theorem enumD_at : ∀ {ds : List D} {n i : Nat} {d : D}, (enumD n ds)[i]? = some d → ∃ e, ds[i]? = some e ∧ d = .nd .tup [.int ((n + i : Nat) : Int), e]
  | [], n, i, _, h => by simp [enumD] at h
  | x :: xs, n, 0, d, h => by
    have : some (D.nd .tup [.int (n : Int), x]) = some d := h
    cases this
    exact ⟨x, rfl, rfl⟩
  | x :: xs, n, i + 1, d, h => by
    obtain ⟨e, h1, h2⟩ := enumD_at (ds := xs) (n := n + 1) (i := i) (d := d) (by simpa [enumD] using h)
    exact ⟨e, by simpa using h1, by rw [h2, show n + 1 + i = n + (i + 1) by omega]⟩
theorem enumD_len : ∀ {ds : List D} {n : Nat}, (enumD n ds).length = ds.length
  | [], _ => rfl
  | _ :: xs, n => by rw [enumD, List.length_cons, enumD_len, List.length_cons]
theorem wk_enum {K : PySem.W.Frag} {B : Hp} {J : It} {ds : List D} {vs : List V} (hd : DatL K B ds vs) (st : ∀ B1 H, Ex B B1 → Ex B1 H → J.stop vs.length H)
    (go : ∀ i v, vs[i]? = some v → ∀ B1 H, Ex B B1 → Ex B1 H → J.go i H ∧ ∀ x H', J.yld i H x H' → ∃ T, x = .ref T ∧ H T = none ∧ H' = upd H T (.tup [.int (i : Nat), v])) : Wk K B J (enumD 0 ds) :=
  ⟨fun B1 H e1 e2 => by rw [enumD_len, hd.len]; exact st B1 H e1 e2, fun i d g B1 H e1 e2 => by
    obtain ⟨e, h1, h2⟩ := enumD_at g
    obtain ⟨v, g1, g2⟩ := hd.get h1
    obtain ⟨k1, k2⟩ := go i v g1 B1 H e1 e2
    refine ⟨k1, fun x H' y => ?_⟩
    obtain ⟨T, rfl, hT, rfl⟩ := k2 x H' y
    have n := New.lay (o := .tup [.int (i : Nat), v]) e2 hT
    refine ⟨_, n, ?_⟩
    rw [h2]
    exact ⟨T, _, rfl, SqT.of upd_same, _, _, rfl, by rw [Nat.zero_add]; rfl, _, _, rfl, (g2.mono e1).mono n.bb, rfl⟩⟩
theorem i_en {e : Expr} {m : M} {po tpos : Pos} {elts : List Expr} {kk : Nat} (hm : X.mg "enumerate" = none) (h : PE X e (tE X.K p m)) (hg : Gl X "enumerate" := by rfl) (hs1 : starEach [e] X.env = (false, eval e X.env) :: starEach [] X.env := by rfl) (hs : starEach [e] X.env = [(false, eval e X.env)] := by rfl) :
    PI X (.Tuple elts kk tpos) (.Call (.Name "enumerate" po) [e] [] pos) (tI X.K (iEn m)) := piW (pi_enumQ hg hm (pa_cons h pa_nil hs1) hs) fun σ H R h => by
  obtain ⟨B, ρ, F, S, es, ρ', e, k⟩ := h
  obtain ⟨⟨ds, ρ1⟩, e1, e⟩ := ob e
  cases e
  refine tE_sq (R := fun _ x H1 => (∃ a xs, [x] = [V.ref a] ∧ SqT X.K H1 a xs ∧ R (ItT X.K a) H1) ∨ ∃ a xs, [x] = [V.ref a] ∧ SqL X.K H1 a xs ∧ R (Ite X.K a) H1) S e1 fun k' a vs B' H' F' z E' S' h1 h2 => ?_
  rcases h1.q z with h1 | h1
  · refine Or.inr ⟨a, vs, rfl, S'.bh.sl h1, k _ B' H' F' E' S' (wk_enum h2 (fun B1 H e1 e2 => ⟨vs, (e1.trans e2).sl h1, Nat.le_refl _⟩) fun i v g B1 H e1 e2 => ⟨⟨vs, v, (e1.trans e2).sl h1, g⟩, fun x H' y => ?_⟩)⟩
    obtain ⟨T, w, r1, r2, r3, r4⟩ := y
    have := r4 vs ((e1.trans e2).sl h1)
    rw [g] at this
    cases this
    exact ⟨T, r1, r2, r3⟩
  · refine Or.inl ⟨a, vs, rfl, S'.bh.st h1, k _ B' H' F' E' S' (wk_enum h2 (fun B1 H e1 e2 => ⟨vs, (e1.trans e2).st h1, Nat.le_refl _⟩) fun i v g B1 H e1 e2 => ⟨⟨vs, v, (e1.trans e2).st h1, g⟩, fun x H' y => ?_⟩)⟩
    obtain ⟨T, w, r1, r2, r3, r4⟩ := y
    have := r4 vs ((e1.trans e2).st h1)
    rw [g] at this
    cases this
    exact ⟨T, r1, r2, r3⟩
end
/-! ### small things for the printed terms -/
theorem ln_nil : ∀ ρ y, mNil ρ = some y → y.1.length = 0 := fun ρ y e => by cases (show some ([], ρ) = some y from e); rfl
theorem ln_cons {q : Bool} {a : M} {ms : MA} {n : Nat} (h : ∀ ρ y, ms ρ = some y → y.1.length = n) : ∀ ρ y, mCons q a ms ρ = some y → y.1.length = n + 1 := fun ρ y e => by
  obtain ⟨x, e1, e⟩ := ob e
  obtain ⟨z, e2, e⟩ := ob e
  obtain ⟨_, e⟩ := og e
  cases e
  rw [List.length_cons, h _ _ e2]
theorem ln_io {ms : MA} {n : Nat} (h : ∀ ρ y, ms ρ = some y → y.1.length = n) : ∀ ρ y, ms ρ = some y → y.1.length + 1 = n + 1 := fun ρ y e => by rw [h ρ y e]
theorem u0 {k : Nat} {A : Around} (h : Room k A) : A.units < cLine := Nat.lt_of_le_of_lt (Nat.le_add_right _ _) h.units
theorem u4 {k : Nat} {A : Around} (h : Room k A) : A.units + 4 < cLine := Nat.lt_of_le_of_lt (Nat.add_le_add_left (by decide) _) h.units
theorem w_and1 {X : Cx} {p : Bool} {pos : Pos} {a : Expr} {m : MT} (h : PT X a (tT X.K p m)) : PW X (.BoolOp .And [a] pos) (tT X.K p m) := pw_and1 h
theorem w_or1 {X : Cx} {p : Bool} {pos : Pos} {a : Expr} {m : MT} (h : PT X a (tT X.K p m)) : PW X (.BoolOp .Or [a] pos) (tT X.K p m) := pw_or1 h
end DL

end

section
set_option Elab.async false
set_option linter.all false
set_option maxRecDepth 100000
/-! DV: xs[::-1] of a tuple or a list. -/
namespace DL
open PySem PySem.Spec PyProof.Rows L2 HT
section
variable {prog : Program} {w : World} {A : Around} {E : Value → Shared → Prop} {s : Shared}
theorem rv_adjust (n : Nat) : Builtin.Slice.sliceAdjust none none (-1) (n : Int) = ((n : Int) - 1, -1) := rfl
theorem rv_places (n : Nat) : Builtin.Slice.slicePlaces ((n : Int) - 1) (-1) (-1) = n := by
  unfold Builtin.Slice.slicePlaces
  have h1 : ¬ ((-1 : Int) > 0) := by decide
  simp only [h1, if_false]
  rw [show (- -1 : Int) = 1 by decide, Int.ediv_one]
  split <;> omega
theorem sliceApplied_rv {sl : Addr} {vs : Value} {n : Nat} {Q : Int × Int × Nat → Shared → Prop} (hs : s.heap.IsSliceOf sl .none .none vs) (ps : IsPart vs (some (-1)))
    (h : Q ((n : Int) - 1, -1, n) s) : wpAny (model prog w) A (Builtin.Slice.sliceApplied (.ref sl) (pure (n : Int))) Q E s := by
  obtain ⟨os, hos, hcs, hds⟩ := id hs
  unfold Builtin.Slice.sliceApplied Builtin.Slice.sliceFields
  refine wpAny_bind (wpAny_bind (wpAny_field hos hds (x := .none) rfl (wpAny_bind (wpAny_field hos hds (x := .none) rfl (wpAny_bind (wpAny_field hos hds (x := vs) rfl (wpAny_pure ?_)))))))
  refine wpAny_bind (slicePart_ ps ?_)
  show wpAny _ _ (if ((-1 : Int) == 0) = true then _ else _) _ _ s
  rw [if_neg (by decide)]
  refine wpAny_bind (slicePart_none (wpAny_bind (slicePart_none (wpAny_bind (wpAny_pure ?_)))))
  show wpAny _ _ (match Builtin.Slice.sliceAdjust none none (-1) (n : Int) with | (lo, hi) => pure (lo, (-1 : Int), Builtin.Slice.slicePlaces lo hi (-1))) _ _ s
  rw [rv_adjust]
  show wpAny _ _ (pure ((n : Int) - 1, (-1 : Int), Builtin.Slice.slicePlaces ((n : Int) - 1) (-1) (-1))) _ _ s
  rw [rv_places]
  exact wpAny_pure h
theorem rv_fm {α β : Type} (f : α → Option β) (g : α → β) : ∀ l : List α, (∀ a ∈ l, f a = some (g a)) → l.filterMap f = l.map g
  | [], _ => rfl
  | a :: l, h => by rw [List.filterMap_cons, h a (List.mem_cons_self ..), List.map_cons, rv_fm f g l fun b hb => h b (List.mem_cons_of_mem _ hb)]
theorem rv_pick (xs : Array Value) : ((List.range xs.size).filterMap fun (m : Nat) => xs[((xs.size : Int) - 1 + (m : Int) * (-1)).toNat]?).toArray = xs.toList.reverse.toArray := by
  congr 1
  apply List.ext_getElem?
  intro i
  have e : ((List.range xs.size).filterMap fun (m : Nat) => xs[((xs.size : Int) - 1 + (m : Int) * (-1)).toNat]?) = (List.range xs.size).map fun m => xs[xs.size - 1 - m]?.getD .none := by
    refine rv_fm _ _ _ fun m hm => ?_
    have hm := List.mem_range.mp hm
    have e : ((xs.size : Int) - 1 + (m : Int) * (-1)).toNat = xs.size - 1 - m := by omega
    rw [e]
    have : xs.size - 1 - m < xs.size := by omega
    simp [this]
  rw [e]
  by_cases hi : i < xs.size
  · rw [List.getElem?_map, List.getElem?_range hi, List.getElem?_reverse (by simpa using hi)]
    have : xs.size - 1 - i < xs.size := by omega
    simp [this]
  · rw [List.getElem?_eq_none (by simpa using hi), List.getElem?_eq_none (by simpa using hi)]
theorem getItem_tuple_rv {t sl : Addr} {items : Array Value} {vs : Value} {Q : Value → Shared → Prop} (ht : IsTup s.heap t items) (hs : s.heap.IsSliceOf sl .none .none vs) (ps : IsPart vs (some (-1)))
    (h : Q (.ref s.heap.objs.size) { s with heap := s.heap.push { cls := .type "tuple", data := .seq items.toList.reverse.toArray } })
    (hsz : items.size ≤ sizeLine) : wpAny (model prog w) A (getItem (.ref t) (.ref sl)) Q E s := by
  have htake : sizeOk (.seq items.toList.reverse.toArray) := by
    show items.toList.reverse.toArray.size ≤ sizeLine
    rw [List.size_toArray, List.length_reverse, Array.length_toList]
    omega
  obtain ⟨os, hos, hcs, hds⟩ := id hs
  have hTs : s.TypeIs (.ref sl) "slice" := ⟨os, hos, hcs⟩
  unfold getItem
  try with_reducible refine wpAny_holding ?_
  first | refine wpAny_bind (wpAny_pure ?_) | skip
  refine wpAny_bind (wpAny_sequenceKey ht.typeIs (by decide) ?_)
  refine wpAny_bind (wpAny_callSpecial?_slot (name := Str.ofString "__getitem__") ht.typeIs PyProof.Rows.slot_tuple_getitem
    (wpAny_call_entry PyProof.Rows.slot_tuple_getitem ht.typeIs entry_tuple_getitem ?_ (args_tuple_getitem _ _)))
  show wpAny _ _ (Builtin.Tuple.tupleItemsOf (.ref t) >>= _) _ _ s
  refine wpAny_bind (tupleItemsOf_ ht ?_)
  refine wpAny_bind (wpAny_typeOf hTs ?_)
  rw [if_pos (by decide)]
  refine wpAny_bind (sliceApplied_rv hs ps ?_)
  have hno : ¬ ((((items.size : Int) - 1) == 0 && (-1 : Int) == 1 && items.size == items.size) = true) := by
    intro q
    rw [Bool.and_eq_true, Bool.and_eq_true] at q
    exact absurd q.1.2 (by decide)
  show wpAny _ _ (if (((items.size : Int) - 1) == 0 && (-1 : Int) == 1 && items.size == items.size) = true then _ else _) _ _ s
  rw [if_neg hno, rv_pick]
  first
    | exact wpAny_bind (m := Builtin.Tuple.tupleExact _) (wpAny_newObj_type (wpAny_pure ⟨_, rfl, wpAny_pure h⟩) htake)
    | exact wpAny_bind (m := Builtin.Tuple.tupleExact _) (wpAny_newObj_type (wpAny_bind (wpAny_pure (wpAny_pure ⟨_, rfl, wpAny_pure h⟩))) htake)
    | exact wpAny_bind (wpAny_bind (m := Builtin.Tuple.tupleExact _) (wpAny_newObj_type (wpAny_pure (wpAny_pure ⟨_, rfl, wpAny_pure h⟩)) htake))
    | exact wpAny_bind (wpAny_bind (m := Builtin.Tuple.tupleExact _) (wpAny_newObj_type (wpAny_pure ⟨_, rfl, wpAny_pure h⟩) htake))
end
section
variable {X : Cx} {p : Bool} {m : M}
def rRv (K : PySem.W.Frag) (x : V) (H : Hp) (Q : VK) : Prop := (∃ a xs, x = .ref a ∧ SqL K H a xs ∧ ∀ p, H p = none → Q (.ref p) (upd H p (.lst xs.reverse))) ∨ ∃ a xs, x = .ref a ∧ SqT K H a xs ∧ ∀ p, H p = none → Q (.ref p) (upd H p (.tup xs.reverse))
theorem pe_rv {e : Expr} {te : TE} {k : Nat} {p1 p2 p3 pos : Pos} (he : PE X e te) : PE X (.Subscript e (.Slice none none (some (.UnaryOp .USub (.Constant (.int 1) k p1) p2)) p3) pos) (fun σ H Q => te σ H fun x H1 => rRv X.K x H1 Q) := by
  refine ⟨fun pins s σ H Q I h => ?_⟩
  refine Subscript_ (thn (he.run pins s σ H _ I h) fun v s1 ⟨x, H1, I1, r1, q1⟩ => ?_)
  have hst : PO X (some (.UnaryOp .USub (.Constant (.int 1) k p1) p2)) (tPart (tUn (rU fun i => .int (-i)) (tC (.int 1)))) := po_some (pe_un un_neg pe_int)
  refine wpAny_Slice (thn (po_none.run pins s1 σ H1 (fun o H2 => o = none ∧ H2 = H1) I1 ⟨rfl, rfl⟩) fun vl s2 ⟨l, H2, I2, pl, el, e2⟩ => ?_)
  subst el e2
  refine thn (po_none.run pins s2 σ H2 (fun o H3 => o = none ∧ H3 = H2) I2 ⟨rfl, rfl⟩) fun vu s3 ⟨u, H3, I3, pu, eu, e3⟩ => ?_
  subst eu e3
  refine thn (hst.run pins s3 σ H3 (fun o H4 => o = some (-1) ∧ H4 = H3) I3 ⟨1, rfl, -1, rfl, rfl, rfl⟩) fun vs s4 ⟨o, H4, I4, ps, eo, e4⟩ => ?_
  subst eo e4
  have I5 : Inv X pins σ H4 { s4 with heap := s4.heap.push { cls := .type "slice", data := .fields #[vl, vu, vs] } } := I4.kept (t' := s4.toks) fun b ob q => Heap.get?_push_of_some _ q
  rcases q1 with ⟨a, xs, ex, hx, q⟩ | ⟨a, xs, ex, hx, q⟩
  · subst ex
    cases r1
    obtain ⟨its, r, ht, hz⟩ := I5.list hx
    have hlen := r.length
    show wpAny (model X.prog X.w) X.A (subscriptTail e (.Slice none none (some (.UnaryOp .USub (.Constant (.int 1) k p1) p2)) p3) (.ref a) (.ref s4.heap.objs.size)) (EP X pins σ Q) X.xe { s4 with heap := s4.heap.push { cls := .type "slice", data := .fields #[vl, vu, vs] } }
    refine tail_any (ops := [.ref a, .ref s4.heap.objs.size]) ht.isList.typeIs (PySem.slot_list_getitem.lookup) ?_ (by with_unfolding_all rfl)
    refine wpAny_getItem_list_slice ht.isList (Heap.IsSliceOf.new _ vl vu vs) pl pu ps (by decide) ?_ (by rw [List.size_toArray]; omega)
    rw [PySem.W.krv_pick]
    refine ⟨.ref _, _, I5.laid (t' := s4.toks) (o := .lst xs.reverse) (fun b ob q => Heap.get?_push_of_some _ q) (Nat.le_refl _) ?_, rfl, q _ (I5.hok.fresh (Nat.le_refl _))⟩
    exact ⟨by rw [List.length_reverse]; exact hz, _, 0, r.reverse, Heap.get?_push_size _ rfl⟩
  · subst ex
    cases r1
    cases pl
    cases pu
    obtain ⟨its, r, ht, hz⟩ := I5.tuple hx
    have hlen := r.length
    show wpAny (model X.prog X.w) X.A (subscriptTail e (.Slice none none (some (.UnaryOp .USub (.Constant (.int 1) k p1) p2)) p3) (.ref a) (.ref s4.heap.objs.size)) (EP X pins σ Q) X.xe { s4 with heap := s4.heap.push { cls := .type "slice", data := .fields #[.none, .none, vs] } }
    refine tail_any (ops := [.ref a, .ref s4.heap.objs.size]) ht.typeIs (PyProof.Rows.slot_tuple_getitem.lookup) ?_ (by with_unfolding_all rfl)
    refine getItem_tuple_rv ht (Heap.IsSliceOf.new _ .none .none vs) ps ?_ (by rw [List.size_toArray]; omega)
    refine ⟨.ref _, _, I5.laid (t' := s4.toks) (o := .tup xs.reverse) (fun b ob q => Heap.get?_push_of_some _ q) (Nat.le_refl _) ?_, rfl, q _ (I5.hok.fresh (Nat.le_refl _))⟩
    exact ⟨by rw [List.length_reverse]; exact hz, _, r.reverse, IsTup.new _ _⟩
theorem DatL.rev {K : PySem.W.Frag} {B : Hp} : ∀ {ds : List D} {vs : List V}, DatL K B ds vs → DatL K B ds.reverse vs.reverse := by
  intro ds
  induction ds with
  | nil =>
    intro vs h
    rw [show vs = [] from h]
    exact rfl
  | cons d ds ih =>
    intro vs h
    obtain ⟨v, r, h1, h2, h3⟩ := h
    subst h1
    rw [List.reverse_cons, List.reverse_cons]
    exact (ih h3).app ⟨v, [], rfl, h2, rfl⟩
def fRev : D → Option D
  | .nd .tup ds => some (.nd .tup ds.reverse)
  | .nd .lst ds => some (.nd .lst ds.reverse)
  | .nd .ll ds => some (.nd .lst ds.reverse)
  | _ => none
theorem c_rev {e : Expr} {k : Nat} {p1 p2 p3 pos : Pos} (he : PE X e (tE X.K p m)) : PE X (.Subscript e (.Slice none none (some (.UnaryOp .USub (.Constant (.int 1) k p1) p2)) p3) pos) (tE X.K p (eU1 fRev m)) :=
  peW (pe_rv he) fun σ H Q h => tE_1 h fun B H v d g b sx ef kk => by
    unfold fRev at ef
    split at ef
    · cases ef
      obtain ⟨a, vs, rfl, h2, h3⟩ := sx
      refine Or.inr ⟨a, vs, rfl, b.st h2, fun p hp => ?_⟩
      have n := New.lay (o := .tup vs.reverse) b hp
      exact kk _ _ _ n ⟨p, _, rfl, SqT.of upd_same, h3.rev.mono n.bb⟩
    · cases ef
      obtain ⟨a, vs, rfl, h2, h3⟩ := sx
      refine Or.inl ⟨a, vs, rfl, SqL.of h2, fun p hp => ?_⟩
      have n := New.lay (o := .lst vs.reverse) b hp
      exact kk _ _ _ n ⟨p, _, rfl, upd_same, h3.rev.mono n.bb⟩
    · cases ef
      obtain ⟨a, vs, rfl, h2, h3⟩ := sx
      refine Or.inl ⟨a, vs, rfl, h2, fun p hp => ?_⟩
      have n := New.lay (o := .lst vs.reverse) b hp
      exact kk _ _ _ n ⟨p, _, rfl, upd_same, h3.rev.mono n.bb⟩
    · cases ef
end
end DL

end

section
set_option Elab.async false
set_option linter.all false
set_option maxRecDepth 100000
set_option maxHeartbeats 2000000
/-! DW: the head's hook: the defs, the names that the module does not bind, its constants; a law's end. -/
namespace DL
open PySem PySem.Spec PyProof.Rows L2
def dvB : D → Value → Bool
  | .non, u => He.relB .non u
  | .bl b, u => He.relB (.bl b) u
  | .int i, u => He.relB (.int i) u
  | .str s, u => He.relB (.str s) u
  | .nd _ _, _ => false
def seqB (K : PySem.W.Frag) (c : String) (a : Addr) : Option (List Value) := match K.lookup a with
  | some ⟨.type c', none, .seq its _, _⟩ => if (decide (c' = c) && decide (its.size ≤ sizeLine)) = true then some its.toList else none
  | _ => none
mutual
def datB (K : PySem.W.Frag) : D → Value → Bool
  | .non, u => He.relB .non u
  | .bl b, u => He.relB (.bl b) u
  | .int i, u => He.relB (.int i) u
  | .str s, u => He.relB (.str s) u
  | .nd .tup ds, .ref a => (match seqB K "tuple" a with
    | some us => datBs K ds us
    | none => false)
  | .nd .ll ds, .ref a => (match seqB K "list" a with
    | some us => datBs K ds us
    | none => false)
  | .nd _ _, _ => false
def datBs (K : PySem.W.Frag) : List D → List Value → Bool
  | [], [] => true
  | d :: ds, u :: us => datB K d u && datBs K ds us
  | _, _ => false
end
theorem seqB_ok {K : PySem.W.Frag} {c : String} {a : Addr} {us : List Value} (h : seqB K c a = some us) : ∃ its n sl, K.lookup a = some ⟨.type c, none, .seq its n, sl⟩ ∧ its.size ≤ sizeLine ∧ us = its.toList := by
  unfold seqB at h
  cases q : K.lookup a with
  | none => rw [q] at h; cases h
  | some o =>
    obtain ⟨oc, od, dt, osl⟩ := o
    rw [q] at h
    cases oc with
    | type c' =>
      cases od with
      | none =>
        cases dt with
        | seq its n =>
          by_cases w : (decide (c' = c) && decide (its.size ≤ sizeLine)) = true
          · rw [show (match some (⟨.type c', none, .seq its n, osl⟩ : Obj) with
              | some ⟨.type c', none, .seq its _, _⟩ => if (decide (c' = c) && decide (its.size ≤ sizeLine)) = true then some its.toList else none
              | _ => none) = if (decide (c' = c) && decide (its.size ≤ sizeLine)) = true then some its.toList else none from rfl, if_pos w] at h
            obtain ⟨h1, h2⟩ := He.ba w
            have e := of_decide_eq_true h1
            subst e
            exact ⟨its, n, osl, rfl, of_decide_eq_true h2, (Option.some.inj h).symm⟩
          · rw [show (match some (⟨.type c', none, .seq its n, osl⟩ : Obj) with
              | some ⟨.type c', none, .seq its _, _⟩ => if (decide (c' = c) && decide (its.size ≤ sizeLine)) = true then some its.toList else none
              | _ => none) = if (decide (c' = c) && decide (its.size ≤ sizeLine)) = true then some its.toList else none from rfl, if_neg w] at h
            cases h
        | _ => cases h
      | some z => cases dt <;> cases h
    | _ => cases od <;> cases dt <;> cases h
mutual
theorem datB_ok {K : PySem.W.Frag} : ∀ {d : D} {u : Value}, datB K d u = true → ∃ v, RelV v u ∧ ∀ B, Dat K B d v
  | .non, u, h => ⟨_, He.relB_ok (by simpa only [datB] using h), fun _ => rfl⟩
  | .bl b, u, h => ⟨_, He.relB_ok (by simpa only [datB] using h), fun _ => rfl⟩
  | .int i, u, h => ⟨_, He.relB_ok (by simpa only [datB] using h), fun _ => rfl⟩
  | .str s, u, h => ⟨_, He.relB_ok (by simpa only [datB] using h), fun _ => rfl⟩
  | .nd .tup ds, .ref a, h => by
    rw [datB] at h
    split at h
    · rename_i us e
      obtain ⟨its, n, sl, h1, h2, rfl⟩ := seqB_ok e
      obtain ⟨vs, r, k⟩ := datBs_ok h
      exact ⟨.ref a, rfl, fun B => ⟨a, vs, rfl, .inr ⟨_, its, n, h1, rfl, rfl, h2, r⟩, k B⟩⟩
    · cases h
  | .nd .ll ds, .ref a, h => by
    rw [datB] at h
    split at h
    · rename_i us e
      obtain ⟨its, n, sl, h1, h2, rfl⟩ := seqB_ok e
      obtain ⟨vs, r, k⟩ := datBs_ok h
      exact ⟨.ref a, rfl, fun B => ⟨a, vs, rfl, .inr ⟨_, its, n, h1, rfl, rfl, rfl, h2, r⟩, k B⟩⟩
    · cases h
  | .nd .lst ds, u, h => by cases u <;> simp [datB] at h
  | .nd (.dic ks) ds, u, h => by cases u <;> simp [datB] at h
  | .nd (.exc _ _) ds, u, h => by cases u <;> simp [datB] at h
  | .nd (.ins _ _) ds, u, h => by cases u <;> simp [datB] at h
  | .nd .tup ds, .none, h => by simp [datB] at h
  | .nd .tup ds, .bool _, h => by simp [datB] at h
theorem datBs_ok {K : PySem.W.Frag} : ∀ {ds : List D} {us : List Value}, datBs K ds us = true → ∃ vs, Vals vs us ∧ ∀ B, DatL K B ds vs
  | [], [], _ => ⟨[], .nil, fun _ => rfl⟩
  | d :: ds, u :: us, h => by
    rw [datBs] at h
    obtain ⟨h1, h2⟩ := He.ba h
    obtain ⟨v, r, k⟩ := datB_ok h1
    obtain ⟨vs, r2, k2⟩ := datBs_ok h2
    exact ⟨v :: vs, .cons r r2, fun B => ⟨v, vs, rfl, k B, k2 B⟩⟩
  | [], _ :: _, h => by simp [datBs] at h
  | _ :: _, [], h => by simp [datBs] at h
end
/-! ### the hook -/
def conB (K : PySem.W.Frag) (x : Str) (d : D) : Bool := match PySem.W.nsIn K mainGlobals x with
  | some (some u) => datB K d u
  | _ => false
abbrev AlJ : Type := Bool × List He.FnW
def mkDef (p : Str × Stmt) : He.DefD := ⟨(p.1, none), p.1, p.1, defArgs p.2, defBody p.2, defScope p.2, [], []⟩
def obsJ (fr : List Str) (cs : List (Str × D)) (fn : List (Str × Stmt)) (K : PySem.W.Frag) : AlJ :=
  ((fr.all fun x => (He.Fa.free x).ok K) && ((cs.all fun c => conB K c.1 c.2) && fn.all fun d => (He.Fa.glo d.1).ok K && (mkDef d).ok K), fn.map fun d => He.fnW K (mkDef d).at_)
def valJ (fn : List (Str × Stmt)) : AlJ := (true, fn.map fun d => (mkDef d).val)
def SaysJ (fr : List Str) (cs : List (Str × D)) (fn : List (Str × Stmt)) (K : PySem.W.Frag) : Prop := obsJ fr cs fn K = valJ fn
def obsJG (n : Nat) (fr : List Str) (cs : List (Str × D)) (fn : List (Str × Stmt)) (g : Addr → Option Obj) : AlJ := obsJ fr cs fn (He.frG g (He.asD g n))
def hookJ (n : Nat) (fr : List Str) (cs : List (Str × D)) (fn : List (Str × Stmt)) : PySem.W.Hook where
  α := AlJ
  obs := fun s => obsJG n fr cs fn s.heap.get?
  val := fun _ => valJ fn
  says := fun _ h => ∃ K : PySem.W.Frag, K.In h ∧ SaysJ fr cs fn K
  of := fun _ _ e => ⟨_, He.frG_in, e⟩
  keeps := fun _ _ _ ⟨K, hK, c⟩ k => ⟨K, PySem.W.Frag.In.keeps hK k, c⟩
theorem obsJG_eq {n : Nat} {fr : List Str} {cs : List (Str × D)} {fn : List (Str × Stmt)} {g : Addr → Option Obj} {s : Shared} (h : ∀ a, g a = s.heap.get? a) : obsJG n fr cs fn g = (hookJ n fr cs fn).obs s := by
  have e : g = s.heap.get? := funext h
  rw [e] <;> rfl
section
variable {fr : List Str} {cs : List (Str × D)} {fn : List (Str × Stmt)} {K : PySem.W.Frag} {h : Heap} {mg : Str → Option Value}
theorem SaysJ.parts (c : SaysJ fr cs fn K) : (fr.all fun x => (He.Fa.free x).ok K) = true ∧ (cs.all fun c => conB K c.1 c.2) = true ∧ (fn.all fun d => (He.Fa.glo d.1).ok K && (mkDef d).ok K) = true := by
  have c1 := He.ba (congrArg (fun z : AlJ => z.1) c : _ = true)
  exact ⟨c1.1, He.ba c1.2⟩
theorem SaysJ.free (c : SaysJ fr cs fn K) (X : K.In h) (G : h.Ns mainGlobals mg) (i : Nat) {x : Str} (e : fr[i]? = some x := by rfl) : mg x = none := He.free_ok X G (List.all_eq_true.mp c.parts.1 x (List.mem_of_getElem? e))
theorem SaysJ.con (c : SaysJ fr cs fn K) (X : K.In h) (G : h.Ns mainGlobals mg) (i : Nat) {x : Str} {d : D} (e : cs[i]? = some (x, d) := by rfl) : IsC K mg x d := by
  have h1 : conB K x d = true := List.all_eq_true.mp c.parts.2.1 (x, d) (List.mem_of_getElem? e)
  unfold conB at h1
  split at h1
  · rename_i u q
    obtain ⟨v, r, k⟩ := datB_ok h1
    exact ⟨u, v, PySem.W.mg_of X G q, r, k⟩
  · cases h1
theorem SaysJ.fun_ (c : SaysJ fr cs fn K) (X : K.In h) (G : h.Ns mainGlobals mg) (i : Nat) {x : Str} {st : Stmt} (e : fn[i]? = some (x, st) := by rfl) : ∃ fd, FunD K x x (defArgs st) (defBody st) (defScope st) [] [] (He.ga K x) fd ∧ mg x = some (.ref (He.ga K x)) := by
  have h1 := He.ba (List.all_eq_true.mp c.parts.2.2 (x, st) (List.mem_of_getElem? e))
  have e1 : fn.map (fun d => He.fnW K (mkDef d).at_) = fn.map fun d => (mkDef d).val := congrArg (fun z : AlJ => z.2) c
  have e2 : (fn.map fun d => He.fnW K (mkDef d).at_)[i]? = (fn.map fun d => (mkDef d).val)[i]? := by rw [e1]
  rw [List.getElem?_map, List.getElem?_map, e] at e2
  obtain ⟨fd, F⟩ := He.DefD.funD (Option.some.inj e2) h1.2
  exact ⟨fd, F, He.glo_ok X G h1.1⟩
theorem SaysJ.def_ (c : SaysJ fr cs fn K) (X : K.In h) (G : h.Ns mainGlobals mg) (i : Nat) {x : Str} {st : Stmt} (e : fn[i]? = some (x, st) := by rfl) : IsDef K mg x st :=
  let ⟨fd, F, g⟩ := c.fun_ X G i e
  ⟨_, fd, F, g⟩
end
/-! ### the law's def -/
theorem def_okF {P : Program} {w : World} {K : PySem.W.Frag} {mg : Str → Option Value} {base : Heap} {x : Str} {st : Stmt} {N ps : List Str} {k n : Nat} {io : Nat → Bool} {m : MS} {f : Addr} {fd : FuncData} (F : FunD K x x (defArgs st) (defBody st) (defScope st) [] [] f fd) (S : FnScope N ps (defScope st)) (hn : ps.length = n)
    (hb : ∀ (f : Addr) (cdv : Value) (A : Around) (outer : List PySem.Env) (s : Shared) (H : Hp) (E : XK), Room k (A.deeper (envOfC x (defScope st) s.heap.objs.size f cdv)) → PSs (cxOf CX0 P w K mg base N x (defScope st) f cdv A outer s H E).nox (defBody st) (tS K (io0 io) m)) :
    FnOk P w K mg base CX0 (k + 1) f fd ps (spF K n (fnD N.length io m)) := by
  refine F.ok S (fun vs H Q E h => ?_) (fun cdv A outer s H vs Q E hr h => ⟨tS K (io0 io) m, (hb f cdv A outer s H E hr).nox, fn_read h⟩)
  obtain ⟨B, ts, F', h1, _⟩ := h
  rw [h1, hn]
def script (ns : List Int) : T := .fz (.nd .ll (ns.map D.int))
/-- what a law's def must do -/
def LawYes (f : Fn) : Prop := ∀ ns : List Int, ns.length ≤ 63 → ∃ ts, f [script ns] = some (.fz (.bl true), ts)
theorem script_dat {K : PySem.W.Frag} {B : Hp} : ∀ ns : List Int, DatL K B (ns.map D.int) (ns.map V.int)
  | [] => rfl
  | n :: ns => ⟨_, _, rfl, rfl, script_dat ns⟩
theorem law_sp {K : PySem.W.Frag} {f : Fn} (y : LawYes f) {H : Hp} {a : Addr} {ns : List Int} (hl : ns.length ≤ 63) (hS : SqL K H a (ns.map V.int)) : spF K 1 f [.ref a] H (fun v _ => v = .bl true) fun _ _ _ => False := by
  obtain ⟨ts, e⟩ := y ns hl
  refine ⟨H, [script ns], fun _ _ => False, rfl, ⟨Ex.refl _, fun i t h => ?_, fun _ _ z => z.elim, fun _ _ z => z.elim, fun _ _ _ _ z => z.elim, rfl⟩, _, ts, e, fun v B' H' F' G _ _ o => ?_⟩
  · match i, h with
    | 0, h =>
      cases (show some (some (script ns)) = some (some t) from h)
      exact ⟨.ref a, rfl, show Dat K H _ _ from ⟨a, _, rfl, hS, script_dat ns⟩⟩
    | i + 1, h => cases (show none = some (some t) from h)
  · exact o.1
end DL

end

section
set_option Elab.async false
set_option linter.all false
set_option maxRecDepth 100000
set_option maxHeartbeats 2000000
/-! DX: never; texts; methods of texts; the greatest of a tuple; written dicts. -/
namespace DL
open PySem L2 TL
section
variable {X : Cx} {K : PySem.W.Frag} {H B : Hp} {p q : Bool} {pos : Pos}
/-! ### what is never come to -/
def eNo : M := fun _ => none
def oNo : MO := fun _ => none
def iNo : MI := fun _ => none
def tNo : MT := fun _ => none
theorem e_never {e : Expr} : PE X e (tE X.K p eNo) := ⟨fun _ _ _ _ _ _ h => by obtain ⟨B, ρ, F, S, a, ρ', e, k⟩ := h; cases e⟩
theorem o_never {e : Expr} : PE X e (tO X.K oNo) := ⟨fun _ _ _ _ _ _ h => by obtain ⟨B, ρ, F, S, a, ρ', e, k⟩ := h; cases e⟩
theorem i_never {tg e : Expr} : PI X tg e (tI X.K iNo) := ⟨fun _ _ _ _ _ _ h => by obtain ⟨B, ρ, F, S, a, ρ', e, k⟩ := h; cases e⟩
theorem t_never {e : Expr} : PT X e (tT X.K p tNo) := ⟨fun _ _ _ _ _ _ h => by obtain ⟨B, ρ, F, S, a, ρ', e, k⟩ := h; cases e⟩
/-! ### one way or the other -/
theorem PE.or {e : Expr} {t t' : TE} (h : PE X e t) (h' : PE X e t') : PE X e (fun σ H Q => t σ H Q ∨ t' σ H Q) := ⟨fun pins s σ H Q I z => z.elim (h.run pins s σ H Q I) (h'.run pins s σ H Q I)⟩
theorem PI.or {tg e : Expr} {t t' : TI} (h : PI X tg e t) (h' : PI X tg e t') : PI X tg e (fun σ H R => t σ H R ∨ t' σ H R) := ⟨fun pins s σ H R I z => z.elim (h.run pins s σ H R I) (h'.run pins s σ H R I)⟩
def mOr {α : Type} (a b : Env → Option (α × Env)) : Env → Option (α × Env) := fun ρ => (a ρ).or (b ρ)
theorem mOr_of {α : Type} {a b : Env → Option (α × Env)} {ρ : Env} {x : α × Env} (h : mOr a b ρ = some x) : a ρ = some x ∨ b ρ = some x := by
  unfold mOr at h
  cases z : a ρ with
  | none => rw [z] at h; exact .inr h
  | some y => rw [z] at h; exact .inl h
theorem e_or {e : Expr} {a b : M} (h : PE X e (tE X.K p a)) (h' : PE X e (tE X.K p b)) : PE X e (tE X.K p (mOr a b)) := peW (PE.or h h') fun σ H Q h => by
  obtain ⟨B, ρ, F, S, x, ρ', e, k⟩ := h
  exact (mOr_of e).imp (fun e => ⟨B, ρ, F, S, x, ρ', e, k⟩) fun e => ⟨B, ρ, F, S, x, ρ', e, k⟩
theorem i_or {tg e : Expr} {a b : MI} (h : PI X tg e (tI X.K a)) (h' : PI X tg e (tI X.K b)) : PI X tg e (tI X.K (mOr a b)) := piW (PI.or h h') fun σ H R h => by
  obtain ⟨B, ρ, F, S, x, ρ', e, k⟩ := h
  exact (mOr_of e).imp (fun e => ⟨B, ρ, F, S, x, ρ', e, k⟩) fun e => ⟨B, ρ, F, S, x, ρ', e, k⟩
/-! ### a text walked -/
abbrev sL (l : List Nat) : Str := ⟨l.toArray⟩
def signs (x : Str) : List D := (tl x).map fun c => .str (sL [c])
theorem wk_str {x : Str} : Wk K B (Its x) (signs x) :=
  ⟨fun B1 H _ _ => by show x.cps.size ≤ _; unfold signs; simp [tl], fun i d g B1 H e1 e2 => by
    unfold signs at g
    rw [List.getElem?_map] at g
    cases q : (tl x)[i]? with
    | none => rw [q] at g; cases g
    | some c =>
      rw [q] at g
      cases g
      have q' : x.cps[i]? = some c := by rw [← Array.getElem?_toList]; exact q
      obtain ⟨h1, _⟩ := Array.getElem?_eq_some_iff.mp q'
      exact ⟨h1, fun v H' y => by
        obtain ⟨rfl, c', y1, rfl⟩ := y
        rw [q'] at y1
        cases y1
        exact ⟨B1, New.refl e2, rfl⟩⟩⟩
def iSt (m : M) : MI := fun ρ => (m ρ).bind fun x => match x.1 with
  | .vl (.str s) => some (signs s, x.2)
  | _ => none
theorem i_str {tg e : Expr} {m : M} (h : PE X e (tE X.K p m)) : PI X tg e (tI X.K (iSt m)) := piW (pi_str h) fun σ H R h => by
  obtain ⟨B, ρ, F, S, ds, ρ', e, k⟩ := h
  obtain ⟨⟨x, ρ1⟩, ea, e⟩ := ob e
  refine ⟨B, ρ, F, S, x, ρ1, ea, fun v B1 H1 F1 E1 S1 A1 P1 => ?_⟩
  match x, e, A1 with
  | .vl (.str s), e, A1 =>
    cases (show some (signs s, ρ1) = some (ds, ρ') from e)
    exact ⟨s, A1, k _ B1 H1 F1 E1 S1 wk_str⟩
  | .vl .non, e, _ => cases (show none = some _ from e)
  | .vl (.bl _), e, _ => cases (show none = some _ from e)
  | .vl (.int _), e, _ => cases (show none = some _ from e)
  | .vl (.nd _ _), e, _ => cases (show none = some _ from e)
  | .rf _ _, e, _ => cases (show none = some _ from e)
/-! ### calls of types on texts and numbers -/
def fStr : D → Option D
  | .int i => if decide (i.natAbs.log2 < 1920) = true then some (.str (Str.ofString (toString i))) else none
  | _ => none
theorem p_str : ∃ r, CallR X (.type "str") r ∧ OpA X.K r (f1 fStr) := ⟨_, call_str_int, fun B H vs ds g Q b sh ef k => by
  obtain ⟨d, e1, e2⟩ := f1_of ef
  obtain ⟨v, rfl, hv⟩ := sh.one e1
  unfold fStr at e2
  split at e2
  · rename_i i
    by_cases w : decide (i.natAbs.log2 < 1920) = true
    · rw [if_pos w] at e2
      cases e2
      cases (show v = .int i from hv)
      exact ⟨i, rfl, of_decide_eq_true w, k _ B H (New.refl b) rfl⟩
    · rw [if_neg w] at e2; cases e2
  · cases e2⟩
def fIntS : D → Option D
  | .str s => if decide (s.length ≤ 640) = true then (intText? s).map .int else none
  | _ => none
theorem p_intS : ∃ r, CallR X (.type "int") r ∧ OpA X.K r (f1 fIntS) := ⟨_, call_int_str, fun B H vs ds g Q b sh ef k => by
  obtain ⟨d, e1, e2⟩ := f1_of ef
  obtain ⟨v, rfl, hv⟩ := sh.one e1
  unfold fIntS at e2
  split at e2
  · rename_i s
    by_cases w : decide (s.length ≤ 640) = true
    · rw [if_pos w] at e2
      cases z : intText? s with
      | none => rw [z] at e2; cases e2
      | some n =>
        rw [z] at e2
        cases e2
        cases (show v = .str s from hv)
        exact ⟨s, n, rfl, z, of_decide_eq_true w, k _ B H (New.refl b) rfl⟩
    · rw [if_neg w] at e2; cases e2
  · cases e2⟩
/-! ### methods whose receiver stays -/
def tyD (T : String) : D → Bool
  | .str _ => T == "str"
  | .nd .lst _ => T == "list"
  | .nd .ll _ => T == "list"
  | _ => false
def eBm (T : String) (q : Bool) (f : D → List D → Option D) (o : M) (as : MA) : M := fun ρ => (o ρ).bind fun x => (deref x.2 x.1).bind fun d => if (!tyD T d) = true then none else (as x.2).bind fun y => if guard q x.1 = true then none else (deref y.2 x.1).bind fun d => (derefs y.2 y.1).bind fun ds => (f d ds).bind fun r => some (.vl r, y.2)
def MetR (K : PySem.W.Frag) (r : V → List V → Hp → VK → Prop) (f : D → List D → Option D) : Prop := ∀ (B H : Hp) (x : V) (d : D) (vs : List V) (ds : List D) (g : D) (Q : VK), Ex B H → Sh K B H d x → ShL K B H ds vs → f d ds = some g → (∀ v B' H', New B H B' H' → Dat K B' g v → Q v H') → r x vs H Q
theorem tyD_ok {T : String} {d : D} {v : V} (b : Ex B H) (h : Sh K B H d v) (e : tyD T d = true) : tyV K T v H := by
  cases d with
  | str s => cases (show v = .str s from h); exact eq_of_beq e
  | nd k ds => cases k with
    | lst =>
      obtain ⟨a, vs, rfl, h2, h3⟩ := h
      exact .inl ⟨eq_of_beq e, vs, SqL.of h2⟩
    | ll =>
      obtain ⟨a, vs, rfl, h2, h3⟩ := h
      exact .inl ⟨eq_of_beq e, vs, h2⟩
    | tup => cases e
    | dic _ => cases e
    | exc _ _ => cases e
    | ins _ _ => cases e
  | _ => cases e
theorem tE_bm {T : String} {r : V → List V → Hp → VK → Prop} {f : D → List D → Option D} {mo : M} {ms : MA} (R : MetR K r f) {σ : L2.St} {Q : VK} (h : tE K false (eBm T q f mo ms) σ H Q) : tBM K T r (tE K p mo) (tA K q ms) σ H Q := by
  obtain ⟨B, ρ, F, S, a, ρ', e, k⟩ := h
  obtain ⟨⟨x, ρ1⟩, ea, e⟩ := ob e
  obtain ⟨d0, ed, e⟩ := ob e
  obtain ⟨et, e⟩ := og e
  obtain ⟨⟨ys, ρ2⟩, eb, e⟩ := ob e
  obtain ⟨eg, e⟩ := og e
  obtain ⟨d, ed2, e⟩ := ob e
  obtain ⟨ds, es, e⟩ := ob e
  obtain ⟨g, ef, e⟩ := ob e
  cases e
  refine ⟨B, ρ, F, S, x, ρ1, ea, fun v B1 H1 F1 E1 S1 A1 P1 => ⟨tyD_ok S1.bh (S1.deref A1 ed) (by simpa using et), B1, ρ1, F1, S1, ys, ρ2, eb, fun vs B2 H2 F2 E2 S2 A2 P2 => ?_⟩⟩
  have A1' := A1.keep (B' := B2) (ρ' := ρ2) (H' := H2) E2.bb (guard_keep eg P2)
  exact R B2 H2 v d vs ds g Q S2.bh (S2.deref A1' ed2) (S2.derefs A2 es) ef fun w B3 H3 n dv => k w B3 H3 F2 ((E1.trans E2).trans n.ext) (S2.new n) dv fun z => nomatch z
theorem c_bm {o e : Expr} {es : List Expr} {name : Str} {apos : Pos} {T id : String} {f : D → List D → Option D} {mo : M} {ms : MA} (pa : PlainAttrs T) (slot : Slot T name id) (hty : typeOf (.builtin id) = pure (.type "method_descriptor")) (hm : ∃ r, MtR X id r ∧ MetR X.K r f)
    (ho : PE X o (tE X.K p mo)) (ha : PA X (e :: es) (tA X.K q ms))
    (hbase : attributeBase o name X.env (eval o X.env) = eval o X.env := by rfl)
    (hfew : ((backTo pos (starEach (e :: es) X.env)).all (fun x => !x.1) && (backToKw pos (keywordEach [] X.env)).all (fun x => x.1.isSome)
      && decide ((e :: es).length + ([] : List Keyword).length + (if ([] : List Keyword).isEmpty then 0 else 1) < 30)) = true := by rfl)
    (hline : (apos.endLine == pos.line) = true := by rfl) (hs : starEach (e :: es) X.env = (false, eval e X.env) :: starEach es X.env := by rfl) (hplain : (backTo pos (starEach es X.env)).any (·.1) = false := by rfl) :
    PE X (.Call (.Attribute o name apos) (e :: es) [] pos) (tE X.K false (eBm T q f mo ms)) := by
  obtain ⟨r, h1, h2⟩ := hm
  exact peW (pe_bm pa slot hty h1 ho ha hbase hfew hline hs hplain) fun _ _ _ h => tE_bm h2 h
def txts : List D → Option (List Str)
  | [] => some []
  | .str s :: ds => (txts ds).map (s :: ·)
  | _ :: _ => none
theorem txts_vs : ∀ {ds : List D} {vs : List V} {ns : List Str}, DatL K B ds vs → txts ds = some ns → vs = ns.map V.str
  | [], _, _, h, e => by cases (show some [] = some _ from e); exact h
  | .str i :: ds, _, _, ⟨v, r, h1, h2, h3⟩, e => by
    have e' : (txts ds).map (i :: ·) = some _ := e
    cases q : txts ds with
    | none => rw [q] at e'; cases e'
    | some ns =>
      rw [q] at e'
      cases e'
      rw [h1, show v = V.str i from h2, txts_vs h3 q]
      rfl
  | .non :: _, _, _, _, e => by cases e
  | .int _ :: _, _, _, _, e => by cases e
  | .bl _ :: _, _, _, _, e => by cases e
  | .nd _ _ :: _, _, _, _, e => by cases e
theorem txts_map (xs : List Str) : txts (xs.map .str) = some xs := by
  induction xs with
  | nil => rfl
  | cons x xs ih => show (txts (xs.map .str)).map (x :: ·) = _; rw [ih]; rfl
theorem txts_dat : ∀ (xs : List Str), DatL K B (xs.map D.str) (xs.map V.str)
  | [] => rfl
  | x :: xs => ⟨_, _, rfl, rfl, txts_dat xs⟩
/-- by codes: what a text is parted to -/
def fSplit : D → List D → Option D
  | .str a, [.str b] => if (decide (tl b ≠ []) && ((tl b).all (fun c => decide (c < 256)) && decide (a.length ≤ 100000))) = true then some (.nd .lst ((spl (tl b) 0 [] (tl a)).map fun l => .str (sL l))) else none
  | _, _ => none
theorem b3 {a b c : Bool} (h : (a && (b && c)) = true) : a = true ∧ b = true ∧ c = true := by
  cases a <;> cases b <;> cases c <;> simp_all
theorem p_split : ∃ r, MtR X "str.split" r ∧ MetR X.K r fSplit := ⟨_, mt_split, fun B H x d vs ds g Q b sx sh ef k => by
  unfold fSplit at ef
  split at ef
  · rename_i a b'
    by_cases w : (decide (tl b' ≠ []) && ((tl b').all (fun c => decide (c < 256)) && decide (a.length ≤ 100000))) = true
    · rw [if_pos w] at ef
      cases ef
      obtain ⟨w1, w2, w3⟩ := b3 w
      have w1 := of_decide_eq_true w1
      have w3 := of_decide_eq_true w3
      cases (show x = .str a from sx)
      obtain ⟨v, rfl, hv⟩ := sh.one rfl
      cases (show v = .str b' from hv)
      refine ⟨a, b', rfl, rfl, ?_, Nat.le_trans (Nat.add_le_add_right w3 2) (by decide), fun p hp => ?_⟩
      · have := len1 w1
        simp only [beq_eq_false_iff_ne]
        omega
      · have n := New.lay (o := .lst ((Txt.split a b').map V.str)) b hp
        refine k _ _ _ n ⟨p, _, rfl, upd_same, ?_⟩
        have e : (spl (tl b') 0 [] (tl a)).map (fun l => D.str (sL l)) = (Txt.split a b').map D.str := by
          rw [← split_spl a b' w1 (kind_ok (by rw [← Array.all_toList]; exact w2)), List.map_map]
          exact List.map_congr_left fun y _ => congrArg D.str (mk_tl y)
        rw [e]
        exact txts_dat _
    · rw [if_neg w] at ef; cases ef
  · cases ef⟩
def fJoin : D → List D → Option D
  | .str a, [.nd k ds] => if k.isQ = true then (txts ds).bind fun ys => if decide ((ys.map (·.length)).sum + ys.length * a.length ≤ 16777216) = true then some (.str (sL (joinL (tl a) (ys.map tl)))) else none else none
  | _, _ => none
theorem p_join : ∃ r, MtR X "str.join" r ∧ MetR X.K r fJoin := ⟨_, mt_join, fun B H x d vs ds g Q b sx sh ef k => by
  unfold fJoin at ef
  split at ef
  · rename_i a kk es
    by_cases w : kk.isQ = true
    · rw [if_pos w] at ef
      obtain ⟨ys, e1, ef⟩ := ob ef
      by_cases w2 : decide ((ys.map (·.length)).sum + ys.length * a.length ≤ 16777216) = true
      · rw [if_pos w2] at ef
        cases ef
        cases (show x = .str a from sx)
        obtain ⟨v, rfl, hv⟩ := sh.one rfl
        obtain ⟨p, ws, rfl, h2, h3⟩ := hv.nd b
        have := txts_vs h3 e1
        subst this
        refine ⟨a, p, ys, rfl, rfl, h2.q w, of_decide_eq_true w2, ?_⟩
        have e : Txt.join a ys = sL (joinL (tl a) (ys.map tl)) := by
          rw [join_eq]
          exact ext_tl (tl_join a ys)
        rw [e]
        exact k _ B H (New.refl b) rfl
      · rw [if_neg w2] at ef; cases ef
    · rw [if_neg w] at ef; cases ef
  · cases ef⟩
def fStarts : D → List D → Option D
  | .str a, [.str b] => some (.bl (Txt.startswith a b))
  | _, _ => none
theorem p_startswith : ∃ r, MtR X "str.startswith" r ∧ MetR X.K r fStarts := ⟨_, mt_startswith, fun B H x d vs ds g Q b sx sh ef k => by
  unfold fStarts at ef
  split at ef
  · rename_i a b'
    cases ef
    cases (show x = .str a from sx)
    obtain ⟨v, rfl, hv⟩ := sh.one rfl
    cases (show v = .str b' from hv)
    exact ⟨a, b', rfl, rfl, k _ B H (New.refl b) rfl⟩
  · cases ef⟩
/-! ### ord -/
def fOrd : D → Option D
  | .str s => match tl s with
    | [c] => some (.int (c : Int))
    | _ => none
  | _ => none
theorem p_ord : ∃ r, CallR X (.builtin "ord") r ∧ OpA X.K r (f1 fOrd) := ⟨_, call_ord, fun B H vs ds g Q b sh ef k => by
  obtain ⟨d, e1, e2⟩ := f1_of ef
  obtain ⟨v, rfl, hv⟩ := sh.one e1
  unfold fOrd at e2
  split at e2
  · rename_i s
    split at e2
    · rename_i c z
      cases e2
      cases (show v = .str s from hv)
      refine ⟨s, rfl, by rw [len_tl, z]; rfl, ?_⟩
      have e : s = sL [c] := ext_tl z
      rw [show s.cps.getD 0 0 = c by rw [e]; rfl]
      exact k _ B H (New.refl b) rfl
    · cases e2
  · cases e2⟩
end
end DL

end

section
set_option Elab.async false
set_option linter.all false
set_option maxRecDepth 100000
set_option maxHeartbeats 2000000
/-! DY: the greatest of a tuple, what is walked whatever it is, int of both, dicts asked, stored to, displayed. -/
namespace PySem
section
variable {prog : Program} {w : World} {A : Around} {E : Value → Shared → Prop} {s : Shared} {l : Addr}
theorem max_tupD {xs : Array (Int × Tok)} {Q : Value → Shared → Prop} (hh : A.handled = none) (hl : s.heap.IsTuple l (intItems xs)) (hne : 0 < xs.size)
    (h : ∀ v h' tk, (intItems xs)[argBest (fun i j => decide (numAt xs i > numAt xs j)) (xs.size - 1)]? = some v → (∀ b o, s.heap.get? b = some o → h'.get? b = some o) → Q v { s with heap := h', toks := tk }) :
    wpAny (model prog w) A (call (.builtin "max") [.ref l]) Q E s := by
  obtain ⟨o, ho, hc, n, hd⟩ := hl
  have hl : s.heap.IsTuple l (intItems xs) := ⟨o, ho, hc, n, hd⟩
  have hlt := Heap.lt_size ho
  refine call_max_walk (wpAny_pyIter_tuple hl ⟨s.heap.objs.size, [_, l], [_], _, _, _, _, rfl, Walks.tuple (A := A.in1) hh _ l (Nat.ne_of_lt hlt) (intItems xs), ⟨⟨_, Heap.get?_push_size _ rfl, rfl, rfl⟩, hl.push _⟩, fun d hd => ?_, by simpa [intItems] using hne, CmpOf.ints_gt (numAt xs) (fun _ _ => intItems_at), fun v h' tk hP hk => ?_⟩)
  · show d < (s.heap.push _).objs.size
    rw [Heap.size_push]
    rcases List.mem_cons.mp hd with rfl | hd
    · exact Nat.lt_succ_self _
    · rcases List.mem_cons.mp hd with rfl | hd
      · exact Nat.lt_succ_of_lt hlt
      · cases hd
  · refine h v h' tk (by simpa [intItems] using hP) fun b o e => ?_
    refine hk b o (fun hm => ?_) (Heap.get?_push_of_some _ e)
    rcases List.mem_cons.mp hm with e1 | hm
    · have := Heap.lt_size e
      rw [e1] at this
      exact Nat.lt_irrefl _ this
    · cases hm
end
end PySem
namespace DL
open PySem L2 TL
section
variable {X : Cx} {K : PySem.W.Frag} {H B : Hp} {p q : Bool} {pos : Pos} {io : Io}
def rMaxU (K : PySem.W.Frag) : List V → Hp → VK → Prop := fun vs H Q => ∃ (a : Addr) (ns : List Int), vs = [V.ref a] ∧ SqT K H a (ns.map V.int) ∧ 0 < ns.length ∧ ∀ m, m ∈ ns → (∀ y, y ∈ ns → y ≤ m) → Q (.int m) H
theorem cr_maxU (hc : X.calm = true) : CallR X (.builtin "max") (rMaxU X.K) := by
  intro pins s σ H vs us Q I r h
  obtain ⟨a, ns, rfl, hs, hne, q⟩ := h
  obtain ⟨its, rv, hl, _⟩ := I.tuple hs
  rw [Vals.ref1 r]
  obtain ⟨xs, e⟩ := rv.ints.allInts.items
  have hn : numsOf (intItems xs).toList = ns := by rw [← e]; exact rv.ints.numsOf
  rw [nums_intItems] at hn
  subst hn
  rw [e] at hl
  have hsz : 0 < xs.size := by simpa using hne
  refine PySem.max_tupD (I.ok.hd hc) hl hsz fun v h' tk hv hk => ?_
  obtain ⟨t, rfl⟩ := intItems_at hv
  obtain ⟨h1, h2⟩ := argBest_gt (numAt xs) (xs.size - 1)
  refine ⟨.int _, H, I.kept hk, ⟨_, rfl⟩, q _ ?_ fun y hy => ?_⟩
  · rw [numAt_eq]; exact PySem.getD_mem (by rw [List.length_map, Array.length_toList]; omega)
  · obtain ⟨j, hj, rfl⟩ := mem_getD hy
    rw [List.length_map, Array.length_toList] at hj
    rw [← numAt_eq]; exact h2 j (by omega)
def mxL : List Int → Int
  | [] => 0
  | [i] => i
  | i :: j :: r => max i (mxL (j :: r))
theorem mxL_mem : ∀ {l : List Int}, l ≠ [] → mxL l ∈ l ∧ ∀ y ∈ l, y ≤ mxL l
  | [], h => absurd rfl h
  | [i], _ => ⟨List.mem_cons_self .., fun y hy => by
    have : y = i := by simpa using hy
    show y ≤ i
    omega⟩
  | i :: j :: r, _ => by
    obtain ⟨h1, h2⟩ := mxL_mem (l := j :: r) (by simp)
    have e : mxL (i :: j :: r) = max i (mxL (j :: r)) := rfl
    rw [e]
    refine ⟨?_, fun y hy => ?_⟩
    · by_cases z : i ≤ mxL (j :: r)
      · rw [show max i (mxL (j :: r)) = mxL (j :: r) by omega]
        exact List.mem_cons_of_mem _ h1
      · rw [show max i (mxL (j :: r)) = i by omega]
        exact List.mem_cons_self ..
    · rcases List.mem_cons.mp hy with rfl | hy
      · omega
      · have := h2 y hy
        omega
theorem mxL_uni {l : List Int} {m : Int} (hm : m ∈ l) (h : ∀ y ∈ l, y ≤ m) : m = mxL l := by
  have hne : l ≠ [] := fun e => by rw [e] at hm; cases hm
  obtain ⟨h1, h2⟩ := mxL_mem hne
  have := h _ h1
  have := h2 _ hm
  omega
def fMaxU : D → Option D
  | .nd .tup ds => (intsD ds).bind fun ns => if decide (ns ≠ []) = true then some (.int (mxL ns)) else none
  | _ => none
theorem p_maxU (hc : X.calm = true) : ∃ r, CallR X (.builtin "max") r ∧ OpA X.K r (f1 fMaxU) := ⟨_, cr_maxU hc, fun B H vs ds g Q b sh ef k => by
  obtain ⟨d, e1, e2⟩ := f1_of ef
  obtain ⟨v, rfl, hv⟩ := sh.one e1
  unfold fMaxU at e2
  split at e2
  · rename_i es
    obtain ⟨ns, e3, e2⟩ := ob e2
    by_cases w : decide (ns ≠ []) = true
    · rw [if_pos w] at e2
      cases e2
      obtain ⟨a, ws, rfl, h2, h3⟩ := hv
      have := intsD_vs h3 e3
      subst this
      refine ⟨a, ns, rfl, b.st h2, List.length_pos_iff.mpr (of_decide_eq_true w), fun m hm hy => ?_⟩
      rw [mxL_uni hm hy]
      exact k _ B H (New.refl b) rfl
    · rw [if_neg w] at e2; cases e2
  · cases e2⟩
/-! ### in: among the items, or a sign of a text -/
def fInC (neg : Bool) : D → D → Option D
  | .str a, .str b => match tl a with
    | [c] => some (.bl (if neg then !decide (c ∈ tl b) else decide (c ∈ tl b)))
    | _ => none
  | _, _ => none
theorem inC_of {neg : Bool} {B H : Hp} {x y : V} {d e r : D} (sx : Sh K B H d x) (sy : Sh K B H e y) (ef : fInC neg d e = some r) : ∃ c b, x = .str ⟨#[c]⟩ ∧ y = .str b ∧ r = .bl (if neg then !decide (c ∈ tl b) else decide (c ∈ tl b)) := by
  unfold fInC at ef
  split at ef
  · rename_i a b
    split at ef
    · rename_i c z
      cases ef
      refine ⟨c, b, ?_, sy, rfl⟩
      rw [show x = .str a from sx]
      exact congrArg V.str (ext_tl z)
    · cases ef
  · cases ef
def fInA : D → D → Option D := fun d e => (fInQ false d e).or (fInC false d e)
theorem p_inA : ∃ r, OpR X (compareOp .In) r ∧ OpD X.K r fInA := ⟨_, OpR.or op_in_seq op_inS, OpD.or opd_inQ fun B H x y d e r Q b sx sy ef k => by
  obtain ⟨c, z, h1, h2, rfl⟩ := inC_of sx sy ef
  exact ⟨c, z, h1, h2, k _ B H (New.refl b) rfl⟩⟩
def fNotInA : D → D → Option D := fun d e => (fInQ true d e).or (fInC true d e)
theorem p_notinA : ∃ r, OpR X (compareOp .NotIn) r ∧ OpD X.K r fNotInA := ⟨_, OpR.or op_notIn_seq op_notInS, OpD.or opd_inQ fun B H x y d e r Q b sx sy ef k => by
  obtain ⟨c, z, h1, h2, rfl⟩ := inC_of sx sy ef
  exact ⟨c, z, h1, h2, k _ B H (New.refl b) rfl⟩⟩
/-! ### int of a number or a text -/
theorem OpA.or {r r' : List V → Hp → VK → Prop} {f g : D → Option D} (h : OpA K r (f1 f)) (h' : OpA K r' (f1 g)) : OpA K (fun xs H Q => r xs H Q ∨ r' xs H Q) (f1 fun d => (f d).or (g d)) := fun B H vs ds x Q b sh ef k => by
  obtain ⟨d, e1, e2⟩ := f1_of ef
  subst e1
  cases z : f d with
  | none =>
    rw [z] at e2
    exact .inr (h' B H vs [d] x Q b sh e2 k)
  | some y =>
    rw [z] at e2
    cases e2
    exact .inl (h B H vs [d] _ Q b sh z k)
def fIntA : D → Option D := fun d => (fInt d).or (fIntS d)
theorem p_intA : ∃ r, CallR X (.type "int") r ∧ OpA X.K r (f1 fIntA) := by
  obtain ⟨r, h1, h2⟩ := p_int (X := X)
  obtain ⟨r', h3, h4⟩ := p_intS (X := X)
  exact ⟨_, CallR.or h1 h3, OpA.or h2 h4⟩
/-! ### walked: a list, a tuple, a text -/
def iAny (m : M) : MI := fun ρ => (m ρ).bind fun x => match x.1 with
  | .vl (.str s) => some (signs s, x.2)
  | a => (frzA x.2 a).bind fun y => match y.1 with
    | .nd k' ds => if DK.isQ k' = true then some (ds, y.2) else none
    | _ => none
theorem iAny_or {m : M} {ρ : Env} {x : List D × Env} (h : iAny m ρ = some x) : iSq DK.isQ m ρ = some x ∨ iSt m ρ = some x := by
  obtain ⟨⟨a, ρ1⟩, ea, e⟩ := ob h
  unfold iSq iSt
  rw [ea]
  match a, e with
  | .vl (.str s), e => exact .inr e
  | .vl .non, e => exact .inl e
  | .vl (.bl _), e => exact .inl e
  | .vl (.int _), e => exact .inl e
  | .vl (.nd _ _), e => exact .inl e
  | .rf _ _, e => exact .inl e
theorem i_any {tg e : Expr} {m : M} (h : PE X e (tE X.K p m)) : PI X tg e (tI X.K (iAny m)) := piW (PI.or (i_seq h) (i_str h)) fun σ H R h => by
  obtain ⟨B, ρ, F, S, x, ρ', e, k⟩ := h
  exact (iAny_or e).imp (fun e => ⟨B, ρ, F, S, x, ρ', e, k⟩) fun e => ⟨B, ρ, F, S, x, ρ', e, k⟩
/-! ### dicts -/
def keyD : D → Option Key
  | .int i => some (.inl i)
  | .str s => some (.inr s)
  | _ => none
theorem keyD_v {d : D} {k : Key} {v : V} (e : keyD d = some k) (h : Dat K B d v) : v = kV k := by
  cases d with
  | int i => cases e; exact h
  | str s => cases e; exact h
  | non => cases e
  | bl _ => cases e
  | nd _ _ => cases e
def dGet : List Key → List D → Key → Option D
  | k :: ks, d :: ds, x => if k = x then some d else dGet ks ds x
  | _, _, _ => none
theorem dGet_val : ∀ {ks : List Key} {ds : List D} {vs : List V} {x : Key} {d : D}, DatL K B ds vs → dGet ks ds x = some d → ∃ v, valV (ks.zip vs) x = some v ∧ Dat K B d v
  | [], _, _, _, _, _, e => by cases e
  | _ :: _, [], _, _, _, _, e => by cases e
  | k :: ks, d' :: ds, _, x, d, ⟨v, r, h1, h2, h3⟩, e => by
    subst h1
    have e : (if k = x then some d' else dGet ks ds x) = some d := e
    by_cases z : k = x
    · rw [if_pos z] at e
      cases e
      exact ⟨v, by rw [List.zip_cons_cons]; exact valV_pos z, h2⟩
    · rw [if_neg z] at e
      obtain ⟨w, g1, g2⟩ := dGet_val h3 e
      exact ⟨w, by rw [List.zip_cons_cons, valV_neg z]; exact g1, g2⟩
def fIxD : D → D → Option D
  | .nd (.dic ks) ds, e => (keyD e).bind fun k => dGet ks ds k
  | _, _ => none
def rIxD : R2 := fun x y H Q => ∃ a v, x = .ref a ∧ DGet H a y (some v) ∧ Q v H
theorem opd_ixD : OpD K rIxD fIxD := fun B H x y d e g Q b sx sy ef k => by
  unfold fIxD at ef
  split at ef
  · rename_i ks ds
    obtain ⟨kk, e1, ef⟩ := ob ef
    obtain ⟨a, vs, rfl, ⟨h1, h2⟩, h3⟩ := sx
    obtain ⟨v, g1, g2⟩ := dGet_val h3 ef
    have hy : y = kV kk := by
      cases e with
      | int i => cases e1; exact sy
      | str s => cases e1; exact sy
      | non => cases e1
      | bl _ => cases e1
      | nd _ _ => cases e1
    refine ⟨a, v, rfl, .inl ⟨ks.zip vs, kk, h2, hy, g1.symm⟩, k v B H (New.refl b) g2⟩
  · cases ef
theorem z_ixd {a b : Expr} {ma mb : M} (hu : X.A.units + 1 < cLine) (ha : PE X a (tE X.K p ma)) (hb : PE X b (tE X.K q mb)) (hs : NoSl b := by exact fun _ _ => rfl) : PE X (.Subscript a b pos) (tE X.K (p && q) (eB q fIxD ma mb)) :=
  peW (pe_dget hu ha hb hs) fun _ _ _ h => tE_bin opd_ixD h
/-! d[k] = v -/
def setT : List Key → Key → T → List T → List T
  | k :: ks, x, n, t :: ts => (if k = x then n else t) :: setT ks x n ts
  | _, _, _, ts => ts
def setV : List Key → Key → V → List V → List V
  | k :: ks, x, n, t :: ts => (if k = x then n else t) :: setV ks x n ts
  | _, _, _, ts => ts
theorem setV_len : ∀ (ks : List Key) (x : Key) (n : V) (vs : List V), (setV ks x n vs).length = vs.length
  | [], _, _, vs => by cases vs <;> rfl
  | _ :: _, _, _, [] => rfl
  | _ :: ks, x, n, _ :: vs => congrArg (· + 1) (setV_len ks x n vs)
theorem setV_zip : ∀ (ks : List Key) (x : Key) (n : V) (vs : List V), ks.zip (setV ks x n vs) = (ks.zip vs).map fun kv => if kv.1 = x then (kv.1, n) else kv
  | [], _, _, _ => rfl
  | _ :: _, _, _, [] => rfl
  | k :: ks, x, n, v :: vs => by
    show (k, if k = x then n else v) :: ks.zip (setV ks x n vs) = (if k = x then (k, n) else (k, v)) :: _
    rw [setV_zip ks x n vs]
    congr 1
    by_cases z : k = x
    · rw [if_pos z, if_pos z]
    · rw [if_neg z, if_neg z]
theorem setT_own {Bb Hh : Hp} {d : D} {v : V} (hd : Dat K Bb d v) : ∀ (ks : List Key) (x : Key) {G : Addr → Prop} {ts : List T} {vs : List V}, OwnL K Bb Hh G ts vs → OwnL K Bb Hh G (setT ks x (.fz d) ts) (setV ks x v vs)
  | [], x, _, ts, vs, h => by
    have e1 : setT [] x (.fz d) ts = ts := by cases ts <;> rfl
    have e2 : setV [] x v vs = vs := by cases vs <;> rfl
    rw [e1, e2]
    exact h
  | k :: ks, x, G, [], vs, h => by
    have : vs = [] := h
    subst this
    exact h
  | k :: ks, x, G, t :: ts, _, ⟨w, r, G1, h1, h2, h3, h4⟩ => by
    subst h1
    by_cases z : k = x
    · refine ⟨v, setV ks x v r, fun _ => False, by show (if k = x then v else w) :: _ = _; rw [if_pos z], fun _ z => z.elim, ?_, setT_own hd ks x (h4.mono fun a z => ⟨z.1, id⟩)⟩
      rw [if_pos z]
      exact hd
    · refine ⟨w, setV ks x v r, G1, by show (if k = x then v else w) :: _ = _; rw [if_neg z], h2, ?_, setT_own hd ks x h4⟩
      rw [if_neg z]
      exact h3
theorem OwnL.snoc {Bb Hh : Hp} {d : D} {v : V} (hd : Dat K Bb d v) : ∀ {G : Addr → Prop} {ts : List T} {vs : List V}, OwnL K Bb Hh G ts vs → OwnL K Bb Hh G (ts ++ [.fz d]) (vs ++ [v])
  | G, [], vs, h => by
    have : vs = [] := h
    subst this
    exact ⟨v, [], fun _ => False, rfl, fun _ z => z.elim, hd, rfl⟩
  | G, t :: ts, _, ⟨w, r, G1, h1, h2, h3, h4⟩ => by
    subst h1
    exact ⟨w, r ++ [v], G1, rfl, h2, h3, OwnL.snoc hd h4⟩
def fSetD : FM := fun k ts ds => match k, ds with
  | .dic ks, [e, d] => (keyD e).bind fun x => if decide (ks.length < 100000 ∧ ks.length = ts.length) = true then (if ks.any (fun k => decide (k = x)) = true then some (.non, .dic ks, setT ks x (.fz d) ts) else some (.non, .dic (ks ++ [x]), ts ++ [.fz d])) else none
  | _, _ => none
theorem any_zip : ∀ {ks : List Key} {vs : List V} {x : Key}, ks.length = vs.length → ((ks.zip vs).any fun kv => decide (kv.1 = x)) = ks.any fun k => decide (k = x)
  | [], _, _, _ => rfl
  | k :: ks, [], _, h => by cases h
  | k :: ks, v :: vs, x, h => by
    rw [List.zip_cons_cons, List.any_cons, any_zip (by simpa using h), List.any_cons]
theorem m_setD : SetR K rSetD fSetD := fun B H G k k' ts ts' l vs iv v di dv g Q b bl on ol hi hv e kk => by
  cases k with
  | dic ks =>
    obtain ⟨x, e1, e⟩ := ob (show (keyD di).bind _ = some (g, k', ts') from e)
    have hx := keyD_v e1 hi
    subst hx
    obtain ⟨o1, o2⟩ := on
    by_cases w : decide (ks.length < 100000 ∧ ks.length = ts.length) = true
    · rw [if_pos w] at e
      obtain ⟨w1, w2⟩ := of_decide_eq_true w
      have hz : (ks.zip vs).length < sizeLine := by
        rw [List.length_zip, ← o1, Nat.min_self]
        exact Nat.lt_of_lt_of_le w1 (by decide)
      have hp : DPut H l (kV x) v (upd H l (.dK (putK (ks.zip vs) x v))) := DPut.k o2 hz
      refine ⟨l, _, rfl, hp, ?_⟩
      by_cases z : ks.any (fun k => decide (k = x)) = true
      · rw [if_pos z] at e
        cases e
        have e2 : putK (ks.zip vs) x v = ks.zip (setV ks x v vs) := by
          unfold putK
          rw [any_zip o1, if_pos z, setV_zip]
        refine kk (.dK (putK (ks.zip vs) x v)) (setV ks x v vs) ⟨by rw [setV_len]; exact o1, by rw [upd_same, e2]⟩ (setT_own hv ks x ol)
      · rw [if_neg z] at e
        cases e
        have e2 : putK (ks.zip vs) x v = (ks ++ [x]).zip (vs ++ [v]) := by
          unfold putK
          rw [any_zip o1, if_neg z, List.zip_append o1]
          rfl
        refine kk (.dK (putK (ks.zip vs) x v)) (vs ++ [v]) ⟨by rw [List.length_append, List.length_append, o1]; rfl, by rw [upd_same, e2]⟩ (OwnL.snoc hv ol)
    · rw [if_neg w] at e; cases e
  | tup => cases ds : [di, dv] <;> cases e
  | lst => cases e
  | ll => cases e
  | exc _ _ => cases e
  | ins _ _ => cases e
end
end DL

end

section
set_option Elab.async false
set_option linter.all false
set_option maxRecDepth 100000
set_option maxHeartbeats 2000000
/-! DZ: displays of dicts with written keys. -/
namespace DL
open PySem L2 TL
section
variable {X : Cx} {K : PySem.W.Frag} {H B : Hp} {p q : Bool} {pos : Pos}
def kD : Key → D
  | .inl i => .int i
  | .inr s => .str s
def allF (l : List (Bool × M)) : Bool := l.all (·.1)
def mAll : List (Bool × M) → MA
  | [] => mNil
  | x :: r => mCons (allF r) x.2 (mAll r)
def trs (K : PySem.W.Frag) : List Key → List (Bool × M) → List (TE × TE)
  | k :: ks, x :: r => (tE K true (eK (kD k)), tE K x.1 x.2) :: trs K ks r
  | _, _ => []
def pr (ks : List Key) (vs : List V) : List (V × V) := (ks.zip vs).map fun kv => (kV kv.1, kv.2)
theorem tA_pairs : ∀ (vms : List (Bool × M)) (ks : List Key) {σ : L2.St} {H : Hp} {R : List V → Hp → Prop} {Z : List (V × V) → Hp → Prop}, ks.length = vms.length → (∀ vs H', R vs H' → Z (pr ks vs) H') → tA K (allF vms) (mAll vms) σ H R → tPairs (trs K ks vms) σ H Z
  | [], [], σ, H, R, Z, _, z, h => by
    obtain ⟨B, ρ, F, S, as, ρ', e, k⟩ := h
    cases e
    exact z [] H (k [] B H F Ext.refl S rfl fun _ => ⟨rfl, rfl, Ex.refl _⟩)
  | x :: r, [], _, _, _, _, hl, _, _ => by cases hl
  | [], k :: ks, _, _, _, _, hl, _, _ => by cases hl
  | x :: r, k :: ks, σ, H, R, Z, hl, z, h => by
    obtain ⟨B, ρ, F, S, as, ρ', e, kk⟩ := h
    obtain ⟨⟨y, ρ1⟩, ea, e⟩ := ob e
    obtain ⟨⟨ys, ρ2⟩, eb, e⟩ := ob e
    obtain ⟨eg, e⟩ := og e
    cases e
    refine ⟨B, ρ, F, S, .vl (kD k), ρ, rfl, fun xk B1 H1 F1 E1 S1 A1 P1 => ⟨B1, ρ, F1, S1, y, ρ1, ea, fun v B2 H2 F2 E2 S2 A2 P2 => ?_⟩⟩
    have hx : xk = kV k := by cases k <;> exact A1
    refine tA_pairs r ks (R := fun vs H3 => R (v :: vs) H3) (Z := fun ps H3 => Z ((xk, v) :: ps) H3) (by simpa using hl) (fun vs H3 q => by rw [hx]; exact z (v :: vs) H3 q) ⟨B2, ρ1, F2, S2, ys, ρ2, eb, fun vs B3 H3 F3 E3 S3 A3 P3 => ?_⟩
    refine kk (v :: vs) B3 H3 F3 (E1.trans (E2.trans E3)) S3 ⟨v, vs, rfl, A2.keep E3.bb (guard_keep eg P3), A3⟩ fun w => ?_
    obtain ⟨w1, w2⟩ := and_both (show (x.1 && allF r) = true from w)
    obtain ⟨a1, a2, a3⟩ := P1 rfl
    obtain ⟨b1, b2, b3⟩ := P2 w1
    obtain ⟨c1, c2, c3⟩ := P3 w2
    exact ⟨c1.trans b1, c2.trans (b2.trans a2), (a3.trans b3).trans c3⟩
def nodK : List Key → Bool
  | [] => true
  | k :: ks => !(ks.any fun j => decide (j = k)) && nodK ks
theorem putK_new {acc : List (Key × V)} {k : Key} {v : V} (h : ∀ kv ∈ acc, kv.1 ≠ k) : putK acc k v = acc ++ [(k, v)] := by
  unfold putK
  rw [if_neg]
  intro z
  obtain ⟨kv, h1, h2⟩ := List.any_eq_true.mp z
  exact h kv h1 (of_decide_eq_true h2)
theorem merge_zip : ∀ (ks : List Key) (vs : List V) (acc : List (Key × V)), nodK ks = true → (∀ kv ∈ acc, ∀ k ∈ ks, kv.1 ≠ k) → mergeK acc (ks.zip vs) = acc ++ ks.zip vs
  | [], vs, acc, _, _ => (List.append_nil acc).symm
  | k :: ks, [], acc, _, _ => (List.append_nil acc).symm
  | k :: ks, v :: vs, acc, hn, h => by
    obtain ⟨n1, n2⟩ := Bool.and_eq_true_iff.mp (show (!(ks.any fun j => decide (j = k)) && nodK ks) = true from hn)
    rw [List.zip_cons_cons]
    show mergeK (putK acc k v) (ks.zip vs) = _
    rw [putK_new fun kv hk => h kv hk k (List.mem_cons_self ..), merge_zip ks vs _ n2 fun kv hk j hj => ?_, List.append_assoc]
    · rfl
    · rcases List.mem_append.mp hk with hk | hk
      · exact h kv hk j (List.mem_cons_of_mem _ hj)
      · have : kv = (k, v) := by simpa using hk
        rw [this]
        intro e
        have : ks.any (fun j => decide (j = k)) = true := List.any_eq_true.mpr ⟨j, hj, decide_eq_true e.symm⟩
        rw [this] at n1
        cases n1
/-- the frame with a thing more that nobody has, frozen -/
theorem St.also {σ : L2.St} {ρ : Env} {F : Nat → Addr → Prop} {p : Addr} {o o' : HO} (S : St K B H σ ρ F) (hp : H p = some o) (hB : B p = none) (hF : ∀ i, ¬ F i p) : St K (upd B p o') (upd H p o') σ ρ F := by
  have ne : ∀ i a, F i a → a ≠ p := fun i a h e => hF i (e ▸ h)
  refine ⟨fun a u e => ?_, fun i t e => ?_, fun i a h => ?_, fun i a h => ?_, S.dj, S.ln⟩
  · by_cases z : a = p
    · subst z; rw [upd_same] at e ⊢; exact e
    · rw [upd_ne z] at e ⊢; exact S.bh a u e
  · obtain ⟨v, h1, h2⟩ := S.sl i t e
    exact ⟨v, h1, h2.frame (Ex.new hB) fun a u z q => by rw [upd_ne (ne i a z)]; exact q⟩
  · rw [upd_ne (ne i a h)]; exact S.nb i a h
  · rw [upd_ne (ne i a h)]; exact S.al i a h
theorem St.lay {σ : L2.St} {ρ : Env} {F : Nat → Addr → Prop} {p : Addr} {o : HO} (S : St K B H σ ρ F) (hp : H p = none) : St K B (upd H p o) σ ρ F := by
  refine ⟨fun a u e => Ex.new hp a u (S.bh a u e), fun i t e => ?_, S.nb, fun i a h => ?_, S.dj, S.ln⟩
  · obtain ⟨v, h1, h2⟩ := S.sl i t e
    exact ⟨v, h1, h2.frame (Ex.refl _) fun a u z q => Ex.new hp a u q⟩
  · intro z
    cases q : H a with
    | none => exact S.al i a h q
    | some u => rw [Ex.new hp a u q] at z; cases z
def eDic (ks : List Key) (vms : List (Bool × M)) : M := fun ρ => (mAll vms ρ).bind fun y => (frzL y.2 y.1).bind fun z => some (.vl (.nd (.dic ks) z.1), z.2)
theorem ArgsOk_len {σ : L2.St} {ρ : Env} : ∀ {as : List Arg} {vs : List V}, ArgsOk K B H σ ρ as vs → as.length = vs.length
  | [], _, h => by rw [show _ = [] from h]; rfl
  | _ :: _, _, ⟨v, r, h1, _, h3⟩ => by rw [h1, List.length_cons, List.length_cons, ArgsOk_len h3]
theorem mAll_len : ∀ {vms : List (Bool × M)} {ρ : Env} {x : List Arg × Env}, mAll vms ρ = some x → x.1.length = vms.length
  | [], _, _, e => by cases e; rfl
  | _ :: r, _, _, e => by
    obtain ⟨y, ea, e⟩ := ob e
    obtain ⟨z, eb, e⟩ := ob e
    obtain ⟨_, e⟩ := og e
    cases e
    exact congrArg (· + 1) (mAll_len eb)
theorem e_dic {ks : List Key} {vms : List (Bool × M)} {keys : List (Option Expr)} {values : List Expr} (h : PPs X pos keys values (trs X.K ks vms)) (hk : (decide (ks.length = vms.length) && (nodK ks && decide (ks.length ≤ 15))) = true := by decide +kernel) (hall : keys.all (·.isSome) = true := by rfl) (hl : keys.length = values.length := by rfl) (h0 : keys ≠ [] := by exact fun z => nomatch z)
    (h15 : keys.length ≤ 15 := by decide) : PE X (.Dict keys values pos) (tE X.K false (eDic ks vms)) := peW (pe_disp h hall hl h0 h15) fun σ H Q h => by
  obtain ⟨hk1, hk2, hk3⟩ := b3 hk
  have hk1 := of_decide_eq_true hk1
  obtain ⟨B, ρ, F, S, a, ρ', e, k⟩ := h
  obtain ⟨⟨as, ρ1⟩, ea, e⟩ := ob e
  obtain ⟨⟨ds, ρ2⟩, ed, e⟩ := ob e
  cases e
  intro p hp
  have hal := mAll_len ea
  refine tA_pairs vms ks (R := fun vs H2 => H2 p = some (.dK []) ∧ vs.length = ks.length ∧ Q (.ref p) (upd H2 p (.dK (ks.zip vs)))) hk1 (fun vs H2 ⟨q1, q0, q2⟩ => ⟨q1, ks.zip vs, rfl, ?_, ?_⟩) ⟨B, ρ, F, S.lay hp, as, ρ1, ea, fun vs B1 H1 F1 E1 S1 A1 P1 => ?_⟩
  · rw [List.length_zip, q0, Nat.min_self]
    exact of_decide_eq_true hk3
  · rw [merge_zip ks vs [] hk2 fun kv hk => nomatch hk]
    exact q2
  · have npF : ∀ i, ¬ F i p := fun i z => S.al i p z hp
    have hp1 : H1 p = some (.dK []) := E1.fr p _ upd_same fun z => let ⟨i, z⟩ := z; npF i z
    have hn1 : B1 p = none := E1.nb p (by rw [upd_same]; exact fun z => nomatch z) (fun z => let ⟨i, z⟩ := z; npF i z) (by
      cases q : B p with
      | none => rfl
      | some u => rw [S.bh p u q] at hp; cases hp)
    have nf1 : ¬ U F1 p := E1.nf p (by rw [upd_same]; exact fun z => nomatch z) fun z => let ⟨i, z⟩ := z; npF i z
    obtain ⟨B2, F2, E2, S2, d2⟩ := frzL_sound S1 A1 ed
    have hn2 : B2 p = none := E2.nb p (by rw [hp1]; exact fun z => nomatch z) nf1 hn1
    have nf2 : ¬ U F2 p := E2.nf p (by rw [hp1]; exact fun z => nomatch z) nf1
    have hlen : vs.length = ks.length := by
      have := ArgsOk_len A1
      rw [hk1, ← hal]
      exact this.symm
    refine ⟨hp1, hlen, k (.ref p) (upd B2 p (.dK (ks.zip vs))) (upd H1 p (.dK (ks.zip vs))) F2 ⟨?_, fun a u h n => ?_, fun a h n z => ?_, fun a h n => ?_⟩ (S2.also hp1 hn2 fun i z => nf2 ⟨i, z⟩) ?_ fun z => nomatch z⟩
    · exact (E1.bb.trans E2.bb).trans (Ex.new hn2)
    · have np : a ≠ p := fun z => by rw [z, hp] at h; cases h
      rw [upd_ne np]
      exact E1.fr a u (Ex.new hp a u h) n
    · have np : a ≠ p := fun z => h (by rw [z]; exact hp)
      rw [upd_ne np]
      have ha : upd H p (.dK []) a ≠ none := by rw [upd_ne np]; exact h
      have h1 : H1 a ≠ none := by
        cases q : upd H p (.dK []) a with
        | none => exact absurd q ha
        | some u => rw [E1.fr a u q n]; exact fun z => nomatch z
      exact E2.nb a h1 (E1.nf a ha n) (E1.nb a ha n z)
    · have np : a ≠ p := fun z => h (by rw [z]; exact hp)
      have ha : upd H p (.dK []) a ≠ none := by rw [upd_ne np]; exact h
      have h1 : H1 a ≠ none := by
        cases q : upd H p (.dK []) a with
        | none => exact absurd q ha
        | some u => rw [E1.fr a u q n]; exact fun z => nomatch z
      exact E2.nf a h1 (E1.nf a ha n)
    · exact ⟨p, vs, rfl, ⟨hlen.symm, .inl upd_same⟩, d2.mono (Ex.new hn2)⟩
theorem c_kint {i : Int} {j : Option Str} : True := trivial
end
end DL
namespace DL
open PySem L2
theorem pss_never {X : Cx} {ss : List Stmt} {io : Io} : PSs X ss (tS X.K io sNo) := ⟨fun _ _ _ _ _ _ h => by
  obtain ⟨B, ρ, F, S, fl, ρ', e, k⟩ := tS_eq.mp h
  cases (show none = some (fl, ρ') from e)⟩
end DL
namespace DL
open PySem L2
theorem u1 {k : Nat} {A : Around} (h : Room k A) : A.units + 1 < cLine := Nat.lt_of_le_of_lt (Nat.add_le_add_left (by decide) _) (u4 h)
end DL

end

section
set_option Elab.async false
set_option linter.all false
set_option maxRecDepth 100000
set_option maxHeartbeats 4000000
/-! EA: an own error whose __init__ says super().__init__(x); self.x = x. -/
namespace DL
open PySem PySem.Spec PySem.Calls PyProof.Rows L2
open NdefX

/-- where super stands -/
structure SupC (P : Program) (K : PySem.W.Frag) (mg : Str → Option Value) (C f cda cc : Addr) (fd : FuncData) : Prop where
  fn : ∃ oc od osl, K.lookup f = some ⟨oc, od, .func fd, osl⟩
  code : ∃ oc od osl vs file tf, K.lookup cda = some ⟨oc, od, .fields vs, osl⟩ ∧ vs[2]? = some (.str file tf) ∧ ((P.main.file : Str) == file) = true
  cell : ∃ oc od osl, K.lookup cc = some ⟨oc, od, .cell (some (.ref C)), osl⟩
  top : (P.main.scope.names.lookup ("super" : Str)).isSome = false
  sup : mg "super" = none
  ns : PySem.W.nsIn K cStatics "thirdparty.any" = some none
  mro : PySem.W.mroIn K C (.ref C) = some true
  get : PySem.W.ks_superIn K C C "__init__" = some (some (.builtin "ValueError.__init__"))
  sub : PySem.W.subIn K (.ref C) (.type "ValueError") = some true

section
variable {X : Cx} {pins : List (Addr × Obj)} {σ : L2.St} {H : Hp} {s : Shared} {a C f cda cc : Addr} {fd : FuncData} {scope : Scope} {qual : Str}
theorem inst_of (I : Inv X pins σ H s) (ea : H a = some (exo a C none)) : ∃ t1 : Addr, s.heap.get? a = some (PySem.W.excObj C t1 none .none) := exo_at I.hok ea
/-- the bound __init__ called -/
theorem call_mw {u : Addr} {rest : List Value} {E : Value → Shared → Prop} {A : Around} {Q : Value → Shared → Prop} (T : OexC X.K C) (I : Inv X pins σ H s) (ea : H a = some (exo a C none)) (hu : s.heap.get? u = some (PySem.W.kxs_mw "ValueError.__init__" a)) (hl : rest.length ≤ sizeLine)
    (h : ∀ s', Inv X pins σ H s' → Q .none s') : wpAny (model X.prog X.w) A (call (.ref u) rest) Q E s := by
  obtain ⟨nm, q, N, bs, bm, sn, sub, ab, col, dd, k0, k1, k2, k3, k5, hC, hbm⟩ := T.cls
  obtain ⟨t1, ho⟩ := inst_of I ea
  have KI := I.kIn
  obtain ⟨hp, g, d, t, os⟩ := s
  refine wpAny_call (codeAny_of_tree ?_)
  show wpAny _ A.in1 (callAny (.ref u) ⟨rest, []⟩) _ _ _
  simp only [callAny]
  refine wpAny_bind (wpAny_load hu ?_)
  simp only [PySem.W.kxs_mw, show (Value.type "method-wrapper" == Value.type "method" || Value.type "method-wrapper" == Value.type "builtin_function_or_method" || Value.type "method-wrapper" == Value.type "method-wrapper") = true by decide, if_true]
  refine PySem.W.KFB.if_so (by decide) ?_
  refine wpAny_bind (PySem.W.check_bound_init F.excBase_ValueError.toExcCallFacts (KI _ _ hC) ho rfl ?_)
  refine wpAny_bind (wpAny_pure (wpAny_pure ?_))
  refine ⟨plainId_quiet F.excBase_ValueError.init.plain _, codeAny_builtin F.excBase_ValueError.initEntry ?_⟩
  refine PySem.W.exc_init_tree (cls := .ref C) (t0 := t1) (dv := none) (c2 := .none) (c3 := .none) (b4 := .bool false) ho hl fun h' k hx _ => ?_
  have J := I.write (t' := t) (x := a) (e := a) (o := exo a C none) (by rw [ea]; exact True.intro) (.inl rfl) k ⟨_, hx⟩ (exo_ok hx)
  have eu : upd H a (exo a C none) = H := by
    funext b
    by_cases hb : b = a
    · rw [hb, upd_same, ea]
    · rw [upd_ne hb]
  rw [eu] at J
  exact h _ J

/-- the method call's own steps, as positions do not turn them -/
def McE (env : PySem.Env) (x : Str) (p0 p1 p2 p3 p4 : Pos) (pl : Sem Bool) : Prop := eval (.Call (.Attribute (.Call (.Name "super" p0) [] [] p1) "__init__" p2) [.Name x p3] [] p4) env = (do
      let ov ← attributeBase (.Call (.Name "super" p0) [] [] p1) "__init__" env (eval (.Call (.Name "super" p0) [] [] p1) env)
      standAt p2.atName
      let (f, first) ← holding [ov] (getMethod ov "__init__" pl)
      callWith p4 f first (backTo p4 (starEach [.Name x p3] env)) [])
/-- super().__init__(x) -/
theorem super_init {body : List Stmt} {x : Str} {i : Nat} {y : V} {p0 p1 p2 p3 p4 p5 : Pos} {ar : PySem.Arg} {E : Value → Shared → Prop} {Q : Flow → Shared → Prop} (henv : X.env = PySem.W.ksEnv qual scope X.env.locals f (.ref cda) cc) (S : SupC X.prog X.K X.mg C f cda cc fd) (T : OexC X.K C)
    (har : (fd.params.posonlyargs ++ fd.params.args).head? = some ar) (hself : X.N[0]? = some ar.arg) (hsl : scope.names.lookup ar.arg = some .local) (hx : X.N[i]? = some x) (hxl : scope.names.lookup x = some .local)
    (hks : scope.names.lookup ("super" : Str) = some .globalImplicit) (hkc : scope.names.lookup ("__class__" : Str) = some .free) (hd : (x == ("__debug__" : Str)) = false) (hcd : (x == ("__classdict__" : Str)) = false)
    (hE : X.xe = E) {pl : Sem Bool} (hmc : McE X.env x p0 p1 p2 p3 p4 pl) (I : Inv X [] σ H s) (ea : H a = some (exo a C none)) (e0 : σ[0]? = some (some (.ref a))) (ei : σ[i]? = some (some y))
    (h : ∀ s', Inv X [] σ H s' → Q .next s') :
    _root_.PySem.wpAt (model X.prog X.w) X.A (.func body X.env) (exec (.Expr (.Call (.Attribute (.Call (.Name "super" p0) [] [] p1) "__init__" p2) [.Name x p3] [] p4) p5) X.env) Q E s := by
  have hk : X.env.scope.kind = .function := I.ok.kind
  have hsc : X.env.scope = scope := by rw [henv] <;> rfl
  have hko : ∀ y, X.env.kindOf y = scope.names.lookup y := fun y => by rw [← hsc] <;> rfl
  have hce : X.env.cells.lookup ("__class__" : Str) = some cc := by rw [henv] <;> rfl
  obtain ⟨foc, fod, fol, hf⟩ := S.fn
  obtain ⟨coc, cod, col', vs, file, tf, hc, hvs, hfile⟩ := S.code
  obtain ⟨loc, lod, lol, hcc⟩ := S.cell
  obtain ⟨nm, q, N', bs, bm, sn, sub, ab, col, dd, k0, k1, k2, k3, k5, hC, hbm⟩ := T.cls
  obtain ⟨t1, ho⟩ := inst_of I ea
  have KI := I.kIn
  have fin : interactive X.env = false := by unfold interactive; rw [hk] <;> rfl
  have hobj : ∃ oD cdD, s.heap.get? C = some oD ∧ oD.data = .cls cdD := ⟨_, _, KI _ _ hC, rfl⟩
  obtain ⟨oD, cdD, hoD, hcd2⟩ := hobj
  refine PySem.ks_wpAt_Expr_any ?_ fin rfl
  refine PySem.ks_wpAt_MethodCall (pl := pl) (h := ?_) (he := hmc)
  have hfu : X.env.func = some f := by rw [henv] <;> rfl
  have hco : X.env.code = .ref cda := by rw [henv] <;> rfl
  refine PySem.ks_wpAt_super_base (f := f) (cc := cda) ((hko _).trans hks) ((hko _).trans hkc) (by decide) hfu (KI _ _ hf) rfl har hco (KI _ _ hc) rfl hvs hfile S.top ?_
  obtain ⟨mb, h1, h2⟩ := I.mod.blt
  refine PySem.W.ks_loadName_global hk ((hko _).trans hks) (Calls.loadGlobal_builtin (by rw [I.ok.glob]; exact I.mod.glob.keeps I.bk) S.sup (by rw [I.ok.blt]; exact h1.keeps I.bk) ((h2 _ (by decide)).trans (by decide +kernel)) ⟨rfl, ?_⟩)
  refine wpAny_loadName_free hk ((hko _).trans hkc) hce ⟨_, KI _ _ hcc, rfl⟩ ?_
  obtain ⟨m, hn, hl⟩ := id I.loc
  obtain ⟨u0, r0, l0⟩ := hl 0 ar.arg (.ref a) hself e0 (.inl (by rw [hsc]; exact hsl))
  have l1 : m ar.arg = some (.ref a) := by
    rcases l0 with ⟨_, l0⟩ | ⟨z, _⟩
    · rw [l0, show u0 = Value.ref a from r0]
    · rw [hko, hsl] at z
      rcases z with z | z <;> cases z
  refine wpAny_loadName_local hk ((hko _).trans hsl) hn l1 ?_
  refine PySem.ks_wpAny_isType_cls hoD hcd2 ⟨rfl, ?_⟩
  refine PySem.ks_wpAny_call_super hoD hcd2 ho rfl (fun c e => by cases e) (PySem.W.looks_mroIn KI S.mro) (fun h' hso k => ?_)
  have J := I.kept (t' := s.toks) k
  have KJ := J.kIn
  have hmro : ((PySem.W.clsIn X.K C).bind fun cd => PySem.W.alongIn X.K "__init__" ((cd.mro.dropWhile (· != .ref C)).drop 1)) = some (some (.builtin "ValueError.__init__")) := S.get
  have hcl : PySem.W.clsIn X.K C = some { name := nm, bases := bs, mro := .ref C :: bm, ns := N', qualname := q, hasDict := true, slotNames := sn, subclasses := sub, abstract := ab, collection := col, hasDel := false } := by unfold PySem.W.clsIn; rw [hC] <;> rfl
  rw [hcl] at hmro
  obtain ⟨t2, ho2⟩ := inst_of J ea
  have IJ : PySem.W.InstAt h' a (PySem.W.excObj C t2 none .none) C none := ⟨ho2, rfl, rfl, trivial⟩
  have hI : PySem.W.Looks (model X.prog X.w) h' (isInstance (.ref a) (.type "ValueError")) true := IJ.type.andThen (PySem.W.looks_subIn KJ S.sub)
  refine PySem.W.kxs_getMethod PySem.W.kxs_ValueError hso (PySem.W.looks_opaque KJ S.ns) (l₀ := .ref C :: bm) (fun A' Q' E' s' k' q' => wpAny_bind ((PySem.W.looks_clsIn KJ hcl) A' _ E' s' k' (wpAny_pure q'))) rfl KJ hmro hI (PySem.W.ks_ne KJ IJ hcl) (by decide) ?_
  have kk : ∀ b o, h'.get? b = some o → (h'.push (PySem.W.kxs_mw "ValueError.__init__" a)).get? b = some o := fun b o e => Heap.get?_push_of_some _ e
  have J2 := J.kept (t' := s.toks + 1) kk
  have hu : (h'.push (PySem.W.kxs_mw "ValueError.__init__" a)).get? h'.objs.size = some (PySem.W.kxs_mw "ValueError.__init__" a) := Heap.get?_push_at rfl rfl
  have J3 : L2.Inv X [(h'.objs.size, PySem.W.kxs_mw "ValueError.__init__" a)] σ H ⟨h'.push (PySem.W.kxs_mw "ValueError.__init__" a), s.gens, s.drawn, s.toks + 1, s.os⟩ := J2.pins_of fun p hp => by
    cases List.mem_singleton.mp hp
    exact ⟨hu, J.hok.fresh (Nat.le_refl _), Ne.symm (Nat.ne_of_lt J.lt), J.nofs (Nat.le_refl _), fun v z => by cases z⟩
  have ha : PA X [.Name x p3] (tCons (tVar i) tNil) := pa_cons (pe_var hx (.inl (by rw [hsc]; exact hxl)) hd hcd) pa_nil
  rw [← hE]
  refine PySem.W.kxs_callWith (i := "ValueError.__init__") (x := a) (by rfl) ?_
  refine Calls.evalArgs_plain (x := eval (.Name x p3) X.env) (rest := []) ?_
  refine thn (ha.run p4 _ _ σ H (fun vs H1 => H1 = H ∧ vs.length ≤ sizeLine) J3 ⟨y, ei, rfl, by rw [sizeLine_eq]; show 1 ≤ _; omega⟩) fun us s1 ⟨vs1, H1, I1, r1, e1, e2⟩ => ?_
  subst e1
  obtain ⟨g1, _⟩ := I1.pin (h'.objs.size, PySem.W.kxs_mw "ValueError.__init__" a) (List.mem_append_right _ List.mem_cons_self)
  refine ⟨g1, ?_⟩
  have I2 : L2.Inv X [] σ H1 s1 := I1.pins_of fun p hp => by cases hp
  exact call_mw T I2 ea g1 (by show us.length ≤ sizeLine; rw [← Paired.length r1]; exact e2) h
end
/-- what such an __init__ does: its field is set -/
def spIni (C : Addr) (x : Str) : Sp := fun vs H Q _ => ∃ (a : Addr) (y : V), vs = [.ref a, y] ∧ H a = some (exo a C none) ∧ ∀ dx, H dx = none → dx ≠ a → Q .non (upd (upd H dx (exd dx [(x, y)])) a (exo a C (some dx)))
/-- the written def -/
structure IniT (x : Str) (body : List Stmt) (params : Arguments) (scope : Scope) (ar : PySem.Arg) (qual : Str) : Prop where
  body : ∃ (p0 p1 p2 p3 p4 p5 q1 q2 q3 q4 : Pos), body = [.Expr (.Call (.Attribute (.Call (.Name "super" p0) [] [] p1) "__init__" p2) [.Name x p3] [] p4) p5, .Assign [.Attribute (.Name "self" q1) x q2] (.Name x q3) q4] ∧
    ∃ pl : Sem Bool, ∀ (L f cda cc : Addr), McE (PySem.W.ksEnv qual scope L f (.ref cda) cc) x p0 p1 p2 p3 p4 pl
  par : (params.posonlyargs ++ params.args).head? = some ar
  self : ar.arg = "self"
  sc : NScope ["self", x, "__class__"] ["self", x] ["__class__"] scope
  sup : scope.names.lookup ("super" : Str) = some .globalImplicit
  dbg : (x == ("__debug__" : Str)) = false
  cld : (x == ("__classdict__" : Str)) = false
theorem ini_ok {P : Program} {w : World} {K : PySem.W.Frag} {mg : Str → Option Value} {base : Heap} {CX : CXT} {k : Nat} {f C cda cc : Addr} {x name qual : Str} {params : Arguments} {body : List Stmt} {scope : Scope} {ar : PySem.Arg} {dV kV doc pm ct oc : Value} {an od : Option Addr} {osl : Array (Option Value)}
    (lk : K.lookup f = some ⟨oc, od, .func (PySem.W.ksFn name qual params body scope dV kV doc pm an (.ref cda) ct cc), osl⟩) (hcd : PySem.W.codeIn K (.ref cda) qual = true)
    (S : SupC P K mg C f cda cc (PySem.W.ksFn name qual params body scope dV kV doc pm an (.ref cda) ct cc)) (T : OexC K C) (W : IniT x body params scope ar qual) (hno : PySem.W.findIn K (.ref C) x = some none) :
    FnOk P w K mg base CX (k + 1) f (PySem.W.ksFn name qual params body scope dV kV doc pm an (.ref cda) ct cc) ["self", x] (spIni C x) := by
  refine ⟨fun vs H Q E h => ?_, fun A outer s H args us vs Q E hr e0 hb r hsp => ?_⟩
  · obtain ⟨a, y, e, _⟩ := h
    rw [e] <;> rfl
  obtain ⟨a, y, rfl, ea, hq⟩ := hsp
  have KX : K.In s.heap := e0.mod.kin.keeps fun b o e => (e0.bs b o e).1
  have lim : s.heap.NoLimit := e0.mod.nolimit.keeps fun b o e => (e0.bs b o e).1
  have Sc := W.sc
  refine codeAny_call_function hr.depth (KX _ _ lk) rfl Sc.co Sc.gen rfl (PySem.W.codeRec_of KX hcd) (hb _ _ _ _ ?_)
  refine wpAny_newFunctionEnv Sc.nocell (fun ⟨n, _⟩ hy => Sc.par n (List.of_mem_zip hy).1) (fun h₁ hns hsb => ⟨lim.fresh _ hsb, ?_⟩) Sc.kind
  have kp : ∀ b o, s.heap.get? b = some o → h₁.get? b = some o := fun b o e => hsb.extBut b o (Nat.ne_of_lt (Heap.lt_size e)) (Heap.get?_push_of_some _ e)
  obtain ⟨loc, lod, lol, hcc⟩ := S.cell
  let F : NF := ⟨name, qual, params, body, scope, [("__class__", cc)], cda⟩
  have cl1 : ∀ z c, F.cl.lookup z = some c → c = cc ∧ z = ("__class__" : Str) := fun z c e => by
    have e' : (match z == ("__class__" : Str) with | true => some cc | false => none) = some c := e
    cases q : z == ("__class__" : Str) with
    | true => rw [q] at e'; cases e'; exact ⟨rfl, beq_iff_eq.mp q⟩
    | false => rw [q] at e'; cases e'
  have CA : CellsAt F.cl ["__class__"] [none] s.heap H := {
    len := rfl
    all := fun z c e => by
      obtain ⟨rfl, _⟩ := cl1 z c e
      exact ⟨(e0.bs _ _ (e0.mod.kin _ _ hcc)).2, _, _, KX _ _ hcc, rfl⟩
    inj := fun z z' c e e' => (cl1 z c e).2.trans (cl1 z' c e').2.symm
    has := fun i z e => by
      match i, e with
      | 0, e =>
        cases e
        exact ⟨cc, rfl, fun v e => by cases e⟩
      | i + 1, e => cases e }
  have I : L2.Inv (ncx CX P w K mg base ["self", x, "__class__"] F f A outer s H E) [] (startF ["self", x, "__class__"] [.ref a, y] [none]) H { s with heap := h₁, toks := s.toks + (List.zip [("self" : Str), x] us).length } := inv_startN Sc hr.hd e0 rfl r CA hns kp
  show codeAny _ _ (.func body (PySem.W.ksEnv qual scope s.heap.objs.size f (.ref cda) cc)) _ _
  refine PySem.ks_codeAny_funcAt ?_
  obtain ⟨p0, p1, p2, p3, p4, p5, q1, q2, q3, q4, rfl, pl, hmc⟩ := W.body
  refine PySem.ks_wpAt_execs_cons ?_
  refine super_init (X := ncx CX P w K mg base ["self", x, "__class__"] F f A outer s H E) (σ := startF ["self", x, "__class__"] [.ref a, y] [none]) (i := 1) (y := y) rfl S T W.par (by rw [W.self] <;> rfl) (by rw [W.self]; exact Sc.par _ (by simp)) rfl (Sc.par _ (by simp)) W.sup (Sc.frk _ (by simp)) W.dbg W.cld rfl (hmc _ _ _ _) I ea rfl rfl fun s' I' => ?_
  have pSelf : PE (ncx CX P w K mg base ["self", x, "__class__"] F f A outer s H E) (.Name "self" q1) (tVar 0) := pe_var rfl (.inl (Sc.par _ (by simp)))
  have pX : PE (ncx CX P w K mg base ["self", x, "__class__"] F f A outer s H E) (.Name x q3) (tVar 1) := pe_var rfl (.inl (Sc.par _ (by simp))) W.dbg W.cld
  have pAs : PSs (ncx CX P w K mg base ["self", x, "__class__"] F f A outer s H E) [.Assign [.Attribute (.Name "self" q1) x q2] (.Name x q3) q4] (tOst K x (tVar 0) (tVar 1)) := pss_one (ps_ost pSelf pX)
  refine PySem.wpAt_of_wpAny (wpAny_mono (pAs.run [] s' _ H { nx := fun _ H' => Q .non H', rt := Q } I' ?_) (fun fl s' hs => ?_) fun e s' hs => hs)
  · exact ⟨y, rfl, .ref a, rfl, a, C, rfl, T, hno, .inl ⟨ea, fun dx n ne => hq dx n ne⟩⟩
  · have fin : ∀ {σ' : L2.St} {H' : Hp} {v : V} {u : Value}, L2.Inv (ncx CX P w K mg base ["self", x, "__class__"] F f A outer s H E) [] σ' H' s' → L2.RelV v u → Q v H' → CE outer P w H s Q u s' :=
      fun {σ' H' v u} J rv q => ⟨v, H', J.os, J.bare, J.base, J.hok, rv, q⟩
    cases fl with
    | ret u =>
      obtain ⟨v, σ', H', J, rv, q⟩ := hs
      exact fin J rv q
    | next =>
      obtain ⟨σ', H', J, q⟩ := hs
      exact fin (v := V.non) (u := Value.none) J rfl q
    | brk =>
      obtain ⟨_, _, _, q⟩ := hs
      exact False.elim q
    | cont =>
      obtain ⟨_, _, _, q⟩ := hs
      exact False.elim q
end DL

end

section
set_option Elab.async false
set_option linter.all false
set_option maxRecDepth 100000
set_option maxHeartbeats 4000000
/-! EB: an error caught: its object is tracked from then on. -/
namespace DL
open PySem PySem.Spec PySem.Calls PyProof.Rows L2

section
variable {X : Cx} {pins : List (Addr × Obj)} {σ : L2.St} {H : Hp} {sI s' : Shared} {B : Heap}
theorem exoC_ne {a C : Addr} {d : Option Addr} {o : HO} (h : ∀ φ, o ≠ .ext φ) : exoC a C d ≠ o := fun z => h _ z.symm
/-- back on the ground, the error's object tracked -/
theorem landedT {a C : Addr} {d : Option Addr} {vs : Array Value} {sl : Array (Option Value)} (I : L2.Inv X pins σ H sI) (nb : ∀ b o, sI.heap.get? b = some o → b ∉ frs X.stack → B.get? b = some o) (st : B.StaysIn s'.heap) (up : sI.heap.UpToSlots s'.heap) (os : s'.os = sI.os) (ag : AllBare s'.gens)
    (na : sI.heap.get? a = none) (ha : s'.heap.get? a = some ({ cls := .ref C, dict := d, data := .fields vs, slots := sl } : Obj)) (hn : H a = none) : L2.Inv X pins σ (upd H a (exoC a C d)) s' := by
  have ne : ∀ {b : Addr} {o : Obj}, sI.heap.get? b = some o → b ≠ a := fun {b o} e z => by
    rw [z, na] at e
    cases e
  have nH : ∀ {b : Addr} {o : HO}, H b = some o → b ≠ a := fun {b o} e z => by
    rw [z, hn] at e
    cases e
  have nf : ∀ b ∈ frs X.stack, ∀ o, sI.heap.get? b = some o → ∃ sl, s'.heap.get? b = some { o with slots := sl } := fun b hb o e => by
    obtain ⟨_, o', e', hd⟩ := I.stack.mem hb
    rw [e] at e'; cases e'
    exact up b o e hd
  have hok : HOk X.prog X.w (upd H a (exoC a C d)) s'.heap := fun b o q => by
    by_cases hb : b = a
    · subst hb
      rw [upd_same] at q
      cases q
      exact ⟨⟨vs, sl, ha⟩, ⟨_, ha⟩, fun h1 h2 z k => by
        obtain ⟨vs, sl, z⟩ := z
        exact ⟨vs, sl, k _ z⟩⟩
    · rw [upd_ne hb] at q
      exact ((I.inGround nb).kept st b o q).stay (fun c v hc z => z) (fun c hc => by rw [upd_ne (nH hc)]; exact hc) (fun c xs hc => by rw [upd_ne (nH hc)]; exact hc)
  have J := I.call (ch := []) (h' := s'.heap) (g' := s'.gens) (t' := s'.toks) (d' := s'.drawn) (H' := upd H a (exoC a C d))
    ⟨fun b o e _ hb _ => st b o (nb b o e hb), fun b o e _ hb _ => nf b hb o e, fun b o e n _ => by rw [upd_ne (ne e)]; exact n, fun b o e _ => by
      by_cases hb : b ∈ frs X.stack
      · obtain ⟨sl, q⟩ := nf b hb o e
        exact ⟨_, q⟩
      · exact ⟨o, st b o (nb b o e hb)⟩, fun b xs e => by rw [upd_ne (nH e)]; exact e, fun b o u e => by rw [upd_ne (nH e)]; exact e, fun b ps e => ⟨#[], by rw [upd_ne (nH e), e]; simp⟩⟩
    hok ag (fun _ z => nomatch z)
  obtain ⟨a1, a2, a3, a4, a5⟩ := s'
  have e5 : a5 = sI.os := os
  subst e5
  exact J
/-- an except suite's context -/
abbrev suiteT (X : Cx) (a : Addr) (pn : List (Addr × Obj)) : Cx := X.suite a pn
theorem toSuite {s : Shared} {a : Addr} (I : L2.Inv X pins σ H s) : L2.Inv (suiteT X a (X.pn ++ pins)) [] σ H s :=
  ⟨I.ok.suite _ _, I.os, I.bare, I.base, I.loc, I.cell, I.free, I.freeC, fun p hp => I.pin p (by rw [List.append_nil] at hp; exact hp), I.hok, I.len⟩
theorem ofSuite {s : Shared} {a : Addr} {pn' : List (Addr × Obj)} (I : L2.Inv (suiteT X a (X.pn ++ pins)) pn' σ H s) (ok : X.Ok) : L2.Inv X pins σ H s :=
  ⟨ok, I.os, I.bare, I.base, I.loc, I.cell, I.free, I.freeC, fun p hp => I.pin p (List.mem_append_left _ hp), I.hok, I.len⟩
end

/-- what a clause 'except c [as n]' wishes of an error of the body; i: n's slot -/
def wT (K : PySem.W.Frag) (c : Value) (i : Option Nat) (ts : TS) (Wout : WX) (D : Ends) : WX := fun cls d σ H =>
  ∃ b, PySem.W.exmOne K cls c = some b ∧ (b = true → ∃ C, cls = .ref C ∧ ∀ a, H a = none → ts (match i with
      | some i => { nx := fun σ' H' => D.nx (σ'.set i none) H', rt := D.rt, bk := fun σ' H' => D.bk (σ'.set i none) H', ct := fun σ' H' => D.ct (σ'.set i none) H' }
      | none => D) (match i with
      | some i => σ.set i (some (.ref a))
      | none => σ) (upd H a (exoC a C d))) ∧ (b = false → Wout cls d σ H)
section
variable {X : Cx} {x n : Str} {c : Value} {i : Nat} {body suite : List Stmt} {b₀ : Stmt} {np pos pos' : Pos} {tb : WX → TS} {ts : TS} {Wout : WX}
theorem ps_tryT_as (hs : X.stack = X.env :: X.outer) (hf : X.env.frame = some X.env.locals) (hN : X.N.Nodup) (hi : X.N[i]? = some n) (hln : X.env.kindOf n = some .local) (hc : Names X x c) (tk : Takes X Wout)
    (hb : ∀ (W : WX) (pn : List (Addr × Obj)) (xe : Value → Shared → Prop), Takes (X.tr pn xe) W → PassesOwn (model X.prog X.w) X.A X.env xe → PSs (X.tr pn xe) body (tb W))
    (hsu : ∀ (a : Addr) (pn : List (Addr × Obj)), PSs (suiteT X a pn) (b₀ :: suite) ts) :
    PS X (.Try body [.ExceptHandler (some (.Name x np)) (some n) (b₀ :: suite) pos'] [] [] pos) (fun D σ H => tb (wT X.K c (some i) ts Wout D) D σ H) := by
  refine ⟨fun pins s σ H D I h => ?_⟩
  have ok := I.ok
  have hfr : X.A.frames = some (X.env :: X.outer) := by rw [ok.frames, hs]
  have hloc : Loc X.env.scope n := .inl hln
  refine wpAny_Try_except ?_
  refine wpAny_mono ((hb (wT X.K c (some i) ts Wout D) (X.pn ++ pins) (fun e s₁ => wpAny (model X.prog X.w) X.A (noteFrame e X.env) (fun _ s₂ => wpAny (model X.prog X.w) X.A (setFlight e none) (fun _ s₃ =>
    wpAny (model X.prog X.w) X.A (handleBy e X.env [.ExceptHandler (some (.Name x np)) (some n) (b₀ :: suite) pos']) (SP X pins D) X.xe s₃) X.xe s₂) X.xe s₁) (fun u s' xx => ?_) PassesOwn.looking).run [] s σ H D (I.toTry _) h) (fun f s1 hsp => ?_) (fun e s1 he => he)
  · obtain ⟨a, B, sI, pins', σ', H', cls, d, rfl, J', nb, up, sky, na, os, ag, b, hb1, hyes, hno⟩ := xx
    have J : L2.Inv X pins σ' H' sI := J'.ofTry ok
    have sky' : Sky B (X.env :: X.outer) a (Zc cls d) X.env.locals s'.heap := by rw [← hs]; exact sky
    show wpAny (model X.prog X.w) X.A (noteFrame (.ref a) X.env) _ _ _
    refine Sky.land Zc.steady hfr hf sky' fun h3 fl3 up3 => ?_
    have J3 : L2.Inv X pins σ' H' { s' with heap := h3 } := J.landed nb fl3.1 (up.trans up3) os ag
    obtain ⟨oe3, vs3, he3, hz3, hd3⟩ := fl3.there
    have nfr : a ∉ frs (X.env :: X.outer) := fun hm => by
      obtain ⟨_, o', e', hnf⟩ := fl3.2.2.1.mem hm
      rw [he3] at e'; cases e'
      exact hnf _ hd3
    have nL : a ≠ X.env.locals := fun z => nfr (List.mem_filterMap.mpr ⟨X.env, List.mem_cons_self, by rw [hf, z]⟩)
    have nF : a ∉ X.fs := fun hm => by
      obtain ⟨e, he, q⟩ := List.mem_filterMap.mp hm
      exact nfr (List.mem_filterMap.mpr ⟨e, List.mem_cons_of_mem _ he, q⟩)
    have nI : sI.heap.get? a = none := by
      cases q : sI.heap.get? a with
      | none => rfl
      | some o =>
        have := nb a o q (by rw [hs]; exact nfr)
        rw [fl3.2.1] at this
        cases this
    have S3 := J3.suite he3 hd3 na nL nF
    refine wpAny_handleBy_cons (codeAny_handlers_test ?_) (by intro q; cases q)
    have LT : PySem.W.Looks (model X.prog X.w) h3 (typeOf (.ref a)) cls := fun A Q E s k q => wpAny_typeOf_ref (k _ _ he3) (by rw [hz3.1]; exact q)
    have LM := PySem.W.exm_one (M := model X.prog X.w) (J3.kIn) LT hb1
    have test : ∀ {Q : Value → Shared → Prop} {E : Value → Shared → Prop}, Q c { s' with heap := h3 } → wpAny (model X.prog X.w) (X.A.mark (some (.ref a))) (eval (.Name x np) X.env) Q E { s' with heap := h3 } := fun {Q E} q => by
      obtain ⟨hg, hdbg, hm | ⟨hm, hv, hnn⟩⟩ := hc
      · exact ld_glob (X := X.suite a ((a, oe3) :: (X.pn ++ pins))) S3 hg hm q hdbg
      · exact ld_blt (X := X.suite a ((a, oe3) :: (X.pn ++ pins))) S3 hg hm hv q hnn hdbg
    refine test (LM.here ?_)
    cases b with
    | true =>
      obtain ⟨C, hC, hyes⟩ := hyes rfl
      refine codeAny_handlers_suite_as ?_
      refine HandSPX.lands_againZ fl3 fun h4 fl4 up4 => ?_
      obtain ⟨oe4, vs4, he4, hz4, hd4⟩ := fl4.there
      have he4' : h4.get? a = some ({ cls := .ref C, dict := d, data := .fields vs4, slots := oe4.slots } : Obj) := by
        obtain ⟨oc, od, oda, osl⟩ := oe4
        obtain ⟨z1, z2⟩ := hz4
        dsimp only at z1 z2 hd4
        subst z1 z2 hd4 hC
        exact he4
      have J4 : L2.Inv X pins σ' (upd H' a (exoC a C d)) { s' with heap := h4 } := landedT J nb fl4.1 ((up.trans up3).trans up4) os ag nI he4' na
      have S4 := toSuite (a := a) J4
      refine store_ok (X := suiteT X a (X.pn ++ pins)) (v := .ref a) S4 hN hi hloc rfl (fun s5 S5 => ?_) (.inr hln)
      refine wpAny_mono ((hsu a (X.pn ++ pins)).run [] s5 _ _ _ S5 (hyes a na)) (fun f s6 hsp => ?_) (fun _ _ z => False.elim z)
      have end_ : ∀ {σ6 : L2.St} {H6 : Hp} {Q : Shared → Prop}, L2.Inv (suiteT X a (X.pn ++ pins)) [] σ6 H6 s6 → (∀ s7, L2.Inv X pins (σ6.set i none) H6 s7 → Q s7) →
          wpAny (model X.prog X.w) X.A (do bindName X.env n .none; unbindBehindTheSuite X.env n pos') (fun _ s7 => Q s7) X.xe s6 := fun {σ6 H6 Q} S6 hq => gone_ok (ofSuite S6 ok) hN hi hln hq
      cases f with
      | next =>
        obtain ⟨σ6, H6, S6, q6⟩ := hsp
        exact end_ S6 fun s7 J7 => ⟨_, _, J7, q6⟩
      | brk =>
        obtain ⟨σ6, H6, S6, q6⟩ := hsp
        exact end_ S6 fun s7 J7 => ⟨_, _, J7, q6⟩
      | cont =>
        obtain ⟨σ6, H6, S6, q6⟩ := hsp
        exact end_ S6 fun s7 J7 => ⟨_, _, J7, q6⟩
      | ret u =>
        obtain ⟨v6, σ6, H6, S6, r6, q6⟩ := hsp
        exact end_ S6 fun s7 J7 => ⟨_, _, _, J7, r6, q6⟩
    | false =>
      show wpAny _ X.A (handleBy (.ref a) X.env []) _ _ _
      refine wpAny_handleBy_nil ?_
      obtain ⟨k1, k2, k3, oe, vs, T, oT, ts', he, hz, hd, h1, hr⟩ := id fl3
      unfold PySem.passOn
      refine wpAny_bind (wpAny_field he hd h1 ?_)
      rw [if_neg (show ¬ ((Value.ref T == Value.none) = true) from by simp)]
      have fin : wpAny (model X.prog X.w) X.A (setFlight (.ref a) X.env.frame) (fun _ s4 => wpAny (model X.prog X.w) X.A (throw (.ref a) : Sem Flow) (SP X pins D) X.xe s4) X.xe { s' with heap := h3 } := by
        rw [hf]
        refine HandSPX.setFlight_upZ fl3 fun h4 hh4 up4 => wpAny_throw (tk _ _ ?_)
        exact ⟨a, B, sI, pins, σ', H', cls, d, rfl, J, nb, (up.trans up3).trans up4, .inr (.inr (by rw [hs]; exact hh4)), na, os, ag, hno rfl⟩
      first
        | exact wpAny_bind (wpAny_pure (wpAny_bind fin))
        | exact wpAny_bind fin
  · cases f with
    | next =>
      obtain ⟨σ', H', J', q⟩ := hsp
      exact wpAny_execs_nil ⟨σ', H', J'.ofTry ok, q⟩
    | brk =>
      obtain ⟨σ', H', J', q⟩ := hsp
      exact ⟨σ', H', J'.ofTry ok, q⟩
    | cont =>
      obtain ⟨σ', H', J', q⟩ := hsp
      exact ⟨σ', H', J'.ofTry ok, q⟩
    | ret u =>
      obtain ⟨v, σ', H', J', r, q⟩ := hsp
      exact ⟨v, σ', H', J'.ofTry ok, r, q⟩
end
end DL

end

section
set_option Elab.async false
set_option linter.all false
set_option maxRecDepth 100000
set_option maxHeartbeats 4000000
/-! EC: try, raise; defs that let errors out. -/
namespace DL
open PySem PySem.Spec PySem.Calls PyProof.Rows L2

/-! ### try -/
def sTry (tab : List (Str × Bool)) (i : Option Nat) (mb ms : MS) : MS := fun ρ => (mb ρ).bind fun x => match x.1 with
  | .ex c fs ds => (tab.lookup c).bind fun b => if b = true then ((match i with
      | some i => put i (.fz (.nd (.exc c fs) ds)) x.2
      | none => some x.2).bind fun ρ2 => (ms ρ2).bind fun y => match y.1 with
        | .ex _ _ _ => none
        | fl => some (fl, match i with
          | some i => y.2.set i none
          | none => y.2)) else some (.ex c fs ds, x.2)
  | fl => some (fl, x.2)
theorem St.drop {K : PySem.W.Frag} {B H : Hp} {σ : L2.St} {ρ : Env} {F : Nat → Addr → Prop} (S : St K B H σ ρ F) (i : Nat) : St K B H (σ.set i none) (ρ.set i none) F := by
  refine ⟨S.bh, fun j t e => ?_, S.nb, S.al, S.dj, by simp [S.ln]⟩
  by_cases hj : j = i
  · subst hj
    by_cases hl : j < ρ.length
    · rw [List.getElem?_set_self hl] at e; cases e
    · rw [List.getElem?_eq_none (by simpa using hl)] at e; cases e
  · rw [List.getElem?_set_ne (Ne.symm hj)] at e ⊢
    exact S.sl j t e
/-- which classes a clause takes -/
def TabOk (K : PySem.W.Frag) (c : Value) (tab : List (Str × Bool)) : Prop := ∀ x b, tab.lookup x = some b → PySem.W.exmOne K (.ref (He.ga K x)) c = some b ∧ ErrC K (He.ga K x)
section
variable {X : Cx} {p q : Bool} {pos : Pos} {io : Io}
theorem s_try_as {x n : Str} {c : Value} {i : Nat} {body suite : List Stmt} {b₀ : Stmt} {np pos pos' : Pos} {tab : List (Str × Bool)} {mb ms : MS} (T : TabOk X.K c tab) (hs : X.stack = X.env :: X.outer) (hf : X.env.frame = some X.env.locals) (hN : X.N.Nodup) (hc : Names X x c) (tk : Takes X io.w)
    (hb : ∀ (W : WX) (pn : List (Addr × Obj)) (xe : Value → Shared → Prop), Takes (X.tr pn xe) W → PassesOwn (model X.prog X.w) X.A X.env xe → PSs (X.tr pn xe) body (tS X.K ⟨io.f, W⟩ mb))
    (hsu : ∀ (a : Addr) (pn : List (Addr × Obj)), PSs (suiteT X a pn) (b₀ :: suite) (tS X.K (io0 io.f) ms))
    (hi : X.N[i]? = some n := by rfl) (hln : X.env.kindOf n = some .local := by rfl) (hio : io i = false := by rfl) :
    PS X (.Try body [.ExceptHandler (some (.Name x np)) (some n) (b₀ :: suite) pos'] [] [] pos) (tS X.K io (sTry tab (some i) mb ms)) :=
  psW (ps_tryT_as (tb := fun W => tS X.K ⟨io.f, W⟩ mb) (ts := tS X.K (io0 io.f) ms) (Wout := io.w) hs hf hN hi hln hc tk hb hsu) fun D σ H h => by
    obtain ⟨B, ρ, F, S, fl, ρ', e, k⟩ := tS_eq.mp h
    obtain ⟨⟨x, ρ1⟩, ea, e⟩ := ob e
    refine tS_eq.mpr ⟨B, ρ, F, S, x, ρ1, ea, ?_⟩
    cases x with
    | nx => cases (show some (Fl.nx, ρ1) = some (fl, ρ') from e); exact k
    | bk => cases (show some (Fl.bk, ρ1) = some (fl, ρ') from e); exact k
    | ct => cases (show some (Fl.ct, ρ1) = some (fl, ρ') from e); exact k
    | rt t => cases (show some (Fl.rt t, ρ1) = some (fl, ρ') from e); exact k
    | ex c' fs ds =>
      obtain ⟨b, eb, e⟩ := ob (show (tab.lookup c').bind _ = some (fl, ρ') from e)
      obtain ⟨t1, t2⟩ := T _ _ eb
      intro cls d σ1 B1 H1 F1 vs E1 S1 w1 ec dd ff
      refine ⟨b, by rw [ec]; exact t1, fun hb => ⟨_, ec, fun a na => ?_⟩, fun hb => ?_⟩
      · subst hb
        rw [if_pos rfl] at e
        obtain ⟨ρ2, ep, e⟩ := ob e
        obtain ⟨⟨y, ρ3⟩, ey, e⟩ := ob e
        have n := New.lay (o := exoC a (He.ga X.K c') d) S1.bh na
        have S2 := S1.new n
        have O : OwnX X.K (upd B1 a (exoC a (He.ga X.K c') d)) (upd H1 a (exoC a (He.ga X.K c') d)) F1 (fun _ => False) (.fz (.nd (.exc c' fs) ds)) (.ref a) :=
          ⟨⟨a, vs, rfl, ⟨t2, d, upd_same, ff.mono n.bb⟩, dd.mono n.bb⟩, fun _ z => z.elim, fun _ z => z.elim, fun _ _ z => z.elim⟩
        obtain ⟨F2, u2, S3⟩ := put_own S2 O ep
        have E2 : Ext B H (U F) (upd B1 a (exoC a (He.ga X.K c') d)) (upd H1 a (exoC a (He.ga X.K c') d)) (U F2) := (E1.trans n.ext).less fun z hz => (u2 z hz).elim (fun z => z) fun z => z.elim
        have w3 : ∀ j, io j = true → (σ1.set i (some (V.ref a)))[j]? = σ[j]? := fun j z => by
          rw [List.getElem?_set_ne (fun y => by subst y; rw [hio] at z; cases z)]
          exact w1 j z
        have wd : ∀ (σ6 : L2.St), (∀ j, io j = true → σ6[j]? = (σ1.set i (some (V.ref a)))[j]?) → ∀ j, io j = true → (σ6.set i none)[j]? = σ[j]? := fun σ6 w j z => by
          rw [List.getElem?_set_ne (fun y => by subst y; rw [hio] at z; cases z)]
          exact (w j z).trans (w3 j z)
        refine tS_eq.mpr ⟨_, ρ2, F2, S3, y, ρ3, ey, ?_⟩
        cases y with
        | nx =>
          cases (show some (Fl.nx, ρ3.set i none) = some (fl, ρ') from e)
          exact fun σ6 B6 H6 F6 E6 S6 w6 => k _ B6 H6 F6 (E2.trans E6) (S6.drop i) (wd σ6 w6)
        | bk =>
          cases (show some (Fl.bk, ρ3.set i none) = some (fl, ρ') from e)
          exact fun σ6 B6 H6 F6 E6 S6 w6 => k _ B6 H6 F6 (E2.trans E6) (S6.drop i) (wd σ6 w6)
        | ct =>
          cases (show some (Fl.ct, ρ3.set i none) = some (fl, ρ') from e)
          exact fun σ6 B6 H6 F6 E6 S6 w6 => k _ B6 H6 F6 (E2.trans E6) (S6.drop i) (wd σ6 w6)
        | rt t =>
          cases (show some (Fl.rt t, ρ3.set i none) = some (fl, ρ') from e)
          exact fun v σ6 B6 H6 F6 G6 E6 S6 O6 w6 => k v _ B6 H6 F6 G6 (E2.trans E6) (S6.drop i) O6 (wd σ6 w6)
        | ex _ _ _ => cases (show none = some (fl, ρ') from e)
      · subst hb
        rw [if_neg Bool.false_ne_true] at e
        cases e
        exact k cls d σ1 B1 H1 F1 vs E1 S1 w1 ec dd ff
theorem s_try {x : Str} {c : Value} {body suite : List Stmt} {b₀ : Stmt} {np pos pos' : Pos} {tab : List (Str × Bool)} {mb ms : MS} (T : TabOk X.K c tab) (hs : X.stack = X.env :: X.outer) (hf : X.env.frame = some X.env.locals) (hc : Names X x c) (tk : Takes X io.w)
    (hb : ∀ (W : WX) (pn : List (Addr × Obj)) (xe : Value → Shared → Prop), Takes (X.tr pn xe) W → PassesOwn (model X.prog X.w) X.A X.env xe → PSs (X.tr pn xe) body (tS X.K ⟨io.f, W⟩ mb))
    (hsu : ∀ (a : Addr) (pn : List (Addr × Obj)), PSs (suiteT X a pn) (b₀ :: suite) (tS X.K (io0 io.f) ms)) :
    PS X (.Try body [.ExceptHandler (some (.Name x np)) none (b₀ :: suite) pos'] [] [] pos) (tS X.K io (sTry tab none mb ms)) :=
  psW (ps_try_only (tb := fun W => tS X.K ⟨io.f, W⟩ mb) (ts := fun _ _ _ => tS X.K (io0 io.f) ms) (Wout := io.w) hs hf hc tk hb fun a oe _ _ pn _ _ => hsu a ((a, oe) :: pn)) fun D σ H h => by
    obtain ⟨B, ρ, F, S, fl, ρ', e, k⟩ := tS_eq.mp h
    obtain ⟨⟨x, ρ1⟩, ea, e⟩ := ob e
    refine tS_eq.mpr ⟨B, ρ, F, S, x, ρ1, ea, ?_⟩
    cases x with
    | nx => cases (show some (Fl.nx, ρ1) = some (fl, ρ') from e); exact k
    | bk => cases (show some (Fl.bk, ρ1) = some (fl, ρ') from e); exact k
    | ct => cases (show some (Fl.ct, ρ1) = some (fl, ρ') from e); exact k
    | rt t => cases (show some (Fl.rt t, ρ1) = some (fl, ρ') from e); exact k
    | ex c' fs ds =>
      obtain ⟨b, eb, e⟩ := ob (show (tab.lookup c').bind _ = some (fl, ρ') from e)
      obtain ⟨t1, t2⟩ := T _ _ eb
      intro cls d σ1 B1 H1 F1 vs E1 S1 w1 ec dd ff
      refine ⟨b, by rw [ec]; exact t1, fun hb a na => ?_, fun hb => ?_⟩
      · subst hb
        rw [if_pos rfl] at e
        obtain ⟨⟨y, ρ3⟩, ey, e⟩ := ob (show (ms ρ1).bind _ = some (fl, ρ') from e)
        refine tS_eq.mpr ⟨_, ρ1, F1, S1, y, ρ3, ey, ?_⟩
        cases y with
        | nx =>
          cases (show some (Fl.nx, ρ3) = some (fl, ρ') from e)
          exact fun σ6 B6 H6 F6 E6 S6 w6 => k _ B6 H6 F6 (E1.trans E6) S6 fun j z => (w6 j z).trans (w1 j z)
        | bk =>
          cases (show some (Fl.bk, ρ3) = some (fl, ρ') from e)
          exact fun σ6 B6 H6 F6 E6 S6 w6 => k _ B6 H6 F6 (E1.trans E6) S6 fun j z => (w6 j z).trans (w1 j z)
        | ct =>
          cases (show some (Fl.ct, ρ3) = some (fl, ρ') from e)
          exact fun σ6 B6 H6 F6 E6 S6 w6 => k _ B6 H6 F6 (E1.trans E6) S6 fun j z => (w6 j z).trans (w1 j z)
        | rt t =>
          cases (show some (Fl.rt t, ρ3) = some (fl, ρ') from e)
          exact fun v σ6 B6 H6 F6 G6 E6 S6 O6 w6 => k v _ B6 H6 F6 G6 (E1.trans E6) S6 O6 fun j z => (w6 j z).trans (w1 j z)
        | ex _ _ _ => cases (show none = some (fl, ρ') from e)
      · subst hb
        rw [if_neg Bool.false_ne_true] at e
        cases e
        exact k cls d σ1 B1 H1 F1 vs E1 S1 w1 ec dd ff
end
end DL

end

section
set_option Elab.async false
set_option linter.all false
set_option maxRecDepth 100000
set_option maxHeartbeats 4000000
/-! ED: raise; defs that let errors out, called. -/
namespace DL
open PySem PySem.Spec PySem.Calls PyProof.Rows L2

/-! ### raise -/
/-- the class c's errors are made with one thing, their field f -/
structure MadeC (P : Program) (w : World) (K : PySem.W.Frag) (mg : Str → Option Value) (base : Heap) (c f : Str) : Prop where
  gl : mg c = some (.ref (He.ga K c))
  T : OexC K (He.ga K c)
  ini : ∃ fI fd, PySem.W.findIn K (.ref (He.ga K c)) "__init__" = some (some (.ref fI)) ∧ PySem.W.typeIn K (.ref fI) = some (.type "function") ∧ FnOk P w K mg base CX0 1 fI fd ["self", f] (spIni (He.ga K c) f) ∧ Binds K fd ["self", f] []
def sRs1 (c f : Str) (m : M) : MS := fun ρ => (m ρ).bind fun x => (frzA x.2 x.1).bind fun y => some (.ex c [f] [y.1], y.2)
theorem made_hp {H1 : Hp} {a C dx : Addr} {f : Str} {v : V} (na : H1 a = none) : upd (del (upd (upd (upd H1 a (exo a C none)) dx (exd dx [(f, v)])) a (exo a C (some dx))) a) dx (.xd [(f, v)]) = upd H1 dx (.xd [(f, v)]) := by
  funext b
  by_cases hb : b = dx
  · rw [hb, upd_same, upd_same]
  · rw [upd_ne hb, upd_ne hb]
    by_cases ha : b = a
    · rw [ha, del_same, na]
    · rw [del_ne ha, upd_ne ha, upd_ne hb, upd_ne ha]
section
variable {X : Cx} {p q : Bool} {pos : Pos} {io : Io}
theorem s_rs1 {c f : Str} {e : Expr} {m : M} {k : Nat} {pn pc pos : Pos} (C : MadeC X.prog X.w X.K X.mg X.base c f) (hr : Room (k + 2) X.A) (hc : X.calm = true) (tk : Takes X io.w) (he : PE X e (tE X.K p m)) (hg : Gl X c := by rfl) (hdb : (c == ("__debug__" : Str)) = false := by decide)
    (h1 : starEach (e :: []) X.env = (false, eval e X.env) :: starEach [] X.env := by rfl) (hpl : (backTo pc (starEach [] X.env)).any (·.1) = false := by rfl) : PS X (.Raise (some (.Call (.Name c pn) [e] [] pc)) none pos) (tS X.K io (sRs1 c f m)) := by
  obtain ⟨fI, fd, i1, i2, i3, i4⟩ := C.ini
  refine psW (ps_raise hc tk (pmk_oex C.T i1 i2 (i3.mono (Nat.le_add_left 1 k)) hr i4 (dvs := []) .nil pass0 hg C.gl (pa_cons he pa_nil h1) hdb h1 hpl)) fun D σ H h => ?_
  obtain ⟨B, ρ, F, S, fl, ρ', e, k⟩ := tS_eq.mp h
  obtain ⟨⟨x, ρ1⟩, ea, e⟩ := ob e
  obtain ⟨⟨d, ρ2⟩, ed, e⟩ := ob e
  cases e
  refine ⟨B, ρ, F, S, x, ρ1, ea, fun v B1 H1 F1 E1 S1 A1 P1 => ?_⟩
  obtain ⟨B2, F2, E2, S2, d2⟩ := S1.frzA A1 ed
  refine ⟨(by decide : 1 ≤ 1000), fun a na => ⟨a, v, rfl, upd_same, fun dx n ne => ⟨rfl, dx, [(f, v)], upd_same, ?_, ?_, ?_⟩⟩⟩
  · rw [upd_ne ne, upd_same]
  · rw [upd_ne ne] at n; exact n
  · rw [upd_ne ne] at n
    rw [made_hp na]
    have nw := New.lay (o := .xd [(f, v)]) S2.bh n
    exact k (.ref (He.ga X.K c)) (some dx) σ _ _ F2 [v] ((E1.trans E2).trans nw.ext) (S2.new nw) (fun _ _ => rfl) rfl ⟨v, [], rfl, d2.mono nw.bb, rfl⟩ ⟨rfl, upd_same⟩
end

/-! ### defs that let errors out -/
inductive Rs where
  | rt (t : T) | ex (c : Str) (fs : List Str) (ds : List D)
abbrev FnX := List T → Option (Rs × List T)
def spX (K : PySem.W.Frag) (n : Nat) (f : FnX) : Sp := fun vs H Q E => ∃ B ts F, vs.length = n ∧ St K B H (vs.map some) (ts.map some) F ∧ ∃ r ts', f ts = some (r, ts') ∧ match r with
  | .rt r => ∀ v B' H' F' G, Ext B H (U F) B' H' (fun a => U F' a ∨ G a) → St K B' H' (vs.map some) (ts'.map some) F' → OwnX K B' H' F' G r v → Q v H'
  | .ex c fs ds => ∀ cls d B' H' F' ws, Ext B H (U F) B' H' (U F') → St K B' H' (vs.map some) (ts'.map some) F' → cls = .ref (He.ga K c) → DatL K B' ds ws → ExF B' fs d ws → E cls d H'
def fnX (N : Nat) (io : Nat → Bool) (body : MS) : FnX := fun ts => (body (ts.map some ++ List.replicate (N - ts.length) none)).bind fun x => (outs io x.2 0 ts).bind fun ts' => match x.1 with
  | .rt t => some (.rt t, ts')
  | .nx => some (.rt (.fz .non), ts')
  | .ex c fs ds => some (.ex c fs ds, ts')
  | _ => none
/-- what a def that lets errors out wishes -/
def ioX (f : Nat → Bool) (E : XK) : Io := ⟨f, fun cls d _ H => E cls d H⟩
theorem fn_readX {K : PySem.W.Frag} {N : List Str} {n : Nat} {io : Nat → Bool} {body : MS} {vs : List V} {H : Hp} {Q : VK} {E : XK} (h : spX K n (fnX N.length io body) vs H Q E) : tS K (ioX io E) body { nx := fun _ H' => Q .non H', rt := Q } (L2.start N vs) H := by
  obtain ⟨B, ts, F, hn, S, r, ts', e, k⟩ := h
  have hl : vs.length = ts.length := by simpa using S.ln
  obtain ⟨⟨fl, ρ'⟩, eb, e⟩ := ob e
  obtain ⟨ts2, eo, e⟩ := ob e
  refine tS_eq.mpr ⟨B, _, F, ?_, fl, ρ', eb, ?_⟩
  · unfold L2.start
    rw [hl]
    exact S.more _
  · cases fl with
    | nx =>
      cases (show some (Rs.rt (T.fz .non), ts2) = some (r, ts') from e)
      exact fun σ' B' H' F' E' S' w => k .non B' H' F' (fun _ => False) (E'.less fun a z => z.elim (fun y => y) fun y => y.elim) (S.outs (G := fun _ => False) (E'.less fun a z => z.elim (fun y => y) fun y => y.elim) S' w eo) ⟨rfl, fun _ z => z.elim, fun _ z => z.elim, fun _ _ z => z.elim⟩
    | rt t =>
      cases (show some (Rs.rt t, ts2) = some (r, ts') from e)
      exact fun v σ' B' H' F' G E' S' O w => k v B' H' F' G E' (S.outs E' S' w eo) O
    | ex c fs ds =>
      cases (show some (Rs.ex c fs ds, ts2) = some (r, ts') from e)
      exact fun cls d σ' B' H' F' ws E' S' w ec dd ff => k cls d B' H' F' ws E' (S.outs (G := fun _ => False) (E'.less fun a z => z.elim (fun y => y) fun y => y.elim) S' w eo) ec dd ff
    | bk => cases (show none = some (r, ts') from e)
    | ct => cases (show none = some (r, ts') from e)
def DefX (P : Program) (w : World) (K : PySem.W.Frag) (mg : Str → Option Value) (base : Heap) (k : Nat) (x : Str) (n : Nat) (fn : FnX) : Prop :=
  ∃ f fd ps, FnOk P w K mg base (L2.CX P w) k f fd ps (spX K n fn) ∧ mg x = some (.ref f) ∧ PySem.W.keepIn K (.ref f) = true ∧ Binds K fd ps []
theorem def_okX {P : Program} {w : World} {K : PySem.W.Frag} {mg : Str → Option Value} {base : Heap} {x : Str} {st : Stmt} {N ps : List Str} {k n : Nat} {io : Nat → Bool} {m : MS} (F : IsDef K mg x st) (S : FnScope N ps (defScope st)) (hn : ps.length = n)
    (hbd : ∀ (dV kV doc pm : Value) (an : Option Addr) (cdv ct : Value) (us : List Value), us.length = ps.length → bindArgs (PySem.W.fnOf x x (defArgs st) (defBody st) (defScope st) .none kV doc pm an cdv ct) ⟨us, []⟩ = pure (ps.zip us))
    (hb : ∀ (f : Addr) (cdv : Value) (A : Around) (outer : List PySem.Env) (s : Shared) (H : Hp) (E : XK), Room k (A.deeper (envOfC x (defScope st) s.heap.objs.size f cdv)) → Takes (cxOf (L2.CX P w) P w K mg base N x (defScope st) f cdv A outer s H E) (ioX io E).w →
      PassesOwn (model P w) (A.deeper (envOfC x (defScope st) s.heap.objs.size f cdv)) (envOfC x (defScope st) s.heap.objs.size f cdv) (cxOf (L2.CX P w) P w K mg base N x (defScope st) f cdv A outer s H E).xe →
      PSs (cxOf (L2.CX P w) P w K mg base N x (defScope st) f cdv A outer s H E) (defBody st) (tS K (ioX io E) m)) :
    DefX P w K mg base (k + 1) x n (fnX N.length io m) := by
  obtain ⟨f, fd, F, hg⟩ := F
  refine ⟨f, fd, ps, F.ok S (fun vs H Q E h => ?_) (fun cdv A outer s H vs Q E hr h => ⟨tS K (ioX io E) m, hb f cdv A outer s H E hr ?_ ?_, fn_readX h⟩), hg, F.kp, F.bindsN fun kV doc pm an cdv ct us hl => hbd .none kV doc pm an cdv ct us hl⟩
  · obtain ⟨B, ts, F', h1, _⟩ := h
    rw [h1, hn]
  · exact takes_of rfl rfl rfl rfl
  · exact passes_of rfl
theorem DefX.mono {P : Program} {w : World} {K : PySem.W.Frag} {mg : Str → Option Value} {base : Heap} {x : Str} {j k n : Nat} {fn : FnX} (d : DefX P w K mg base j x n fn) (h : j ≤ k) : DefX P w K mg base k x n fn := by
  obtain ⟨f, fd, ps, F, r⟩ := d
  exact ⟨f, fd, ps, F.mono h, r⟩
end DL

end

section
set_option Elab.async false
set_option linter.all false
set_option maxRecDepth 100000
set_option maxHeartbeats 4000000
/-! EE: calls that let errors out, and the statements that hold them. -/
namespace DL
open PySem PySem.Spec PySem.Calls PyProof.Rows L2

abbrev MX := Env → Option (Rs × Env)
inductive RsL where
  | rt (ds : List D) | ex (c : Str) (fs : List Str) (ds : List D)
abbrev MXL := Env → Option (RsL × Env)
/-- what is wanted where an error goes out -/
def ExW (K : PySem.W.Frag) (W : WX) (B H : Hp) (σ : L2.St) (F : Nat → Addr → Prop) (ρ' : Env) (c : Str) (fs : List Str) (ds : List D) : Prop :=
  ∀ cls d B' H' F' ws, Ext B H (U F) B' H' (U F') → St K B' H' σ ρ' F' → cls = .ref (He.ga K c) → DatL K B' ds ws → ExF B' fs d ws → W cls d σ H'
theorem ExW.after {K : PySem.W.Frag} {W : WX} {B H B1 H1 : Hp} {σ : L2.St} {F F1 : Nat → Addr → Prop} {ρ' : Env} {c : Str} {fs : List Str} {ds : List D} (k : ExW K W B H σ F ρ' c fs ds) (E1 : Ext B H (U F) B1 H1 (U F1)) : ExW K W B1 H1 σ F1 ρ' c fs ds :=
  fun cls d B' H' F' ws E S => k cls d B' H' F' ws (E1.trans E) S
/-- an expression that may let an error out -/
def tX (K : PySem.W.Frag) (W : WX) (m : MX) : TE := fun σ H Q => ∃ B ρ F, St K B H σ ρ F ∧ ∃ r ρ', m ρ = some (r, ρ') ∧ match r with
  | .rt t => ∀ v B' H' F' G, Ext B H (U F) B' H' (fun a => U F' a ∨ G a) → St K B' H' σ ρ' F' → OwnX K B' H' F' G t v → Q v H'
  | .ex c fs ds => ExW K W B H σ F ρ' c fs ds
def tXL (K : PySem.W.Frag) (W : WX) (m : MXL) : TA := fun σ H Q => ∃ B ρ F, St K B H σ ρ F ∧ ∃ r ρ', m ρ = some (r, ρ') ∧ match r with
  | .rt ds => ∀ vs B' H' F', Ext B H (U F) B' H' (U F') → St K B' H' σ ρ' F' → DatL K B' ds vs → Q vs H'
  | .ex c fs ds => ExW K W B H σ F ρ' c fs ds
section
variable {X : Cx} {p q : Bool} {pos : Pos} {io : Io} {W : WX}
/-- what is ours is frozen -/
theorem frz_own {K : PySem.W.Frag} {B H B1 H1 : Hp} {σ : L2.St} {ρ1 : Env} {F F1 : Nat → Addr → Prop} {G : Addr → Prop} {t : T} {v : V} (E1 : Ext B H (U F) B1 H1 (fun a => U F1 a ∨ G a)) (S1 : St K B1 H1 σ ρ1 F1) (O1 : OwnX K B1 H1 F1 G t v) :
    Ext B H (U F) (frzB B1 H1 G) H1 (U F1) ∧ St K (frzB B1 H1 G) H1 σ ρ1 F1 ∧ Dat K (frzB B1 H1 G) t.toD v := by
  refine ⟨⟨E1.bb.trans (frzB_ex O1.nb), E1.fr, fun a h n z => ?_, fun a h n z => E1.nf a h n (Or.inl z)⟩, ⟨frzB_le S1.bh, fun i t e => ?_, fun i a z => ?_, S1.al, S1.dj, S1.ln⟩, O1.own.frozen O1.nb⟩
  · rw [frzB_out fun y => E1.nf a h n (Or.inr y)]
    exact E1.nb a h n z
  · obtain ⟨w, g1, g2⟩ := S1.sl i t e
    exact ⟨w, g1, g2.frame (frzB_ex O1.nb) fun _ _ _ z => z⟩
  · rw [frzB_out fun y => O1.dj i a y z]
    exact S1.nb i a z
/-! ### rows of arguments, some of which may let an error out -/
def xNil : MXL := fun ρ => some (.rt [], ρ)
def xM (m : M) (r : MXL) : MXL := fun ρ => (m ρ).bind fun x => (frzA x.2 x.1).bind fun y => (r y.2).bind fun z => match z.1 with
  | .rt ds => some (.rt (y.1 :: ds), z.2)
  | .ex c fs es => some (.ex c fs es, z.2)
def xX (m : MX) (r : MXL) : MXL := fun ρ => (m ρ).bind fun x => match x.1 with
  | .rt t => (r x.2).bind fun z => match z.1 with
    | .rt ds => some (.rt (t.toD :: ds), z.2)
    | .ex c fs es => some (.ex c fs es, z.2)
  | .ex c fs es => some (.ex c fs es, x.2)
theorem x_nil : PA X [] (tXL X.K W xNil) := paW pa_nil fun σ H Q h => by
  obtain ⟨B, ρ, F, S, r, ρ', e, k⟩ := h
  cases (show some (RsL.rt [], ρ) = some (r, ρ') from e)
  exact k [] B H F Ext.refl S rfl
theorem x_m {e : Expr} {es : List Expr} {m : M} {r : MXL} (he : PE X e (tE X.K p m)) (hr : PA X es (tXL X.K W r)) (hs : starEach (e :: es) X.env = (false, eval e X.env) :: starEach es X.env := by rfl) : PA X (e :: es) (tXL X.K W (xM m r)) :=
  paW (pa_cons he hr hs) fun σ H Q h => by
    obtain ⟨B, ρ, F, S, rr, ρ', e, k⟩ := h
    obtain ⟨⟨x, ρ1⟩, ea, e⟩ := ob e
    obtain ⟨⟨d, ρ2⟩, ed, e⟩ := ob e
    obtain ⟨⟨z, ρ3⟩, ez, e⟩ := ob e
    refine ⟨B, ρ, F, S, x, ρ1, ea, fun v B1 H1 F1 E1 S1 A1 P1 => ?_⟩
    obtain ⟨B2, F2, E2, S2, d2⟩ := S1.frzA A1 ed
    refine ⟨B2, ρ2, F2, S2, z, ρ3, ez, ?_⟩
    cases z with
    | rt ds =>
      cases (show some (RsL.rt (d :: ds), ρ3) = some (rr, ρ') from e)
      exact fun vs B3 H3 F3 E3 S3 d3 => k (v :: vs) B3 H3 F3 ((E1.trans E2).trans E3) S3 ⟨v, vs, rfl, d2.mono E3.bb, d3⟩
    | ex c fs es =>
      cases (show some (RsL.ex c fs es, ρ3) = some (rr, ρ') from e)
      exact ExW.after k (E1.trans E2)
theorem x_x {e : Expr} {es : List Expr} {m : MX} {r : MXL} (he : PE X e (tX X.K W m)) (hr : PA X es (tXL X.K W r)) (hs : starEach (e :: es) X.env = (false, eval e X.env) :: starEach es X.env := by rfl) : PA X (e :: es) (tXL X.K W (xX m r)) :=
  paW (pa_cons he hr hs) fun σ H Q h => by
    obtain ⟨B, ρ, F, S, rr, ρ', e, k⟩ := h
    obtain ⟨⟨x, ρ1⟩, ea, e⟩ := ob e
    refine ⟨B, ρ, F, S, x, ρ1, ea, ?_⟩
    cases x with
    | ex c fs es =>
      cases (show some (RsL.ex c fs es, ρ1) = some (rr, ρ') from e)
      exact k
    | rt t =>
      obtain ⟨⟨z, ρ3⟩, ez, e⟩ := ob (show (r ρ1).bind _ = some (rr, ρ') from e)
      intro v B1 H1 F1 G1 E1 S1 O1
      obtain ⟨E2, S2, d2⟩ := frz_own E1 S1 O1
      refine ⟨_, ρ1, F1, S2, z, ρ3, ez, ?_⟩
      cases z with
      | rt ds =>
        cases (show some (RsL.rt (t.toD :: ds), ρ3) = some (rr, ρ') from e)
        exact fun vs B3 H3 F3 E3 S3 d3 => k (v :: vs) B3 H3 F3 (E2.trans E3) S3 ⟨v, vs, rfl, d2.mono E3.bb, d3⟩
      | ex c fs es =>
        cases (show some (RsL.ex c fs es, ρ3) = some (rr, ρ') from e)
        exact ExW.after k E2
/-! ### calls -/
def xCall (fn : FnX) (as : MXL) : MX := fun ρ => (as ρ).bind fun y => match y.1 with
  | .rt ds => (fn (ds.map .fz)).bind fun r => some (r.1, y.2)
  | .ex c fs es => some (.ex c fs es, y.2)
theorem dat_len {K : PySem.W.Frag} {B : Hp} {ds : List D} {vs : List V} (h : DatL K B ds vs) : vs.length = ds.length := h.len.symm
theorem call_ext {B H B2 H1 B3 H3 : Hp} {F F2 : Nat → Addr → Prop} {G3 : Addr → Prop} {F3 : Nat → Addr → Prop} {K : PySem.W.Frag} {σ : L2.St} {ρ2 : Env} (E2 : Ext B H (U F) B2 H1 (U F2)) (S2 : St K B2 H1 σ ρ2 F2) (E3 : Ext B2 H1 (U fun _ _ => False) B3 H3 (fun a => U F3 a ∨ G3 a)) (b3 : Ex B3 H3) :
    Ext B H (U F) B3 H3 (fun a => U F2 a ∨ G3 a) ∧ St K B3 H3 σ ρ2 F2 ∧ ∀ i a, G3 a → ¬ F2 i a := by
  have hh : Ex H1 H3 := fun a o z => E3.fr a o z U_none
  have n' : New B2 H1 B3 H3 := ⟨E3.bb, hh, b3, fun a z y => E3.nb a z U_none y⟩
  refine ⟨⟨(E2.trans n'.ext).bb, (E2.trans n'.ext).fr, (E2.trans n'.ext).nb, fun a z y q => ?_⟩, S2.new n', fun i a z y => E3.nf a (S2.al i a y) U_none (Or.inr z)⟩
  rcases q with q | q
  · exact (E2.trans n'.ext).nf a z y q
  · have z1 : H1 a ≠ none := by
      cases hq : H a with
      | none => exact absurd hq z
      | some o => rw [E2.fr a o hq y]; exact fun z => nomatch z
    exact E3.nf a z1 U_none (Or.inr q)
theorem tX_call {K : PySem.W.Frag} {n : Nat} {fn : FnX} {ms : MXL} {σ : L2.St} {H : Hp} {Q : VK} (hn : ∀ ρ ds ρ', ms ρ = some (.rt ds, ρ') → ds.length = n) (h : tX K W (xCall fn ms) σ H Q) : tXL K W ms σ H fun vs H1 => spX K n fn vs H1 Q (WE W σ) := by
  obtain ⟨B, ρ, F, S, t, ρ', e, k⟩ := h
  obtain ⟨⟨y, ρ1⟩, ea, e⟩ := ob e
  refine ⟨B, ρ, F, S, y, ρ1, ea, ?_⟩
  cases y with
  | ex c fs es =>
    cases (show some (Rs.ex c fs es, ρ1) = some (t, ρ') from e)
    exact k
  | rt ds =>
    obtain ⟨⟨r, ts'⟩, er, e⟩ := ob (show (fn (ds.map .fz)).bind _ = some (t, ρ') from e)
    cases e
    intro vs B1 H1 F1 E1 S1 d1
    refine ⟨B1, ds.map .fz, _, (dat_len d1).trans (hn _ _ _ ea), St.args S1.bh d1, r, ts', er, ?_⟩
    cases r with
    | rt t =>
      intro v B3 H3 F3 G3 E3 S3 O3
      obtain ⟨E4, S4, dj⟩ := call_ext E1 S1 E3 S3.bh
      exact k v B3 H3 F1 G3 E4 S4 ⟨O3.own, O3.nb, O3.al, fun i a z => dj i a z⟩
    | ex c fs es =>
      intro cls d B3 H3 F3 ws E3 S3 ec dd ff
      obtain ⟨E4, S4, _⟩ := call_ext (G3 := fun _ => False) E1 S1 (E3.less fun a z => z.elim (fun y => y) fun y => y.elim) S3.bh
      exact k cls d B3 H3 F1 ws (E4.less fun a z => Or.inl z) S4 ec dd ff
theorem x_call {j kk n : Nat} {x : Str} {fn : FnX} {po : Pos} {e : Expr} {es : List Expr} {ms : MXL} (G : DefX X.prog X.w X.K X.mg X.base j x n fn) (hr : Room kk X.A) (tk : Takes X W) (ha : PA X (e :: es) (tXL X.K W ms)) (hn : ∀ ρ ds ρ', ms ρ = some (.rt ds, ρ') → ds.length = n) (hj : j ≤ kk := by decide) (hg : Gl X x := by rfl)
    (hdb : (x == ("__debug__" : Str)) = false := by decide) (he : starEach (e :: es) X.env = (false, eval e X.env) :: starEach es X.env := by rfl) (hpl : (backTo pos (starEach es X.env)).any (·.1) = false := by rfl) :
    PE X (.Call (.Name x po) (e :: es) [] pos) (tX X.K W (xCall fn ms)) := by
  obtain ⟨f, fd, ps, F, h1, h2, h3⟩ := G
  exact peW (pe_callS F (hr.mono hj) hg h1 h2 h3 (fun σ => passAt tk σ) ha hdb he hpl) fun σ _ _ h => tX_call hn h
/-- how many there are -/
theorem xNil_n {ρ ρ' : Env} {ds : List D} (h : xNil ρ = some (.rt ds, ρ')) : ds.length = 0 := by
  cases (show some (RsL.rt [], ρ) = some (RsL.rt ds, ρ') from h)
  rfl
theorem xM_n {m : M} {r : MXL} {n : Nat} (hr : ∀ ρ ds ρ', r ρ = some (.rt ds, ρ') → ds.length = n) : ∀ ρ ds ρ', xM m r ρ = some (.rt ds, ρ') → ds.length = n + 1 := fun ρ ds ρ' e => by
  obtain ⟨⟨x, ρ1⟩, ea, e⟩ := ob e
  obtain ⟨⟨d, ρ2⟩, ed, e⟩ := ob e
  obtain ⟨⟨z, ρ3⟩, ez, e⟩ := ob e
  cases z with
  | rt es =>
    cases (show some (RsL.rt (d :: es), ρ3) = some (RsL.rt ds, ρ') from e)
    rw [List.length_cons, hr _ _ _ ez]
  | ex c fs es => cases (show some (RsL.ex c fs es, ρ3) = some (RsL.rt ds, ρ') from e)
theorem xX_n {m : MX} {r : MXL} {n : Nat} (hr : ∀ ρ ds ρ', r ρ = some (.rt ds, ρ') → ds.length = n) : ∀ ρ ds ρ', xX m r ρ = some (.rt ds, ρ') → ds.length = n + 1 := fun ρ ds ρ' e => by
  obtain ⟨⟨x, ρ1⟩, ea, e⟩ := ob e
  cases x with
  | ex c fs es => cases (show some (RsL.ex c fs es, ρ1) = some (RsL.rt ds, ρ') from e)
  | rt t =>
    obtain ⟨⟨z, ρ3⟩, ez, e⟩ := ob (show (r ρ1).bind _ = some (RsL.rt ds, ρ') from e)
    cases z with
    | rt es =>
      cases (show some (RsL.rt (t.toD :: es), ρ3) = some (RsL.rt ds, ρ') from e)
      rw [List.length_cons, hr _ _ _ ez]
    | ex c fs es => cases (show some (RsL.ex c fs es, ρ3) = some (RsL.rt ds, ρ') from e)
/-! ### a tuple of such -/
def xTup (as : MXL) : MX := fun ρ => (as ρ).bind fun y => match y.1 with
  | .rt ds => if (!small ds) = true then none else some (.rt (.fz (.nd .tup ds)), y.2)
  | .ex c fs es => some (.ex c fs es, y.2)
theorem x_tup {x1} {es : List Expr} {ms : MXL} (h : PA X es (tXL X.K W ms)) : PE X (.Tuple es x1 pos) (tX X.K W (xTup ms)) := peW (pe_tup h) fun σ H Q h => by
  obtain ⟨B, ρ, F, S, t, ρ', e, k⟩ := h
  obtain ⟨⟨y, ρ1⟩, ea, e⟩ := ob e
  refine ⟨B, ρ, F, S, y, ρ1, ea, ?_⟩
  cases y with
  | ex c fs es =>
    cases (show some (Rs.ex c fs es, ρ1) = some (t, ρ') from e)
    exact k
  | rt ds =>
    obtain ⟨es, e⟩ := og (show (if (!small ds) = true then none else some (Rs.rt (.fz (.nd .tup ds)), ρ1)) = some (t, ρ') from e)
    cases e
    intro vs B2 H1 F2 E2 S2 d2
    refine ⟨by rw [← d2.len]; exact small_le (by simpa using es), fun pp hp => ?_⟩
    have n := New.lay (o := .tup vs) S2.bh hp
    exact k _ _ _ F2 (fun _ => False) ((E2.trans n.ext).less fun a z => z.elim (fun y => y) fun y => y.elim) (S2.new n) ⟨⟨pp, vs, rfl, SqT.of upd_same, d2.mono n.bb⟩, fun _ z => z.elim, fun _ z => z.elim, fun _ _ z => z.elim⟩
/-- a def that lets none out, of such arguments -/
def xPure (fn : Fn) (as : MXL) : MX := fun ρ => (as ρ).bind fun y => match y.1 with
  | .rt ds => (fn (ds.map .fz)).bind fun r => some (.rt r.1, y.2)
  | .ex c fs es => some (.ex c fs es, y.2)
theorem tX_pure {K : PySem.W.Frag} {n : Nat} {fn : Fn} {ms : MXL} {σ : L2.St} {H : Hp} {Q : VK} {E : XK} (hn : ∀ ρ ds ρ', ms ρ = some (.rt ds, ρ') → ds.length = n) (h : tX K W (xPure fn ms) σ H Q) : tXL K W ms σ H fun vs H1 => spF K n fn (vs ++ []) H1 Q E := by
  obtain ⟨B, ρ, F, S, t, ρ', e, k⟩ := h
  obtain ⟨⟨y, ρ1⟩, ea, e⟩ := ob e
  refine ⟨B, ρ, F, S, y, ρ1, ea, ?_⟩
  cases y with
  | ex c fs es =>
    cases (show some (Rs.ex c fs es, ρ1) = some (t, ρ') from e)
    exact k
  | rt ds =>
    obtain ⟨⟨r, ts'⟩, er, e⟩ := ob (show (fn (ds.map .fz)).bind _ = some (t, ρ') from e)
    cases e
    intro vs B1 H1 F1 E1 S1 d1
    show spF K n fn (vs ++ []) H1 Q E
    rw [List.append_nil]
    refine ⟨B1, ds.map .fz, _, (dat_len d1).trans (hn _ _ _ ea), St.args S1.bh d1, r, ts', er, fun v B3 H3 F3 G3 E3 S3 O3 => ?_⟩
    obtain ⟨E4, S4, dj⟩ := call_ext E1 S1 E3 S3.bh
    exact k v B3 H3 F1 G3 E4 S4 ⟨O3.own, O3.nb, O3.al, fun i a z => dj i a z⟩
theorem x_pure {j kk n : Nat} {x : Str} {fn : Fn} {po : Pos} {e : Expr} {es : List Expr} {ms : MXL} (G : Def X.prog X.w X.K X.mg X.base j x n fn) (hr : Room kk X.A) (ha : PA X (e :: es) (tXL X.K W ms)) (hn : ∀ ρ ds ρ', ms ρ = some (.rt ds, ρ') → ds.length = n) (hj : j ≤ kk := by decide) (hg : Gl X x := by rfl)
    (hdb : (x == ("__debug__" : Str)) = false := by decide) (he : starEach (e :: es) X.env = (false, eval e X.env) :: starEach es X.env := by rfl) (hpl : (backTo pos (starEach es X.env)).any (·.1) = false := by rfl) :
    PE X (.Call (.Name x po) (e :: es) [] pos) (tX X.K W (xPure fn ms)) := by
  obtain ⟨f, fd, ps, F, h1, h2, h3⟩ := G
  exact peW (pe_call F (hr.mono hj) hg h1 h2 h3 .nil pass0 ha hdb he hpl) fun _ _ _ h => tX_pure hn h
/-! ### statements -/
def sXE (m : MX) : MS := fun ρ => (m ρ).bind fun x => match x.1 with
  | .rt _ => some (.nx, x.2)
  | .ex c fs es => some (.ex c fs es, x.2)
def sXR (m : MX) : MS := fun ρ => (m ρ).bind fun x => match x.1 with
  | .rt t => some (.rt t, x.2)
  | .ex c fs es => some (.ex c fs es, x.2)
def sXA (i : Nat) (m : MX) : MS := fun ρ => (m ρ).bind fun x => match x.1 with
  | .rt t => (put i t x.2).bind fun ρ' => some (.nx, ρ')
  | .ex c fs es => some (.ex c fs es, x.2)
theorem ex_post {K : PySem.W.Frag} {B H : Hp} {σ : L2.St} {F : Nat → Addr → Prop} {ρ' : Env} {c : Str} {fs : List Str} {ds : List D} {De : Ends} (k : Post K io B H σ F De (.ex c fs ds) ρ') : ExW K io.w B H σ F ρ' c fs ds :=
  fun cls d B' H' F' ws E S ec dd ff => k cls d σ B' H' F' ws E S (fun _ _ => rfl) ec dd ff
theorem s_xe {e : Expr} {m : MX} (he : PE X e (tX X.K io.w m)) (hs : swapsWith e none pos.line X.env = pure false := by rfl) : PS X (.Expr e pos) (tS X.K io (sXE m)) := psW (ps_expr he hs) fun D σ H h => by
  obtain ⟨B, ρ, F, S, fl, ρ', e, k⟩ := tS_eq.mp h
  obtain ⟨⟨x, ρ1⟩, ea, e⟩ := ob e
  refine ⟨B, ρ, F, S, x, ρ1, ea, ?_⟩
  cases x with
  | rt t =>
    cases (show some (Fl.nx, ρ1) = some (fl, ρ') from e)
    intro v B1 H1 F1 G E1 S1 O1
    exact k σ B1 H1 F1 (E1.less fun a z => Or.inl z) S1 fun _ _ => rfl
  | ex c fs es =>
    cases (show some (Fl.ex c fs es, ρ1) = some (fl, ρ') from e)
    exact ex_post (De := D) k
theorem s_xr {e : Expr} {m : MX} (he : PE X e (tX X.K io.w m)) : PS X (.Return (some e) pos) (tS X.K io (sXR m)) := psW (ps_ret he) fun D σ H h => by
  obtain ⟨B, ρ, F, S, fl, ρ', e, k⟩ := tS_eq.mp h
  obtain ⟨⟨x, ρ1⟩, ea, e⟩ := ob e
  refine ⟨B, ρ, F, S, x, ρ1, ea, ?_⟩
  cases x with
  | rt t =>
    cases (show some (Fl.rt t, ρ1) = some (fl, ρ') from e)
    exact fun v B1 H1 F1 G E1 S1 O1 => k v σ B1 H1 F1 G E1 S1 O1 fun _ _ => rfl
  | ex c fs es =>
    cases (show some (Fl.ex c fs es, ρ1) = some (fl, ρ') from e)
    exact ex_post (De := D) k
theorem s_xa {i : Nat} {x : Str} {e : Expr} {m : MX} {pos' : Pos} (hN : X.N.Nodup) (he : PE X e (tX X.K io.w m)) (hi : X.N[i]? = some x := by rfl) (hx : Loc X.env.scope x := by first | exact Or.inl rfl | exact Or.inr rfl) (hio : io i = false := by rfl) (hs : swapsWith e (some (.Name x pos')) pos.line X.env = pure false := by rfl)
    (hf : X.fn x = true ∨ X.env.scope.names.lookup x = some .local := by first | exact .inl rfl | exact .inr rfl | assumption) : PS X (.Assign [.Name x pos'] e pos) (tS X.K io (sXA i m)) := psW (ps_set hN hi hx he hs hf) fun D σ H h => by
  obtain ⟨B, ρ, F, S, fl, ρ', e, k⟩ := tS_eq.mp h
  obtain ⟨⟨x, ρ1⟩, ea, e⟩ := ob e
  refine ⟨B, ρ, F, S, x, ρ1, ea, ?_⟩
  cases x with
  | rt t =>
    obtain ⟨ρ2, ep, e⟩ := ob (show (put i t ρ1).bind _ = some (fl, ρ') from e)
    cases e
    intro v B1 H1 F1 G E1 S1 O1
    obtain ⟨F2, u2, S2⟩ := put_own S1 O1 ep
    exact k _ B1 H1 F2 (E1.less u2) S2 fun j z => List.getElem?_set_ne (fun y => by subst y; rw [hio] at z; cases z)
  | ex c fs es =>
    cases (show some (Fl.ex c fs es, ρ1) = some (fl, ρ') from e)
    exact ex_post (De := D) k
end
end DL

end

section
set_option Elab.async false
set_option linter.all false
set_option maxRecDepth 100000
set_option maxHeartbeats 400000
/-! EF: what the head tells of error classes. -/
namespace DL
open PySem PySem.Spec PySem.Calls PyProof.Rows L2

/-! ### parts of the written heap -/
def refsJ (o : Obj) : List Addr := He.refsD o ++ match o.data with
  | .func fd => fd.closure.map (·.2)
  | _ => []
def growJ (g : Addr → Option Obj) (as : List Addr) : List Addr := (as ++ as.flatMap fun a => match g a with
  | some o => refsJ o
  | none => []).eraseDups
def asJ (g : Addr → Option Obj) : Nat → List Addr
  | 0 => [mainGlobals, cStatics]
  | n + 1 => growJ g (asJ g n)
/-! ### the classes -/
def oexB (K : PySem.W.Frag) (C : Addr) : Bool := match K.lookup C with
  | some ⟨.type t, _, .cls cd, sl⟩ => decide (t = "type") && (match cd.mro, sl.toList with
    | .ref C' :: bm, [_, _, _, _, some (.builtin n), _] => decide (C' = C) && (PySem.HandSPX.refsVE bm && (decide (n = "ValueError.__new__") && (cd.hasDict && !cd.hasDel)))
    | _, _ => false)
  | _ => false
theorem oexB_ok {K : PySem.W.Frag} {C : Addr} (h : oexB K C = true) : ∃ nm q N bs bm sn sub ab col dd k0 k1 k2 k3 k5, K.lookup C = some (excClassObj nm q C N bs bm true sn sub ab col dd k0 k1 k2 k3 k5 "ValueError.__new__") ∧ PySem.HandSPX.refsVE bm = true := by
  unfold oexB at h
  split at h
  · rename_i t dd cd sl ho
    obtain ⟨ht, h⟩ := He.ba h
    have ht := of_decide_eq_true ht
    subst ht
    split at h
    · rename_i C' bm k0 k1 k2 k3 n k5 hm hs
      obtain ⟨h1, h⟩ := He.ba (show (decide (C' = C) && (PySem.HandSPX.refsVE bm && (decide (n = "ValueError.__new__") && (cd.hasDict && !cd.hasDel)))) = true from h)
      obtain ⟨h2, h⟩ := He.ba h
      obtain ⟨h3, h⟩ := He.ba h
      obtain ⟨h4, h5⟩ := He.ba h
      have e1 := of_decide_eq_true h1
      have e3 := of_decide_eq_true h3
      subst e1 e3
      obtain ⟨nm, bs, mro, ns, qn, hd, sn, sub, ab, col, del⟩ := cd
      dsimp only at hm h4 h5
      subst hm
      have h4' : hd = true := h4
      have h5' : del = false := by simpa using h5
      subst h4' h5'
      obtain ⟨l⟩ := sl
      simp only at hs
      subst hs
      exact ⟨nm, qn, ns, bs, bm, sn, sub, ab, col, dd, k0, k1, k2, k3, k5, ho, h2⟩
    · cases h
  · cases h
def tgs : List Tg := [.bl, .int, .str, .tup, .lst, .dic]
def kitB2 (K : PySem.W.Frag) (C : Addr) : Bool := tgs.all fun t => decide (PySem.W.kitOne K (.ref C) (.type t.nm) = some false)
theorem kitB2_ok {K : PySem.W.Frag} {C : Addr} (h : kitB2 K C = true) : KitN K C := fun t h1 h2 => by
  have := List.all_eq_true.mp h t (by cases t <;> first | exact absurd rfl h1 | exact absurd rfl h2 | decide)
  exact of_decide_eq_true this
def excB2 (K : PySem.W.Frag) (C : Addr) : Bool := He.eqO (PySem.W.findIn K (.ref C) "__getattribute__") (some (some (.builtin "BaseException.__getattribute__"))) && (He.eqO (PySem.W.findIn K (.ref C) "__getattr__") (some none) &&
  (decide (PySem.W.subIn K (.ref C) (.type "BaseException") = some true) && (PySem.W.hasDictIn K C && (He.eqO (PySem.W.findIn K (.ref C) "__class__") (some (some (.builtin "object.__class__"))) &&
  (decide (PySem.W.specialIn K (.builtin "object.__class__") "__get__" = some (some (.builtin "getset_descriptor.__get__"))) && (decide (PySem.W.takesIn K (.builtin "object.__class__") = some true) && (decide (PySem.W.mroIn K C (.type "object") = some true) && kitB2 K C)))))))
theorem excB2_ok {K : PySem.W.Frag} {C : Addr} (h : excB2 K C = true) : ErrC K C := by
  obtain ⟨h1, h⟩ := He.ba h
  obtain ⟨h2, h⟩ := He.ba h
  obtain ⟨h3, h⟩ := He.ba h
  obtain ⟨h4, h⟩ := He.ba h
  obtain ⟨h5, h⟩ := He.ba h
  obtain ⟨h6, h⟩ := He.ba h
  obtain ⟨h7, h⟩ := He.ba h
  obtain ⟨h8, h9⟩ := He.ba h
  exact ⟨⟨He.eqO_ok h1, He.eqO_ok h2, of_decide_eq_true h3, h4, He.eqO_ok h5, of_decide_eq_true h6, of_decide_eq_true h7, of_decide_eq_true h8⟩, kitB2_ok h9⟩
/-- the class of the name c -/
def clsB (K : PySem.W.Frag) (c : Str) : Bool := (He.Fa.glo c).ok K && excB2 K (He.ga K c)
/-- .. whose errors are made with one thing, the field f -/
def iAd (K : PySem.W.Frag) (c : Str) : Addr := He.ma K (He.ga K c) "__init__"
def codB (P : Program) (K : PySem.W.Frag) (C : Addr) (q : Str) (fd : FuncData) : Bool := match fd.code, fd.closure with
  | .ref cda, [(_, cc)] => PySem.W.codeIn K (.ref cda) q && ((match K.lookup cda with
    | some ⟨_, _, .fields vs, _⟩ => (match (vs[2]? : Option Value) with
      | some (Value.str file _) => ((P.main.file : Str) == file)
      | _ => false)
    | _ => false) && (match K.lookup cc with
    | some ⟨_, _, .cell (some (.ref D)), _⟩ => decide (D = C)
    | _ => false))
  | _, _ => false
def dfn (v : Value) : Bool := match v with
  | .none => true
  | _ => false
def iniB (P : Program) (K : PySem.W.Frag) (c f q : Str) : Bool :=
  oexB K (He.ga K c) && (He.eqO (PySem.W.findIn K (.ref (He.ga K c)) "__setattr__") (some (some (.builtin "object.__setattr__"))) && (decide (PySem.W.typeIn K (.ref (He.ga K c)) = some (.type "type")) && (PySem.W.keepIn K (.ref (He.ga K c)) &&
  (He.eqO (PySem.W.findIn K (.ref (He.ga K c)) "__init__") (some (some (.ref (iAd K c)))) && (decide (PySem.W.typeIn K (.ref (iAd K c)) = some (.type "function")) && ((match K.lookup (iAd K c) with
    | some ⟨_, _, .func fd, _⟩ => codB P K (He.ga K c) q fd && dfn fd.defaults
    | _ => false) && (He.eqO (PySem.W.nsIn K mainGlobals "super") (some none) && (He.eqO (PySem.W.nsIn K cStatics "thirdparty.any") (some none) && (decide (PySem.W.mroIn K (He.ga K c) (.ref (He.ga K c)) = some true) &&
  (He.eqO (PySem.W.ks_superIn K (He.ga K c) (He.ga K c) "__init__") (some (some (.builtin "ValueError.__init__"))) && (decide (PySem.W.subIn K (.ref (He.ga K c)) (.type "ValueError") = some true) && He.eqO (PySem.W.findIn K (.ref (He.ga K c)) f) (some none))))))))))))
abbrev InW : Type := Option (Str × Str × Arguments × FuncBody × Scope × Addr × List Str × Addr)
def inW (K : PySem.W.Frag) (c : Str) : InW := match K.lookup (iAd K c) with
  | some ⟨_, _, .func fd, _⟩ => some (fd.name, fd.qualname, fd.params, fd.body, fd.scope, fd.globals, fd.closure.map (·.1), fd.builtins)
  | _ => none
def inV (q : Str) (st : Stmt) : InW := some ("__init__", q, defArgs st, .stmts (defBody st), defScope st, mainGlobals, ["__class__"], builtinsNs)
theorem ini_says {P : Program} {w : World} {K : PySem.W.Frag} {mg : Str → Option Value} {base : Heap} {c f q : Str} {st : Stmt} {ar : PySem.Arg} {h : Heap} (X : K.In h) (G : h.Ns mainGlobals mg) (gl : mg c = some (.ref (He.ga K c))) (E : ErrC K (He.ga K c)) (b : iniB P K c f q = true) (v : inW K c = inV q st)
    (htop : (P.main.scope.names.lookup ("super" : Str)).isSome = false) (W : IniT f (defBody st) (defArgs st) (defScope st) ar q)
    (hbd : ∀ (kV doc pm : Value) (an : Option Addr) (cdv ct : Value) (cc : Addr) (us : List Value), us.length = 2 → bindArgs (PySem.W.ksFn "__init__" q (defArgs st) (defBody st) (defScope st) .none kV doc pm an cdv ct cc) ⟨us, []⟩ = pure (List.zip [("self" : Str), f] us)) :
    MadeC P w K mg base c f := by
  obtain ⟨b1, b⟩ := He.ba b
  obtain ⟨b2, b⟩ := He.ba b
  obtain ⟨b3, b⟩ := He.ba b
  obtain ⟨b4, b⟩ := He.ba b
  obtain ⟨b5, b⟩ := He.ba b
  obtain ⟨b6, b⟩ := He.ba b
  obtain ⟨b7, b⟩ := He.ba b
  obtain ⟨b8, b⟩ := He.ba b
  obtain ⟨b9, b⟩ := He.ba b
  obtain ⟨b10, b⟩ := He.ba b
  obtain ⟨b11, b⟩ := He.ba b
  obtain ⟨b12, b13⟩ := He.ba b
  have T : OexC K (He.ga K c) := ⟨oexB_ok b1, He.eqO_ok b2, E.exc.hs, of_decide_eq_true b3, b4⟩
  unfold inW at v
  cases hl : K.lookup (iAd K c) with
  | none => rw [hl] at b7; cases b7
  | some o =>
    obtain ⟨oc, od, dt, osl⟩ := o
    rw [hl] at b7 v
    cases dt with
    | func fd =>
      obtain ⟨b7, bd⟩ := He.ba (show (codB P K (He.ga K c) q fd && dfn fd.defaults) = true from b7)
      unfold codB at b7
      split at b7
      · rename_i cda nm cc hco hcl
        obtain ⟨c1, c2⟩ := He.ba b7
        obtain ⟨c2, c3⟩ := He.ba c2
        obtain ⟨n1, n2, n3, n4, n5, n6, n7, n8, n9, n10, n11, n12, n13, n14, n15⟩ := fd
        dsimp only at hco hcl bd
        subst hco hcl
        have v2 : (some (n1, n2, n3, n4, n5, n6, [nm], n15) : InW) = some (("__init__" : Str), q, defArgs st, FuncBody.stmts (defBody st), defScope st, mainGlobals, [("__class__" : Str)], builtinsNs) := v
        simp only [Option.some.injEq, Prod.mk.injEq, List.cons.injEq, and_true] at v2
        obtain ⟨v1, v2, v3, v4, v5, v6, v7, v8⟩ := v2
        subst v1 v2 v3 v4 v5 v6 v7 v8
        have hn : n8 = .none := by cases n8 <;> first | rfl | cases bd
        subst hn
        refine ⟨gl, T, iAd K c, PySem.W.ksFn "__init__" n2 (defArgs st) (defBody st) (defScope st) .none n9 n10 n11 n12 (.ref cda) n14 cc, He.eqO_ok b5, of_decide_eq_true b6, ?_, ?_⟩
        · refine ini_ok (k := 0) hl c1 ⟨⟨_, _, _, hl⟩, ?_, ?_, htop, PySem.W.mg_none_of X G (He.eqO_ok b8), He.eqO_ok b9, of_decide_eq_true b10, He.eqO_ok b11, of_decide_eq_true b12⟩ T W (He.eqO_ok b13)
          · split at c2
            · rename_i oc2 od2 vs2 sl2 h2
              split at c2
              · rename_i file tf h3
                exact ⟨oc2, od2, sl2, vs2, file, tf, h2, h3, c2⟩
              · cases c2
            · cases c2
          · split at c3
            · rename_i oc2 od2 D2 sl2 h2
              have := of_decide_eq_true c3
              subst this
              exact ⟨_, _, _, h2⟩
            · cases c3
        · exact Binds.all fun us hu => hbd n9 n10 n11 n12 (.ref cda) n14 cc us hu
      · cases b7
    | _ => cases b7
end DL

end

section
set_option Elab.async false
set_option linter.all false
set_option maxRecDepth 100000
set_option maxHeartbeats 400000
/-! EG: a caught error asked: its field, its class. -/
namespace DL
open PySem PySem.Spec PySem.Calls PyProof.Rows L2

def look (f : Str) : List Str → List D → Option D
  | g :: gs, d :: ds => if g = f then some d else look f gs ds
  | _, _ => none
theorem look_v {K : PySem.W.Frag} {B : Hp} {f : Str} : ∀ {gs : List Str} {ds : List D} {vs : List V} {d : D}, look f gs ds = some d → gs.length = vs.length → DatL K B ds vs → ∃ v, (gs.zip vs).lookup f = some v ∧ Dat K B d v
  | [], _, _, _, e, _, _ => by cases e
  | _ :: _, [], _, _, e, _, _ => by cases e
  | g :: gs, d :: ds, _, d', e, hl, ⟨v, r, h1, h2, h3⟩ => by
    subst h1
    rw [List.zip_cons_cons]
    unfold look at e
    by_cases z : g = f
    · rw [if_pos z] at e
      cases e
      subst z
      exact ⟨v, by simp, h2⟩
    · rw [if_neg z] at e
      obtain ⟨w, h4, h5⟩ := look_v e (by simpa using hl) h3
      have z' : (f == g) = false := by simpa using fun q => z q.symm
      exact ⟨w, by rw [List.lookup, z']; exact h4, h5⟩
def fXf (cs : List Str) (f : Str) : D → Option D
  | .nd (.exc c fs) ds => if c ∈ cs then look f fs ds else none
  | _ => none
def eXf (cs : List Str) (f : Str) (m : M) : M := fun ρ => (m ρ).bind fun x => (deref x.2 x.1).bind fun d => (fXf cs f d).bind fun r => some (.vl r, x.2)
section
variable {X : Cx} {p q : Bool} {pos : Pos}
theorem c_xf {cs : List Str} {f : Str} {e : Expr} {m : M} (hno : ∀ c ∈ cs, PySem.W.findIn X.K (.ref (He.ga X.K c)) f = some none) (he : PE X e (tE X.K p m)) (hb : attributeBase e f X.env (eval e X.env) = eval e X.env := by rfl) : PE X (.Attribute e f pos) (tE X.K p (eXf cs f m)) := by
  refine ⟨fun pins s σ H Q I h => ?_⟩
  refine attr_of hb (thn (he.run pins s σ H (fun v H1 => ∃ (a : Addr) (c : Str) (d : Option Addr) (dd : Addr) (fs : List (Str × V)) (y : V), v = .ref a ∧ c ∈ cs ∧ ErrC X.K (He.ga X.K c) ∧ H1 a = some (exoC a (He.ga X.K c) (some dd)) ∧ H1 dd = some (.xd fs) ∧ fs.lookup f = some y ∧ Q y H1) I ?_) fun u s1 hh => ?_)
  · obtain ⟨B, ρ, F, S, r, ρ', e, k⟩ := h
    obtain ⟨⟨x, ρ1⟩, ea, e⟩ := ob e
    obtain ⟨d, ed, e⟩ := ob e
    obtain ⟨g, eg, e⟩ := ob e
    cases e
    refine ⟨B, ρ, F, S, x, ρ1, ea, fun v B1 H1 F1 E1 S1 A1 P1 => ?_⟩
    have sh := S1.deref A1 ed
    cases d with
    | nd kk ds =>
      cases kk with
      | exc c fs =>
        have eg' : (if c ∈ cs then look f fs ds else none) = some g := eg
        by_cases hc : c ∈ cs
        · rw [if_pos hc] at eg'
          obtain ⟨a, vs, rfl, ⟨T, d, h1, h2, h3⟩, h4⟩ := sh
          cases fs with
          | nil => unfold look at eg'; cases eg'
          | cons f0 fs =>
            cases d with
            | none => exact h3.elim
            | some dd =>
              obtain ⟨w, h5, h6⟩ := look_v eg' h2 h4
              exact ⟨a, c, some dd, dd, (f0 :: fs).zip vs, w, rfl, hc, T, h1, h3, h5, k w B1 H1 F1 E1 S1 h6 P1⟩
        · rw [if_neg hc] at eg'; cases eg'
      | _ => cases eg
    | _ => cases eg
  · obtain ⟨x, H1, I1, rx, a, c, d, dd, fs, y, rfl, hc, T, ea, ed, hl, q⟩ := hh
    obtain rfl : u = Value.ref a := rx
    obtain ⟨gs, sl, ho⟩ := exoC_at I1.hok ea
    obtain ⟨mA, hns, hr⟩ := xd_at I1.hok ed
    obtain ⟨od, ho2, hl2⟩ := L2.lookIn_ns hns
    obtain ⟨u, hu, ru⟩ := RelO.some_of (v := y) (o := mA f) (by rw [← hl]; exact hr f)
    have J : PySem.W.InstAt s1.heap a ({ cls := .ref (He.ga X.K c), dict := some dd, data := .fields gs, slots := sl } : Obj) (He.ga X.K c) (some od) := ⟨ho, rfl, rfl, ho2⟩
    exact HandSPX.exc_get I1.kIn J T.exc.hg T.exc.hk T.exc.hs (PySem.W.findObj_own T.exc.hd (hno c hc) rfl (by rw [hl2, hu])) (handed_of ru) ⟨y, H1, I1.tok _, ru, q⟩
/-! ### isinstance of an own class -/
/-- the class cv: what is one of it, what is not -/
structure IsT (K : PySem.W.Frag) (cv : Value) (ys ns : List Str) : Prop where
  yes : ∀ c ∈ ys, PySem.W.kitOne K (.ref (He.ga K c)) cv = some true
  no : ∀ c ∈ ns, PySem.W.kitOne K (.ref (He.ga K c)) cv = some false
  oth : ∀ t : Tg, t ≠ .oth → PySem.W.kitOne K (.type t.nm) cv = some false
def fIsE (ys ns : List Str) (c : Str) : Option Bool := if c ∈ ys then some true else if c ∈ ns then some false else none
def fIsT (ys ns : List Str) : D → Option Bool
  | .nd (.exc c _) _ => fIsE ys ns c
  | .nd (.ins c _) _ => fIsE ys ns c
  | _ => some false
def eIsT (ys ns : List Str) (m : M) : M := fun ρ => (m ρ).bind fun x => (deref x.2 x.1).bind fun d => (fIsT ys ns d).bind fun b => some (.vl (.bl b), x.2)
theorem fIsE_ok {K : PySem.W.Frag} {cv : Value} {ys ns : List Str} {c : Str} {b : Bool} (T : IsT K cv ys ns) (e : fIsE ys ns c = some b) : PySem.W.kitOne K (.ref (He.ga K c)) cv = some b := by
  unfold fIsE at e
  by_cases h : c ∈ ys
  · rw [if_pos h] at e; cases e; exact T.yes c h
  · rw [if_neg h] at e
    by_cases h2 : c ∈ ns
    · rw [if_pos h2] at e; cases e; exact T.no c h2
    · rw [if_neg h2] at e; cases e
theorem fIsT_ok {K : PySem.W.Frag} {cv : Value} {ys ns : List Str} {d : D} {b : Bool} (T : IsT K cv ys ns) (e : fIsT ys ns d = some b) : PySem.W.kitOne K (tyv K d) cv = some b := by
  cases d with
  | nd k ds =>
    cases k with
    | exc c fs => exact fIsE_ok T e
    | ins c fs => exact fIsE_ok T e
    | tup => cases e; exact T.oth .tup (by decide)
    | lst => cases e; exact T.oth .lst (by decide)
    | ll => cases e; exact T.oth .lst (by decide)
    | dic ks => cases e; exact T.oth .dic (by decide)
  | non => cases e; exact T.oth .non (by decide)
  | bl _ => cases e; exact T.oth .bl (by decide)
  | int _ => cases e; exact T.oth .int (by decide)
  | str _ => cases e; exact T.oth .str (by decide)
theorem c_isT {e ce : Expr} {v : V} {cv : Value} {ys ns : List Str} {m : M} {po : Pos} (T : IsT X.K cv ys ns) (hv : ClsV v cv) (hce : PE X ce (tC v)) (he : PE X e (tE X.K p m)) (hm : X.mg "isinstance" = none) (hg : Gl X "isinstance" := by rfl)
    (s1 : starEach (e :: [ce]) X.env = (false, eval e X.env) :: starEach [ce] X.env := by rfl) (s2 : starEach [ce] X.env = (false, eval ce X.env) :: starEach [] X.env := by rfl) (hpl : (backTo pos (starEach [ce] X.env)).any (·.1) = false := by rfl) :
    PE X (.Call (.Name "isinstance" po) [e, ce] [] pos) (tE X.K p (eIsT ys ns m)) :=
  peW (pe_callB call_isiD hg hm PyProof.Rows.boot_isinstance (pa_cons he (pa_cons hce pa_nil s2) s1) (he := s1) (hpl := hpl)) fun σ H Q h => by
    obtain ⟨B, ρ, F, S, a, ρ', e, k⟩ := h
    obtain ⟨⟨y, ρ1⟩, ea, e⟩ := ob e
    obtain ⟨d, ed, e⟩ := ob e
    obtain ⟨b, eb, e⟩ := ob e
    cases e
    refine ⟨B, ρ, F, S, y, ρ1, ea, fun w B1 H1 F1 E1 S1 A1 P1 => ?_⟩
    exact ⟨w, v, _, cv, b, rfl, hv, (tyv_of S1.bh (S1.deref A1 ed)).1, fIsT_ok T eb, k _ B1 H1 F1 E1 S1 rfl P1⟩
end
end DL

end

section
set_option Elab.async false
set_option linter.all false
set_option maxRecDepth 100000
set_option maxHeartbeats 400000
/-! EH: the head's hook where errors are. -/
namespace DL
open PySem PySem.Spec PySem.Calls PyProof.Rows L2

/-- a class as a clause or isinstance names it -/
abbrev CvJ : Type := Str ⊕ String
def cvJ (K : PySem.W.Frag) : CvJ → Value
  | .inl y => .ref (He.ga K y)
  | .inr t => .type t
/-- what the head is asked -/
structure HX where
  P : Program
  fr : List Str
  cs : List (Str × D)
  fn : List (Str × Stmt)
  es : List Str
  er : List (Str × Str × Str × Stmt)
  tabs : List (CvJ × List (Str × Bool))
  iss : List (CvJ × List Str × List Str)
  nas : List (Str × Str)
def tabB (K : PySem.W.Frag) (es : List Str) (t : CvJ × List (Str × Bool)) : Bool := t.2.all fun p => decide (PySem.W.exmOne K (.ref (He.ga K p.1)) (cvJ K t.1) = some p.2) && decide (p.1 ∈ es)
def issB (K : PySem.W.Frag) (t : CvJ × List Str × List Str) : Bool := (t.2.1.all fun c => decide (PySem.W.kitOne K (.ref (He.ga K c)) (cvJ K t.1) = some true)) && ((t.2.2.all fun c => decide (PySem.W.kitOne K (.ref (He.ga K c)) (cvJ K t.1) = some false)) &&
  (.non :: tgs).all fun g => decide (PySem.W.kitOne K (.type g.nm) (cvJ K t.1) = some false))
abbrev AlX : Type := Bool × List He.FnW × List InW
def obsX (h : HX) (K : PySem.W.Frag) : AlX :=
  ((h.fr.all fun x => (He.Fa.free x).ok K) && ((h.cs.all fun c => conB K c.1 c.2) && ((h.fn.all fun d => (He.Fa.glo d.1).ok K && (mkDef d).ok K) && ((h.es.all fun c => clsB K c) && ((h.er.all fun e => iniB h.P K e.1 e.2.1 e.2.2.1 && decide (e.1 ∈ h.es)) &&
    ((h.tabs.all fun t => tabB K h.es t) && ((h.iss.all fun t => issB K t) && h.nas.all fun t => He.eqO (PySem.W.findIn K (.ref (He.ga K t.1)) t.2) (some none))))))), h.fn.map fun d => He.fnW K (mkDef d).at_, h.er.map fun e => inW K e.1)
def valX (h : HX) : AlX := (true, h.fn.map fun d => (mkDef d).val, h.er.map fun e => inV e.2.2.1 e.2.2.2)
def SaysX (h : HX) (K : PySem.W.Frag) : Prop := obsX h K = valX h
def obsXG (n : Nat) (h : HX) (g : Addr → Option Obj) : AlX := obsX h (He.frG g (asJ g n))
def hookX (n : Nat) (h : HX) : PySem.W.Hook where
  α := AlX
  obs := fun s => obsXG n h s.heap.get?
  val := fun _ => valX h
  says := fun _ hp => ∃ K : PySem.W.Frag, K.In hp ∧ SaysX h K
  of := fun _ _ e => ⟨_, He.frG_in, e⟩
  keeps := fun _ _ _ ⟨K, hK, c⟩ k => ⟨K, PySem.W.Frag.In.keeps hK k, c⟩
theorem obsXG_eq {n : Nat} {h : HX} {g : Addr → Option Obj} {s : Shared} (e : ∀ a, g a = s.heap.get? a) : obsXG n h g = (hookX n h).obs s := by
  have e : g = s.heap.get? := funext e
  rw [e] <;> rfl
section
variable {h : HX} {K : PySem.W.Frag} {hp : Heap} {mg : Str → Option Value}
structure SaysX.Parts (h : HX) (K : PySem.W.Frag) : Prop where
  fr : (h.fr.all fun x => (He.Fa.free x).ok K) = true
  cs : (h.cs.all fun c => conB K c.1 c.2) = true
  fn : (h.fn.all fun d => (He.Fa.glo d.1).ok K && (mkDef d).ok K) = true
  es : (h.es.all fun c => clsB K c) = true
  er : (h.er.all fun e => iniB h.P K e.1 e.2.1 e.2.2.1 && decide (e.1 ∈ h.es)) = true
  tabs : (h.tabs.all fun t => tabB K h.es t) = true
  iss : (h.iss.all fun t => issB K t) = true
  nas : (h.nas.all fun t => He.eqO (PySem.W.findIn K (.ref (He.ga K t.1)) t.2) (some none)) = true
theorem SaysX.parts (c : SaysX h K) : SaysX.Parts h K := by
  obtain ⟨c1, c⟩ := He.ba (congrArg (fun z : AlX => z.1) c : _ = true)
  obtain ⟨c2, c⟩ := He.ba c
  obtain ⟨c3, c⟩ := He.ba c
  obtain ⟨c4, c⟩ := He.ba c
  obtain ⟨c5, c⟩ := He.ba c
  obtain ⟨c6, c⟩ := He.ba c
  obtain ⟨c7, c8⟩ := He.ba c
  exact ⟨c1, c2, c3, c4, c5, c6, c7, c8⟩
theorem SaysX.free (c : SaysX h K) (X : K.In hp) (G : hp.Ns mainGlobals mg) (i : Nat) {x : Str} (e : h.fr[i]? = some x := by rfl) : mg x = none := He.free_ok X G (List.all_eq_true.mp c.parts.fr x (List.mem_of_getElem? e))
theorem SaysX.con (c : SaysX h K) (X : K.In hp) (G : hp.Ns mainGlobals mg) (i : Nat) {x : Str} {d : D} (e : h.cs[i]? = some (x, d) := by rfl) : IsC K mg x d := by
  have h1 : conB K x d = true := List.all_eq_true.mp c.parts.cs (x, d) (List.mem_of_getElem? e)
  unfold conB at h1
  split at h1
  · rename_i u q
    obtain ⟨v, r, k⟩ := datB_ok h1
    exact ⟨u, v, PySem.W.mg_of X G q, r, k⟩
  · cases h1
theorem SaysX.fun_ (c : SaysX h K) (X : K.In hp) (G : hp.Ns mainGlobals mg) (i : Nat) {x : Str} {st : Stmt} (e : h.fn[i]? = some (x, st) := by rfl) : ∃ fd, FunD K x x (defArgs st) (defBody st) (defScope st) [] [] (He.ga K x) fd ∧ mg x = some (.ref (He.ga K x)) := by
  have h1 := He.ba (List.all_eq_true.mp c.parts.fn (x, st) (List.mem_of_getElem? e))
  have e1 : h.fn.map (fun d => He.fnW K (mkDef d).at_) = h.fn.map fun d => (mkDef d).val := congrArg (fun z : AlX => z.2.1) c
  have e2 : (h.fn.map fun d => He.fnW K (mkDef d).at_)[i]? = (h.fn.map fun d => (mkDef d).val)[i]? := by rw [e1]
  rw [List.getElem?_map, List.getElem?_map, e] at e2
  obtain ⟨fd, F⟩ := He.DefD.funD (Option.some.inj e2) h1.2
  exact ⟨fd, F, He.glo_ok X G h1.1⟩
theorem SaysX.def_ (c : SaysX h K) (X : K.In hp) (G : hp.Ns mainGlobals mg) (i : Nat) {x : Str} {st : Stmt} (e : h.fn[i]? = some (x, st) := by rfl) : IsDef K mg x st :=
  let ⟨fd, F, g⟩ := c.fun_ X G i e
  ⟨_, fd, F, g⟩
theorem SaysX.cls (c : SaysX h K) (X : K.In hp) (G : hp.Ns mainGlobals mg) {x : Str} (e : x ∈ h.es) : mg x = some (.ref (He.ga K x)) ∧ ErrC K (He.ga K x) := by
  obtain ⟨h1, h2⟩ := He.ba (show ((He.Fa.glo x).ok K && excB2 K (He.ga K x)) = true from List.all_eq_true.mp c.parts.es x e)
  exact ⟨He.glo_ok X G h1, excB2_ok h2⟩
theorem SaysX.made {P : Program} {w : World} {base : Heap} (c : SaysX h K) (hP : h.P = P) (X : K.In hp) (G : hp.Ns mainGlobals mg) (i : Nat) {x f q : Str} {st : Stmt} {ar : PySem.Arg} (e : h.er[i]? = some (x, f, q, st))
    (htop : (P.main.scope.names.lookup ("super" : Str)).isSome = false) (W : IniT f (defBody st) (defArgs st) (defScope st) ar q)
    (hbd : ∀ (kV doc pm : Value) (an : Option Addr) (cdv ct : Value) (cc : Addr) (us : List Value), us.length = 2 → bindArgs (PySem.W.ksFn "__init__" q (defArgs st) (defBody st) (defScope st) .none kV doc pm an cdv ct cc) ⟨us, []⟩ = pure (List.zip [("self" : Str), f] us)) :
    MadeC P w K mg base x f := by
  subst hP
  obtain ⟨h1, h2⟩ := He.ba (List.all_eq_true.mp c.parts.er (x, f, q, st) (List.mem_of_getElem? e))
  have e1 : h.er.map (fun e => inW K e.1) = h.er.map fun e => inV e.2.2.1 e.2.2.2 := congrArg (fun z : AlX => z.2.2) c
  have e2 : (h.er.map (fun e => inW K e.1))[i]? = (h.er.map fun e => inV e.2.2.1 e.2.2.2)[i]? := by rw [e1]
  rw [List.getElem?_map, List.getElem?_map, e] at e2
  obtain ⟨g, E⟩ := c.cls X G (of_decide_eq_true h2)
  exact ini_says X G g E h1 (Option.some.inj e2) htop W hbd
theorem SaysX.tab (c : SaysX h K) (X : K.In hp) (G : hp.Ns mainGlobals mg) (i : Nat) {y : CvJ} {t : List (Str × Bool)} (e : h.tabs[i]? = some (y, t) := by rfl) : TabOk K (cvJ K y) t := fun x b hl => by
  have h1 := List.all_eq_true.mp (show (t.all fun p => decide (PySem.W.exmOne K (.ref (He.ga K p.1)) (cvJ K y) = some p.2) && decide (p.1 ∈ h.es)) = true from List.all_eq_true.mp c.parts.tabs (y, t) (List.mem_of_getElem? e)) (x, b) (PySem.mem_of_lookup hl)
  obtain ⟨h1, h2⟩ := He.ba h1
  exact ⟨of_decide_eq_true h1, (c.cls X G (of_decide_eq_true h2)).2⟩
theorem SaysX.ist (c : SaysX h K) (i : Nat) {y : CvJ} {ys ns : List Str} (e : h.iss[i]? = some (y, ys, ns) := by rfl) : IsT K (cvJ K y) ys ns := by
  obtain ⟨h1, h⟩ := He.ba (show ((ys.all fun c => decide (PySem.W.kitOne K (.ref (He.ga K c)) (cvJ K y) = some true)) && ((ns.all fun c => decide (PySem.W.kitOne K (.ref (He.ga K c)) (cvJ K y) = some false)) && (.non :: tgs).all fun g => decide (PySem.W.kitOne K (.type g.nm) (cvJ K y) = some false))) = true from List.all_eq_true.mp c.parts.iss (y, ys, ns) (List.mem_of_getElem? e))
  obtain ⟨h2, h3⟩ := He.ba h
  refine ⟨fun c hc => of_decide_eq_true (List.all_eq_true.mp h1 c hc), fun c hc => of_decide_eq_true (List.all_eq_true.mp h2 c hc), fun t ht => ?_⟩
  exact of_decide_eq_true (List.all_eq_true.mp h3 t (by cases t <;> first | exact absurd rfl ht | decide))
theorem SaysX.nat (c : SaysX h K) {x f : Str} (e : (x, f) ∈ h.nas) : PySem.W.findIn K (.ref (He.ga K x)) f = some none := He.eqO_ok (List.all_eq_true.mp c.parts.nas (x, f) e)
end
end DL

end

section
set_option Elab.async false
set_option linter.all false
set_option maxRecDepth 100000
set_option maxHeartbeats 3200000
/-! SA: sets of keys of any scannable kind: what stands in them, put in, and gone through; sorted(set(texts)). -/
namespace SG
open PySem PySem.Spec PyProof.Rows L2
section
variable {P : Program} {w : World} {K : Type} [DecidableEq K] (kd : KeyKind P w K)
/-- two entries have no key in common -/
def Apart (d e : Int × Value) : Prop := ∀ k, kd.is k d.2 = true → kd.is k e.2 = true → False
theorem Apart.symm {d e : Int × Value} (h : Apart kd d e) : Apart kd e d := fun k a b => h k b a
/-- a table of such a kind -/
structure Tab (S : K → Bool) (n : Nat) (en : Array (Int × Value)) (tb : SetTable) : Prop where
  el : ElemsOf kd en.toList
  ap : en.toList.Pairwise (Apart kd)
  me : ∀ k, S k = true ↔ ∃ e ∈ en.toList, kd.is k e.2 = true
  bd : en.size < scanBound
  ft : tb.fits en.size = true
  sz : en.size = n
  rs : Ris tb.place.toList
  ld : w.params.followText "set-order" = true ∨ tb.led = true
def SetG (h : Heap) (a : Addr) (S : K → Bool) (n : Nat) : Prop := ∃ ob en ep tb, h.get? a = some ob ∧ ob.ExactSet ∧ ob.data = .set en ep tb ∧ Tab kd S n en tb
end
section
variable {P : Program} {w : World} {K : Type} [DecidableEq K] {kd : KeyKind P w K}
variable {A : Around} {E : Value → Shared → Prop} {s : Shared} {a : Addr} {S : K → Bool} {n : Nat}
theorem SetG.of {h : Heap} (g : SetG kd h a S n) : h.SetOf kd a S n := let ⟨ob, en, ep, tb, h1, h2, h3, z⟩ := g; ⟨ob, en, ep, tb, h1, h2, h3, z.el, z.me, z.bd, z.ft, z.sz⟩
theorem SetG.keep {h h' : Heap} (g : SetG kd h a S n) (k : ∀ o, h.get? a = some o → h'.get? a = some o) : SetG kd h' a S n := let ⟨ob, en, ep, tb, h1, z⟩ := g; ⟨ob, en, ep, tb, k ob h1, z⟩
theorem Tab.perm {en en' : Array (Int × Value)} {tb tb' : SetTable} (z : Tab kd S n en tb) (pm : en'.toList.Perm en.toList) (ft : tb'.fits en'.size = true) (rs : Ris tb'.place.toList) (ld : w.params.followText "set-order" = true ∨ tb'.led = true) : Tab kd S n en' tb' := by
  have e : en'.size = en.size := by rw [← Array.length_toList, pm.length_eq, Array.length_toList]
  refine ⟨fun d hd => z.el d (pm.mem_iff.mp hd), (pm.pairwise_iff fun h => Apart.symm kd h).mpr z.ap, fun k => (z.me k).trans ?_, by rw [e]; exact z.bd, ft, e.trans z.sz, rs, ld⟩
  exact ⟨fun ⟨d, h1, h2⟩ => ⟨d, pm.mem_iff.mpr h1, h2⟩, fun ⟨d, h1, h2⟩ => ⟨d, pm.mem_iff.mp h1, h2⟩⟩
theorem Tab.more {en en' : Array (Int × Value)} {tb tb' : SetTable} {x : Value} {k : K} (z : Tab kd S n en tb) (hk : kd.is k x = true) (hx : x.scannable = true) (hS : S k = false) (pm : en'.toList.Perm ((kd.hash k, x) :: en.toList)) (room : n + 1 < scanBound) (ft : tb'.fits en'.size = true) (rs : Ris tb'.place.toList) (ld : w.params.followText "set-order" = true ∨ tb'.led = true) :
    Tab kd (fun j => S j || decide (j = k)) (n + 1) en' tb' := by
  have e : en'.size = n + 1 := by rw [← Array.length_toList, pm.length_eq, List.length_cons, Array.length_toList, z.sz]
  have nk : ∀ d ∈ en.toList, ¬ kd.is k d.2 = true := fun d hd q => by
    rw [(z.me k).mpr ⟨d, hd, q⟩] at hS
    cases hS
  refine ⟨fun d hd => ?_, (pm.pairwise_iff fun h => Apart.symm kd h).mpr (List.pairwise_cons.mpr ⟨fun d hd j h1 h2 => ?_, z.ap⟩), fun j => ?_, by rw [e]; exact room, ft, e, rs, ld⟩
  · rcases List.mem_cons.mp (pm.mem_iff.mp hd) with q | q
    · subst q; exact ⟨⟨k, hk, rfl⟩, hx⟩
    · exact z.el d q
  · rw [kd.inj x j k h1 hk] at h2
    exact nk d hd h2
  · rw [Bool.or_eq_true, decide_eq_true_eq, z.me j]
    constructor
    · rintro (⟨d, h1, h2⟩ | rfl)
      · exact ⟨d, pm.mem_iff.mpr (List.mem_cons_of_mem _ h1), h2⟩
      · exact ⟨_, pm.mem_iff.mpr (List.mem_cons_self ..), hk⟩
    · rintro ⟨d, h1, h2⟩
      rcases List.mem_cons.mp (pm.mem_iff.mp h1) with q | q
      · subst q; exact .inr (kd.inj x j k h2 hk)
      · exact .inl ⟨d, q, h2⟩
/-- behind the search: the new table is stored, and laid anew if it is too full -/
theorem put_tail {g : Bool → Sem Unit} (hg : ∀ (b : Bool) (s1 : Shared) (R' : Unit → Shared → Prop), R' () s1 → wpAny (model P w) A (g b) R' E s1) {ob : Obj} {en : Array (Int × Value)} {ep : Nat} {tb : SetTable}
    (hob : s.heap.get? a = some ob) (hx : ob.ExactSet) (hdt : ob.data = .set en ep tb) {en1 : Array (Int × Value)} {tb1 : SetTable} (z : Tab kd S n en1 tb1) {wd : Bool} {R : Option Bool → Shared → Prop}
    (hR : ∀ h', Heap.SameBut a s.heap h' → SetG kd h' a S n → R (some true) { s with heap := h' }) :
    wpAny (model P w) A (do
        storeSet a en1 tb1
        if (!wd && tb1.tooFull) = true then do
            g (relayAll tb1 en1 (SetTable.grown en1.size)).2.2
            storeSet a (relayAll tb1 en1 (SetTable.grown en1.size)).1 (relayAll tb1 en1 (SetTable.grown en1.size)).2.1
            pure (some true)
          else pure (some true)) R E s := by
  refine wpAny_bind (wpAny_storeSet_of hob hdt ?_ (fits_of_scanBound z.bd))
  have hob1 := store_at (es' := en1) (t' := tb1) hob hdt
  have sb := Heap.SameBut.update s.heap a (Obj.putSet en1 tb1)
  split
  · have z2 := z.perm (relayAll_perm tb1 en1 (SetTable.grown en1.size)) (relayAll_fits tb1 en1 (SetTable.grown en1.size)) (relayAll_ris tb1 en1 (SetTable.grown en1.size)) (z.ld.imp id fun q => by rw [relayAll_led]; exact q)
    generalize relayAll tb1 en1 (SetTable.grown en1.size) = Y at z2 ⊢
    obtain ⟨en2, tb2, gv⟩ := Y
    refine wpAny_bind (hg _ _ _ (wpAny_bind (wpAny_storeSet_of hob1 rfl ?_ (fits_of_scanBound z2.bd))))
    exact wpAny_pure (hR _ (sb.trans (Heap.SameBut.update _ a _)) ⟨_, en2, _, tb2, store_at (es' := en2) (t' := tb2) hob1 rfl, hx, rfl, z2⟩)
  · exact wpAny_pure (hR _ sb ⟨_, en1, _, tb1, hob1, hx, rfl, z⟩)
theorem put_hashed {k : K} {x : Value} {Q : Bool → Shared → Prop} (g : SetG kd s.heap a S n) (hk : kd.is k x = true) (hx : x.scannable = true) (room : n + 1 < scanBound)
    (hQ : ∀ h', Heap.SameBut a s.heap h' → SetG kd h' a (fun j => S j || decide (j = k)) (if S k = true then n else n + 1) → Q (!S k) { s with heap := h' }) : wpAny (model P w) A (setAddHashed a x (kd.hash k)) Q E s := by
  obtain ⟨ob, en, ep, tb, hob, hex, hdt, z⟩ := g
  unfold setAddHashed setAddHashedIn; refine wpAny_holding (wpAny_bind (wpAny_setState_of hob hdt z.ft ?_))
  dsimp only
  rw [byScan_of hx z.bd z.el]
  simp only [↓reduceIte]
  unfold setAddByScan; refine wpAny_bind (wpAny_bind (wpAny_rule (wpAny_bind (wpAny_setScan_of hk hob hdt z.ft z.el ?_))))
  cases hfi : List.findIdx? (fun e => kd.is k e.2) en.toList with
  | some j =>
    dsimp only
    obtain ⟨hj, pj, _⟩ := List.findIdx?_eq_some_iff_getElem.mp hfi
    have hS : S k = true := (z.me k).mpr ⟨en.toList[j], List.getElem_mem hj, pj⟩
    have q := hQ s.heap (Heap.SameBut.refl a s.heap) ⟨ob, en, ep, tb, hob, hex, hdt, by
      rw [if_pos hS]
      have e : (fun j => S j || decide (j = k)) = S := funext fun j => by
        by_cases c : j = k
        · rw [c, hS]; rfl
        · rw [decide_eq_false c, Bool.or_false]
      rw [e]; exact z⟩
    rw [hS] at q
    exact wpAny_pure (wpAny_pure q)
  | none =>
    dsimp only
    have hS : S k = false := by
      cases q : S k with
      | false => rfl
      | true =>
        obtain ⟨e, he, c⟩ := (z.me k).mp q
        rw [List.findIdx?_eq_none_iff.mp hfi e he] at c
        cases c
    have hgv : ∀ (b : Bool) {s1 : Shared} {R' : Unit → Shared → Prop}, R' () s1 → wpAny (model P w) A (match b with | true => rule "set.scan.the-table-gave-way" | false => pure ()) R' E s1 := fun b s1 R' q => by
      cases b
      · exact wpAny_pure q
      · exact wpAny_rule q
    have pm := layNew_perm tb en (kd.hash k) x
    have hf1 := layNew_fits tb en (kd.hash k) x
    have hr1 := layNew_ris tb en (kd.hash k) x z.rs
    have hl1 := layNew_led tb en (kd.hash k) x
    generalize layNew tb en (kd.hash k) x = Y at pm hf1 hr1 hl1 ⊢
    obtain ⟨en1, tb1, wd, gv⟩ := Y
    dsimp only at pm hf1 hr1 hl1 ⊢
    rw [Array.toList_push] at pm
    have pc := pm.trans (List.perm_append_singleton (kd.hash k, x) en.toList)
    have hld : w.params.followText "set-order" = true ∨ tb1.led = true := z.ld.imp id fun q => by rw [hl1]; exact q
    have fin : ∀ h', Heap.SameBut a s.heap h' → SetG kd h' a (fun j => S j || decide (j = k)) (n + 1) → Q true { s with heap := h' } := fun h' sb r => by
      have q := hQ h' sb
      rw [hS] at q
      exact q r
    refine wpAny_bind (hgv _ ?_)
    split
    · refine wpAny_bind ?_
      rw [hashByValue_scannable 8 hx]
      refine wpAny_pure (put_tail ?_ hob hex hdt (z.more hk hx hS pc room ?_ ?_ ?_) ?_)
      · intro b s1 R' q; cases b <;> first | exact wpAny_pure q | exact wpAny_rule q
      · first | (split <;> first | exact hf1 | exact SetTable.fits_plain_off hf1) | exact hf1
      · first | (split <;> exact hr1) | exact hr1
      · first | (split <;> exact hld) | exact hld
      · intro h' sb r; dsimp only; exact wpAny_pure (fin h' sb r)
    · refine wpAny_bind (wpAny_pure ?_)
      simp only [↓reduceIte]
      refine put_tail ?_ hob hex hdt (z.more hk hx hS pc room hf1 hr1 hld) ?_
      · intro b s1 R' q; cases b <;> first | exact wpAny_pure q | exact wpAny_rule q
      · intro h' sb r; dsimp only; exact wpAny_pure (fin h' sb r)
theorem fresh_set {h : Heap} (ho : h.get? a = some { cls := .type "set", dict := none, data := .set #[] 0 (.fresh 0 0 (!w.params.followText "set-order")) }) : SetG kd h a (fun _ => false) 0 := by
  refine ⟨_, #[], 0, _, ho, ⟨rfl, rfl, rfl⟩, rfl, fun e he => ?_, List.Pairwise.nil, fun k => ?_, by decide, by rfl, rfl, List.Pairwise.nil, ?_⟩
  · simp at he
  · simp
  · show _ ∨ (!w.params.followText "set-order") = true
    cases w.params.followText "set-order"
    · exact .inr rfl
    · exact .inl rfl
end
end SG

end

section
set_option Elab.async false
set_option linter.all false
set_option maxRecDepth 100000
set_option maxHeartbeats 3200000
/-! SB: set(list of texts), sorted of such a set. -/
namespace SG
open PySem PySem.Spec PyProof.Rows L2
section
variable {P : Program} {w : World} {A : Around} {E : Value → Shared → Prop} {s : Shared}
/-- the set of the texts of xs -/
abbrev SetX (P : Program) (w : World) (h : Heap) (a : Addr) (xs : List Str) (n : Nat) : Prop := SetG (strKind P w) h a (fun j => decide (j ∈ xs)) n
abbrev eset (w : World) : Obj := { cls := .type "set", dict := none, data := .set #[] 0 (.fresh 0 0 (!w.params.followText "set-order")) }
theorem str_scan {k : Str} {v : Value} (h : (strKind P w).is k v = true) : v.scannable = true := by
  cases v <;> first | rfl | cases h
theorem upd_strs {I : Addr} {fp wr : List Addr} {G : Array GenState → Array GenState → Prop} {n : Nat} {Pv : Nat → Value → Prop} {St : Nat → Shared → Prop} {R : Result → Shared → Prop}
    (W : WalksS P w A.in1 I fp wr G n Pv St) (T : Addr) (hT : T ∉ fp) (xs : List Str) (hn : n = xs.length) (few : xs.length + 1 < scanBound) (hv : ∀ i v, Pv i v → ∃ x t, xs[i]? = some x ∧ v = .str x t) :
    ∀ (k i : Nat) (s : Shared), n - i = k → i ≤ n → St i s → (∃ m, SetX P w s.heap T (xs.take i) m ∧ m ≤ i) →
      (∀ s' m, Moved (T :: wr) G s s' → SetX P w s'.heap T xs m → m ≤ n → R (.ok (.ret .none)) s') → codeAny (model P w) A (.builtin "set.update.loop" ⟨[.ref T, .ref I], []⟩) R s := by
  have hTw : T ∉ wr := fun z => hT (W.sub _ z)
  have sub : ∀ b ∈ wr, b ∈ T :: wr := fun b z => List.mem_cons_of_mem _ z
  intro k
  induction k with
  | zero =>
    intro i s hk hi hst ⟨m, g, hm⟩ hR
    obtain rfl : i = n := by omega
    refine codeAny_builtin F.entry_set_update_loop ?_; rw [Around.under_plainId F.plain_set_update_loop _]
    refine wpAny_bind (m := pyNext (.ref I)) (W.done s _ _ hst fun s' mv => ?_)
    refine wpAny_pure (hR s' m (mv.mono sub) ?_ hm)
    rw [hn, List.take_length] at g
    exact g.keep fun o e => mv.heap T o hTw e
  | succ k ih =>
    intro i s hk hi hst ⟨m, g, hm⟩ hR
    have hlt : i < n := by omega
    refine codeAny_builtin F.entry_set_update_loop ?_; rw [Around.under_plainId F.plain_set_update_loop _]
    refine wpAny_bind (m := pyNext (.ref I)) (W.item i s _ _ hlt hst fun v s' hP hst' mv => ?_)
    obtain ⟨x, t, hx, rfl⟩ := hv i v hP
    have g' := g.keep fun o e => mv.heap T o hTw e
    have his := strKind_is P w x t
    show wpAny _ A.in1 (holding [Value.str x t] (setAdd T (.str x t)) >>= _) _ _ s'
    refine wpAny_bind (wpAny_holding ?_)
    unfold setAdd
    refine wpAny_holding (wpAny_bind ((strKind P w).pyHash his (put_hashed (s := { s' with toks := s'.toks + 1 }) g' his (str_scan his) (by omega) fun h' sb g2 => ?_)))
    have e : (fun j => decide (j ∈ xs.take i) || decide (j = x)) = fun j => decide (j ∈ xs.take (i + 1)) := funext fun j => by
      rw [take_next hx, Bool.eq_iff_iff]
      simp
    rw [e] at g2
    refine wpAny_pure ⟨plainId_quiet F.plain_set_update_loop _, ih (i + 1) _ (by omega) hlt (W.frame _ s' _ _ hst' (Nat.le_add_right _ _) fun b hb o e => ?_) ⟨_, g2, ?_⟩ fun s2 m2 mv2 g3 hm3 => ?_⟩
    · rw [sb.2 b (fun z : b = T => hT (z ▸ hb))]; exact e
    · split <;> omega
    · refine hR s2 m2 (Moved.trans W.gtrans ((mv.mono sub).then_heap (Nat.le_add_right _ _) fun b o hb e => ?_) mv2) g3 hm3
      rw [sb.2 b (fun z : b = T => hb (z ▸ List.mem_cons_self ..))]; exact e
set_option maxRecDepth 100000 in
/-- set(xs), xs a list of texts -/
theorem set_of_list {l : Addr} {items : Array Value} {xs : List Str} {Q : Value → Shared → Prop} (hh : A.handled = none) (hl : s.heap.IsList l items) (hit : StrsAre items.toList xs) (few : xs.length + 1 < scanBound)
    (h : ∀ (h' : Heap) (tk m : Nat), SetX P w h' s.heap.objs.size xs m → m ≤ xs.length → (∀ b o, s.heap.get? b = some o → h'.get? b = some o) → Q (.ref s.heap.objs.size) { s with heap := h', toks := tk }) :
    wpAny (model P w) A (call (.type "set") [.ref l]) Q E s := by
  have hsz : items.size = xs.length := by
    have q := hit.length
    rw [Array.length_toList] at q
    exact q
  obtain ⟨c, tl, hmro⟩ := F.called_set.mro
  have made := F.called_set.made; have subs := F.called_set.sub
  refine wpAny_call (codeAny_of_tree ?_)
  show wpAny _ _ (callAny (.type "set") _) _ _ _
  refine wpAny_pure ⟨Code.quiet_builtin _ (by decide +kernel), codeAny_builtin F.entry_type_call ?_⟩; rw [Around.under_plain (weight_type_call_type "set" [.ref l] []) rfl]
  have n1 := F.called_set.notType; have n2 := F.called_set.canCreate; have n3 := F.typeCall_set_1 (.ref l)
  repeat (any_goals (first | assumption | wp_step))
  refine codeAny_mono (code_set_led1 (.ref l) (E := E) (Q₁ := fun b s1 => b = .ref s.heap.objs.size ∧ s1 = { s with heap := s.heap.push (eset w) }) ⟨rfl, rfl⟩) fun r s1 hr => ?_
  cases r with
  | error e => exact hr
  | ok fl =>
    cases fl with
    | ret b =>
      obtain ⟨rfl, rfl⟩ := hr
      have hS : (s.heap.push (eset w)).get? s.heap.objs.size = some (eset w) := Heap.get?_push_size _ rfl
      have hT : Shared.TypeIs { s with heap := s.heap.push (eset w) } (.ref s.heap.objs.size) "set" := ⟨_, hS, rfl⟩
      have il := F.called_set.init.lookup; have ib := F.called_set.init.bind (.ref s.heap.objs.size)
      repeat (any_goals (first | assumption | wp_step))
      refine codeAny_mono (codeAny_call_builtin (R := wants (fun r s2 => r = .none ∧ ∃ h' tk m, s2 = { s with heap := h', toks := tk } ∧ SetX P w h' s.heap.objs.size xs m ∧ m ≤ xs.length ∧ (∀ b o, s.heap.get? b = some o → h'.get? b = some o)) E)
        F.called_set.init.plain F.entry_set_init (check_set_init_1 hT ?_)) fun r2 s2 hr2 => ?_
      · obtain ⟨ol, hol, hcl, nl, hdl⟩ := hl
        obtain ⟨oc, od, oda, os⟩ := ol
        simp only at hcl hdl
        subst hcl; subst hdl
        have hol' : (s.heap.push (eset w)).get? l = some { cls := .type "list", dict := od, data := .seq items nl, slots := os } := Heap.get?_push_of_some _ hol
        have s1 := F.sub_list_set; have s2 := F.sub_list_frozenset
        have ne : (Value.type "list" == Value.type "dict") = false := by decide
        have hl1 : (s.heap.push (eset w)).IsList l items := ⟨_, hol', rfl, nl, rfl⟩
        unfold Builtin.«set.__init__» noKeywords Builtin.Frozenset.updateFrom; generalize hPI : pyIter = PI
        wp_walk
        subst hPI
        refine wpAny_pyIter_list hl1 (wpAny_bind (wpAny_runValue ?_))
        have hlt : l < s.heap.objs.size := Heap.lt_size hol
        have h3 : A.in1.in1.in1.handled = none := by simp [hh]
        have hneI : l ≠ (s.heap.push (eset w)).objs.size := by
          rw [Heap.size_push]; exact Nat.ne_of_lt (Nat.lt_succ_of_lt hlt)
        have hSf : s.heap.objs.size ∉ [(s.heap.push (eset w)).objs.size, l] := by
          rw [Heap.size_push]; simp only [List.mem_cons, List.not_mem_nil, or_false, not_or]
          exact ⟨Nat.ne_of_lt (Nat.lt_succ_self _), Nat.ne_of_gt hlt⟩
        have hv : ∀ (i : Nat) (v : Value), items[i]? = some v → ∃ x t, xs[i]? = some x ∧ v = .str x t := fun i v q => by
          have hi : i < xs.length := by
            rw [← hsz]
            exact (Array.getElem?_eq_some_iff.mp q).1
          obtain ⟨t, ht⟩ := SS.strs_at hit i v (by rw [Array.getElem?_toList]; exact q)
          exact ⟨xs[i], t, List.getElem?_eq_getElem hi, by rw [ht, List.getD_eq_getElem?_getD, List.getElem?_eq_getElem hi]; rfl⟩
        refine upd_strs ((Walks.list h3 _ l hneI items).toS) s.heap.objs.size hSf xs hsz few hv (items.size - 0) 0 _ (by omega) (Nat.zero_le _) ⟨⟨_, Heap.get?_push_size _ rfl, rfl, rfl⟩, (hl1.push _)⟩ ⟨0, ?_, Nat.le_refl _⟩ fun s' m mv g hm => ?_
        · have q : ((s.heap.push (eset w)).push { cls := .type "list_iterator", data := .fields #[.ref l, .int 0 0] }).get? s.heap.objs.size = some (eset w) := Heap.get?_push_of_some _ hS
          have f := fresh_set (kd := strKind P w) q
          have e : (fun j : Str => decide (j ∈ xs.take 0)) = fun _ => false := funext fun j => by simp
          show SetG _ _ _ (fun j : Str => decide (j ∈ xs.take 0)) 0
          rw [e]; exact f
        · obtain ⟨h', g2, d2, tk, o2⟩ := s'
          have e1 : g2 = s.gens := mv.gens
          have e2 : d2 = s.drawn := mv.drawn
          have e3 : o2 = s.os := mv.os
          subst e1; subst e2; subst e3
          refine wpAny_pure (wpAny_pure ⟨rfl, h', tk, m, rfl, g, by rw [← hsz]; exact hm, fun b o e => ?_⟩)
          have hb : b < s.heap.objs.size := Heap.lt_size e
          refine mv.heap b o (fun z => ?_) (Heap.get?_push_of_some _ (Heap.get?_push_of_some _ e))
          rcases List.mem_cons.mp z with z | z
          · exact absurd hb (by rw [z]; exact Nat.lt_irrefl _)
          · rw [List.mem_singleton.mp z, Heap.size_push] at hb
            exact absurd hb (Nat.not_lt.mpr (Nat.le_succ _))
      · cases r2 with
        | error e => exact hr2
        | ok fl2 =>
          cases fl2 with
          | ret r =>
            obtain ⟨rfl, h', tk, m, rfl, g, hm, hk⟩ := hr2
            repeat (any_goals (first | assumption | wp_step))
            exact h _ _ _ g hm hk
          | _ => exact hr2.elim
    | _ => exact hr.elim
/-! ### sorted of such a set -/
theorem str_val {k : Str} {v : Value} (h : (PySem.strKind P w).is k v = true) : ∃ t, v = .str k t := by
  cases v <;> first
    | (cases h; done)
    | skip
  rename_i x t
  have e : x = k := by
    have q := (PySem.strKind P w).inj (.str x t) x k (strKind_is P w x t) h
    exact q
  exact ⟨t, by rw [e]⟩
theorem rise_pw : ∀ (l : List Str) (p : Str), risingS p l = true → ∀ y ∈ l, ¬ y.cps.toList < p.cps.toList
  | [], _, _, _, hy => nomatch hy
  | x :: r, p, h, y, hy => by
    have h : (!ltCps x.cps.toList p.cps.toList && risingS x r) = true := h
    rw [Bool.and_eq_true, ltCps_eq, Bool.not_eq_true', decide_eq_false_iff_not] at h
    rcases List.mem_cons.mp hy with rfl | hy
    · exact h.1
    · exact List.not_lt.mpr (List.le_trans (List.not_lt.mp h.1) (List.not_lt.mp (rise_pw r x h.2 y hy)))
theorem rise_all : ∀ (l : List Str), sortedS l = true → l.Nodup → l.Pairwise fun x y => x.cps.toList < y.cps.toList
  | [], _, _ => .nil
  | x :: r, h, nd => by
    have nd := List.nodup_cons.mp nd
    refine List.pairwise_cons.mpr ⟨fun y hy => ?_, rise_all r ?_ nd.2⟩
    · have h1 := rise_pw r x h y hy
      have h2 : x.cps.toList ≠ y.cps.toList := fun e => nd.1 (by
        have : x = y := by
          cases x; cases y
          congr
          exact Array.toList_inj.mp e
        rw [this]; exact hy)
      exact Classical.byContradiction fun z => h2 (List.le_antisymm (List.not_lt.mp h1) (List.not_lt.mp z))
    · cases r with
      | nil => rfl
      | cons y r => exact (Bool.and_eq_true_iff.mp (show (!ltCps y.cps.toList x.cps.toList && risingS y r) = true from h)).2
theorem sorted_setX {a : Addr} {xs : List Str} {m : Nat} {Q : Value → Shared → Prop} (g : SetX P w s.heap a xs m) (hh : A.handled = none) (hm : m ≤ sizeLine)
    (hQ : ∀ s' p (out : Array Value) (c : Nat) (ys : List Str), (∀ b o, s.heap.get? b = some o → s'.heap.get? b = some o) → s'.gens = s.gens → s'.os = s.os → s.heap.objs.size ≤ p → s'.heap.get? p = some (seqObj "list" out c) →
      StrsAre out.toList ys → ys.Pairwise (fun x y => x.cps.toList < y.cps.toList) → (∀ y, y ∈ ys ↔ y ∈ xs) → ys.length = m → Q (.ref p) s') : wpAny (model P w) A (call (.builtin "sorted") [.ref a]) Q E s := by
  obtain ⟨ob, en, ep, tb, hob, hex, hdt, z⟩ := g
  refine Calls.call_function_entry kind_sorted plain_sorted entry_sorted (args_sorted1 _) ?_; unfold Builtin.«sorted»
  refine wpAny_bind (m := checkCount "sorted" 1 1 _) (wpAny_pure (wpAny_bind (collect_set (A := A.in1) hh ⟨ob, hob, hex.1, hdt⟩ z.ft z.bd z.rs z.ld fun s1 vs k1 hz g1 o1 pm => ?_)))
  have lv : vs.length = m := by rw [pm.length_eq, List.length_map, Array.length_toList]; exact z.sz
  have allS : ∀ v ∈ vs, ∃ x t, v = Value.str x t := fun v hv => by
    obtain ⟨e, he, q⟩ := List.mem_map.mp (pm.mem_iff.mp hv)
    obtain ⟨⟨k, hk, _⟩, _⟩ := z.el e he
    obtain ⟨t, q2⟩ := str_val hk
    exact ⟨k, t, q.symm.trans q2⟩
  have hS := strsAre_map vs allS
  have keyed : (vs.map strOf).Perm (en.toList.map fun e => strOf e.2) := by
    have q := pm.map strOf
    rwa [List.map_map] at q
  have nd : (en.toList.map fun e => strOf e.2).Nodup := by
    rw [List.Nodup, List.pairwise_map]
    refine z.ap.imp_of_mem fun {d e} hd he ap q => ?_
    obtain ⟨⟨k, hk, _⟩, _⟩ := z.el d hd
    obtain ⟨⟨j, hj, _⟩, _⟩ := z.el e he
    obtain ⟨t, e1⟩ := str_val hk
    obtain ⟨u, e2⟩ := str_val hj
    have : k = j := by
      have q : strOf d.2 = strOf e.2 := q
      rw [e1, e2] at q
      exact q
    rw [← this] at hj
    exact ap k hk hj
  have mem : ∀ y, y ∈ en.toList.map (fun e => strOf e.2) ↔ y ∈ xs := fun y => by
    rw [List.mem_map]
    constructor
    · rintro ⟨e, he, rfl⟩
      obtain ⟨⟨k, hk, _⟩, _⟩ := z.el e he
      obtain ⟨t, e1⟩ := str_val hk
      have := (z.me k).mpr ⟨e, he, hk⟩
      rw [show strOf e.2 = k by rw [e1]; rfl]
      exact of_decide_eq_true this
    · intro hy
      obtain ⟨e, he, hk⟩ := (z.me y).mp (decide_eq_true hy)
      obtain ⟨t, e1⟩ := str_val hk
      exact ⟨e, he, by rw [e1]; rfl⟩
  refine wpAny_bind (wpAny_newList ?_ (by rw [lv]; exact hm))
  have hoL : (s1.heap.push (seqObj "list" vs.toArray 0)).get? s1.heap.objs.size = some (seqObj "list" vs.toArray 0) := Heap.get?_push_size _ rfl
  refine wpAny_bind (wpAny_holding (wpAny_call_entry slot_list_sort ⟨_, hoL, rfl⟩ entry_list_sort (list_sort_treeKAny strKind_oneLt hoL hS.keysOf (fun v1 v2 r e => keyKind_strs (by rw [← e]; exact hS)) (by rw [lv]; exact hm) fun st hp hs => ⟨_, rfl, ?_⟩) (args_list_sort _)))
  obtain ⟨ys, y1, y2, y3⟩ := sorted_out_str hS hp hs
  generalize (arrOf st).map (·.2) = out at y1 ⊢
  obtain ⟨c, hc⟩ := sortedHeap_at (vs := vs) (out := out) hoL
  have py := y2.trans keyed
  refine wpAny_pure ⟨_, rfl, hQ _ s1.heap.objs.size out c ys (fun b u e => ?_) g1 o1 hz hc y1 (rise_all ys y3 (py.nodup_iff.mpr nd)) (fun y => py.mem_iff.trans (mem y)) (by rw [y2.length_eq, List.length_map]; exact lv)⟩
  have lt := Heap.lt_size (k1 b u e)
  show (sortedHeap (s1.heap.push (seqObj "list" vs.toArray 0)) s1.heap.objs.size vs out).get? b = some u
  rw [sortedHeap_old (Nat.ne_of_lt lt) (by rw [size_push']; exact Nat.lt_succ_of_lt lt)]; exact Heap.get?_push_of_some _ (k1 b u e)
end
end SG

end

section
set_option Elab.async false
set_option linter.all false
set_option maxRecDepth 100000
set_option maxHeartbeats 3200000
/-! SC: set(tuple of texts). -/
namespace SG
open PySem PySem.Spec PyProof.Rows L2
section
variable {P : Program} {w : World} {A : Around} {E : Value → Shared → Prop} {s : Shared}
set_option maxRecDepth 100000 in
/-- set(xs), xs a tuple of texts -/
theorem set_of_tuple {l : Addr} {items : Array Value} {xs : List Str} {Q : Value → Shared → Prop} (hh : A.handled = none) (hl : s.heap.IsTuple l items) (hit : StrsAre items.toList xs) (few : xs.length + 1 < scanBound)
    (h : ∀ (h' : Heap) (tk m : Nat), SetX P w h' s.heap.objs.size xs m → m ≤ xs.length → (∀ b o, s.heap.get? b = some o → h'.get? b = some o) → Q (.ref s.heap.objs.size) { s with heap := h', toks := tk }) :
    wpAny (model P w) A (call (.type "set") [.ref l]) Q E s := by
  have hsz : items.size = xs.length := by
    have q := hit.length
    rw [Array.length_toList] at q
    exact q
  obtain ⟨c, tl, hmro⟩ := F.called_set.mro
  have made := F.called_set.made; have subs := F.called_set.sub
  refine wpAny_call (codeAny_of_tree ?_)
  show wpAny _ _ (callAny (.type "set") _) _ _ _
  refine wpAny_pure ⟨Code.quiet_builtin _ (by decide +kernel), codeAny_builtin F.entry_type_call ?_⟩; rw [Around.under_plain (weight_type_call_type "set" [.ref l] []) rfl]
  have n1 := F.called_set.notType; have n2 := F.called_set.canCreate; have n3 := F.typeCall_set_1 (.ref l)
  repeat (any_goals (first | assumption | wp_step))
  refine codeAny_mono (code_set_led1 (.ref l) (E := E) (Q₁ := fun b s1 => b = .ref s.heap.objs.size ∧ s1 = { s with heap := s.heap.push (eset w) }) ⟨rfl, rfl⟩) fun r s1 hr => ?_
  cases r with
  | error e => exact hr
  | ok fl =>
    cases fl with
    | ret b =>
      obtain ⟨rfl, rfl⟩ := hr
      have hS : (s.heap.push (eset w)).get? s.heap.objs.size = some (eset w) := Heap.get?_push_size _ rfl
      have hT : Shared.TypeIs { s with heap := s.heap.push (eset w) } (.ref s.heap.objs.size) "set" := ⟨_, hS, rfl⟩
      have il := F.called_set.init.lookup; have ib := F.called_set.init.bind (.ref s.heap.objs.size)
      repeat (any_goals (first | assumption | wp_step))
      refine codeAny_mono (codeAny_call_builtin (R := wants (fun r s2 => r = .none ∧ ∃ h' tk m, s2 = { s with heap := h', toks := tk } ∧ SetX P w h' s.heap.objs.size xs m ∧ m ≤ xs.length ∧ (∀ b o, s.heap.get? b = some o → h'.get? b = some o)) E)
        F.called_set.init.plain F.entry_set_init (check_set_init_1 hT ?_)) fun r2 s2 hr2 => ?_
      · obtain ⟨ol, hol, hcl, nl, hdl⟩ := hl
        obtain ⟨oc, od, oda, os⟩ := ol
        simp only at hcl hdl
        subst hcl; subst hdl
        have hol' : (s.heap.push (eset w)).get? l = some { cls := .type "tuple", dict := od, data := .seq items nl, slots := os } := Heap.get?_push_of_some _ hol
        have s1 := F.sub_tuple_set; have s2 := F.sub_tuple_frozenset
        have ne : (Value.type "tuple" == Value.type "dict") = false := by decide
        have hl1 : (s.heap.push (eset w)).IsTuple l items := ⟨_, hol', rfl, nl, rfl⟩
        unfold Builtin.«set.__init__» noKeywords Builtin.Frozenset.updateFrom; generalize hPI : pyIter = PI
        wp_walk
        subst hPI
        refine wpAny_pyIter_tuple hl1 (wpAny_bind (wpAny_runValue ?_))
        have hlt : l < s.heap.objs.size := Heap.lt_size hol
        have h3 : A.in1.in1.in1.handled = none := by simp [hh]
        have hneI : l ≠ (s.heap.push (eset w)).objs.size := by
          rw [Heap.size_push]; exact Nat.ne_of_lt (Nat.lt_succ_of_lt hlt)
        have hSf : s.heap.objs.size ∉ [(s.heap.push (eset w)).objs.size, l] := by
          rw [Heap.size_push]; simp only [List.mem_cons, List.not_mem_nil, or_false, not_or]
          exact ⟨Nat.ne_of_lt (Nat.lt_succ_self _), Nat.ne_of_gt hlt⟩
        have hv : ∀ (i : Nat) (v : Value), items[i]? = some v → ∃ x t, xs[i]? = some x ∧ v = .str x t := fun i v q => by
          have hi : i < xs.length := by
            rw [← hsz]
            exact (Array.getElem?_eq_some_iff.mp q).1
          obtain ⟨t, ht⟩ := SS.strs_at hit i v (by rw [Array.getElem?_toList]; exact q)
          exact ⟨xs[i], t, List.getElem?_eq_getElem hi, by rw [ht, List.getD_eq_getElem?_getD, List.getElem?_eq_getElem hi]; rfl⟩
        refine upd_strs ((Walks.tuple h3 _ l hneI items).toS) s.heap.objs.size hSf xs hsz few hv (items.size - 0) 0 _ (by omega) (Nat.zero_le _) ⟨⟨_, Heap.get?_push_size _ rfl, rfl, rfl⟩, (hl1.push _)⟩ ⟨0, ?_, Nat.le_refl _⟩ fun s' m mv g hm => ?_
        · have q : ((s.heap.push (eset w)).push { cls := .type "tuple_iterator", data := .fields #[.ref l, .int 0 0] }).get? s.heap.objs.size = some (eset w) := Heap.get?_push_of_some _ hS
          have f := fresh_set (kd := strKind P w) q
          have e : (fun j : Str => decide (j ∈ xs.take 0)) = fun _ => false := funext fun j => by simp
          show SetG _ _ _ (fun j : Str => decide (j ∈ xs.take 0)) 0
          rw [e]; exact f
        · obtain ⟨h', g2, d2, tk, o2⟩ := s'
          have e1 : g2 = s.gens := mv.gens
          have e2 : d2 = s.drawn := mv.drawn
          have e3 : o2 = s.os := mv.os
          subst e1; subst e2; subst e3
          refine wpAny_pure (wpAny_pure ⟨rfl, h', tk, m, rfl, g, by rw [← hsz]; exact hm, fun b o e => ?_⟩)
          have hb : b < s.heap.objs.size := Heap.lt_size e
          refine mv.heap b o (fun z => ?_) (Heap.get?_push_of_some _ (Heap.get?_push_of_some _ e))
          rcases List.mem_cons.mp z with z | z
          · exact absurd hb (by rw [z]; exact Nat.lt_irrefl _)
          · rw [List.mem_singleton.mp z, Heap.size_push] at hb
            exact absurd hb (Nat.not_lt.mpr (Nat.le_succ _))
      · cases r2 with
        | error e => exact hr2
        | ok fl2 =>
          cases fl2 with
          | ret r =>
            obtain ⟨rfl, h', tk, m, rfl, g, hm, hk⟩ := hr2
            repeat (any_goals (first | assumption | wp_step))
            exact h _ _ _ g hm hk
          | _ => exact hr2.elim
    | _ => exact hr.elim
end
end SG

end

section
set_option Elab.async false
set_option linter.all false
set_option maxRecDepth 100000
set_option maxHeartbeats 2000000
/-! ES: sorted(set(list of texts)) over the layer. -/
namespace DL
open PySem L2 PyProof.Rows
def SetXO (P : Program) (w : World) (a : Addr) (xs : List Str) (m : Nat) : HO := .ext fun h => SG.SetX P w h a xs m
theorem setXO_new {P : Program} {w : World} {H : Hp} {h : Heap} {a : Addr} {xs : List Str} {m : Nat} (g : SG.SetX P w h a xs m) : ObjOk P w H h a (SetXO P w a xs m) := by
  have ⟨o, _, _, _, ho, _⟩ := g
  exact ⟨g, ⟨o, ho⟩, fun h1 h2 p k => SG.SetG.keep p k⟩
/-- set(xs), xs a list of texts -/
def rSetS (K : PySem.W.Frag) (P : Program) (w : World) : List V → Hp → VK → Prop := fun vs H Q => ∃ (l : Addr) (xs : List Str), vs = [V.ref l] ∧ (SqL K H l (xs.map V.str) ∨ SqT K H l (xs.map V.str)) ∧ xs.length + 1 < scanBound ∧ ∀ c m, m ≤ xs.length → H c = none → Q (.ref c) (upd H c (SetXO P w c xs m))
section
variable {X : Cx}
theorem cr_setS (hc : X.calm = true) : CallR X (.type "set") (rSetS X.K X.prog X.w) := by
  intro pins s σ H vs us Q I r h
  obtain ⟨l, xs, rfl, hl, few, q⟩ := h
  rw [Vals.ref1 r]
  rcases hl with hl | hl
  case inr =>
    obtain ⟨its, rv, pl, hz⟩ := I.tuple hl
    refine SG.set_of_tuple (P := X.prog) (w := X.w) (I.ok.hd hc) pl (by simpa using rv.strs) few fun h' tk m g hm k => ?_
    exact ⟨.ref s.heap.objs.size, upd H s.heap.objs.size (SetXO X.prog X.w s.heap.objs.size xs m), I.laid (t' := tk) k (Nat.le_refl _) (setXO_new g), rfl, q _ m hm (I.hok.fresh (Nat.le_refl _))⟩
  obtain ⟨its, rv, pl, hz⟩ := I.list hl
  refine SG.set_of_list (P := X.prog) (w := X.w) (I.ok.hd hc) pl.isList (by simpa using rv.strs) few fun h' tk m g hm k => ?_
  exact ⟨.ref s.heap.objs.size, upd H s.heap.objs.size (SetXO X.prog X.w s.heap.objs.size xs m), I.laid (t' := tk) k (Nat.le_refl _) (setXO_new g), rfl, q _ m hm (I.hok.fresh (Nat.le_refl _))⟩
/-- sorted of such a set -/
def rSortX (P : Program) (w : World) : List V → Hp → VK → Prop := fun vs H Q => ∃ (a : Addr) (xs : List Str) (m : Nat), vs = [V.ref a] ∧ H a = some (SetXO P w a xs m) ∧ m ≤ sizeLine ∧
  ∀ (ys : List Str) (p : Addr), ys.Pairwise (fun x y => x.cps.toList < y.cps.toList) → (∀ y, y ∈ ys ↔ y ∈ xs) → ys.length = m → H p = none → Q (.ref p) (upd H p (.lst (ys.map V.str)))
theorem cr_sortX (hc : X.calm = true) : CallR X (.builtin "sorted") (rSortX X.prog X.w) := by
  intro pins s σ H vs us Q I r h
  obtain ⟨a, xs, m, rfl, ha, hm, q⟩ := h
  have g : SG.SetX X.prog X.w s.heap a xs m := (I.hok a _ ha).1
  rw [Vals.ref1 r]
  refine SG.sorted_setX g (I.ok.hd hc) hm fun s' p out c ys k e1 e2 hp hg hy pw mem ln => ?_
  have hlen : (ys.map V.str).length ≤ sizeLine := by rw [List.length_map, ln]; exact hm
  have hn : H p = none := I.hok.fresh hp
  have J : Inv X pins σ (upd H p (.lst (ys.map V.str))) { s with heap := s'.heap, gens := s'.gens, drawn := s'.drawn, toks := s'.toks } := I.call (ch := []) (Un.laid k hp hn) (I.hok.laid k hp ⟨hlen, out.toList, c, vals_of_strs hy, hg⟩) (by rw [e1]; exact I.bare) (fun _ z => nomatch z)
  have e : s' = { s with heap := s'.heap, gens := s'.gens, drawn := s'.drawn, toks := s'.toks } := by cases s'; cases s; cases e2; rfl
  rw [e]
  exact ⟨.ref p, _, J, rfl, q ys p pw mem ln hn⟩
theorem CallR.alt {f : Value} {r r' : List V → Hp → VK → Prop} (h : CallR X f r) (h' : CallR X f r') : CallR X f (fun vs H Q => r vs H Q ∨ r' vs H Q) := fun pins s σ H vs us Q I rv z => z.elim (fun z => h pins s σ H vs us Q I rv z) fun z => h' pins s σ H vs us Q I rv z
end
/-! ### the pure side -/
def insN (k : List Nat) : List (List Nat) → List (List Nat)
  | [] => [k]
  | x :: r => if k < x then k :: x :: r else if k = x then x :: r else x :: insN k r
def sortN (xs : List (List Nat)) : List (List Nat) := xs.foldr insN []
theorem insN_mem (k : List Nat) : ∀ (l : List (List Nat)) (y : List Nat), y ∈ insN k l ↔ y = k ∨ y ∈ l
  | [], y => by simp [insN]
  | x :: r, y => by
    unfold insN
    split
    · simp
    · split
      · rename_i e; subst e; simp
      · rw [List.mem_cons, insN_mem k r y, List.mem_cons]
        constructor
        · rintro (h | h | h) <;> simp [h]
        · rintro (h | h | h) <;> simp [h]
theorem insN_asc (k : List Nat) : ∀ (l : List (List Nat)), l.Pairwise (· < ·) → (insN k l).Pairwise (· < ·)
  | [], _ => List.pairwise_singleton _ _
  | x :: r, h => by
    obtain ⟨h1, h2⟩ := List.pairwise_cons.mp h
    unfold insN
    split
    · rename_i z
      refine List.pairwise_cons.mpr ⟨fun y hy => ?_, h⟩
      rcases List.mem_cons.mp hy with rfl | hy
      · exact z
      · exact List.lt_trans z (h1 y hy)
    · rename_i z
      split
      · exact h
      · rename_i ne
        refine List.pairwise_cons.mpr ⟨fun y hy => ?_, insN_asc k r h2⟩
        rcases (insN_mem k r y).mp hy with rfl | hy
        · exact Classical.byContradiction fun q => ne (List.le_antisymm (List.not_lt.mp q) (List.not_lt.mp z))
        · exact h1 y hy
theorem sortN_mem {xs : List (List Nat)} {y : List Nat} : y ∈ sortN xs ↔ y ∈ xs := by
  unfold sortN
  induction xs with
  | nil => rfl
  | cons x xs ih => rw [List.foldr_cons, insN_mem, ih, List.mem_cons]
theorem sortN_asc (xs : List (List Nat)) : (sortN xs).Pairwise (· < ·) := by
  unfold sortN
  induction xs with
  | nil => exact .nil
  | cons x xs ih => exact insN_asc x _ ih
theorem insN_len (k : List Nat) : ∀ l, (insN k l).length ≤ l.length + 1
  | [] => by simp [insN]
  | x :: r => by
    unfold insN
    split
    · simp
    · split
      · simp
      · have := insN_len k r
        simp; omega
theorem sortN_len (xs : List (List Nat)) : (sortN xs).length ≤ xs.length := by
  unfold sortN
  induction xs with
  | nil => exact Nat.le_refl _
  | cons x xs ih =>
    have := insN_len x (xs.foldr insN [])
    rw [List.foldr_cons, List.length_cons]
    omega
/-- ascending lists of the same members are the same -/
theorem ascN_eq : ∀ {l m : List (List Nat)}, l.Pairwise (· < ·) → m.Pairwise (· < ·) → (∀ y, y ∈ l ↔ y ∈ m) → l = m
  | [], [], _, _, _ => rfl
  | [], x :: m, _, _, h => nomatch (h x).mpr (List.mem_cons_self ..)
  | x :: l, [], _, _, h => nomatch (h x).mp (List.mem_cons_self ..)
  | x :: l, y :: m, hl, hm, h => by
    obtain ⟨a1, a2⟩ := List.pairwise_cons.mp hl
    obtain ⟨b1, b2⟩ := List.pairwise_cons.mp hm
    have e : x = y := by
      rcases List.mem_cons.mp ((h x).mp (List.mem_cons_self ..)) with q | q
      · exact q
      · rcases List.mem_cons.mp ((h y).mpr (List.mem_cons_self ..)) with r | r
        · exact r.symm
        · exact absurd (List.lt_trans (a1 y r) (b1 x q)) (List.lt_irrefl _)
    subst e
    rw [ascN_eq a2 b2 fun y => ?_]
    constructor
    · intro hy
      rcases List.mem_cons.mp ((h y).mp (List.mem_cons_of_mem _ hy)) with q | q
      · subst q; exact absurd (a1 y hy) (List.lt_irrefl _)
      · exact q
    · intro hy
      rcases List.mem_cons.mp ((h y).mpr (List.mem_cons_of_mem _ hy)) with q | q
      · subst q; exact absurd (b1 y hy) (List.lt_irrefl _)
      · exact q
def strsD : List D → Option (List Str)
  | [] => some []
  | .str s :: r => (strsD r).map (s :: ·)
  | _ :: _ => none
theorem strsD_vs {K : PySem.W.Frag} {B : Hp} : ∀ {ds : List D} {vs : List V} {xs : List Str}, DatL K B ds vs → strsD ds = some xs → vs = xs.map V.str ∧ ds = xs.map D.str
  | [], _, _, h, e => by
    cases (show some [] = some _ from e)
    exact ⟨h, rfl⟩
  | .str s :: ds, _, _, ⟨v, r, h1, h2, h3⟩, e => by
    have e' : (strsD ds).map (s :: ·) = some _ := e
    cases q : strsD ds with
    | none => rw [q] at e'; cases e'
    | some ys =>
      rw [q] at e'
      cases e'
      obtain ⟨g1, g2⟩ := strsD_vs h3 q
      subst h1 g1 g2
      cases (show v = .str s from h2)
      exact ⟨rfl, rfl⟩
  | .nd _ _ :: _, _, _, _, e => by cases e
  | .non :: _, _, _, _, e => by cases e
  | .bl _ :: _, _, _, _, e => by cases e
  | .int _ :: _, _, _, _, e => by cases e
theorem strs_dat {K : PySem.W.Frag} {B : Hp} : ∀ xs : List Str, DatL K B (xs.map D.str) (xs.map V.str)
  | [] => rfl
  | x :: xs => ⟨_, _, rfl, rfl, strs_dat xs⟩
def cps (s : Str) : List Nat := s.cps.toList
def ofN (l : List Nat) : Str := ⟨l.toArray⟩
def fSorS : D → Option D
  | .nd .lst ds => (strsD ds).bind fun xs => if xs.length ≤ 4000 then some (.nd .lst ((sortN (xs.map cps)).map fun l => .str (ofN l))) else none
  | .nd .tup ds => (strsD ds).bind fun xs => if xs.length ≤ 4000 then some (.nd .lst ((sortN (xs.map cps)).map fun l => .str (ofN l))) else none
  | _ => none
def fSorA (d : D) : Option D := (fSorS d).or (fSorSet d)
section
variable {X : Cx} {p : Bool} {pos : Pos}
theorem ofN_cps (s : Str) : ofN (cps s) = s := by cases s; rfl
theorem cps_inj {s t : Str} (h : cps s = cps t) : s = t := by rw [← ofN_cps s, h, ofN_cps]
theorem c_ssA {e : Expr} {m : M} {po p2 pos2 : Pos} (hc : X.calm = true) (hu : X.A.units + 64 < cLine) (he : PE X e (tE X.K p m)) (hm1 : X.mg "sorted" = none) (hm2 : X.mg "set" = none) (hg1 : Gl X "sorted" := by rfl) (hg2 : Gl X "set" := by rfl)
    (s1 : starEach [e] X.env = (false, eval e X.env) :: starEach [] X.env := by rfl) (hpl1 : (backTo pos2 (starEach [] X.env)).any (·.1) = false := by rfl)
    (s2 : starEach [.Call (.Name "set" p2) [e] [] pos2] X.env = (false, eval (.Call (.Name "set" p2) [e] [] pos2) X.env) :: starEach [] X.env := by rfl) (hpl2 : (backTo pos (starEach [] X.env)).any (·.1) = false := by rfl) :
    PE X (.Call (.Name "sorted" po) [.Call (.Name "set" p2) [e] [] pos2] [] pos) (tE X.K p (eU1 fSorA m)) := by
  have ho := c_ss (p := p) (m := m) (po := po) hc hu he hm1 hm2 hg1 hg2 s1 hpl1 s2 hpl2
  have hn : PE X (.Call (.Name "sorted" po) [.Call (.Name "set" p2) [e] [] pos2] [] pos) (tE X.K p (eU1 fSorS m)) :=
    peW (pe_callB (cr_sortX hc) hg1 hm1 PyProof.Rows.boot_sorted (pa_cons (pe_callTy (cr_setS hc) hg2 hm2 PyProof.Rows.boot_set (pa_cons he pa_nil s1) (he := s1) (hpl := hpl1)) pa_nil s2) (he := s2) (hpl := hpl2)) fun σ H Q h => by
      refine tE_1 h fun B H v d g b sh ef k => ?_
      unfold fSorS at ef
      split at ef
      · rename_i ds
        obtain ⟨xs, e1, ef⟩ := ob ef
        by_cases z : xs.length ≤ 4000
        · rw [if_pos z] at ef
          cases ef
          obtain ⟨a, vs, rfl, h2, h3⟩ := sh
          obtain ⟨rfl, rfl⟩ := strsD_vs h3 e1
          refine ⟨a, xs, rfl, .inl (SqL.of h2), Nat.lt_of_le_of_lt (Nat.succ_le_succ z) (by decide), fun c m hm hc => ?_⟩
          refine ⟨c, xs, m, rfl, upd_same, Nat.le_trans hm (Nat.le_trans z (by decide)), fun ys pp pw mem ln hpp => ?_⟩
          have hH : H pp = none := by
            cases q : H pp with
            | none => rfl
            | some o => rw [Ex.new hc pp o q] at hpp; cases hpp
          have hbp : B pp = none := by
            cases q : B pp with
            | none => rfl
            | some o => rw [b pp o q] at hH; cases hH
          have hs : ys.map cps = sortN (xs.map cps) := by
            refine ascN_eq (by rw [List.pairwise_map]; exact pw) (sortN_asc _) fun y => ?_
            rw [sortN_mem, List.mem_map, List.mem_map]
            exact ⟨fun ⟨x, hx, e⟩ => ⟨x, (mem x).mp hx, e⟩, fun ⟨x, hx, e⟩ => ⟨x, (mem x).mpr hx, e⟩⟩
          have hy : ys = (sortN (xs.map cps)).map ofN := by
            rw [← hs, List.map_map]
            have : (ofN ∘ cps) = id := funext fun s => ofN_cps s
            rw [this, List.map_id]
          have n : New B H (upd B pp (.lst (ys.map V.str))) (upd (upd H c (SetXO X.prog X.w c xs m)) pp (.lst (ys.map V.str))) := by
            refine ⟨Ex.new hbp, (Ex.new hc).trans (Ex.new hpp), fun x o e => ?_, fun x e1 e2 => ?_⟩
            · by_cases w : x = pp
              · rw [w, upd_same] at e ⊢; exact e
              · rw [upd_ne w] at e ⊢; exact Ex.new hc x o (b x o e)
            · have w : x ≠ pp := fun w => e1 (by rw [w]; exact hH)
              rw [upd_ne w]; exact e2
          refine k _ _ _ n ⟨pp, _, rfl, upd_same, ?_⟩
          have e2 : ((sortN (xs.map cps)).map fun l => D.str (ofN l)) = ys.map D.str := by rw [hy, List.map_map]; rfl
          rw [e2]
          exact strs_dat ys
        · rw [if_neg z] at ef; cases ef
      · rename_i ds
        obtain ⟨xs, e1, ef⟩ := ob ef
        by_cases z : xs.length ≤ 4000
        · rw [if_pos z] at ef
          cases ef
          obtain ⟨a, vs, rfl, h2, h3⟩ := sh
          obtain ⟨rfl, rfl⟩ := strsD_vs h3 e1
          refine ⟨a, xs, rfl, .inr (Ex.st b h2), Nat.lt_of_le_of_lt (Nat.succ_le_succ z) (by decide), fun c m hm hc => ?_⟩
          refine ⟨c, xs, m, rfl, upd_same, Nat.le_trans hm (Nat.le_trans z (by decide)), fun ys pp pw mem ln hpp => ?_⟩
          have hH : H pp = none := by
            cases q : H pp with
            | none => rfl
            | some o => rw [Ex.new hc pp o q] at hpp; cases hpp
          have hbp : B pp = none := by
            cases q : B pp with
            | none => rfl
            | some o => rw [b pp o q] at hH; cases hH
          have hs : ys.map cps = sortN (xs.map cps) := by
            refine ascN_eq (by rw [List.pairwise_map]; exact pw) (sortN_asc _) fun y => ?_
            rw [sortN_mem, List.mem_map, List.mem_map]
            exact ⟨fun ⟨x, hx, e⟩ => ⟨x, (mem x).mp hx, e⟩, fun ⟨x, hx, e⟩ => ⟨x, (mem x).mpr hx, e⟩⟩
          have hy : ys = (sortN (xs.map cps)).map ofN := by
            rw [← hs, List.map_map]
            have : (ofN ∘ cps) = id := funext fun s => ofN_cps s
            rw [this, List.map_id]
          have n : New B H (upd B pp (.lst (ys.map V.str))) (upd (upd H c (SetXO X.prog X.w c xs m)) pp (.lst (ys.map V.str))) := by
            refine ⟨Ex.new hbp, (Ex.new hc).trans (Ex.new hpp), fun x o e => ?_, fun x e1 e2 => ?_⟩
            · by_cases w : x = pp
              · rw [w, upd_same] at e ⊢; exact e
              · rw [upd_ne w] at e ⊢; exact Ex.new hc x o (b x o e)
            · have w : x ≠ pp := fun w => e1 (by rw [w]; exact hH)
              rw [upd_ne w]; exact e2
          refine k _ _ _ n ⟨pp, _, rfl, upd_same, ?_⟩
          have e2 : ((sortN (xs.map cps)).map fun l => D.str (ofN l)) = ys.map D.str := by rw [hy, List.map_map]; rfl
          rw [e2]
          exact strs_dat ys
        · rw [if_neg z] at ef; cases ef
      · cases ef
  refine ⟨fun pins s σ H Q I h => ?_⟩
  obtain ⟨B, ρ, F, S, a, ρ', e, k⟩ := h
  obtain ⟨⟨x, ρ1⟩, ea, e⟩ := ob e
  obtain ⟨d, ed, e⟩ := ob e
  obtain ⟨g, eg, e⟩ := ob e
  cases e
  cases z : fSorS d with
  | some g' =>
    have eg' : (fSorS d).or (fSorSet d) = some g := eg
    rw [z] at eg'
    cases eg'
    exact hn.run pins s σ H Q I ⟨B, ρ, F, S, _, _, by show (m ρ).bind _ = _; rw [ea]; show (deref ρ1 x).bind _ = _; rw [ed]; show (fSorS d).bind _ = _; rw [z]; rfl, k⟩
  | none =>
    have eg' : (fSorS d).or (fSorSet d) = some g := eg
    rw [z] at eg'
    exact ho.run pins s σ H Q I ⟨B, ρ, F, S, _, _, by show (m ρ).bind _ = _; rw [ea]; show (deref ρ1 x).bind _ = _; rw [ed]; show (fSorSet d).bind _ = _; rw [show fSorSet d = some g from eg']; rfl, k⟩
end
end DL

end

section
set_option Elab.async false
set_option linter.all false
set_option maxRecDepth 100000
set_option maxHeartbeats 2000000
/-! EN: for i, c in enumerate(text, k); range(a, b); sum, min, max of ints; text.find. -/
namespace DL
open PySem PySem.Spec PyProof.Rows L2 TL
/-- n turns, each of a new tuple of what is known -/
def Itk (n : Nat) (ys : Nat → List V) : It := ⟨fun i _ => i < n, fun i H v H' => ∃ a, v = .ref a ∧ H a = none ∧ H' = upd H a (.tup (ys i)), fun i _ => n ≤ i⟩
theorem turn_known {P : Program} {w : World} {K : PySem.W.Frag} {elts : List Expr} {kk : Nat} {tpos : Pos} {I : Addr} {wr : List Addr} {n : Nat} {Pt : Nat → Array Value → Prop} {St : Nat → Heap → Prop} {Mid : Nat → Addr → Heap → Prop} {ys : Nat → List V}
    (W : ∀ A : Around, A.handled = none → WalksT P w A I wr wr n Pt St Mid) (hI : I ∈ wr) (hob : ∀ i h, St i h → ∀ b ∈ wr, ∃ o, h.get? b = some o ∧ ∀ v, o.data ≠ .cell v) (hv : ∀ i vals, i < n → Pt i vals → Vals (ys i) vals.toList) (hl : ∀ i, (ys i).length ≤ sizeLine)
    (fr : ∀ i h h', St i h → (∀ b ∈ wr, ∀ o, h.get? b = some o → h'.get? b = some o) → St i h') (sf : ∀ (A : Around) i (s : Shared) (Q : Value → Shared → Prop) (E : Value → Shared → Prop), St i s.heap → Q (.ref I) s → wpAny (model P w) A (pyIter (.ref I)) Q E s) :
    Turn P w K (.Tuple elts kk tpos) (Itk n ys) wr I (fun i h => i ≤ n ∧ St i h) where
  mem := hI
  obj := fun i h st => hob i h st.2
  keep := fun i h h' st k => ⟨st.1, fr i h h' st.2 k⟩
  item := by
    intro X hP hw hK hc i pins s σ H E J hf st hg
    subst hP hw hK
    have D := W X.A (J.ok.hd hc)
    have hi : i < n := hg
    refine D.item i s _ _ hi st.2 fun a vals h' tk hp ha ht hm k => ⟨_, rfl, ?_⟩
    refine D.go elts kk tpos i a _ _ _ hm fun h2 hs2 k2 => ?_
    have na : a ∉ wr := D.apart i a h' hm
    have lt : ∀ b ∈ wr, b < s.heap.objs.size := fun b hb => let ⟨_, q, _⟩ := hob i _ st.2 b hb; Heap.lt_size q
    obtain ⟨o, ho, oc, oe, od⟩ := ht
    have new : ObjOk X.prog X.w (upd H a (.tup (ys i))) h2 a (.tup (ys i)) := ⟨hl i, vals.toList, hv i vals hi hp, ⟨o, k2 a o na ho, oc, oe, by simpa using od⟩⟩
    have J2 : Inv X pins σ (upd H a (.tup (ys i))) { s with heap := h2, toks := tk } := J.turnedNew (ch := wr) (fun b o hb q => k2 b o hb (k b o hb q)) hf ha new
    refine ⟨.ref a, _, J2, rfl, ⟨a, rfl, J.hok.fresh ha, rfl⟩, ⟨hi, hs2⟩, fun b hb => ?_⟩
    rw [upd_ne (Nat.ne_of_lt (Nat.lt_of_lt_of_le (lt b hb) ha))]
    exact (hf b hb).1
  done := by
    intro X hP hw hK hc i pins s σ H E J hf st hg
    subst hP hw hK
    have D := W X.A (J.ok.hd hc)
    obtain ⟨h1, h2⟩ := st
    obtain rfl : i = n := Nat.le_antisymm h1 hg
    exact D.done s _ _ h2 fun h' tk k => ⟨rfl, J.turnedL (t' := tk) (ch := wr) k hf⟩
  self := fun A i s Q E st h => sf A i s Q E st.2 h
/-! ### enumerate(text, k) -/
def enT (x : Str) (k : Int) (i : Nat) : List V := [.int (k + (i : Int)), .str (sL [(tl x).getD i 0])]
def iEnX (ta : TA) : TI := fun σ H R => ta σ H fun vs H1 => ∃ x k, vs = [.str x, .int k] ∧ (-(2 ^ 62) ≤ k ∧ k < 2 ^ 62) ∧ R (Itk (tl x).length (enT x k)) H1
theorem pi_enX {X : Cx} {e e2 : Expr} {ta : TA} {p pos tpos : Pos} {elts : List Expr} {kk : Nat} (hg : Gl X "enumerate") (hm : X.mg "enumerate" = none) (ha : PA X [e, e2] ta)
    (hs : starEach [e, e2] X.env = (false, eval e X.env) :: starEach [e2] X.env := by rfl) (hpl : (backTo pos (starEach [e2] X.env)).any (·.1) = false := by rfl) :
    PI X (.Tuple elts kk tpos) (.Call (.Name "enumerate" p) [e, e2] [] pos) (iEnX ta) := by
  refine ⟨fun pins s σ H R J h => ?_⟩
  refine Call_ (ld_blt J hg hm boot_enumerate (PyProof.Rows.callWith_type1 (thn (ha.run pos pins s σ H _ J h) fun us s1 ⟨vs, H1, J1, r1, q1⟩ => ?_) hs hpl))
  obtain ⟨x, k, rfl, ⟨hk0, hk1⟩, q⟩ := q1
  cases r1 with
  | cons r rr =>
    cases rr with
    | cons r' rr =>
      cases rr
      obtain ⟨t, rfl⟩ := r
      obtain ⟨t', rfl⟩ := r'
      refine enum_begins (begins_text x t) trivial (by omega) (by omega) fun h' he ho hz kp => wpAny_pyIter_enum he ?_
      have J2 : Inv X pins σ H1 { s1 with heap := h' } := J1.kept (t' := s1.toks) kp
      generalize hN : s1.heap.objs.size = N at *
      have ne : (N + 1 : Nat) ≠ N := Nat.succ_ne_self _
      have hx : (tl x).length = x.cps.size := rfl
      have W : ∀ A : Around, A.handled = none → _ := fun A hh => WalksT.enumFrom k (Draws.text (prog := X.prog) (w := X.w) (A := A.in1) hh N x t) (N + 1) ne (by simpa using ne) (List.mem_cons_self ..)
      refine ⟨N + 1, [N + 1, N], _, _, H1, rfl, J2, turn_known (ys := enT x k) W (by simp) (fun i h st b hb => ?_) (fun i vals hi hp => ?_) (fun i => by show 2 ≤ sizeLine; decide) (fun i h h' st z => ?_) (fun A i s Q E st z => ?_), ⟨Nat.zero_le _, ⟨_, by simpa using he⟩, ?_⟩, fun b hb => ?_, q⟩
      · obtain ⟨⟨old, h1⟩, o, h2, h3, h4⟩ := st
        rcases List.mem_cons.mp hb with rfl | hb
        · exact ⟨_, h1, fun v z => nomatch z⟩
        · rw [List.mem_singleton.mp hb]
          exact ⟨o, h2, fun v z => by rw [h4] at z; cases z⟩
      · obtain ⟨t2, y, ⟨c, u, hc, rfl⟩, rfl⟩ := hp
        refine .cons ⟨t2, rfl⟩ (.cons ⟨u, ?_⟩ .nil)
        have e : (tl x).getD i 0 = c := by
          rw [List.getD_eq_getElem?_getD]
          show (x.cps.toList[i]?).getD 0 = c
          rw [Array.getElem?_toList, hc] <;> rfl
        rw [e]
      · obtain ⟨⟨old, h1⟩, o, h2, h3, h4⟩ := st
        exact ⟨⟨old, z _ (by simp) _ h1⟩, o, z _ (by simp) _ h2, h3, h4⟩
      · obtain ⟨⟨old, h1⟩, _⟩ := st
        exact wpAny_pyIter_enum h1 z
      · exact ⟨_, ho, rfl, rfl⟩
      · have hle : s1.heap.objs.size ≤ b := by
          rcases List.mem_cons.mp hb with rfl | hb
          · rw [hN]; exact Nat.le_succ _
          · rw [List.mem_singleton.mp hb, hN]; exact Nat.le_refl _
        exact J1.fpOk hle (J1.hok.fresh hle)
section
variable {X : Cx} {K : PySem.W.Frag} {B H : Hp} {p q : Bool} {pos : Pos}
def enD (l : List Nat) (k : Int) : List D := l.zipIdx.map fun c => .nd .tup [.int (k + (c.2 : Int)), .str (sL [c.1])]
theorem wk_enT {x : Str} {k : Int} : Wk K B (Itk (tl x).length (enT x k)) (enD (tl x) k) :=
  ⟨fun B1 H _ _ => by show (tl x).length ≤ (enD (tl x) k).length; unfold enD; simp, fun i d g B1 H e1 e2 => by
    unfold enD at g
    rw [List.getElem?_map, List.getElem?_zipIdx] at g
    cases q : (tl x)[i]? with
    | none => rw [q] at g; cases g
    | some c =>
      rw [q] at g
      cases g
      obtain ⟨hi, _⟩ := List.getElem?_eq_some_iff.mp q
      refine ⟨hi, fun v H' y => ?_⟩
      obtain ⟨a, rfl, ha, rfl⟩ := y
      have hb : B1 a = none := by
        cases z : B1 a with
        | none => rfl
        | some o => rw [e2 a o z] at ha; cases ha
      refine ⟨upd B1 a (.tup (enT x k i)), New.lay e2 ha, a, _, rfl, Or.inl (Or.inl upd_same), ?_⟩
      refine ⟨_, _, rfl, ?_, _, _, rfl, ?_, rfl⟩
      · show V.int (k + (i : Int)) = V.int (k + ((0 + i : Nat) : Int))
        rw [Nat.zero_add]
      · show V.str (sL [(tl x).getD i 0]) = V.str (sL [c])
        rw [List.getD_eq_getElem?_getD, q] <;> rfl⟩
/-- for i, c in enumerate(text, k) -/
def iEnTx (as : MA) : MI := fun ρ => (as ρ).bind fun y => (derefs y.2 y.1).bind fun ds => match ds with
  | [.str x, .int k] => if -(2 ^ 62) ≤ k ∧ k < 2 ^ 62 then some (enD (tl x) k, y.2) else none
  | _ => none
theorem i_enX {e e2 : Expr} {ms : MA} {po tpos : Pos} {elts : List Expr} {kk : Nat} (hm : X.mg "enumerate" = none) (h : PA X [e, e2] (tA X.K p ms)) (hg : Gl X "enumerate" := by rfl)
    (hs : starEach [e, e2] X.env = (false, eval e X.env) :: starEach [e2] X.env := by rfl) (hpl : (backTo pos (starEach [e2] X.env)).any (·.1) = false := by rfl) :
    PI X (.Tuple elts kk tpos) (.Call (.Name "enumerate" po) [e, e2] [] pos) (tI X.K (iEnTx ms)) := piW (pi_enX hg hm h hs hpl) fun σ H R h => by
  obtain ⟨B, ρ, F, S, ds, ρ', e, k⟩ := h
  obtain ⟨⟨as, ρ1⟩, ea, e⟩ := ob e
  obtain ⟨es, ed, e⟩ := ob e
  refine ⟨B, ρ, F, S, as, ρ1, ea, fun vs B1 H1 F1 E1 S1 A1 P1 => ?_⟩
  have sh := S1.derefs A1 ed
  dsimp only at e
  split at e
  · rename_i x k0
    split at e
    · rename_i z
      cases e
      obtain ⟨v, r, rfl, h1, v2, r2, rfl, h2, h3⟩ := sh
      cases (show v = .str x from h1)
      cases (show v2 = .int k0 from h2)
      cases (show r2 = [] from h3)
      exact ⟨x, k0, rfl, z, k _ B1 H1 F1 E1 S1 wk_enT⟩
    · cases e
  · cases e
/-! ### range(a, b) -/
def iRg2 (as : MA) : MI := fun ρ => (as ρ).bind fun y => (derefs y.2 y.1).bind fun ds => match ds with
  | [.int i, .int j] => if (-(2 ^ 62) ≤ i ∧ i < 2 ^ 62) ∧ -(2 ^ 62) ≤ j ∧ j < 2 ^ 62 then some (rng i (j - i).toNat, y.2) else none
  | _ => none
theorem i_rg2 {tg e e2 : Expr} {ms : MA} {po : Pos} (hm : X.mg "range" = none) (h : PA X [e, e2] (tA X.K p ms)) (hg : Gl X "range" := by rfl)
    (hs : starEach [e, e2] X.env = [(false, eval e X.env), (false, eval e2 X.env)] := by rfl) (hs2 : starEach [e2] X.env = [(false, eval e2 X.env)] := by rfl) :
    PI X tg (.Call (.Name "range" po) [e, e2] [] pos) (tI X.K (iRg2 ms)) := piW (pi_range2 hg hm h hs hs2) fun σ H R h => by
  obtain ⟨B, ρ, F, S, ds, ρ', e, k⟩ := h
  obtain ⟨⟨as, ρ1⟩, ea, e⟩ := ob e
  obtain ⟨es, ed, e⟩ := ob e
  refine ⟨B, ρ, F, S, as, ρ1, ea, fun vs B1 H1 F1 E1 S1 A1 P1 => ?_⟩
  have sh := S1.derefs A1 ed
  dsimp only at e
  split at e
  · rename_i i j
    split at e
    · rename_i z
      cases e
      obtain ⟨v, r, rfl, h1, v2, r2, rfl, h2, h3⟩ := sh
      cases (show v = .int i from h1)
      cases (show v2 = .int j from h2)
      cases (show r2 = [] from h3)
      exact ⟨i, j, rfl, ⟨z.1.1, z.1.2, z.2.1, z.2.2⟩, k _ B1 H1 F1 E1 S1 wk_rng⟩
    · cases e
  · cases e
/-! ### sum, min, find -/
def fSum : D → Option D
  | .nd .lst ds => (intsD ds).map fun ns => .int ns.sum
  | _ => none
theorem p_sum (hc : X.calm = true) : ∃ r, CallR X (.builtin "sum") r ∧ OpA X.K r (f1 fSum) := ⟨_, cr_sum hc, fun B H vs ds g Q b sh ef k => by
  obtain ⟨d, e1, e2⟩ := f1_of ef
  obtain ⟨v, rfl, hv⟩ := sh.one e1
  unfold fSum at e2
  split at e2
  · rename_i es
    cases z : intsD es with
    | none => rw [z] at e2; cases e2
    | some ns =>
      rw [z] at e2
      cases e2
      obtain ⟨a, ws, rfl, h2, h3⟩ := hv
      have := intsD_vs h3 z
      subst this
      exact ⟨a, ns, rfl, SqL.of h2, k _ B H (New.refl b) rfl⟩
  · cases e2⟩
def fMin2 : List D → Option D
  | [.int i, .int j] => some (.int (if j < i then j else i))
  | _ => none
theorem p_min2 (hc : X.calm = true) : ∃ r, CallR X (.builtin "min") r ∧ OpA X.K r fMin2 := ⟨_, call_min2 hc, fun B H vs ds g Q b sh ef k => by
  unfold fMin2 at ef
  split at ef
  · rename_i i j
    cases ef
    obtain ⟨v, r, rfl, h1, v2, r2, rfl, h2, h3⟩ := sh
    cases (show v = .int i from h1)
    cases (show v2 = .int j from h2)
    cases (show r2 = [] from h3)
    exact ⟨i, j, rfl, k _ B H (New.refl b) rfl⟩
  · cases ef⟩
def fFind : D → List D → Option D
  | .str a, [.str b] => some (.int (Txt.find a b))
  | _, _ => none
theorem p_find : ∃ r, MtR X "str.find" r ∧ MetR X.K r fFind := ⟨_, mt_find, fun B H x d vs ds g Q b sx sh ef k => by
  unfold fFind at ef
  split at ef
  · rename_i a b'
    cases ef
    cases (show x = .str a from sx)
    obtain ⟨v, rfl, hv⟩ := sh.one rfl
    cases (show v = .str b' from hv)
    exact ⟨a, b', rfl, rfl, k _ B H (New.refl b) rfl⟩
  · cases ef⟩
/-! ### text[::-1] -/
theorem rev_list (l : List Nat) : (List.range l.length).map (fun k => l.toArray.getD (l.length - 1 - k) 0) = l.reverse := by
  apply List.ext_getElem
  · simp
  · intro i h1 h2
    simp only [List.length_map, List.length_range] at h1
    rw [List.getElem_map, List.getElem_range, List.getElem_reverse]
    simp [Array.getD, show l.length - 1 - i < l.length by omega]
theorem pe_rvS {e : Expr} {te : TE} {k : Nat} {p1 p2 p3 pos : Pos} (he : PE X e te) : PE X (.Subscript e (.Slice none none (some (.UnaryOp .USub (.Constant (.int 1) k p1) p2)) p3) pos) (fun σ H Q => te σ H fun x H1 => ∃ z : Str, x = .str z ∧ z.length ≤ sizeLine ∧ Q (.str (sL (tl z).reverse)) H1) := by
  refine ⟨fun pins s σ H Q I h => ?_⟩
  refine Subscript_ (thn (he.run pins s σ H _ I h) fun v s1 ⟨x, H1, I1, r1, z, ez, hz, q1⟩ => ?_)
  subst ez
  obtain ⟨t, rfl⟩ := r1
  have hst : PO X (some (.UnaryOp .USub (.Constant (.int 1) k p1) p2)) (tPart (tUn (rU fun i => .int (-i)) (tC (.int 1)))) := po_some (pe_un un_neg pe_int)
  refine wpAny_Slice (thn (po_none.run pins s1 σ H1 (fun o H2 => o = none ∧ H2 = H1) I1 ⟨rfl, rfl⟩) fun vl s2 ⟨l, H2, I2, pl, el, e2⟩ => ?_)
  subst el e2
  refine thn (po_none.run pins s2 σ H2 (fun o H3 => o = none ∧ H3 = H2) I2 ⟨rfl, rfl⟩) fun vu s3 ⟨u, H3, I3, pu, eu, e3⟩ => ?_
  subst eu e3
  refine thn (hst.run pins s3 σ H3 (fun o H4 => o = some (-1) ∧ H4 = H3) I3 ⟨1, rfl, -1, rfl, rfl, rfl⟩) fun vs s4 ⟨o, H4, I4, ps, eo, e4⟩ => ?_
  subst eo e4
  have I5 : Inv X pins σ H4 { s4 with heap := s4.heap.push { cls := .type "slice", data := .fields #[vl, vu, vs] } } := I4.kept (t' := s4.toks) fun b ob q => Heap.get?_push_of_some _ q
  show wpAny (model X.prog X.w) X.A (subscriptTail e (.Slice none none (some (.UnaryOp .USub (.Constant (.int 1) k p1) p2)) p3) (.str z t) (.ref s4.heap.objs.size)) (EP X pins σ Q) X.xe { s4 with heap := s4.heap.push { cls := .type "slice", data := .fields #[vl, vu, vs] } }
  refine tail_any (ops := [.str z t, .ref s4.heap.objs.size]) (typeIs_str _ _ _) (F.slot_str_getitem.lookup) ?_ (by with_unfolding_all rfl)
  cases pl
  cases pu
  cases ps with
  | int i tk =>
    refine wpAny_getItem_str_slice (l := none) (u := none) (st := some (-1, tk)) ⟨_, Heap.get?_push_size _ rfl, rfl, rfl⟩ rfl ?_
    have e : ((Builtin.Str.strSliceIndices none none (-1) z.length).filterMap (z.cps[·]?)) = (tl z).reverse := by
      have h1 := PyProof.Rows.filterMap_get z.cps (Builtin.Str.strSliceIndices none none (-1) z.length) (fun j hj => by
        rw [PyProof.Rows.picked_rev] at hj
        obtain ⟨k, hk, rfl⟩ := List.mem_map.mp hj
        have := List.mem_range.mp hk
        show z.length - 1 - k < z.length
        omega)
      rw [h1, PyProof.Rows.picked_rev, List.map_map]
      exact rev_list (tl z)
    show Made.post (Made.str ⟨((Builtin.Str.strSliceIndices none none (-1) z.length).filterMap (z.cps[·]?)).toArray⟩) (EP X pins σ Q) _
    rw [e]
    exact ⟨by show (tl z).reverse.toArray.size ≤ sizeLine; rw [List.size_toArray, List.length_reverse]; exact hz, .str _, H4, I5.tok _, ⟨_, rfl⟩, q1⟩
def fRevS : D → Option D
  | .str z => if z.length ≤ 100000 then some (.str (sL (tl z).reverse)) else none
  | _ => none
theorem c_revS {e : Expr} {m : M} {k : Nat} {p1 p2 p3 pos : Pos} (he : PE X e (tE X.K p m)) : PE X (.Subscript e (.Slice none none (some (.UnaryOp .USub (.Constant (.int 1) k p1) p2)) p3) pos) (tE X.K p (eU1 fRevS m)) :=
  peW (pe_rvS he) fun σ H Q h => tE_1 h fun B H v d g b sx ef kk => by
    unfold fRevS at ef
    split at ef
    · rename_i z
      split at ef
      · rename_i hz
        cases ef
        cases (show v = .str z from sx)
        exact ⟨z, rfl, Nat.le_trans hz (by decide), kk _ B H (New.refl b) rfl⟩
      · cases ef
    · cases ef
/-! ### >= of texts -/
def fGeT : D → D → Option D
  | .str a, .str b => some (.bl (!decide (a.cps.toList < b.cps.toList)))
  | _, _ => none
def fGeA : D → D → Option D := fun d e => (fGe d e).or (fGeT d e)
theorem opd_geT : OpD K (fun x y H Q => ∃ i j, x = V.str i ∧ y = V.str j ∧ Q (.bl (!decide (i.cps.toList < j.cps.toList))) H) fGeT := fun B H x y d e g Q b sx sy ef k => by
  unfold fGeT at ef
  split at ef
  · rename_i a c
    cases ef
    cases (show x = .str a from sx)
    cases (show y = .str c from sy)
    exact ⟨a, c, rfl, rfl, k _ B H (New.refl b) rfl⟩
  · cases ef
theorem p_geA : ∃ r, OpR X (compareOp .GtE) r ∧ OpD X.K r fGeA := ⟨_, OpR.or op_ge op_ge_str, OpD.or (opd_I0 fun _ _ _ => rfl) opd_geT⟩
end
/-! ### a dict display that is ours, its items frozen -/
section
variable {X : Cx} {K : PySem.W.Frag} {B H : Hp} {pos : Pos}
theorem St.chg {σ : L2.St} {ρ : Env} {F : Nat → Addr → Prop} {p : Addr} {o : HO} (S : St K B H σ ρ F) (hB : B p = none) (hF : ∀ i, ¬ F i p) : St K B (upd H p o) σ ρ F := by
  have ne : ∀ i a, F i a → a ≠ p := fun i a z e => hF i (e ▸ z)
  refine ⟨fun a u e => ?_, fun i t e => let ⟨v, h1, h2⟩ := S.sl i t e; ⟨v, h1, h2.frame (Ex.refl _) fun a u z q => ?_⟩, S.nb, fun i a z => ?_, S.dj, S.ln⟩
  · rw [upd_ne fun z => by rw [z, hB] at e; cases e]
    exact S.bh a u e
  · rw [upd_ne (ne i a z)]; exact q
  · rw [upd_ne (ne i a z)]; exact S.al i a z
def oDicF (ks : List Key) (vms : List (Bool × M)) : MO := fun ρ => (mAll vms ρ).bind fun y => (frzL y.2 y.1).bind fun z => some (.nd (.dic ks) (z.1.map .fz), z.2)
theorem o_dicF {ks : List Key} {vms : List (Bool × M)} {keys : List (Option Expr)} {values : List Expr} (h : PPs X pos keys values (trs X.K ks vms)) (hk : (decide (ks.length = vms.length) && (nodK ks && decide (ks.length ≤ 15))) = true := by decide +kernel) (hall : keys.all (·.isSome) = true := by rfl) (hl : keys.length = values.length := by rfl) (h0 : keys ≠ [] := by exact fun z => nomatch z)
    (h15 : keys.length ≤ 15 := by decide) : PE X (.Dict keys values pos) (tO X.K (oDicF ks vms)) := peW (pe_disp h hall hl h0 h15) fun σ H Q h => by
  obtain ⟨hk1, hk2, hk3⟩ := b3 hk
  have hk1 := of_decide_eq_true hk1
  obtain ⟨B, ρ, F, S, a, ρ', e, k⟩ := h
  obtain ⟨⟨as, ρ1⟩, ea, e⟩ := ob e
  obtain ⟨⟨ds, ρ2⟩, ed, e⟩ := ob e
  cases e
  intro p hp
  have hal := mAll_len ea
  refine tA_pairs vms ks (R := fun vs H2 => H2 p = some (.dK []) ∧ vs.length = ks.length ∧ Q (.ref p) (upd H2 p (.dK (ks.zip vs)))) hk1 (fun vs H2 ⟨q1, q0, q2⟩ => ⟨q1, ks.zip vs, rfl, ?_, ?_⟩) ⟨B, ρ, F, S.lay hp, as, ρ1, ea, fun vs B1 H1 F1 E1 S1 A1 P1 => ?_⟩
  · rw [List.length_zip, q0, Nat.min_self]
    exact of_decide_eq_true hk3
  · rw [merge_zip ks vs [] hk2 fun kv hk => nomatch hk]
    exact q2
  · have npF : ∀ i, ¬ F i p := fun i z => S.al i p z hp
    have nU : ¬ U F p := fun ⟨i, z⟩ => npF i z
    have hs : upd H p (.dK []) p ≠ none := by rw [upd_same]; exact fun z => nomatch z
    have hp1 : H1 p = some (.dK []) := E1.fr p _ upd_same nU
    have hn1 : B1 p = none := E1.nb p hs nU (by
      cases q : B p with
      | none => rfl
      | some u => rw [S.bh p u q] at hp; cases hp)
    have nf1 : ¬ U F1 p := E1.nf p hs nU
    obtain ⟨B2, F2, E2, S2, d2⟩ := frzL_sound S1 A1 ed
    have hh1 : H1 p ≠ none := by rw [hp1]; exact fun z => nomatch z
    have hn2 : B2 p = none := E2.nb p hh1 nf1 hn1
    have nf2 : ¬ U F2 p := E2.nf p hh1 nf1
    have hlen : vs.length = ks.length := by
      have := ArgsOk_len A1
      rw [hk1, ← hal]
      exact this.symm
    have old : ∀ a, H a ≠ none → a ≠ p := fun a h z => h (by rw [z]; exact hp)
    have live : ∀ a, H a ≠ none → ¬ U F a → upd H p (.dK []) a ≠ none ∧ H1 a ≠ none := fun a h n => by
      have ha : upd H p (.dK []) a ≠ none := by rw [upd_ne (old a h)]; exact h
      refine ⟨ha, ?_⟩
      cases q : upd H p (.dK []) a with
      | none => exact absurd q ha
      | some u => rw [E1.fr a u q n]; exact fun z => nomatch z
    refine ⟨hp1, hlen, k (.ref p) B2 (upd H1 p (.dK (ks.zip vs))) F2 (fun a => a = p) ⟨E1.bb.trans E2.bb, fun a u h n => ?_, fun a h n z => ?_, fun a h n z => ?_⟩ (S2.chg hn2 fun i z => nf2 ⟨i, z⟩) ⟨⟨p, vs, rfl, rfl, ⟨hlen.symm, upd_same⟩, OwnL.of_dat d2⟩, fun a z => by rw [z]; exact hn2, fun a z => by rw [z, upd_same]; exact (fun z => nomatch z), fun i a z q => nf2 ⟨i, by rw [← z]; exact q⟩⟩⟩
    · rw [upd_ne (old a (by rw [h]; exact fun z => nomatch z))]
      exact E1.fr a u (Ex.new hp a u h) n
    · obtain ⟨h1, h2⟩ := live a h n
      exact E2.nb a h2 (E1.nf a h1 n) (E1.nb a h1 n z)
    · obtain ⟨h1, h2⟩ := live a h n
      rcases z with z | z
      · exact E2.nf a h2 (E1.nf a h1 n) z
      · exact old a h z
end
/-! ### x += text -/
section
variable {X : Cx}
def fAddIA : D → D → Option D := fun d e => (fAddI d e).or (fCatS d e)
theorem p_iaddA : PIp X .Add (fun x y H Q => ipI (fun i j => i + j) x y H Q ∨ ∃ i j, x = V.str i ∧ y = V.str j ∧ i.length + j.length ≤ sizeLine ∧ Q (.str (i ++ j)) H) ∧ OpD X.K (fun x y H Q => ipI (fun i j => i + j) x y H Q ∨ ∃ i j, x = V.str i ∧ y = V.str j ∧ i.length + j.length ≤ sizeLine ∧ Q (.str (i ++ j)) H) fAddIA :=
  ⟨fun pins s σ H x y v u Q I rx ry z => z.elim (fun z => p_iadd.1 pins s σ H x y v u Q I rx ry z) fun z => iop_add_str pins s σ H x y v u Q I rx ry z, OpD.or p_iadd.2 opd_catS⟩
end
end DL

end

section
set_option Elab.async false
set_option linter.all false
set_option maxRecDepth 100000
set_option maxHeartbeats 4000000
/-! EI: instances of own classes: a field told, a field set. -/
namespace DL
open PySem PySem.Spec PySem.Calls PyProof.Rows L2
theorem OwnL.snoc2 {K : PySem.W.Frag} {Bb Hh : Hp} {d : D} {v : V} (hd : Dat K Bb d v) : ∀ {G : Addr → Prop} {ts : List T} {vs : List V}, OwnL K Bb Hh G ts vs → OwnL K Bb Hh G (ts ++ [.fz d]) (vs ++ [v])
  | _, [], vs, h => by
    cases (show vs = [] from h)
    exact ⟨v, [], fun _ => False, rfl, fun _ z => z.elim, hd, rfl⟩
  | _, _ :: _, _, ⟨w, r, G1, h1, h2, h3, h4⟩ => by
    subst h1
    exact ⟨w, r ++ [v], G1, rfl, h2, h3, OwnL.snoc2 hd h4⟩
def fPutF (cs : List Str) (f : Str) : FM := fun k ts ds => match k, ds with
  | .ins c fs, [d] => if c ∈ cs ∧ f ∉ fs ∧ fs.length < 100 then some (.non, .ins c (fs ++ [f]), ts ++ [.fz d]) else none
  | _, _ => none
theorem putF_new {f : Str} {y : V} : ∀ {fs : List Str} {vs : List V}, fs.length = vs.length → f ∉ fs → putF f y (fs.zip vs) = (fs ++ [f]).zip (vs ++ [y])
  | [], [], _, _ => rfl
  | [], _ :: _, h, _ => by cases h
  | _ :: _, [], h, _ => by cases h
  | g :: fs, x :: vs, h, hn => by
    have hg : g ≠ f := fun z => hn (by rw [z]; exact List.mem_cons_self ..)
    show (if g = f then _ else _) = _
    rw [if_neg hg]
    exact congrArg ((g, x) :: ·) (putF_new (by simpa using h) fun z => hn (List.mem_cons_of_mem _ z))
def sFl (cs : List Str) (f : Str) (e o : M) : MS := fun ρ => (e ρ).bind fun v => if v.1.deep = true then none else (o v.2).bind fun x => if (x.1.deep && !v.1.isVl) = true then none else
  match x.1 with
  | .rf j π => (frzL x.2 [v.1]).bind fun z => (mutAt (fPutF cs f) j π z.1 z.2).bind fun r => some (.nx, r.2)
  | .vl _ => none
def fFl (cs : List Str) (f : Str) : D → Option D
  | .nd (.ins c fs) ds => if c ∈ cs then look f fs ds else none
  | _ => none
def eFl (cs : List Str) (f : Str) (m : M) : M := fun ρ => (m ρ).bind fun x => (deref x.2 x.1).bind fun d => (fFl cs f d).bind fun r => some (.vl r, x.2)
section
variable {X : Cx} {p q : Bool} {pos pos' : Pos} {io : Io}
theorem s_fld {cs : List Str} {f : Str} {o e : Expr} {me mo : M} (hno : ∀ c ∈ cs, NoAttr X.K (He.ga X.K c) f) (he : PE X e (tE X.K p me)) (ho : PE X o (tE X.K q mo)) (hsw : swapsWith e (some (.Attribute o f pos')) pos.line X.env = pure false := by rfl) :
    PS X (.Assign [.Attribute o f pos'] e pos) (tS X.K io (sFl cs f me mo)) := psW (ps_fld ho he hsw) fun Z σ H h => by
  obtain ⟨B, ρ, F, S, fl, ρ', e, k⟩ := tS_eq.mp h
  obtain ⟨⟨xv, ρ1⟩, ev, e⟩ := ob e
  obtain ⟨g0, e⟩ := og e
  obtain ⟨⟨xo, ρ2⟩, eo, e⟩ := ob e
  obtain ⟨g2, e⟩ := og e
  refine ⟨B, ρ, F, S, xv, ρ1, ev, fun v1 B1 H1 F1 E1 S1 A1 P1 => ⟨B1, ρ1, F1, S1, xo, ρ2, eo, fun v2 B2 H2 F2 E2 S2 A2 P2 => ?_⟩⟩
  have A1' := A1.keep (B' := B2) (ρ' := ρ2) (H' := H2) E2.bb fun z => by rw [show xv.deep = false from g0] at z; cases z
  cases xo with
  | vl d => cases (show none = some (fl, ρ') from e)
  | rf j π =>
    obtain ⟨⟨ds, ρ4⟩, ed, e⟩ := ob (show (frzL ρ2 [xv]).bind _ = some (fl, ρ') from e)
    obtain ⟨⟨g, ρ5⟩, em, e⟩ := ob e
    cases e
    obtain ⟨B4, F4, E4, S4, d4, A4⟩ := frz_behind (as := [xv]) (vs := [v1]) S2 A2 ⟨v1, _, rfl, A1', rfl⟩ (by simpa [List.all_cons] using g2) ed
    obtain ⟨dv, rfl⟩ : ∃ dv, ds = [dv] := by
      obtain ⟨y, _, e⟩ := ob ed
      obtain ⟨z, ez, e⟩ := ob e
      cases (show some ([], y.2) = some z from ez)
      cases e
      exact ⟨_, rfl⟩
    obtain ⟨_, _, q1, hv, q2⟩ := d4
    cases q1
    refine mut_core (P := fun v => ∃ a C dx fs, v = .ref a ∧ H2 a = some (.ins C dx fs) ∧ Cls X.K C ∧ NoAttr X.K C f ∧ fs.length < 1000 ∧ Z.nx σ (upd H2 a (.ins C dx (putF f v1 fs)))) S4 A4 em fun G kk k' ts ts' l vs bl on ol e3 st => ?_
    cases kk with
    | ins c fs =>
      have e3 : (if c ∈ cs ∧ f ∉ fs ∧ fs.length < 100 then _ else none) = some (g, k', ts') := e3
      by_cases w : c ∈ cs ∧ f ∉ fs ∧ fs.length < 100
      · rw [if_pos w] at e3
        cases e3
        obtain ⟨w1, w2, w3⟩ := w
        obtain ⟨T, o1, dx, o2⟩ := on
        refine ⟨l, _, dx, fs.zip vs, rfl, o2, T.cls, hno c w1, by rw [List.length_zip]; omega, ?_⟩
        rw [putF_new o1 w2]
        have ol' := OwnL.snoc2 hv ol
        have on' : OwnN X.K (upd H2 l (.ins (He.ga X.K c) dx ((fs ++ [f]).zip (vs ++ [v1])))) (.ins c (fs ++ [f])) l (vs ++ [v1]) := ⟨T, by rw [List.length_append, List.length_append, o1]; rfl, dx, by rw [upd_same]⟩
        exact k σ B4 _ F4 (((E1.trans E2).trans E4).trans (st _ _ on' ol').1) (st _ _ on' ol').2 fun _ _ => rfl
      · rw [if_neg w] at e3; cases e3
    | _ => cases e3
theorem c_fl {cs : List Str} {f : Str} {e : Expr} {m : M} (hno : ∀ c ∈ cs, NoAttr X.K (He.ga X.K c) f) (he : PE X e (tE X.K p m)) (hb : attributeBase e f X.env (eval e X.env) = eval e X.env := by rfl) : PE X (.Attribute e f pos) (tE X.K p (eFl cs f m)) := peW (pe_fld he hb) fun σ H Q h => by
  obtain ⟨B, ρ, F, S, r, ρ', e, k⟩ := h
  obtain ⟨⟨x, ρ1⟩, ea, e⟩ := ob e
  obtain ⟨d, ed, e⟩ := ob e
  obtain ⟨g, eg, e⟩ := ob e
  cases e
  refine ⟨B, ρ, F, S, x, ρ1, ea, fun v B1 H1 F1 E1 S1 A1 P1 => ?_⟩
  have sh := S1.deref A1 ed
  cases d with
  | nd kk ds =>
    cases kk with
    | ins c fs =>
      have eg' : (if c ∈ cs then look f fs ds else none) = some g := eg
      by_cases hc : c ∈ cs
      · rw [if_pos hc] at eg'
        obtain ⟨a, vs, rfl, ⟨T, h1, dx, h2⟩, h4⟩ := sh
        obtain ⟨w, h5, h6⟩ := look_v eg' h1 h4
        exact ⟨a, _, dx, _, w, rfl, h2, T.cls, hno c hc, h5, k w B1 H1 F1 E1 S1 h6 P1⟩
      · rw [if_neg hc] at eg'; cases eg'
    | _ => cases eg
  | _ => cases eg
end
end DL

end

section
set_option Elab.async false
set_option linter.all false
set_option maxRecDepth 100000
set_option maxHeartbeats 2000000
/-! EJ: an instance of an own class made: C(e, ..). -/
namespace DL
open PySem L2
def oNew (c : Str) (fn : Fn) (as : MA) : MO := fun ρ => (as ρ).bind fun y => (frzL y.2 y.1).bind fun z => (fn (.nd (.ins c []) [] :: z.1.map .fz)).bind fun r => match r.1, r.2 with
  | .fz .non, t' :: _ => some (t', z.2)
  | _, _ => none
section
variable {X : Cx} {p q : Bool} {pos : Pos}
theorem frzL_len : ∀ {as : List Arg} {ρ : Env} {x : List D × Env}, frzL ρ as = some x → as.length = x.1.length
  | [], ρ, x, e => by cases (show some ([], ρ) = some x from e); rfl
  | a :: as, ρ, x, e => by
    obtain ⟨y, e1, e⟩ := ob e
    obtain ⟨z, e2, e⟩ := ob e
    cases e
    rw [List.length_cons, List.length_cons, frzL_len e2]
theorem tO_new {K : PySem.W.Frag} {n : Nat} {c : Str} {fn : Fn} {ms : MA} {σ : L2.St} {H : Hp} {Q : VK} {E : XK} (TC : InsC K (He.ga K c)) (hn : ∀ ρ y, ms ρ = some y → y.1.length + 1 = n) (h : tO K (oNew c fn ms) σ H Q) :
    tMake (He.ga K c) (spF K n fn) [] E (tA K p ms) σ H Q := by
  obtain ⟨B, ρ, F, S, t0, ρ', e, k⟩ := h
  obtain ⟨⟨ys, ρ1⟩, ea, e⟩ := ob e
  obtain ⟨⟨ds, ρ2⟩, ed, e⟩ := ob e
  obtain ⟨⟨r, ts'⟩, er, e⟩ := ob e
  refine ⟨B, ρ, F, S, ys, ρ1, ea, fun vs B1 H1 F1 E1 S1 A1 P1 => fun x dx hx hdx hne => ?_⟩
  obtain ⟨B2, F2, E2, S2, d2⟩ := frzL_sound S1 A1 ed
  have hlen : (V.ref x :: (vs ++ [])).length = n := by
    have h1 := hn _ _ ea
    have h2 := d2.len
    have h3 := frzL_len ed
    rw [List.append_nil, List.length_cons]
    simp only at h1 h3
    omega
  rw [List.append_nil] at hlen ⊢
  have nx : ∀ {a : Addr} {o : HO}, H1 a = some o → a ≠ x ∧ a ≠ dx := fun q => ⟨fun z => (by rw [z, hx] at q; cases q), fun z => (by rw [z, hdx] at q; cases q)⟩
  have up : ∀ {a : Addr} {o : HO}, H1 a = some o → (upd (upd H1 dx (.own x)) x (.ins (He.ga K c) dx [])) a = some o := fun q => by
    obtain ⟨n1, n2⟩ := nx q
    rw [upd_ne n1, upd_ne n2]
    exact q
  have hxx : (upd (upd H1 dx (.own x)) x (.ins (He.ga K c) dx [])) x = some (.ins (He.ga K c) dx []) := upd_same ..
  have bx : B2 x = none := by
    cases q : B2 x with
    | none => rfl
    | some o => exact absurd rfl (nx (S2.bh x o q)).1
  refine ⟨B2, .nd (.ins c []) [] :: ds.map .fz, fun j a => j = 0 ∧ a = x, hlen, ⟨fun a o q => up (S2.bh a o q), fun j u z => ?_, fun j a z => by rw [z.2]; exact bx, fun j a z => (by rw [z.2, hxx]; exact fun z => (nomatch z)), fun j l a ne z w => ne (z.1.trans w.1.symm), by simp [d2.len]⟩, r, ts', er, fun v B3 H3 F3 G3 E3 S3 O3 => ?_⟩
  · cases j with
    | zero =>
      cases z
      exact ⟨.ref x, rfl, x, [], rfl, ⟨rfl, rfl⟩, ⟨TC, rfl, dx, hxx⟩, rfl⟩
    | succ j =>
      have z' : ((ds.map T.fz).map some)[j]? = some (some u) := z
      rw [List.getElem?_map, List.getElem?_map] at z'
      cases q : ds[j]? with
      | none => rw [q] at z'; cases z'
      | some d =>
        rw [q] at z'
        cases z'
        obtain ⟨w, h1, h2⟩ := d2.get q
        exact ⟨w, by show (vs.map some)[j]? = _; rw [List.getElem?_map, h1]; rfl, h2⟩
  · cases r with
    | nd _ _ => cases ts' <;> cases e
    | fz d =>
      cases ts' with
      | nil => cases d <;> cases e
      | cons t' rest =>
        cases d with
        | non =>
          have e : some (t', ρ2) = some (t0, ρ') := e
          injection e with e
          injection e with e1 e2
          subst e1
          subst e2
          have hv : v = .non := O3.own
          refine ⟨hv, ?_⟩
          obtain ⟨v3, k1, k2⟩ := S3.sl 0 _ rfl
          cases (show some (some (V.ref x)) = some (some v3) from k1)
          have EE : Ext B H (U F) B2 H1 (U F2) := E1.trans E2
          have nU : ∀ {a : Addr}, a ≠ x → ¬ U (fun (j : Nat) (a : Addr) => j = 0 ∧ a = x) a := fun n ⟨_, z⟩ => n z.2
          have some_of : ∀ {a : Addr}, H1 a ≠ none → ∃ o, H1 a = some o := fun {a} n => by
            cases q : H1 a with
            | none => exact absurd q n
            | some o => exact ⟨o, rfl⟩
          have frH : ∀ a o, H1 a = some o → H3 a = some o := fun a o q => E3.fr a o (up q) (nU (nx q).1)
          have nfH : ∀ a, H1 a ≠ none → ¬ (U F3 a ∨ G3 a) := fun a n => by
            obtain ⟨o, q⟩ := some_of n
            exact E3.nf a (by rw [up q]; exact fun z => nomatch z) (nU (nx q).1)
          have H1n : ∀ a, H a ≠ none → ¬ U F a → H1 a ≠ none := fun a z n => by
            cases q : H a with
            | none => exact absurd q z
            | some o => rw [EE.fr a o q n]; exact fun z => nomatch z
          have S4 : St K B3 H3 σ ρ2 F2 := by
            refine ⟨S3.bh, fun j u z => ?_, fun j a z => ?_, fun j a z => ?_, S2.dj, S2.ln⟩
            · obtain ⟨w, c1, c2⟩ := S2.sl j u z
              exact ⟨w, c1, c2.frame E3.bb fun a o _ q => frH a o q⟩
            · obtain ⟨o, q⟩ := some_of (S2.al j a z)
              exact E3.nb a (by rw [up q]; exact fun z => nomatch z) (nU (nx q).1) (S2.nb j a z)
            · obtain ⟨o, q⟩ := some_of (S2.al j a z)
              rw [frH a o q]
              exact fun z => nomatch z
          refine k (.ref x) B3 H3 F2 (F3 0) ⟨EE.bb.trans E3.bb, fun a o z n => frH a o (EE.fr a o z n), fun a z n y => ?_, fun a z n y => ?_⟩ S4 ⟨k2, S3.nb 0, S3.al 0, fun j a z w => ?_⟩
          · obtain ⟨o, q⟩ := some_of (H1n a z n)
            exact E3.nb a (by rw [up q]; exact fun z => nomatch z) (nU (nx q).1) (EE.nb a z n y)
          · rcases y with y | y
            · exact EE.nf a z n y
            · exact nfH a (H1n a z n) (Or.inl ⟨0, y⟩)
          · exact nfH a (S2.al j a w) (Or.inl ⟨0, z⟩)
        | _ => cases e
/-- the class c can be made: its __init__ is the pure fn -/
def MadeI (P : Program) (w : World) (K : PySem.W.Frag) (mg : Str → Option Value) (base : Heap) (k : Nat) (c : Str) (n : Nat) (fn : Fn) : Prop :=
  mg c = some (.ref (He.ga K c)) ∧ InsC K (He.ga K c) ∧ ∃ f fd ps, Mk K (He.ga K c) f ∧ FnOk P w K mg base CX0 k f fd ps (spF K n fn) ∧ Binds K fd ps []
theorem c_new {j kk n : Nat} {c : Str} {fn : Fn} {po : Pos} {e : Expr} {es : List Expr} {ms : MA} (G : MadeI X.prog X.w X.K X.mg X.base j c n fn) (hr : Room kk X.A) (ha : PA X (e :: es) (tA X.K p ms)) (hn : ∀ ρ y, ms ρ = some y → y.1.length + 1 = n) (hj : j + 1 ≤ kk := by decide) (hg : Gl X c := by rfl)
    (hdb : (c == ("__debug__" : Str)) = false := by decide) (he : starEach (e :: es) X.env = (false, eval e X.env) :: starEach es X.env := by rfl) (hpl : (backTo pos (starEach es X.env)).any (·.1) = false := by rfl) :
    PE X (.Call (.Name c po) (e :: es) [] pos) (tO X.K (oNew c fn ms)) := by
  obtain ⟨h1, T, f, fd, ps, M, F, hb⟩ := G
  exact peW (pe_make M F (hr.mono hj) hg h1 hb .nil pass0 ha hdb he hpl) fun _ _ _ h => tO_new T hn h
end
end DL

end

section
set_option Elab.async false
set_option linter.all false
set_option maxRecDepth 100000
set_option maxHeartbeats 2000000
/-! EK: an own class with its __init__ as a pure fn. -/
namespace DL
open PySem L2
open PyProof.Rows (envOfC)
/-- the class c of the module, its __init__ the def st -/
def IsIni (K : PySem.W.Frag) (mg : Str → Option Value) (c q : Str) (st : Stmt) : Prop :=
  mg c = some (.ref (He.ga K c)) ∧ InsC K (He.ga K c) ∧ ∃ f fd, FunD K "__init__" q (defArgs st) (defBody st) (defScope st) [] [] f fd ∧ Mk K (He.ga K c) f
theorem ini_def {P : Program} {w : World} {K : PySem.W.Frag} {mg : Str → Option Value} {base : Heap} {c q : Str} {st : Stmt} {N ps : List Str} {k n : Nat} {io : Nat → Bool} {m : MS} (F : IsIni K mg c q st) (S : FnScope N ps (defScope st)) (hn : ps.length = n)
    (hbd : ∀ (dV kV doc pm : Value) (an : Option Addr) (cdv ct : Value) (us : List Value), us.length = ps.length → bindArgs (PySem.W.fnOf "__init__" q (defArgs st) (defBody st) (defScope st) .none kV doc pm an cdv ct) ⟨us, []⟩ = pure (ps.zip us))
    (hb : ∀ (f : Addr) (cdv : Value) (A : Around) (outer : List PySem.Env) (s : Shared) (H : Hp) (E : XK), Room k (A.deeper (envOfC q (defScope st) s.heap.objs.size f cdv)) → PSs (cxOf CX0 P w K mg base N q (defScope st) f cdv A outer s H E).nox (defBody st) (tS K (io0 io) m)) :
    MadeI P w K mg base (k + 1) c n (fnD N.length io m) := by
  obtain ⟨hg, T, f, fd, F, M⟩ := F
  refine ⟨hg, T, f, fd, ps, M, F.ok S (fun vs H Q E h => ?_) (fun cdv A outer s H vs Q E hr h => ⟨tS K (io0 io) m, (hb f cdv A outer s H E hr).nox, fn_read h⟩), F.bindsN fun kV doc pm an cdv ct us hl => hbd .none kV doc pm an cdv ct us hl⟩
  obtain ⟨B, ts, F', h1, _⟩ := h
  rw [h1, hn]
end DL

end

section
set_option Elab.async false
set_option linter.all false
set_option maxRecDepth 100000
set_option maxHeartbeats 2000000
/-! EL: the head's hook where classes are made besides. -/
namespace DL
open PySem PySem.Spec PySem.Calls PyProof.Rows L2
abbrev InsJ : Type := Str × Str × Stmt
def mkIni (e : InsJ) : He.DefD := ⟨(e.1, some "__init__"), "__init__", e.2.1, defArgs e.2.2, defBody e.2.2, defScope e.2.2, [], []⟩
def insB (K : PySem.W.Frag) (e : InsJ) : Bool :=
  (He.Fa.glo e.1).ok K && ((He.Fa.cls e.1).ok K && ((He.Fa.mkr e.1).ok K && (He.eqO (PySem.W.findIn K (.ref (He.ga K e.1)) "__class__") (some (some (.builtin "object.__class__"))) &&
    (He.eqO (PySem.W.specialIn K (.builtin "object.__class__") "__get__") (some (some (.builtin "getset_descriptor.__get__"))) && (decide (PySem.W.takesIn K (.builtin "object.__class__") = some true) &&
    (decide (PySem.W.mroIn K (He.ga K e.1) (.type "object") = some true) && (kitB2 K (He.ga K e.1) && (mkIni e).ok K)))))))
theorem ins_says {K : PySem.W.Frag} {h : Heap} {mg : Str → Option Value} {e : InsJ} (X : K.In h) (G : h.Ns mainGlobals mg) (b : insB K e = true) (v : He.fnW K (mkIni e).at_ = (mkIni e).val) : IsIni K mg e.1 e.2.1 e.2.2 := by
  obtain ⟨b1, b⟩ := He.ba b
  obtain ⟨b2, b⟩ := He.ba b
  obtain ⟨b3, b⟩ := He.ba b
  obtain ⟨b4, b⟩ := He.ba b
  obtain ⟨b5, b⟩ := He.ba b
  obtain ⟨b6, b⟩ := He.ba b
  obtain ⟨b7, b⟩ := He.ba b
  obtain ⟨b8, b9⟩ := He.ba b
  obtain ⟨fd, F⟩ := He.DefD.funD v b9
  exact ⟨He.glo_ok X G b1, ⟨He.cls_ok b2, He.eqO_ok b4, He.eqO_ok b5, of_decide_eq_true b6, of_decide_eq_true b7, kitB2_ok b8⟩, _, fd, F, He.mkr_ok b3⟩
structure HY where
  x : HX
  ins : List InsJ
abbrev AlY : Type := AlX × Bool × List He.FnW
def obsY (h : HY) (K : PySem.W.Frag) : AlY := (obsX h.x K, h.ins.all fun e => insB K e, h.ins.map fun e => He.fnW K (mkIni e).at_)
def valY (h : HY) : AlY := (valX h.x, true, h.ins.map fun e => (mkIni e).val)
def SaysY (h : HY) (K : PySem.W.Frag) : Prop := obsY h K = valY h
def obsYG (n : Nat) (h : HY) (g : Addr → Option Obj) : AlY := obsY h (He.frG g (asJ g n))
def hookY (n : Nat) (h : HY) : PySem.W.Hook where
  α := AlY
  obs := fun s => obsYG n h s.heap.get?
  val := fun _ => valY h
  says := fun _ hp => ∃ K : PySem.W.Frag, K.In hp ∧ SaysY h K
  of := fun _ _ e => ⟨_, He.frG_in, e⟩
  keeps := fun _ _ _ ⟨K, hK, c⟩ k => ⟨K, PySem.W.Frag.In.keeps hK k, c⟩
theorem obsYG_eq {n : Nat} {h : HY} {g : Addr → Option Obj} {s : Shared} (e : ∀ a, g a = s.heap.get? a) : obsYG n h g = (hookY n h).obs s := by
  have e : g = s.heap.get? := funext e
  rw [e] <;> rfl
section
variable {h : HY} {K : PySem.W.Frag} {hp : Heap} {mg : Str → Option Value}
theorem SaysY.x (c : SaysY h K) : SaysX h.x K := congrArg (fun z : AlY => z.1) c
theorem SaysY.ini (c : SaysY h K) (X : K.In hp) (G : hp.Ns mainGlobals mg) (i : Nat) {e : InsJ} (q : h.ins[i]? = some e := by rfl) : IsIni K mg e.1 e.2.1 e.2.2 := by
  have h1 := List.all_eq_true.mp (congrArg (fun z : AlY => z.2.1) c : (h.ins.all fun e => insB K e) = true) e (List.mem_of_getElem? q)
  have e1 : h.ins.map (fun e => He.fnW K (mkIni e).at_) = h.ins.map fun e => (mkIni e).val := congrArg (fun z : AlY => z.2.2) c
  have e2 : (h.ins.map fun e => He.fnW K (mkIni e).at_)[i]? = (h.ins.map fun e => (mkIni e).val)[i]? := by rw [e1]
  rw [List.getElem?_map, List.getElem?_map, q] at e2
  exact ins_says X G h1 (Option.some.inj e2)
end
end DL

end

section
set_option Elab.async false
set_option linter.all false
set_option maxRecDepth 100000
/-! PA: going through the printed functions: W x Q: the step ends, and Q holds of what it gives. -/
namespace DL
open PySem L2
def W {α : Type} (x : Option (α × Env)) (Q : α → Env → Prop) : Prop := ∃ a ρ, x = some (a, ρ) ∧ Q a ρ
def Fok (x : Option (T × List T)) (Q : T → List T → Prop) : Prop := ∃ r ts, x = some (r, ts) ∧ Q r ts
def FB {α : Type} (x : Option α) (Q : α → Prop) : Prop := ∃ r, x = some r ∧ Q r
section
variable {α β : Type} {ρ ρ' : Env} {d e u w : D} {i j : Nat} {q : Bool} {k : Bool}
theorem W.bind {x : Option (α × Env)} {f : α × Env → Option (β × Env)} {Q : β → Env → Prop} (h : W x fun a ρ => W (f (a, ρ)) Q) : W (x.bind f) Q := by
  obtain ⟨a, ρ, e, h⟩ := h
  rw [e]
  exact h
theorem W.imp {x : Option (α × Env)} {Q R : α → Env → Prop} (h : W x Q) (k : ∀ a ρ, Q a ρ → R a ρ) : W x R := by
  obtain ⟨a, ρ, e, h⟩ := h
  exact ⟨a, ρ, e, k a ρ h⟩
theorem Fok.imp {x : Option (T × List T)} {Q R : T → List T → Prop} (h : Fok x Q) (k : ∀ a ρ, Q a ρ → R a ρ) : Fok x R := by
  obtain ⟨a, ρ, e, h⟩ := h
  exact ⟨a, ρ, e, k a ρ h⟩
theorem Fok.of {x : Option (T × List T)} {r : T} {ts : List T} {Q : T → List T → Prop} (e : x = some (r, ts)) (h : Q r ts) : Fok x Q := ⟨_, _, e, h⟩
theorem Fok.eq {x : Option (T × List T)} {r : T} {ts : List T} (h : Fok x fun a b => a = r ∧ b = ts) : x = some (r, ts) := by
  obtain ⟨_, _, e, rfl, rfl⟩ := h
  exact e
theorem W.of {x : Option (α × Env)} {a : α} {Q : α → Env → Prop} (e : x = some (a, ρ)) (h : Q a ρ) : W x Q := ⟨_, _, e, h⟩
theorem W.eq {x : Option (α × Env)} {a : α} (h : W x fun b ρ' => b = a ∧ ρ' = ρ) : x = some (a, ρ) := by
  obtain ⟨_, _, e, rfl, rfl⟩ := h
  exact e
theorem W.b {x : Option α} {f : α → Option (β × Env)} {Q : β → Env → Prop} (h : FB x fun a => W (f a) Q) : W (x.bind f) Q := by
  obtain ⟨a, e, h⟩ := h
  rw [e]
  exact h
theorem W.ok {a : α} {Q : α → Env → Prop} (h : Q a ρ) : W (some (a, ρ)) Q := ⟨_, _, rfl, h⟩
theorem FB.of {x : Option α} {r : α} {Q : α → Prop} (e : x = some r) (h : Q r) : FB x Q := ⟨_, e, h⟩
theorem FB.or1 {x y : Option α} {Q : α → Prop} (h : FB x Q) : FB (x.or y) Q := by
  obtain ⟨r, e, h⟩ := h
  rw [e]
  exact ⟨r, rfl, h⟩
theorem FB.bind {x : Option α} {f : α → Option β} {Q : β → Prop} (h : FB x fun a => FB (f a) Q) : FB (x.bind f) Q := by
  obtain ⟨a, e, h⟩ := h
  rw [e]
  exact h
/-! ### the frame -/
def Kset (i : Nat) (x : Option T) (ρ : Env) (Q : Env → Prop) : Prop := Q (ρ.set i x)
theorem Kset_0 {x y : Option T} {Q : Env → Prop} (h : Q (x :: ρ)) : Kset 0 x (y :: ρ) Q := h
theorem Kset_s {x y : Option T} {Q : Env → Prop} (h : Kset i x ρ fun r => Q (y :: r)) : Kset (i + 1) x (y :: ρ) Q := h
def Kput (i : Nat) (t : T) (ρ : Env) (Q : Env → Prop) : Prop := i < ρ.length ∧ Kset i (some t) ρ Q
theorem Kput_0 {t : T} {y : Option T} {Q : Env → Prop} (h : Q (some t :: ρ)) : Kput 0 t (y :: ρ) Q := ⟨by simp, h⟩
theorem Kput_s {t : T} {y : Option T} {Q : Env → Prop} (h : Kput i t ρ fun r => Q (y :: r)) : Kput (i + 1) t (y :: ρ) Q := ⟨by simp [h.1], h.2⟩
theorem put_K {t : T} {Q : Env → Prop} (h : Kput i t ρ Q) : FB (put i t ρ) Q := ⟨_, if_pos h.1, h.2⟩
def Kwipe (vs : List Nat) (ρ : Env) (Q : Env → Prop) : Prop := Q (wipeR ρ vs)
theorem Kwipe_nil {Q : Env → Prop} (h : Q ρ) : Kwipe [] ρ Q := h
theorem Kwipe_cons {v : Nat} {vs : List Nat} {Q : Env → Prop} (h : Kwipe vs ρ fun r => Kset v none r Q) : Kwipe (v :: vs) ρ Q := h
def Krest (ρ0 : Env) (vs : List Nat) (ρ : Env) (Q : Env → Prop) : Prop := Q (rest ρ0 vs ρ)
theorem Krest_nil {ρ0 : Env} {Q : Env → Prop} (h : Q ρ) : Krest ρ0 [] ρ Q := h
theorem Krest_n {ρ0 : Env} {v : Nat} {vs : List Nat} {Q : Env → Prop} (z : ρ0.t v = none) (h : Krest ρ0 vs ρ Q) : Krest ρ0 (v :: vs) ρ Q := by
  unfold Krest rest
  rw [z]
  exact h
theorem Krest_f {ρ0 : Env} {v : Nat} {vs : List Nat} {Q : Env → Prop} (z : ρ0.t v = some (.fz d)) (h : Krest ρ0 vs ρ fun r => Kset v (some (.fz d)) r Q) : Krest ρ0 (v :: vs) ρ Q := by
  unfold Krest rest
  rw [z]
  exact h
/-! ### expressions -/
section
variable {Q : Arg → Env → Prop} {a b c : M} {f g : D → D → Option D}
theorem W_eK (h : Q (.vl d) ρ) : W (eK d ρ) Q := ⟨_, _, rfl, h⟩
theorem W_eVf (z : ρ.t i = some (.fz d)) (h : Q (.vl d) ρ) : W (eV i ρ) Q := ⟨_, _, by unfold eV; rw [z], h⟩
theorem W_eVr {kk : DK} {ts : List T} (z : ρ.t i = some (.nd kk ts)) (h : Q (.rf i []) ρ) : W (eV i ρ) Q := ⟨_, _, by unfold eV; rw [z], h⟩
def KB2 (q : Bool) (f : D → D → Option D) (x : Arg) (Q : Arg → Env → Prop) (y : Arg) (ρ : Env) : Prop := guard q x = false ∧ FB (deref ρ x) fun u => FB (deref ρ y) fun w => FB (f u w) fun r => Q (.vl r) ρ
theorem W_eB (h : W (a ρ) fun x ρ1 => W (b ρ1) (KB2 q f x Q)) : W (eB q f a b ρ) Q := .bind (h.imp fun x ρ1 h => .bind (h.imp fun y ρ2 h => by
  obtain ⟨h1, h2⟩ := h
  show W (if guard q x = true then none else _) _
  rw [h1, if_neg (fun z => nomatch z)]
  obtain ⟨u, e1, h2⟩ := h2
  obtain ⟨w, e2, h2⟩ := h2
  obtain ⟨r, e3, h2⟩ := h2
  show W ((deref ρ2 x).bind fun u => (deref ρ2 y).bind fun w => (f u w).bind fun r => some (Arg.vl r, ρ2)) _
  rw [e1]
  show W ((deref ρ2 y).bind fun w => (f u w).bind fun r => some (Arg.vl r, ρ2)) _
  rw [e2]
  show W ((f u w).bind fun r => some (Arg.vl r, ρ2)) _
  rw [e3]
  exact .ok h2))
theorem guard_vl : guard q (.vl d) = false := by cases q <;> rfl
theorem guard_0 : guard q (.rf i []) = false := by cases q <;> rfl
theorem guard_t {x : Arg} : guard true x = false := rfl
theorem KB2_vv (h : FB (f u w) fun r => Q (.vl r) ρ) : KB2 q f (.vl u) Q (.vl w) ρ := ⟨guard_vl, u, rfl, w, rfl, h⟩
theorem KB2_rv {π : List Nat} {s : T} (z : (ρ.t i).bind (tAt π) = some s) (z2 : s.sh = some u) (h : FB (f u w) fun r => Q (.vl r) ρ) : KB2 true f (.rf i π) Q (.vl w) ρ := ⟨guard_t, u, by show ((ρ.t i).bind (tAt π)).bind T.sh = _; rw [z]; exact z2, w, rfl, h⟩
theorem KB2_0v {s : T} (z : ρ.t i = some s) (z2 : s.sh = some u) (h : FB (f u w) fun r => Q (.vl r) ρ) : KB2 q f (.rf i []) Q (.vl w) ρ := ⟨guard_0, u, by show ((ρ.t i).bind (tAt [])).bind T.sh = _; rw [z]; exact z2, w, rfl, h⟩
theorem KB2_v0 {s : T} (z : ρ.t i = some s) (z2 : s.sh = some w) (h : FB (f u w) fun r => Q (.vl r) ρ) : KB2 q f (.vl u) Q (.rf i []) ρ := ⟨guard_vl, u, rfl, w, by show ((ρ.t i).bind (tAt [])).bind T.sh = _; rw [z]; exact z2, h⟩
def KAnd (b : M) (Q : Arg → Env → Prop) : Arg → Env → Prop
  | .vl (.bl true), ρ => W (b ρ) Q
  | .vl (.bl false), ρ => Q (.vl (.bl false)) ρ
  | _, _ => False
def KOr (b : M) (Q : Arg → Env → Prop) : Arg → Env → Prop
  | .vl (.bl false), ρ => W (b ρ) Q
  | .vl (.bl true), ρ => Q (.vl (.bl true)) ρ
  | _, _ => False
theorem W_eAnd (h : W (a ρ) (KAnd b Q)) : W (eAnd a b ρ) Q := .bind (h.imp fun x ρ1 h => by
  unfold KAnd at h
  split at h
  · exact h
  · exact .ok h
  · exact h.elim)
theorem W_eOr (h : W (a ρ) (KOr b Q)) : W (eOr a b ρ) Q := .bind (h.imp fun x ρ1 h => by
  unfold KOr at h
  split at h
  · exact h
  · exact .ok h
  · exact h.elim)
theorem KAnd_t (h : W (b ρ) Q) : KAnd b Q (.vl (.bl true)) ρ := h
theorem KAnd_f (h : Q (.vl (.bl false)) ρ) : KAnd b Q (.vl (.bl false)) ρ := h
theorem KOr_f (h : W (b ρ) Q) : KOr b Q (.vl (.bl false)) ρ := h
theorem KOr_t (h : Q (.vl (.bl true)) ρ) : KOr b Q (.vl (.bl true)) ρ := h
/-- the other side is gone through whatever k is -/
theorem KAnd_p (h : W (b ρ) fun y ρ' => ρ' = ρ ∧ ∃ k', y = .vl (.bl k') ∧ Q (.vl (.bl (k && k'))) ρ) : KAnd b Q (.vl (.bl k)) ρ := by
  obtain ⟨y, _, e, rfl, k', rfl, h⟩ := h
  cases k with
  | true => exact ⟨_, _, e, h⟩
  | false => exact h
theorem KOr_p (h : W (b ρ) fun y ρ' => ρ' = ρ ∧ ∃ k', y = .vl (.bl k') ∧ Q (.vl (.bl (k || k'))) ρ) : KOr b Q (.vl (.bl k)) ρ := by
  obtain ⟨y, _, e, rfl, k', rfl, h⟩ := h
  cases k with
  | false => exact ⟨_, _, e, h⟩
  | true => exact h
theorem KAnd_s (h1 : k = true → W (b ρ) Q) (h2 : k = false → Q (.vl (.bl false)) ρ) : KAnd b Q (.vl (.bl k)) ρ := by
  cases k with
  | true => exact h1 rfl
  | false => exact h2 rfl
theorem KOr_s (h1 : k = true → Q (.vl (.bl true)) ρ) (h2 : k = false → W (b ρ) Q) : KOr b Q (.vl (.bl k)) ρ := by
  cases k with
  | true => exact h1 rfl
  | false => exact h2 rfl
def KNot (Q : Arg → Env → Prop) : Arg → Env → Prop
  | .vl (.bl k), ρ => Q (.vl (.bl (!k))) ρ
  | _, _ => False
theorem W_eNot (h : W (a ρ) (KNot Q)) : W (eNot a ρ) Q := .bind (h.imp fun x ρ1 h => by
  unfold KNot at h
  split at h
  · exact .ok h
  · exact h.elim)
theorem KNot_ (h : Q (.vl (.bl (!k))) ρ) : KNot Q (.vl (.bl k)) ρ := h
def Kif {α : Type} (a b : Env → Option (α × Env)) (Q : α → Env → Prop) (k : Bool) (ρ : Env) : Prop := if k = true then W (a ρ) Q else W (b ρ) Q
theorem Kif_t {a b : Env → Option (α × Env)} {Q : α → Env → Prop} (h : W (a ρ) Q) : Kif a b Q true ρ := h
theorem Kif_f {a b : Env → Option (α × Env)} {Q : α → Env → Prop} (h : W (b ρ) Q) : Kif a b Q false ρ := h
theorem Kif_s {a b : Env → Option (α × Env)} {Q : α → Env → Prop} (h1 : k = true → W (a ρ) Q) (h2 : k = false → W (b ρ) Q) : Kif a b Q k ρ := by
  cases k with
  | true => exact h1 rfl
  | false => exact h2 rfl
theorem Kif_d {p : Prop} [Decidable p] {a b : Env → Option (α × Env)} {Q : α → Env → Prop} (h1 : p → W (a ρ) Q) (h2 : ¬ p → W (b ρ) Q) : Kif a b Q (decide p) ρ := Kif_s (fun z => h1 (of_decide_eq_true z)) fun z => h2 (of_decide_eq_false z)
theorem Kif_y {a b : Env → Option (α × Env)} {Q : α → Env → Prop} (z : k = true) (h : W (a ρ) Q) : Kif a b Q k ρ := by rw [z]; exact h
theorem Kif_n {a b : Env → Option (α × Env)} {Q : α → Env → Prop} (z : k = false) (h : W (b ρ) Q) : Kif a b Q k ρ := by rw [z]; exact h
theorem W_ite {a b : Env → Option (α × Env)} {Q : α → Env → Prop} (h : Kif a b Q k ρ) : W (if k = true then a ρ else b ρ) Q := by
  cases k with
  | true => exact h
  | false => exact h
theorem W_eIf {m : MT} (h : W (m ρ) (Kif a b Q)) : W (eIf m a b ρ) Q := .bind (h.imp fun x ρ1 h => W_ite h)
def KU1 (f : D → Option D) (Q : Arg → Env → Prop) (x : Arg) (ρ : Env) : Prop := FB (deref ρ x) fun u => FB (f u) fun r => Q (.vl r) ρ
theorem W_eU1 {f : D → Option D} (h : W (a ρ) (KU1 f Q)) : W (eU1 f a ρ) Q := .bind (h.imp fun x ρ1 ⟨u, e1, r, e2, h⟩ => by
  show W ((deref ρ1 x).bind fun d => (f d).bind fun r => some (Arg.vl r, ρ1)) _
  rw [e1]
  show W ((f u).bind fun r => some (Arg.vl r, ρ1)) _
  rw [e2]
  exact .ok h)
theorem KU1_v {f : D → Option D} (h : FB (f d) fun r => Q (.vl r) ρ) : KU1 f Q (.vl d) ρ := ⟨_, rfl, h⟩
theorem KU1_0 {f : D → Option D} {s : T} (z : ρ.t i = some s) (z2 : s.sh = some d) (h : FB (f d) fun r => Q (.vl r) ρ) : KU1 f Q (.rf i []) ρ := ⟨d, by show ((ρ.t i).bind (tAt [])).bind T.sh = _; rw [z]; exact z2, h⟩
/-! arguments -/
theorem W_mNil {Q : List Arg → Env → Prop} (h : Q [] ρ) : W (mNil ρ) Q := .ok h
def KC (q : Bool) (x : Arg) (Q : List Arg → Env → Prop) (ys : List Arg) (ρ : Env) : Prop := guard q x = false ∧ Q (x :: ys) ρ
theorem W_mCons {as : MA} {Q : List Arg → Env → Prop} (h : W (a ρ) fun x ρ1 => W (as ρ1) (KC q x Q)) : W (mCons q a as ρ) Q := .bind (h.imp fun x ρ1 h => .bind (h.imp fun y ρ2 h => by
  show W (if guard q x = true then none else _) _
  rw [h.1, if_neg (fun z => nomatch z)]
  exact .ok h.2))
theorem KC_v {ys : List Arg} {Q : List Arg → Env → Prop} (h : Q (.vl d :: ys) ρ) : KC q (.vl d) Q ys ρ := ⟨guard_vl, h⟩
theorem KC_0 {ys : List Arg} {Q : List Arg → Env → Prop} (h : Q (.rf i [] :: ys) ρ) : KC q (.rf i []) Q ys ρ := ⟨guard_0, h⟩
theorem KC_t {x : Arg} {ys : List Arg} {Q : List Arg → Env → Prop} (h : Q (x :: ys) ρ) : KC true x Q ys ρ := ⟨guard_t, h⟩
def Kder (ρ : Env) (ys : List Arg) (Q : List D → Prop) : Prop := FB (derefs ρ ys) Q
theorem Kder_n {Q : List D → Prop} (h : Q []) : Kder ρ [] Q := ⟨_, rfl, h⟩
theorem Kder_v {ys : List Arg} {Q : List D → Prop} (h : Kder ρ ys fun ds => Q (d :: ds)) : Kder ρ (.vl d :: ys) Q := by
  obtain ⟨ds, e, h⟩ := h
  exact ⟨_, by show (some d).bind _ = _; rw [e]; rfl, h⟩
theorem Kder_0 {s : T} {ys : List Arg} {Q : List D → Prop} (z : ρ.t i = some s) (z2 : s.sh = some d) (h : Kder ρ ys fun ds => Q (d :: ds)) : Kder ρ (.rf i [] :: ys) Q := by
  obtain ⟨ds, e, h⟩ := h
  exact ⟨_, by show (((ρ.t i).bind (tAt [])).bind T.sh).bind _ = _; rw [z]; show (s.sh).bind _ = _; rw [z2, e]; rfl, h⟩
theorem W_eCB {f : List D → Option D} {as : MA} (h : W (as ρ) fun ys ρ1 => Kder ρ1 ys fun ds => FB (f ds) fun r => Q (.vl r) ρ1) : W (eCB f as ρ) Q := .bind (h.imp fun x ρ1 ⟨u, e1, r, e2, h⟩ => by
  show W ((derefs ρ1 x).bind fun d => (f d).bind fun r => some (Arg.vl r, ρ1)) _
  rw [e1]
  show W ((f u).bind fun r => some (Arg.vl r, ρ1)) _
  rw [e2]
  exact .ok h)
/-- freezing -/
def Kfrz (ρ : Env) (x : Arg) (Q : D → Env → Prop) : Prop := W (frzA ρ x) Q
theorem Kfrz_v {Q : D → Env → Prop} (h : Q d ρ) : Kfrz ρ (.vl d) Q := .ok h
theorem Kfrz_0 {t : T} {Q : D → Env → Prop} (z : ρ.t i = some t) (z2 : t.toD = d) (h : Kset i (some (.fz d)) ρ fun ρ' => Q d ρ') : Kfrz ρ (.rf i []) Q := by
  subst z2
  exact ⟨_, _, by show (ρ.t i).bind _ = _; rw [z]; rfl, h⟩
def Kfrl (ρ : Env) (ys : List Arg) (Q : List D → Env → Prop) : Prop := W (frzL ρ ys) Q
theorem Kfrl_n {Q : List D → Env → Prop} (h : Q [] ρ) : Kfrl ρ [] Q := .ok h
theorem Kfrl_c {x : Arg} {ys : List Arg} {Q : List D → Env → Prop} (h : Kfrz ρ x fun d ρ1 => Kfrl ρ1 ys fun ds ρ2 => Q (d :: ds) ρ2) : Kfrl ρ (x :: ys) Q := .bind (h.imp fun d ρ1 h => .bind (h.imp fun ds ρ2 h => .ok h))
theorem W_eTup {as : MA} (h : W (as ρ) fun ys ρ1 => Kfrl ρ1 ys fun ds ρ2 => small ds = true ∧ Q (.vl (.nd .tup ds)) ρ2) : W (eTup as ρ) Q := .bind (h.imp fun x ρ1 h => .bind (h.imp fun y ρ2 h => by
  show W (if (!small y) = true then none else _) _
  rw [h.1, if_neg (fun z => nomatch z)]
  exact .ok h.2))
theorem KeS {ds : List D} {P : Prop} (z : small ds = true) (h : P) : small ds = true ∧ P := ⟨z, h⟩
/-! what is ours -/
def KeO (Q : Arg → Env → Prop) (t : T) (ρ : Env) : Prop := Q (.vl t.toD) ρ
theorem W_eO {m : MO} (h : W (m ρ) (KeO Q)) : W (eO m ρ) Q := .bind (h.imp fun t ρ1 h => .ok h)
theorem KeO_f (h : Q (.vl d) ρ) : KeO Q (.fz d) ρ := h
theorem toDs_fz : ∀ ds : List D, T.toDs (ds.map .fz) = ds
  | [] => rfl
  | d :: ds => congrArg (d :: ·) (toDs_fz ds)
theorem KeO_m {kk : DK} {ds : List D} (h : Q (.vl (.nd kk ds)) ρ) : KeO Q (.nd kk (ds.map .fz)) ρ := by
  show Q (.vl (.nd kk (T.toDs (ds.map .fz)))) ρ
  rw [toDs_fz]
  exact h
theorem KeO_n {kk : DK} {ts : List T} {ds : List D} (z : T.toDs ts = ds) (h : Q (.vl (.nd kk ds)) ρ) : KeO Q (.nd kk ts) ρ := by
  show Q (.vl (.nd kk (T.toDs ts))) ρ
  rw [z]
  exact h
theorem W_oE {m : M} {Q : T → Env → Prop} (h : W (m ρ) fun x ρ1 => Kfrz ρ1 x fun d ρ2 => Q (.fz d) ρ2) : W (oE m ρ) Q := .bind (h.imp fun x ρ1 h => .bind (h.imp fun y ρ2 h => .ok h))
theorem W_oV {Q : T → Env → Prop} {t : T} (z : ρ.t i = some t) (h : Kset i none ρ fun ρ' => Q t ρ') : W (oV i ρ) Q := ⟨_, _, by unfold oV; rw [z]; rfl, h⟩
theorem W_oDic0 {Q : T → Env → Prop} (h : Q (.nd (.dic []) []) ρ) : W (oDic0 ρ) Q := .ok h
theorem W_osN {Q : List T → Env → Prop} (h : Q [] ρ) : W (osN ρ) Q := .ok h
theorem W_osC {m : MO} {ms : MOs} {Q : List T → Env → Prop} (h : W (m ρ) fun t ρ1 => W (ms ρ1) fun ts ρ2 => Q (t :: ts) ρ2) : W (osC m ms ρ) Q := .bind (h.imp fun x ρ1 h => .bind (h.imp fun y ρ2 h => .ok h))
theorem W_oLs {ms : MOs} {Q : T → Env → Prop} (h : W (ms ρ) fun ts ρ1 => decide (ts.length ≤ 100000) = true ∧ Q (.nd .lst ts) ρ1) : W (oLs ms ρ) Q := .bind (h.imp fun x ρ1 h => by
  show W (if (!decide (x.length ≤ 100000)) = true then none else _) _
  rw [h.1, if_neg (fun z => nomatch z)]
  exact .ok h.2)
/-! slices, chains -/
theorem W_pN {Q : Option Int → Env → Prop} (h : Q none ρ) : W (pN ρ) Q := .ok h
def KpM (Q : Option Int → Env → Prop) : Arg → Env → Prop
  | .vl (.int i), ρ => Q (some i) ρ
  | _, _ => False
theorem W_pM {m : M} {Q : Option Int → Env → Prop} (h : W (m ρ) (KpM Q)) : W (pM m ρ) Q := .bind (h.imp fun x ρ1 h => by
  unfold KpM at h
  split at h
  · exact .ok h
  · exact h.elim)
theorem KpM_ {i : Int} {Q : Option Int → Env → Prop} (h : Q (some i) ρ) : KpM Q (.vl (.int i)) ρ := h
def KSl (f : D → Option Int → Option Int → Option D) (x : Arg) (l u : Option Int) (Q : Arg → Env → Prop) (ρ : Env) : Prop := x.deep = false ∧ FB (deref ρ x) fun d => FB (f d l u) fun r => Q (.vl r) ρ
theorem W_eSl {f : D → Option Int → Option Int → Option D} {lo hi : MP} (h : W (a ρ) fun x ρ1 => W (lo ρ1) fun l ρ2 => W (hi ρ2) fun u ρ3 => KSl f x l u Q ρ3) : W (eSl f a lo hi ρ) Q := by
  obtain ⟨x, ρ1, e1, l, ρ2, e2, u, ρ3, e3, h1, d, e4, r, e5, h⟩ := h
  refine ⟨.vl r, ρ3, ?_, h⟩
  show (a ρ).bind _ = _
  rw [e1]
  show (if x.deep = true then none else _) = _
  rw [h1, if_neg (fun z => nomatch z)]
  show (lo ρ1).bind _ = _
  rw [e2]
  show (hi ρ2).bind _ = _
  rw [e3]
  show (deref ρ3 x).bind _ = _
  rw [e4]
  show (f d l u).bind _ = _
  rw [e5] <;> rfl
theorem KSl_v {f : D → Option Int → Option Int → Option D} {l u : Option Int} (h : FB (f d l u) fun r => Q (.vl r) ρ) : KSl f (.vl d) l u Q ρ := ⟨rfl, d, rfl, h⟩
theorem KSl_0 {f : D → Option Int → Option Int → Option D} {l u : Option Int} {s : T} (z : ρ.t i = some s) (z2 : s.sh = some d) (h : FB (f d l u) fun r => Q (.vl r) ρ) : KSl f (.rf i []) l u Q ρ := ⟨rfl, d, by show ((ρ.t i).bind (tAt [])).bind T.sh = _; rw [z]; exact z2, h⟩
/-! tests -/
def KtM (Q : Bool → Env → Prop) (x : Arg) (ρ : Env) : Prop := FB (deref ρ x) fun d => FB (truD d) fun b => Q b ρ
theorem W_tM {m : M} {Q : Bool → Env → Prop} (h : W (m ρ) (KtM Q)) : W (tM m ρ) Q := .bind (h.imp fun x ρ1 ⟨u, e1, r, e2, h⟩ => by
  show W ((deref ρ1 x).bind fun d => (truD d).bind fun r => some (r, ρ1)) _
  rw [e1]
  show W ((truD u).bind fun r => some (r, ρ1)) _
  rw [e2]
  exact .ok h)
theorem KtM_b {Q : Bool → Env → Prop} (h : Q k ρ) : KtM Q (.vl (.bl k)) ρ := ⟨_, rfl, _, rfl, h⟩
theorem KtM_v {Q : Bool → Env → Prop} (z : truD d = some k) (h : Q k ρ) : KtM Q (.vl d) ρ := ⟨_, rfl, _, z, h⟩
theorem KtM_0 {s : T} {Q : Bool → Env → Prop} (z : ρ.t i = some s) (z2 : s.sh = some d) (z3 : truD d = some k) (h : Q k ρ) : KtM Q (.rf i []) ρ := ⟨_, (by show ((ρ.t i).bind (tAt [])).bind T.sh = _; rw [z]; exact z2), _, z3, h⟩
def KtB (Q : Bool → Env → Prop) : Arg → Env → Prop
  | .vl (.bl k), ρ => Q k ρ
  | _, _ => False
theorem W_tB {Q : Bool → Env → Prop} (h : W (a ρ) fun x ρ1 => W (b ρ1) (KB2 q f x (KtB Q))) : W (tB q f a b ρ) Q := .bind ((W_eB h).imp fun x ρ1 h => by
  unfold KtB at h
  split at h
  · exact .ok h
  · exact h.elim)
theorem KtB_ {Q : Bool → Env → Prop} (h : Q k ρ) : KtB Q (.vl (.bl k)) ρ := h
section
variable {m n : MT} {Q : Bool → Env → Prop}
def KtAnd (n : MT) (Q : Bool → Env → Prop) (k : Bool) (ρ : Env) : Prop := if k = true then W (n ρ) Q else Q false ρ
def KtOr (n : MT) (Q : Bool → Env → Prop) (k : Bool) (ρ : Env) : Prop := if k = true then Q true ρ else W (n ρ) Q
theorem W_tAnd (h : W (m ρ) (KtAnd n Q)) : W (tAndM m n ρ) Q := .bind (h.imp fun x ρ1 h => by
  unfold KtAnd at h
  cases x with
  | true => exact h
  | false => exact .ok h)
theorem W_tOr (h : W (m ρ) (KtOr n Q)) : W (tOrM m n ρ) Q := .bind (h.imp fun x ρ1 h => by
  unfold KtOr at h
  cases x with
  | true => exact .ok h
  | false => exact h)
theorem KtAnd_t (h : W (n ρ) Q) : KtAnd n Q true ρ := h
theorem KtAnd_f (h : Q false ρ) : KtAnd n Q false ρ := h
theorem KtOr_t (h : Q true ρ) : KtOr n Q true ρ := h
theorem KtOr_f (h : W (n ρ) Q) : KtOr n Q false ρ := h
theorem KtAnd_s (h1 : k = true → W (n ρ) Q) (h2 : k = false → Q false ρ) : KtAnd n Q k ρ := by
  cases k with
  | true => exact h1 rfl
  | false => exact h2 rfl
theorem KtOr_s (h1 : k = true → Q true ρ) (h2 : k = false → W (n ρ) Q) : KtOr n Q k ρ := by
  cases k with
  | true => exact h1 rfl
  | false => exact h2 rfl
theorem KtAnd_p (h : W (n ρ) fun k' ρ' => ρ' = ρ ∧ Q (k && k') ρ) : KtAnd n Q k ρ := by
  obtain ⟨y, _, e, rfl, h⟩ := h
  cases k with
  | true => exact ⟨_, _, e, h⟩
  | false => exact h
theorem KtOr_p (h : W (n ρ) fun k' ρ' => ρ' = ρ ∧ Q (k || k') ρ) : KtOr n Q k ρ := by
  obtain ⟨y, _, e, rfl, h⟩ := h
  cases k with
  | true => exact h
  | false => exact ⟨_, _, e, h⟩
theorem W_tNot (h : W (m ρ) fun k ρ1 => Q (!k) ρ1) : W (tNotM m ρ) Q := .bind (h.imp fun x ρ1 h => .ok h)
end
theorem W_eIsi {t : Tg} (h : W (a ρ) fun x ρ1 => FB (deref ρ1 x) fun d => Q (.vl (.bl (isi d.tg t))) ρ1) : W (eIsi t a ρ) Q := .bind (h.imp fun x ρ1 ⟨u, e1, h⟩ => by
  show W ((deref ρ1 x).bind _) _
  rw [e1]
  exact .ok h)
end
end
end DL

end

section
set_option Elab.async false
set_option linter.all false
set_option maxRecDepth 100000
/-! PB: statements, loops, calls. -/
namespace DL
open PySem L2
section
variable {α β : Type} {ρ ρ' : Env} {d e u w : D} {i j : Nat} {q : Bool} {k : Bool}
section
variable {Q : Fl → Env → Prop} {a b : MS}
theorem W_sNx (h : Q .nx ρ) : W (sNx ρ) Q := .ok h
theorem W_sBk (h : Q .bk ρ) : W (sBk ρ) Q := .ok h
theorem W_sCt (h : Q .ct ρ) : W (sCt ρ) Q := .ok h
def Ksq (b : MS) (Q : Fl → Env → Prop) : Fl → Env → Prop
  | .nx, ρ => W (b ρ) Q
  | .bk, ρ => Q .bk ρ
  | .ct, ρ => Q .ct ρ
  | .rt t, ρ => Q (.rt t) ρ
  | .ex c fs ds, ρ => Q (.ex c fs ds) ρ
theorem W_sSq (h : W (a ρ) (Ksq b Q)) : W (sSq a b ρ) Q := .bind (h.imp fun x ρ1 h => by
  cases x with
  | nx => exact h
  | bk => exact .ok h
  | ct => exact .ok h
  | rt t => exact .ok h
  | ex c fs ds => exact .ok h)
theorem Ksq_nx (h : W (b ρ) Q) : Ksq b Q .nx ρ := h
theorem Ksq_bk (h : Q .bk ρ) : Ksq b Q .bk ρ := h
theorem Ksq_ct (h : Q .ct ρ) : Ksq b Q .ct ρ := h
theorem Ksq_rt {t : T} (h : Q (.rt t) ρ) : Ksq b Q (.rt t) ρ := h
theorem Ksq_ex {c : Str} {fs : List Str} {ds : List D} (h : Q (.ex c fs ds) ρ) : Ksq b Q (.ex c fs ds) ρ := h
theorem W_sEx {m : M} (h : W (m ρ) fun _ ρ1 => Q .nx ρ1) : W (sEx m ρ) Q := .bind (h.imp fun x ρ1 h => .ok h)
theorem W_sRt {m : MO} (h : W (m ρ) fun t ρ1 => Q (.rt t) ρ1) : W (sRt m ρ) Q := .bind (h.imp fun x ρ1 h => .ok h)
theorem W_sRtN (h : Q (.rt (.fz .non)) ρ) : W (sRtN ρ) Q := .ok h
theorem W_sIf {c : MT} (h : W (c ρ) (Kif a b Q)) : W (sIf c a b ρ) Q := .bind (h.imp fun x ρ1 h => W_ite h)
theorem W_sAs {m : MO} (h : W (m ρ) fun t ρ1 => Kput i t ρ1 (Q .nx)) : W (sAs i m ρ) Q := .bind (h.imp fun x ρ1 h => by
  obtain ⟨r, e, h⟩ := put_K h
  show W ((put i x ρ1).bind _) _
  rw [e]
  exact .ok h)
def KG (g : MG) (d : D) (ρ : Env) (Q : Env → Prop) : Prop := FB (g d ρ) Q
def KGs (g : MGs) (ds : List D) (ρ : Env) (Q : Env → Prop) : Prop := FB (g ds ρ) Q
theorem KG_nm {Q : Env → Prop} (h : Kput i (.fz d) ρ Q) : KG (gNm i) d ρ Q := put_K h
theorem KGs_n {Q : Env → Prop} (h : Q ρ) : KGs gsN [] ρ Q := ⟨_, rfl, h⟩
theorem KGs_c {g : MG} {gs : MGs} {ds : List D} {Q : Env → Prop} (h : KG g d ρ fun ρ1 => KGs gs ds ρ1 Q) : KGs (gsC g gs) (d :: ds) ρ Q := FB.bind h
theorem KG_tp {n : Nat} {gs : MGs} {ds : List D} {Q : Env → Prop} (z : ds.length = n) (h : KGs gs ds ρ Q) : KG (gTp n gs) (.nd .tup ds) ρ Q := by
  obtain ⟨r, e, h⟩ := h
  exact ⟨r, by show (if ds.length = n then _ else none) = _; rw [if_pos z]; exact e, h⟩
theorem W_sTg {m : M} {g : MG} (h : W (m ρ) fun x ρ1 => Kfrz ρ1 x fun d ρ2 => KG g d ρ2 (Q .nx)) : W (sTg m g ρ) Q := .bind (h.imp fun x ρ1 h => .bind (h.imp fun d ρ2 h => by
  obtain ⟨r, e, h⟩ := h
  show W ((g d ρ2).bind _) _
  rw [e]
  exact .ok h))
theorem W_sPar {ms : MOs} (h : W (ms ρ) fun ts ρ1 => ∃ t u, ts = [t, u] ∧ Kput i t ρ1 fun ρ2 => Kput j u ρ2 (Q .nx)) : W (sPar i j ms ρ) Q := .bind (h.imp fun x ρ1 h => by
  obtain ⟨t, u, rfl, h⟩ := h
  obtain ⟨r, e, h⟩ := put_K h
  obtain ⟨r2, e2, h⟩ := put_K h
  show W ((put i t ρ1).bind _) _
  rw [e]
  show W ((put j u r).bind _) _
  rw [e2]
  exact .ok h)
theorem Kpar {t u : T} {P : T → T → Prop} (h : P t u) : ∃ t' u', [t, u] = [t', u'] ∧ P t' u' := ⟨t, u, rfl, h⟩
theorem W_sAug {m : M} {f : D → D → Option D} (z : ρ.t i = some (.fz d)) (h : W (m ρ) fun x ρ1 => FB (deref ρ1 x) fun e => FB (f d e) fun r => Kput i (.fz r) ρ1 (Q .nx)) : W (sAug i f m ρ) Q := by
  obtain ⟨x, ρ1, e1, e, e2, r, e3, h⟩ := h
  obtain ⟨r2, e4, h⟩ := put_K h
  refine ⟨.nx, r2, ?_, h⟩
  show (ρ.t i).bind _ = _
  rw [z]
  show (m ρ).bind _ = _
  rw [e1]
  show (deref ρ1 x).bind (fun e => (f d e).bind fun r => (put i (.fz r) ρ1).bind fun ρ' => some (Fl.nx, ρ')) = _
  rw [e2]
  show (f d e).bind (fun r => (put i (.fz r) ρ1).bind fun ρ' => some (Fl.nx, ρ')) = _
  rw [e3]
  show (put i (.fz r) ρ1).bind (fun ρ' => some (Fl.nx, ρ')) = _
  rw [e4] <;> rfl
/-! ### loops -/
def Kfor (g : MG) (mb : MS) (ds : List D) (Q : Fl → Env → Prop) : Fl → Env → Prop
  | .nx, ρ => W (forGo g mb ds ρ) Q
  | .ct, ρ => W (forGo g mb ds ρ) Q
  | .bk, ρ => Q .nx ρ
  | .rt t, ρ => Q (.rt t) ρ
  | .ex c fs ds, ρ => Q (.ex c fs ds) ρ
theorem W_for_n {g : MG} {mb : MS} (h : Q .nx ρ) : W (forGo g mb [] ρ) Q := .ok h
theorem W_for_c {g : MG} {mb : MS} {ds : List D} (h : KG g d ρ fun ρ1 => W (mb ρ1) (Kfor g mb ds Q)) : W (forGo g mb (d :: ds) ρ) Q := by
  obtain ⟨ρ1, e, h⟩ := h
  show W ((g d ρ).bind _) _
  rw [e]
  refine W.bind (h.imp fun fl ρ2 h => ?_)
  cases fl with
  | nx => exact h
  | ct => exact h
  | bk => exact .ok h
  | rt t => exact .ok h
  | ex c fs es => exact .ok h
theorem Kfor_nx {g : MG} {mb : MS} {ds : List D} (h : W (forGo g mb ds ρ) Q) : Kfor g mb ds Q .nx ρ := h
theorem Kfor_ct {g : MG} {mb : MS} {ds : List D} (h : W (forGo g mb ds ρ) Q) : Kfor g mb ds Q .ct ρ := h
theorem Kfor_bk {g : MG} {mb : MS} {ds : List D} (h : Q .nx ρ) : Kfor g mb ds Q .bk ρ := h
theorem Kfor_rt {g : MG} {mb : MS} {ds : List D} {t : T} (h : Q (.rt t) ρ) : Kfor g mb ds Q (.rt t) ρ := h
theorem Kfor_ex {g : MG} {mb : MS} {ds : List D} {c : Str} {fs : List Str} {es : List D} (h : Q (.ex c fs es) ρ) : Kfor g mb ds Q (.ex c fs es) ρ := h
theorem W_sFor {mi : MI} {g : MG} {mb : MS} (h : W (mi ρ) fun ds ρ1 => W (forGo g mb ds ρ1) Q) : W (sFor mi g mb ρ) Q := .bind (h.imp fun x ρ1 h => h)
/-- what holds between two turns: I the rest of the items, the frame -/
def Kinv (I : Env → Prop) (Q : Fl → Env → Prop) : Fl → Env → Prop
  | .nx, ρ => I ρ
  | .ct, ρ => I ρ
  | .bk, ρ => Q .nx ρ
  | .rt t, ρ => Q (.rt t) ρ
  | .ex c fs ds, ρ => Q (.ex c fs ds) ρ
theorem for_inv {g : MG} {mb : MS} (I : List D → Env → Prop) (step : ∀ d ds ρ, I (d :: ds) ρ → KG g d ρ fun ρ1 => W (mb ρ1) (Kinv (I ds) Q)) (done : ∀ ρ, I [] ρ → Q .nx ρ) : ∀ (ds : List D) {ρ : Env}, I ds ρ → W (forGo g mb ds ρ) Q
  | [], _, h => W_for_n (done _ h)
  | d :: ds, _, h => by
    refine W_for_c ?_
    obtain ⟨ρ1, e, h⟩ := step d ds _ h
    refine ⟨ρ1, e, h.imp fun fl ρ2 h => ?_⟩
    cases fl with
    | nx => exact for_inv I step done ds h
    | ct => exact for_inv I step done ds h
    | bk => exact h
    | rt t => exact h
    | ex c fs es => exact h
theorem Kinv_nx {I : Env → Prop} (h : I ρ) : Kinv I Q .nx ρ := h
theorem Kinv_ct {I : Env → Prop} (h : I ρ) : Kinv I Q .ct ρ := h
theorem Kinv_bk {I : Env → Prop} (h : Q .nx ρ) : Kinv I Q .bk ρ := h
theorem Kinv_rt {I : Env → Prop} {t : T} (h : Q (.rt t) ρ) : Kinv I Q (.rt t) ρ := h
theorem Kinv_ex {I : Env → Prop} {c : Str} {fs : List Str} {es : List D} (h : Q (.ex c fs es) ρ) : Kinv I Q (.ex c fs es) ρ := h
/-- while: I n holds when at most n turns are left -/
theorem wh_inv {c : MT} {mb : MS} (I : Nat → Env → Prop) (step : ∀ n ρ, I (n + 1) ρ → W (c ρ) fun k ρ1 => if k = true then W (mb ρ1) (Kinv (I n) Q) else Q .nx ρ1) (h0 : ∀ ρ, ¬ I 0 ρ) : ∀ (n : Nat) {ρ : Env}, I n ρ → W (whGo c mb n ρ) Q
  | 0, _, h => (h0 _ h).elim
  | n + 1, _, h => by
    refine W.bind ((step n _ h).imp fun k ρ1 h => ?_)
    cases k with
    | true =>
      refine W.bind (W.imp (show W (mb ρ1) (Kinv (I n) Q) from h) fun fl ρ2 h => ?_)
      cases fl with
      | nx => exact wh_inv I step h0 n h
      | ct => exact wh_inv I step h0 n h
      | bk => exact .ok h
      | rt t => exact .ok h
      | ex c fs es => exact .ok h
    | false => exact .ok h
end
/-! ### what is gone through -/
def Kseq (p : DK → Bool) (Q : List D → Prop) : D → Prop
  | .nd kk ds => p kk = true ∧ Q ds
  | _ => False
theorem W_iSq {p : DK → Bool} {m : M} {Q : List D → Env → Prop} (h : W (m ρ) fun x ρ1 => Kfrz ρ1 x fun d ρ2 => Kseq p (fun ds => Q ds ρ2) d) : W (iSq p m ρ) Q := .bind (h.imp fun x ρ1 h => .bind (h.imp fun d ρ2 h => by
  cases d with
  | nd kk ds =>
    show W (if p kk = true then some (ds, ρ2) else none) Q
    rw [if_pos h.1]
    exact .ok h.2
  | _ => exact h.elim))
theorem Kseq_ {p : DK → Bool} {kk : DK} {ds : List D} {Q : List D → Prop} (z : p kk = true) (h : Q ds) : Kseq p Q (.nd kk ds) := ⟨z, h⟩
def KRg (Q : List D → Env → Prop) : Arg → Env → Prop
  | .vl (.int n), ρ => (-(2 ^ 62) ≤ n ∧ n < 2 ^ 62) ∧ Q (rng 0 n.toNat) ρ
  | _, _ => False
theorem W_iRg1 {m : M} {Q : List D → Env → Prop} (h : W (m ρ) (KRg Q)) : W (iRg1 m ρ) Q := .bind (h.imp fun x ρ1 h => by
  unfold KRg at h
  split at h
  · show W (if _ then _ else none) Q
    rw [if_pos h.1]
    exact .ok h.2
  · exact h.elim)
theorem KRg_ {n : Int} {Q : List D → Env → Prop} (z : -(2 ^ 62) ≤ n ∧ n < 2 ^ 62) (h : Q (rng 0 n.toNat) ρ) : KRg Q (.vl (.int n)) ρ := ⟨z, h⟩
theorem W_iEn {m : M} {Q : List D → Env → Prop} (h : W (iSq DK.isQ m ρ) fun ds ρ1 => Q (enumD 0 ds) ρ1) : W (iEn m ρ) Q := .bind (h.imp fun x ρ1 h => .ok h)
/-! ### comprehensions -/
inductive F2 {α β : Type} (P : α → β → Prop) : List α → List β → Prop
  | nil : F2 P [] []
  | cons {a : α} {b : β} {as : List α} {bs : List β} (h : P a b) (t : F2 P as bs) : F2 P (a :: as) (b :: bs)
section
variable {g : MG} {mt : MT} {me : M} {vs : List Nat}
theorem W_mYes {Q : Bool → Env → Prop} (h : Q true ρ) : W (mYes ρ) Q := .ok h
theorem W_oLc {mi : MI} {Q : T → Env → Prop} (h : W (mi ρ) fun ds ρ1 => Kwipe vs ρ1 fun ρw => W (lcGo g mt me vs ds ρw) fun rs ρ2 => small rs = true ∧ Krest ρ1 vs ρ2 fun ρ3 => Q (.nd .lst (rs.map .fz)) ρ3) : W (oLc mi g mt me vs ρ) Q := .bind (h.imp fun x ρ1 h => .bind (W.imp (show W (lcGo g mt me vs x (wipeR ρ1 vs)) _ from h) fun rs ρ2 h => by
  show W (if (!small rs) = true then none else _) Q
  rw [h.1, if_neg (fun z => nomatch z)]
  exact .ok h.2))
def KLc (g : MG) (mt : MT) (me : M) (vs : List Nat) (ds : List D) (Q : List D → Env → Prop) (k : Bool) (ρ : Env) : Prop :=
  if k = true then W (me ρ) fun x ρ1 => Kfrz ρ1 x fun d ρ2 => Kwipe vs ρ2 fun ρ3 => W (lcGo g mt me vs ds ρ3) fun rs ρ4 => Q (d :: rs) ρ4 else Kwipe vs ρ fun ρ1 => W (lcGo g mt me vs ds ρ1) Q
theorem W_lc_n {Q : List D → Env → Prop} (h : Q [] ρ) : W (lcGo g mt me vs [] ρ) Q := .ok h
theorem W_lc_c {ds : List D} {Q : List D → Env → Prop} (h : KG g d ρ fun ρ1 => W (mt ρ1) (KLc g mt me vs ds Q)) : W (lcGo g mt me vs (d :: ds) ρ) Q := by
  obtain ⟨ρ1, e, h⟩ := h
  show W ((g d ρ).bind _) _
  rw [e]
  refine W.bind (h.imp fun k ρ2 h => ?_)
  cases k with
  | true => exact W.bind (W.imp (show W (me ρ2) _ from h) fun x ρ3 h => W.bind (W.imp h fun d ρ4 h => W.bind (W.imp (show W (lcGo g mt me vs ds (wipeR ρ4 vs)) _ from h) fun rs ρ5 h => .ok h)))
  | false => exact h
theorem KLc_t {ds : List D} {Q : List D → Env → Prop} (h : W (me ρ) fun x ρ1 => Kfrz ρ1 x fun d ρ2 => Kwipe vs ρ2 fun ρ3 => W (lcGo g mt me vs ds ρ3) fun rs ρ4 => Q (d :: rs) ρ4) : KLc g mt me vs ds Q true ρ := h
theorem KLc_f {ds : List D} {Q : List D → Env → Prop} (h : Kwipe vs ρ fun ρ1 => W (lcGo g mt me vs ds ρ1) Q) : KLc g mt me vs ds Q false ρ := h
/-- each item gives one item: P of the item's place and value; J of the frame between two items -/
theorem lc_map {P : D → D → Prop} (J : Env → Prop) (step : ∀ d ρ, J ρ → KG g d ρ fun ρ1 => W (mt ρ1) fun k ρ2 => k = true ∧ W (me ρ2) fun x ρ3 => Kfrz ρ3 x fun r ρ4 => P d r ∧ Kwipe vs ρ4 J) :
    ∀ (ds : List D) {ρ : Env} {Q : List D → Env → Prop}, J ρ → (∀ rs ρ', F2 P ds rs → J ρ' → Q rs ρ') → W (lcGo g mt me vs ds ρ) Q
  | [], _, _, h, k => W_lc_n (k _ _ .nil h)
  | d :: ds, _, _, h, k => by
    refine W_lc_c ?_
    obtain ⟨ρ1, e, h⟩ := step d _ h
    refine ⟨ρ1, e, h.imp fun k' ρ2 h => ?_⟩
    obtain ⟨rfl, h⟩ := h
    refine KLc_t (h.imp fun x ρ3 h => W.imp h fun r ρ4 h => ?_)
    exact lc_map J step ds h.2 fun rs ρ' f hJ => k _ _ (.cons h.1 f) hJ
/-- the same where the items matter -/
theorem lc_mem {ds0 : List D} {P : D → D → Prop} (J : Env → Prop) (step : ∀ d ρ, d ∈ ds0 → J ρ → KG g d ρ fun ρ1 => W (mt ρ1) fun k ρ2 => k = true ∧ W (me ρ2) fun x ρ3 => Kfrz ρ3 x fun r ρ4 => P d r ∧ Kwipe vs ρ4 J) :
    ∀ (ds : List D) {ρ : Env} {Q : List D → Env → Prop}, (∀ d ∈ ds, d ∈ ds0) → J ρ → (∀ rs ρ', F2 P ds rs → J ρ' → Q rs ρ') → W (lcGo g mt me vs ds ρ) Q
  | [], _, _, _, h, k => W_lc_n (k _ _ .nil h)
  | d :: ds, _, _, m, h, k => by
    refine W_lc_c ?_
    obtain ⟨ρ1, e, h⟩ := step d _ (m d (by simp)) h
    refine ⟨ρ1, e, h.imp fun k' ρ2 h => ?_⟩
    obtain ⟨rfl, h⟩ := h
    refine KLc_t (h.imp fun x ρ3 h => W.imp h fun r ρ4 h => ?_)
    exact lc_mem J step ds (fun z hz => m z (by simp [hz])) h.2 fun rs ρ' f hJ => k _ _ (.cons h.1 f) hJ
/-- each item gives F of it -/
theorem lc_fun (F : D → D) (J : Env → Prop) {ds : List D} (step : ∀ d ρ, d ∈ ds → J ρ → KG g d ρ fun ρ1 => W (mt ρ1) fun k ρ2 => k = true ∧ W (me ρ2) fun x ρ3 => Kfrz ρ3 x fun r ρ4 => r = F d ∧ Kwipe vs ρ4 J)
    {ρ : Env} {Q : List D → Env → Prop} (h : J ρ) (k : ∀ ρ', J ρ' → Q (ds.map F) ρ') : W (lcGo g mt me vs ds ρ) Q :=
  lc_mem (P := fun d r => r = F d) J step ds (fun _ z => z) h fun rs ρ' f hJ => by
    have e : rs = ds.map F := by
      clear k h step
      induction f with
      | nil => rfl
      | cons h _ ih => rw [h, ih, List.map_cons]
    rw [e]
    exact k _ hJ
end
/-! ### functions -/
def Kout (io : Nat → Bool) (ρ : Env) (ts : List T) (Q : List T → Prop) : Prop := FB (outs io ρ 0 ts) Q
theorem Kout_ {io : Nat → Bool} {ts ts' : List T} {Q : List T → Prop} (z : outs io ρ 0 ts = some ts') (h : Q ts') : Kout io ρ ts Q := ⟨_, z, h⟩
def Kfn (io : Nat → Bool) (ts : List T) (Q : T → List T → Prop) : Fl → Env → Prop
  | .rt t, ρ => Kout io ρ ts (Q t)
  | .nx, ρ => Kout io ρ ts (Q (.fz .non))
  | _, _ => False
theorem Kfn_rt {io : Nat → Bool} {ts : List T} {Q : T → List T → Prop} {t : T} (h : Kout io ρ ts (Q t)) : Kfn io ts Q (.rt t) ρ := h
theorem Kfn_nx {io : Nat → Bool} {ts : List T} {Q : T → List T → Prop} (h : Kout io ρ ts (Q (.fz .non))) : Kfn io ts Q .nx ρ := h
theorem Fok_fnD {N : Nat} {io : Nat → Bool} {m : MS} {ts : List T} {Q : T → List T → Prop} (h : W (m (ts.map some ++ List.replicate (N - ts.length) none)) (Kfn io ts Q)) : Fok (fnD N io m ts) Q := by
  obtain ⟨fl, ρ, e, h⟩ := h
  unfold Fok fnD
  rw [e]
  cases fl with
  | rt t =>
    obtain ⟨ts', e2, h⟩ := h
    refine ⟨t, ts', ?_, h⟩
    show (outs io ρ 0 ts).bind _ = _
    rw [e2] <;> rfl
  | nx =>
    obtain ⟨ts', e2, h⟩ := h
    refine ⟨.fz .non, ts', ?_, h⟩
    show (outs io ρ 0 ts).bind _ = _
    rw [e2] <;> rfl
  | _ => exact h.elim
/-- a call of frozen values -/
def vls : List D → List Arg := fun ds => ds.map .vl
def KCall (fn : Fn) (Q : T → Env → Prop) (ys : List Arg) (ρ : Env) : Prop := W (oCall fn (fun ρ => some (ys, ρ)) ρ) Q
theorem W_oCall {fn : Fn} {as : MA} {Q : T → Env → Prop} (h : W (as ρ) (KCall fn Q)) : W (oCall fn as ρ) Q := .bind (h.imp fun x ρ1 h => h)
theorem bDs_vls : ∀ ds : List D, bDs ρ (vls ds) = some ds
  | [] => rfl
  | d :: ds => by
    show (some d).bind (fun d => (bDs ρ (vls ds)).bind fun ds => some (d :: ds)) = _
    rw [bDs_vls ds] <;> rfl
theorem frzL_vls : ∀ ds : List D, frzL ρ (vls ds) = some (ds, ρ)
  | [] => rfl
  | d :: ds => by
    show (some (d, ρ)).bind (fun x => (frzL x.2 (vls ds)).bind fun y => some (x.1 :: y.1, y.2)) = _
    show (frzL ρ (vls ds)).bind (fun y => some (d :: y.1, y.2)) = _
    rw [frzL_vls ds] <;> rfl
theorem callB_some {fn : Fn} {ys : List Arg} {d : D} (h : callB fn ρ ys = some d) : ∃ ds r, bDs ρ ys = some ds ∧ fn (ds.map .fz) = some r ∧ r.1 = .fz d := by
  unfold callB at h
  obtain ⟨ds, e1, h⟩ := ob h
  obtain ⟨r, e2, h⟩ := ob h
  refine ⟨ds, r, e1, e2, ?_⟩
  split at h
  · rename_i d' q
    by_cases z : scal d' = true
    · rw [if_pos z] at h
      cases h
      exact q
    · rw [if_neg z] at h
      cases h
  · cases h
theorem KCall_vls {fn : Fn} {Q : T → Env → Prop} {ds : List D} (h : Fok (fn (ds.map .fz)) fun r _ => Q r ρ) : KCall fn Q (vls ds) ρ := by
  obtain ⟨r, ts, e, h⟩ := h
  refine ⟨r, ρ, ?_, h⟩
  show (match callB fn ρ (vls ds) with
    | some d => some (T.fz d, ρ)
    | none => (frzL ρ (vls ds)).bind fun z => (fn (z.1.map .fz)).bind fun r => some (r.1, z.2)) = _
  cases c : callB fn ρ (vls ds) with
  | some d =>
    obtain ⟨ds', r', e1, e2, e3⟩ := callB_some c
    rw [bDs_vls] at e1
    cases e1
    rw [e] at e2
    cases e2
    have e4 : r = .fz d := e3
    rw [e4]
  | none =>
    show (frzL ρ (vls ds)).bind _ = _
    rw [frzL_vls]
    show (fn (ds.map .fz)).bind _ = _
    rw [e] <;> rfl
theorem KCall_1 {fn : Fn} {Q : T → Env → Prop} {d1 : D} (h : Fok (fn [.fz d1]) fun r _ => Q r ρ) : KCall fn Q [.vl d1] ρ := KCall_vls (ds := [d1]) h
theorem KCall_2 {fn : Fn} {Q : T → Env → Prop} {d1 d2 : D} (h : Fok (fn [.fz d1, .fz d2]) fun r _ => Q r ρ) : KCall fn Q [.vl d1, .vl d2] ρ := KCall_vls (ds := [d1, d2]) h
theorem KCall_3 {fn : Fn} {Q : T → Env → Prop} {d1 d2 d3 : D} (h : Fok (fn [.fz d1, .fz d2, .fz d3]) fun r _ => Q r ρ) : KCall fn Q [.vl d1, .vl d2, .vl d3] ρ := KCall_vls (ds := [d1, d2, d3]) h
theorem KCall_4 {fn : Fn} {Q : T → Env → Prop} {d1 d2 d3 d4 : D} (h : Fok (fn [.fz d1, .fz d2, .fz d3, .fz d4]) fun r _ => Q r ρ) : KCall fn Q [.vl d1, .vl d2, .vl d3, .vl d4] ρ := KCall_vls (ds := [d1, d2, d3, d4]) h
/-- a call that gives a plain value: what is ours stays ours -/
theorem KCall_b {fn : Fn} {Q : T → Env → Prop} {ys : List Arg} {ds : List D} (z : bDs ρ ys = some ds) (h : Fok (fn (ds.map .fz)) fun r _ => ∃ d, r = .fz d ∧ scal d = true ∧ Q (.fz d) ρ) : KCall fn Q ys ρ := by
  obtain ⟨r, ts, e, d, rfl, s, h⟩ := h
  refine ⟨.fz d, ρ, ?_, h⟩
  have c : callB fn ρ ys = some d := by
    unfold callB
    rw [z]
    show (fn (ds.map .fz)).bind _ = _
    rw [e]
    show (if scal d = true then some d else none) = _
    rw [if_pos s]
  show (match callB fn ρ ys with
    | some d => some (T.fz d, ρ)
    | none => (frzL ρ ys).bind fun z => (fn (z.1.map .fz)).bind fun r => some (r.1, z.2)) = _
  rw [c]
/-- a call that gives a node: its arguments are frozen -/
theorem KCall_z {fn : Fn} {Q : T → Env → Prop} {ys : List Arg} {ds : List D} (z : bDs ρ ys = some ds) (h : Kfrl ρ ys fun ds' ρ' => ds' = ds ∧ Fok (fn (ds.map .fz)) fun r _ => (∀ d, r = .fz d → scal d = false) ∧ Q r ρ') : KCall fn Q ys ρ := by
  obtain ⟨_, ρ', e1, rfl, r, ts, e2, s, h⟩ := h
  refine ⟨r, ρ', ?_, h⟩
  have c : callB fn ρ ys = none := by
    unfold callB
    rw [z]
    show (fn _).bind _ = _
    rw [e2]
    show (match r with
      | .fz d => if scal d = true then some d else none
      | _ => none) = _
    cases r with
    | fz d =>
      show (if scal d = true then some d else none) = none
      rw [s d rfl]
      rfl
    | nd _ _ => rfl
  show (match callB fn ρ ys with
    | some d => some (T.fz d, ρ)
    | none => (frzL ρ ys).bind fun z => (fn (z.1.map .fz)).bind fun r => some (r.1, z.2)) = _
  rw [c]
  show (frzL ρ ys).bind _ = _
  rw [e1]
  show (fn _).bind _ = _
  rw [e2] <;> rfl
def KIO (fn : Fn) (t : T) (ds : List D) (Q : T → List T → Prop) : Prop := Fok (fn (t :: ds.map .fz)) Q
theorem KIO_0 {fn : Fn} {t : T} {Q : T → List T → Prop} (h : Fok (fn [t]) Q) : KIO fn t [] Q := h
theorem KIO_1 {fn : Fn} {t : T} {d1 : D} {Q : T → List T → Prop} (h : Fok (fn [t, .fz d1]) Q) : KIO fn t [d1] Q := h
theorem KIO_2 {fn : Fn} {t : T} {d1 d2 : D} {Q : T → List T → Prop} (h : Fok (fn [t, .fz d1, .fz d2]) Q) : KIO fn t [d1, d2] Q := h
theorem KIO_3 {fn : Fn} {t : T} {d1 d2 d3 : D} {Q : T → List T → Prop} (h : Fok (fn [t, .fz d1, .fz d2, .fz d3]) Q) : KIO fn t [d1, d2, d3] Q := h
theorem KIO_4 {fn : Fn} {t : T} {d1 d2 d3 d4 : D} {Q : T → List T → Prop} (h : Fok (fn [t, .fz d1, .fz d2, .fz d3, .fz d4]) Q) : KIO fn t [d1, d2, d3, d4] Q := h
theorem FB_t {t : T} {Q : T → Prop} (z : ρ.t i = some t) (h : Q t) : FB (ρ.t i) Q := ⟨_, z, h⟩
/-- a call that changes what slot i holds -/
theorem W_oIO {fn : Fn} {as : MA} {t : T} {Q : T → Env → Prop} (z : ρ.t i = some t) (h : W (as ρ) fun ys ρ1 => Kfrl ρ1 ys fun ds ρ2 => FB (ρ2.t i) fun t2 => KIO fn t2 ds fun r ts => ∃ t' rest, ts = t' :: rest ∧ Kset i (some t') ρ2 fun ρ3 => Q r ρ3) : W (oIO fn i as ρ) Q := by
  obtain ⟨ys, ρ1, e1, ds, ρ2, e2, t2, e3, r, ts, e4, t', rst, rfl, h⟩ := h
  refine ⟨r, ρ2.set i (some t'), ?_, h⟩
  show (ρ.t i).bind _ = _
  rw [z]
  show (as ρ).bind _ = _
  rw [e1]
  show (frzL ρ1 ys).bind _ = _
  rw [e2]
  show (ρ2.t i).bind _ = _
  rw [e3]
  show (fn _).bind _ = _
  rw [e4] <;> rfl
theorem Kts {t : T} {ts : List T} {P : T → Prop} (h : P t) : ∃ t' rest, t :: ts = t' :: rest ∧ P t' := ⟨t, ts, rfl, h⟩
/-! ### changes -/
def Kmut (f : FM) (j : Nat) (ds : List D) (ρ : Env) (Q : D → Env → Prop) : Prop := W (mutAt f j [] ds ρ) Q
theorem Kmut_ {f : FM} {kk k' : DK} {ts ts' : List T} {ds : List D} {g : D} {Q : D → Env → Prop} (z : ρ.t j = some (.nd kk ts)) (z2 : f kk ts ds = some (g, k', ts')) (h : Kset j (some (.nd k' ts')) ρ (Q g)) : Kmut f j ds ρ Q := by
  refine ⟨g, _, ?_, h⟩
  show (ρ.t j).bind _ = _
  rw [z]
  show (f kk ts ds).bind _ = _
  rw [z2] <;> rfl
def KMu (T : String) (q : Bool) (f : FM) (as : MA) (Q : Arg → Env → Prop) (x : Arg) (ρ : Env) : Prop := tyA T ρ x = true ∧ W (as ρ) fun ys ρ1 => guard q x = false ∧ (x.deep && !ys.all Arg.isVl) = false ∧ match x with
  | .rf i π => Kfrl ρ1 ys fun ds ρ2 => W (mutAt f i π ds ρ2) fun r ρ3 => Q (.vl r) ρ3
  | .vl _ => False
theorem W_eMu {T : String} {f : FM} {o : M} {as : MA} {Q : Arg → Env → Prop} (h : W (o ρ) (KMu T q f as Q)) : W (eMu T q f o as ρ) Q := .bind (h.imp fun x ρ1 h => by
  obtain ⟨h1, h⟩ := h
  show W (if (!tyA T ρ1 x) = true then none else _) Q
  rw [h1, if_neg (fun z => nomatch z)]
  refine W.bind (h.imp fun ys ρ2 h => ?_)
  obtain ⟨h2, h3, h⟩ := h
  show W (if guard q x = true then none else if (x.deep && !ys.all Arg.isVl) = true then none else _) Q
  rw [h2, if_neg (fun z => nomatch z), h3, if_neg (fun z => nomatch z)]
  cases x with
  | vl d => exact h.elim
  | rf i π => exact W.bind (W.imp h fun ds ρ3 h => W.bind (h.imp fun r ρ4 h => .ok h)))
theorem KMu_0 {T : String} {f : FM} {as : MA} {Q : Arg → Env → Prop} (z : tyA T ρ (.rf i []) = true) (h : W (as ρ) fun ys ρ1 => Kfrl ρ1 ys fun ds ρ2 => Kmut f i ds ρ2 fun r ρ3 => Q (.vl r) ρ3) : KMu T q f as Q (.rf i []) ρ := ⟨z, h.imp fun ys ρ1 h => ⟨guard_0, rfl, h⟩⟩
theorem W_sSub {f : FM} {e o ix : M} {Q : Fl → Env → Prop} (h : W (e ρ) fun v ρ1 => v.deep = false ∧ W (o ρ1) fun x ρ2 => W (ix ρ2) fun y ρ3 => ∃ j, x = .rf j [] ∧ Kfrl ρ3 [y, v] fun ds ρ4 => Kmut f j ds ρ4 fun _ ρ5 => Q .nx ρ5) : W (sSub q f e o ix ρ) Q := .bind (h.imp fun v ρ1 h => by
  obtain ⟨h1, h⟩ := h
  show W (if v.deep = true then none else _) Q
  rw [h1, if_neg (fun z => nomatch z)]
  refine W.bind (h.imp fun x ρ2 h' => W.bind (h'.imp fun y ρ3 h'' => ?_))
  obtain ⟨j, ex, hk⟩ := h''
  clear h'
  subst ex
  show W (if guard q (.rf j []) = true then none else if (Arg.deep (.rf j []) && !(y.isVl && v.isVl)) = true then none else _) Q
  rw [guard_0, if_neg (fun z => nomatch z), if_neg (fun z => nomatch z)]
  exact W.bind (W.imp hk fun ds ρ4 h => W.bind (W.imp h fun r ρ5 h => .ok h)))
theorem Ksb {x : Nat} {P : Nat → Prop} (h : P x) : ∃ j, Arg.rf x [] = .rf j [] ∧ P j := ⟨x, rfl, h⟩
theorem Kdp {P : Prop} {d : D} (h : P) : Arg.deep (.vl d) = false ∧ P := ⟨rfl, h⟩
/-! ### a < b < c -/
def KCh1 (q r : Bool) (f g : D → D → Option D) (c : M) (x : Arg) (Q : Arg → Env → Prop) (y : Arg) (ρ : Env) : Prop := guard q x = false ∧ guard r y = false ∧ FB (deref ρ x) fun u => FB (deref ρ y) fun w => FB (f u w) fun k => ∃ kb, k = .bl kb ∧ if kb = true then W (c ρ) fun z ρ2 => FB (deref ρ2 y) fun w2 => FB (deref ρ2 z) fun w3 => FB (g w2 w3) fun res => Q (.vl res) ρ2 else Q (.vl (.bl false)) ρ
theorem W_eCh {r : Bool} {f g : D → D → Option D} {a b c : M} {Q : Arg → Env → Prop} (h : W (a ρ) fun x ρ1 => W (b ρ1) (KCh1 q r f g c x Q)) : W (eCh q r f g a b c ρ) Q := .bind (h.imp fun x ρ1 h => .bind (h.imp fun y ρ2 h => by
  obtain ⟨h1, h2, u, e1, w, e2, _, e3, kb, rfl, h⟩ := h
  show W (if guard q x = true then none else if guard r y = true then none else _) Q
  rw [h1, if_neg (fun z => nomatch z), h2, if_neg (fun z => nomatch z)]
  show W ((deref ρ2 x).bind _) Q
  rw [e1]
  show W ((deref ρ2 y).bind _) Q
  rw [e2]
  show W ((f u w).bind _) Q
  rw [e3]
  cases kb with
  | true => exact W.bind (W.imp (show W (c ρ2) _ from h) fun z ρ3 ⟨w2, e4, w3, e5, r, e6, h⟩ => by
      show W ((deref ρ3 y).bind _) Q
      rw [e4]
      show W ((deref ρ3 z).bind _) Q
      rw [e5]
      show W ((g w2 w3).bind _) Q
      rw [e6]
      exact .ok h)
  | false => exact .ok h))
theorem KCh1_vv {r : Bool} {f g : D → D → Option D} {c : M} {Q : Arg → Env → Prop} (h : FB (f u w) fun x => ∃ kb, x = .bl kb ∧ if kb = true then W (c ρ) fun z ρ2 => FB (deref ρ2 z) fun w3 => FB (g w w3) fun res => Q (.vl res) ρ2 else Q (.vl (.bl false)) ρ) : KCh1 q r f g c (.vl u) Q (.vl w) ρ := by
  obtain ⟨x, e, kb, rfl, h⟩ := h
  refine ⟨guard_vl, guard_vl, u, rfl, w, rfl, _, e, kb, rfl, ?_⟩
  cases kb with
  | true => exact W.imp (show W (c ρ) _ from h) fun z ρ2 h => ⟨w, rfl, h⟩
  | false => exact h
end
end DL

end

section
set_option Elab.async false
set_option linter.all false
set_option maxRecDepth 100000
/-! PC: the operations, one by one. -/
namespace DL
open PySem L2
section
variable {i j : Int} {Q : D → Prop} {d e : D} {ds es : List D} {ρ : Env} {n : Nat}
theorem FB_add (h : Q (.int (i + j))) : FB (fAdd (.int i) (.int j)) Q := ⟨_, rfl, h⟩
theorem FB_addI (h : Q (.int (i + j))) : FB (fAddI (.int i) (.int j)) Q := ⟨_, rfl, h⟩
theorem FB_sub (h : Q (.int (i - j))) : FB (fSub (.int i) (.int j)) Q := ⟨_, rfl, h⟩
theorem FB_mul (z : cMul i j = true) (h : Q (.int (i * j))) : FB (fMul (.int i) (.int j)) Q := ⟨_, by
  show ((if cMul i j = true then some (D.int (i * j)) else none).or _) = _
  rw [if_pos z] <;> rfl, h⟩
theorem cMul_l (h : -(2 ^ 64) < i ∧ i < 2 ^ 64) : cMul i j = true := by
  unfold cMul
  rw [decide_eq_true h.1, decide_eq_true h.2] <;> rfl
theorem cMul_r (h : -(2 ^ 64) < j ∧ j < 2 ^ 64) : cMul i j = true := by
  unfold cMul
  rw [decide_eq_true h.1, decide_eq_true h.2, Bool.or_comm] <;> rfl
theorem cMul_fm {m : Int} (h : 0 < m ∧ m ≤ 2 ^ 64) : cMul (i.fmod m) j = true := cMul_l (by
  have h1 := Int.fmod_nonneg_of_pos i h.1
  have h2 := Int.fmod_lt_of_pos i h.1
  omega)
theorem FB_div (z : j ≠ 0 ∧ j.natAbs < 1073741824) (h : Q (.int (i.fdiv j))) : FB (fDiv (.int i) (.int j)) Q := ⟨_, by
  show (if cDiv i j = true then some (D.int (i.fdiv j)) else none) = _
  rw [if_pos (by unfold cDiv; rw [decide_eq_true z.1, decide_eq_true z.2]; rfl)], h⟩
theorem FB_mod (z : j ≠ 0) (h : Q (.int (i.fmod j))) : FB (fMod (.int i) (.int j)) Q := ⟨_, by
  show (if cMod i j = true then some (D.int (i.fmod j)) else none) = _
  rw [if_pos (by unfold cMod; rw [decide_eq_true z])], h⟩
theorem FB_lt (h : Q (.bl (decide (i < j)))) : FB (fLt (.int i) (.int j)) Q := ⟨_, rfl, h⟩
theorem FB_le (h : Q (.bl (decide (i ≤ j)))) : FB (fLe (.int i) (.int j)) Q := ⟨_, rfl, h⟩
theorem FB_gt (h : Q (.bl (decide (j < i)))) : FB (fGt (.int i) (.int j)) Q := ⟨_, rfl, h⟩
theorem FB_ge (h : Q (.bl (decide (j ≤ i)))) : FB (fGe (.int i) (.int j)) Q := ⟨_, rfl, h⟩
theorem eqD_ii : eqD (.int i) (.int j) = some (decide (i = j)) := by
  show some (i == j) = some (decide (i = j))
  congr 1
theorem eqD_bb {a b : Bool} : eqD (.bl a) (.bl b) = some (a == b) := rfl
theorem FB_eq {k : Bool} (z : eqD d e = some k) (h : Q (.bl k)) : FB (fEq d e) Q := ⟨_, by show (eqD d e).map _ = _; rw [z]; rfl, h⟩
theorem FB_ne {k : Bool} (z : eqD d e = some k) (h : Q (.bl (!k))) : FB (fNe d e) Q := ⟨_, by show (eqD d e).map _ = _; rw [z]; rfl, h⟩
theorem FB_is {d : D} (h : Q (.bl (isN d))) : FB (fIs d .non) Q := ⟨_, by unfold fIs; rfl, h⟩
theorem FB_isn {d : D} (h : Q (.bl (!isN d))) : FB (fIsNot d .non) Q := ⟨_, by unfold fIsNot; rfl, h⟩
theorem intsD_map : ∀ ns : List Int, intsD (ns.map D.int) = some ns
  | [] => rfl
  | n :: ns => by
    show (intsD (ns.map D.int)).map (n :: ·) = _
    rw [intsD_map ns] <;> rfl
theorem FB_ltT {ns ms : List Int} (h : Q (.bl (HT.lexLt ns ms))) : FB (fLt (.nd .tup (ns.map .int)) (.nd .tup (ms.map .int))) Q := ⟨_, by
  show (none : Option D).or (((intsD (ns.map D.int)).bind fun ns => (intsD (ms.map D.int)).map fun ms => D.bl (HT.lexLt ns ms)).or _) = _
  rw [intsD_map, intsD_map] <;> rfl, h⟩
theorem FB_leT {ns ms : List Int} (h : Q (.bl (lexLeI ns ms))) : FB (fLe (.nd .tup (ns.map .int)) (.nd .tup (ms.map .int))) Q := ⟨_, by
  show (none : Option D).or ((intsD (ns.map D.int)).bind fun ns => (intsD (ms.map D.int)).map fun ms => D.bl (lexLeI ns ms)) = _
  rw [intsD_map, intsD_map] <;> rfl, h⟩
theorem FB_maxT {ns ms : List Int} (h : Q (.nd .tup ((if HT.lexLt ns ms = true then ms else ns).map .int))) : FB (fMaxT [.nd .tup (ns.map .int), .nd .tup (ms.map .int)]) Q := ⟨_, by
  show ((intsD (ns.map D.int)).bind fun ns' => (intsD (ms.map D.int)).map fun ms' => if HT.lexLt ns' ms' = true then D.nd .tup (ms.map D.int) else .nd .tup (ns.map D.int)) = some (D.nd .tup ((if HT.lexLt ns ms = true then ms else ns).map .int))
  rw [intsD_map, intsD_map]
  show some (if HT.lexLt ns ms = true then D.nd .tup (ms.map D.int) else .nd .tup (ns.map D.int)) = _
  cases HT.lexLt ns ms <;> rfl, h⟩
theorem FB_ix {k : DK} (z : atI ds i = some d) (hq : k.isQ = true) (h : Q d) : FB (fIx (.nd k ds) (.int i)) Q := ⟨_, by
  show (if k.isQ = true then atI ds i else none).or _ = _
  rw [if_pos hq, z] <;> rfl, h⟩
theorem atN {α : Type} {xs : List α} {n : Nat} {x : α} (h : xs[n]? = some x) : atI xs (n : Int) = some x := by
  have hl : n < xs.length := by
    rcases List.getElem?_eq_some_iff.mp h with ⟨h, _⟩
    exact h
  unfold atI ixN
  rw [if_pos (by omega), if_pos (by omega)]
  show xs[(n : Int).toNat]? = _
  rw [Int.toNat_natCast]
  exact h
theorem FB_len {k : DK} (hq : k.isQ = true) (h : Q (.int ds.length)) : FB (f1 fLen [.nd k ds]) Q := ⟨_, by
  show (if k.isQ = true then some (D.int ds.length) else none) = _
  rw [if_pos hq], h⟩
theorem FB_abs (h : Q (.int (if i < 0 then -i else i))) : FB (f1 fAbs [.int i]) Q := ⟨_, rfl, h⟩
theorem FB_int (h : Q (.int i)) : FB (f1 fInt [.int i]) Q := ⟨_, rfl, h⟩
theorem FB_tuple {k : DK} (hq : k.isQ = true) (h : Q (.nd .tup ds)) : FB (f1 fTuple [.nd k ds]) Q := ⟨_, by
  show (if k.isQ = true then some (D.nd .tup ds) else none) = _
  rw [if_pos hq], h⟩
theorem FB_list {k : DK} (hq : k.isQ = true) (h : Q (.nd .lst ds)) : FB (f1 fList [.nd k ds]) Q := ⟨_, by
  show (if k.isQ = true then some (D.nd .lst ds) else none) = _
  rw [if_pos hq], h⟩
theorem bls_map {α : Type} (f : α → Bool) : ∀ xs : List α, bls (xs.map fun x => D.bl (f x)) = some (xs.map f)
  | [] => rfl
  | x :: xs => by
    show (bls (xs.map fun x => D.bl (f x))).map (f x :: ·) = _
    rw [bls_map f xs] <;> rfl
theorem FB_all {k : DK} {bs : List Bool} (hq : k.isL = true) (z : bls ds = some bs) (h : Q (.bl (bs.all id))) : FB (f1 fAll [.nd k ds]) Q := ⟨_, by
  show (if k.isL = true then (bls ds).map fun bs => D.bl (bs.all id) else none) = _
  rw [if_pos hq, z] <;> rfl, h⟩
theorem FB_any {k : DK} {bs : List Bool} (hq : k.isL = true) (z : bls ds = some bs) (h : Q (.bl (bs.any id))) : FB (f1 fAny [.nd k ds]) Q := ⟨_, by
  show (if k.isL = true then (bls ds).map fun bs => D.bl (bs.any id) else none) = _
  rw [if_pos hq, z] <;> rfl, h⟩
theorem FB_slT {lo hi : Option Int} (h : Q (.nd .tup (cutD ds lo hi))) : FB (fSl (.nd .tup ds) lo hi) Q := ⟨_, rfl, h⟩
theorem FB_slL {lo hi : Option Int} (h : Q (.nd .lst (cutD ds lo hi))) : FB (fSl (.nd .lst ds) lo hi) Q := ⟨_, rfl, h⟩
theorem FB_slLL {lo hi : Option Int} (h : Q (.nd .lst (cutD ds lo hi))) : FB (fSl (.nd .ll ds) lo hi) Q := ⟨_, rfl, h⟩
theorem FB_catT (z : ds.length + es.length ≤ 100000) (h : Q (.nd .tup (ds ++ es))) : FB (fAdd (.nd .tup ds) (.nd .tup es)) Q := ⟨_, by
  show (none : Option D).or ((none : Option D).or ((if DK.tup = DK.lst ∧ DK.tup = DK.lst ∧ decide (ds.length + es.length ≤ 100000) = true then some (D.nd .lst (ds ++ es)) else none).or (if DK.tup = DK.tup ∧ DK.tup = DK.tup ∧ decide (ds.length + es.length ≤ 100000) = true then some (D.nd .tup (ds ++ es)) else none))) = _
  rw [if_neg (fun z => nomatch z.1), if_pos ⟨rfl, rfl, decide_eq_true z⟩] <;> rfl, h⟩
theorem FB_catL (z : ds.length + es.length ≤ 100000) (h : Q (.nd .lst (ds ++ es))) : FB (fAdd (.nd .lst ds) (.nd .lst es)) Q := ⟨_, by
  show (none : Option D).or ((none : Option D).or ((if DK.lst = DK.lst ∧ DK.lst = DK.lst ∧ decide (ds.length + es.length ≤ 100000) = true then some (D.nd .lst (ds ++ es)) else none).or _)) = _
  rw [if_pos ⟨rfl, rfl, decide_eq_true z⟩] <;> rfl, h⟩
theorem FB_rev (h : Q (.nd .tup ds.reverse)) : FB (fRev (.nd .tup ds)) Q := ⟨_, rfl, h⟩
theorem FB_neg (h : Q (.int (-i))) : FB (fNeg (.int i)) Q := ⟨_, rfl, h⟩
theorem FB_der (h : Q d) : FB (deref ρ (.vl d)) Q := ⟨_, rfl, h⟩
theorem FB_de0 {s : T} (z : ρ.t n = some s) (z2 : s.sh = some d) (h : Q d) : FB (deref ρ (.rf n [])) Q := ⟨d, by show ((ρ.t n).bind (tAt [])).bind T.sh = _; rw [z]; exact z2, h⟩
theorem fzs_map : ∀ ds : List D, T.fzs (ds.map .fz) = some ds
  | [] => rfl
  | d :: ds => by
    show (T.fzs (ds.map .fz)).map (d :: ·) = _
    rw [fzs_map ds] <;> rfl
theorem sh_map {k : DK} : T.sh (.nd k (ds.map .fz)) = some (.nd k ds) := by
  show (T.fzs (ds.map .fz)).map (D.nd k) = _
  rw [fzs_map] <;> rfl
theorem sh_fz : T.sh (.fz d) = some d := rfl
theorem sh_0 {k : DK} : T.sh (.nd k []) = some (.nd k []) := rfl
theorem sh_5 {k : DK} {a b c d e : D} : T.sh (.nd k [.fz a, .fz b, .fz c, .fz d, .fz e]) = some (.nd k [a, b, c, d, e]) := rfl
theorem toD_map {k : DK} : T.toD (.nd k (ds.map .fz)) = .nd k ds := by
  show D.nd k (T.toDs (ds.map .fz)) = _
  rw [toDs_fz]
theorem ftr {α : Type} {x : Option α} {Q : α → Prop} {a : α} (z : x = some a) (h : Q a) : FB x Q := ⟨_, z, h⟩
theorem kbl {k : Bool} {P : Bool → Prop} (h : P k) : ∃ kb, D.bl k = .bl kb ∧ P kb := ⟨_, rfl, h⟩
theorem ib_t {P R : Prop} (h : P) : if true = true then P else R := h
theorem ib_f {P R : Prop} (h : R) : if false = true then P else R := h
theorem ib_s {k : Bool} {P R : Prop} (h : k = true → P) (h2 : k = false → R) : if k = true then P else R := by
  cases k with
  | true => exact h rfl
  | false => exact h2 rfl
theorem fSet_N {ts : List T} {n : Nat} (hn : n < ts.length) : fSet .lst ts [.int (n : Int), d] = some (.non, .lst, ts.set n (.fz d)) := by
  show (ixN ts.length (n : Int)).bind _ = _
  unfold ixN
  rw [if_pos (by omega), if_pos (by omega), Int.toNat_natCast] <;> rfl
theorem fSet_0 {ts : List T} {a0 : T} : fSet .lst (a0 :: ts) [.int 0, d] = some (.non, .lst, .fz d :: ts) := fSet_N (n := 0) (by simp)
theorem fSet_1 {ts : List T} {a0 a1 : T} : fSet .lst (a0 :: a1 :: ts) [.int 1, d] = some (.non, .lst, a0 :: .fz d :: ts) := fSet_N (n := 1) (by simp)
theorem fSet_2 {ts : List T} {a0 a1 a2 : T} : fSet .lst (a0 :: a1 :: a2 :: ts) [.int 2, d] = some (.non, .lst, a0 :: a1 :: .fz d :: ts) := fSet_N (n := 2) (by simp)
theorem fSet_3 {ts : List T} {a0 a1 a2 a3 : T} : fSet .lst (a0 :: a1 :: a2 :: a3 :: ts) [.int 3, d] = some (.non, .lst, a0 :: a1 :: a2 :: .fz d :: ts) := fSet_N (n := 3) (by simp)
theorem fSet_4 {ts : List T} {a0 a1 a2 a3 a4 : T} : fSet .lst (a0 :: a1 :: a2 :: a3 :: a4 :: ts) [.int 4, d] = some (.non, .lst, a0 :: a1 :: a2 :: a3 :: .fz d :: ts) := fSet_N (n := 4) (by simp)
theorem fSet_5 {ts : List T} {a0 a1 a2 a3 a4 a5 : T} : fSet .lst (a0 :: a1 :: a2 :: a3 :: a4 :: a5 :: ts) [.int 5, d] = some (.non, .lst, a0 :: a1 :: a2 :: a3 :: a4 :: .fz d :: ts) := fSet_N (n := 5) (by simp)
theorem fSet_6 {ts : List T} {a0 a1 a2 a3 a4 a5 a6 : T} : fSet .lst (a0 :: a1 :: a2 :: a3 :: a4 :: a5 :: a6 :: ts) [.int 6, d] = some (.non, .lst, a0 :: a1 :: a2 :: a3 :: a4 :: a5 :: .fz d :: ts) := fSet_N (n := 6) (by simp)
theorem fSet_7 {ts : List T} {a0 a1 a2 a3 a4 a5 a6 a7 : T} : fSet .lst (a0 :: a1 :: a2 :: a3 :: a4 :: a5 :: a6 :: a7 :: ts) [.int 7, d] = some (.non, .lst, a0 :: a1 :: a2 :: a3 :: a4 :: a5 :: a6 :: .fz d :: ts) := fSet_N (n := 7) (by simp)
theorem FB_pow (z : cPow i j = true) (h : Q (.int (i ^ j.toNat))) : FB (fPow (.int i) (.int j)) Q := ⟨_, by
  show (if cPow i j = true then some (D.int (i ^ j.toNat)) else none) = _
  rw [if_pos z], h⟩
theorem fApp_ok {ts : List T} (h : ts.length < 100000) : fApp .lst ts [d] = some (.non, .lst, ts ++ [.fz d]) := by
  show (if decide (ts.length < 100000) = true then some (D.non, DK.lst, ts ++ [.fz d]) else none) = _
  rw [if_pos (decide_eq_true h)]
theorem fExt_ok {ts : List T} (h : ts.length + es.length ≤ 100000) : fExt .lst ts [.nd .lst es] = some (.non, .lst, ts ++ es.map .fz) := by
  show (if decide (ts.length + es.length ≤ 100000) = true then some (D.non, DK.lst, ts ++ es.map .fz) else none) = _
  rw [if_pos (decide_eq_true h)]
section
variable {k : Bool} {b : M} {Qa : Arg → Env → Prop} {Qb : Bool → Env → Prop} {n : MT} {a : M} {t : Tg}
theorem KAnd_y (z : k = true) (h : W (b ρ) Qa) : KAnd b Qa (.vl (.bl k)) ρ := by subst z; exact h
theorem KAnd_n (z : k = false) (h : Qa (.vl (.bl false)) ρ) : KAnd b Qa (.vl (.bl k)) ρ := by subst z; exact h
theorem KOr_y (z : k = true) (h : Qa (.vl (.bl true)) ρ) : KOr b Qa (.vl (.bl k)) ρ := by subst z; exact h
theorem KOr_n (z : k = false) (h : W (b ρ) Qa) : KOr b Qa (.vl (.bl k)) ρ := by subst z; exact h
theorem KtAnd_y (z : k = true) (h : W (n ρ) Qb) : KtAnd n Qb k ρ := by subst z; exact h
theorem KtAnd_n (z : k = false) (h : Qb false ρ) : KtAnd n Qb k ρ := by subst z; exact h
theorem KtOr_y (z : k = true) (h : Qb true ρ) : KtOr n Qb k ρ := by subst z; exact h
theorem KtOr_n (z : k = false) (h : W (n ρ) Qb) : KtOr n Qb k ρ := by subst z; exact h
theorem ib_y {P R : Prop} (z : k = true) (h : P) : if k = true then P else R := by subst z; exact h
theorem ib_n {P R : Prop} (z : k = false) (h : R) : if k = true then P else R := by subst z; exact h
def Kisi (t : Tg) (Q : Bool → Prop) (d : D) : Prop := Q (isi d.tg t)
theorem W_isi (h : W (a ρ) fun x ρ1 => FB (deref ρ1 x) (Kisi t fun k => Qa (.vl (.bl k)) ρ1)) : W (eIsi t a ρ) Qa := W_eIsi h
theorem Kisi_y {Q : Bool → Prop} (z : isi d.tg t = true) (h : Q true) : Kisi t Q d := by unfold Kisi; rw [z]; exact h
theorem Kisi_n {Q : Bool → Prop} (z : isi d.tg t = false) (h : Q false) : Kisi t Q d := by unfold Kisi; rw [z]; exact h
theorem Kisi_ {Q : Bool → Prop} (h : Q (isi d.tg t)) : Kisi t Q d := h
theorem FB_is_y (z : isN d = true) (h : Q (.bl true)) : FB (fIs d .non) Q := FB_is (by rw [z]; exact h)
theorem FB_is_n (z : isN d = false) (h : Q (.bl false)) : FB (fIs d .non) Q := FB_is (by rw [z]; exact h)
theorem FB_isn_y (z : isN d = true) (h : Q (.bl false)) : FB (fIsNot d .non) Q := FB_isn (by rw [z]; exact h)
theorem FB_isn_n (z : isN d = false) (h : Q (.bl true)) : FB (fIsNot d .non) Q := FB_isn (by rw [z]; exact h)
theorem KNot_t (h : Qa (.vl (.bl false)) ρ) : KNot Qa (.vl (.bl true)) ρ := h
theorem KNot_f (h : Qa (.vl (.bl true)) ρ) : KNot Qa (.vl (.bl false)) ρ := h
def KtNot (Q : Bool → Env → Prop) (k : Bool) (ρ : Env) : Prop := Q (!k) ρ
theorem W_tNt {m : MT} (h : W (m ρ) (KtNot Qb)) : W (tNotM m ρ) Qb := W_tNot h
theorem KtNot_t (h : Qb false ρ) : KtNot Qb true ρ := h
theorem KtNot_f (h : Qb true ρ) : KtNot Qb false ρ := h
theorem KtNot_ (h : Qb (!k) ρ) : KtNot Qb k ρ := h
def KeI2 (t u : Tg) (Q : Bool → Prop) (d : D) : Prop := Q (isi d.tg t || isi d.tg u)
theorem W_isi2 {u : Tg} (h : W (a ρ) fun x ρ1 => FB (deref ρ1 x) (KeI2 t u fun k => Qa (.vl (.bl k)) ρ1)) : W (eIsi2 t u a ρ) Qa := .bind (h.imp fun x ρ1 ⟨d, e1, h⟩ => by
  show W ((deref ρ1 x).bind _) _
  rw [e1]
  exact .ok h)
theorem KeI2_y {u : Tg} {Q : Bool → Prop} (z : (isi d.tg t || isi d.tg u) = true) (h : Q true) : KeI2 t u Q d := by unfold KeI2; rw [z]; exact h
theorem KeI2_n {u : Tg} {Q : Bool → Prop} (z : (isi d.tg t || isi d.tg u) = false) (h : Q false) : KeI2 t u Q d := by unfold KeI2; rw [z]; exact h
end
theorem eq_and {α : Type} {a b : α} {P : Prop} (z : a = b) (h : P) : a = b ∧ P := ⟨z, h⟩
theorem cut_take {n : Nat} : cutD ds none (some (n : Int)) = ds.take n := by
  unfold cutD
  rw [HT.sIx_nat]
  show (ds.drop 0).take (min n ds.length - 0) = _
  rw [List.drop_zero, Nat.sub_zero, List.take_eq_take_iff]
  omega
theorem cut_drop {n : Nat} : cutD ds (some (n : Int)) none = ds.drop n := by
  unfold cutD
  rw [HT.sIx_nat]
  show (ds.drop (min n ds.length)).take (ds.length - min n ds.length) = _
  by_cases h : n ≤ ds.length
  · rw [Nat.min_eq_left h, List.take_of_length_le (by rw [List.length_drop]; omega)]
  · rw [Nat.min_eq_right (by omega), List.drop_eq_nil_of_le (Nat.le_refl _), List.drop_eq_nil_of_le (by omega)]
    simp
theorem small_of (h : ds.length ≤ 100000) : small ds = true := decide_eq_true h
theorem isi_tup {d : D} (h : isi d.tg .tup = true) : ∃ ds, d = .nd .tup ds := by
  cases d with
  | nd k ds => cases k with
    | tup => exact ⟨ds, rfl⟩
    | _ => cases h
  | _ => cases h
theorem toDs_n : T.toDs [] = [] := rfl
theorem toDs_c {ts : List T} (h : T.toDs ts = ds) : T.toDs (.fz d :: ts) = d :: ds := congrArg (d :: ·) h
theorem toDs_nd {k : DK} {us ts : List T} (h0 : T.toDs us = es) (h : T.toDs ts = ds) : T.toDs (.nd k us :: ts) = .nd k es :: ds := by
  show T.toD (.nd k us) :: T.toDs ts = _
  rw [h]
  show D.nd k (T.toDs us) :: ds = _
  rw [h0]
theorem toD_nd {k : DK} {ts : List T} (h : T.toDs ts = ds) : T.toD (.nd k ts) = .nd k ds := congrArg (D.nd k) h
theorem toD_fz : T.toD (.fz d) = d := rfl
theorem fApp_map (h : ds.length < 100000) : fApp .lst (ds.map .fz) [d] = some (.non, .lst, (ds ++ [d]).map .fz) := by
  rw [List.map_append]
  exact fApp_ok (by rw [List.length_map]; exact h)
theorem fExt_map (h : ds.length + es.length ≤ 100000) : fExt .lst (ds.map .fz) [.nd .lst es] = some (.non, .lst, (ds ++ es).map .fz) := by
  rw [List.map_append]
  exact fExt_ok (by rw [List.length_map]; exact h)
theorem fzs_n : T.fzs [] = some [] := rfl
theorem fzs_c {ts : List T} (h : T.fzs ts = some ds) : T.fzs (.fz d :: ts) = some (d :: ds) := by
  show (T.fzs ts).map (d :: ·) = _
  rw [h] <;> rfl
theorem sh_nd {k : DK} {ts : List T} (h : T.fzs ts = some ds) : T.sh (.nd k ts) = some (.nd k ds) := by
  show (T.fzs ts).map (D.nd k) = _
  rw [h] <;> rfl
theorem F2_len {α β : Type} {P : α → β → Prop} {as : List α} {bs : List β} (h : F2 P as bs) : bs.length = as.length := by
  induction h with
  | nil => rfl
  | cons _ _ ih => rw [List.length_cons, List.length_cons, ih]
theorem F2_map {α β γ : Type} {P : α → β → Prop} {R : γ → Prop} {f : γ → β} {as : List α} {bs : List β} (h : F2 P as bs) (k : ∀ a b, P a b → ∃ c, R c ∧ b = f c) : ∃ cs : List γ, bs = cs.map f ∧ cs.length = as.length ∧ ∀ c ∈ cs, R c := by
  induction h with
  | nil => exact ⟨[], rfl, rfl, fun c hc => nomatch hc⟩
  | cons h _ ih =>
    obtain ⟨c, hc, e⟩ := k _ _ h
    obtain ⟨cs, e1, e2, e3⟩ := ih
    refine ⟨c :: cs, by rw [e, e1, List.map_cons], by rw [List.length_cons, List.length_cons, e2], fun x hx => ?_⟩
    rcases List.mem_cons.mp hx with rfl | hx
    · exact hc
    · exact e3 x hx
end
end DL

end

section
set_option Elab.async false
set_option linter.all false
set_option maxRecDepth 100000
/-! PD: loops by their counter. -/
namespace DL
open PySem L2
section
variable {ρ : Env} {Q : Fl → Env → Prop} {g : MG} {mb : MS}
theorem for_ix {ds : List D} (I : Nat → Env → Prop) (step : ∀ i d ρ, ds[i]? = some d → I i ρ → KG g d ρ fun ρ1 => W (mb ρ1) (Kinv (I (i + 1)) Q)) (done : ∀ ρ, I ds.length ρ → Q .nx ρ) (h : I 0 ρ) : W (forGo g mb ds ρ) Q := by
  refine for_inv (fun rest ρ => ∃ i, i ≤ ds.length ∧ rest = ds.drop i ∧ I i ρ) (fun d es ρ hI => ?_) (fun ρ hI => ?_) ds ⟨0, Nat.zero_le _, rfl, h⟩
  · obtain ⟨i, hi, e, hI⟩ := hI
    have hlt : i < ds.length := by
      by_cases z : i < ds.length
      · exact z
      · rw [List.drop_eq_nil_of_le (by omega)] at e
        cases e
    rw [List.drop_eq_getElem_cons hlt] at e
    cases e
    obtain ⟨ρ1, e1, h1⟩ := step i ds[i] ρ (by simp [hlt]) hI
    refine ⟨ρ1, e1, h1.imp fun fl ρ2 h => ?_⟩
    cases fl with
    | nx => exact ⟨i + 1, hlt, rfl, h⟩
    | ct => exact ⟨i + 1, hlt, rfl, h⟩
    | bk => exact h
    | rt t => exact h
    | ex c fs es => exact h
  · obtain ⟨i, hi, e, hI⟩ := hI
    have : i = ds.length := by
      have := congrArg List.length e
      rw [List.length_drop] at this
      simp at this
      omega
    rw [this] at hI
    exact done ρ hI
theorem rng_at {N i : Nat} {d : D} (h : (rng 0 N)[i]? = some d) : i < N ∧ d = .int (i : Int) := by
  unfold rng at h
  rw [List.getElem?_map] at h
  by_cases z : i < N
  · rw [List.getElem?_range z] at h
    refine ⟨z, ?_⟩
    have h2 : D.int (0 + (i : Int)) = d := Option.some.inj h
    rw [← h2, Int.zero_add]
  · rw [List.getElem?_eq_none (by simp; omega)] at h
    cases h
theorem rng_len {lo : Int} {N : Nat} : (rng lo N).length = N := by
  unfold rng
  rw [List.length_map, List.length_range]
theorem for_rng {N : Nat} (I : Nat → Env → Prop) (step : ∀ (i : Nat) ρ, i < N → I i ρ → KG g (.int (i : Int)) ρ fun ρ1 => W (mb ρ1) (Kinv (I (i + 1)) Q)) (done : ∀ ρ, I N ρ → Q .nx ρ) (h : I 0 ρ) : W (forGo g mb (rng 0 N) ρ) Q := by
  refine for_ix I (fun i d ρ e hI => ?_) (fun ρ hI => ?_) h
  · obtain ⟨h1, rfl⟩ := rng_at e
    exact step i ρ h1 hI
  · rw [rng_len] at hI
    exact done ρ hI
theorem enum_at : ∀ {ds : List D} {n i : Nat} {d : D}, (enumD n ds)[i]? = some d → ∃ x, ds[i]? = some x ∧ d = .nd .tup [.int ((n + i : Nat) : Int), x]
  | [], _, _, _, h => by cases h
  | x :: xs, n, 0, d, h => ⟨x, rfl, (Option.some.inj h).symm⟩
  | x :: xs, n, i + 1, d, h => by
    obtain ⟨y, h1, h2⟩ := enum_at (ds := xs) (n := n + 1) (i := i) h
    exact ⟨y, h1, by rw [h2, show n + 1 + i = n + (i + 1) by omega]⟩
theorem enum_len : ∀ {ds : List D} {n : Nat}, (enumD n ds).length = ds.length
  | [], _ => rfl
  | _ :: xs, n => congrArg (· + 1) (enum_len (ds := xs) (n := n + 1))
theorem for_enum {ds : List D} (I : Nat → Env → Prop) (step : ∀ (i : Nat) d ρ, ds[i]? = some d → I i ρ → KG g (.nd .tup [.int (i : Int), d]) ρ fun ρ1 => W (mb ρ1) (Kinv (I (i + 1)) Q)) (done : ∀ ρ, I ds.length ρ → Q .nx ρ) (h : I 0 ρ) : W (forGo g mb (enumD 0 ds) ρ) Q := by
  refine for_ix I (fun i d ρ e hI => ?_) (fun ρ hI => ?_) h
  · obtain ⟨x, h1, rfl⟩ := enum_at e
    rw [Nat.zero_add]
    exact step i x ρ h1 hI
  · rw [enum_len] at hI
    exact done ρ hI
theorem atI_1 {α : Type} {xs : List α} {n : Nat} {x : α} (h : xs[n + 1]? = some x) : atI xs ((n : Int) + 1) = some x := by
  have := atN h
  rwa [Int.natCast_add] at this
theorem for_map {α : Type} (f : α → D) {xs : List α} (I : List α → Env → Prop) (step : ∀ dn x rest ρ, xs = dn ++ x :: rest → I dn ρ → KG g (f x) ρ fun ρ1 => W (mb ρ1) (Kinv (I (dn ++ [x])) Q)) (done : ∀ ρ, I xs ρ → Q .nx ρ) (h : I [] ρ) : W (forGo g mb (xs.map f) ρ) Q := by
  refine for_inv (fun rest ρ => ∃ dn r, xs = dn ++ r ∧ rest = r.map f ∧ I dn ρ) (fun d es ρ hI => ?_) (fun ρ hI => ?_) (xs.map f) ⟨[], xs, rfl, rfl, h⟩
  · obtain ⟨dn, r, e1, e2, hI⟩ := hI
    cases r with
    | nil => cases e2
    | cons x r =>
      cases e2
      obtain ⟨ρ1, e3, h1⟩ := step dn x r ρ e1 hI
      have e4 : xs = (dn ++ [x]) ++ r := by rw [e1]; simp
      refine ⟨ρ1, e3, h1.imp fun fl ρ2 h => ?_⟩
      cases fl with
      | nx => exact ⟨_, r, e4, rfl, h⟩
      | ct => exact ⟨_, r, e4, rfl, h⟩
      | bk => exact h
      | rt t => exact h
      | ex c fs es => exact h
  · obtain ⟨dn, r, e1, e2, hI⟩ := hI
    cases r with
    | nil =>
      rw [List.append_nil] at e1
      subst e1
      exact done ρ hI
    | cons x r => cases e2
end
end DL

end

section
set_option Elab.async false
set_option linter.all false
set_option maxRecDepth 100000
/-! PX: the pure rules for texts, dicts, methods. -/
namespace DL
open PySem L2 TL
section
variable {ρ : Env} {Q : Arg → Env → Prop} {i j : Int} {d e : D} {ds es : List D} {n : Nat} {q : Bool}
/-! methods -/
def KBm (T : String) (q : Bool) (f : D → List D → Option D) (as : MA) (Q : Arg → Env → Prop) (x : Arg) (ρ : Env) : Prop :=
  FB (deref ρ x) fun d => tyD T d = true ∧ W (as ρ) fun ys ρ1 => guard q x = false ∧ FB (deref ρ1 x) fun d => Kder ρ1 ys fun ds => FB (f d ds) fun r => Q (.vl r) ρ1
theorem W_eBm {T : String} {f : D → List D → Option D} {o : M} {as : MA} (h : W (o ρ) (KBm T q f as Q)) : W (eBm T q f o as ρ) Q := .bind (h.imp fun x ρ1 ⟨d, e1, t, h⟩ => by
  show W ((deref ρ1 x).bind _) Q
  rw [e1]
  show W (if (!tyD T d) = true then none else _) Q
  rw [t, if_neg (fun z => nomatch z)]
  refine .bind (h.imp fun ys ρ2 ⟨g, d2, e2, ds, e3, r, e4, h⟩ => ?_)
  show W (if guard q x = true then none else _) Q
  rw [g, if_neg (fun z => nomatch z)]
  show W ((deref ρ2 x).bind _) Q
  rw [e2]
  show W ((derefs ρ2 ys).bind _) Q
  rw [e3]
  show W ((f d2 ds).bind _) Q
  rw [e4]
  exact .ok h)
theorem KBm_v {T : String} {f : D → List D → Option D} {as : MA} (z : tyD T d = true) (h : W (as ρ) fun ys ρ1 => Kder ρ1 ys fun ds => FB (f d ds) fun r => Q (.vl r) ρ1) : KBm T q f as Q (.vl d) ρ :=
  ⟨d, rfl, z, h.imp fun ys ρ1 h => ⟨guard_vl, d, rfl, h⟩⟩
/-! texts walked -/
def KSt (Q : List D → Env → Prop) : Arg → Env → Prop
  | .vl (.str s), ρ => Q (signs s) ρ
  | _, _ => False
theorem W_iSt {m : M} {Q : List D → Env → Prop} (h : W (m ρ) (KSt Q)) : W (iSt m ρ) Q := .bind (h.imp fun x ρ1 h => by
  unfold KSt at h
  split at h
  · exact .ok h
  · exact h.elim)
theorem KSt_ {l : List Nat} {Q : List D → Env → Prop} (h : Q (l.map fun c => D.str (sL [c])) ρ) : KSt Q (.vl (.str (sL l))) ρ := h
/-! tests of chains -/
theorem W_tBx {m : M} {Q : Bool → Env → Prop} (h : W (m ρ) (KtB Q)) : W (tBx m ρ) Q := .bind (h.imp fun x ρ1 h => by
  unfold KtB at h
  split at h
  · exact .ok h
  · exact h.elim)
theorem KNot_y {k : Bool} (z : k = true) (h : Q (.vl (.bl false)) ρ) : KNot Q (.vl (.bl k)) ρ := by subst z; exact h
theorem KNot_n {k : Bool} (z : k = false) (h : Q (.vl (.bl true)) ρ) : KNot Q (.vl (.bl k)) ρ := by subst z; exact h
theorem KtNot_y {k : Bool} {Q : Bool → Env → Prop} (z : k = true) (h : Q false ρ) : KtNot Q k ρ := by subst z; exact h
theorem KtNot_n {k : Bool} {Q : Bool → Env → Prop} (z : k = false) (h : Q true ρ) : KtNot Q k ρ := by subst z; exact h
theorem FB_eq_y {k : Bool} {Q : D → Prop} (z : eqD d e = some k) (w : k = true) (h : Q (.bl true)) : FB (fEq d e) Q := by subst w; exact FB_eq z h
theorem FB_eq_n {k : Bool} {Q : D → Prop} (z : eqD d e = some k) (w : k = false) (h : Q (.bl false)) : FB (fEq d e) Q := by subst w; exact FB_eq z h
theorem FB_ne_y {k : Bool} {Q : D → Prop} (z : eqD d e = some k) (w : k = true) (h : Q (.bl false)) : FB (fNe d e) Q := by subst w; exact FB_ne z h
theorem FB_ne_n {k : Bool} {Q : D → Prop} (z : eqD d e = some k) (w : k = false) (h : Q (.bl true)) : FB (fNe d e) Q := by subst w; exact FB_ne z h
/-! displays -/
theorem W_eDic {ks : List Key} {vms : List (Bool × M)} (h : W (mAll vms ρ) fun ys ρ1 => Kfrl ρ1 ys fun ds ρ2 => Q (.vl (.nd (.dic ks) ds)) ρ2) : W (eDic ks vms ρ) Q := .bind (h.imp fun x ρ1 h => .bind (h.imp fun y ρ2 h => .ok h))
theorem W_mAllN {Q : List Arg → Env → Prop} (h : Q [] ρ) : W (mAll [] ρ) Q := .ok h
theorem W_mAllC {p : Bool} {m : M} {r : List (Bool × M)} {Q : List Arg → Env → Prop} (h : W (m ρ) fun x ρ1 => W (mAll r ρ1) (KC (allF r) x Q)) : W (mAll ((p, m) :: r) ρ) Q := W_mCons h
theorem FB_ixD {ks : List Key} {k : Key} {Q : D → Prop} (z : keyD e = some k) (z2 : dGet ks ds k = some d) (h : Q d) : FB (fIxD (.nd (.dic ks) ds) e) Q := ⟨d, by show (keyD e).bind _ = _; rw [z]; exact z2, h⟩
/-! texts -/
abbrev num (n : Nat) : Str := sL (numL n)
theorem tl_sL (l : List Nat) : tl (sL l) = l := rfl
theorem log_le {n : Nat} (h : n < 2 ^ 64) : n.log2 < 1920 := by
  by_cases z : n = 0
  · rw [z]; decide
  · exact Nat.lt_of_lt_of_le ((Nat.log2_lt z).mpr h) (by decide)
theorem FB_str {Q : D → Prop} (z : 0 ≤ i ∧ i < 2 ^ 64) (h : Q (.str (num i.toNat))) : FB (f1 fStr [.int i]) Q := by
  refine ⟨_, ?_, h⟩
  show (if decide (i.natAbs.log2 < 1920) = true then some (D.str (Str.ofString (toString i))) else none) = _
  rw [if_pos (decide_eq_true (log_le (by omega)))]
  have e : Str.ofString (toString i) = num i.toNat := by
    refine ext_tl ?_
    have := tl_num i.toNat
    rw [show ((i.toNat : Nat) : Int) = i by omega] at this
    exact this
  rw [e]
theorem FB_intI {Q : D → Prop} (h : Q (.int i)) : FB (f1 fIntA [.int i]) Q := ⟨_, rfl, h⟩
theorem FB_intS {s : Str} {Q : D → Prop} (z : intText? s = some i) (z2 : s.length ≤ 640) (h : Q (.int i)) : FB (f1 fIntA [.str s]) Q := by
  refine ⟨_, ?_, h⟩
  show (if decide (s.length ≤ 640) = true then (intText? s).map D.int else none) = _
  rw [if_pos (decide_eq_true z2), z] <;> rfl
theorem FB_split {a b : List Nat} {Q : D → Prop} (z : b ≠ [] ∧ b.all (fun c => decide (c < 256)) = true ∧ a.length ≤ 100000) (h : Q (.nd .lst ((spl b 0 [] a).map fun l => .str (sL l)))) : FB (fSplit (.str (sL a)) [.str (sL b)]) Q := by
  refine ⟨_, ?_, h⟩
  show (if _ = true then _ else _) = _
  rw [if_pos]
  rw [tl_sL, decide_eq_true z.1, z.2.1, decide_eq_true (show (sL a).length ≤ 100000 by rw [len_tl]; exact z.2.2)] <;> rfl
theorem txts_sL (xs : List (List Nat)) : txts (xs.map fun l => D.str (sL l)) = some (xs.map sL) := by
  rw [show (xs.map fun l => D.str (sL l)) = (xs.map sL).map D.str by rw [List.map_map]; rfl]
  exact txts_map _
theorem sum_len (xs : List (List Nat)) : ((xs.map sL).map (·.length)).sum = (xs.map List.length).sum := by
  rw [List.map_map]
  congr 1
theorem FB_join {a : List Nat} {k : DK} {xs : List (List Nat)} {Q : D → Prop} (hq : k.isQ = true) (zt : ds = xs.map fun l => D.str (sL l)) (z : (xs.map List.length).sum + xs.length * a.length ≤ 16777216) (h : Q (.str (sL (joinL a xs)))) : FB (fJoin (.str (sL a)) [.nd k ds]) Q := by
  subst zt
  refine ⟨_, ?_, h⟩
  show (if k.isQ = true then _ else _) = _
  rw [if_pos hq, txts_sL]
  show (if decide (((xs.map sL).map (·.length)).sum + (xs.map sL).length * (sL a).length ≤ 16777216) = true then some (D.str (sL (joinL (tl (sL a)) ((xs.map sL).map tl)))) else none) = _
  rw [if_pos (decide_eq_true (by rw [sum_len, List.length_map, len_tl]; exact z))]
  rw [List.map_map, show (tl ∘ sL) = id from rfl, List.map_id]
theorem FB_starts {a b : Str} {Q : D → Prop} (h : Q (.bl (Txt.startswith a b))) : FB (fStarts (.str a) [.str b]) Q := ⟨_, rfl, h⟩
theorem FB_catS {a b : List Nat} {Q : D → Prop} (z : a.length + b.length ≤ 100000) (h : Q (.str (sL (a ++ b)))) : FB (fAdd (.str (sL a)) (.str (sL b))) Q := by
  refine ⟨_, ?_, h⟩
  have e : sL a ++ sL b = sL (a ++ b) := ext_tl (tl_append (sL a) (sL b))
  rw [← e]
  show ((none : Option D).or ((if decide ((sL a).length + (sL b).length ≤ 100000) = true then some (D.str (sL a ++ sL b)) else none).or _)) = _
  rw [if_pos (decide_eq_true (by rw [len_tl, len_tl]; exact z))] <;> rfl
def cutL (l : List Nat) (lo hi : Option Int) : List Nat := (l.drop (HT.sIx l.length 0 lo)).take (HT.sIx l.length l.length hi - HT.sIx l.length 0 lo)
theorem cutS_sL {l : List Nat} {lo hi : Option Int} : cutS (sL l) lo hi = sL (cutL l lo hi) := by
  unfold cutS cutL
  rw [len_tl]
theorem FB_slS {l : List Nat} {lo hi : Option Int} {Q : D → Prop} (z : l.length ≤ 100000) (h : Q (.str (sL (cutL l lo hi)))) : FB (fSl (.str (sL l)) lo hi) Q := by
  refine ⟨_, ?_, h⟩
  show (if decide ((sL l).length ≤ 100000) = true then some (D.str (cutS (sL l) lo hi)) else none) = _
  rw [if_pos (decide_eq_true (by rw [len_tl]; exact z)), cutS_sL]
theorem cutL_take {l : List Nat} {n : Nat} : cutL l none (some (n : Int)) = l.take n := by
  unfold cutL
  rw [HT.sIx_nat]
  show (l.drop 0).take (min n l.length - 0) = _
  rw [List.drop_zero, Nat.sub_zero, List.take_eq_take_iff]
  omega
theorem cutL_drop {l : List Nat} {n : Nat} : cutL l (some (n : Int)) none = l.drop n := by
  unfold cutL
  rw [HT.sIx_nat]
  show (l.drop (min n l.length)).take (l.length - min n l.length) = _
  by_cases h : n ≤ l.length
  · rw [Nat.min_eq_left h, List.take_of_length_le (by rw [List.length_drop]; omega)]
  · rw [Nat.min_eq_right (by omega), List.drop_eq_nil_of_le (Nat.le_refl _), List.drop_eq_nil_of_le (by omega)]
    simp
theorem FB_lenS {l : List Nat} {Q : D → Prop} (z : l.length ≤ 100000) (h : Q (.int (l.length : Int))) : FB (f1 fLen [.str (sL l)]) Q := by
  refine ⟨_, ?_, h⟩
  show (if decide ((sL l).length ≤ 100000) = true then some (D.int ((sL l).length : Int)) else none) = _
  rw [if_pos (decide_eq_true (by rw [len_tl]; exact z)), len_tl]
/-! what is equal -/
/-- data without flags, dicts, so deep at most -/
def okE : Nat → D → Bool
  | _, .non => true
  | _, .int _ => true
  | _, .str s => PyData.strOk s
  | n + 1, .nd .tup ds => ds.all (okE n)
  | n + 1, .nd .lst ds => ds.all (okE n)
  | _, _ => false
structure PyOk (n : Nat) (d : D) (p : PyData) : Prop where
  to : toPy d = some p
  lay : PyData.canLay0 p = true
  dp : PyData.depth p ≤ n
structure PysOk (n : Nat) (ds : List D) (ps : List PyData) : Prop where
  to : toPys ds = some ps
  lay : PyData.canLayAll0 ps = true
  dp : PyData.depthAll ps ≤ n
theorem pys_ok {n : Nat} (ih : ∀ d, okE n d = true → ∃ p, PyOk n d p) : ∀ ds : List D, ds.all (okE n) = true → ∃ ps, PysOk n ds ps
  | [], _ => ⟨[], rfl, rfl, Nat.zero_le _⟩
  | d :: ds, h => by
    obtain ⟨h1, h2⟩ := Bool.and_eq_true_iff.mp (show (okE n d && ds.all (okE n)) = true from h)
    obtain ⟨p, hp⟩ := ih d h1
    obtain ⟨ps, hps⟩ := pys_ok ih ds h2
    refine ⟨p :: ps, ?_, ?_, ?_⟩
    · show (toPy d).bind _ = _
      rw [hp.to]
      show (toPys ds).map _ = _
      rw [hps.to] <;> rfl
    · show (PyData.canLay0 p && PyData.canLayAll0 ps) = true
      rw [hp.lay, hps.lay] <;> rfl
    · show max (PyData.depth p) (PyData.depthAll ps) ≤ n
      have := hp.dp
      have := hps.dp
      omega
theorem py_ok : ∀ (n : Nat) (d : D), okE n d = true → ∃ p, PyOk n d p
  | 0, .non, _ => ⟨.none, rfl, rfl, Nat.zero_le _⟩
  | 0, .int i, _ => ⟨.int i, rfl, rfl, Nat.zero_le _⟩
  | 0, .str s, h => ⟨.str s, rfl, h, Nat.zero_le _⟩
  | n + 1, .non, _ => ⟨.none, rfl, rfl, Nat.zero_le _⟩
  | n + 1, .int i, _ => ⟨.int i, rfl, rfl, Nat.zero_le _⟩
  | n + 1, .str s, h => ⟨.str s, rfl, h, Nat.zero_le _⟩
  | n + 1, .nd .tup ds, h => by
    obtain ⟨ps, h⟩ := pys_ok (py_ok n) ds h
    exact ⟨.tuple ps, by show (toPys ds).map _ = _; rw [h.to]; rfl, h.lay, Nat.succ_le_succ h.dp⟩
  | n + 1, .nd .lst ds, h => by
    obtain ⟨ps, h⟩ := pys_ok (py_ok n) ds h
    exact ⟨.list ps, by show (toPys ds).map _ = _; rw [h.to]; rfl, h.lay, Nat.succ_le_succ h.dp⟩
  | 0, .bl _, h => nomatch h
  | n + 1, .bl _, h => nomatch h
  | 0, .nd _ _, h => by cases ‹DK› <;> cases h
  | n + 1, .nd .ll _, h => nomatch h
  | n + 1, .nd (.dic _) _, h => nomatch h
  | n + 1, .nd (.exc _ _) _, h => nomatch h
  | n + 1, .nd (.ins _ _) _, h => nomatch h
/-- equal just if they are the same -/
def EqOk (n : Nat) (d : D) : Prop := ∀ e p q, okE n d = true → okE n e = true → toPy d = some p → toPy e = some q → (PyData.eqv p q = true ↔ d = e)
theorem eqs_iff {n : Nat} (ih : ∀ d, EqOk n d) : ∀ (ds es : List D) (ps qs : List PyData), ds.all (okE n) = true → es.all (okE n) = true → toPys ds = some ps → toPys es = some qs → (PyData.eqvAll ps qs = true ↔ ds = es)
  | [], [], ps, qs, _, _, e1, e2 => by cases e1; cases e2; exact ⟨fun _ => rfl, fun _ => rfl⟩
  | [], e :: es, ps, qs, _, h, e1, e2 => by
    cases e1
    obtain ⟨q, _, e2⟩ := ob e2
    cases z : toPys es with
    | none => rw [z] at e2; cases e2
    | some r =>
      rw [z] at e2
      cases e2
      exact ⟨fun h => (nomatch h), fun h => (nomatch h)⟩
  | d :: ds, [], ps, qs, _, _, e1, e2 => by
    cases e2
    obtain ⟨p, _, e1⟩ := ob e1
    cases z : toPys ds with
    | none => rw [z] at e1; cases e1
    | some r =>
      rw [z] at e1
      cases e1
      exact ⟨fun h => (nomatch h), fun h => (nomatch h)⟩
  | d :: ds, e :: es, ps, qs, h1, h2, e1, e2 => by
    obtain ⟨a1, a2⟩ := Bool.and_eq_true_iff.mp (show (okE n d && ds.all (okE n)) = true from h1)
    obtain ⟨b1, b2⟩ := Bool.and_eq_true_iff.mp (show (okE n e && es.all (okE n)) = true from h2)
    obtain ⟨p, g1, e1⟩ := ob e1
    obtain ⟨q, g2, e2⟩ := ob e2
    cases z1 : toPys ds with
    | none => rw [z1] at e1; cases e1
    | some r1 =>
      cases z2 : toPys es with
      | none => rw [z2] at e2; cases e2
      | some r2 =>
        rw [z1] at e1
        rw [z2] at e2
        cases e1
        cases e2
        show (PyData.eqv p q && PyData.eqvAll r1 r2) = true ↔ _
        rw [Bool.and_eq_true, ih d e p q a1 b1 g1 g2, eqs_iff ih ds es r1 r2 a2 b2 z1 z2]
        exact ⟨fun h => by rw [h.1, h.2], fun h => by cases h; exact ⟨rfl, rfl⟩⟩
theorem eq_ok : ∀ (n : Nat) (d : D), EqOk n d := by
  intro n
  induction n with
  | zero =>
    intro d e p q h1 h2 e1 e2
    cases d with
    | nd k _ => cases k <;> cases h1
    | bl _ => cases h1
    | non => cases e with
      | nd k _ => cases k <;> cases h2
      | bl _ => cases h2
      | non => cases e1; cases e2; exact ⟨fun _ => rfl, fun _ => rfl⟩
      | int _ => cases e1; cases e2; exact ⟨fun h => (nomatch h), fun h => (nomatch h)⟩
      | str _ => cases e1; cases e2; exact ⟨fun h => (nomatch h), fun h => (nomatch h)⟩
    | int i => cases e with
      | nd k _ => cases k <;> cases h2
      | bl _ => cases h2
      | int j => cases e1; cases e2; exact ⟨fun h => by rw [eq_of_beq (show (i == j) = true from h)], fun h => by cases h; exact beq_self_eq_true i⟩
      | non => cases e1; cases e2; exact ⟨fun h => (nomatch h), fun h => (nomatch h)⟩
      | str _ => cases e1; cases e2; exact ⟨fun h => (nomatch h), fun h => (nomatch h)⟩
    | str i => cases e with
      | nd k _ => cases k <;> cases h2
      | bl _ => cases h2
      | str j => cases e1; cases e2; exact ⟨fun h => by rw [eq_of_beq (show (i == j) = true from h)], fun h => by cases h; exact beq_self_eq_true i⟩
      | non => cases e1; cases e2; exact ⟨fun h => (nomatch h), fun h => (nomatch h)⟩
      | int _ => cases e1; cases e2; exact ⟨fun h => (nomatch h), fun h => (nomatch h)⟩
  | succ n ih =>
    have nds : ∀ ds : List D, ∀ q, toPy (.nd .tup ds) = some q → ∃ ps, toPys ds = some ps ∧ q = .tuple ps := fun ds q h => by
      cases z : toPys ds with
      | none => rw [show toPy (.nd .tup ds) = (toPys ds).map .tuple from rfl, z] at h; cases h
      | some ps => rw [show toPy (.nd .tup ds) = (toPys ds).map .tuple from rfl, z] at h; cases h; exact ⟨ps, rfl, rfl⟩
    have nls : ∀ ds : List D, ∀ q, toPy (.nd .lst ds) = some q → ∃ ps, toPys ds = some ps ∧ q = .list ps := fun ds q h => by
      cases z : toPys ds with
      | none => rw [show toPy (.nd .lst ds) = (toPys ds).map .list from rfl, z] at h; cases h
      | some ps => rw [show toPy (.nd .lst ds) = (toPys ds).map .list from rfl, z] at h; cases h; exact ⟨ps, rfl, rfl⟩
    intro d e p q h1 h2 e1 e2
    cases d with
    | bl _ => cases h1
    | non => cases e with
      | nd k es => cases k with
        | tup => obtain ⟨qs, _, rfl⟩ := nds es q e2; cases e1; exact ⟨fun h => (nomatch h), fun h => (nomatch h)⟩
        | lst => obtain ⟨qs, _, rfl⟩ := nls es q e2; cases e1; exact ⟨fun h => (nomatch h), fun h => (nomatch h)⟩
        | ll => cases h2
        | dic _ => cases h2
        | exc _ _ => cases h2
        | ins _ _ => cases h2
      | bl _ => cases h2
      | non => cases e1; cases e2; exact ⟨fun _ => rfl, fun _ => rfl⟩
      | int _ => cases e1; cases e2; exact ⟨fun h => (nomatch h), fun h => (nomatch h)⟩
      | str _ => cases e1; cases e2; exact ⟨fun h => (nomatch h), fun h => (nomatch h)⟩
    | int i => cases e with
      | nd k es => cases k with
        | tup => obtain ⟨qs, _, rfl⟩ := nds es q e2; cases e1; exact ⟨fun h => (nomatch h), fun h => (nomatch h)⟩
        | lst => obtain ⟨qs, _, rfl⟩ := nls es q e2; cases e1; exact ⟨fun h => (nomatch h), fun h => (nomatch h)⟩
        | ll => cases h2
        | dic _ => cases h2
        | exc _ _ => cases h2
        | ins _ _ => cases h2
      | bl _ => cases h2
      | int j => cases e1; cases e2; exact ⟨fun h => by rw [eq_of_beq (show (i == j) = true from h)], fun h => by cases h; exact beq_self_eq_true i⟩
      | non => cases e1; cases e2; exact ⟨fun h => (nomatch h), fun h => (nomatch h)⟩
      | str _ => cases e1; cases e2; exact ⟨fun h => (nomatch h), fun h => (nomatch h)⟩
    | str i => cases e with
      | nd k es => cases k with
        | tup => obtain ⟨qs, _, rfl⟩ := nds es q e2; cases e1; exact ⟨fun h => (nomatch h), fun h => (nomatch h)⟩
        | lst => obtain ⟨qs, _, rfl⟩ := nls es q e2; cases e1; exact ⟨fun h => (nomatch h), fun h => (nomatch h)⟩
        | ll => cases h2
        | dic _ => cases h2
        | exc _ _ => cases h2
        | ins _ _ => cases h2
      | bl _ => cases h2
      | str j => cases e1; cases e2; exact ⟨fun h => by rw [eq_of_beq (show (i == j) = true from h)], fun h => by cases h; exact beq_self_eq_true i⟩
      | non => cases e1; cases e2; exact ⟨fun h => (nomatch h), fun h => (nomatch h)⟩
      | int _ => cases e1; cases e2; exact ⟨fun h => (nomatch h), fun h => (nomatch h)⟩
    | nd k ds => cases k with
      | ll => cases h1
      | dic _ => cases h1
      | exc _ _ => cases h1
      | ins _ _ => cases h1
      | tup =>
        obtain ⟨ps, g1, rfl⟩ := nds ds p e1
        cases e with
        | nd k2 es => cases k2 with
          | ll => cases h2
          | dic _ => cases h2
          | exc _ _ => cases h2
          | ins _ _ => cases h2
          | tup =>
            obtain ⟨qs, g2, rfl⟩ := nds es q e2
            exact (eqs_iff ih ds es ps qs h1 h2 g1 g2).trans ⟨fun h => by rw [h], fun h => by cases h; rfl⟩
          | lst => obtain ⟨qs, _, rfl⟩ := nls es q e2; exact ⟨fun h => (nomatch h), fun h => (nomatch h)⟩
        | bl _ => cases h2
        | non => cases e2; exact ⟨fun h => (nomatch h), fun h => (nomatch h)⟩
        | int _ => cases e2; exact ⟨fun h => (nomatch h), fun h => (nomatch h)⟩
        | str _ => cases e2; exact ⟨fun h => (nomatch h), fun h => (nomatch h)⟩
      | lst =>
        obtain ⟨ps, g1, rfl⟩ := nls ds p e1
        cases e with
        | nd k2 es => cases k2 with
          | ll => cases h2
          | dic _ => cases h2
          | exc _ _ => cases h2
          | ins _ _ => cases h2
          | lst =>
            obtain ⟨qs, g2, rfl⟩ := nls es q e2
            exact (eqs_iff ih ds es ps qs h1 h2 g1 g2).trans ⟨fun h => by rw [h], fun h => by cases h; rfl⟩
          | tup => obtain ⟨qs, _, rfl⟩ := nds es q e2; exact ⟨fun h => (nomatch h), fun h => (nomatch h)⟩
        | bl _ => cases h2
        | non => cases e2; exact ⟨fun h => (nomatch h), fun h => (nomatch h)⟩
        | int _ => cases e2; exact ⟨fun h => (nomatch h), fun h => (nomatch h)⟩
        | str _ => cases e2; exact ⟨fun h => (nomatch h), fun h => (nomatch h)⟩
theorem eqD_cases {n : Nat} (hn : n ≤ 64) (h1 : okE n d = true) (h2 : okE n e = true) : (d = e → eqD d e = some true) ∧ (d ≠ e → eqD d e = some false) := by
  obtain ⟨p, hp⟩ := py_ok n d h1
  obtain ⟨q, hq⟩ := py_ok n e h2
  unfold eqD
  rw [hp.to, hq.to]
  have sh : ∀ {d : D} {p : PyData}, PyOk n d p → SeqAt.shaped p = true := fun {d p} h => by
    unfold SeqAt.shaped
    rw [h.lay]
    exact decide_eq_true (Nat.le_trans h.dp hn)
  show (_ → (if (SeqAt.shaped p && SeqAt.shaped q) = true then some (PyData.eqv p q) else none) = _) ∧ (_ → (if (SeqAt.shaped p && SeqAt.shaped q) = true then some (PyData.eqv p q) else none) = _)
  rw [sh hp, sh hq]
  show (_ → some (PyData.eqv p q) = _) ∧ (_ → some (PyData.eqv p q) = _)
  have := eq_ok n d e p q h1 h2 hp.to hq.to
  refine ⟨fun z => congrArg some (this.mpr z), fun z => congrArg some ?_⟩
  cases w : PyData.eqv p q with
  | false => rfl
  | true => exact absurd (this.mp w) z
theorem eqD_self {n : Nat} (hn : n ≤ 64) (h1 : okE n d = true) : eqD d d = some true := (eqD_cases hn h1 h1).1 rfl
theorem eqD_ne {n : Nat} (hn : n ≤ 64) (h1 : okE n d = true) (h2 : okE n e = true) (h : d ≠ e) : eqD d e = some false := (eqD_cases hn h1 h2).2 h
theorem sL_inj {a b : List Nat} (h : sL a = sL b) : a = b := congrArg tl h
theorem eqD_sL {a b : List Nat} (ha : ∀ c ∈ a, c < 1114112) (hb : ∀ c ∈ b, c < 1114112) : eqD (.str (sL a)) (.str (sL b)) = some (decide (a = b)) := by
  have strOk_sL : ∀ {l : List Nat}, (∀ c ∈ l, c < 1114112) → PyData.strOk (sL l) = true := fun {l} h => by
    unfold PyData.strOk
    rw [← Array.all_toList]
    exact List.all_eq_true.mpr fun c hc => decide_eq_true (h c hc)
  by_cases z : a = b
  · rw [decide_eq_true z, z]
    exact eqD_self (n := 0) (by decide) (strOk_sL hb)
  · rw [decide_eq_false z]
    exact eqD_ne (n := 0) (by decide) (strOk_sL ha) (strOk_sL hb) fun h => z (sL_inj (D.str.inj h))
theorem eqD_ss {a b : Str} (ha : PyData.strOk a = true) (hb : PyData.strOk b = true) : eqD (.str a) (.str b) = some (decide (a = b)) := by
  by_cases z : a = b
  · rw [decide_eq_true z, z]
    exact eqD_self (n := 0) (by decide) hb
  · rw [decide_eq_false z]
    exact eqD_ne (n := 0) (by decide) ha hb fun h => z (by cases h; rfl)
theorem strOk_sL {l : List Nat} (h : ∀ c ∈ l, c < 1114112) : PyData.strOk (sL l) = true := by
  unfold PyData.strOk
  rw [← Array.all_toList]
  exact List.all_eq_true.mpr fun c hc => decide_eq_true (h c hc)
theorem FB_maxU {ns : List Int} {Q : D → Prop} (z : ns ≠ []) (h : Q (.int (mxL ns))) : FB (f1 fMaxU [.nd .tup (ns.map .int)]) Q := by
  refine ⟨_, ?_, h⟩
  show (intsD (ns.map D.int)).bind _ = _
  rw [intsD_map]
  show (if decide (ns ≠ []) = true then _ else _) = _
  rw [if_pos (decide_eq_true z)]
theorem FB_ixS {l : List Nat} {c : Nat} {Q : D → Prop} (z : atI l i = some c) (z2 : l.length ≤ 100000) (h : Q (.str (sL [c]))) : FB (fIx (.str (sL l)) (.int i)) Q := by
  refine ⟨_, ?_, h⟩
  show (if decide ((sL l).length ≤ 100000) = true then (atI l i).map fun c => D.str ⟨#[c]⟩ else none) = _
  rw [if_pos (decide_eq_true (by rw [len_tl]; exact z2)), z] <;> rfl
theorem FB_inS {l : List Nat} {c : Nat} {Q : D → Prop} (h : Q (.bl (decide (c ∈ l)))) : FB (fInA (.str (sL [c])) (.str (sL l))) Q := ⟨_, rfl, h⟩
theorem FB_inQ {k : DK} {Q : D → Prop} (z : (scal d && (k.isQ && ds.all scal)) = true) (h : Q (.bl (inD d ds))) : FB (fInA d (.nd k ds)) Q := by
  refine ⟨_, ?_, h⟩
  show (if (scal d && (k.isQ && ds.all scal)) = true then some (D.bl (if false = true then !inD d ds else inD d ds)) else none).or _ = _
  rw [if_pos z] <;> rfl
theorem FB_ninQ {k : DK} {Q : D → Prop} (z : (scal d && (k.isQ && ds.all scal)) = true) (h : Q (.bl (!inD d ds))) : FB (fNotInA d (.nd k ds)) Q := by
  refine ⟨_, ?_, h⟩
  show (if (scal d && (k.isQ && ds.all scal)) = true then some (D.bl (if true = true then !inD d ds else inD d ds)) else none).or _ = _
  rw [if_pos z] <;> rfl
end
section
variable {g : MG} {mt : MT} {me : M} {vs : List Nat} {α : Type}
/-- a comprehension over things -/
theorem lc_mapf (f F : α → D) (J : Env → Prop) : ∀ (xs : List α), (∀ x ρ, x ∈ xs → J ρ → KG g (f x) ρ fun ρ1 => W (mt ρ1) fun k ρ2 => k = true ∧ W (me ρ2) fun y ρ3 => Kfrz ρ3 y fun r ρ4 => r = F x ∧ Kwipe vs ρ4 J) →
    ∀ {ρ : Env} {Q : List D → Env → Prop}, J ρ → (∀ ρ', J ρ' → Q (xs.map F) ρ') → W (lcGo g mt me vs (xs.map f) ρ) Q
  | [], _, _, _, h, k => W_lc_n (k _ h)
  | x :: xs, step, _, _, h, k => by
    refine W_lc_c ?_
    obtain ⟨ρ1, e, h⟩ := step x _ (List.mem_cons_self ..) h
    refine ⟨ρ1, e, h.imp fun k' ρ2 h => ?_⟩
    obtain ⟨rfl, h⟩ := h
    refine KLc_t (h.imp fun y ρ3 h => W.imp h fun r ρ4 h => ?_)
    rw [h.1]
    exact lc_mapf f F J xs (fun z ρ hz => step z ρ (List.mem_cons_of_mem _ hz)) h.2 fun ρ' hJ => k _ hJ
/-- with an if -/
theorem lc_filt (f F : α → D) (p : α → Bool) (J : Env → Prop) : ∀ (xs : List α), (∀ x ρ, x ∈ xs → J ρ → KG g (f x) ρ fun ρ1 => W (mt ρ1) fun k ρ2 => k = p x ∧ (p x = true → W (me ρ2) fun y ρ3 => Kfrz ρ3 y fun r ρ4 => r = F x ∧ Kwipe vs ρ4 J) ∧ (p x = false → Kwipe vs ρ2 J)) →
    ∀ {ρ : Env} {Q : List D → Env → Prop}, J ρ → (∀ ρ', J ρ' → Q ((xs.filter p).map F) ρ') → W (lcGo g mt me vs (xs.map f) ρ) Q
  | [], _, _, _, h, k => W_lc_n (k _ h)
  | x :: xs, step, _, _, h, k => by
    refine W_lc_c ?_
    obtain ⟨ρ1, e, h⟩ := step x _ (List.mem_cons_self ..) h
    refine ⟨ρ1, e, h.imp fun k' ρ2 h => ?_⟩
    obtain ⟨rfl, h1, h2⟩ := h
    cases z : p x with
    | true =>
      refine KLc_t ((h1 z).imp fun y ρ3 h => W.imp h fun r ρ4 h => ?_)
      rw [h.1]
      refine lc_filt f F p J xs (fun z ρ hz => step z ρ (List.mem_cons_of_mem _ hz)) h.2 fun ρ' hJ => ?_
      have := k ρ' hJ
      rwa [List.filter_cons_of_pos z, List.map_cons] at this
    | false =>
      refine KLc_f ?_
      refine lc_filt f F p J xs (fun z ρ hz => step z ρ (List.mem_cons_of_mem _ hz)) (h2 z) fun ρ' hJ => ?_
      have := k ρ' hJ
      rwa [List.filter_cons_of_neg (by rw [z]; exact fun z => nomatch z)] at this
end
end DL

end

section
set_option Elab.async false
set_option linter.all false
set_option maxRecDepth 100000
set_option maxHeartbeats 400000
/-! PY: going through what lets errors out, and catches them. -/
namespace DL
open PySem L2

def Fox (x : Option (Rs × List T)) (Q : Rs → List T → Prop) : Prop := ∃ r ts, x = some (r, ts) ∧ Q r ts
theorem Fox.imp {x : Option (Rs × List T)} {Q R : Rs → List T → Prop} (h : Fox x Q) (k : ∀ a ts, Q a ts → R a ts) : Fox x R := by
  obtain ⟨r, ts, e, h⟩ := h
  exact ⟨r, ts, e, k _ _ h⟩
section
variable {ρ : Env}
def Kfx (io : Nat → Bool) (ts : List T) (Q : Rs → List T → Prop) : Fl → Env → Prop
  | .rt t, ρ => Kout io ρ ts (Q (.rt t))
  | .nx, ρ => Kout io ρ ts (Q (.rt (.fz .non)))
  | .ex c fs ds, ρ => Kout io ρ ts (Q (.ex c fs ds))
  | _, _ => False
theorem Kfx_rt {io : Nat → Bool} {ts : List T} {Q : Rs → List T → Prop} {t : T} (h : Kout io ρ ts (Q (.rt t))) : Kfx io ts Q (.rt t) ρ := h
theorem Kfx_nx {io : Nat → Bool} {ts : List T} {Q : Rs → List T → Prop} (h : Kout io ρ ts (Q (.rt (.fz .non)))) : Kfx io ts Q .nx ρ := h
theorem Kfx_ex {io : Nat → Bool} {ts : List T} {Q : Rs → List T → Prop} {c : Str} {fs : List Str} {ds : List D} (h : Kout io ρ ts (Q (.ex c fs ds))) : Kfx io ts Q (.ex c fs ds) ρ := h
theorem Fox_fnX {N : Nat} {io : Nat → Bool} {m : MS} {ts : List T} {Q : Rs → List T → Prop} (h : W (m (ts.map some ++ List.replicate (N - ts.length) none)) (Kfx io ts Q)) : Fox (fnX N io m ts) Q := by
  obtain ⟨fl, ρ, e, h⟩ := h
  unfold Fox fnX
  rw [e]
  cases fl with
  | rt t =>
    obtain ⟨ts', e2, h⟩ := h
    exact ⟨.rt t, ts', by show (outs io ρ 0 ts).bind _ = _; rw [e2] <;> rfl, h⟩
  | nx =>
    obtain ⟨ts', e2, h⟩ := h
    exact ⟨.rt (.fz .non), ts', by show (outs io ρ 0 ts).bind _ = _; rw [e2] <;> rfl, h⟩
  | ex c fs ds =>
    obtain ⟨ts', e2, h⟩ := h
    exact ⟨.ex c fs ds, ts', by show (outs io ρ 0 ts).bind _ = _; rw [e2] <;> rfl, h⟩
  | bk => exact h.elim
  | ct => exact h.elim
/-! ### raise -/
theorem W_sRs1 {c f : Str} {m : M} {Q : Fl → Env → Prop} (h : W (m ρ) fun x ρ1 => Kfrz ρ1 x fun d ρ2 => Q (.ex c [f] [d]) ρ2) : W (sRs1 c f m ρ) Q := .bind (h.imp fun x ρ1 h => .bind (h.imp fun y ρ2 h => .ok h))
/-! ### rows, calls -/
def KxL (Q : List D → Env → Prop) (Qx : Str → List Str → List D → Env → Prop) : RsL → Env → Prop
  | .rt ds, ρ => Q ds ρ
  | .ex c fs es, ρ => Qx c fs es ρ
def Kx (Q : T → Env → Prop) (Qx : Str → List Str → List D → Env → Prop) : Rs → Env → Prop
  | .rt t, ρ => Q t ρ
  | .ex c fs es, ρ => Qx c fs es ρ
theorem Kx_rt {Q : T → Env → Prop} {Qx : Str → List Str → List D → Env → Prop} {t : T} (h : Q t ρ) : Kx Q Qx (.rt t) ρ := h
theorem Kx_ex {Q : T → Env → Prop} {Qx : Str → List Str → List D → Env → Prop} {c : Str} {fs : List Str} {es : List D} (h : Qx c fs es ρ) : Kx Q Qx (.ex c fs es) ρ := h
theorem W_xNil {Q : List D → Env → Prop} {Qx : Str → List Str → List D → Env → Prop} (h : Q [] ρ) : W (xNil ρ) (KxL Q Qx) := .ok h
theorem W_xM {m : M} {r : MXL} {Q : List D → Env → Prop} {Qx : Str → List Str → List D → Env → Prop} (h : W (m ρ) fun x ρ1 => Kfrz ρ1 x fun d ρ2 => W (r ρ2) (KxL (fun ds => Q (d :: ds)) Qx)) : W (xM m r ρ) (KxL Q Qx) :=
  .bind (h.imp fun x ρ1 h => .bind (W.imp h fun d ρ2 h => .bind (W.imp h fun z ρ3 h => by
    cases z with
    | rt ds => exact .ok h
    | ex c fs es => exact .ok h)))
theorem W_xX {m : MX} {r : MXL} {Q : List D → Env → Prop} {Qx : Str → List Str → List D → Env → Prop} (h : W (m ρ) (Kx (fun t ρ1 => W (r ρ1) (KxL (fun ds => Q (t.toD :: ds)) Qx)) Qx)) : W (xX m r ρ) (KxL Q Qx) :=
  .bind (h.imp fun x ρ1 h => by
    cases x with
    | rt t => exact .bind (W.imp h fun z ρ3 h => by
        cases z with
        | rt ds => exact .ok h
        | ex c fs es => exact .ok h)
    | ex c fs es => exact .ok h)
def KXc (fn : FnX) (Q : T → Env → Prop) (Qx : Str → List Str → List D → Env → Prop) (ds : List D) (ρ : Env) : Prop := Fox (fn (ds.map .fz)) fun r _ => Kx Q Qx r ρ
theorem W_xCall {fn : FnX} {as : MXL} {Q : T → Env → Prop} {Qx : Str → List Str → List D → Env → Prop} (h : W (as ρ) (KxL (KXc fn Q Qx) Qx)) : W (xCall fn as ρ) (Kx Q Qx) :=
  .bind (h.imp fun y ρ1 h => by
    cases y with
    | rt ds =>
      obtain ⟨r, ts, e, h⟩ := (h : Fox (fn (ds.map .fz)) fun r _ => Kx Q Qx r ρ1)
      exact ⟨r, ρ1, by show (fn (ds.map .fz)).bind _ = _; rw [e] <;> rfl, h⟩
    | ex c fs es => exact .ok h)
theorem KXc_ {fn : FnX} {Q : T → Env → Prop} {Qx : Str → List Str → List D → Env → Prop} {ds : List D} (h : Fox (fn (ds.map .fz)) fun r _ => Kx Q Qx r ρ) : KXc fn Q Qx ds ρ := h
theorem KXc_1 {fn : FnX} {Q : T → Env → Prop} {Qx : Str → List Str → List D → Env → Prop} {d1 : D} (h : Fox (fn [.fz d1]) fun r _ => Kx Q Qx r ρ) : KXc fn Q Qx [d1] ρ := h
theorem KXc_2 {fn : FnX} {Q : T → Env → Prop} {Qx : Str → List Str → List D → Env → Prop} {d1 d2 : D} (h : Fox (fn [.fz d1, .fz d2]) fun r _ => Kx Q Qx r ρ) : KXc fn Q Qx [d1, d2] ρ := h
def KXp (fn : Fn) (Q : T → Env → Prop) (ds : List D) (ρ : Env) : Prop := Fok (fn (ds.map .fz)) fun r _ => Q r ρ
theorem W_xPure {fn : Fn} {as : MXL} {Q : T → Env → Prop} {Qx : Str → List Str → List D → Env → Prop} (h : W (as ρ) (KxL (KXp fn Q) Qx)) : W (xPure fn as ρ) (Kx Q Qx) :=
  .bind (h.imp fun y ρ1 h => by
    cases y with
    | rt ds =>
      obtain ⟨r, ts, e, h⟩ := (h : Fok (fn (ds.map .fz)) fun r _ => Q r ρ1)
      exact ⟨.rt r, ρ1, by show (fn (ds.map .fz)).bind _ = _; rw [e] <;> rfl, h⟩
    | ex c fs es => exact .ok h)
theorem W_xTup {as : MXL} {Q : T → Env → Prop} {Qx : Str → List Str → List D → Env → Prop} (h : W (as ρ) (KxL (fun ds ρ1 => small ds = true ∧ Q (.fz (.nd .tup ds)) ρ1) Qx)) : W (xTup as ρ) (Kx Q Qx) :=
  .bind (h.imp fun y ρ1 h => by
    cases y with
    | rt ds =>
      obtain ⟨h1, h2⟩ := (h : small ds = true ∧ Q (.fz (.nd .tup ds)) ρ1)
      show W (if (!small ds) = true then none else _) _
      rw [h1]
      exact .ok h2
    | ex c fs es => exact .ok h)
/-! ### statements -/
theorem W_sXE {m : MX} {Q : Fl → Env → Prop} (h : W (m ρ) (Kx (fun _ ρ1 => Q .nx ρ1) fun c fs es ρ1 => Q (.ex c fs es) ρ1)) : W (sXE m ρ) Q := .bind (h.imp fun x ρ1 h => by
  cases x with
  | rt t => exact .ok h
  | ex c fs es => exact .ok h)
theorem W_sXR {m : MX} {Q : Fl → Env → Prop} (h : W (m ρ) (Kx (fun t ρ1 => Q (.rt t) ρ1) fun c fs es ρ1 => Q (.ex c fs es) ρ1)) : W (sXR m ρ) Q := .bind (h.imp fun x ρ1 h => by
  cases x with
  | rt t => exact .ok h
  | ex c fs es => exact .ok h)
theorem W_sXA {i : Nat} {m : MX} {Q : Fl → Env → Prop} (h : W (m ρ) (Kx (fun t ρ1 => Kput i t ρ1 fun ρ2 => Q .nx ρ2) fun c fs es ρ1 => Q (.ex c fs es) ρ1)) : W (sXA i m ρ) Q := .bind (h.imp fun x ρ1 h => by
  cases x with
  | rt t =>
    obtain ⟨ρ2, e, h⟩ := put_K h
    exact ⟨.nx, ρ2, by show (put i t ρ1).bind _ = _; rw [e] <;> rfl, h⟩
  | ex c fs es => exact .ok h)
/-! ### try -/
/-- behind the body of a try -/
def Ktry (tab : List (Str × Bool)) (i : Option Nat) (ms : MS) (Q : Fl → Env → Prop) : Fl → Env → Prop
  | .ex c fs ds, ρ => FB (tab.lookup c) fun b => if b = true then FB (match i with
      | some i => put i (.fz (.nd (.exc c fs) ds)) ρ
      | none => some ρ) fun ρ2 => W (ms ρ2) fun fl ρ3 => (∀ c fs ds, fl ≠ .ex c fs ds) ∧ Q fl (match i with
        | some i => ρ3.set i none
        | none => ρ3) else Q (.ex c fs ds) ρ
  | fl, ρ => Q fl ρ
theorem W_sTry {tab : List (Str × Bool)} {i : Option Nat} {mb ms : MS} {Q : Fl → Env → Prop} (h : W (mb ρ) (Ktry tab i ms Q)) : W (sTry tab i mb ms ρ) Q := .bind (h.imp fun x ρ1 h => by
  cases x with
  | nx => exact .ok h
  | bk => exact .ok h
  | ct => exact .ok h
  | rt t => exact .ok h
  | ex c fs ds =>
    obtain ⟨b, e, h⟩ := h
    show W ((tab.lookup c).bind _) Q
    rw [e]
    show W (if b = true then _ else _) Q
    by_cases hb : b = true
    · rw [if_pos hb] at h ⊢
      cases i with
      | none =>
        obtain ⟨ρ2, e2, h⟩ := h
        cases (show some ρ1 = some ρ2 from e2)
        show W ((ms ρ1).bind _) Q
        refine W.bind (W.imp h fun fl ρ3 h => ?_)
        cases fl with
        | nx => exact .ok h.2
        | bk => exact .ok h.2
        | ct => exact .ok h.2
        | rt t => exact .ok h.2
        | ex c fs ds => exact absurd rfl (h.1 c fs ds)
      | some i =>
        obtain ⟨ρ2, e2, h⟩ := h
        have e2 : put i (.fz (.nd (.exc c fs) ds)) ρ1 = some ρ2 := e2
        show W ((put i (.fz (.nd (.exc c fs) ds)) ρ1).bind _) Q
        rw [e2]
        refine W.bind (W.imp h fun fl ρ3 h => ?_)
        cases fl with
        | nx => exact .ok h.2
        | bk => exact .ok h.2
        | ct => exact .ok h.2
        | rt t => exact .ok h.2
        | ex c fs ds => exact absurd rfl (h.1 c fs ds)
    · rw [if_neg hb] at h ⊢
      exact .ok h)
/-! ### what a caught error is asked -/
theorem W_eXf {cs : List Str} {f : Str} {m : M} {Q : Arg → Env → Prop} (h : W (m ρ) fun x ρ1 => FB (deref ρ1 x) fun d => FB (fXf cs f d) fun r => Q (.vl r) ρ1) : W (eXf cs f m ρ) Q := .bind (h.imp fun x ρ1 ⟨d, e1, r, e2, h⟩ => ⟨.vl r, ρ1, by show (deref ρ1 x).bind _ = _; rw [e1]; show (fXf cs f d).bind _ = _; rw [e2] <;> rfl, h⟩)
theorem W_eIsT {ys ns : List Str} {m : M} {Q : Arg → Env → Prop} (h : W (m ρ) fun x ρ1 => FB (deref ρ1 x) fun d => FB (fIsT ys ns d) fun b => Q (.vl (.bl b)) ρ1) : W (eIsT ys ns m ρ) Q := .bind (h.imp fun x ρ1 ⟨d, e1, b, e2, h⟩ => ⟨.vl (.bl b), ρ1, by show (deref ρ1 x).bind _ = _; rw [e1]; show (fIsT ys ns d).bind _ = _; rw [e2] <;> rfl, h⟩)
/-! behind a try, as rules -/
def Kcat (i : Option Nat) (Q : Fl → Env → Prop) : Fl → Env → Prop
  | .ex _ _ _, _ => False
  | fl, ρ => match i with
    | some i => Kset i none ρ (Q fl)
    | none => Q fl ρ
section
variable {tab : List (Str × Bool)} {i : Nat} {oi : Option Nat} {ms : MS} {Q : Fl → Env → Prop} {c : Str} {fs : List Str} {ds : List D} {t : T}
theorem Ktry_nx (h : Q .nx ρ) : Ktry tab oi ms Q .nx ρ := h
theorem Ktry_bk (h : Q .bk ρ) : Ktry tab oi ms Q .bk ρ := h
theorem Ktry_ct (h : Q .ct ρ) : Ktry tab oi ms Q .ct ρ := h
theorem Ktry_rt (h : Q (.rt t) ρ) : Ktry tab oi ms Q (.rt t) ρ := h
theorem Ktry_mi (z : tab.lookup c = some false) (h : Q (.ex c fs ds) ρ) : Ktry tab oi ms Q (.ex c fs ds) ρ := ⟨false, z, h⟩
theorem Kcat_not {fl : Fl} (h : Kcat oi Q fl ρ) : ∀ c fs ds, fl ≠ .ex c fs ds := fun c fs ds e => by subst e; exact h
theorem Ktry_so (z : tab.lookup c = some true) (h : Kput i (.fz (.nd (.exc c fs) ds)) ρ fun ρ2 => W (ms ρ2) (Kcat (some i) Q)) : Ktry tab (some i) ms Q (.ex c fs ds) ρ := by
  obtain ⟨ρ2, e, h⟩ := put_K h
  refine ⟨true, z, ?_⟩
  show FB (put i (.fz (.nd (.exc c fs) ds)) ρ) fun ρ2 => W (ms ρ2) fun fl ρ3 => (∀ c fs ds, fl ≠ .ex c fs ds) ∧ Q fl (ρ3.set i none)
  refine ⟨ρ2, e, h.imp fun fl ρ3 h => ⟨Kcat_not h, ?_⟩⟩
  cases fl with
  | ex _ _ _ => exact h.elim
  | _ => exact h
theorem Ktry_no (z : tab.lookup c = some true) (h : W (ms ρ) (Kcat none Q)) : Ktry tab none ms Q (.ex c fs ds) ρ := by
  refine ⟨true, z, ?_⟩
  show FB (some ρ) fun ρ2 => W (ms ρ2) fun fl ρ3 => (∀ c fs ds, fl ≠ .ex c fs ds) ∧ Q fl ρ3
  refine ⟨ρ, rfl, h.imp fun fl ρ3 h => ⟨Kcat_not h, ?_⟩⟩
  cases fl with
  | ex _ _ _ => exact h.elim
  | _ => exact h
theorem Kcat_nx (h : Kset i none ρ (Q .nx)) : Kcat (some i) Q .nx ρ := h
theorem Kcat_bk (h : Kset i none ρ (Q .bk)) : Kcat (some i) Q .bk ρ := h
theorem Kcat_ct (h : Kset i none ρ (Q .ct)) : Kcat (some i) Q .ct ρ := h
theorem Kcat_rt (h : Kset i none ρ (Q (.rt t))) : Kcat (some i) Q (.rt t) ρ := h
theorem Kcat_nx0 (h : Q .nx ρ) : Kcat none Q .nx ρ := h
theorem Kcat_bk0 (h : Q .bk ρ) : Kcat none Q .bk ρ := h
theorem Kcat_ct0 (h : Q .ct ρ) : Kcat none Q .ct ρ := h
theorem Kcat_rt0 (h : Q (.rt t) ρ) : Kcat none Q (.rt t) ρ := h
end
theorem FB_xf {cs : List Str} {f : Str} {d r : D} {Q : D → Prop} (z : fXf cs f d = some r) (h : Q r) : FB (fXf cs f d) Q := ⟨r, z, h⟩
theorem FB_isT {ys ns : List Str} {d : D} {b : Bool} {Q : Bool → Prop} (z : fIsT ys ns d = some b) (h : Q b) : FB (fIsT ys ns d) Q := ⟨b, z, h⟩
end
end DL

end

section
set_option Elab.async false
set_option linter.all false
set_option maxRecDepth 100000
set_option maxHeartbeats 400000
/-! PZ: going through what EN has. -/
namespace DL
open PySem L2 TL
section
variable {ρ : Env} {i j : Int} {a b : List Nat} {ds : List D}
theorem FB_geI {Q : D → Prop} (h : Q (.bl (decide (j ≤ i)))) : FB (fGeA (.int i) (.int j)) Q := ⟨_, rfl, h⟩
theorem FB_geS {Q : D → Prop} (h : Q (.bl (!decide (a < b)))) : FB (fGeA (.str (sL a)) (.str (sL b))) Q := ⟨_, rfl, h⟩
theorem FB_ltS {Q : D → Prop} (h : Q (.bl (decide (a < b)))) : FB (fLt (.str (sL a)) (.str (sL b))) Q := ⟨_, rfl, h⟩
theorem FB_sum {ns : List Int} {Q : D → Prop} (z : ds = ns.map D.int) (h : Q (.int ns.sum)) : FB (f1 fSum [.nd .lst ds]) Q := by
  subst z
  exact ⟨_, by show (intsD (ns.map D.int)).map _ = _; rw [intsD_map] <;> rfl, h⟩
theorem FB_min2 {Q : D → Prop} (h : Q (.int (if j < i then j else i))) : FB (fMin2 [.int i, .int j]) Q := ⟨_, rfl, h⟩
theorem FB_max2 {Q : D → Prop} (h : Q (.int (if j > i then j else i))) : FB (fMaxT [.int i, .int j]) Q := ⟨_, rfl, h⟩
theorem FB_find {a b : Str} {Q : D → Prop} (h : Q (.int (Txt.find a b))) : FB (fFind (.str a) [.str b]) Q := ⟨_, rfl, h⟩
theorem FB_revS {Q : D → Prop} (z : a.length ≤ 100000) (h : Q (.str (sL a.reverse))) : FB (fRevS (.str (sL a))) Q := ⟨_, if_pos z, h⟩
theorem FB_ord {c : Nat} {Q : D → Prop} (h : Q (.int (c : Int))) : FB (f1 fOrd [.str (sL [c])]) Q := ⟨_, rfl, h⟩
theorem strsD_sL : ∀ xs : List (List Nat), strsD (xs.map fun l => D.str (sL l)) = some (xs.map sL)
  | [] => rfl
  | x :: xs => by
    show (strsD (xs.map fun l => D.str (sL l))).map (sL x :: ·) = _
    rw [strsD_sL xs] <;> rfl
theorem FB_sorA {xs : List (List Nat)} {Q : D → Prop} (z : ds = xs.map fun l => D.str (sL l)) (hl : xs.length ≤ 4000) (h : Q (.nd .lst ((sortN xs).map fun l => D.str (sL l)))) : FB (fSorA (.nd .lst ds)) Q := by
  subst z
  have e : fSorS (.nd .lst (xs.map fun l => D.str (sL l))) = some (.nd .lst ((sortN xs).map fun l => D.str (sL l))) := by
    show (strsD (xs.map fun l => D.str (sL l))).bind _ = _
    rw [strsD_sL]
    show (if (xs.map sL).length ≤ 4000 then _ else _) = _
    rw [if_pos (by rw [List.length_map]; exact hl), List.map_map]
    have : cps ∘ sL = id := funext fun l => rfl
    rw [this, List.map_id]
    rfl
  exact ⟨_, by unfold fSorA; rw [e] <;> rfl, h⟩
theorem FB_sorAT {xs : List (List Nat)} {Q : D → Prop} (z : ds = xs.map fun l => D.str (sL l)) (hl : xs.length ≤ 4000) (h : Q (.nd .lst ((sortN xs).map fun l => D.str (sL l)))) : FB (fSorA (.nd .tup ds)) Q := by
  subst z
  have e : fSorS (.nd .tup (xs.map fun l => D.str (sL l))) = some (.nd .lst ((sortN xs).map fun l => D.str (sL l))) := by
    show (strsD (xs.map fun l => D.str (sL l))).bind _ = _
    rw [strsD_sL]
    show (if (xs.map sL).length ≤ 4000 then _ else _) = _
    rw [if_pos (by rw [List.length_map]; exact hl), List.map_map]
    have : cps ∘ sL = id := funext fun l => rfl
    rw [this, List.map_id]
    rfl
  exact ⟨_, by unfold fSorA; rw [e] <;> rfl, h⟩
/-! ### walks -/
def KEnx (Q : List D → Prop) : List D → Prop
  | [.str x, .int k] => (-(2 ^ 62) ≤ k ∧ k < 2 ^ 62) ∧ Q (enD (tl x) k)
  | _ => False
theorem W_iEnTx {as : MA} {Q : List D → Env → Prop} (h : W (as ρ) fun ys ρ1 => Kder ρ1 ys (KEnx fun es => Q es ρ1)) : W (iEnTx as ρ) Q := .bind (h.imp fun y ρ1 ⟨ds, e, h⟩ => by
  show W ((derefs ρ1 y).bind _) Q
  rw [e]
  unfold KEnx at h
  split at h
  · rename_i x k
    show W (if -(2 ^ 62) ≤ k ∧ k < 2 ^ 62 then _ else _) Q
    rw [if_pos h.1]
    exact .ok h.2
  · exact h.elim)
theorem KEnx_ {l : List Nat} {k : Int} {Q : List D → Prop} (z : -(2 ^ 62) ≤ k ∧ k < 2 ^ 62) (h : Q (l.zipIdx.map fun c => .nd .tup [.int (k + (c.2 : Int)), .str (sL [c.1])])) : KEnx Q [.str (sL l), .int k] := ⟨z, h⟩
def KRg2 (Q : List D → Prop) : List D → Prop
  | [.int i, .int j] => ((-(2 ^ 62) ≤ i ∧ i < 2 ^ 62) ∧ -(2 ^ 62) ≤ j ∧ j < 2 ^ 62) ∧ Q (rng i (j - i).toNat)
  | _ => False
theorem W_iRg2 {as : MA} {Q : List D → Env → Prop} (h : W (as ρ) fun ys ρ1 => Kder ρ1 ys (KRg2 fun es => Q es ρ1)) : W (iRg2 as ρ) Q := .bind (h.imp fun y ρ1 ⟨ds, e, h⟩ => by
  show W ((derefs ρ1 y).bind _) Q
  rw [e]
  unfold KRg2 at h
  split at h
  · rename_i i j
    show W (if (-(2 ^ 62) ≤ i ∧ i < 2 ^ 62) ∧ -(2 ^ 62) ≤ j ∧ j < 2 ^ 62 then _ else _) Q
    rw [if_pos h.1]
    exact .ok h.2
  · exact h.elim)
theorem KRg2_ {Q : List D → Prop} (z : (-(2 ^ 62) ≤ i ∧ i < 2 ^ 62) ∧ -(2 ^ 62) ≤ j ∧ j < 2 ^ 62) (h : Q (rng i (j - i).toNat)) : KRg2 Q [.int i, .int j] := ⟨z, h⟩
theorem W_oDicF {ks : List Key} {vms : List (Bool × M)} {Q : T → Env → Prop} (h : W (mAll vms ρ) fun ys ρ1 => Kfrl ρ1 ys fun ds ρ2 => Q (.nd (.dic ks) (ds.map .fz)) ρ2) : W (oDicF ks vms ρ) Q := .bind (h.imp fun x ρ1 h => .bind (h.imp fun y ρ2 h => .ok h))
theorem cut_init {xs : List D} {x : D} : cutD (xs ++ [x]) none (some (-1)) = xs := by
  unfold cutD HT.sIx
  simp
  rw [show (-1 + ((xs.length : Int) + 1)).toNat = xs.length by omega, List.take_left]
theorem atI_last {α : Type} {xs : List α} {x : α} : atI (xs ++ [x]) (-1) = some x := by
  unfold atI ixN
  rw [if_neg (by decide), List.length_append]
  show (if _ then some _ else none).bind _ = _
  rw [if_pos (by simp only [List.length_cons, List.length_nil]; omega)]
  show (xs ++ [x])[_]? = _
  rw [show ((-1 : Int) + ((xs.length + [x].length : Nat) : Int)).toNat = xs.length by simp only [List.length_cons, List.length_nil]; omega]
  simp
theorem KXc_3 {fn : FnX} {Q : T → Env → Prop} {Qx : Str → List Str → List D → Env → Prop} {d1 d2 d3 : D} (h : Fox (fn [.fz d1, .fz d2, .fz d3]) fun r _ => Kx Q Qx r ρ) : KXc fn Q Qx [d1, d2, d3] ρ := h
theorem KXc_4 {fn : FnX} {Q : T → Env → Prop} {Qx : Str → List Str → List D → Env → Prop} {d1 d2 d3 d4 : D} (h : Fox (fn [.fz d1, .fz d2, .fz d3, .fz d4]) fun r _ => Kx Q Qx r ρ) : KXc fn Q Qx [d1, d2, d3, d4] ρ := h
theorem KXc_5 {fn : FnX} {Q : T → Env → Prop} {Qx : Str → List Str → List D → Env → Prop} {d1 d2 d3 d4 d5 : D} (h : Fox (fn [.fz d1, .fz d2, .fz d3, .fz d4, .fz d5]) fun r _ => Kx Q Qx r ρ) : KXc fn Q Qx [d1, d2, d3, d4, d5] ρ := h
theorem FB_iaI {Q : D → Prop} (h : Q (.int (i + j))) : FB (fAddIA (.int i) (.int j)) Q := ⟨_, rfl, h⟩
theorem FB_iaS {Q : D → Prop} (z : a.length + b.length ≤ 100000) (h : Q (.str (sL (a ++ b)))) : FB (fAddIA (.str (sL a)) (.str (sL b))) Q := by
  refine ⟨_, ?_, h⟩
  have e : sL a ++ sL b = sL (a ++ b) := ext_tl (tl_append (sL a) (sL b))
  rw [← e]
  show ((none : Option D).or (if decide ((sL a).length + (sL b).length ≤ 100000) = true then some (D.str (sL a ++ sL b)) else none)) = _
  rw [if_pos (decide_eq_true (by rw [len_tl, len_tl]; exact z))] <;> rfl
end
end DL

end

section
set_option Elab.async false
set_option linter.all false
set_option maxRecDepth 100000
set_option maxHeartbeats 400000
/-! PI: instances in the pure calculus. -/
namespace DL
open PySem L2
section
variable {ρ : Env} {q : Bool}
theorem W_sFl {cs : List Str} {f : Str} {e o : M} {Q : Fl → Env → Prop} (h : W (e ρ) fun v ρ1 => v.deep = false ∧ W (o ρ1) fun x ρ2 => ∃ j, x = .rf j [] ∧ Kfrl ρ2 [v] fun ds ρ3 => Kmut (fPutF cs f) j ds ρ3 fun _ ρ4 => Q .nx ρ4) : W (sFl cs f e o ρ) Q := .bind (h.imp fun v ρ1 h => by
  obtain ⟨h1, h⟩ := h
  show W (if v.deep = true then none else _) Q
  rw [h1, if_neg (fun z => nomatch z)]
  refine W.bind (h.imp fun x ρ2 h' => ?_)
  obtain ⟨j, rfl, hk⟩ := h'
  show W (if ((Arg.rf j []).deep && !v.isVl) = true then none else _) Q
  rw [show (Arg.rf j []).deep = false from rfl, Bool.false_and, if_neg (fun z => nomatch z)]
  exact W.bind (W.imp hk fun ds ρ3 h => W.bind (h.imp fun r ρ4 h => .ok h)))
theorem W_eFl {cs : List Str} {f : Str} {m : M} {Q : Arg → Env → Prop} (h : W (m ρ) fun x ρ1 => FB (deref ρ1 x) fun d => FB (fFl cs f d) fun r => Q (.vl r) ρ1) : W (eFl cs f m ρ) Q := .bind (h.imp fun x ρ1 ⟨d, e1, r, e2, h⟩ => ⟨.vl r, ρ1, by show (deref ρ1 x).bind _ = _; rw [e1]; show (fFl cs f d).bind _ = _; rw [e2] <;> rfl, h⟩)
theorem FB_fl {cs : List Str} {f : Str} {d r : D} {Q : D → Prop} (z : fFl cs f d = some r) (h : Q r) : FB (fFl cs f d) Q := ⟨r, z, h⟩
def KNew (c : Str) (fn : Fn) (ds : List D) (Q : T → Prop) : Prop := Fok (fn (.nd (.ins c []) [] :: ds.map .fz)) fun r ts => r = .fz .non ∧ ∃ t' rest, ts = t' :: rest ∧ Q t'
theorem W_oNew {c : Str} {fn : Fn} {as : MA} {Q : T → Env → Prop} (h : W (as ρ) fun ys ρ1 => Kfrl ρ1 ys fun ds ρ2 => KNew c fn ds fun t' => Q t' ρ2) : W (oNew c fn as ρ) Q := by
  obtain ⟨ys, ρ1, e1, ds, ρ2, e2, r, ts, e4, rfl, t', rst, rfl, h⟩ := h
  refine ⟨t', ρ2, ?_, h⟩
  show (as ρ).bind _ = _
  rw [e1]
  show (frzL ρ1 ys).bind _ = _
  rw [e2]
  show (fn _).bind _ = _
  rw [e4] <;> rfl
theorem KNew_2 {c : Str} {fn : Fn} {d1 d2 : D} {Q : T → Prop} (h : Fok (fn [.nd (.ins c []) [], .fz d1, .fz d2]) fun r ts => r = .fz .non ∧ ∃ t' rest, ts = t' :: rest ∧ Q t') : KNew c fn [d1, d2] Q := h
theorem KNew_3 {c : Str} {fn : Fn} {d1 d2 d3 : D} {Q : T → Prop} (h : Fok (fn [.nd (.ins c []) [], .fz d1, .fz d2, .fz d3]) fun r ts => r = .fz .non ∧ ∃ t' rest, ts = t' :: rest ∧ Q t') : KNew c fn [d1, d2, d3] Q := h
theorem KNew_5 {c : Str} {fn : Fn} {d1 d2 d3 d4 d5 : D} {Q : T → Prop} (h : Fok (fn [.nd (.ins c []) [], .fz d1, .fz d2, .fz d3, .fz d4, .fz d5]) fun r ts => r = .fz .non ∧ ∃ t' rest, ts = t' :: rest ∧ Q t') : KNew c fn [d1, d2, d3, d4, d5] Q := h
theorem fPutF_ {cs : List Str} {f c : Str} {fs : List Str} {ts : List T} {d : D} (h : decide (c ∈ cs ∧ f ∉ fs ∧ fs.length < 100) = true) : fPutF cs f (.ins c fs) ts [d] = some (.non, .ins c (fs ++ [f]), ts ++ [.fz d]) := by
  show (if c ∈ cs ∧ f ∉ fs ∧ fs.length < 100 then _ else none) = _
  rw [if_pos (of_decide_eq_true h)] <;> rfl
theorem fFl_ {cs : List Str} {f c : Str} {fs : List Str} {ds : List D} {r : D} (h : decide (c ∈ cs) = true) (h2 : look f fs ds = some r) : fFl cs f (.nd (.ins c fs) ds) = some r := by
  show (if c ∈ cs then _ else none) = _
  rw [if_pos (of_decide_eq_true h)]
  exact h2
/-- both ways of an if come together again -/
theorem Kif.imp {α : Type} {a b : Env → Option (α × Env)} {Q R : α → Env → Prop} {k : Bool} (h : Kif a b R k ρ) (w : ∀ x ρ', R x ρ' → Q x ρ') : Kif a b Q k ρ := by
  cases k with
  | true => exact W.imp (show W (a ρ) R from h) w
  | false => exact W.imp (show W (b ρ) R from h) w
end
end DL

end

section
set_option Elab.async false
set_option linter.all false
/-! VR: versions, ranges, in plain Lean. -/
namespace VR
open DL PySem L2
abbrev V := List Int
abbrev S := V × Option V
abbrev lt (a b : V) : Bool := HT.lexLt a b
theorem lt_irr (a : V) : lt a a = false := lexLt_irrefl a
theorem lt_tr {a b c : V} (h : lt a b = true) (h2 : lt b c = true) : lt a c = true := lexLt_trans h h2
theorem lt_tot {a b : V} (e : a ≠ b) (h : lt a b = false) : lt b a = true := lexLt_total e h
theorem lt_asy {a b : V} (h : lt a b = true) : lt b a = false := by
  cases z : lt b a with
  | false => rfl
  | true => exact absurd (lt_tr h z) (by rw [lt_irr]; exact fun z => nomatch z)
theorem nlt_tr {a b c : V} (h : lt b a = false) (h2 : lt c b = false) : lt c a = false := by
  cases z : lt c a with
  | false => rfl
  | true =>
    by_cases e : a = b
    · subst e; rw [z] at h2; cases h2
    · cases q : lt a b with
      | true => rw [lt_tr z q] at h2; cases h2
      | false => rw [lt_tot e q] at h; cases h
/-- a ≤ b < c -/
theorem le_lt {a b c : V} (h : lt b a = false) (h2 : lt b c = true) : lt a c = true := by
  by_cases e : a = b
  · rw [e]; exact h2
  · cases q : lt a b with
    | true => exact lt_tr q h2
    | false => rw [lt_tot e q] at h; cases h
theorem lt_le {a b c : V} (h : lt a b = true) (h2 : lt c b = false) : lt a c = true := by
  by_cases e : b = c
  · rw [← e]; exact h
  · cases q : lt b c with
    | true => exact lt_tr h q
    | false => rw [lt_tot e q] at h2; cases h2
theorem leI_not : ∀ a b : V, lexLeI a b = !lt b a
  | [], [] => rfl
  | [], _ :: _ => rfl
  | _ :: _, [] => rfl
  | x :: xs, y :: ys => by
    show (if x = y then lexLeI xs ys else decide (x ≤ y)) = !(if y = x then lt ys xs else decide (y < x))
    by_cases e : x = y
    · rw [if_pos e, if_pos e.symm]
      exact leI_not xs ys
    · rw [if_neg e, if_neg (fun z => e z.symm)]
      by_cases h : x ≤ y
      · rw [decide_eq_true h, decide_eq_false (by omega)] <;> rfl
      · rw [decide_eq_false h, decide_eq_true (by omega)] <;> rfl
def bel (v : V) : Option V → Bool
  | none => true
  | some h => lt v h
def mx (a b : V) : V := if lt a b = true then b else a
def les : Option V → Option V → Option V
  | none, b => b
  | some a, none => some a
  | some a, some b => if lt a b = true then some a else some b
def inS (v : V) (s : S) : Bool := !lt v s.1 && bel v s.2
def has (r : List S) (v : V) : Bool := r.any (inS v)
def both1 (s t : S) : Option S := if bel (mx s.1 t.1) (les s.2 t.2) = true then some (mx s.1 t.1, les s.2 t.2) else none
def both (r s : List S) : List S := r.flatMap fun x => s.filterMap fun y => both1 x y
theorem mx_le {a b v : V} : lt v (mx a b) = false ↔ lt v a = false ∧ lt v b = false := by
  unfold mx
  cases z : lt a b with
  | true => exact ⟨fun h => ⟨nlt_tr (lt_asy z) h, h⟩, fun h => h.2⟩
  | false => exact ⟨fun h => ⟨h, nlt_tr z h⟩, fun h => h.1⟩
theorem bel_les {a b : Option V} {v : V} : bel v (les a b) = true ↔ bel v a = true ∧ bel v b = true := by
  cases a with
  | none => exact ⟨fun h => ⟨rfl, h⟩, fun h => h.2⟩
  | some a => cases b with
    | none => exact ⟨fun h => ⟨h, rfl⟩, fun h => h.1⟩
    | some b =>
      show bel v (if lt a b = true then some a else some b) = true ↔ lt v a = true ∧ lt v b = true
      cases z : lt a b with
      | true => exact ⟨fun h => ⟨h, lt_tr h z⟩, fun h => h.1⟩
      | false => exact ⟨fun h => ⟨lt_le h z, h⟩, fun h => h.2⟩
theorem bel_mono {u v : V} {h : Option V} (a : lt v u = false) (b : bel v h = true) : bel u h = true := by
  cases h with
  | none => rfl
  | some h => exact le_lt a b
theorem both_ne {r s : List S} : both r s ≠ [] ↔ ∃ v, has r v = true ∧ has s v = true := by
  constructor
  · intro h
    obtain ⟨p, hp⟩ := List.exists_mem_of_ne_nil _ h
    obtain ⟨x, hx, hp⟩ := List.mem_flatMap.mp hp
    obtain ⟨y, hy, e⟩ := List.mem_filterMap.mp hp
    unfold both1 at e
    split at e
    · rename_i z
      obtain ⟨z1, z2⟩ := bel_les.mp z
      obtain ⟨m1, m2⟩ := mx_le.mp (lt_irr (mx x.1 y.1))
      refine ⟨mx x.1 y.1, List.any_eq_true.mpr ⟨x, hx, ?_⟩, List.any_eq_true.mpr ⟨y, hy, ?_⟩⟩
      · unfold inS; rw [m1, z1] <;> rfl
      · unfold inS; rw [m2, z2] <;> rfl
    · cases e
  · rintro ⟨v, h1, h2⟩
    obtain ⟨x, hx, h1⟩ := List.any_eq_true.mp h1
    obtain ⟨y, hy, h2⟩ := List.any_eq_true.mp h2
    obtain ⟨a1, a2⟩ := Bool.and_eq_true_iff.mp h1
    obtain ⟨b1, b2⟩ := Bool.and_eq_true_iff.mp h2
    have a1 : lt v x.1 = false := by simpa using a1
    have b1 : lt v y.1 = false := by simpa using b1
    have z : bel (mx x.1 y.1) (les x.2 y.2) = true := bel_mono (mx_le.mpr ⟨a1, b1⟩) (bel_les.mpr ⟨a2, b2⟩)
    have e : both1 x y = some (mx x.1 y.1, les x.2 y.2) := by unfold both1; rw [if_pos z]
    exact List.ne_nil_of_mem (List.mem_flatMap.mpr ⟨x, hx, List.mem_filterMap.mpr ⟨y, hy, e⟩⟩)
/-! outside -/
def out : Option V → List S → List S
  | none, [] => []
  | some v, [] => [(v, none)]
  | none, (_, h) :: r => out h r
  | some v, (l, h) :: r => if lt v l = true then (v, some l) :: out h r else out h r
/-- sorted: each stretch is one, each begins behind the one before -/
def okR : Option V → List S → Prop
  | _, [] => True
  | none, _ :: _ => False
  | some v, (l, h) :: r => lt v l = true ∧ bel l h = true ∧ okR h r
def okR0 (z : V) : List S → Prop
  | [] => True
  | (l, h) :: r => lt l z = false ∧ bel l h = true ∧ okR h r
theorem has_low : ∀ {r : List S} {w v : V}, okR (some w) r → lt v w = true → has r v = false
  | [], _, _, _, _ => rfl
  | (l, h) :: r, w, v, ⟨h1, h2, h3⟩, hv => by
    have hl : lt v l = true := lt_tr hv h1
    have e : inS v (l, h) = false := by unfold inS; rw [hl]; rfl
    show (inS v (l, h) || has r v) = false
    rw [e, Bool.false_or]
    cases h with
    | none => cases r with
      | nil => rfl
      | cons _ _ => exact h3.elim
    | some w2 => exact has_low h3 (lt_tr hl h2)
/-- the points of the rest -/
theorem out_has : ∀ {r : List S} {b : Option V} {v : V}, okR b r → has (out b r) v = (match b with
    | none => false
    | some w => !lt v w && !has r v)
  | [], none, _, _ => rfl
  | [], some w, v, _ => by
    show ((!lt v w && bel v none) || false) = (!lt v w && !false)
    simp [bel]
  | (l, h) :: r, none, _, hk => hk.elim
  | (l, h) :: r, some w, v, ⟨h1, h2, h3⟩ => by
    show has (if lt w l = true then (w, some l) :: out h r else out h r) v = (!lt v w && !(inS v (l, h) || has r v))
    rw [if_pos h1]
    show (inS v (w, some l) || has (out h r) v) = _
    rw [out_has h3]
    show ((!lt v w && lt v l) || _) = (!lt v w && !((!lt v l && bel v h) || has r v))
    cases hvw : lt v w with
    | true =>
      have : lt v l = true := lt_tr hvw h1
      cases h with
      | none => rfl
      | some h =>
        have t2 : lt v h = true := lt_tr this h2
        show ((!true && lt v l) || (!lt v h && !has r v)) = (!true && !((!lt v l && lt v h) || has r v))
        rw [t2] <;> rfl
    | false =>
      cases hvl : lt v l with
      | true =>
        have hr : has r v = false := by
          cases h with
          | none => cases r with
            | nil => rfl
            | cons _ _ => exact h3.elim
          | some h => exact has_low h3 (lt_tr hvl h2)
        rw [hr]
        rfl
      | false =>
        cases h with
        | none =>
          show (_ || false) = _
          simp [bel]
        | some h =>
          show (_ || (!lt v h && !has r v)) = (!false && !((!false && lt v h) || has r v))
          cases lt v h <;> cases has r v <;> rfl
theorem out_has0 {z : V} {r : List S} {v : V} (h : okR0 z r) : has (out (some z) r) v = (!lt v z && !has r v) := by
  cases r with
  | nil => exact out_has (b := some z) (r := []) trivial
  | cons s r =>
    obtain ⟨l, hh⟩ := s
    obtain ⟨h1, h2, h3⟩ := h
    cases hz : lt z l with
    | true => exact out_has (b := some z) (r := (l, hh) :: r) ⟨hz, h2, h3⟩
    | false =>
      have e : z = l := by
        by_cases e : z = l
        · exact e
        · rw [lt_tot e hz] at h1; cases h1
      subst e
      show has (if lt z z = true then _ else out hh r) v = (!lt v z && !((!lt v z && bel v hh) || has r v))
      rw [if_neg (by rw [lt_irr]; exact fun q => nomatch q), out_has h3]
      cases hv : lt v z with
      | true =>
        cases hh with
        | none => rfl
        | some w =>
          have : lt v w = true := lt_tr hv h2
          show (!lt v w && _) = _
          rw [this] <;> rfl
      | false =>
        cases hh with
        | none => simp [bel]
        | some w =>
          show (!lt v w && !has r v) = (!false && !((!false && lt v w) || has r v))
          cases lt v w <;> cases has r v <;> rfl
/-! the law's own way: marks -/
def mk : Option V → List (V × Bool) → List S
  | none, [] => []
  | some b, [] => [(b, none)]
  | none, (m, f) :: r => if f = true then mk (some m) r else mk none r
  | some b, (m, f) :: r => if f = true then mk (some b) r else (b, some m) :: mk none r
def cov : Bool → List (V × Bool) → V → Bool
  | c, [], _ => c
  | c, (m, f) :: r, v => if lt v m = false then cov f r v else c
def asc (l : List V) : Prop := l.Pairwise fun a b => lt a b = true
theorem mk_low : ∀ {l : List (V × Bool)} {v : V}, (∀ p ∈ l, lt v p.1 = true) → has (mk none l) v = false
  | [], _, _ => rfl
  | (m, f) :: r, v, h => by
    show has (if f = true then mk (some m) r else mk none r) v = false
    cases f with
    | false => exact mk_low fun p hp => h p (List.mem_cons_of_mem _ hp)
    | true => exact mk_lowS (h (m, true) (List.mem_cons_self ..)) fun p hp => h p (List.mem_cons_of_mem _ hp)
where
  mk_lowS : ∀ {l : List (V × Bool)} {b v : V}, lt v b = true → (∀ p ∈ l, lt v p.1 = true) → has (mk (some b) l) v = false
  | [], b, v, hb, _ => by
    show ((!lt v b && _) || false) = false
    rw [hb] <;> rfl
  | (m, f) :: r, b, v, hb, h => by
    show has (if f = true then mk (some b) r else (b, some m) :: mk none r) v = false
    cases f with
    | true => exact mk_lowS hb fun p hp => h p (List.mem_cons_of_mem _ hp)
    | false =>
      show ((!lt v b && _) || has (mk none r) v) = false
      rw [hb, mk_low fun p hp => h p (List.mem_cons_of_mem _ hp)] <;> rfl
theorem mk_cov : ∀ {l : List (V × Bool)} {o : Option V} {v : V}, asc (l.map (·.1)) → (∀ b, o = some b → lt v b = false ∧ ∀ p ∈ l, lt b p.1 = true) → has (mk o l) v = cov (o.isSome) l v
  | [], none, _, _, _ => rfl
  | [], some b, v, _, h => by
    show ((!lt v b && true) || false) = true
    rw [(h b rfl).1] <;> rfl
  | (m, f) :: r, o, v, ha, h => by
    have ha2 := List.pairwise_cons.mp ha
    have hr : ∀ p ∈ r, lt m p.1 = true := fun p hp => ha2.1 p.1 (List.mem_map_of_mem hp)
    show has (mk o ((m, f) :: r)) v = if lt v m = false then cov f r v else o.isSome
    cases hv : lt v m with
    | false =>
      rw [if_pos rfl]
      cases o with
      | none =>
        show has (if f = true then mk (some m) r else mk none r) v = _
        cases f with
        | true => exact mk_cov ha2.2 fun b e => by cases e; exact ⟨hv, hr⟩
        | false => exact mk_cov ha2.2 fun b e => by cases e
      | some b =>
        obtain ⟨h1, h2⟩ := h b rfl
        show has (if f = true then mk (some b) r else (b, some m) :: mk none r) v = _
        cases f with
        | true => exact mk_cov ha2.2 fun b' e => by cases e; exact ⟨h1, fun p hp => h2 p (List.mem_cons_of_mem _ hp)⟩
        | false =>
          show ((!lt v b && lt v m) || has (mk none r) v) = _
          rw [hv, Bool.and_false, Bool.false_or]
          exact mk_cov ha2.2 fun b e => by cases e
    | true =>
      rw [if_neg (fun z => nomatch z)]
      have hlow : ∀ p ∈ r, lt v p.1 = true := fun p hp => lt_tr hv (hr p hp)
      cases o with
      | none =>
        show has (if f = true then mk (some m) r else mk none r) v = _
        cases f with
        | true => exact mk_low.mk_lowS hv hlow
        | false => exact mk_low hlow
      | some b =>
        obtain ⟨h1, h2⟩ := h b rfl
        show has (if f = true then mk (some b) r else (b, some m) :: mk none r) v = true
        cases f with
        | true =>
          rw [if_pos rfl, mk_cov (o := some b) ha2.2 fun b' e => by cases e; exact ⟨h1, fun p hp => h2 p (List.mem_cons_of_mem _ hp)⟩]
          cases r with
          | nil => rfl
          | cons p r =>
            obtain ⟨m2, f2⟩ := p
            show (if lt v m2 = false then _ else true) = true
            rw [if_neg (by rw [hlow (m2, f2) (List.mem_cons_self ..)]; exact fun z => nomatch z)]
        | false =>
          show ((!lt v b && lt v m) || _) = true
          rw [h1, hv] <;> rfl
theorem cov_last {F : V → Bool} {v : V} : ∀ {l : List V} {c : Bool}, asc l → (∃ m ∈ l, lt v m = false) → ∃ m ∈ l, lt v m = false ∧ (∀ m' ∈ l, lt v m' = false → lt m m' = false) ∧ cov c (l.map fun m => (m, F m)) v = F m
  | [], _, _, h => by obtain ⟨m, hm, _⟩ := h; cases hm
  | m :: r, c, ha, h => by
    have ha2 := List.pairwise_cons.mp ha
    have hm : lt v m = false := by
      obtain ⟨m', hm', h⟩ := h
      rcases List.mem_cons.mp hm' with rfl | hm'
      · exact h
      · cases z : lt v m with
        | false => rfl
        | true => rw [lt_tr z (ha2.1 m' hm')] at h; cases h
    show ∃ m' ∈ m :: r, lt v m' = false ∧ _ ∧ (if lt v m = false then cov (F m) (r.map fun m => (m, F m)) v else c) = F m'
    rw [if_pos hm]
    by_cases hr : ∃ m' ∈ r, lt v m' = false
    · obtain ⟨m', h1, h2, h3, h4⟩ := cov_last (F := F) (c := F m) ha2.2 hr
      refine ⟨m', List.mem_cons_of_mem _ h1, h2, fun m'' h5 h6 => ?_, h4⟩
      rcases List.mem_cons.mp h5 with rfl | h5
      · exact lt_asy (ha2.1 m' h1)
      · exact h3 m'' h5 h6
    · refine ⟨m, List.mem_cons_self .., hm, fun m'' h5 h6 => ?_, ?_⟩
      · rcases List.mem_cons.mp h5 with rfl | h5
        · exact lt_irr _
        · exact absurd ⟨m'', h5, h6⟩ hr
      · cases r with
        | nil => rfl
        | cons m2 r =>
          show (if lt v m2 = false then _ else F m) = F m
          rw [if_neg fun z => hr ⟨m2, List.mem_cons_self .., z⟩]
/-- the marks of a range -/
def ends (s : S) : List V := match s.2 with
  | none => [s.1]
  | some h => [s.1, h]
def pts (r : List S) : List V := r.flatMap ends
theorem has_same {r : List S} {l : List V} {m v : V} (hp : ∀ p ∈ pts r, p ∈ l) (h1 : lt v m = false) (h2 : ∀ m' ∈ l, lt v m' = false → lt m m' = false) : has r m = has r v := by
  have key : ∀ s ∈ r, inS m s = inS v s := fun s hs => by
    obtain ⟨a, b⟩ := s
    have hin : ∀ p ∈ ends (a, b), p ∈ l := fun p hp' => hp p (List.mem_flatMap.mpr ⟨(a, b), hs, hp'⟩)
    have ea : lt m a = lt v a := by
      have ha : a ∈ l := hin a (by cases b <;> exact List.mem_cons_self ..)
      cases z : lt v a with
      | false => exact h2 a ha z
      | true =>
        exact le_lt h1 z
    have eb : bel m b = bel v b := by
      cases b with
      | none => rfl
      | some b =>
        have hb : b ∈ l := hin b (List.mem_cons_of_mem _ (List.mem_cons_self ..))
        show lt m b = lt v b
        cases z : lt v b with
        | false => exact h2 b hb z
        | true => exact le_lt h1 z
    show (!lt m a && bel m b) = (!lt v a && bel v b)
    rw [ea, eb]
  unfold has
  induction r with
  | nil => rfl
  | cons s r ih =>
    rw [List.any_cons, List.any_cons, key s (List.mem_cons_self ..), ih (fun p hp' => hp p (by
      obtain ⟨x, hx, hy⟩ := List.mem_flatMap.mp hp'
      exact List.mem_flatMap.mpr ⟨x, List.mem_cons_of_mem _ hx, hy⟩)) fun s hs => key s (List.mem_cons_of_mem _ hs)]
def zero : V := [0, 0, 0]
def marks (rs : List (List S)) : List V := sortT (zero :: rs.flatMap pts)
theorem marks_asc (rs : List (List S)) : asc (marks rs) := sortT_asc _
theorem marks_mem {rs : List (List S)} {m : V} : m ∈ marks rs ↔ m = zero ∨ ∃ r ∈ rs, m ∈ pts r := by
  unfold marks
  rw [sortT_mem, List.mem_cons, List.mem_flatMap]
def made (ms : List V) (F : V → Bool) : List S := mk none (ms.map fun m => (m, F m))
def lout (r : List S) : List S := made (marks [r]) fun m => !has r m
def lboth (r s : List S) : List S := made (marks [r, s]) fun m => has r m && has s m
theorem map_fst {F : V → Bool} (ms : List V) : (ms.map fun m => (m, F m)).map (·.1) = ms := by
  rw [List.map_map]
  exact List.map_id ms
theorem lout_has {r : List S} {v : V} (hv : lt v zero = false) : has (lout r) v = !has r v := by
  unfold lout made
  rw [mk_cov (o := none) (by rw [map_fst]; exact marks_asc _) fun b e => by cases e]
  obtain ⟨m, h1, h2, h3, h4⟩ := cov_last (F := fun m => !has r m) (c := false) (marks_asc [r]) ⟨zero, marks_mem.mpr (.inl rfl), hv⟩
  show cov false _ v = _
  rw [h4, has_same (fun p hp => marks_mem.mpr (.inr ⟨r, List.mem_cons_self .., hp⟩)) h2 h3]
theorem mk_nil : ∀ {l : List (V × Bool)}, mk none l = [] ↔ ∀ p ∈ l, p.2 = false
  | [] => by simp [mk]
  | (m, f) :: r => by
    show (if f = true then mk (some m) r else mk none r) = [] ↔ _
    cases f with
    | false =>
      rw [if_neg (fun z => nomatch z), mk_nil]
      constructor
      · intro h p hp
        rcases List.mem_cons.mp hp with rfl | hp
        · rfl
        · exact h p hp
      · exact fun h p hp => h p (List.mem_cons_of_mem _ hp)
    | true =>
      constructor
      · intro h
        exact absurd h (by rw [if_pos rfl]; exact mk_some r m)
      · intro h
        cases h (m, true) (List.mem_cons_self ..)
where
  mk_some : ∀ (l : List (V × Bool)) (b : V), mk (some b) l ≠ []
  | [], b => fun z => nomatch z
  | (m, f) :: r, b => by
    show (if f = true then mk (some b) r else (b, some m) :: mk none r) ≠ []
    cases f with
    | true => exact mk_some r b
    | false => exact fun z => nomatch z
theorem lboth_ne {r s : List S} : lboth r s ≠ [] ↔ ∃ v, has r v = true ∧ has s v = true := by
  unfold lboth made
  constructor
  · intro h
    have : ¬ ∀ p ∈ (marks [r, s]).map (fun m => (m, has r m && has s m)), p.2 = false := fun z => h (mk_nil.mpr z)
    by_cases q : ∃ v, has r v = true ∧ has s v = true
    · exact q
    · exact absurd (fun p hp => by
        obtain ⟨m, hm, rfl⟩ := List.mem_map.mp hp
        show (has r m && has s m) = false
        cases h1 : has r m with
        | false => rfl
        | true => cases h2 : has s m with
          | false => rfl
          | true => exact absurd ⟨m, h1, h2⟩ q) this
  · rintro ⟨v, h1, h2⟩ z
    have z := mk_nil.mp z
    obtain ⟨x, hx, g1⟩ := List.any_eq_true.mp h1
    obtain ⟨y, hy, g2⟩ := List.any_eq_true.mp h2
    obtain ⟨a1, a2⟩ := Bool.and_eq_true_iff.mp g1
    obtain ⟨b1, b2⟩ := Bool.and_eq_true_iff.mp g2
    have a1 : lt v x.1 = false := by simpa using a1
    have b1 : lt v y.1 = false := by simpa using b1
    obtain ⟨m1, m2⟩ := mx_le.mp (lt_irr (mx x.1 y.1))
    have hm := mx_le.mpr ⟨a1, b1⟩
    have i1 : has r (mx x.1 y.1) = true := List.any_eq_true.mpr ⟨x, hx, by unfold inS; rw [m1, bel_mono hm a2] <;> rfl⟩
    have i2 : has s (mx x.1 y.1) = true := List.any_eq_true.mpr ⟨y, hy, by unfold inS; rw [m2, bel_mono hm b2] <;> rfl⟩
    have low : ∀ {p : S}, p.1 ∈ ends p := fun {p} => by
      obtain ⟨a, b⟩ := p
      cases b <;> exact List.mem_cons_self ..
    have hmem : mx x.1 y.1 ∈ marks [r, s] := marks_mem.mpr (.inr (by
      unfold mx
      cases lt x.1 y.1 with
      | true => exact ⟨s, by simp, List.mem_flatMap.mpr ⟨y, hy, low⟩⟩
      | false => exact ⟨r, by simp, List.mem_flatMap.mpr ⟨x, hx, low⟩⟩))
    have := z _ (List.mem_map.mpr ⟨_, hmem, rfl⟩)
    simp only [i1, i2] at this
    cases this
/-- THE LAW: within, both ways -/
theorem part_same {r s : List S} (hs : okR0 zero s) (hr : ∀ v, has r v = true → lt v zero = false) : (both r (out (some zero) s) = []) ↔ (lboth r (lout s) = []) := by
  have e : (∃ v, has r v = true ∧ has (out (some zero) s) v = true) ↔ ∃ v, has r v = true ∧ has (lout s) v = true := by
    constructor
    · rintro ⟨v, h1, h2⟩
      rw [out_has0 hs, hr v h1] at h2
      exact ⟨v, h1, by rw [lout_has (hr v h1)]; simpa using h2⟩
    · rintro ⟨v, h1, h2⟩
      rw [lout_has (hr v h1)] at h2
      exact ⟨v, h1, by rw [out_has0 hs, hr v h1]; simpa using h2⟩
  have e2 := both_ne.trans (e.trans lboth_ne.symm)
  constructor
  · intro h
    by_cases q : lboth r (lout s) = []
    · exact q
    · exact absurd h (e2.mpr q)
  · intro h
    by_cases q : both r (out (some zero) s) = []
    · exact q
    · exact absurd h (e2.mp q)
end VR

end

section
set_option Elab.async false
set_option linter.all false
/-! VR2: ranges are just what they have: both, out, either; one and the same range. -/
namespace VR
open DL PySem L2
theorem mx_lt {a b v : V} (h : lt v a = true) (h2 : lt v b = true) : lt v (mx a b) = true := by
  unfold mx
  split
  · exact h2
  · exact h
theorem mx_lt_r {a b v : V} (h2 : lt v b = true) : lt v (mx a b) = true := by
  unfold mx
  cases z : lt a b with
  | true => exact h2
  | false => exact lt_le h2 z
theorem mx_lt_l {a b v : V} (h2 : lt v a = true) : lt v (mx a b) = true := by
  unfold mx
  cases z : lt a b with
  | true => exact lt_tr h2 z
  | false => exact h2
/-- a stretch ends ahead of where the other begins -/
def gap (s t : S) : Prop := ∃ h, s.2 = some h ∧ lt h t.1 = true
structure canon (r : List S) : Prop where
  lo : ∀ s ∈ r, lt s.1 zero = false
  ok : ∀ s ∈ r, bel s.1 s.2 = true
  pw : r.Pairwise gap
theorem okR_canon : ∀ {r : List S} {w : V}, okR (some w) r → (∀ s ∈ r, lt w s.1 = true ∧ bel s.1 s.2 = true) ∧ r.Pairwise gap
  | [], _, _ => ⟨fun _ h => (nomatch h), .nil⟩
  | (l, none) :: r, w, ⟨h1, h2, h3⟩ => by
    cases r with
    | nil => exact ⟨fun s hs => by
        have : s = (l, none) := by simpa using hs
        rw [this]; exact ⟨h1, rfl⟩, List.pairwise_singleton _ _⟩
    | cons s r => exact h3.elim
  | (l, some h) :: r, w, ⟨h1, h2, h3⟩ => by
    obtain ⟨g1, g2⟩ := okR_canon h3
    have wh : lt w h = true := lt_tr h1 h2
    refine ⟨fun s hs => ?_, List.pairwise_cons.mpr ⟨fun t ht => ⟨h, rfl, (g1 t ht).1⟩, g2⟩⟩
    rcases List.mem_cons.mp hs with rfl | hs
    · exact ⟨h1, h2⟩
    · exact ⟨lt_tr wh (g1 s hs).1, (g1 s hs).2⟩
theorem okR0_canon {r : List S} (h : okR0 zero r) : canon r := by
  cases r with
  | nil => exact ⟨fun _ h => (nomatch h), fun _ h => (nomatch h), .nil⟩
  | cons s r =>
    obtain ⟨l, o⟩ := s
    obtain ⟨h1, h2, h3⟩ := h
    cases o with
    | none =>
      cases r with
      | nil => exact ⟨fun s hs => by
          have : s = (l, none) := by simpa using hs
          rw [this]; exact h1, fun s hs => by
          have : s = (l, none) := by simpa using hs
          rw [this]; rfl, List.pairwise_singleton _ _⟩
      | cons s r => exact h3.elim
    | some h =>
      obtain ⟨g1, g2⟩ := okR_canon h3
      refine ⟨fun s hs => ?_, fun s hs => ?_, List.pairwise_cons.mpr ⟨fun t ht => ⟨h, rfl, (g1 t ht).1⟩, g2⟩⟩
      · rcases List.mem_cons.mp hs with rfl | hs
        · exact h1
        · exact lt_asy (le_lt h1 (lt_tr h2 (g1 s hs).1)) 
      · rcases List.mem_cons.mp hs with rfl | hs
        · exact h2
        · exact (g1 s hs).2
theorem canon_okR : ∀ {r : List S} {w : V}, (∀ s ∈ r, lt w s.1 = true ∧ bel s.1 s.2 = true) → r.Pairwise gap → okR (some w) r
  | [], _, _, _ => trivial
  | (l, h) :: r, w, g, p => by
    obtain ⟨p1, p2⟩ := List.pairwise_cons.mp p
    obtain ⟨g1, g2⟩ := g (l, h) (List.mem_cons_self ..)
    refine ⟨g1, g2, ?_⟩
    cases h with
    | none =>
      cases r with
      | nil => trivial
      | cons t r =>
        obtain ⟨_, e, _⟩ := p1 t (List.mem_cons_self ..)
        cases e
    | some h =>
      refine canon_okR (fun s hs => ⟨?_, (g s (List.mem_cons_of_mem _ hs)).2⟩) p2
      obtain ⟨_, e, q⟩ := p1 s hs
      cases e
      exact q
theorem canon_okR0 {r : List S} (c : canon r) : okR0 zero r := by
  cases r with
  | nil => trivial
  | cons s r =>
    obtain ⟨l, h⟩ := s
    obtain ⟨p1, p2⟩ := List.pairwise_cons.mp c.pw
    refine ⟨c.lo _ (List.mem_cons_self ..), c.ok _ (List.mem_cons_self ..), ?_⟩
    cases h with
    | none =>
      cases r with
      | nil => trivial
      | cons t r =>
        obtain ⟨_, e, _⟩ := p1 t (List.mem_cons_self ..)
        cases e
    | some h =>
      refine canon_okR (fun s hs => ⟨?_, c.ok s (List.mem_cons_of_mem _ hs)⟩) p2
      obtain ⟨_, e, q⟩ := p1 s hs
      cases e
      exact q
/-! both -/
theorem both1_some {x y p : S} (h : both1 x y = some p) : p = (mx x.1 y.1, les x.2 y.2) ∧ bel p.1 p.2 = true := by
  unfold both1 at h
  split at h
  · rename_i z
    cases h
    exact ⟨rfl, z⟩
  · cases h
theorem les_some_r {a : Option V} {h : V} : ∃ k, les a (some h) = some k ∧ lt h k = false := by
  cases a with
  | none => exact ⟨h, rfl, lt_irr h⟩
  | some a =>
    show ∃ k, (if lt a h = true then some a else some h) = some k ∧ lt h k = false
    cases z : lt a h with
    | true => exact ⟨a, rfl, lt_asy z⟩
    | false => exact ⟨h, rfl, lt_irr h⟩
theorem les_some_l {a : Option V} {h : V} : ∃ k, les (some h) a = some k ∧ lt h k = false := by
  cases a with
  | none => exact ⟨h, rfl, lt_irr h⟩
  | some a =>
    show ∃ k, (if lt h a = true then some h else some a) = some k ∧ lt h k = false
    cases z : lt h a with
    | true => exact ⟨h, rfl, lt_irr h⟩
    | false => exact ⟨a, rfl, z⟩
theorem both_canon {r s : List S} (hr : canon r) (hs : canon s) : canon (both r s) := by
  refine ⟨fun p hp => ?_, fun p hp => ?_, ?_⟩
  · obtain ⟨x, hx, hp⟩ := List.mem_flatMap.mp hp
    obtain ⟨y, hy, e⟩ := List.mem_filterMap.mp hp
    obtain ⟨rfl, _⟩ := both1_some e
    cases z : lt (mx x.1 y.1) zero with
    | false => rfl
    | true =>
      have h := (mx_le.mp (lt_irr (mx x.1 y.1))).1
      have := hr.lo x hx
      rw [le_lt h z] at this
      cases this
  · obtain ⟨x, hx, hp⟩ := List.mem_flatMap.mp hp
    obtain ⟨y, hy, e⟩ := List.mem_filterMap.mp hp
    exact (both1_some e).2
  · refine List.pairwise_flatMap.mpr ⟨fun x hx => ?_, ?_⟩
    · refine List.pairwise_filterMap.mpr (hs.pw.imp fun {y y'} g p hp p' hp' => ?_)
      obtain ⟨rfl, _⟩ := both1_some hp
      obtain ⟨rfl, _⟩ := both1_some hp'
      obtain ⟨h, e, q⟩ := g
      obtain ⟨k, e2, q2⟩ := les_some_r (a := x.2) (h := h)
      exact ⟨k, by show les x.2 y.2 = _; rw [e]; exact e2, mx_lt_r (le_lt q2 q)⟩
    · refine hr.pw.imp fun {x x'} g p hp p' hp' => ?_
      obtain ⟨y, hy, hp⟩ := List.mem_filterMap.mp hp
      obtain ⟨y', hy', hp'⟩ := List.mem_filterMap.mp hp'
      obtain ⟨rfl, _⟩ := both1_some hp
      obtain ⟨rfl, _⟩ := both1_some hp'
      obtain ⟨h, e, q⟩ := g
      obtain ⟨k, e2, q2⟩ := les_some_l (a := y.2) (h := h)
      exact ⟨k, by show les x.2 y.2 = _; rw [e]; exact e2, mx_lt_l (le_lt q2 q)⟩
theorem both_has {r s : List S} {v : V} : has (both r s) v = (has r v && has s v) := by
  apply Bool.eq_iff_iff.mpr
  rw [Bool.and_eq_true]
  constructor
  · intro h
    obtain ⟨p, hp, hv⟩ := List.any_eq_true.mp h
    obtain ⟨x, hx, hp⟩ := List.mem_flatMap.mp hp
    obtain ⟨y, hy, e⟩ := List.mem_filterMap.mp hp
    obtain ⟨rfl, _⟩ := both1_some e
    obtain ⟨v1, v2⟩ := Bool.and_eq_true_iff.mp (show (!lt v (mx x.1 y.1) && bel v (les x.2 y.2)) = true from hv)
    obtain ⟨a1, a2⟩ := mx_le.mp (show lt v (mx x.1 y.1) = false by simpa using v1)
    obtain ⟨b1, b2⟩ := bel_les.mp v2
    exact ⟨List.any_eq_true.mpr ⟨x, hx, by unfold inS; rw [a1, b1] <;> rfl⟩, List.any_eq_true.mpr ⟨y, hy, by unfold inS; rw [a2, b2] <;> rfl⟩⟩
  · rintro ⟨h1, h2⟩
    obtain ⟨x, hx, h1⟩ := List.any_eq_true.mp h1
    obtain ⟨y, hy, h2⟩ := List.any_eq_true.mp h2
    obtain ⟨a1, a2⟩ := Bool.and_eq_true_iff.mp h1
    obtain ⟨b1, b2⟩ := Bool.and_eq_true_iff.mp h2
    have a1 : lt v x.1 = false := by simpa using a1
    have b1 : lt v y.1 = false := by simpa using b1
    have m1 : lt v (mx x.1 y.1) = false := mx_le.mpr ⟨a1, b1⟩
    have m2 : bel v (les x.2 y.2) = true := bel_les.mpr ⟨a2, b2⟩
    have z : bel (mx x.1 y.1) (les x.2 y.2) = true := bel_mono m1 m2
    have e : both1 x y = some (mx x.1 y.1, les x.2 y.2) := by unfold both1; rw [if_pos z]
    refine List.any_eq_true.mpr ⟨_, List.mem_flatMap.mpr ⟨x, hx, List.mem_filterMap.mpr ⟨y, hy, e⟩⟩, ?_⟩
    show (!lt v (mx x.1 y.1) && bel v (les x.2 y.2)) = true
    rw [m1, m2] <;> rfl
/-! out -/
theorem out_okR : ∀ {r : List S} {w b : V}, okR (some b) r → lt w b = true → okR (some w) (out (some b) r)
  | [], w, b, _, h => ⟨h, rfl, trivial⟩
  | (l, none) :: r, w, b, ⟨h1, h2, h3⟩, h => by
    cases r with
    | nil =>
      show okR (some w) (if lt b l = true then (b, some l) :: out none [] else out none [])
      rw [if_pos h1]
      exact ⟨h, h1, trivial⟩
    | cons s r => exact h3.elim
  | (l, some k) :: r, w, b, ⟨h1, h2, h3⟩, h => by
    show okR (some w) (if lt b l = true then (b, some l) :: out (some k) r else out (some k) r)
    rw [if_pos h1]
    exact ⟨h, h1, out_okR h3 h2⟩
theorem out_canon {r : List S} (c : canon r) : canon (out (some zero) r) := by
  have h := canon_okR0 c
  refine okR0_canon ?_
  cases r with
  | nil => exact ⟨lt_irr zero, rfl, trivial⟩
  | cons s r =>
    obtain ⟨l, o⟩ := s
    obtain ⟨h1, h2, h3⟩ := h
    show okR0 zero (if lt zero l = true then (zero, some l) :: out o r else out o r)
    have tail : ∀ k, o = some k → okR (some l) (out o r) := fun k e => by subst e; exact out_okR h3 h2
    cases z : lt zero l with
    | true =>
      rw [if_pos rfl]
      refine ⟨lt_irr zero, z, ?_⟩
      cases o with
      | none => cases r with
        | nil => exact trivial
        | cons s r => exact h3.elim
      | some k => exact tail k rfl
    | false =>
      rw [if_neg (fun z => nomatch z)]
      cases o with
      | none => cases r with
        | nil => exact trivial
        | cons s r => exact h3.elim
      | some k =>
        have t := tail k rfl
        cases q : out (some k) r with
        | nil => exact trivial
        | cons s2 r2 =>
          rw [q] at t
          obtain ⟨l2, o2⟩ := s2
          obtain ⟨t1, t2, t3⟩ := t
          exact ⟨lt_asy (le_lt h1 t1), t2, t3⟩
theorem cout_has {r : List S} {v : V} (c : canon r) (hv : lt v zero = false) : has (out (some zero) r) v = !has r v := by
  rw [out_has0 (canon_okR0 c), hv] <;> rfl
/-- by its versions alone -/
theorem has_lo {r : List S} {v : V} (h : has r v = true) : ∃ s ∈ r, lt v s.1 = false ∧ bel v s.2 = true := by
  obtain ⟨s, hs, h⟩ := List.any_eq_true.mp h
  obtain ⟨a1, a2⟩ := Bool.and_eq_true_iff.mp h
  exact ⟨s, hs, by simpa using a1, a2⟩
theorem has_in {r : List S} {v : V} {s : S} (hs : s ∈ r) (h : lt v s.1 = false) (h2 : bel v s.2 = true) : has r v = true := List.any_eq_true.mpr ⟨s, hs, by unfold inS; rw [h, h2] <;> rfl⟩
theorem canon_uni : ∀ {r s : List S}, (∀ x ∈ r, lt x.1 zero = false) → (∀ x ∈ r, bel x.1 x.2 = true) → r.Pairwise gap → (∀ x ∈ s, lt x.1 zero = false) → (∀ x ∈ s, bel x.1 x.2 = true) → s.Pairwise gap → (∀ v, lt v zero = false → has r v = has s v) → r = s
  | [], [], _, _, _, _, _, _, _ => rfl
  | [], y :: s, _, _, _, l2, o2, _, h => by
    have := h y.1 (l2 y (List.mem_cons_self ..))
    rw [has_in (List.mem_cons_self ..) (lt_irr y.1) (o2 y (List.mem_cons_self ..))] at this
    cases this
  | x :: r, [], l1, o1, _, _, _, _, h => by
    have := h x.1 (l1 x (List.mem_cons_self ..))
    rw [has_in (List.mem_cons_self ..) (lt_irr x.1) (o1 x (List.mem_cons_self ..))] at this
    cases this
  | x :: r, y :: s, l1, o1, p1, l2, o2, p2, h => by
    obtain ⟨q1, q1'⟩ := List.pairwise_cons.mp p1
    obtain ⟨q2, q2'⟩ := List.pairwise_cons.mp p2
    have lx := l1 x (List.mem_cons_self ..)
    have ly := l2 y (List.mem_cons_self ..)
    have bx := o1 x (List.mem_cons_self ..)
    have by_ := o2 y (List.mem_cons_self ..)
    have lowr : ∀ t ∈ r, lt x.1 t.1 = true := fun t ht => by
      obtain ⟨k, e, q⟩ := q1 t ht
      rw [e] at bx
      exact lt_tr bx q
    have lows : ∀ t ∈ s, lt y.1 t.1 = true := fun t ht => by
      obtain ⟨k, e, q⟩ := q2 t ht
      rw [e] at by_
      exact lt_tr by_ q
    have e1 : x.1 = y.1 := by
      have a := h x.1 lx
      rw [has_in (List.mem_cons_self ..) (lt_irr x.1) bx] at a
      have b := h y.1 ly
      rw [has_in (s := y) (r := y :: s) (List.mem_cons_self ..) (lt_irr y.1) by_] at b
      obtain ⟨t, ht, t1, _⟩ := has_lo a.symm
      obtain ⟨u, hu, u1, _⟩ := has_lo b
      have xy : lt x.1 y.1 = false := by
        rcases List.mem_cons.mp ht with rfl | ht
        · exact t1
        · exact lt_asy (lt_le (lows t ht) t1)
      have yx : lt y.1 x.1 = false := by
        rcases List.mem_cons.mp hu with rfl | hu
        · exact u1
        · exact lt_asy (lt_le (lowr u hu) u1)
      by_cases e : x.1 = y.1
      · exact e
      · rw [lt_tot e xy] at yx
        cases yx
    have noEnd : ∀ {x : S} {r : List S} {k : V}, (x :: r).Pairwise gap → x.2 = some k → has (x :: r) k = false := fun {x r k} p e => by
      cases z : has (x :: r) k with
      | false => rfl
      | true =>
        obtain ⟨t, ht, t1, t2⟩ := has_lo z
        rcases List.mem_cons.mp ht with rfl | ht
        · rw [e] at t2
          have t2 : lt k k = true := t2
          rw [lt_irr] at t2
          cases t2
        · obtain ⟨k', e', q⟩ := (List.pairwise_cons.mp p).1 t ht
          rw [e] at e'
          cases e'
          rw [q] at t1
          cases t1
    have up : ∀ {x : S} {k : V}, lt x.1 zero = false → bel x.1 x.2 = true → x.2 = some k → lt k zero = false := fun {x k} a b e => by
      rw [e] at b
      exact lt_asy (le_lt a b)
    have e2 : x.2 = y.2 := by
      cases hx : x.2 with
      | none =>
        cases hy : y.2 with
        | none => rfl
        | some k =>
          have a := h k (up ly by_ hy)
          rw [noEnd p2 hy] at a
          have : has (x :: r) k = true := has_in (List.mem_cons_self ..) (by rw [e1]; rw [hy] at by_; exact lt_asy by_) (by rw [hx]; rfl)
          rw [this] at a
          cases a
      | some j =>
        cases hy : y.2 with
        | none =>
          have a := h j (up lx bx hx)
          rw [noEnd p1 hx] at a
          have : has (y :: s) j = true := has_in (List.mem_cons_self ..) (by rw [← e1]; rw [hx] at bx; exact lt_asy bx) (by rw [hy]; rfl)
          rw [this] at a
          cases a
        | some k =>
          by_cases e : j = k
          · rw [e]
          · rw [hx] at bx
            rw [hy] at by_
            have bx : lt x.1 j = true := bx
            have by_ : lt y.1 k = true := by_
            cases z : lt j k with
            | true =>
              have a := h j (lt_asy (le_lt lx bx))
              rw [noEnd p1 hx] at a
              have : has (y :: s) j = true := has_in (List.mem_cons_self ..) (by rw [← e1]; exact lt_asy bx) (by rw [hy]; exact z)
              rw [this] at a
              cases a
            | false =>
              have z2 := lt_tot e z
              have a := h k (lt_asy (le_lt ly by_))
              rw [noEnd p2 hy] at a
              have : has (x :: r) k = true := has_in (List.mem_cons_self ..) (by rw [e1]; exact lt_asy by_) (by rw [hx]; exact z2)
              rw [this] at a
              cases a
    have ex : x = y := Prod.ext e1 e2
    subst ex
    congr 1
    refine canon_uni (fun t ht => l1 t (List.mem_cons_of_mem _ ht)) (fun t ht => o1 t (List.mem_cons_of_mem _ ht)) q1' (fun t ht => l2 t (List.mem_cons_of_mem _ ht)) (fun t ht => o2 t (List.mem_cons_of_mem _ ht)) q2' fun v hv => ?_
    have tail : ∀ {r : List S}, (∀ t ∈ r, gap x t) → has r v = true → inS v x = false := fun {r} g hh => by
      obtain ⟨t, ht, t1, t2⟩ := has_lo hh
      obtain ⟨k, e, q⟩ := g t ht
      have : lt v k = false := lt_asy (lt_le q t1)
      unfold inS
      rw [e]
      show (!lt v x.1 && lt v k) = false
      rw [this, Bool.and_false]
    have a : (inS v x || has r v) = (inS v x || has s v) := h v hv
    cases zr : has r v with
    | true =>
      rw [zr, tail q1 zr, Bool.false_or, Bool.false_or] at a
      exact a
    | false =>
      cases zs : has s v with
      | false => rfl
      | true =>
        rw [zr, zs, tail q2 zs] at a
        cases a
theorem uni {r s : List S} (hr : canon r) (hs : canon s) (h : ∀ v, lt v zero = false → has r v = has s v) : r = s := canon_uni hr.lo hr.ok hr.pw hs.lo hs.ok hs.pw h
end VR

end

section
set_option Elab.async false
set_option linter.all false
/-! VR3: what is made of marks is what both, out, either are. -/
namespace VR
open DL PySem L2
theorem mk_okR : ∀ {l : List (V × Bool)} {v : V}, asc (l.map (·.1)) → (∀ p ∈ l, lt v p.1 = true) → okR (some v) (mk none l) ∧ ∀ b, lt v b = true → (∀ p ∈ l, lt b p.1 = true) → okR (some v) (mk (some b) l)
  | [], v, _, _ => ⟨trivial, fun b hb _ => ⟨hb, rfl, trivial⟩⟩
  | (m, f) :: r, v, ha, h => by
    have ha2 := List.pairwise_cons.mp ha
    have hm := h (m, f) (List.mem_cons_self ..)
    have hr : ∀ p ∈ r, lt m p.1 = true := fun p hp => ha2.1 p.1 (List.mem_map_of_mem hp)
    have hvr : ∀ p ∈ r, lt v p.1 = true := fun p hp => h p (List.mem_cons_of_mem _ hp)
    refine ⟨?_, fun b hb hbl => ?_⟩
    · show okR (some v) (if f = true then mk (some m) r else mk none r)
      cases f with
      | true => exact (mk_okR ha2.2 hvr).2 m hm hr
      | false => exact (mk_okR ha2.2 hvr).1
    · have hbm := hbl (m, f) (List.mem_cons_self ..)
      show okR (some v) (if f = true then mk (some b) r else (b, some m) :: mk none r)
      cases f with
      | true => exact (mk_okR ha2.2 hvr).2 b hb fun p hp => hbl p (List.mem_cons_of_mem _ hp)
      | false => exact ⟨hb, hbm, (mk_okR ha2.2 hr).1⟩
theorem mk_okR0 : ∀ {l : List (V × Bool)} {z : V}, asc (l.map (·.1)) → (∀ p ∈ l, lt p.1 z = false) → okR0 z (mk none l) ∧ ∀ b, lt b z = false → (∀ p ∈ l, lt b p.1 = true) → okR0 z (mk (some b) l)
  | [], z, _, _ => ⟨trivial, fun b hb _ => ⟨hb, rfl, trivial⟩⟩
  | (m, f) :: r, z, ha, h => by
    have ha2 := List.pairwise_cons.mp ha
    have hm := h (m, f) (List.mem_cons_self ..)
    have hr : ∀ p ∈ r, lt m p.1 = true := fun p hp => ha2.1 p.1 (List.mem_map_of_mem hp)
    have hvr : ∀ p ∈ r, lt p.1 z = false := fun p hp => h p (List.mem_cons_of_mem _ hp)
    refine ⟨?_, fun b hb hbl => ?_⟩
    · show okR0 z (if f = true then mk (some m) r else mk none r)
      cases f with
      | true => exact (mk_okR0 ha2.2 hvr).2 m hm hr
      | false => exact (mk_okR0 ha2.2 hvr).1
    · have hbm := hbl (m, f) (List.mem_cons_self ..)
      show okR0 z (if f = true then mk (some b) r else (b, some m) :: mk none r)
      cases f with
      | true => exact (mk_okR0 ha2.2 hvr).2 b hb fun p hp => hbl p (List.mem_cons_of_mem _ hp)
      | false => exact ⟨hb, hbm, (mk_okR ha2.2 hr).1⟩
theorem mk_pts : ∀ {l : List (V × Bool)} {o : Option V} {v : V}, v ∈ pts (mk o l) → (∃ f, (v, f) ∈ l) ∨ o = some v
  | [], none, v, h => by cases h
  | [], some b, v, h => by
    have : v = b := by simpa [mk, pts, ends] using h
    exact .inr (by rw [this])
  | (m, f) :: r, none, v, h => by
    have h : v ∈ pts (if f = true then mk (some m) r else mk none r) := h
    cases f with
    | true =>
      rcases mk_pts (show v ∈ pts (mk (some m) r) from h) with ⟨g, h⟩ | h
      · exact .inl ⟨g, List.mem_cons_of_mem _ h⟩
      · cases h
        exact .inl ⟨true, List.mem_cons_self ..⟩
    | false =>
      rcases mk_pts (show v ∈ pts (mk none r) from h) with ⟨g, h⟩ | h
      · exact .inl ⟨g, List.mem_cons_of_mem _ h⟩
      · cases h
  | (m, f) :: r, some b, v, h => by
    have h : v ∈ pts (if f = true then mk (some b) r else (b, some m) :: mk none r) := h
    cases f with
    | true =>
      rcases mk_pts (show v ∈ pts (mk (some b) r) from h) with ⟨g, h⟩ | h
      · exact .inl ⟨g, List.mem_cons_of_mem _ h⟩
      · exact .inr h
    | false =>
      have h : v ∈ ends (b, some m) ++ pts (mk none r) := h
      rcases List.mem_append.mp h with h | h
      · have : v = b ∨ v = m := by simpa [ends] using h
        rcases this with rfl | rfl
        · exact .inr rfl
        · exact .inl ⟨false, List.mem_cons_self ..⟩
      · rcases mk_pts h with ⟨g, h⟩ | h
        · exact .inl ⟨g, List.mem_cons_of_mem _ h⟩
        · cases h

theorem gen_has {rs : List (List S)} {G : V → Bool} {v : V} (hG : ∀ m, (∀ r ∈ rs, has r m = has r v) → G m = G v) (hv : lt v zero = false) : has (made (marks rs) G) v = G v := by
  unfold made
  rw [mk_cov (o := none) (by rw [map_fst]; exact marks_asc _) fun b e => by cases e]
  obtain ⟨m, h1, h2, h3, h4⟩ := cov_last (F := G) (c := false) (marks_asc rs) ⟨zero, marks_mem.mpr (.inl rfl), hv⟩
  show cov false _ v = _
  rw [h4]
  exact hG m fun r hr => has_same (fun p hp => marks_mem.mpr (.inr ⟨r, hr, hp⟩)) h2 h3
theorem canon_pts {r : List S} (c : canon r) {v : V} (h : v ∈ pts r) : lt v zero = false := by
  obtain ⟨s, hs, hv⟩ := List.mem_flatMap.mp h
  obtain ⟨l, o⟩ := s
  have h1 := c.lo _ hs
  cases o with
  | none =>
    have : v = l := by simpa [ends] using hv
    rw [this]; exact h1
  | some w =>
    have : v = l ∨ v = w := by simpa [ends] using hv
    rcases this with rfl | rfl
    · exact h1
    · exact lt_asy (le_lt h1 (c.ok _ hs))
theorem made_canon {rs : List (List S)} {G : V → Bool} (h : ∀ r ∈ rs, canon r) : canon (made (marks rs) G) := by
  refine okR0_canon ((mk_okR0 (by rw [map_fst]; exact marks_asc _) fun p hp => ?_).1)
  obtain ⟨m, hm, rfl⟩ := List.mem_map.mp hp
  rcases marks_mem.mp hm with rfl | ⟨r, hr, hp⟩
  · exact lt_irr zero
  · exact canon_pts (h r hr) hp
theorem made_pts {rs : List (List S)} {G : V → Bool} {v : V} (h : v ∈ pts (made (marks rs) G)) : v = zero ∨ ∃ r ∈ rs, v ∈ pts r := by
  rcases mk_pts h with ⟨f, h⟩ | h
  · obtain ⟨m, hm, e⟩ := List.mem_map.mp h
    cases e
    exact marks_mem.mp hm
  · cases h
theorem mk_ptslen : ∀ (l : List (V × Bool)), (pts (mk none l)).length ≤ l.length ∧ ∀ b, (pts (mk (some b) l)).length ≤ l.length + 1
  | [] => ⟨Nat.le_refl _, fun b => Nat.le_refl _⟩
  | (m, f) :: r => by
    obtain ⟨h1, h2⟩ := mk_ptslen r
    refine ⟨?_, fun b => ?_⟩
    · show (pts (if f = true then mk (some m) r else mk none r)).length ≤ r.length + 1
      have := h2 m
      split <;> omega
    · show (pts (if f = true then mk (some b) r else (b, some m) :: mk none r)).length ≤ r.length + 1 + 1
      have := h2 b
      split
      · omega
      · show (ends (b, some m) ++ pts (mk none r)).length ≤ _
        rw [List.length_append]
        show 2 + _ ≤ _
        omega
theorem insT_len (k : List Int) : ∀ l, (insT k l).length ≤ l.length + 1
  | [] => Nat.le_refl _
  | x :: xs => by
    have := insT_len k xs
    show (if k = x then x :: xs else if HT.lexLt k x = true then k :: x :: xs else x :: insT k xs).length ≤ _
    split
    · simp
    · split
      · simp
      · rw [List.length_cons, List.length_cons]; omega
theorem sortT_len : ∀ l, (sortT l).length ≤ l.length
  | [] => Nat.le_refl _
  | k :: ks => by
    have h1 := insT_len k (sortT ks)
    have h2 := sortT_len ks
    show (insT k (sortT ks)).length ≤ ks.length + 1
    omega
theorem made_len {rs : List (List S)} {G : V → Bool} : (pts (made (marks rs) G)).length ≤ (rs.flatMap pts).length + 1 := by
  have h1 := (mk_ptslen ((marks rs).map fun m => (m, G m))).1
  rw [List.length_map] at h1
  have h2 : (marks rs).length ≤ (rs.flatMap pts).length + 1 := sortT_len _
  show (pts (mk none ((marks rs).map fun m => (m, G m)))).length ≤ _
  omega
def eith (r s : List S) : List S := out (some zero) (both (out (some zero) r) (out (some zero) s))
def leith (r s : List S) : List S := made (marks [r, s]) fun m => has r m || has s m
theorem eith_canon {r s : List S} (hr : canon r) (hs : canon s) : canon (eith r s) := out_canon (both_canon (out_canon hr) (out_canon hs))
theorem eith_has {r s : List S} {v : V} (hr : canon r) (hs : canon s) (hv : lt v zero = false) : has (eith r s) v = (has r v || has s v) := by
  unfold eith
  rw [cout_has (both_canon (out_canon hr) (out_canon hs)) hv, both_has, cout_has hr hv, cout_has hs hv]
  cases has r v <;> cases has s v <;> rfl
theorem lboth_eq {r s : List S} (hr : canon r) (hs : canon s) : lboth r s = both r s := by
  refine uni (made_canon fun x hx => ?_) (both_canon hr hs) fun v hv => ?_
  · have : x = r ∨ x = s := by simpa using hx
    rcases this with rfl | rfl
    · exact hr
    · exact hs
  · unfold lboth
    rw [gen_has (fun m h => ?_) hv, both_has]
    rw [h r (by simp), h s (by simp)]
theorem leith_eq {r s : List S} (hr : canon r) (hs : canon s) : leith r s = eith r s := by
  refine uni (made_canon fun x hx => ?_) (eith_canon hr hs) fun v hv => ?_
  · have : x = r ∨ x = s := by simpa using hx
    rcases this with rfl | rfl
    · exact hr
    · exact hs
  · unfold leith
    rw [gen_has (fun m h => ?_) hv, eith_has hr hs hv]
    rw [h r (by simp), h s (by simp)]
theorem lout_eq {r : List S} (hr : canon r) : lout r = out (some zero) r := by
  refine uni (made_canon fun x hx => ?_) (out_canon hr) fun v hv => ?_
  · have : x = r := by simpa using hx
    rw [this]; exact hr
  · rw [lout_has hv, cout_has hr hv]
theorem pts2 (r s : List S) : ([r, s].flatMap pts).length = (pts r).length + (pts s).length := by simp
theorem both_pts {r s : List S} (hr : canon r) (hs : canon s) : (pts (both r s)).length ≤ (pts r).length + (pts s).length + 1 ∧ ∀ v ∈ pts (both r s), v = zero ∨ v ∈ pts r ∨ v ∈ pts s := by
  rw [← lboth_eq hr hs]
  refine ⟨by rw [← pts2]; exact made_len, fun v hv => ?_⟩
  rcases made_pts hv with h | ⟨x, hx, h⟩
  · exact .inl h
  · have : x = r ∨ x = s := by simpa using hx
    rcases this with rfl | rfl
    · exact .inr (.inl h)
    · exact .inr (.inr h)
theorem eith_pts {r s : List S} (hr : canon r) (hs : canon s) : (pts (eith r s)).length ≤ (pts r).length + (pts s).length + 1 ∧ ∀ v ∈ pts (eith r s), v = zero ∨ v ∈ pts r ∨ v ∈ pts s := by
  rw [← leith_eq hr hs]
  refine ⟨by rw [← pts2]; exact made_len, fun v hv => ?_⟩
  rcases made_pts hv with h | ⟨x, hx, h⟩
  · exact .inl h
  · have : x = r ∨ x = s := by simpa using hx
    rcases this with rfl | rfl
    · exact .inr (.inl h)
    · exact .inr (.inr h)
theorem len_pts (r : List S) : r.length ≤ (pts r).length := by
  induction r with
  | nil => exact Nat.le_refl _
  | cons s r ih =>
    have e : pts (s :: r) = ends s ++ pts r := rfl
    have : 1 ≤ (ends s).length := by
      obtain ⟨l, o⟩ := s
      cases o <;> exact Nat.le_of_ble_eq_true rfl
    rw [e, List.length_append, List.length_cons]
    omega
end VR

end

section
set_option Elab.async false
set_option linter.all false
set_option maxRecDepth 100000
set_option maxHeartbeats 0
/-! NT: texts, numbers in texts, versions in texts: plain facts for all laws. -/
namespace NT
open PySem L2 DL TL
def Asc (l : List Nat) : Prop := ∀ c ∈ l, c < 1114112
theorem numL_dig {n c : Nat} (h : c ∈ numL n) : 48 ≤ c ∧ c ≤ 57 := by
  have := numL_digits n c h
  exact this
theorem numL_head {n : Nat} (h : 0 < n) : ∃ c r, numL n = c :: r ∧ c ≠ 48 := by
  induction n using Nat.strongRecOn with
  | _ n ih =>
    by_cases z : n < 10
    · exact ⟨48 + n, [], numL_lt z, by omega⟩
    · obtain ⟨c, r, e, hc⟩ := ih (n / 10) (by omega) (by omega)
      refine ⟨c, r ++ [48 + n % 10], ?_, hc⟩
      rw [numL_step (by omega), e]
      rfl
theorem numL_zero : numL 0 = [48] := rfl
def dig (c : Nat) : Bool := decide (c ∈ [48, 49, 50, 51, 52, 53, 54, 55, 56, 57])
theorem dig_iff {c : Nat} : dig c = true ↔ 48 ≤ c ∧ c ≤ 57 := by
  unfold dig
  rw [decide_eq_true_iff]
  simp only [List.mem_cons, List.not_mem_nil, or_false]
  omega
theorem rev_ind {P : List Nat → Prop} (h0 : P []) (h1 : ∀ l c, P l → P (l ++ [c])) : ∀ l, P l := by
  have key : ∀ n (l : List Nat), l.length = n → P l := by
    intro n
    induction n with
    | zero => intro l h; rw [List.length_eq_zero_iff.mp h]; exact h0
    | succ n ih =>
      intro l h
      have hne : l ≠ [] := fun z => by rw [z] at h; cases h
      rw [← List.dropLast_concat_getLast hne]
      exact h1 _ _ (ih _ (by rw [List.length_dropLast, h]; rfl))
  exact fun l => key _ l rfl
/-- a text of figures without a needless nought is a number's -/
theorem canon_num (l : List Nat) : l ≠ [] → (∀ c ∈ l, 48 ≤ c ∧ c ≤ 57) → (∀ r, l = 48 :: r → r = []) → ∃ n, l = numL n := by
  induction l using rev_ind with
  | h0 => exact fun h _ _ => absurd rfl h
  | h1 l c ih =>
    intro _ hd hz
    have hc := hd c (by simp)
    by_cases e : l = []
    · subst e
      exact ⟨c - 48, by rw [numL_lt (by omega)]; show [c] = _; rw [show 48 + (c - 48) = c by omega]⟩
    · obtain ⟨n, hn⟩ := ih e (fun x hx => hd x (by simp [hx])) (fun r hr => by
        have := hz (r ++ [c]) (by rw [hr]; rfl)
        simp at this)
      have n0 : n ≠ 0 := fun z => by
        have := hz [c] (by rw [hn, z]; rfl)
        cases this
      refine ⟨n * 10 + (c - 48), ?_⟩
      rw [numL_step (by omega), hn, show (n * 10 + (c - 48)) / 10 = n by omega, show 48 + (n * 10 + (c - 48)) % 10 = c by omega]
theorem intText_numL {n : Nat} (h : (numL n).length ≤ 4300) : intText? (num n) = some (n : Int) := by
  have := int_num (n := n) h
  have e : Str.ofString (toString ((n : Nat) : Int)) = num n := ext_tl (tl_num n)
  rwa [e] at this
/-- the number of at most m that a text tells -/
def isNum (m : Nat) (l : List Nat) : Prop := ∃ n, n ≤ m ∧ l = numL n
open Classical in
noncomputable def numM (m : Nat) (l : List Nat) : Option Nat := if h : isNum m l then some h.choose else none
theorem numM_some {m n : Nat} {l : List Nat} (h : numM m l = some n) : n ≤ m ∧ l = numL n := by
  unfold numM at h
  split at h
  · rename_i z
    cases h
    exact z.choose_spec
  · cases h
theorem numM_none {m : Nat} {l : List Nat} (h : numM m l = none) : ¬ isNum m l := fun z => by
  unfold numM at h
  rw [dif_pos z] at h
  cases h
theorem numM_of {m n : Nat} (h : n ≤ m) : numM m (numL n) = some n := by
  cases e : numM m (numL n) with
  | none => exact absurd ⟨n, h, rfl⟩ (numM_none e)
  | some k => rw [numL_inj (numM_some e).2]
theorem numM_not {m : Nat} {l : List Nat} (h : ¬ isNum m l) : numM m l = none := by
  cases e : numM m l with
  | none => rfl
  | some n => exact absurd ⟨n, numM_some e⟩ h
def nD : Option Nat → D
  | some n => .int (n : Int)
  | none => .non
theorem inD_nD : ∀ os : List (Option Nat), inD .non (os.map nD) = os.any Option.isNone
  | [] => rfl
  | none :: os => rfl
  | some n :: os => by
    show inD .non (os.map nD) = _
    rw [inD_nD os]
    rfl
theorem spl_mem {S : List Nat} : ∀ (l : List Nat) (k : Nat) (acc p : List Nat), p ∈ spl S k acc l → ∀ c ∈ p, c ∈ acc ∨ c ∈ l
  | [], k, acc, p, h, c, hc => by
    rw [spl_nil] at h
    cases List.mem_singleton.mp h
    exact .inl hc
  | d :: r, 0, acc, p, h, c, hc => by
    by_cases z : pre S (d :: r) = true
    · rw [spl_hit z] at h
      rcases List.mem_cons.mp h with h | h
      · subst h; exact .inl hc
      · rcases spl_mem r _ _ p h c hc with h | h
        · cases h
        · exact .inr (List.mem_cons_of_mem _ h)
    · rw [spl_miss (by simpa using z)] at h
      rcases spl_mem r _ _ p h c hc with h | h
      · rcases List.mem_append.mp h with h | h
        · exact .inl h
        · exact .inr (by rw [List.mem_singleton.mp h]; exact List.mem_cons_self ..)
      · exact .inr (List.mem_cons_of_mem _ h)
  | d :: r, k + 1, acc, p, h, c, hc => by
    rcases spl_mem r k acc p h c hc with h | h
    · exact .inl h
    · exact .inr (List.mem_cons_of_mem _ h)
theorem spl_sz {S : List Nat} : ∀ (l : List Nat) (k : Nat) (acc p : List Nat), p ∈ spl S k acc l → p.length ≤ acc.length + l.length
  | [], k, acc, p, h => by
    rw [spl_nil] at h
    cases List.mem_singleton.mp h
    omega
  | d :: r, 0, acc, p, h => by
    by_cases z : pre S (d :: r) = true
    · rw [spl_hit z] at h
      rcases List.mem_cons.mp h with h | h
      · subst h; omega
      · have := spl_sz r _ _ p h
        rw [List.length_nil] at this
        rw [List.length_cons]
        omega
    · rw [spl_miss (by simpa using z)] at h
      have := spl_sz r _ _ p h
      rw [List.length_append, List.length_cons, List.length_nil] at this
      rw [List.length_cons]
      omega
  | d :: r, k + 1, acc, p, h => by
    have := spl_sz r k acc p h
    rw [List.length_cons]
    omega
theorem spl_many {S : List Nat} : ∀ (l : List Nat) (k : Nat) (acc : List Nat), (spl S k acc l).length ≤ l.length + 1
  | [], k, acc => by rw [spl_nil]; exact Nat.le_refl _
  | d :: r, 0, acc => by
    by_cases z : pre S (d :: r) = true
    · rw [spl_hit z, List.length_cons, List.length_cons]
      have := spl_many (S := S) r (S.length - 1) []
      omega
    · rw [spl_miss (by simpa using z), List.length_cons]
      have := spl_many (S := S) r 0 (acc ++ [d])
      omega
  | d :: r, k + 1, acc => by
    have := spl_many (S := S) r k acc
    rw [List.length_cons]
    show (spl S k acc r).length ≤ _
    omega
theorem spl_ne {S : List Nat} : ∀ (l : List Nat) (k : Nat) (acc : List Nat), spl S k acc l ≠ []
  | [], k, acc => by rw [spl_nil]; simp
  | d :: r, 0, acc => by
    by_cases z : pre S (d :: r) = true
    · rw [spl_hit z]; simp
    · rw [spl_miss (by simpa using z)]; exact spl_ne r _ _
  | d :: r, k + 1, acc => spl_ne r k acc
/-- cut at one sign, and joined again -/
theorem spl_inv {s : Nat} : ∀ (l acc : List Nat), joinL [s] (spl [s] 0 acc l) = acc ++ l
  | [], acc => by rw [spl_nil, List.append_nil]; rfl
  | d :: r, acc => by
    by_cases z : pre [s] (d :: r) = true
    · rw [spl_hit z]
      have e : d = s := by simpa [pre] using z
      have ih := spl_inv (s := s) r []
      show joinL [s] (acc :: spl [s] 0 [] r) = _
      cases q : spl [s] 0 [] r with
      | nil => exact absurd q (spl_ne r 0 [])
      | cons x xs =>
        rw [q] at ih
        show acc ++ ([s] ++ joinL [s] (x :: xs)) = _
        rw [ih, e]
        rfl
    · rw [spl_miss (by simpa using z), spl_inv r, List.append_assoc]
      rfl
theorem pre_app {S l : List Nat} (h : pre S l = true) : l = S ++ l.drop S.length := by
  have h' : (List.take S.length l == S) = true := h
  rw [beq_iff_eq] at h'
  conv => lhs; rw [← List.take_append_drop S.length l, h']
theorem rng_map (N : Nat) : rng 0 N = (List.range N).map fun i : Nat => D.int (i : Int) := by
  apply List.ext_getElem?
  intro i
  by_cases h : i < N
  · have h1 : i < (rng 0 N).length := by rw [rng_len]; exact h
    obtain ⟨_, e⟩ := rng_at (List.getElem?_eq_getElem h1)
    rw [List.getElem?_eq_getElem h1, e]
    simp [h]
  · rw [List.getElem?_eq_none (by rw [rng_len]; omega), List.getElem?_eq_none (by simp; omega)]
theorem nat_of {i : Int} (h : 0 ≤ i) : ∃ n : Nat, i = (n : Int) := ⟨i.toNat, by omega⟩
structure Tx (l : List Nat) (n c : Nat) : Prop where
  asc : Asc l
  len : l.length ≤ n
  cnt : l.count 32 ≤ c
theorem Tx.app {l r : List Nat} {n m c d : Nat} (h : Tx l n c) (g : Tx r m d) : Tx (l ++ r) (n + m) (c + d) :=
  ⟨fun x hx => (List.mem_append.mp hx).elim (h.asc x) (g.asc x), by have := h.len; have := g.len; rw [List.length_append]; omega, by have := h.cnt; have := g.cnt; rw [List.count_append]; omega⟩
theorem Tx.mono {l : List Nat} {n m c d : Nat} (h : Tx l n c) (h1 : n ≤ m) (h2 : c ≤ d) : Tx l m d := ⟨h.asc, Nat.le_trans h.len h1, Nat.le_trans h.cnt h2⟩
theorem Tx.sub {l r : List Nat} {n c : Nat} (h : Tx l n c) (s : List.Sublist r l) : Tx r n c := ⟨fun x hx => h.asc x (s.subset hx), Nat.le_trans s.length_le h.len, Nat.le_trans (s.count_le _) h.cnt⟩
theorem drop_sub (l : List Nat) (m : Nat) : List.Sublist (l.take m ++ l.drop (m + 1)) l := by
  have h : List.Sublist (l.drop (m + 1)) (l.drop m) := by
    rw [← List.drop_drop]
    exact List.drop_sublist _ _
  have := (List.Sublist.refl (l.take m)).append h
  rwa [List.take_append_drop] at this
theorem Tx.put {l x : List Nat} {m j n c a b : Nat} (h : Tx l n c) (g : Tx x a b) (hj : j = m ∨ j = m + 1) : Tx (l.take m ++ x ++ l.drop j) (n + a) (c + b) := by
  have h1 : List.Sublist (l.take m ++ l.drop j) l := by
    rcases hj with rfl | rfl
    · rw [List.take_append_drop]; exact List.Sublist.refl _
    · exact drop_sub l m
  have h2 := h.sub h1
  refine ⟨fun y hy => ?_, ?_, ?_⟩
  · simp only [List.mem_append] at hy
    rcases hy with (hy | hy) | hy
    · exact h2.asc y (List.mem_append_left _ hy)
    · exact g.asc y hy
    · exact h2.asc y (List.mem_append_right _ hy)
  · have := h2.len
    have := g.len
    simp only [List.length_append] at *
    omega
  · have := h2.cnt
    have := g.cnt
    simp only [List.count_append] at *
    omega
theorem Tx.join {S : List Nat} {n c s d : Nat} (hS : Tx S s d) : ∀ {xs : List (List Nat)}, (∀ x ∈ xs, Tx x n c) → Tx (joinL S xs) (xs.length * (n + s)) (xs.length * (c + d))
  | [], _ => ⟨fun _ h => (nomatch h), Nat.le_of_ble_eq_true rfl, Nat.zero_le _⟩
  | [x], h => (h x (List.mem_cons_self ..)).mono (by simp) (by simp)
  | x :: y :: r, h => by
    have h1 := h x (List.mem_cons_self ..)
    have h2 := Tx.join hS (xs := y :: r) fun z hz => h z (List.mem_cons_of_mem _ hz)
    show Tx (x ++ (S ++ joinL S (y :: r))) _ _
    refine (h1.app (hS.app h2)).mono ?_ ?_
    · rw [List.length_cons (a := x), Nat.succ_mul]; omega
    · rw [List.length_cons (a := x), Nat.succ_mul]; omega
theorem sum_Tx {as : List (List Nat)} {n c k : Nat} (hl : as.length ≤ k) (h : ∀ a ∈ as, Tx a n c) : (as.map List.length).sum ≤ k * n := by
  have : ∀ as : List (List Nat), (∀ a ∈ as, Tx a n c) → (as.map List.length).sum ≤ as.length * n := fun as => by
    induction as with
    | nil => exact fun _ => Nat.zero_le _
    | cons a as ih =>
      intro h
      have h1 := (h a (List.mem_cons_self ..)).len
      have h2 := ih fun z hz => h z (List.mem_cons_of_mem _ hz)
      rw [List.map_cons, List.sum_cons, List.length_cons, Nat.succ_mul]
      omega
  exact Nat.le_trans (this as h) (Nat.mul_le_mul_right _ hl)
abbrev vD (v : List Int) : D := .nd .tup (v.map .int)
def Ver (v : List Int) : Prop := v.length = 3 ∧ ∀ x ∈ v, 0 ≤ x ∧ x ≤ 1000000
theorem ver3 {a b c : Int} (ha : 0 ≤ a ∧ a ≤ 1000000) (hb : 0 ≤ b ∧ b ≤ 1000000) (hc : 0 ≤ c ∧ c ≤ 1000000) : Ver [a, b, c] := ⟨rfl, fun x hx => by
  have : x = a ∨ x = b ∨ x = c := by simpa using hx
  rcases this with rfl | rfl | rfl
  · exact ha
  · exact hb
  · exact hc⟩
theorem numL_small {n : Nat} (h : n ≤ 1000000) : (numL n).length ≤ 7 := numL_len (by decide) (by omega)
def vT (v : List Int) : List Nat := joinL [46] (v.map fun i => numL i.toNat)
theorem vT3 {v : List Int} (h : Ver v) : ∃ a b c : Nat, v = [(a : Int), (b : Int), (c : Int)] ∧ a ≤ 1000000 ∧ b ≤ 1000000 ∧ c ≤ 1000000 := by
  obtain ⟨h1, h2⟩ := h
  match v, h1, h2 with
  | [a, b, c], _, h2 =>
    have ha := h2 a (by simp)
    have hb := h2 b (by simp)
    have hc := h2 c (by simp)
    exact ⟨a.toNat, b.toNat, c.toNat, by rw [show ((a.toNat : Nat) : Int) = a by omega, show ((b.toNat : Nat) : Int) = b by omega, show ((c.toNat : Nat) : Int) = c by omega], by omega, by omega, by omega⟩
theorem vT_eq (a b c : Nat) : vT [(a : Int), (b : Int), (c : Int)] = numL a ++ ([46] ++ (numL b ++ ([46] ++ numL c))) := rfl
theorem vT_len {v : List Int} (h : Ver v) : (vT v).length ≤ 23 := by
  obtain ⟨a, b, c, rfl, ha, hb, hc⟩ := vT3 h
  rw [vT_eq]
  have := numL_small ha
  have := numL_small hb
  have := numL_small hc
  simp only [List.length_append, List.length_cons, List.length_nil]
  omega
theorem vT_mem {v : List Int} {x : Nat} (h : x ∈ vT v) (hv : Ver v) : x = 46 ∨ (48 ≤ x ∧ x ≤ 57) := by
  obtain ⟨a, b, c, rfl, ha, hb, hc⟩ := vT3 hv
  rw [vT_eq] at h
  simp only [List.mem_append, List.mem_cons, List.not_mem_nil, or_false] at h
  rcases h with h | h | h | h | h
  · exact .inr (numL_dig h)
  · exact .inl h
  · exact .inr (numL_dig h)
  · exact .inl h
  · exact .inr (numL_dig h)
theorem vT_head {v : List Int} (hv : Ver v) : ∃ c r, vT v = c :: r ∧ 48 ≤ c ∧ c ≤ 57 := by
  obtain ⟨a, b, c, rfl, ha, hb, hc⟩ := vT3 hv
  rw [vT_eq]
  cases e : numL a with
  | nil => exact absurd e (numL_ne a)
  | cons x r => exact ⟨x, _, rfl, numL_dig (by rw [e]; exact List.mem_cons_self ..)⟩
theorem spl_vT {v : List Int} (hv : Ver v) : spl [46] 0 [] (vT v) = v.map fun i => numL i.toNat := by
  refine spl_join (fun z => ?_) fun p hp => ?_
  · have := congrArg List.length z
    rw [List.length_map, hv.1] at this
    cases this
  · obtain ⟨i, _, rfl⟩ := List.mem_map.mp hp
    exact numL_free (by decide)
theorem inD_ints (v : List Int) : inD .non (v.map D.int) = false := by
  induction v with
  | nil => rfl
  | cons x v ih => exact ih
theorem vT_inj {v w : List Int} (h : Ver v) (h' : Ver w) (e : vT v = vT w) : v = w := by
  have e1 := spl_vT h
  rw [e, spl_vT h'] at e1
  obtain ⟨a, b, c, rfl, ha, hb, hc⟩ := vT3 h
  obtain ⟨x, y, z, rfl, hx, hy, hz⟩ := vT3 h'
  have e2 : [numL x, numL y, numL z] = [numL a, numL b, numL c] := e1
  simp only [List.cons.injEq, and_true] at e2
  rw [numL_inj e2.1, numL_inj e2.2.1, numL_inj e2.2.2]
def isVer (l : List Nat) (v : List Int) : Prop := Ver v ∧ l = vT v
end NT

end

section
set_option Elab.async false
set_option linter.all false
set_option maxRecDepth 100000
set_option maxHeartbeats 0
/-! LM: lock texts: which they are, how they are read, and that none is near another one. -/
namespace LM
open PySem L2 DL TL NT
def Nm (l : List Nat) : Prop := (1 ≤ l.length ∧ l.length ≤ 12) ∧ ∀ c ∈ l, 97 ≤ c ∧ c ≤ 122
structure Tri where
  nm : List Nat
  vs : List Int
  fs : List (List Nat)
structure Tri.Ok (t : Tri) : Prop where
  nm : Nm t.nm
  vs : Ver t.vs
  fs : ∀ f ∈ t.fs, Nm f
  asc : t.fs.Pairwise (· < ·)
def tD (t : Tri) : D := .nd .tup [.str (sL t.nm), vD t.vs, .nd .tup (t.fs.map fun f => .str (sL f))]
def words (t : Tri) : List (List Nat) := t.nm :: vT t.vs :: t.fs
def line (t : Tri) : List Nat := joinL [32] (words t)
theorem Nm.free {l : List Nat} (h : Nm l) {c : Nat} (hc : c < 97) : c ∉ l := fun z => by have := h.2 c z; omega
theorem Tri.Ok.words_free {t : Tri} (h : t.Ok) {c : Nat} (hc : c < 46) : ∀ w ∈ words t, c ∉ w := fun w hw => by
  rcases List.mem_cons.mp hw with rfl | hw
  · exact h.nm.free (by omega)
  · rcases List.mem_cons.mp hw with rfl | hw
    · exact fun z => by rcases vT_mem z h.vs with e | e <;> omega
    · exact (h.fs w hw).free (by omega)
theorem spl_line {t : Tri} (h : t.Ok) : spl [32] 0 [] (line t) = words t := spl_join (by unfold words; simp) (h.words_free (by decide))
theorem line_inj {t u : Tri} (h : t.Ok) (h' : u.Ok) (e : line t = line u) : t = u := by
  have e1 := spl_line h
  rw [e, spl_line h'] at e1
  obtain ⟨a, b, c⟩ := t
  obtain ⟨x, y, z⟩ := u
  have e2 : x :: vT y :: z = a :: vT b :: c := e1
  simp only [List.cons.injEq] at e2
  obtain ⟨rfl, e3, rfl⟩ := e2
  have e4 : y = b := vT_inj h'.vs h.vs e3
  rw [e4]
theorem mem_joinL {S : List Nat} {c : Nat} : ∀ {xs : List (List Nat)}, c ∈ joinL S xs → c ∈ S ∨ ∃ x ∈ xs, c ∈ x
  | [], h => nomatch h
  | [x], h => .inr ⟨x, List.mem_cons_self .., h⟩
  | x :: y :: r, h => by
    have h : c ∈ x ++ (S ++ joinL S (y :: r)) := h
    rcases List.mem_append.mp h with h | h
    · exact .inr ⟨x, List.mem_cons_self .., h⟩
    · rcases List.mem_append.mp h with h | h
      · exact .inl h
      · rcases mem_joinL h with h | ⟨z, hz, h⟩
        · exact .inl h
        · exact .inr ⟨z, List.mem_cons_of_mem _ hz, h⟩
theorem line_mem {t : Tri} (h : t.Ok) {c : Nat} (hc : c ∈ line t) : 32 ≤ c ∧ c ≤ 122 := by
  rcases mem_joinL hc with hc | ⟨w, hw, hc⟩
  · rw [List.mem_singleton.mp hc]; omega
  · rcases List.mem_cons.mp hw with rfl | hw
    · have := h.nm.2 c hc; omega
    · rcases List.mem_cons.mp hw with rfl | hw
      · rcases vT_mem hc h.vs with e | e <;> omega
      · have := (h.fs w hw).2 c hc; omega
def isTri (l : List Nat) (t : Tri) : Prop := t.Ok ∧ l = line t
open Classical in
noncomputable def triO (l : List Nat) : Option Tri := if h : ∃ t, isTri l t then some h.choose else none
theorem triO_some {l : List Nat} {t : Tri} (h : triO l = some t) : isTri l t := by
  unfold triO at h
  split at h
  · rename_i z
    cases h
    exact z.choose_spec
  · cases h
theorem triO_none {l : List Nat} (h : triO l = none) (t : Tri) : ¬ isTri l t := fun z => by
  unfold triO at h
  rw [dif_pos ⟨t, z⟩] at h
  cases h
theorem triO_of {t : Tri} (h : t.Ok) : triO (line t) = some t := by
  cases e : triO (line t) with
  | none => exact absurd ⟨h, rfl⟩ (triO_none e t)
  | some u =>
    obtain ⟨h1, h2⟩ := triO_some e
    rw [line_inj h h1 h2]
theorem triO_not {l : List Nat} (h : ∀ t, ¬ isTri l t) : triO l = none := by
  cases e : triO l with
  | none => rfl
  | some t => exact absurd (triO_some e) (h t)
/-! ### texts -/
def body (ts : List Tri) : List Nat := ts.flatMap fun t => line t ++ [10]
def wt : Nat → List Nat → Nat
  | _, [] => 0
  | k, c :: r => c * k + wt (k + 1) r
def chk (l : List Nat) : Nat := wt 1 l % 99991
def CHK : List Nat := [99, 104, 101, 99, 107, 32]
def ctail (b : List Nat) : List Nat := CHK ++ numL (chk b)
def text (ts : List Tri) : List Nat := body ts ++ ctail (body ts) ++ [10]
structure Ok (ts : List Tri) : Prop where
  ok : ∀ t ∈ ts, t.Ok
  asc : (ts.map (·.nm)).Pairwise (· < ·)
theorem chk_lt (l : List Nat) : chk l < 99991 := Nat.mod_lt _ (by decide)
theorem chk_len (l : List Nat) : 1 ≤ (numL (chk l)).length ∧ (numL (chk l)).length ≤ 5 := by
  refine ⟨?_, numL_len (by decide) (Nat.lt_trans (chk_lt l) (by decide))⟩
  have := numL_ne (chk l)
  cases e : numL (chk l) with
  | nil => exact absurd e this
  | cons _ _ => rw [List.length_cons]; omega
theorem ctail_free {b : List Nat} {c : Nat} (h : c = 10 ∨ c = 46) : c ∉ ctail b := fun z => by
  rcases List.mem_append.mp z with z | z
  · rcases h with rfl | rfl <;> exact absurd z (by decide)
  · have := numL_dig z; omega
theorem ctail_not {b : List Nat} : triO (ctail b) = none := triO_not fun t ⟨h, e⟩ => by
  have e1 := spl_line h
  have h46 : 46 ∈ line t := by
    obtain ⟨x, y, z, e2, _⟩ := vT3 h.vs
    have : 46 ∈ vT t.vs := by rw [e2, vT_eq]; simp
    unfold line words
    cases hf : t.fs with
    | nil => show 46 ∈ t.nm ++ ([32] ++ vT t.vs); simp [this]
    | cons f r => show 46 ∈ t.nm ++ ([32] ++ (vT t.vs ++ ([32] ++ joinL [32] (f :: r)))); simp [this]
  rw [← e] at h46
  exact ctail_free (.inr rfl) h46
theorem joinL_cons {S x : List Nat} {r : List (List Nat)} (h : r ≠ []) : joinL S (x :: r) = x ++ (S ++ joinL S r) := by
  cases r with
  | nil => exact absurd rfl h
  | cons y r => rfl
theorem joinL_body (r : List (List Nat)) (h : r ≠ []) : ∀ ts : List Tri, joinL [10] (ts.map line ++ r) = body ts ++ joinL [10] r
  | [] => rfl
  | t :: ts => by
    rw [List.map_cons, List.cons_append, joinL_cons (by simp [h]), joinL_body r h ts]
    unfold body
    rw [List.flatMap_cons]
    simp
theorem joinL_text (ts : List Tri) : joinL [10] (ts.map line ++ [ctail (body ts), []]) = text ts := by
  rw [joinL_body _ (by simp)]
  show body ts ++ (ctail (body ts) ++ ([10] ++ [])) = _
  unfold text
  simp
theorem rows_text {ts : List Tri} (h : ∀ t ∈ ts, t.Ok) : spl [10] 0 [] (text ts) = ts.map line ++ [ctail (body ts), []] := by
  rw [← joinL_text]
  refine spl_join (by simp) fun p hp => ?_
  rcases List.mem_append.mp hp with hp | hp
  · obtain ⟨t, ht, rfl⟩ := List.mem_map.mp hp
    exact fun z => by have := line_mem (h t ht) z; omega
  · rcases List.mem_cons.mp hp with rfl | hp
    · exact ctail_free (.inl rfl)
    · rw [List.mem_singleton.mp hp]; simp
theorem body_snoc (fd : List Tri) (t : Tri) : body (fd ++ [t]) = body fd ++ (line t ++ [10]) := by unfold body; simp
/-! ### reading -/
inductive Res where
  | told (ts : List Tri) | ref (n : Nat)
def badTop (fd : List Tri) (t : Tri) : Bool := match fd.getLast? with
  | none => false
  | some u => !decide (u.nm < t.nm)
def isChk (l : List Nat) (fd : List Tri) : Bool := decide (l.take 6 = CHK ∧ l.drop 6 = numL (chk (body fd)))
def isEnd (rows : List (List Nat)) (n : Nat) : Bool := decide (n + 2 = rows.length ∧ rows.getLast? = some [])
noncomputable def go (rows : List (List Nat)) : Nat → List Tri → List (List Nat) → Res
  | _, _, [] => .ref rows.length
  | n, fd, l :: rs => match triO l with
    | some t => if badTop fd t = true then .ref (n + 1) else go rows (n + 1) (fd ++ [t]) rs
    | none => if isChk l fd = true then (if isEnd rows n = true then .told fd else .ref (n + 2)) else .ref (n + 1)
noncomputable def due (l : List Nat) : Res := go (spl [10] 0 [] l) 0 [] (spl [10] 0 [] l).dropLast
theorem badTop_asc {fd : List Tri} {t : Tri} (h : ((fd ++ [t]).map (·.nm)).Pairwise (· < ·)) : badTop fd t = false := by
  unfold badTop
  cases e : fd.getLast? with
  | none => rfl
  | some u =>
    obtain ⟨r, rfl⟩ := List.getLast?_eq_some_iff.mp e
    have : u.nm < t.nm := by
      rw [List.append_assoc, List.map_append] at h
      have h := (List.pairwise_append.mp h).2.1
      have h : [u.nm, t.nm].Pairwise (· < ·) := h
      exact (List.pairwise_cons.mp h).1 _ (by simp)
    show (!decide (u.nm < t.nm)) = false
    rw [show decide (u.nm < t.nm) = true from decide_eq_true this] <;> rfl
theorem asc_snoc {fd : List Tri} {t : Tri} (h : (fd.map (·.nm)).Pairwise (· < ·)) (hb : badTop fd t = false) : ((fd ++ [t]).map (·.nm)).Pairwise (· < ·) := by
  rw [List.map_append, List.pairwise_append]
  refine ⟨h, List.pairwise_singleton _ _, fun a ha b hb2 => ?_⟩
  rw [List.mem_singleton.mp (show b ∈ [t.nm] from hb2)]
  unfold badTop at hb
  cases e : fd.getLast? with
  | none =>
    rw [List.getLast?_eq_none_iff.mp e] at ha
    cases ha
  | some u =>
    rw [e] at hb
    have hu : u.nm < t.nm := by
      have hb : (!decide (u.nm < t.nm)) = false := hb
      simpa using hb
    obtain ⟨r, rfl⟩ := List.getLast?_eq_some_iff.mp e
    rw [List.map_append] at ha h
    rcases List.mem_append.mp ha with ha | ha
    · exact List.lt_trans ((List.pairwise_append.mp h).2.2 a ha u.nm (by simp)) hu
    · rw [List.mem_singleton.mp (show a ∈ [u.nm] from ha)]; exact hu
theorem go_text {ts : List Tri} (h : Ok ts) : ∀ (rs fd : List Tri), ts = fd ++ rs → go (ts.map line ++ [ctail (body ts), []]) fd.length fd (rs.map line ++ [ctail (body ts)]) = .told ts
  | [], fd, e => by
    rw [List.append_nil] at e
    subst e
    have hc : isChk (ctail (body ts)) ts = true := decide_eq_true ⟨rfl, rfl⟩
    have he : isEnd (ts.map line ++ [ctail (body ts), []]) ts.length = true := decide_eq_true ⟨by simp, by simp⟩
    show (match triO (ctail (body ts)) with
      | some t => _
      | none => _) = _
    rw [ctail_not]
    show (if isChk (ctail (body ts)) ts = true then _ else _) = _
    rw [if_pos hc, if_pos he]
  | t :: rs, fd, e => by
    have ht : t.Ok := h.ok t (by rw [e]; simp)
    have hb : badTop fd t = false := badTop_asc (by
      have := h.asc
      rw [e, show fd ++ t :: rs = (fd ++ [t]) ++ rs by simp, List.map_append] at this
      exact (List.pairwise_append.mp this).1)
    show (match triO (line t) with
      | some t => _
      | none => _) = _
    rw [triO_of ht]
    show (if badTop fd t = true then _ else _) = _
    rw [hb, if_neg (fun z => nomatch z)]
    have := go_text h rs (fd ++ [t]) (by rw [e]; simp)
    rw [List.length_append, List.length_singleton] at this
    exact this
theorem due_text {ts : List Tri} (h : Ok ts) : due (text ts) = .told ts := by
  unfold due
  rw [rows_text h.ok]
  have e : (ts.map line ++ [ctail (body ts), []]).dropLast = ts.map line ++ [ctail (body ts)] := by
    rw [show ts.map line ++ [ctail (body ts), []] = (ts.map line ++ [ctail (body ts)]) ++ [[]] by simp, List.dropLast_concat]
  rw [e]
  exact go_text h ts [] rfl
theorem go_sound {rows : List (List Nat)} {ts : List Tri} (hne : rows ≠ []) : ∀ (rs : List (List Nat)) (n : Nat) (fd : List Tri), rows.dropLast = fd.map line ++ rs → n = fd.length → Ok fd → go rows n fd rs = .told ts →
    Ok ts ∧ rows = ts.map line ++ [ctail (body ts), []]
  | [], n, fd, _, _, _, h => by cases h
  | l :: rs, n, fd, e, en, ho, h => by
    have h : (match triO l with
      | some t => if badTop fd t = true then Res.ref (n + 1) else go rows (n + 1) (fd ++ [t]) rs
      | none => if isChk l fd = true then (if isEnd rows n = true then .told fd else .ref (n + 2)) else .ref (n + 1)) = .told ts := h
    cases z : triO l with
    | some t =>
      obtain ⟨h1, h2⟩ := triO_some z
      rw [z] at h
      dsimp only at h
      by_cases hb : badTop fd t = true
      · rw [if_pos hb] at h; cases h
      · rw [if_neg hb] at h
        refine go_sound hne rs (n + 1) (fd ++ [t]) (by rw [e, h2]; simp) (by rw [List.length_append, en]; rfl) ⟨fun u hu => ?_, asc_snoc ho.asc (by simpa using hb)⟩ h
        rcases List.mem_append.mp hu with hu | hu
        · exact ho.ok u hu
        · rw [List.mem_singleton.mp hu]; exact h1
    | none =>
      rw [z] at h
      dsimp only at h
      by_cases hc : isChk l fd = true
      · rw [if_pos hc] at h
        by_cases he : isEnd rows n = true
        · rw [if_pos he] at h
          cases h
          obtain ⟨e1, e2⟩ := of_decide_eq_true he
          obtain ⟨c1, c2⟩ := of_decide_eq_true hc
          have e3 := congrArg List.length e
          rw [List.length_dropLast, List.length_append, List.length_map, List.length_cons] at e3
          have er : rs = [] := List.eq_nil_of_length_eq_zero (by omega)
          subst er
          have el : l = ctail (body ts) := by
            rw [← List.take_append_drop 6 l, c1, c2]
            rfl
          refine ⟨ho, ?_⟩
          have e4 := List.dropLast_concat_getLast hne
          rw [List.getLast?_eq_some_getLast hne] at e2
          injection e2 with e2
          rw [e2, e, el] at e4
          rw [← e4]
          simp
        · rw [if_neg he] at h; cases h
      · rw [if_neg hc] at h; cases h
theorem due_sound {l : List Nat} {ts : List Tri} (h : due l = .told ts) : Ok ts ∧ l = text ts := by
  obtain ⟨h1, h2⟩ := go_sound (spl_ne l 0 []) _ 0 [] (by rw [List.map_nil, List.nil_append]) rfl ⟨fun _ z => (nomatch z), List.Pairwise.nil⟩ h
  refine ⟨h1, ?_⟩
  have := spl_inv (s := 10) l []
  rw [h2, joinL_text, List.nil_append] at this
  exact this.symm
end LM

end

section
set_option Elab.async false
set_option linter.all false
set_option maxRecDepth 100000
set_option maxHeartbeats 0
/-! LN: no lock text is near another one. -/
namespace LM
open PySem L2 DL TL NT
/-! ### weights -/
theorem wt_set : ∀ (l : List Nat) (k p y : Nat) (x : Nat), l[p]? = some x → ((wt k (l.set p y) : Nat) : Int) = (wt k l : Int) + ((k : Int) + p) * ((y : Int) - x)
  | [], k, p, y, x, h => by simp at h
  | c :: r, k, 0, y, x, h => by
    have e : c = x := by simpa using h
    subst e
    show (((y * k + wt (k + 1) r : Nat)) : Int) = ((c * k + wt (k + 1) r : Nat) : Int) + ((k : Int) + (0 : Nat)) * ((y : Int) - c)
    have h1 : (y : Int) * k = c * k + k * ((y : Int) - c) := by
      rw [Int.mul_sub, Int.mul_comm (k : Int) (y : Int), Int.mul_comm (k : Int) (c : Int)]; omega
    rw [Int.natCast_add, Int.natCast_add, Int.natCast_mul, Int.natCast_mul, h1]
    simp only [Int.ofNat_zero, Int.add_zero, Int.natCast_zero]
    omega
  | c :: r, k, p + 1, y, x, h => by
    have h : r[p]? = some x := by simpa using h
    have ih := wt_set r (k + 1) p y x h
    show (((c * k + wt (k + 1) (r.set p y) : Nat)) : Int) = ((c * k + wt (k + 1) r : Nat) : Int) + ((k : Int) + ((p + 1 : Nat) : Int)) * ((y : Int) - x)
    have e : ((k + 1 : Nat) : Int) + (p : Int) = (k : Int) + ((p + 1 : Nat) : Int) := by omega
    rw [e] at ih
    rw [Int.natCast_add (c * k), ih]
    omega
theorem cop : ∀ d < 128, d ≠ 0 → Nat.Coprime d 99991 := by decide +kernel
theorem no_dvd {a : Nat} {d : Int} (ha : 0 < a) (ha2 : a < 99991) (hd : d ≠ 0) (hd2 : -128 < d ∧ d < 128) (h : (99991 : Int) ∣ (a : Int) * d) : False := by
  have h1 : (99991 : Nat) ∣ a * d.natAbs := by
    have := Int.natAbs_dvd_natAbs.mpr h
    rwa [Int.natAbs_mul] at this
  have c := cop d.natAbs (by omega) (by omega)
  have h2 : (99991 : Nat) ∣ a := Nat.Coprime.dvd_of_dvd_mul_right c.symm h1
  have := Nat.le_of_dvd ha h2
  omega
theorem mod_dvd {a b : Nat} (h : a % 99991 = b % 99991) : (99991 : Int) ∣ (a : Int) - b := by
  have h1 := Nat.div_add_mod a 99991
  have h2 := Nat.div_add_mod b 99991
  refine ⟨(a / 99991 : Nat) - (b / 99991 : Nat), ?_⟩
  have e1 : (a : Int) = 99991 * (a / 99991 : Nat) + (a % 99991 : Nat) := by omega
  have e2 : (b : Int) = 99991 * (b / 99991 : Nat) + (b % 99991 : Nat) := by omega
  rw [Int.mul_sub]
  omega
/-! ### digits -/
def dv (acc : Int) (l : List Nat) : Int := l.foldl (fun (t : Int) (c : Nat) => t * 10 + ((c : Int) - 48)) acc
theorem dv_num (n : Nat) : dv 0 (numL n) = n := fold_num n
theorem dv_set : ∀ (l : List Nat) (acc acc' : Int) (e x y : Nat), l[e]? = some y → dv acc' (l.set e x) = dv acc l + (acc' - acc) * 10 ^ l.length + ((x : Int) - y) * 10 ^ (l.length - 1 - e)
  | [], _, _, e, x, y, h => by simp at h
  | c :: r, acc, acc', 0, x, y, h => by
    have e : c = y := by simpa using h
    subst e
    show dv (acc' * 10 + ((x : Int) - 48)) r = dv (acc * 10 + ((c : Int) - 48)) r + (acc' - acc) * 10 ^ (r.length + 1) + ((x : Int) - c) * 10 ^ (r.length + 1 - 1 - 0)
    rw [dv_acc r (acc * 10 + ((c : Int) - 48)) (acc' * 10 + ((x : Int) - 48))]
    have e1 : acc' * 10 + ((x : Int) - 48) - (acc * 10 + ((c : Int) - 48)) = (acc' - acc) * 10 + ((x : Int) - c) := by omega
    rw [e1, Int.add_mul, Int.pow_succ, show r.length + 1 - 1 - 0 = r.length by omega]
    have : (acc' - acc) * 10 * 10 ^ r.length = (acc' - acc) * (10 ^ r.length * 10) := by rw [Int.mul_assoc, Int.mul_comm 10]
    omega
  | c :: r, acc, acc', e + 1, x, y, h => by
    have h : r[e]? = some y := by simpa using h
    show dv (acc' * 10 + ((c : Int) - 48)) (r.set e x) = dv (acc * 10 + ((c : Int) - 48)) r + (acc' - acc) * 10 ^ (r.length + 1) + ((x : Int) - y) * 10 ^ (r.length + 1 - 1 - (e + 1))
    rw [dv_set r (acc * 10 + ((c : Int) - 48)) (acc' * 10 + ((c : Int) - 48)) e x y h]
    have e1 : acc' * 10 + ((c : Int) - 48) - (acc * 10 + ((c : Int) - 48)) = (acc' - acc) * 10 := by omega
    rw [e1, Int.pow_succ, show r.length + 1 - 1 - (e + 1) = r.length - 1 - e by omega]
    have : (acc' - acc) * 10 * 10 ^ r.length = (acc' - acc) * (10 ^ r.length * 10) := by rw [Int.mul_assoc, Int.mul_comm 10]
    omega
where
  dv_acc : ∀ (l : List Nat) (a b : Int), dv b l = dv a l + (b - a) * 10 ^ l.length
    | [], a, b => by show b = a + (b - a) * 1; omega
    | c :: r, a, b => by
      show dv (b * 10 + ((c : Int) - 48)) r = dv (a * 10 + ((c : Int) - 48)) r + (b - a) * 10 ^ (r.length + 1)
      rw [dv_acc r (a * 10 + ((c : Int) - 48)) (b * 10 + ((c : Int) - 48))]
      have e1 : b * 10 + ((c : Int) - 48) - (a * 10 + ((c : Int) - 48)) = (b - a) * 10 := by omega
      rw [e1, Int.pow_succ]
      have : (b - a) * 10 * 10 ^ r.length = (b - a) * (10 ^ r.length * 10) := by rw [Int.mul_assoc, Int.mul_comm 10]
      omega
/-! ### places of a text -/
section
variable {ts : List Tri}
theorem text_eq (ts : List Tri) : text ts = body ts ++ (CHK ++ (numL (chk (body ts)) ++ [10])) := by unfold text ctail; simp
theorem text_len (ts : List Tri) : (text ts).length = (body ts).length + 7 + (numL (chk (body ts))).length := by
  rw [text_eq]; simp only [List.length_append, List.length_cons, List.length_nil]
  show _ + (6 + _) = _
  omega
theorem at_body {i : Nat} (h : i < (body ts).length) : (text ts)[i]? = (body ts)[i]? := by rw [text_eq, List.getElem?_append_left h]
theorem at_chk {j : Nat} (h : j < 6) : (text ts)[(body ts).length + j]? = CHK[j]? := by
  rw [text_eq, List.getElem?_append_right (by omega), show (body ts).length + j - (body ts).length = j by omega, List.getElem?_append_left (by exact h)]
theorem at_num {j : Nat} (h : j < (numL (chk (body ts))).length) : (text ts)[(body ts).length + 6 + j]? = (numL (chk (body ts)))[j]? := by
  rw [text_eq, List.getElem?_append_right (by omega), show (body ts).length + 6 + j - (body ts).length = 6 + j by omega, List.getElem?_append_right (by show 6 ≤ 6 + j; omega)]
  rw [show 6 + j - CHK.length = j by show 6 + j - 6 = j; omega, List.getElem?_append_left h]
theorem at_last : (text ts)[(text ts).length - 1]? = some 10 := by
  rw [← List.getLast?_eq_getElem?, text_eq]
  simp
theorem body_last (h : 0 < (body ts).length) : (body ts)[(body ts).length - 1]? = some 10 := by
  rw [← List.getLast?_eq_getElem?]
  have hne : ts ≠ [] := fun z => by rw [z] at h; exact absurd h (Nat.lt_irrefl 0)
  rw [← List.dropLast_concat_getLast hne, body_snoc]
  simp
theorem body_mem (h : ∀ t ∈ ts, t.Ok) {c : Nat} (hc : c ∈ body ts) : c ≤ 122 := by
  obtain ⟨t, ht, hc⟩ := List.mem_flatMap.mp hc
  rcases List.mem_append.mp hc with hc | hc
  · exact (line_mem (h t ht) hc).2
  · rw [List.mem_singleton.mp hc]; omega
end
/-! ### two texts that differ at p and q at most -/
section
variable {I J : List Tri} {p q : Nat}
theorem not_less (hl : (text J).length = (text I).length) (hd : ∀ i, i ≠ p → i ≠ q → (text J)[i]? = (text I)[i]?) : ¬ (body I).length < (body J).length := fun h => by
  have l1 := text_len I
  have l2 := text_len J
  obtain ⟨a1, a2⟩ := chk_len (body I)
  obtain ⟨b1, b2⟩ := chk_len (body J)
  have hb := body_last (ts := J) (by omega)
  have hb1 : (text J)[(body J).length - 1]? = some 10 := by rw [at_body (by omega)]; exact hb
  have d : ∀ i, (text J)[i]? ≠ (text I)[i]? → i = p ∨ i = q := fun i hi => by
    by_cases z : i = p
    · exact .inl z
    · by_cases z2 : i = q
      · exact .inr z2
      · exact absurd (hd i z z2) hi
  have key : ∀ o j : Nat, (body J).length = (body I).length + o → j < 6 → o + j < 6 → CHK[j]? ≠ CHK[o + j]? → ((body J).length + j = p ∨ (body J).length + j = q) := fun o j ho hj hoj hne => d _ (by
    rw [at_chk hj, ho, Nat.add_assoc, at_chk hoj]
    exact hne)
  have first : ∀ o : Nat, (body J).length = (body I).length + o → 1 ≤ o → o ≤ 4 → ((body J).length - 1 = p ∨ (body J).length - 1 = q) := fun o ho h1 h4 => d _ (by
    rw [hb1, ho, show (body I).length + o - 1 = (body I).length + (o - 1) by omega, at_chk (by omega)]
    have : o = 1 ∨ o = 2 ∨ o = 3 ∨ o = 4 := by omega
    rcases this with rfl | rfl | rfl | rfl <;> decide)
  have ho : (body J).length = (body I).length + 1 ∨ (body J).length = (body I).length + 2 ∨ (body J).length = (body I).length + 3 ∨ (body J).length = (body I).length + 4 := by omega
  rcases ho with ho | ho | ho | ho
  · have f := first 1 ho (by omega) (by omega)
    have k1 := key 1 0 ho (by omega) (by omega) (by decide)
    have k2 := key 1 1 ho (by omega) (by omega) (by decide)
    omega
  · have f := first 2 ho (by omega) (by omega)
    have k1 := key 2 0 ho (by omega) (by omega) (by decide)
    have k2 := key 2 1 ho (by omega) (by omega) (by decide)
    omega
  · have f := first 3 ho (by omega) (by omega)
    have k1 := key 3 1 ho (by omega) (by omega) (by decide)
    have k2 := key 3 2 ho (by omega) (by omega) (by decide)
    omega
  · have f := first 4 ho (by omega) (by omega)
    have k1 := key 4 0 ho (by omega) (by omega) (by decide)
    have k2 := key 4 1 ho (by omega) (by omega) (by decide)
    omega
theorem same_len (hl : (text J).length = (text I).length) (hd : ∀ i, i ≠ p → i ≠ q → (text J)[i]? = (text I)[i]?) : (body I).length = (body J).length := by
  have h1 := not_less hl hd
  have h2 := not_less (I := J) (J := I) hl.symm fun i a b => (hd i a b).symm
  omega
theorem body_set {i x : Nat} (hb : (body I).length = (body J).length) (hi : i < (body I).length) (h : ∀ j, j < (body I).length → j ≠ i → (text J)[j]? = (text I)[j]?) (hx : (text J)[i]? = some x) : body J = (body I).set i x := by
  apply List.ext_getElem?
  intro j
  by_cases z : j = i
  · subst z
    rw [List.getElem?_set_self hi, ← at_body (by omega), hx]
  · rw [List.getElem?_set_ne (Ne.symm z)]
    by_cases z2 : j < (body I).length
    · have := h j z2 z
      rwa [at_body (by omega), at_body z2] at this
    · rw [List.getElem?_eq_none (by omega), List.getElem?_eq_none (by omega)]
theorem body_same (hb : (body I).length = (body J).length) (h : ∀ j, j < (body I).length → (text J)[j]? = (text I)[j]?) : body J = body I := by
  apply List.ext_getElem?
  intro j
  by_cases z2 : j < (body I).length
  · have := h j z2
    rwa [at_body (by omega), at_body z2] at this
  · rw [List.getElem?_eq_none (by omega), List.getElem?_eq_none (by omega)]
theorem num_same (hl : (text J).length = (text I).length) (hb : (body I).length = (body J).length) (h : ∀ j, (body I).length ≤ j → (text J)[j]? = (text I)[j]?) : chk (body J) = chk (body I) := by
  have l1 := text_len I
  have l2 := text_len J
  apply numL_inj
  apply List.ext_getElem?
  intro j
  by_cases z : j < (numL (chk (body I))).length
  · have := h ((body I).length + 6 + j) (by omega)
    rw [at_num z] at this
    rw [hb, at_num (by omega)] at this
    exact this
  · rw [List.getElem?_eq_none (by omega), List.getElem?_eq_none (by omega)]
/-- one sign changed -/
theorem no_change (oI : Ok I) (oJ : Ok J) (sm : (body I).length ≤ 50000) (hl : (text J).length = (text I).length) (hd : ∀ i, i ≠ p → (text J)[i]? = (text I)[i]?) : text J = text I := by
  have hb := same_len (p := p) (q := p) hl fun i a _ => hd i a
  by_cases hp : p < (body I).length
  · have hx : (text J)[p]? = some ((body J)[p]'(by omega)) := by rw [at_body (by omega), List.getElem?_eq_getElem]
    have e := body_set hb hp (fun j _ z => hd j z) hx
    have hc := num_same hl hb fun j hj => hd j (by omega)
    have hw := wt_set (body I) 1 p ((body J)[p]'(by omega)) ((body I)[p]'hp) (List.getElem?_eq_getElem hp)
    rw [← e] at hw
    have m1 := body_mem oI.ok (List.getElem_mem hp)
    have m2 := body_mem oJ.ok (List.getElem_mem (show p < (body J).length by omega))
    by_cases ne : (body J)[p]'(by omega) = (body I)[p]'hp
    · have : body J = body I := by rw [e, ne, List.set_getElem_self]
      unfold text
      rw [this]
    · refine (no_dvd (a := 1 + p) (d := (((body J)[p]'(by omega) : Nat) : Int) - ((body I)[p]'hp : Nat)) (by omega) (by omega) (by omega) (by omega) ?_).elim
      have := mod_dvd hc
      rw [hw] at this
      have e2 : ((wt 1 (body I) : Nat) : Int) + (((1 : Nat) : Int) + (p : Int)) * ((((body J)[p]'(by omega) : Nat) : Int) - ((body I)[p]'hp : Nat)) - (wt 1 (body I) : Nat) = ((1 + p : Nat) : Int) * ((((body J)[p]'(by omega) : Nat) : Int) - ((body I)[p]'hp : Nat)) := by
        rw [Int.natCast_add]; omega
      rwa [e2] at this
  · have e := body_same hb fun j hj => hd j (by omega)
    unfold text
    rw [e]
/-- two signs exchanged -/
theorem no_exch (oI : Ok I) (oJ : Ok J) (sm : (body I).length ≤ 50000) (hl : (text J).length = (text I).length) (hpq : p < q) (hq : q < (text I).length) (hd : ∀ i, i ≠ p → i ≠ q → (text J)[i]? = (text I)[i]?)
    (h1 : (text J)[p]? = (text I)[q]?) (h2 : (text J)[q]? = (text I)[p]?) : (text I)[p]? = (text I)[q]? := by
  have hb := same_len hl hd
  have l1 := text_len I
  have l2 := text_len J
  obtain ⟨c1, c2⟩ := chk_len (body I)
  apply Classical.byContradiction
  intro ne
  by_cases hp : p < (body I).length
  · by_cases hqb : q < (body I).length
    · have hc := num_same hl hb fun j hj => hd j (by omega) (by omega)
      have gx : (body I)[p]? = some ((body I)[p]'hp) := List.getElem?_eq_getElem hp
      have gy : (body I)[q]? = some ((body I)[q]'hqb) := List.getElem?_eq_getElem hqb
      rw [at_body hp, at_body hqb, gx, gy] at ne
      have m1 := body_mem oI.ok (List.getElem_mem hp)
      have m2 := body_mem oI.ok (List.getElem_mem hqb)
      rw [at_body (by omega), at_body hqb, gy] at h1
      rw [at_body (by omega), at_body hp, gx] at h2
      generalize (body I)[p]'hp = x at *
      generalize (body I)[q]'hqb = y at *
      have e : body J = ((body I).set p y).set q x := by
        apply List.ext_getElem?
        intro j
        by_cases z : j = q
        · subst z
          rw [List.getElem?_set_self (by rw [List.length_set]; exact hqb), h2]
        · rw [List.getElem?_set_ne (Ne.symm z)]
          by_cases z1 : j = p
          · subst z1
            rw [List.getElem?_set_self hp, h1]
          · rw [List.getElem?_set_ne (Ne.symm z1)]
            by_cases z2 : j < (body I).length
            · have := hd j z1 z
              rwa [at_body (by omega), at_body z2] at this
            · rw [List.getElem?_eq_none (by omega), List.getElem?_eq_none (by omega)]
      have w1 := wt_set (body I) 1 p y x gx
      have w2 := wt_set ((body I).set p y) 1 q x y (by rw [List.getElem?_set_ne (by omega)]; exact gy)
      rw [← e, w1] at w2
      refine no_dvd (a := q - p) (d := (x : Int) - y) (by omega) (by omega) (fun z => ne (by rw [show x = y by omega])) (by omega) ?_
      have := mod_dvd hc
      rw [w2] at this
      have e2 : ((wt 1 (body I) : Nat) : Int) + (((1 : Nat) : Int) + (p : Int)) * ((y : Int) - x) + (((1 : Nat) : Int) + (q : Int)) * ((x : Int) - y) - (wt 1 (body I) : Nat) = ((q - p : Nat) : Int) * ((x : Int) - y) := by
        have e3 : ((q - p : Nat) : Int) = (((1 : Nat) : Int) + (q : Int)) - (((1 : Nat) : Int) + (p : Int)) := by omega
        have e4 : (((1 : Nat) : Int) + (p : Int)) * ((y : Int) - x) = - ((((1 : Nat) : Int) + (p : Int)) * ((x : Int) - y)) := by rw [← Int.mul_neg, Int.neg_sub]
        rw [e3, e4, Int.sub_mul]
        omega
      rwa [e2] at this
    · have gx : (body I)[p]? = some ((body I)[p]'hp) := List.getElem?_eq_getElem hp
      by_cases z6 : q < (body I).length + 6
      · apply ne
        have : (text J)[q]? = (text I)[q]? := by
          rw [show q = (body I).length + (q - (body I).length) by omega, at_chk (by omega), hb, at_chk (by omega)]
        rw [← h2, this]
      · by_cases zl : q = (text I).length - 1
        · apply ne
          have : (text J)[q]? = (text I)[q]? := by
            rw [zl, at_last, ← hl, at_last]
          rw [← h2, this]
        · obtain ⟨e, rfl⟩ : ∃ e, q = (body I).length + 6 + e := ⟨q - (body I).length - 6, by omega⟩
          have he : e < (numL (chk (body I))).length := by omega
          have gy : (numL (chk (body I)))[e]? = some ((numL (chk (body I)))[e]'he) := List.getElem?_eq_getElem he
          have dg := numL_dig (List.getElem_mem he)
          have m1 := body_mem oI.ok (List.getElem_mem hp)
          rw [at_body hp, at_num he, gx, gy] at ne
          rw [at_num he, gy] at h1
          rw [at_body hp, gx] at h2
          generalize hx : (body I)[p]'hp = x at *
          generalize hy : (numL (chk (body I)))[e]'he = y at *
          have eB := body_set hb hp (fun j hj z => hd j z (by omega)) h1
          have eD : numL (chk (body J)) = (numL (chk (body I))).set e x := by
            apply List.ext_getElem?
            intro j
            by_cases z : j = e
            · subst z
              rw [List.getElem?_set_self he, ← h2]
              rw [hb, at_num (by omega)]
            · rw [List.getElem?_set_ne (Ne.symm z)]
              by_cases z2 : j < (numL (chk (body I))).length
              · have := hd ((body I).length + 6 + j) (by omega) (by omega)
                rw [at_num z2] at this
                rw [hb, at_num (by omega)] at this
                exact this
              · rw [List.getElem?_eq_none (by omega), List.getElem?_eq_none (by omega)]
          have w1 := wt_set (body I) 1 p y x gx
          rw [← eB] at w1
          have v1 := dv_set (numL (chk (body I))) 0 0 e x y gy
          rw [← eD, dv_num, dv_num, Int.sub_self, Int.zero_mul, Int.add_zero] at v1
          have q1 := mod_dvd (a := wt 1 (body I)) (b := chk (body I)) (by unfold chk; rw [Nat.mod_mod])
          have q2 := mod_dvd (a := wt 1 (body J)) (b := chk (body J)) (by unfold chk; rw [Nat.mod_mod])
          have q3 := Int.dvd_sub q1 q2
          rw [w1, v1] at q3
          have hk : ∃ k : Nat, k ≤ 4 ∧ (numL (chk (body I))).length - 1 - e = k := ⟨_, by omega, rfl⟩
          obtain ⟨k, hk, ek⟩ := hk
          rw [ek] at q3
          have h10 : ∃ t : Nat, (10 : Int) ^ k = (t : Int) ∧ t ≤ 10000 ∧ 0 < t := by
            have : k = 0 ∨ k = 1 ∨ k = 2 ∨ k = 3 ∨ k = 4 := by omega
            rcases this with rfl | rfl | rfl | rfl | rfl
            · exact ⟨1, rfl, by omega, by omega⟩
            · exact ⟨10, rfl, by omega, by omega⟩
            · exact ⟨100, rfl, by omega, by omega⟩
            · exact ⟨1000, rfl, by omega, by omega⟩
            · exact ⟨10000, rfl, by omega, by omega⟩
          obtain ⟨t, et, ht, ht0⟩ := h10
          rw [et] at q3
          refine no_dvd (a := 1 + p + t) (d := (x : Int) - y) (by omega) (by omega) (fun z => ne (by rw [show x = y by omega])) (by omega) ?_
          have e2 : ((wt 1 (body I) : Nat) : Int) - (chk (body I) : Nat) - (((wt 1 (body I) : Nat) : Int) + (((1 : Nat) : Int) + (p : Int)) * ((y : Int) - x) - ((chk (body I) : Nat) + ((x : Int) - y) * (t : Int))) = ((1 + p + t : Nat) : Int) * ((x : Int) - y) := by
            have e4 : (((1 : Nat) : Int) + (p : Int)) * ((y : Int) - x) = - ((((1 : Nat) : Int) + (p : Int)) * ((x : Int) - y)) := by rw [← Int.mul_neg, Int.neg_sub]
            have e5 : ((1 + p + t : Nat) : Int) * ((x : Int) - y) = (((1 : Nat) : Int) + (p : Int)) * ((x : Int) - y) + ((x : Int) - y) * (t : Int) := by
              rw [Int.natCast_add, Int.add_mul, Int.mul_comm (t : Int), Int.natCast_add]
            rw [e4, e5]
            omega
          rwa [e2] at q3
  · have e := body_same hb fun j hj => hd j (by omega) (by omega)
    have et : text J = text I := by unfold text; rw [e]
    rw [et] at h2
    exact ne h2.symm
end
/-! ### none begins another one -/
theorem two_cut {α : Type} {P : α → Prop} : ∀ {A B : List α} {a b : α} {r s : List α}, (∀ x ∈ A, P x) → (∀ x ∈ B, P x) → ¬ P a → ¬ P b → A ++ a :: r = B ++ b :: s → r = s
  | [], [], _, _, _, _, _, _, _, _, h => by injection h
  | [], y :: B, a, b, r, s, _, hB, ha, _, h => by
    injection h with h1 h2
    exact absurd (hB y (by simp)) (h1 ▸ ha)
  | x :: A, [], a, b, r, s, hA, _, _, hb, h => by
    injection h with h1 h2
    exact absurd (hA x (by simp)) (h1 ▸ hb)
  | x :: A, y :: B, a, b, r, s, hA, hB, ha, hb, h => by
    injection h with h1 h2
    exact two_cut (fun z hz => hA z (by simp [hz])) (fun z hz => hB z (by simp [hz])) ha hb h2
theorem spl_no {s : Nat} : ∀ (l acc : List Nat), s ∉ acc → ∀ p ∈ spl [s] 0 acc l, s ∉ p
  | [], acc, h, p, hp => by
    rw [spl_nil] at hp
    rw [List.mem_singleton.mp hp]; exact h
  | c :: r, acc, h, p, hp => by
    by_cases z : pre [s] (c :: r) = true
    · rw [spl_hit z] at hp
      rcases List.mem_cons.mp hp with rfl | hp
      · exact h
      · exact spl_no r [] (by simp) p hp
    · rw [spl_miss (by simpa using z)] at hp
      refine spl_no r (acc ++ [c]) (fun q => ?_) p hp
      rcases List.mem_append.mp q with q | q
      · exact h q
      · apply z
        rw [List.mem_singleton.mp q]
        show ([c] == [c]) = true
        simp
theorem no_more {I J : List Tri} {x : List Nat} (oI : Ok I) (oJ : Ok J) (h : text I = text J ++ x) : x = [] := by
  have e1 := rows_text oI.ok
  have e2 : spl [10] 0 [] (text J ++ x) = J.map line ++ ctail (body J) :: spl [10] 0 [] x := by
    have e3 : text J ++ x = joinL [10] (J.map line ++ ctail (body J) :: spl [10] 0 [] x) := by
      rw [joinL_body _ (by simp), joinL_cons (spl_ne _ _ _), spl_inv, List.nil_append]
      unfold text
      simp
    rw [e3]
    refine spl_join (by simp) fun p hp => ?_
    rcases List.mem_append.mp hp with hp | hp
    · obtain ⟨t, ht, rfl⟩ := List.mem_map.mp hp
      exact fun z => by have := line_mem (oJ.ok t ht) z; omega
    · rcases List.mem_cons.mp hp with rfl | hp
      · exact ctail_free (.inl rfl)
      · exact spl_no x [] (by simp) p hp
  rw [h, e2] at e1
  have lt : ∀ {K : List Tri}, Ok K → ∀ l ∈ K.map line, triO l ≠ none := fun oK l hl => by
    obtain ⟨t, ht, rfl⟩ := List.mem_map.mp hl
    rw [triO_of (oK.ok t ht)]
    simp
  have := two_cut (P := fun l => triO l ≠ none) (lt oJ) (lt oI) (fun z => z ctail_not) (fun z => z ctail_not) e1
  have := spl_inv (s := 10) x []
  rw [‹spl [10] 0 [] x = [[]]›] at this
  exact this.symm
end LM

end

section
set_option Elab.async false
set_option linter.all false
set_option maxRecDepth 100000
set_option maxHeartbeats 0
/-! LP: lengths of lock texts; their checks in two ways. -/
namespace LM
open PySem L2 DL TL NT
theorem spl_cnt {S : List Nat} {ch : Nat} (h0 : 1 ≤ S.count ch) : ∀ (l : List Nat) (k : Nat) (acc : List Nat), ((spl S k acc l).map fun p => 1 + p.count ch).sum ≤ 1 + acc.count ch + (l.drop k).count ch
  | [], k, acc => by rw [spl_nil]; simp
  | d :: r, 0, acc => by
    by_cases z : pre S (d :: r) = true
    · rw [spl_hit z]
      have h1 := spl_cnt h0 r (S.length - 1) []
      have h2 := congrArg (List.count ch) (pre_app z)
      rw [List.count_append] at h2
      have h3 : (d :: r).drop S.length = r.drop (S.length - 1) := by
        cases S with
        | nil => simp at h0
        | cons s S => simp
      rw [h3] at h2
      rw [List.map_cons, List.sum_cons]
      simp only [List.drop_zero, List.count_nil] at *
      omega
    · rw [spl_miss (by simpa using z)]
      have h1 := spl_cnt h0 r 0 (acc ++ [d])
      rw [List.count_append] at h1
      have h2 : (d :: r).count ch = [d].count ch + r.count ch := by
        rw [show d :: r = [d] ++ r from rfl, List.count_append]
      simp only [List.drop_zero] at *
      omega
  | d :: r, k + 1, acc => by
    have h1 := spl_cnt h0 r k acc
    exact h1
theorem spl_le {ch : Nat} (l : List Nat) : (spl [ch] 0 [] l).length ≤ 1 + l.count ch := by
  have h := spl_cnt (S := [ch]) (ch := ch) (by simp) l 0 []
  have h2 : ∀ xs : List (List Nat), xs.length ≤ (xs.map fun p => 1 + p.count ch).sum := fun xs => by
    induction xs with
    | nil => simp
    | cons x xs ih => simp; omega
  have := h2 (spl [ch] 0 [] l)
  simp only [List.drop_zero, List.count_nil] at h
  exact Nat.le_trans this h
theorem joinL_flat (S : List Nat) (x : List Nat) : ∀ xs : List (List Nat), joinL S (x :: xs) = x ++ xs.flatMap fun f => S ++ f
  | [] => by simp [joinL]
  | y :: r => by
    rw [joinL_cons (by simp), joinL_flat S y r, List.flatMap_cons, List.append_assoc]
theorem joinL_nil : ∀ xs : List (List Nat), joinL [] xs = xs.flatten
  | [] => rfl
  | x :: xs => by rw [joinL_flat, List.flatten_cons]; simp [List.flatMap_def]
theorem flat_len {α : Type} (f : α → List Nat) (n : Nat) : ∀ xs : List α, (∀ x ∈ xs, (f x).length ≤ n) → (xs.flatMap f).length ≤ xs.length * n
  | [], _ => Nat.zero_le _
  | x :: xs, h => by
    have h1 := h x (by simp)
    have h2 := flat_len f n xs fun y hy => h y (by simp [hy])
    rw [List.flatMap_cons, List.length_append, List.length_cons, Nat.succ_mul]
    omega
/-- sizes of an installation -/
structure Sz (ts : List Tri) : Prop where
  n : ts.length ≤ 60
  f : ∀ t ∈ ts, t.fs.length ≤ 10
theorem line_len {t : Tri} (h : t.Ok) (hf : t.fs.length ≤ 10) : (line t).length ≤ 166 := by
  unfold line words
  rw [joinL_flat, List.length_append, List.flatMap_cons, List.length_append, List.length_append]
  have h1 := h.nm.1.2
  have h2 := vT_len h.vs
  have h3 := flat_len (fun f => [32] ++ f) 13 t.fs fun f hx => by
    have := (h.fs f hx).1.2
    rw [List.length_append]
    show 1 + f.length ≤ 13
    omega
  have h4 : t.fs.length * 13 ≤ 10 * 13 := Nat.mul_le_mul_right _ hf
  have h5 : ([32] : List Nat).length = 1 := rfl
  omega
theorem body_len {ts : List Tri} (h : ∀ t ∈ ts, t.Ok) (s : Sz ts) : (body ts).length ≤ 10020 := by
  have h1 := flat_len (fun t => line t ++ [10]) 167 ts fun t ht => by
    have := line_len (h t ht) (s.f t ht)
    rw [List.length_append]
    show _ + 1 ≤ 167
    omega
  have h2 : ts.length * 167 ≤ 60 * 167 := Nat.mul_le_mul_right _ s.n
  unfold body
  omega
theorem text_len' {ts : List Tri} (h : ∀ t ∈ ts, t.Ok) (s : Sz ts) : (text ts).length ≤ 10040 := by
  have h1 := body_len h s
  have h2 := text_len ts
  have h3 := (chk_len (body ts)).2
  omega
theorem text_asc {ts : List Tri} (h : ∀ t ∈ ts, t.Ok) : ∀ c ∈ text ts, c ≤ 122 := fun c hc => by
  rw [text_eq] at hc
  simp only [List.mem_append] at hc
  rcases hc with hc | hc | hc | hc
  · exact body_mem h hc
  · have : ∀ c ∈ CHK, c ≤ 122 := by decide
    exact this c hc
  · have := numL_dig hc; omega
  · rw [List.mem_singleton.mp hc]; omega
theorem wt_zip (l : List Nat) : ∀ k : Nat, ((l.zipIdx k).map fun c : Nat × Nat => (c.1 : Int) * (1 + (c.2 : Int))).sum = (wt (1 + k) l : Int) := by
  induction l with
  | nil => intro k; rfl
  | cons c r ih =>
    intro k
    rw [List.zipIdx_cons, List.map_cons, List.sum_cons, ih (k + 1)]
    show (c : Int) * (1 + (k : Int)) + (wt (1 + (k + 1)) r : Nat) = ((c * (1 + k) + wt (1 + k + 1) r : Nat) : Int)
    rw [Int.natCast_add, Int.natCast_mul, Int.natCast_add]
    rfl
theorem wt_next : ∀ (l : List Nat) (k : Nat), wt (k + 1) l = wt k l + l.sum
  | [], _ => rfl
  | c :: r, k => by
    show c * (k + 1) + wt (k + 1 + 1) r = c * k + wt (k + 1) r + (c :: r).sum
    rw [wt_next r (k + 1), List.sum_cons, Nat.mul_succ]
    omega
def stp (s : Nat × Nat) (c : Nat) : Nat × Nat := (s.1 + c, s.2 + (s.1 + c))
theorem stp_rev : ∀ l : List Nat, l.reverse.foldl stp (0, 0) = (l.sum, wt 1 l)
  | [] => rfl
  | c :: r => by
    rw [List.reverse_cons, List.foldl_append, stp_rev r]
    show (r.sum + c, wt 1 r + (r.sum + c)) = ((c :: r).sum, c * 1 + wt 2 r)
    rw [wt_next r 1, List.sum_cons, Nat.mul_one]
    congr 1 <;> omega
theorem fmod_chk (n : Nat) : Int.fmod (n : Int) 99991 = ((n % 99991 : Nat) : Int) := by
  rw [Int.fmod_eq_emod_of_nonneg _ (by decide)]
  rfl
end LM

end

section
set_option Elab.async false
set_option linter.all false
set_option maxRecDepth 100000
set_option maxHeartbeats 0
namespace K41
open PySem PySem.Spec PyProof.Rows L2 DL TL
def lots : Nat := 200
def top (i : Nat) : Stmt := PySem.Challenge.pw_pinforge_k41_whole_locks_there_and_back.main.body.getD i (.Pass ⟨0, 0, 0, 0⟩)
def k_SMALL : D := (D.str (sL [97, 98, 99, 100, 101, 102, 103, 104, 105, 106, 107, 108, 109, 110, 111, 112, 113, 114, 115, 116, 117, 118, 119, 120, 121, 122]))
def k_FIGURES : D := (D.str (sL [48, 49, 50, 51, 52, 53, 54, 55, 56, 57]))
def k_MOST_SIGNS : D := (D.int (12))
def k_GREATEST : D := (D.int (1000000))
def k_CHECK : D := (D.str (sL [99, 104, 101, 99, 107, 32]))
def k_BY : D := (D.int (99991))
def k_MOST_WANTED : D := (D.int (4))
def k_MOST_WISHES : D := (D.int (8))
def k_MOST_LOCKS : D := (D.int (40))
def fi_wishes : List Str := ["Question"]
def fi_locks : List Str := ["Question"]
abbrev s_law_hand : Stmt := top 39
def io_law_hand : Nat → Bool := fun j => false
def m_law_hand : MS := (sSq (sAs 1 (oLc (iSq DK.isQ (eSl fSl (eV 0) pN (pM (eK (D.int (63)))))) (gNm 2) mYes (eCB (f1 fAbs) (mCons true (eCB (f1 fInt) (mCons true (eV 2) mNil)) mNil)) [2])) (sRt (oDicF [(Sum.inr (sL [99, 101, 108, 108, 115])), (Sum.inr (sL [97, 116])), (Sum.inr (sL [108, 101, 102, 116])), (Sum.inr (sL [115, 101, 101, 100])), (Sum.inr (sL [116, 117, 114, 110]))] [(true, (eV 1)), (true, (eK (D.int (0)))), (true, (eK (D.int (0)))), (true, (eB true fAdd (eK (D.int (40961))) (eCB (f1 fLen) (mCons true (eV 1) mNil)))), (true, (eK (D.int (0))))])))
def d_law_hand : Fn := fnD 3 io_law_hand m_law_hand
abbrev s_law_draw : Stmt := top 40
def io_law_draw : Nat → Bool := fun j => j == 0
def m_law_draw : MS := (sSq (sIf (tAndM (tB true fEq (eB true fIxD (eV 0) (eK (D.str (sL [108, 101, 102, 116])))) (eK (D.int (0)))) (tB true fLt (eB true fIxD (eV 0) (eK (D.str (sL [97, 116])))) (eCB (f1 fLen) (mCons true (eB true fIxD (eV 0) (eK (D.str (sL [99, 101, 108, 108, 115])))) mNil)))) (sSq (sAs 3 (oE (eB true fIx (eB true fIxD (eV 0) (eK (D.str (sL [99, 101, 108, 108, 115])))) (eB true fIxD (eV 0) (eK (D.str (sL [97, 116]))))))) (sSq (sSub true fSetD (eB true fAdd (eB true fIxD (eV 0) (eK (D.str (sL [97, 116])))) (eK (D.int (1)))) (eV 0) (eK (D.str (sL [97, 116])))) (sSq (sSub true fSetD (eB true fMod (eCB (f1 fInt) (mCons true (eB true fAdd (eB true fAdd (eB true fMul (eB true fIxD (eV 0) (eK (D.str (sL [115, 101, 101, 100])))) (eK (D.int (69621)))) (eV 3)) (eK (D.int (11)))) mNil)) (eK (D.int (2147483629)))) (eV 0) (eK (D.str (sL [115, 101, 101, 100])))) (sSub true fSetD (eIf (tB true fGeA (eV 3) (eB true fPow (eK (D.int (10))) (eK (D.int (18))))) (eV 3) (eK (D.int (0)))) (eV 0) (eK (D.str (sL [108, 101, 102, 116]))))))) sNx) (sSq (sIf (tB true fGt (eB true fIxD (eV 0) (eK (D.str (sL [108, 101, 102, 116])))) (eK (D.int (0)))) (sSq (sAs 4 (oE (eB true fMod (eCB (f1 fInt) (mCons true (eB true fIxD (eV 0) (eK (D.str (sL [108, 101, 102, 116])))) mNil)) (eV 1)))) (sSq (sSub true fSetD (eB true fDiv (eB true fIxD (eV 0) (eK (D.str (sL [108, 101, 102, 116])))) (eV 1)) (eV 0) (eK (D.str (sL [108, 101, 102, 116])))) (sRt (oV 4)))) sNx) (sSq (sSub true fSetD (eB true fAdd (eB true fIxD (eV 0) (eK (D.str (sL [116, 117, 114, 110])))) (eK (D.int (1)))) (eV 0) (eK (D.str (sL [116, 117, 114, 110])))) (sSq (sAs 2 (oE (eB true fMod (eCB (f1 fInt) (mCons true (eB true fMul (eCB (f1 fInt) (mCons true (eB true fAdd (eB true fIxD (eV 0) (eK (D.str (sL [115, 101, 101, 100])))) (eB true fMul (eK (D.int (7927))) (eB true fIxD (eV 0) (eK (D.str (sL [116, 117, 114, 110])))))) mNil)) (eK (D.int (48271)))) mNil)) (eK (D.int (2147483647)))))) (sSq (sAs 2 (oE (eB true fMod (eCB (f1 fInt) (mCons true (eB true fMul (eV 2) (eB true fAdd (eB true fDiv (eV 2) (eK (D.int (1013)))) (eK (D.int (69623))))) mNil)) (eK (D.int (2147483587)))))) (sSq (sAs 2 (oE (eB true fMod (eCB (f1 fInt) (mCons true (eB true fAdd (eB true fMul (eV 2) (eB true fAdd (eB true fDiv (eV 2) (eK (D.int (2011)))) (eK (D.int (40693))))) (eB true fIxD (eV 0) (eK (D.str (sL [116, 117, 114, 110]))))) mNil)) (eK (D.int (2147483399)))))) (sRt (oE (eB true fMod (eCB (f1 fInt) (mCons true (eB true fDiv (eV 2) (eK (D.int (32)))) mNil)) (eV 1))))))))))
def d_law_draw : Fn := fnD 5 io_law_draw m_law_draw
abbrev s_law_any : Stmt := top 41
def io_law_any : Nat → Bool := fun j => j == 0
def m_law_any : MS := (sRt (oE (eB false fIx (eV 1) (eO (oIO d_law_draw 0 (mCons true (eCB (f1 fLen) (mCons true (eV 1) mNil)) mNil))))))
def d_law_any : Fn := fnD 2 io_law_any m_law_any
abbrev s_law_name : Stmt := top 42
def io_law_name : Nat → Bool := fun j => j == 0
def m_law_name : MS := (sSq (sAs 1 (oE (eK (D.str (sL [97, 98, 99, 100, 101, 102, 103, 104, 105, 106, 107, 108, 109, 110, 111, 112, 113, 114, 115, 116, 117, 118, 119, 120, 121, 122]))))) (sSq (sIf (tB true fEq (eO (oIO d_law_draw 0 (mCons true (eK (D.int (9))) mNil))) (eK (D.int (0)))) (sRt (oIO d_law_any 0 (mCons true (eO (oLs (osC (oE (eK (D.str (sL [99, 104, 101, 99, 107])))) (osC (oE (eK (D.str (sL [101, 100, 105, 116, 105, 111, 110])))) (osC (oE (eK (D.str (sL [100, 111, 110, 101])))) (osC (oE (eK (D.str (sL [97])))) (osC (oE (eK (D.str (sL [122, 122])))) (osC (oE (eK (D.str (sL [99, 104, 101, 99, 107, 99, 104, 101, 99, 107, 97, 98])))) osN)))))))) mNil))) sNx) (sRt (oE (eBm "str" false fJoin (eK (D.str (sL []))) (mCons true (eO (oLc (iRg1 (eB false fAdd (eK (D.int (1))) (eO (oIO d_law_any 0 (mCons true (eO (oLs (osC (oE (eK (D.int (0)))) (osC (oE (eK (D.int (0)))) (osC (oE (eK (D.int (1)))) (osC (oE (eK (D.int (2)))) (osC (oE (eK (D.int (4)))) (osC (oE (eK (D.int (11)))) osN)))))))) mNil))))) (gNm 2) mYes (eB false fIx (eV 1) (eO (oIO d_law_draw 0 (mCons true (eK (D.int (26))) mNil)))) [2])) mNil))))))
def d_law_name : Fn := fnD 3 io_law_name m_law_name
abbrev s_law_installation : Stmt := top 43
def io_law_installation : Nat → Bool := fun j => j == 0
def m_law_installation : MS := (sSq (sAs 1 (oLs osN)) (sSq (sFor (iSq DK.isQ (eU1 fSorA (eO (oLc (iRg1 (eO (oIO d_law_any 0 (mCons true (eO (oLs (osC (oE (eK (D.int (0)))) (osC (oE (eK (D.int (1)))) (osC (oE (eK (D.int (1)))) (osC (oE (eK (D.int (2)))) (osC (oE (eK (D.int (2)))) (osC (oE (eK (D.int (3)))) (osC (oE (eK (D.int (3)))) (osC (oE (eK (D.int (4)))) (osC (oE (eK (D.int (4)))) (osC (oE (eK (D.int (5)))) (osC (oE (eK (D.int (6)))) (osC (oE (eK (D.int (60)))) osN)))))))))))))) mNil)))) (gNm 5) mYes (eO (oIO d_law_name 0 mNil)) [5])))) (gNm 2) (sSq (sAs 3 (oLc (iRg1 (eK (D.int (3)))) (gNm 5) mYes (eO (oIO d_law_any 0 (mCons true (eO (oLs (osC (oE (eK (D.int (0)))) (osC (oE (eK (D.int (1)))) (osC (oE (eK (D.int (9)))) (osC (oE (eK (D.int (10)))) (osC (oE (eK (D.int (1000000)))) (osC (oIO d_law_draw 0 (mCons true (eK (D.int (1000001))) mNil)) osN)))))))) mNil))) [5])) (sSq (sAs 4 (oE (eU1 fSorA (eO (oLc (iRg1 (eO (oIO d_law_any 0 (mCons true (eO (oLs (osC (oE (eK (D.int (0)))) (osC (oE (eK (D.int (0)))) (osC (oE (eK (D.int (0)))) (osC (oE (eK (D.int (0)))) (osC (oE (eK (D.int (1)))) (osC (oE (eK (D.int (2)))) (osC (oE (eK (D.int (3)))) (osC (oE (eK (D.int (9)))) osN)))))))))) mNil)))) (gNm 5) mYes (eO (oIO d_law_name 0 mNil)) [5]))))) (sEx (eMu "list" false fApp (eV 1) (mCons true (eTup (mCons true (eV 2) (mCons true (eCB (f1 fTuple) (mCons true (eV 3) mNil)) (mCons true (eCB (f1 fTuple) (mCons true (eV 4) mNil)) mNil)))) mNil)))))) (sRt (oE (eCB (f1 fTuple) (mCons true (eV 1) mNil))))))
def d_law_installation : Fn := fnD 6 io_law_installation m_law_installation
abbrev s_law_unlike : Stmt := top 49
def io_law_unlike : Nat → Bool := fun j => j == 0
def m_law_unlike : MS := (sSq (sIf (tB true fEq (eCB (f1 fLen) (mCons true (eV 1) mNil)) (eK (D.int (0)))) (sRt (oE (eTup (mCons true (eTup (mCons false (eK (D.str (sL [97]))) (mCons false (eTup (mCons true (eK (D.int (0))) (mCons true (eK (D.int (0))) (mCons true (eK (D.int (0))) mNil)))) (mCons true (eTup mNil) mNil)))) mNil)))) sNx) (sSq (sAs 2 (oIO d_law_draw 0 (mCons true (eCB (f1 fLen) (mCons true (eV 1) mNil)) mNil))) (sSq (sTg (eB true fIx (eV 1) (eV 2)) (gTp 3 (gsC (gNm 7) (gsC (gNm 8) (gsC (gNm 9) gsN))))) (sSq (sTg (eTup (mCons false (eO (oIO d_law_draw 0 (mCons true (eK (D.int (3))) mNil))) (mCons true (eO (oIO d_law_any 0 (mCons true (eO (oLs (osC (oE (eK (D.str (sL [122, 122, 122])))) (osC (oE (eK (D.str (sL [99, 104, 101, 99, 107])))) (osC (oE (eK (D.str (sL [97])))) osN))))) mNil))) mNil))) (gTp 2 (gsC (gNm 10) (gsC (gNm 11) gsN)))) (sSq (sAs 3 (oIO d_law_any 0 (mCons true (eO (oLs (osC (oE (eK (D.int (0)))) (osC (oE (eK (D.int (1)))) (osC (oE (eK (D.int (10)))) (osC (oE (eK (D.int (1000000)))) (osC (oE (eB true fDiv (eB true fIx (eV 8) (eV 10)) (eK (D.int (10))))) osN))))))) mNil))) (sSq (sAs 3 (oE (eIf (tB true fEq (eV 3) (eB true fIx (eV 8) (eV 10))) (eB true fMod (eB true fAdd (eV 3) (eK (D.int (1)))) (eK (D.int (1000001)))) (eV 3)))) (sSq (sAs 4 (oE (eB false fAdd (eB false fAdd (eSl fSl (eV 8) pN (pM (eV 10))) (eTup (mCons true (eV 3) mNil))) (eSl fSl (eV 8) (pM (eB true fAdd (eV 10) (eK (D.int (1))))) pN)))) (sSq (sAs 5 (oE (eIf (tB true fNotInA (eV 11) (eV 9)) (eCB (f1 fTuple) (mCons true (eU1 fSorA (eB false fAdd (eV 9) (eTup (mCons true (eV 11) mNil)))) mNil)) (eCB (f1 fTuple) (mCons true (eO (oLc (iSq DK.isQ (eV 9)) (gNm 12) (tB true fNe (eV 12) (eV 11)) (eV 12) [12])) mNil))))) (sSq (sAs 6 (oLs (osC (oE (eTup (mCons true (eV 7) (mCons true (eV 4) (mCons true (eV 9) mNil))))) (osC (oE (eTup (mCons true (eV 7) (mCons true (eV 8) (mCons true (eV 5) mNil))))) (osC (oE (eTup (mCons true (eV 7) (mCons true (eU1 fRev (eV 8)) (mCons true (eV 9) mNil))))) osN))))) (sRt (oIO d_law_any 0 (mCons true (eB false fAdd (eO (oLc (iSq DK.isQ (eV 6)) (gNm 13) mYes (eB false fAdd (eB false fAdd (eSl fSl (eV 1) pN (pM (eV 2))) (eTup (mCons true (eV 13) mNil))) (eSl fSl (eV 1) (pM (eB true fAdd (eV 2) (eK (D.int (1))))) pN)) [13])) (eO (oLs (osC (oE (eB false fAdd (eSl fSl (eV 1) pN (pM (eV 2))) (eSl fSl (eV 1) (pM (eB true fAdd (eV 2) (eK (D.int (1))))) pN))) osN)))) mNil))))))))))))
def d_law_unlike : Fn := fnD 14 io_law_unlike m_law_unlike
abbrev s_version_text : Stmt := top 19
def io_version_text : Nat → Bool := fun j => false
def m_version_text : MS := (sRt (oE (eBm "str" false fJoin (eK (D.str (sL [46]))) (mCons true (eO (oLc (iSq DK.isQ (eV 0)) (gNm 1) mYes (eCB (f1 fStr) (mCons true (eV 1) mNil)) [1])) mNil))))
def d_version_text : Fn := fnD 2 io_version_text m_version_text
abbrev s_triple_text : Stmt := top 25
def io_triple_text : Nat → Bool := fun j => false
def m_triple_text : MS := (sRt (oE (eBm "str" false fJoin (eK (D.str (sL [32]))) (mCons true (eB true fAdd (eTup (mCons false (eB true fIx (eV 0) (eK (D.int (0)))) (mCons true (eO (oCall d_version_text (mCons true (eB true fIx (eV 0) (eK (D.int (1)))) mNil))) mNil))) (eB true fIx (eV 0) (eK (D.int (2))))) mNil))))
def d_triple_text : Fn := fnD 1 io_triple_text m_triple_text
abbrev s_check_of : Stmt := top 24
def io_check_of : Nat → Bool := fun j => false
def m_check_of : MS := (sRt (oE (eB true fMod (eCB (f1 fSum) (mCons true (eO (oLc (iEnTx (mCons true (eV 0) (mCons true (eK (D.int (1))) mNil))) (gTp 2 (gsC (gNm 1) (gsC (gNm 2) gsN))) mYes (eB true fMul (eCB (f1 fOrd) (mCons true (eV 2) mNil)) (eV 1)) [1, 2])) mNil)) (eK k_BY))))
def d_check_of : Fn := fnD 3 io_check_of m_check_of
abbrev s_lock_text : Stmt := top 26
def io_lock_text : Nat → Bool := fun j => false
def m_lock_text : MS := (sSq (sAs 1 (oE (eBm "str" false fJoin (eK (D.str (sL []))) (mCons true (eO (oLc (iSq DK.isQ (eV 0)) (gNm 2) mYes (eB true fAdd (eO (oCall d_triple_text (mCons true (eV 2) mNil))) (eK (D.str (sL [10])))) [2])) mNil)))) (sRt (oE (eB true fAdd (eB false fAdd (eB true fAdd (eV 1) (eK k_CHECK)) (eCB (f1 fStr) (mCons true (eO (oCall d_check_of (mCons true (eV 1) mNil))) mNil))) (eK (D.str (sL [10])))))))
def d_lock_text : Fn := fnD 3 io_lock_text m_lock_text
abbrev s_law_line : Stmt := top 45
def io_law_line : Nat → Bool := fun j => false
def m_law_line : MS := (sSq (sTg (eV 0) (gTp 3 (gsC (gNm 2) (gsC (gNm 3) (gsC (gNm 4) gsN))))) (sSq (sAs 1 (oE (eB true fAdd (eB true fAdd (eB true fAdd (eB true fAdd (eB true fAdd (eB true fAdd (eV 2) (eK (D.str (sL [32])))) (eCB (f1 fStr) (mCons true (eB true fIx (eV 3) (eK (D.int (0)))) mNil))) (eK (D.str (sL [46])))) (eCB (f1 fStr) (mCons true (eB true fIx (eV 3) (eK (D.int (1)))) mNil))) (eK (D.str (sL [46])))) (eCB (f1 fStr) (mCons true (eB true fIx (eV 3) (eK (D.int (2)))) mNil))))) (sRt (oE (eB true fAdd (eB false fAdd (eV 1) (eBm "str" false fJoin (eK (D.str (sL []))) (mCons true (eO (oLc (iSq DK.isQ (eV 4)) (gNm 5) mYes (eB true fAdd (eK (D.str (sL [32]))) (eV 5)) [5])) mNil))) (eK (D.str (sL [10]))))))))
def d_law_line : Fn := fnD 6 io_law_line m_law_line
abbrev s_law_check : Stmt := top 44
def io_law_check : Nat → Bool := fun j => false
def m_law_check : MS := (sSq (sTg (eTup (mCons true (eK (D.int (0))) (mCons true (eK (D.int (0))) mNil))) (gTp 2 (gsC (gNm 2) (gsC (gNm 3) gsN)))) (sSq (sFor (iSt (eU1 fRevS (eV 0))) (gNm 1) (sSq (sAs 2 (oE (eB true fAdd (eV 2) (eCB (f1 fOrd) (mCons true (eV 1) mNil))))) (sAs 3 (oE (eB true fAdd (eV 3) (eV 2)))))) (sRt (oE (eB true fMod (eCB (f1 fInt) (mCons true (eV 3) mNil)) (eK (D.int (99991))))))))
def d_law_check : Fn := fnD 4 io_law_check m_law_check
abbrev s_law_text : Stmt := top 46
def io_law_text : Nat → Bool := fun j => false
def m_law_text : MS := (sSq (sAs 1 (oE (eBm "str" false fJoin (eK (D.str (sL []))) (mCons true (eO (oLc (iSq DK.isQ (eV 0)) (gNm 2) mYes (eO (oCall d_law_line (mCons true (eV 2) mNil))) [2])) mNil)))) (sRt (oE (eB true fAdd (eB false fAdd (eB true fAdd (eV 1) (eK (D.str (sL [99, 104, 101, 99, 107, 32])))) (eCB (f1 fStr) (mCons true (eO (oCall d_law_check (mCons true (eV 1) mNil))) mNil))) (eK (D.str (sL [10])))))))
def d_law_text : Fn := fnD 3 io_law_text m_law_text
abbrev s_is_name : Stmt := top 10
def io_is_name : Nat → Bool := fun j => false
def m_is_name : MS := (sRt (oE (eAnd (eIsi .str (eV 0)) (eAnd (eCh true true fLe fLe (eK (D.int (1))) (eCB (f1 fLen) (mCons true (eV 0) mNil)) (eK k_MOST_SIGNS)) (eCB (f1 fAll) (mCons true (eO (oLc (iSt (eV 0)) (gNm 1) mYes (eB true fInA (eV 1) (eK k_SMALL)) [1])) mNil))))))
def d_is_name : Fn := fnD 2 io_is_name m_is_name
abbrev s_number_told : Stmt := top 13
def io_number_told : Nat → Bool := fun j => false
def m_number_told : MS := (sSq (sIf (tOrM (tNotM (tBx (eCh true true fLe fLe (eK (D.int (1))) (eCB (f1 fLen) (mCons true (eV 0) mNil)) (eK k_MOST_SIGNS)))) (tNotM (tM (eCB (f1 fAll) (mCons true (eO (oLc (iSt (eV 0)) (gNm 2) mYes (eB true fInA (eV 2) (eK k_FIGURES)) [2])) mNil))))) (sRt (oE (eK D.non))) sNx) (sSq (sIf (tOrM (tAndM (tB true fEq (eB true fIx (eV 0) (eK (D.int (0)))) (eK (D.str (sL [48])))) (tB true fNe (eV 0) (eK (D.str (sL [48]))))) (tB true fGt (eCB (f1 fIntA) (mCons true (eV 0) mNil)) (eV 1))) (sRt (oE (eK D.non))) sNx) (sRt (oE (eCB (f1 fIntA) (mCons true (eV 0) mNil))))))
def d_number_told : Fn := fnD 3 io_number_told m_number_told
abbrev s_version_told : Stmt := top 20
def io_version_told : Nat → Bool := fun j => false
def m_version_told : MS := (sSq (sAs 1 (oE (eCB (f1 fTuple) (mCons true (eO (oLc (iSq DK.isQ (eBm "str" true fSplit (eV 0) (mCons true (eK (D.str (sL [46]))) mNil))) (gNm 2) mYes (eO (oCall d_number_told (mCons true (eV 2) (mCons true (eK k_GREATEST) mNil)))) [2])) mNil)))) (sRt (oE (eIf (tAndM (tB true fEq (eCB (f1 fLen) (mCons true (eV 1) mNil)) (eK (D.int (3)))) (tB true fNotInA (eK D.non) (eV 1))) (eV 1) (eK D.non)))))
def d_version_told : Fn := fnD 3 io_version_told m_version_told
abbrev s_is_rising : Stmt := top 11
def io_is_rising : Nat → Bool := fun j => false
def m_is_rising : MS := (sRt (oE (eCB (f1 fAll) (mCons true (eO (oLc (iRg1 (eB true fSub (eCB (f1 fLen) (mCons true (eV 0) mNil)) (eK (D.int (1))))) (gNm 1) mYes (eB true fLt (eB true fIx (eV 0) (eV 1)) (eB true fIx (eV 0) (eB true fAdd (eV 1) (eK (D.int (1)))))) [1])) mNil))))
def d_is_rising : Fn := fnD 2 io_is_rising m_is_rising
abbrev s_triple_told : Stmt := top 27
def io_triple_told : Nat → Bool := fun j => false
def m_triple_told : MS := (sSq (sAs 1 (oE (eBm "str" true fSplit (eV 0) (mCons true (eK (D.str (sL [32]))) mNil)))) (sSq (sIf (tOrM (tB true fLt (eCB (f1 fLen) (mCons true (eV 1) mNil)) (eK (D.int (2)))) (tNotM (tM (eO (oCall d_is_name (mCons true (eB true fIx (eV 1) (eK (D.int (0)))) mNil)))))) (sRt (oE (eK D.non))) sNx) (sSq (sPar 2 3 (osC (oCall d_version_told (mCons true (eB true fIx (eV 1) (eK (D.int (1)))) mNil)) (osC (oE (eCB (f1 fTuple) (mCons true (eSl fSl (eV 1) (pM (eK (D.int (2)))) pN) mNil))) osN))) (sSq (sIf (tOrM (tB true fIs (eV 2) (eK D.non)) (tOrM (tNotM (tM (eCB (f1 fAll) (mCons true (eO (oLc (iSq DK.isQ (eV 3)) (gNm 4) mYes (eO (oCall d_is_name (mCons true (eV 4) mNil))) [4])) mNil)))) (tNotM (tM (eO (oCall d_is_rising (mCons true (eV 3) mNil))))))) (sRt (oE (eK D.non))) sNx) (sRt (oE (eTup (mCons true (eB true fIx (eV 1) (eK (D.int (0)))) (mCons true (eV 2) (mCons true (eV 3) mNil))))))))))
def d_triple_told : Fn := fnD 5 io_triple_told m_triple_told
abbrev s_ended : Stmt := top 29
def io_ended : Nat → Bool := fun j => false
def m_ended : MS := (sSq (sIf (tOrM (tB true fNe (eSl fSl (eV 2) pN (pM (eCB (f1 fLen) (mCons true (eK k_CHECK) mNil)))) (eK k_CHECK)) (tB false fNe (eO (oCall d_number_told (mCons true (eSl fSl (eV 2) (pM (eCB (f1 fLen) (mCons true (eK k_CHECK) mNil))) pN) (mCons true (eK k_BY) mNil)))) (eO (oCall d_check_of (mCons true (eV 3) mNil))))) sNo sNx) (sSq (sIf (tOrM (tB true fLt (eB true fAdd (eV 1) (eK (D.int (2)))) (eCB (f1 fLen) (mCons true (eV 0) mNil))) (tB true fNe (eB true fIx (eV 0) (eU1 fNeg (eK (D.int (1))))) (eK (D.str (sL []))))) sNo sNx) (sRt (oE (eCB (f1 fTuple) (mCons true (eV 4) mNil))))))
def d_ended : Fn := fnD 5 io_ended m_ended
abbrev s_read_lock : Stmt := top 28
def io_read_lock : Nat → Bool := fun j => false
def m_read_lock : MS := (sSq (sIf (tNotM (tM (eIsi .str (eV 0)))) sNo sNx) (sSq (sAs 1 (oE (eBm "str" true fSplit (eV 0) (mCons true (eK (D.str (sL [10]))) mNil)))) (sSq (sAs 2 (oLs osN)) (sSq (sAs 3 (oE (eK (D.str (sL []))))) (sSq (sFor (iEn (eSl fSl (eV 1) pN (pM (eU1 fNeg (eK (D.int (1))))))) (gTp 2 (gsC (gNm 4) (gsC (gNm 5) gsN))) (sSq (sAs 6 (oCall d_triple_told (mCons true (eV 5) mNil))) (sSq (sIf (tB true fIs (eV 6) (eK D.non)) (sRt (oCall d_ended (mCons true (eV 1) (mCons true (eV 4) (mCons true (eV 5) (mCons true (eV 3) (mCons true (eV 2) mNil))))))) sNx) (sSq (sIf (tAndM (tB true fGt (eCB (f1 fLen) (mCons true (eV 2) mNil)) (eK (D.int (0)))) (tNotM (tB true fLt (eB true fIx (eB true fIx (eV 2) (eU1 fNeg (eK (D.int (1))))) (eK (D.int (0)))) (eB true fIx (eV 6) (eK (D.int (0))))))) sNo sNx) (sSq (sEx (eMu "list" true fApp (eV 2) (mCons true (eV 6) mNil))) (sAug 3 fAddIA (eB true fAdd (eV 5) (eK (D.str (sL [10])))))))))) sNo)))))
def d_read_lock : Fn := fnD 7 io_read_lock m_read_lock
abbrev s_law_is_triple : Stmt := top 47
def io_law_is_triple : Nat → Bool := fun j => false
def m_law_is_triple : MS := (sSq (sIf (tOrM (tNotM (tM (eIsi .tup (eV 0)))) (tOrM (tB true fNe (eCB (f1 fLen) (mCons true (eV 0) mNil)) (eK (D.int (3)))) (tNotM (tM (eIsi .str (eB true fIx (eV 0) (eK (D.int (0))))))))) (sRt (oE (eK (D.bl false)))) sNx) (sSq (sIf (tOrM (tNotM (tM (eIsi .tup (eB true fIx (eV 0) (eK (D.int (1))))))) (tOrM (tB true fNe (eCB (f1 fLen) (mCons true (eB true fIx (eV 0) (eK (D.int (1)))) mNil)) (eK (D.int (3)))) (tNotM (tM (eIsi .tup (eB true fIx (eV 0) (eK (D.int (2))))))))) (sRt (oE (eK (D.bl false)))) sNx) (sSq (sIf (tNotM (tM (eCB (f1 fAll) (mCons true (eO (oLc (iSq DK.isQ (eB true fIx (eV 0) (eK (D.int (1))))) (gNm 2) mYes (eAnd (eIsi .int (eV 2)) (eNot (eIsi .bl (eV 2)))) [2])) mNil)))) (sRt (oE (eK (D.bl false)))) sNx) (sRt (oE (eCB (f1 fAll) (mCons true (eO (oLc (iSq DK.isQ (eB true fIx (eV 0) (eK (D.int (2))))) (gNm 1) mYes (eIsi .str (eV 1)) [1])) mNil)))))))
def d_law_is_triple : Fn := fnD 3 io_law_is_triple m_law_is_triple
abbrev s_locks_of : Stmt := top 30
def io_locks_of : Nat → Bool := fun j => false
def m_locks_of : MS := (sRt (oE (eCB (f1 fTuple) (mCons true (eO (oLc (iSq DK.isQ (eV 0)) (gTp 3 (gsC (gNm 1) (gsC (gNm 2) (gsC (gNm 3) gsN)))) mYes (eTup (mCons true (eV 1) (mCons true (eV 2) mNil))) [1, 2, 3])) mNil))))
def d_locks_of : Fn := fnD 4 io_locks_of m_locks_of
abbrev s_is_integer : Stmt := top 8
def io_is_integer : Nat → Bool := fun j => false
def m_is_integer : MS := (sRt (oE (eAnd (eIsi .int (eV 0)) (eNot (eIsi .bl (eV 0))))))
def d_is_integer : Fn := fnD 1 io_is_integer m_is_integer
abbrev s_is_within : Stmt := top 9
def io_is_within : Nat → Bool := fun j => false
def m_is_within : MS := (sRt (oE (eAnd (eO (oCall d_is_integer (mCons true (eV 0) mNil))) (eCh true true fLe fLe (eV 1) (eV 0) (eV 2)))))
def d_is_within : Fn := fnD 3 io_is_within m_is_within
abbrev s_is_version : Stmt := top 16
def io_is_version : Nat → Bool := fun j => false
def m_is_version : MS := (sRt (oE (eAnd (eIsi .tup (eV 0)) (eAnd (eB true fEq (eCB (f1 fLen) (mCons true (eV 0) mNil)) (eK (D.int (3)))) (eCB (f1 fAll) (mCons true (eO (oLc (iSq DK.isQ (eV 0)) (gNm 1) mYes (eO (oCall d_is_within (mCons true (eV 1) (mCons true (eK (D.int (0))) (mCons true (eK k_GREATEST) mNil))))) [1])) mNil))))))
def d_is_version : Fn := fnD 2 io_is_version m_is_version
abbrev s_is_stretch : Stmt := top 17
def io_is_stretch : Nat → Bool := fun j => false
def m_is_stretch : MS := (sSq (sIf (tOrM (tNotM (tM (eIsi .tup (eV 0)))) (tOrM (tB true fNe (eCB (f1 fLen) (mCons true (eV 0) mNil)) (eK (D.int (2)))) (tNotM (tM (eO (oCall d_is_version (mCons true (eB true fIx (eV 0) (eK (D.int (0)))) mNil))))))) (sRt (oE (eK (D.bl false)))) sNx) (sRt (oE (eOr (eB true fIs (eB true fIx (eV 0) (eK (D.int (1)))) (eK D.non)) (eAnd (eO (oCall d_is_version (mCons true (eB true fIx (eV 0) (eK (D.int (1)))) mNil))) (eB true fLt (eB true fIx (eV 0) (eK (D.int (0)))) (eB true fIx (eV 0) (eK (D.int (1))))))))))
def d_is_stretch : Fn := fnD 1 io_is_stretch m_is_stretch
abbrev s_is_range : Stmt := top 18
def io_is_range : Nat → Bool := fun j => false
def m_is_range : MS := (sSq (sIf (tOrM (tNotM (tM (eIsi .tup (eV 0)))) (tNotM (tM (eCB (f1 fAll) (mCons true (eO (oLc (iSq DK.isQ (eV 0)) (gNm 2) mYes (eO (oCall d_is_stretch (mCons true (eV 2) mNil))) [2])) mNil))))) (sRt (oE (eK (D.bl false)))) sNx) (sSq (sFor (iRg1 (eB true fSub (eCB (f1 fLen) (mCons true (eV 0) mNil)) (eK (D.int (1))))) (gNm 1) (sIf (tOrM (tB true fIs (eB true fIx (eB true fIx (eV 0) (eV 1)) (eK (D.int (1)))) (eK D.non)) (tNotM (tB true fLt (eB true fIx (eB true fIx (eV 0) (eV 1)) (eK (D.int (1)))) (eB true fIx (eB true fIx (eV 0) (eB true fAdd (eV 1) (eK (D.int (1))))) (eK (D.int (0))))))) (sRt (oE (eK (D.bl false)))) sNx)) (sRt (oE (eK (D.bl true))))))
def d_is_range : Fn := fnD 3 io_is_range m_is_range
abbrev s_is_lot_of_names : Stmt := top 12
def io_is_lot_of_names : Nat → Bool := fun j => false
def m_is_lot_of_names : MS := (sSq (sIf (tOrM (tNotM (tM (eIsi .tup (eV 0)))) (tOrM (tB true fGt (eCB (f1 fLen) (mCons true (eV 0) mNil)) (eV 1)) (tNotM (tM (eCB (f1 fAll) (mCons true (eO (oLc (iSq DK.isQ (eV 0)) (gNm 2) mYes (eO (oCall d_is_name (mCons true (eV 2) mNil))) [2])) mNil)))))) (sRt (oE (eK (D.bl false)))) sNx) (sRt (oCall d_is_rising (mCons true (eV 0) mNil))))
def d_is_lot_of_names : Fn := fnD 3 io_is_lot_of_names m_is_lot_of_names
abbrev s_is_wish : Stmt := top 35
def io_is_wish : Nat → Bool := fun j => false
def m_is_wish : MS := (sSq (sIf (tOrM (tNotM (tM (eIsi .tup (eV 0)))) (tOrM (tB true fNe (eCB (f1 fLen) (mCons true (eV 0) mNil)) (eK (D.int (3)))) (tNotM (tM (eO (oCall d_is_name (mCons true (eB true fIx (eV 0) (eK (D.int (0)))) mNil))))))) (sRt (oE (eK (D.bl false)))) sNx) (sRt (oE (eAnd (eO (oCall d_is_range (mCons true (eB true fIx (eV 0) (eK (D.int (1)))) mNil))) (eO (oCall d_is_lot_of_names (mCons true (eB true fIx (eV 0) (eK (D.int (2)))) (mCons true (eK k_MOST_WANTED) mNil))))))))
def d_is_wish : Fn := fnD 1 io_is_wish m_is_wish
abbrev s_are_locks : Stmt := top 36
def io_are_locks : Nat → Bool := fun j => false
def m_are_locks : MS := (sSq (sIf (tOrM (tNotM (tM (eIsi .tup (eV 0)))) (tB true fGt (eCB (f1 fLen) (mCons true (eV 0) mNil)) (eK k_MOST_LOCKS))) (sRt (oE (eK (D.bl false)))) sNx) (sSq (sIf (tNotM (tM (eCB (f1 fAll) (mCons true (eO (oLc (iSq DK.isQ (eV 0)) (gNm 1) mYes (eAnd (eIsi .tup (eV 1)) (eAnd (eB true fEq (eCB (f1 fLen) (mCons true (eV 1) mNil)) (eK (D.int (2)))) (eO (oCall d_is_name (mCons true (eB true fIx (eV 1) (eK (D.int (0)))) mNil))))) [1])) mNil)))) (sRt (oE (eK (D.bl false)))) sNx) (sRt (oE (eAnd (eCB (f1 fAll) (mCons true (eO (oLc (iSq DK.isQ (eV 0)) (gNm 1) mYes (eO (oCall d_is_version (mCons true (eB true fIx (eV 1) (eK (D.int (1)))) mNil))) [1])) mNil)) (eO (oCall d_is_rising (mCons true (eO (oLc (iSq DK.isQ (eV 0)) (gNm 1) mYes (eB true fIx (eV 1) (eK (D.int (0)))) [1])) mNil))))))))
def d_are_locks : Fn := fnD 2 io_are_locks m_are_locks
abbrev s_Question : Stmt := (match top 37 with | .ClassDef _ _ _ b _ _ _ _ _ _ _ => b.getD 0 (.Pass ⟨0, 0, 0, 0⟩) | _ => .Pass ⟨0, 0, 0, 0⟩)
def io_Question : Nat → Bool := fun j => j == 0
def m_Question : MS := (sSq (sIf (tOrM (tNotM (tM (eIsi .tup (eV 1)))) (tB true fGt (eCB (f1 fLen) (mCons true (eV 1) mNil)) (eK k_MOST_WISHES))) sNo sNx) (sSq (sFor (iEn (eV 1)) (gTp 2 (gsC (gNm 3) (gsC (gNm 4) gsN))) (sIf (tNotM (tM (eO (oCall d_is_wish (mCons true (eV 4) mNil))))) sNo sNx)) (sSq (sIf (tNotM (tM (eO (oCall d_are_locks (mCons true (eV 2) mNil))))) sNo sNx) (sSq (sFl fi_wishes "wishes" (eV 1) (eV 0)) (sFl fi_locks "locks" (eV 2) (eV 0))))))
def d_Question : Fn := fnD 5 io_Question m_Question
abbrev s_law_is_right : Stmt := top 48
def io_law_is_right : Nat → Bool := fun j => false
def m_law_is_right : MS := (sSq (sAs 1 (oCall d_lock_text (mCons true (eV 0) mNil))) (sSq (sIf (tOrM (tNotM (tM (eIsi .str (eV 1)))) (tB false fNe (eV 1) (eO (oCall d_law_text (mCons true (eV 0) mNil))))) (sRt (oE (eK (D.bl false)))) sNx) (sSq (sAs 2 (oCall d_read_lock (mCons true (eV 1) mNil))) (sSq (sIf (tOrM (tNotM (tM (eIsi .tup (eV 2)))) (tOrM (tNotM (tM (eCB (f1 fAll) (mCons true (eO (oLc (iSq DK.isQ (eV 2)) (gNm 5) mYes (eO (oCall d_law_is_triple (mCons true (eV 5) mNil))) [5])) mNil)))) (tB true fNe (eV 2) (eV 0)))) (sRt (oE (eK (D.bl false)))) sNx) (sSq (sAs 3 (oCall d_locks_of (mCons true (eV 0) mNil))) (sSq (sAs 4 (oE (eCB (f1 fTuple) (mCons true (eO (oLc (iSq DK.isQ (eV 0)) (gNm 5) mYes (eTup (mCons true (eB true fIx (eV 5) (eK (D.int (0)))) (mCons true (eB true fIx (eV 5) (eK (D.int (1)))) mNil))) [5])) mNil)))) (sSq (sIf (tOrM (tNotM (tM (eIsi .tup (eV 3)))) (tOrM (tNotM (tM (eCB (f1 fAll) (mCons true (eO (oLc (iSq DK.isQ (eV 3)) (gNm 6) mYes (eIsi .tup (eV 6)) [6])) mNil)))) (tB true fNe (eV 3) (eV 4)))) (sRt (oE (eK (D.bl false)))) sNx) (sRt (oE (eOr (eB true fGt (eCB (f1 fLen) (mCons true (eV 3) mNil)) (eK (D.int (40)))) (eB true fEq (eFl fi_locks "locks" (eO (oNew "Question" d_Question (mCons true (eTup mNil) (mCons true (eV 3) mNil))))) (eV 4))))))))))))
def d_law_is_right : Fn := fnD 7 io_law_is_right m_law_is_right
abbrev s_law : Stmt := top 50
def io_law : Nat → Bool := fun j => false
def m_law : MS := (sSq (sAs 1 (oCall d_law_hand (mCons true (eV 0) mNil))) (sSq (sFor (iRg1 (eK (D.int (2)))) (gNm 2) (sSq (sAs 3 (oIO d_law_installation 1 mNil)) (sSq (sAs 4 (oIO d_law_unlike 1 (mCons true (eV 3) mNil))) (sSq (sIf (tOrM (tNotM (tM (eO (oCall d_law_is_right (mCons true (eV 3) mNil))))) (tNotM (tM (eO (oCall d_law_is_right (mCons true (eV 4) mNil)))))) (sRt (oE (eK (D.bl false)))) sNx) (sIf (tB true fNe (eB false fEq (eO (oCall d_lock_text (mCons true (eV 3) mNil))) (eO (oCall d_lock_text (mCons true (eV 4) mNil)))) (eB true fEq (eV 3) (eV 4))) (sRt (oE (eK (D.bl false)))) sNx))))) (sRt (oE (eK (D.bl true))))))
def d_law : Fn := fnD 5 io_law m_law
theorem sc_law_hand : FnScope ["script", "cells", "cell"] ["script"] (defScope s_law_hand) := ⟨rfl, rfl, rfl, by decide +kernel, rfl, by decide +kernel, by decide +kernel⟩
theorem ok_law_hand {P : Program} {w : World} {K : PySem.W.Frag} {mg : Str → Option Value} {base : Heap} (F : IsDef K mg "_law_hand" s_law_hand) (n_int : mg "int" = none) (n_abs : mg "abs" = none) (n_len : mg "len" = none) : Def P w K mg base 1 "_law_hand" 1 d_law_hand :=
  def_ok F sc_law_hand rfl (fun _ _ _ _ _ _ _ us hl => match us, hl with | [_], _ => rfl) fun f cdv A outer s H E hr => (b_cons (s_asgLc (p := true) (q := true) (js := [2]) (own := [("cell", 2)]) (i := 1) rfl sc_law_hand.nd rfl rfl (sw_true rfl rfl rfl (by decide +kernel)) (i_seq (p := false) (z_sl (p := true) (c_v 0) o_none (o_some (p := true) c_int))) (blkOk_by (own := [("cell", 2)]) (N := ["script", "cells", "cell"]) (sc := defScope s_law_hand) (by decide +kernel)) (fun _ _ _ _ _ => (g_nm (i := 2) sc_law_hand.nd)) (fun _ _ _ _ _ => (ts_nil (p := true))) (fun _ _ _ _ _ => (z_cb (p := true) p_abs n_abs PyProof.Rows.boot_abs (a_cons (p := true) (q := true) (z_ct (p := true) p_int n_int PyProof.Rows.boot_int (a_cons (p := true) (q := true) (c_v 2) a_nil)) a_nil)))) (b_one (s_ret (o_dicF (ks := [(Sum.inr (sL [99, 101, 108, 108, 115])), (Sum.inr (sL [97, 116])), (Sum.inr (sL [108, 101, 102, 116])), (Sum.inr (sL [115, 101, 101, 100])), (Sum.inr (sL [116, 117, 114, 110]))]) (vms := [(true, (eV 1)), (true, (eK (D.int (0)))), (true, (eK (D.int (0)))), (true, (eB true fAdd (eK (D.int (40961))) (eCB (f1 fLen) (mCons true (eV 1) mNil)))), (true, (eK (D.int (0))))]) (pps_cons c_str (c_v 1) (pps_cons c_str c_int (pps_cons c_str c_int (pps_cons c_str (z_op (p := true) (q := true) p_add c_int (z_cb (p := true) p_len n_len PySem.boot_len (a_cons (p := true) (q := true) (c_v 1) a_nil))) (pps_cons c_str c_int pps_nil)))))))))
theorem sc_law_draw : FnScope ["hand", "many", "number", "cell", "digit"] ["hand", "many"] (defScope s_law_draw) := ⟨rfl, rfl, rfl, by decide +kernel, rfl, by decide +kernel, by decide +kernel⟩
theorem ok_law_draw {P : Program} {w : World} {K : PySem.W.Frag} {mg : Str → Option Value} {base : Heap} (F : IsDef K mg "_law_draw" s_law_draw) (n_len : mg "len" = none) (n_int : mg "int" = none) : Def P w K mg base 1 "_law_draw" 2 d_law_draw :=
  def_ok F sc_law_draw rfl (fun _ _ _ _ _ _ _ us hl => match us, hl with | [_, _], _ => rfl) fun f cdv A outer s H E hr => (b_cons (s_if (p := true) (PW.pt (w_and (p := true) (q := true) (y_cmp (p := true) (q := true) (p_eq hr.units) (z_ixd (p := true) (q := true) (u1 hr) (c_v 0) c_str) c_int) (w_and1 (y_cmp (p := true) (q := true) (p_lt (u0 hr)) (z_ixd (p := true) (q := true) (u1 hr) (c_v 0) c_str) (z_cb (p := true) p_len n_len PySem.boot_len (a_cons (p := true) (q := true) (z_ixd (p := true) (q := true) (u1 hr) (c_v 0) c_str) a_nil)))))) (b_cons (s_asg (i := 3) sc_law_draw.nd (o_of_e (p := true) (z_ix (p := true) (q := true) (z_ixd (p := true) (q := true) (u1 hr) (c_v 0) c_str) (z_ixd (p := true) (q := true) (u1 hr) (c_v 0) c_str)))) (b_cons (s_sub (r1 := true) (p := true) (q := true) (set_dict (u1 hr)) m_setD (z_op (p := true) (q := true) p_add (z_ixd (p := true) (q := true) (u1 hr) (c_v 0) c_str) c_int) (c_v 0) c_str) (b_cons (s_sub (r1 := true) (p := true) (q := true) (set_dict (u1 hr)) m_setD (z_op (p := true) (q := true) p_mod (z_ct (p := true) p_int n_int PyProof.Rows.boot_int (a_cons (p := true) (q := true) (z_op (p := true) (q := true) p_add (z_op (p := true) (q := true) p_add (z_op (p := true) (q := true) p_mul (z_ixd (p := true) (q := true) (u1 hr) (c_v 0) c_str) c_int) (c_v 3)) c_int) a_nil)) c_int) (c_v 0) c_str) (b_one (s_sub (r1 := true) (p := true) (q := true) (set_dict (u1 hr)) m_setD (c_if (p := true) (q := true) (r := true) (y_cmp (p := true) (q := true) p_geA (c_v 3) (z_op (p := true) (q := true) p_pow c_int c_int)) (c_v 3) c_int) (c_v 0) c_str))))) b_nil) (b_cons (s_if (p := true) (y_cmp (p := true) (q := true) p_gt (z_ixd (p := true) (q := true) (u1 hr) (c_v 0) c_str) c_int) (b_cons (s_asg (i := 4) sc_law_draw.nd (o_of_e (p := true) (z_op (p := true) (q := true) p_mod (z_ct (p := true) p_int n_int PyProof.Rows.boot_int (a_cons (p := true) (q := true) (z_ixd (p := true) (q := true) (u1 hr) (c_v 0) c_str) a_nil)) (c_v 1)))) (b_cons (s_sub (r1 := true) (p := true) (q := true) (set_dict (u1 hr)) m_setD (z_op (p := true) (q := true) p_div (z_ixd (p := true) (q := true) (u1 hr) (c_v 0) c_str) (c_v 1)) (c_v 0) c_str) (b_one (s_ret (o_v 4))))) b_nil) (b_cons (s_sub (r1 := true) (p := true) (q := true) (set_dict (u1 hr)) m_setD (z_op (p := true) (q := true) p_add (z_ixd (p := true) (q := true) (u1 hr) (c_v 0) c_str) c_int) (c_v 0) c_str) (b_cons (s_asg (i := 2) sc_law_draw.nd (o_of_e (p := true) (z_op (p := true) (q := true) p_mod (z_ct (p := true) p_int n_int PyProof.Rows.boot_int (a_cons (p := true) (q := true) (z_op (p := true) (q := true) p_mul (z_ct (p := true) p_int n_int PyProof.Rows.boot_int (a_cons (p := true) (q := true) (z_op (p := true) (q := true) p_add (z_ixd (p := true) (q := true) (u1 hr) (c_v 0) c_str) (z_op (p := true) (q := true) p_mul c_int (z_ixd (p := true) (q := true) (u1 hr) (c_v 0) c_str))) a_nil)) c_int) a_nil)) c_int))) (b_cons (s_asg (i := 2) sc_law_draw.nd (o_of_e (p := true) (z_op (p := true) (q := true) p_mod (z_ct (p := true) p_int n_int PyProof.Rows.boot_int (a_cons (p := true) (q := true) (z_op (p := true) (q := true) p_mul (c_v 2) (z_op (p := true) (q := true) p_add (z_op (p := true) (q := true) p_div (c_v 2) c_int) c_int)) a_nil)) c_int))) (b_cons (s_asg (i := 2) sc_law_draw.nd (o_of_e (p := true) (z_op (p := true) (q := true) p_mod (z_ct (p := true) p_int n_int PyProof.Rows.boot_int (a_cons (p := true) (q := true) (z_op (p := true) (q := true) p_add (z_op (p := true) (q := true) p_mul (c_v 2) (z_op (p := true) (q := true) p_add (z_op (p := true) (q := true) p_div (c_v 2) c_int) c_int)) (z_ixd (p := true) (q := true) (u1 hr) (c_v 0) c_str)) a_nil)) c_int))) (b_one (s_ret (o_of_e (p := true) (z_op (p := true) (q := true) p_mod (z_ct (p := true) p_int n_int PyProof.Rows.boot_int (a_cons (p := true) (q := true) (z_op (p := true) (q := true) p_div (c_v 2) c_int) a_nil)) (c_v 1)))))))))))
theorem sc_law_any : FnScope ["hand", "things"] ["hand", "things"] (defScope s_law_any) := ⟨rfl, rfl, rfl, by decide +kernel, rfl, by decide +kernel, by decide +kernel⟩
theorem ok_law_any {P : Program} {w : World} {K : PySem.W.Frag} {mg : Str → Option Value} {base : Heap} (F : IsDef K mg "_law_any" s_law_any) (h_law_draw : Def P w K mg base 1 "_law_draw" 2 d_law_draw) (n_len : mg "len" = none) : Def P w K mg base 2 "_law_any" 2 d_law_any :=
  def_ok F sc_law_any rfl (fun _ _ _ _ _ _ _ us hl => match us, hl with | [_, _], _ => rfl) fun f cdv A outer s H E hr => (b_one (s_ret (o_of_e (p := false) (z_ix (p := true) (q := false) (c_v 1) (e_of_o (c_io (p := true) 0 h_law_draw hr (a_cons (p := true) (q := true) (z_cb (p := true) p_len n_len PySem.boot_len (a_cons (p := true) (q := true) (c_v 1) a_nil)) a_nil) (ln_io (ln_cons ln_nil))))))))
theorem sc_law_name : FnScope ["hand", "letters", "k"] ["hand"] (defScope s_law_name) := ⟨rfl, rfl, rfl, by decide +kernel, rfl, by decide +kernel, by decide +kernel⟩
theorem ok_law_name {P : Program} {w : World} {K : PySem.W.Frag} {mg : Str → Option Value} {base : Heap} (F : IsDef K mg "_law_name" s_law_name) (h_law_draw : Def P w K mg base 1 "_law_draw" 2 d_law_draw) (h_law_any : Def P w K mg base 2 "_law_any" 2 d_law_any) (n_range : mg "range" = none) : Def P w K mg base 3 "_law_name" 1 d_law_name :=
  def_ok F sc_law_name rfl (fun _ _ _ _ _ _ _ us hl => match us, hl with | [_], _ => rfl) fun f cdv A outer s H E hr => (b_cons (s_asg (i := 1) sc_law_name.nd (o_of_e (p := true) c_str)) (b_cons (s_if (p := false) (y_cmp (p := false) (q := true) (p_eq hr.units) (e_of_o (c_io (p := true) 0 h_law_draw hr (a_cons (p := true) (q := true) c_int a_nil) (ln_io (ln_cons ln_nil)))) c_int) (b_one (s_ret (c_io (p := false) 0 h_law_any hr (a_cons (p := false) (q := true) (e_of_o (o_ls (os_cons (o_of_e (p := true) c_str) (os_cons (o_of_e (p := true) c_str) (os_cons (o_of_e (p := true) c_str) (os_cons (o_of_e (p := true) c_str) (os_cons (o_of_e (p := true) c_str) (os_cons (o_of_e (p := true) c_str) os_nil)))))))) a_nil) (ln_io (ln_cons ln_nil))))) b_nil) (b_one (s_ret (o_of_e (p := false) (c_bm (p := true) (q := false) PySem.F.plainAttrs_str PySem.F.slot_str_join PySem.F.type_str_join p_join c_str (a_cons (p := false) (q := true) (e_of_o (o_lc (p := true) (q := false) (js := [2]) (own := [("k", 2)]) rfl sc_law_name.nd (i_rg1 (p := false) n_range (z_op (p := true) (q := false) p_add c_int (e_of_o (c_io (p := false) 0 h_law_any hr (a_cons (p := false) (q := true) (e_of_o (o_ls (os_cons (o_of_e (p := true) c_int) (os_cons (o_of_e (p := true) c_int) (os_cons (o_of_e (p := true) c_int) (os_cons (o_of_e (p := true) c_int) (os_cons (o_of_e (p := true) c_int) (os_cons (o_of_e (p := true) c_int) os_nil)))))))) a_nil) (ln_io (ln_cons ln_nil)))))) (blkOk_by (own := [("k", 2)]) (N := ["hand", "letters", "k"]) (sc := defScope s_law_name) (by decide +kernel)) (fun _ _ _ _ _ => (g_nm (i := 2) sc_law_name.nd)) (fun _ _ _ _ _ => (ts_nil (p := true))) (fun _ _ _ _ _ => (z_ix (p := true) (q := false) (c_v 1) (e_of_o (c_io (p := true) 0 h_law_draw hr (a_cons (p := true) (q := true) c_int a_nil) (ln_io (ln_cons ln_nil)))))))) a_nil)))))))
theorem sc_law_installation : FnScope ["hand", "found", "name", "numbers", "features", "k"] ["hand"] (defScope s_law_installation) := ⟨rfl, rfl, rfl, by decide +kernel, rfl, by decide +kernel, by decide +kernel⟩
theorem ok_law_installation {P : Program} {w : World} {K : PySem.W.Frag} {mg : Str → Option Value} {base : Heap} (F : IsDef K mg "_law_installation" s_law_installation) (h_law_any : Def P w K mg base 2 "_law_any" 2 d_law_any) (h_law_name : Def P w K mg base 3 "_law_name" 1 d_law_name) (h_law_draw : Def P w K mg base 1 "_law_draw" 2 d_law_draw) (n_range : mg "range" = none) (n_sorted : mg "sorted" = none) (n_set : mg "set" = none) (n_tuple : mg "tuple" = none) : Def P w K mg base 4 "_law_installation" 1 d_law_installation :=
  def_ok F sc_law_installation rfl (fun _ _ _ _ _ _ _ us hl => match us, hl with | [_], _ => rfl) fun f cdv A outer s H E hr => (b_cons (s_asg (i := 1) sc_law_installation.nd (o_ls os_nil)) (b_cons (s_for (js := [2]) PassesOwn.never rfl (i_seq (p := false) (c_ssA (p := false) rfl hr.units (e_of_o (o_lc (p := true) (q := false) (js := [5]) (own := [("k", 5)]) rfl sc_law_installation.nd (i_rg1 (p := false) n_range (e_of_o (c_io (p := false) 0 h_law_any hr (a_cons (p := false) (q := true) (e_of_o (o_ls (os_cons (o_of_e (p := true) c_int) (os_cons (o_of_e (p := true) c_int) (os_cons (o_of_e (p := true) c_int) (os_cons (o_of_e (p := true) c_int) (os_cons (o_of_e (p := true) c_int) (os_cons (o_of_e (p := true) c_int) (os_cons (o_of_e (p := true) c_int) (os_cons (o_of_e (p := true) c_int) (os_cons (o_of_e (p := true) c_int) (os_cons (o_of_e (p := true) c_int) (os_cons (o_of_e (p := true) c_int) (os_cons (o_of_e (p := true) c_int) os_nil)))))))))))))) a_nil) (ln_io (ln_cons ln_nil))))) (blkOk_by (own := [("k", 5)]) (N := ["hand", "found", "name", "numbers", "features", "k"]) (sc := defScope s_law_installation) (by decide +kernel)) (fun _ _ _ _ _ => (g_nm (i := 5) sc_law_installation.nd)) (fun _ _ _ _ _ => (ts_nil (p := true))) (fun _ _ _ _ _ => (e_of_o (c_io (p := true) 0 h_law_name hr a_nil (ln_io ln_nil)))))) n_sorted n_set)) (g_nm (i := 2) sc_law_installation.nd) (b_cons (s_asgLc (p := true) (q := false) (js := [5]) (own := [("k", 5)]) (i := 3) rfl sc_law_installation.nd rfl rfl (sw_true rfl rfl rfl (by decide +kernel)) (i_rg1 (p := true) n_range c_int) (blkOk_by (own := [("k", 5)]) (N := ["hand", "found", "name", "numbers", "features", "k"]) (sc := defScope s_law_installation) (by decide +kernel)) (fun _ _ _ _ _ => (g_nm (i := 5) sc_law_installation.nd)) (fun _ _ _ _ _ => (ts_nil (p := true))) (fun _ _ _ _ _ => (e_of_o (c_io (p := false) 0 h_law_any hr (a_cons (p := false) (q := true) (e_of_o (o_ls (os_cons (o_of_e (p := true) c_int) (os_cons (o_of_e (p := true) c_int) (os_cons (o_of_e (p := true) c_int) (os_cons (o_of_e (p := true) c_int) (os_cons (o_of_e (p := true) c_int) (os_cons (c_io (p := true) 0 h_law_draw hr (a_cons (p := true) (q := true) c_int a_nil) (ln_io (ln_cons ln_nil))) os_nil)))))))) a_nil) (ln_io (ln_cons ln_nil)))))) (b_cons (s_asg (i := 4) sc_law_installation.nd (o_of_e (p := false) (c_ssA (p := false) rfl hr.units (e_of_o (o_lc (p := true) (q := false) (js := [5]) (own := [("k", 5)]) rfl sc_law_installation.nd (i_rg1 (p := false) n_range (e_of_o (c_io (p := false) 0 h_law_any hr (a_cons (p := false) (q := true) (e_of_o (o_ls (os_cons (o_of_e (p := true) c_int) (os_cons (o_of_e (p := true) c_int) (os_cons (o_of_e (p := true) c_int) (os_cons (o_of_e (p := true) c_int) (os_cons (o_of_e (p := true) c_int) (os_cons (o_of_e (p := true) c_int) (os_cons (o_of_e (p := true) c_int) (os_cons (o_of_e (p := true) c_int) os_nil)))))))))) a_nil) (ln_io (ln_cons ln_nil))))) (blkOk_by (own := [("k", 5)]) (N := ["hand", "found", "name", "numbers", "features", "k"]) (sc := defScope s_law_installation) (by decide +kernel)) (fun _ _ _ _ _ => (g_nm (i := 5) sc_law_installation.nd)) (fun _ _ _ _ _ => (ts_nil (p := true))) (fun _ _ _ _ _ => (e_of_o (c_io (p := true) 0 h_law_name hr a_nil (ln_io ln_nil)))))) n_sorted n_set))) (b_one (s_expr (p := false) (c_mu (p := true) (q := false) PySem.F.plainAttrs_list PySem.F.slot_list_append PySem.F.type_list_append mt_append m_app (c_v 1) (a_cons (p := false) (q := true) (c_tup (p := true) (a_cons (p := true) (q := true) (c_v 2) (a_cons (p := true) (q := true) (z_ct (p := true) p_tuple n_tuple PyProof.Rows.boot_tuple (a_cons (p := true) (q := true) (c_v 3) a_nil)) (a_cons (p := true) (q := true) (z_ct (p := true) p_tuple n_tuple PyProof.Rows.boot_tuple (a_cons (p := true) (q := true) (c_v 4) a_nil)) a_nil)))) a_nil))))))) (b_one (s_ret (o_of_e (p := true) (z_ct (p := true) p_tuple n_tuple PyProof.Rows.boot_tuple (a_cons (p := true) (q := true) (c_v 1) a_nil)))))))
theorem sc_law_unlike : FnScope ["hand", "installation", "at", "number", "later", "other", "triples", "name", "version", "features", "k", "word", "one", "triple"] ["hand", "installation"] (defScope s_law_unlike) := ⟨rfl, rfl, rfl, by decide +kernel, rfl, by decide +kernel, by decide +kernel⟩
theorem ok_law_unlike {P : Program} {w : World} {K : PySem.W.Frag} {mg : Str → Option Value} {base : Heap} (F : IsDef K mg "_law_unlike" s_law_unlike) (h_law_draw : Def P w K mg base 1 "_law_draw" 2 d_law_draw) (h_law_any : Def P w K mg base 2 "_law_any" 2 d_law_any) (n_len : mg "len" = none) (n_sorted : mg "sorted" = none) (n_set : mg "set" = none) (n_tuple : mg "tuple" = none) : Def P w K mg base 3 "_law_unlike" 2 d_law_unlike :=
  def_ok F sc_law_unlike rfl (fun _ _ _ _ _ _ _ us hl => match us, hl with | [_, _], _ => rfl) fun f cdv A outer s H E hr => (b_cons (s_if (p := true) (y_cmp (p := true) (q := true) (p_eq hr.units) (z_cb (p := true) p_len n_len PySem.boot_len (a_cons (p := true) (q := true) (c_v 1) a_nil)) c_int) (b_one (s_ret (o_of_e (p := false) (c_tup (p := false) (a_cons (p := false) (q := true) (c_tup (p := false) (a_cons (p := true) (q := false) c_str (a_cons (p := false) (q := false) (c_tup (p := true) (a_cons (p := true) (q := true) c_int (a_cons (p := true) (q := true) c_int (a_cons (p := true) (q := true) c_int a_nil)))) (a_cons (p := false) (q := true) (c_tup (p := true) a_nil) a_nil)))) a_nil))))) b_nil) (b_cons (s_asg (i := 2) sc_law_unlike.nd (c_io (p := true) 0 h_law_draw hr (a_cons (p := true) (q := true) (z_cb (p := true) p_len n_len PySem.boot_len (a_cons (p := true) (q := true) (c_v 1) a_nil)) a_nil) (ln_io (ln_cons ln_nil)))) (b_cons (s_tg (p := true) (js := [7, 8, 9]) (z_ix (p := true) (q := true) (c_v 1) (c_v 2)) (g_tup 3 rfl (g_cons (g_nm (i := 7) sc_law_unlike.nd) (g_cons (g_nm (i := 8) sc_law_unlike.nd) (g_cons (g_nm (i := 9) sc_law_unlike.nd) (g_nil (js := []))))))) (b_cons (s_tg (p := false) (js := [10, 11]) (c_tup (p := false) (a_cons (p := false) (q := false) (e_of_o (c_io (p := true) 0 h_law_draw hr (a_cons (p := true) (q := true) c_int a_nil) (ln_io (ln_cons ln_nil)))) (a_cons (p := false) (q := true) (e_of_o (c_io (p := false) 0 h_law_any hr (a_cons (p := false) (q := true) (e_of_o (o_ls (os_cons (o_of_e (p := true) c_str) (os_cons (o_of_e (p := true) c_str) (os_cons (o_of_e (p := true) c_str) os_nil))))) a_nil) (ln_io (ln_cons ln_nil)))) a_nil))) (g_tup 2 rfl (g_cons (g_nm (i := 10) sc_law_unlike.nd) (g_cons (g_nm (i := 11) sc_law_unlike.nd) (g_nil (js := [])))))) (b_cons (s_asg (i := 3) sc_law_unlike.nd (c_io (p := false) 0 h_law_any hr (a_cons (p := false) (q := true) (e_of_o (o_ls (os_cons (o_of_e (p := true) c_int) (os_cons (o_of_e (p := true) c_int) (os_cons (o_of_e (p := true) c_int) (os_cons (o_of_e (p := true) c_int) (os_cons (o_of_e (p := true) (z_op (p := true) (q := true) p_div (z_ix (p := true) (q := true) (c_v 8) (c_v 10)) c_int)) os_nil))))))) a_nil) (ln_io (ln_cons ln_nil)))) (b_cons (s_asg (i := 3) sc_law_unlike.nd (o_of_e (p := true) (c_if (p := true) (q := true) (r := true) (y_cmp (p := true) (q := true) (p_eq hr.units) (c_v 3) (z_ix (p := true) (q := true) (c_v 8) (c_v 10))) (z_op (p := true) (q := true) p_mod (z_op (p := true) (q := true) p_add (c_v 3) c_int) c_int) (c_v 3)))) (b_cons (s_asg (i := 4) sc_law_unlike.nd (o_of_e (p := false) (z_op (p := false) (q := false) p_add (z_op (p := false) (q := false) p_add (z_sl (p := true) (c_v 8) o_none (o_some (p := true) (c_v 10))) (c_tup (p := true) (a_cons (p := true) (q := true) (c_v 3) a_nil))) (z_sl (p := true) (c_v 8) (o_some (p := true) (z_op (p := true) (q := true) p_add (c_v 10) c_int)) o_none)))) (b_cons (s_asg (i := 5) sc_law_unlike.nd (o_of_e (p := false) (c_if (p := true) (q := false) (r := false) (y_cmp (p := true) (q := true) p_notinA (c_v 11) (c_v 9)) (z_ct (p := false) p_tuple n_tuple PyProof.Rows.boot_tuple (a_cons (p := false) (q := true) (c_ssA (p := false) rfl hr.units (z_op (p := true) (q := false) p_add (c_v 9) (c_tup (p := true) (a_cons (p := true) (q := true) (c_v 11) a_nil))) n_sorted n_set) a_nil)) (z_ct (p := false) p_tuple n_tuple PyProof.Rows.boot_tuple (a_cons (p := false) (q := true) (e_of_o (o_lc (p := true) (q := true) (js := [12]) (own := [("one", 12)]) rfl sc_law_unlike.nd (i_seq (p := true) (c_v 9)) (blkOk_by (own := [("one", 12)]) (N := ["hand", "installation", "at", "number", "later", "other", "triples", "name", "version", "features", "k", "word", "one", "triple"]) (sc := defScope s_law_unlike) (by decide +kernel)) (fun _ _ _ _ _ => (g_nm (i := 12) sc_law_unlike.nd)) (fun _ _ _ _ _ => (ts_one (y_cmp (p := true) (q := true) (p_ne hr.units) (c_v 12) (c_v 11)))) (fun _ _ _ _ _ => (c_v 12)))) a_nil))))) (b_cons (s_asg (i := 6) sc_law_unlike.nd (o_ls (os_cons (o_of_e (p := false) (c_tup (p := true) (a_cons (p := true) (q := true) (c_v 7) (a_cons (p := true) (q := true) (c_v 4) (a_cons (p := true) (q := true) (c_v 9) a_nil))))) (os_cons (o_of_e (p := false) (c_tup (p := true) (a_cons (p := true) (q := true) (c_v 7) (a_cons (p := true) (q := true) (c_v 8) (a_cons (p := true) (q := true) (c_v 5) a_nil))))) (os_cons (o_of_e (p := false) (c_tup (p := true) (a_cons (p := true) (q := true) (c_v 7) (a_cons (p := true) (q := true) (c_rev (p := true) (c_v 8)) (a_cons (p := true) (q := true) (c_v 9) a_nil))))) os_nil))))) (b_one (s_ret (c_io (p := false) 0 h_law_any hr (a_cons (p := false) (q := true) (z_op (p := false) (q := false) p_add (e_of_o (o_lc (p := true) (q := false) (js := [13]) (own := [("triple", 13)]) rfl sc_law_unlike.nd (i_seq (p := true) (c_v 6)) (blkOk_by (own := [("triple", 13)]) (N := ["hand", "installation", "at", "number", "later", "other", "triples", "name", "version", "features", "k", "word", "one", "triple"]) (sc := defScope s_law_unlike) (by decide +kernel)) (fun _ _ _ _ _ => (g_nm (i := 13) sc_law_unlike.nd)) (fun _ _ _ _ _ => (ts_nil (p := true))) (fun _ _ _ _ _ => (z_op (p := false) (q := false) p_add (z_op (p := false) (q := false) p_add (z_sl (p := true) (c_v 1) o_none (o_some (p := true) (c_v 2))) (c_tup (p := true) (a_cons (p := true) (q := true) (c_v 13) a_nil))) (z_sl (p := true) (c_v 1) (o_some (p := true) (z_op (p := true) (q := true) p_add (c_v 2) c_int)) o_none))))) (e_of_o (o_ls (os_cons (o_of_e (p := false) (z_op (p := false) (q := false) p_add (z_sl (p := true) (c_v 1) o_none (o_some (p := true) (c_v 2))) (z_sl (p := true) (c_v 1) (o_some (p := true) (z_op (p := true) (q := true) p_add (c_v 2) c_int)) o_none))) os_nil)))) a_nil) (ln_io (ln_cons ln_nil))))))))))))))
theorem sc_version_text : FnScope ["version", "number"] ["version"] (defScope s_version_text) := ⟨rfl, rfl, rfl, by decide +kernel, rfl, by decide +kernel, by decide +kernel⟩
theorem ok_version_text {P : Program} {w : World} {K : PySem.W.Frag} {mg : Str → Option Value} {base : Heap} (F : IsDef K mg "version_text" s_version_text) (n_str : mg "str" = none) : Def P w K mg base 1 "version_text" 1 d_version_text :=
  def_ok F sc_version_text rfl (fun _ _ _ _ _ _ _ us hl => match us, hl with | [_], _ => rfl) fun f cdv A outer s H E hr => (b_one (s_ret (o_of_e (p := false) (c_bm (p := true) (q := false) PySem.F.plainAttrs_str PySem.F.slot_str_join PySem.F.type_str_join p_join c_str (a_cons (p := false) (q := true) (e_of_o (o_lc (p := true) (q := true) (js := [1]) (own := [("number", 1)]) rfl sc_version_text.nd (i_seq (p := true) (c_v 0)) (blkOk_by (own := [("number", 1)]) (N := ["version", "number"]) (sc := defScope s_version_text) (by decide +kernel)) (fun _ _ _ _ _ => (g_nm (i := 1) sc_version_text.nd)) (fun _ _ _ _ _ => (ts_nil (p := true))) (fun _ _ _ _ _ => (z_ct (p := true) p_str n_str PyProof.Rows.boot_str (a_cons (p := true) (q := true) (c_v 1) a_nil))))) a_nil)))))
theorem sc_triple_text : FnScope ["triple"] ["triple"] (defScope s_triple_text) := ⟨rfl, rfl, rfl, by decide +kernel, rfl, by decide +kernel, by decide +kernel⟩
theorem ok_triple_text {P : Program} {w : World} {K : PySem.W.Frag} {mg : Str → Option Value} {base : Heap} (F : IsDef K mg "triple_text" s_triple_text) (h_version_text : Def P w K mg base 1 "version_text" 1 d_version_text) : Def P w K mg base 2 "triple_text" 1 d_triple_text :=
  def_ok F sc_triple_text rfl (fun _ _ _ _ _ _ _ us hl => match us, hl with | [_], _ => rfl) fun f cdv A outer s H E hr => (b_one (s_ret (o_of_e (p := false) (c_bm (p := true) (q := false) PySem.F.plainAttrs_str PySem.F.slot_str_join PySem.F.type_str_join p_join c_str (a_cons (p := false) (q := true) (z_op (p := false) (q := true) p_add (c_tup (p := false) (a_cons (p := true) (q := false) (z_ix (p := true) (q := true) (c_v 0) c_int) (a_cons (p := false) (q := true) (e_of_o (c_call (p := true) h_version_text hr (a_cons (p := true) (q := true) (z_ix (p := true) (q := true) (c_v 0) c_int) a_nil) (ln_cons ln_nil))) a_nil))) (z_ix (p := true) (q := true) (c_v 0) c_int)) a_nil)))))
theorem sc_check_of : FnScope ["text", "place", "sign"] ["text"] (defScope s_check_of) := ⟨rfl, rfl, rfl, by decide +kernel, rfl, by decide +kernel, by decide +kernel⟩
theorem ok_check_of {P : Program} {w : World} {K : PySem.W.Frag} {mg : Str → Option Value} {base : Heap} (F : IsDef K mg "check_of" s_check_of) (n_enumerate : mg "enumerate" = none) (n_ord : mg "ord" = none) (n_sum : mg "sum" = none) (c_BY : IsC K mg "BY" k_BY) : Def P w K mg base 1 "check_of" 1 d_check_of :=
  def_ok F sc_check_of rfl (fun _ _ _ _ _ _ _ us hl => match us, hl with | [_], _ => rfl) fun f cdv A outer s H E hr => (b_one (s_ret (o_of_e (p := false) (z_op (p := false) (q := true) p_mod (z_cb (p := false) (p_sum rfl) n_sum (by decide +kernel) (a_cons (p := false) (q := true) (e_of_o (o_lc (p := true) (q := true) (js := [1, 2]) (own := [("place", 1), ("sign", 2)]) rfl sc_check_of.nd (i_enX (p := true) n_enumerate (a_cons (p := true) (q := true) (c_v 0) (a_cons (p := true) (q := true) c_int a_nil))) (blkOk_by (own := [("place", 1), ("sign", 2)]) (N := ["text", "place", "sign"]) (sc := defScope s_check_of) (by decide +kernel)) (fun _ _ _ _ _ => (g_tup 2 rfl (g_cons (g_nm (i := 1) sc_check_of.nd) (g_cons (g_nm (i := 2) sc_check_of.nd) (g_nil (js := [])))))) (fun _ _ _ _ _ => (ts_nil (p := true))) (fun _ _ _ _ _ => (z_op (p := true) (q := true) p_mul (z_cb (p := true) p_ord n_ord (by decide +kernel) (a_cons (p := true) (q := true) (c_v 2) a_nil)) (c_v 1))))) a_nil)) (z_gl c_BY)))))
theorem sc_lock_text : FnScope ["installation", "text", "triple"] ["installation"] (defScope s_lock_text) := ⟨rfl, rfl, rfl, by decide +kernel, rfl, by decide +kernel, by decide +kernel⟩
theorem ok_lock_text {P : Program} {w : World} {K : PySem.W.Frag} {mg : Str → Option Value} {base : Heap} (F : IsDef K mg "lock_text" s_lock_text) (h_triple_text : Def P w K mg base 2 "triple_text" 1 d_triple_text) (h_check_of : Def P w K mg base 1 "check_of" 1 d_check_of) (n_str : mg "str" = none) (c_CHECK : IsC K mg "CHECK" k_CHECK) : Def P w K mg base 3 "lock_text" 1 d_lock_text :=
  def_ok F sc_lock_text rfl (fun _ _ _ _ _ _ _ us hl => match us, hl with | [_], _ => rfl) fun f cdv A outer s H E hr => (b_cons (s_asg (i := 1) sc_lock_text.nd (o_of_e (p := false) (c_bm (p := true) (q := false) PySem.F.plainAttrs_str PySem.F.slot_str_join PySem.F.type_str_join p_join c_str (a_cons (p := false) (q := true) (e_of_o (o_lc (p := true) (q := false) (js := [2]) (own := [("triple", 2)]) rfl sc_lock_text.nd (i_seq (p := true) (c_v 0)) (blkOk_by (own := [("triple", 2)]) (N := ["installation", "text", "triple"]) (sc := defScope s_lock_text) (by decide +kernel)) (fun _ _ _ _ _ => (g_nm (i := 2) sc_lock_text.nd)) (fun _ _ _ _ _ => (ts_nil (p := true))) (fun _ _ _ _ _ => (z_op (p := false) (q := true) p_add (e_of_o (c_call (p := true) h_triple_text hr (a_cons (p := true) (q := true) (c_v 2) a_nil) (ln_cons ln_nil))) c_str)))) a_nil)))) (b_one (s_ret (o_of_e (p := false) (z_op (p := false) (q := true) p_add (z_op (p := true) (q := false) p_add (z_op (p := true) (q := true) p_add (c_v 1) (z_gl c_CHECK)) (z_ct (p := false) p_str n_str PyProof.Rows.boot_str (a_cons (p := false) (q := true) (e_of_o (c_call (p := true) h_check_of hr (a_cons (p := true) (q := true) (c_v 1) a_nil) (ln_cons ln_nil))) a_nil))) c_str)))))
theorem sc_law_line : FnScope ["triple", "line", "name", "version", "features", "feature"] ["triple"] (defScope s_law_line) := ⟨rfl, rfl, rfl, by decide +kernel, rfl, by decide +kernel, by decide +kernel⟩
theorem ok_law_line {P : Program} {w : World} {K : PySem.W.Frag} {mg : Str → Option Value} {base : Heap} (F : IsDef K mg "_law_line" s_law_line) (n_str : mg "str" = none) : Def P w K mg base 1 "_law_line" 1 d_law_line :=
  def_ok F sc_law_line rfl (fun _ _ _ _ _ _ _ us hl => match us, hl with | [_], _ => rfl) fun f cdv A outer s H E hr => (b_cons (s_tg (p := true) (js := [2, 3, 4]) (c_v 0) (g_tup 3 rfl (g_cons (g_nm (i := 2) sc_law_line.nd) (g_cons (g_nm (i := 3) sc_law_line.nd) (g_cons (g_nm (i := 4) sc_law_line.nd) (g_nil (js := []))))))) (b_cons (s_asg (i := 1) sc_law_line.nd (o_of_e (p := true) (z_op (p := true) (q := true) p_add (z_op (p := true) (q := true) p_add (z_op (p := true) (q := true) p_add (z_op (p := true) (q := true) p_add (z_op (p := true) (q := true) p_add (z_op (p := true) (q := true) p_add (c_v 2) c_str) (z_ct (p := true) p_str n_str PyProof.Rows.boot_str (a_cons (p := true) (q := true) (z_ix (p := true) (q := true) (c_v 3) c_int) a_nil))) c_str) (z_ct (p := true) p_str n_str PyProof.Rows.boot_str (a_cons (p := true) (q := true) (z_ix (p := true) (q := true) (c_v 3) c_int) a_nil))) c_str) (z_ct (p := true) p_str n_str PyProof.Rows.boot_str (a_cons (p := true) (q := true) (z_ix (p := true) (q := true) (c_v 3) c_int) a_nil))))) (b_one (s_ret (o_of_e (p := false) (z_op (p := false) (q := true) p_add (z_op (p := true) (q := false) p_add (c_v 1) (c_bm (p := true) (q := false) PySem.F.plainAttrs_str PySem.F.slot_str_join PySem.F.type_str_join p_join c_str (a_cons (p := false) (q := true) (e_of_o (o_lc (p := true) (q := true) (js := [5]) (own := [("feature", 5)]) rfl sc_law_line.nd (i_seq (p := true) (c_v 4)) (blkOk_by (own := [("feature", 5)]) (N := ["triple", "line", "name", "version", "features", "feature"]) (sc := defScope s_law_line) (by decide +kernel)) (fun _ _ _ _ _ => (g_nm (i := 5) sc_law_line.nd)) (fun _ _ _ _ _ => (ts_nil (p := true))) (fun _ _ _ _ _ => (z_op (p := true) (q := true) p_add c_str (c_v 5))))) a_nil))) c_str))))))
theorem sc_law_check : FnScope ["text", "sign", "tail", "total"] ["text"] (defScope s_law_check) := ⟨rfl, rfl, rfl, by decide +kernel, rfl, by decide +kernel, by decide +kernel⟩
theorem ok_law_check {P : Program} {w : World} {K : PySem.W.Frag} {mg : Str → Option Value} {base : Heap} (F : IsDef K mg "_law_check" s_law_check) (n_ord : mg "ord" = none) (n_int : mg "int" = none) : Def P w K mg base 1 "_law_check" 1 d_law_check :=
  def_ok F sc_law_check rfl (fun _ _ _ _ _ _ _ us hl => match us, hl with | [_], _ => rfl) fun f cdv A outer s H E hr => (b_cons (s_tg (p := false) (js := [2, 3]) (c_tup (p := true) (a_cons (p := true) (q := true) c_int (a_cons (p := true) (q := true) c_int a_nil))) (g_tup 2 rfl (g_cons (g_nm (i := 2) sc_law_check.nd) (g_cons (g_nm (i := 3) sc_law_check.nd) (g_nil (js := [])))))) (b_cons (s_for (js := [1]) PassesOwn.never rfl (i_str (p := true) (c_revS (p := true) (c_v 0))) (g_nm (i := 1) sc_law_check.nd) (b_cons (s_asg (i := 2) sc_law_check.nd (o_of_e (p := true) (z_op (p := true) (q := true) p_add (c_v 2) (z_cb (p := true) p_ord n_ord (by decide +kernel) (a_cons (p := true) (q := true) (c_v 1) a_nil))))) (b_one (s_asg (i := 3) sc_law_check.nd (o_of_e (p := true) (z_op (p := true) (q := true) p_add (c_v 3) (c_v 2))))))) (b_one (s_ret (o_of_e (p := true) (z_op (p := true) (q := true) p_mod (z_ct (p := true) p_int n_int PyProof.Rows.boot_int (a_cons (p := true) (q := true) (c_v 3) a_nil)) c_int))))))
theorem sc_law_text : FnScope ["installation", "body", "triple"] ["installation"] (defScope s_law_text) := ⟨rfl, rfl, rfl, by decide +kernel, rfl, by decide +kernel, by decide +kernel⟩
theorem ok_law_text {P : Program} {w : World} {K : PySem.W.Frag} {mg : Str → Option Value} {base : Heap} (F : IsDef K mg "_law_text" s_law_text) (h_law_line : Def P w K mg base 1 "_law_line" 1 d_law_line) (h_law_check : Def P w K mg base 1 "_law_check" 1 d_law_check) (n_str : mg "str" = none) : Def P w K mg base 2 "_law_text" 1 d_law_text :=
  def_ok F sc_law_text rfl (fun _ _ _ _ _ _ _ us hl => match us, hl with | [_], _ => rfl) fun f cdv A outer s H E hr => (b_cons (s_asg (i := 1) sc_law_text.nd (o_of_e (p := false) (c_bm (p := true) (q := false) PySem.F.plainAttrs_str PySem.F.slot_str_join PySem.F.type_str_join p_join c_str (a_cons (p := false) (q := true) (e_of_o (o_lc (p := true) (q := false) (js := [2]) (own := [("triple", 2)]) rfl sc_law_text.nd (i_seq (p := true) (c_v 0)) (blkOk_by (own := [("triple", 2)]) (N := ["installation", "body", "triple"]) (sc := defScope s_law_text) (by decide +kernel)) (fun _ _ _ _ _ => (g_nm (i := 2) sc_law_text.nd)) (fun _ _ _ _ _ => (ts_nil (p := true))) (fun _ _ _ _ _ => (e_of_o (c_call (p := true) h_law_line hr (a_cons (p := true) (q := true) (c_v 2) a_nil) (ln_cons ln_nil)))))) a_nil)))) (b_one (s_ret (o_of_e (p := false) (z_op (p := false) (q := true) p_add (z_op (p := true) (q := false) p_add (z_op (p := true) (q := true) p_add (c_v 1) c_str) (z_ct (p := false) p_str n_str PyProof.Rows.boot_str (a_cons (p := false) (q := true) (e_of_o (c_call (p := true) h_law_check hr (a_cons (p := true) (q := true) (c_v 1) a_nil) (ln_cons ln_nil))) a_nil))) c_str)))))
theorem sc_is_name : FnScope ["thing", "sign"] ["thing"] (defScope s_is_name) := ⟨rfl, rfl, rfl, by decide +kernel, rfl, by decide +kernel, by decide +kernel⟩
theorem ok_is_name {P : Program} {w : World} {K : PySem.W.Frag} {mg : Str → Option Value} {base : Heap} (F : IsDef K mg "is_name" s_is_name) (n_isinstance : mg "isinstance" = none) (n_str : mg "str" = none) (n_len : mg "len" = none) (n_all : mg "all" = none) (c_MOST_SIGNS : IsC K mg "MOST_SIGNS" k_MOST_SIGNS) (c_SMALL : IsC K mg "SMALL" k_SMALL) : Def P w K mg base 1 "is_name" 1 d_is_name :=
  def_ok F sc_is_name rfl (fun _ _ _ _ _ _ _ us hl => match us, hl with | [_], _ => rfl) fun f cdv A outer s H E hr => (b_one (s_ret (o_of_e (p := false) (c_and (p := true) (q := false) (c_isi (p := true) (t := .str) (c_v 0) (by decide) n_isinstance n_str PyProof.Rows.boot_str) (c_and (p := true) (q := false) (z_ch (p := true) (q := true) (r := true) (p_le (u0 hr)) (p_le (u0 hr)) c_int (z_cb (p := true) p_len n_len PySem.boot_len (a_cons (p := true) (q := true) (c_v 0) a_nil)) (z_gl c_MOST_SIGNS)) (c_one (z_cb (p := false) (p_all rfl) n_all PyProof.Rows.boot_all (a_cons (p := false) (q := true) (e_of_o (o_lc (p := true) (q := true) (js := [1]) (own := [("sign", 1)]) rfl sc_is_name.nd (i_str (p := true) (c_v 0)) (blkOk_by (own := [("sign", 1)]) (N := ["thing", "sign"]) (sc := defScope s_is_name) (by decide +kernel)) (fun _ _ _ _ _ => (g_nm (i := 1) sc_is_name.nd)) (fun _ _ _ _ _ => (ts_nil (p := true))) (fun _ _ _ _ _ => (z_cmp (p := true) (q := true) p_inA (c_v 1) (z_gl c_SMALL))))) a_nil))))))))
theorem sc_number_told : FnScope ["word", "most", "sign"] ["word", "most"] (defScope s_number_told) := ⟨rfl, rfl, rfl, by decide +kernel, rfl, by decide +kernel, by decide +kernel⟩
theorem ok_number_told {P : Program} {w : World} {K : PySem.W.Frag} {mg : Str → Option Value} {base : Heap} (F : IsDef K mg "number_told" s_number_told) (n_len : mg "len" = none) (n_all : mg "all" = none) (n_int : mg "int" = none) (c_MOST_SIGNS : IsC K mg "MOST_SIGNS" k_MOST_SIGNS) (c_FIGURES : IsC K mg "FIGURES" k_FIGURES) : Def P w K mg base 1 "number_told" 2 d_number_told :=
  def_ok F sc_number_told rfl (fun _ _ _ _ _ _ _ us hl => match us, hl with | [_, _], _ => rfl) fun f cdv A outer s H E hr => (b_cons (s_if (p := false) (PW.pt (w_or (p := true) (q := false) (t_not (y_ch (p := true) (q := true) (r := true) (p_le (u0 hr)) (p_le (u0 hr)) c_int (z_cb (p := true) p_len n_len PySem.boot_len (a_cons (p := true) (q := true) (c_v 0) a_nil)) (z_gl c_MOST_SIGNS))) (w_or1 (t_not (t_e (p := false) (z_cb (p := false) (p_all rfl) n_all PyProof.Rows.boot_all (a_cons (p := false) (q := true) (e_of_o (o_lc (p := true) (q := true) (js := [2]) (own := [("sign", 2)]) rfl sc_number_told.nd (i_str (p := true) (c_v 0)) (blkOk_by (own := [("sign", 2)]) (N := ["word", "most", "sign"]) (sc := defScope s_number_told) (by decide +kernel)) (fun _ _ _ _ _ => (g_nm (i := 2) sc_number_told.nd)) (fun _ _ _ _ _ => (ts_nil (p := true))) (fun _ _ _ _ _ => (z_cmp (p := true) (q := true) p_inA (c_v 2) (z_gl c_FIGURES))))) a_nil))))))) (b_one (s_ret (o_of_e (p := true) c_non))) b_nil) (b_cons (s_if (p := true) (PW.pt (w_or (p := true) (q := true) (PW.pt (w_and (p := true) (q := true) (y_cmp (p := true) (q := true) (p_eq hr.units) (z_ix (p := true) (q := true) (c_v 0) c_int) c_str) (w_and1 (y_cmp (p := true) (q := true) (p_ne hr.units) (c_v 0) c_str)))) (w_or1 (y_cmp (p := true) (q := true) p_gt (z_ct (p := true) p_intA n_int PyProof.Rows.boot_int (a_cons (p := true) (q := true) (c_v 0) a_nil)) (c_v 1))))) (b_one (s_ret (o_of_e (p := true) c_non))) b_nil) (b_one (s_ret (o_of_e (p := true) (z_ct (p := true) p_intA n_int PyProof.Rows.boot_int (a_cons (p := true) (q := true) (c_v 0) a_nil)))))))
theorem sc_version_told : FnScope ["text", "numbers", "word"] ["text"] (defScope s_version_told) := ⟨rfl, rfl, rfl, by decide +kernel, rfl, by decide +kernel, by decide +kernel⟩
theorem ok_version_told {P : Program} {w : World} {K : PySem.W.Frag} {mg : Str → Option Value} {base : Heap} (F : IsDef K mg "version_told" s_version_told) (h_number_told : Def P w K mg base 1 "number_told" 2 d_number_told) (n_tuple : mg "tuple" = none) (n_len : mg "len" = none) (c_GREATEST : IsC K mg "GREATEST" k_GREATEST) : Def P w K mg base 2 "version_told" 1 d_version_told :=
  def_ok F sc_version_told rfl (fun _ _ _ _ _ _ _ us hl => match us, hl with | [_], _ => rfl) fun f cdv A outer s H E hr => (b_cons (s_asg (i := 1) sc_version_told.nd (o_of_e (p := false) (z_ct (p := false) p_tuple n_tuple PyProof.Rows.boot_tuple (a_cons (p := false) (q := true) (e_of_o (o_lc (p := true) (q := false) (js := [2]) (own := [("word", 2)]) rfl sc_version_told.nd (i_seq (p := false) (c_bm (p := true) (q := true) PySem.F.plainAttrs_str PySem.F.slot_str_split PySem.F.type_str_split p_split (c_v 0) (a_cons (p := true) (q := true) c_str a_nil))) (blkOk_by (own := [("word", 2)]) (N := ["text", "numbers", "word"]) (sc := defScope s_version_told) (by decide +kernel)) (fun _ _ _ _ _ => (g_nm (i := 2) sc_version_told.nd)) (fun _ _ _ _ _ => (ts_nil (p := true))) (fun _ _ _ _ _ => (e_of_o (c_call (p := true) h_number_told hr (a_cons (p := true) (q := true) (c_v 2) (a_cons (p := true) (q := true) (z_gl c_GREATEST) a_nil)) (ln_cons (ln_cons ln_nil))))))) a_nil)))) (b_one (s_ret (o_of_e (p := true) (c_if (p := true) (q := true) (r := true) (PW.pt (w_and (p := true) (q := true) (y_cmp (p := true) (q := true) (p_eq hr.units) (z_cb (p := true) p_len n_len PySem.boot_len (a_cons (p := true) (q := true) (c_v 1) a_nil)) c_int) (w_and1 (y_cmp (p := true) (q := true) p_notinA c_non (c_v 1))))) (c_v 1) c_non)))))
theorem sc_is_rising : FnScope ["things", "at"] ["things"] (defScope s_is_rising) := ⟨rfl, rfl, rfl, by decide +kernel, rfl, by decide +kernel, by decide +kernel⟩
theorem ok_is_rising {P : Program} {w : World} {K : PySem.W.Frag} {mg : Str → Option Value} {base : Heap} (F : IsDef K mg "is_rising" s_is_rising) (n_len : mg "len" = none) (n_range : mg "range" = none) (n_all : mg "all" = none) : Def P w K mg base 1 "is_rising" 1 d_is_rising :=
  def_ok F sc_is_rising rfl (fun _ _ _ _ _ _ _ us hl => match us, hl with | [_], _ => rfl) fun f cdv A outer s H E hr => (b_one (s_ret (o_of_e (p := false) (z_cb (p := false) (p_all rfl) n_all PyProof.Rows.boot_all (a_cons (p := false) (q := true) (e_of_o (o_lc (p := true) (q := true) (js := [1]) (own := [("at", 1)]) rfl sc_is_rising.nd (i_rg1 (p := true) n_range (z_op (p := true) (q := true) p_sub (z_cb (p := true) p_len n_len PySem.boot_len (a_cons (p := true) (q := true) (c_v 0) a_nil)) c_int)) (blkOk_by (own := [("at", 1)]) (N := ["things", "at"]) (sc := defScope s_is_rising) (by decide +kernel)) (fun _ _ _ _ _ => (g_nm (i := 1) sc_is_rising.nd)) (fun _ _ _ _ _ => (ts_nil (p := true))) (fun _ _ _ _ _ => (z_cmp (p := true) (q := true) (p_lt (u0 hr)) (z_ix (p := true) (q := true) (c_v 0) (c_v 1)) (z_ix (p := true) (q := true) (c_v 0) (z_op (p := true) (q := true) p_add (c_v 1) c_int)))))) a_nil)))))
theorem sc_triple_told : FnScope ["line", "words", "version", "features", "word"] ["line"] (defScope s_triple_told) := ⟨rfl, rfl, rfl, by decide +kernel, rfl, by decide +kernel, by decide +kernel⟩
theorem ok_triple_told {P : Program} {w : World} {K : PySem.W.Frag} {mg : Str → Option Value} {base : Heap} (F : IsDef K mg "triple_told" s_triple_told) (h_is_name : Def P w K mg base 1 "is_name" 1 d_is_name) (h_version_told : Def P w K mg base 2 "version_told" 1 d_version_told) (h_is_rising : Def P w K mg base 1 "is_rising" 1 d_is_rising) (n_len : mg "len" = none) (n_tuple : mg "tuple" = none) (n_all : mg "all" = none) : Def P w K mg base 3 "triple_told" 1 d_triple_told :=
  def_ok F sc_triple_told rfl (fun _ _ _ _ _ _ _ us hl => match us, hl with | [_], _ => rfl) fun f cdv A outer s H E hr => (b_cons (s_asg (i := 1) sc_triple_told.nd (o_of_e (p := false) (c_bm (p := true) (q := true) PySem.F.plainAttrs_str PySem.F.slot_str_split PySem.F.type_str_split p_split (c_v 0) (a_cons (p := true) (q := true) c_str a_nil)))) (b_cons (s_if (p := false) (PW.pt (w_or (p := true) (q := false) (y_cmp (p := true) (q := true) (p_lt (u0 hr)) (z_cb (p := true) p_len n_len PySem.boot_len (a_cons (p := true) (q := true) (c_v 1) a_nil)) c_int) (w_or1 (t_not (t_e (p := false) (e_of_o (c_call (p := true) h_is_name hr (a_cons (p := true) (q := true) (z_ix (p := true) (q := true) (c_v 1) c_int) a_nil) (ln_cons ln_nil)))))))) (b_one (s_ret (o_of_e (p := true) c_non))) b_nil) (b_cons (s_par (i := 2) (j := 3) rfl sc_triple_told.nd (os_cons (c_call (p := true) h_version_told hr (a_cons (p := true) (q := true) (z_ix (p := true) (q := true) (c_v 1) c_int) a_nil) (ln_cons ln_nil)) (os_cons (o_of_e (p := false) (z_ct (p := false) p_tuple n_tuple PyProof.Rows.boot_tuple (a_cons (p := false) (q := true) (z_sl (p := true) (c_v 1) (o_some (p := true) c_int) o_none) a_nil))) os_nil))) (b_cons (s_if (p := false) (PW.pt (w_or (p := true) (q := false) (y_cmp (p := true) (q := true) p_is (c_v 2) c_non) (w_or (p := false) (q := false) (t_not (t_e (p := false) (z_cb (p := false) (p_all rfl) n_all PyProof.Rows.boot_all (a_cons (p := false) (q := true) (e_of_o (o_lc (p := true) (q := false) (js := [4]) (own := [("word", 4)]) rfl sc_triple_told.nd (i_seq (p := true) (c_v 3)) (blkOk_by (own := [("word", 4)]) (N := ["line", "words", "version", "features", "word"]) (sc := defScope s_triple_told) (by decide +kernel)) (fun _ _ _ _ _ => (g_nm (i := 4) sc_triple_told.nd)) (fun _ _ _ _ _ => (ts_nil (p := true))) (fun _ _ _ _ _ => (e_of_o (c_call (p := true) h_is_name hr (a_cons (p := true) (q := true) (c_v 4) a_nil) (ln_cons ln_nil)))))) a_nil)))) (w_or1 (t_not (t_e (p := false) (e_of_o (c_call (p := true) h_is_rising hr (a_cons (p := true) (q := true) (c_v 3) a_nil) (ln_cons ln_nil))))))))) (b_one (s_ret (o_of_e (p := true) c_non))) b_nil) (b_one (s_ret (o_of_e (p := false) (c_tup (p := true) (a_cons (p := true) (q := true) (z_ix (p := true) (q := true) (c_v 1) c_int) (a_cons (p := true) (q := true) (c_v 2) (a_cons (p := true) (q := true) (c_v 3) a_nil)))))))))))
theorem sc_ended : FnScope ["rows", "at", "line", "taken", "found"] ["rows", "at", "line", "taken", "found"] (defScope s_ended) := ⟨rfl, rfl, rfl, by decide +kernel, rfl, by decide +kernel, by decide +kernel⟩
theorem ok_ended {P : Program} {w : World} {K : PySem.W.Frag} {mg : Str → Option Value} {base : Heap} (F : IsDef K mg "ended" s_ended) (h_number_told : Def P w K mg base 1 "number_told" 2 d_number_told) (h_check_of : Def P w K mg base 1 "check_of" 1 d_check_of) (n_len : mg "len" = none) (n_tuple : mg "tuple" = none) (c_CHECK : IsC K mg "CHECK" k_CHECK) (c_BY : IsC K mg "BY" k_BY) : Def P w K mg base 2 "ended" 5 d_ended :=
  def_ok F sc_ended rfl (fun _ _ _ _ _ _ _ us hl => match us, hl with | [_, _, _, _, _], _ => rfl) fun f cdv A outer s H E hr => (b_cons (s_if (p := false) (PW.pt (w_or (p := false) (q := false) (y_cmp (p := false) (q := true) (p_ne hr.units) (z_sl (p := true) (c_v 2) o_none (o_some (p := true) (z_cb (p := true) p_len n_len PySem.boot_len (a_cons (p := true) (q := true) (z_gl c_CHECK) a_nil)))) (z_gl c_CHECK)) (w_or1 (y_cmp (p := false) (q := false) (p_ne hr.units) (e_of_o (c_call (p := false) h_number_told hr (a_cons (p := false) (q := true) (z_sl (p := true) (c_v 2) (o_some (p := true) (z_cb (p := true) p_len n_len PySem.boot_len (a_cons (p := true) (q := true) (z_gl c_CHECK) a_nil))) o_none) (a_cons (p := true) (q := true) (z_gl c_BY) a_nil)) (ln_cons (ln_cons ln_nil)))) (e_of_o (c_call (p := true) h_check_of hr (a_cons (p := true) (q := true) (c_v 3) a_nil) (ln_cons ln_nil))))))) (b_one s_never) b_nil) (b_cons (s_if (p := true) (PW.pt (w_or (p := true) (q := true) (y_cmp (p := true) (q := true) (p_lt (u0 hr)) (z_op (p := true) (q := true) p_add (c_v 1) c_int) (z_cb (p := true) p_len n_len PySem.boot_len (a_cons (p := true) (q := true) (c_v 0) a_nil))) (w_or1 (y_cmp (p := true) (q := true) (p_ne hr.units) (z_ix (p := true) (q := true) (c_v 0) (z_neg c_int)) c_str)))) (b_one s_never) b_nil) (b_one (s_ret (o_of_e (p := true) (z_ct (p := true) p_tuple n_tuple PyProof.Rows.boot_tuple (a_cons (p := true) (q := true) (c_v 4) a_nil)))))))
theorem sc_read_lock : FnScope ["text", "rows", "found", "taken", "at", "line", "triple"] ["text"] (defScope s_read_lock) := ⟨rfl, rfl, rfl, by decide +kernel, rfl, by decide +kernel, by decide +kernel⟩
theorem ok_read_lock {P : Program} {w : World} {K : PySem.W.Frag} {mg : Str → Option Value} {base : Heap} (F : IsDef K mg "read_lock" s_read_lock) (h_triple_told : Def P w K mg base 3 "triple_told" 1 d_triple_told) (h_ended : Def P w K mg base 2 "ended" 5 d_ended) (n_isinstance : mg "isinstance" = none) (n_str : mg "str" = none) (n_enumerate : mg "enumerate" = none) (n_len : mg "len" = none) : Def P w K mg base 4 "read_lock" 1 d_read_lock :=
  def_ok F sc_read_lock rfl (fun _ _ _ _ _ _ _ us hl => match us, hl with | [_], _ => rfl) fun f cdv A outer s H E hr => (b_cons (s_if (p := true) (t_not (t_e (p := true) (c_isi (p := true) (t := .str) (c_v 0) (by decide) n_isinstance n_str PyProof.Rows.boot_str))) (b_one s_never) b_nil) (b_cons (s_asg (i := 1) sc_read_lock.nd (o_of_e (p := false) (c_bm (p := true) (q := true) PySem.F.plainAttrs_str PySem.F.slot_str_split PySem.F.type_str_split p_split (c_v 0) (a_cons (p := true) (q := true) c_str a_nil)))) (b_cons (s_asg (i := 2) sc_read_lock.nd (o_ls os_nil)) (b_cons (s_asg (i := 3) sc_read_lock.nd (o_of_e (p := true) c_str)) (b_cons (s_for (js := [4, 5]) PassesOwn.never rfl (i_en (p := false) n_enumerate (z_sl (p := true) (c_v 1) o_none (o_some (p := true) (z_neg c_int)))) (g_tup 2 rfl (g_cons (g_nm (i := 4) sc_read_lock.nd) (g_cons (g_nm (i := 5) sc_read_lock.nd) (g_nil (js := []))))) (b_cons (s_asg (i := 6) sc_read_lock.nd (c_call (p := true) h_triple_told hr (a_cons (p := true) (q := true) (c_v 5) a_nil) (ln_cons ln_nil))) (b_cons (s_if (p := true) (y_cmp (p := true) (q := true) p_is (c_v 6) c_non) (b_one (s_ret (c_call (p := true) h_ended hr (a_cons (p := true) (q := true) (c_v 1) (a_cons (p := true) (q := true) (c_v 4) (a_cons (p := true) (q := true) (c_v 5) (a_cons (p := true) (q := true) (c_v 3) (a_cons (p := true) (q := true) (c_v 2) a_nil))))) (ln_cons (ln_cons (ln_cons (ln_cons (ln_cons ln_nil)))))))) b_nil) (b_cons (s_if (p := true) (PW.pt (w_and (p := true) (q := true) (y_cmp (p := true) (q := true) p_gt (z_cb (p := true) p_len n_len PySem.boot_len (a_cons (p := true) (q := true) (c_v 2) a_nil)) c_int) (w_and1 (t_not (y_cmp (p := true) (q := true) (p_lt (u0 hr)) (z_ix (p := true) (q := true) (z_ix (p := true) (q := true) (c_v 2) (z_neg c_int)) c_int) (z_ix (p := true) (q := true) (c_v 6) c_int)))))) (b_one s_never) b_nil) (b_cons (s_expr (p := false) (c_mu (p := true) (q := true) PySem.F.plainAttrs_list PySem.F.slot_list_append PySem.F.type_list_append mt_append m_app (c_v 2) (a_cons (p := true) (q := true) (c_v 6) a_nil))) (b_one (s_aug (p := true) (i := 3) sc_read_lock.nd p_iaddA.1 p_iaddA.2 (z_op (p := true) (q := true) p_add (c_v 5) c_str)))))))) (b_one s_never))))))
theorem sc_law_is_triple : FnScope ["thing", "feature", "number"] ["thing"] (defScope s_law_is_triple) := ⟨rfl, rfl, rfl, by decide +kernel, rfl, by decide +kernel, by decide +kernel⟩
theorem ok_law_is_triple {P : Program} {w : World} {K : PySem.W.Frag} {mg : Str → Option Value} {base : Heap} (F : IsDef K mg "_law_is_triple" s_law_is_triple) (n_isinstance : mg "isinstance" = none) (n_tuple : mg "tuple" = none) (n_len : mg "len" = none) (n_str : mg "str" = none) (n_int : mg "int" = none) (n_bool : mg "bool" = none) (n_all : mg "all" = none) : Def P w K mg base 1 "_law_is_triple" 1 d_law_is_triple :=
  def_ok F sc_law_is_triple rfl (fun _ _ _ _ _ _ _ us hl => match us, hl with | [_], _ => rfl) fun f cdv A outer s H E hr => (b_cons (s_if (p := true) (PW.pt (w_or (p := true) (q := true) (t_not (t_e (p := true) (c_isi (p := true) (t := .tup) (c_v 0) (by decide) n_isinstance n_tuple PyProof.Rows.boot_tuple))) (w_or (p := true) (q := true) (y_cmp (p := true) (q := true) (p_ne hr.units) (z_cb (p := true) p_len n_len PySem.boot_len (a_cons (p := true) (q := true) (c_v 0) a_nil)) c_int) (w_or1 (t_not (t_e (p := true) (c_isi (p := true) (t := .str) (z_ix (p := true) (q := true) (c_v 0) c_int) (by decide) n_isinstance n_str PyProof.Rows.boot_str))))))) (b_one (s_ret (o_of_e (p := true) c_bl))) b_nil) (b_cons (s_if (p := true) (PW.pt (w_or (p := true) (q := true) (t_not (t_e (p := true) (c_isi (p := true) (t := .tup) (z_ix (p := true) (q := true) (c_v 0) c_int) (by decide) n_isinstance n_tuple PyProof.Rows.boot_tuple))) (w_or (p := true) (q := true) (y_cmp (p := true) (q := true) (p_ne hr.units) (z_cb (p := true) p_len n_len PySem.boot_len (a_cons (p := true) (q := true) (z_ix (p := true) (q := true) (c_v 0) c_int) a_nil)) c_int) (w_or1 (t_not (t_e (p := true) (c_isi (p := true) (t := .tup) (z_ix (p := true) (q := true) (c_v 0) c_int) (by decide) n_isinstance n_tuple PyProof.Rows.boot_tuple))))))) (b_one (s_ret (o_of_e (p := true) c_bl))) b_nil) (b_cons (s_if (p := false) (t_not (t_e (p := false) (z_cb (p := false) (p_all rfl) n_all PyProof.Rows.boot_all (a_cons (p := false) (q := true) (e_of_o (o_lc (p := true) (q := true) (js := [2]) (own := [("number", 2)]) rfl sc_law_is_triple.nd (i_seq (p := true) (z_ix (p := true) (q := true) (c_v 0) c_int)) (blkOk_by (own := [("number", 2)]) (N := ["thing", "feature", "number"]) (sc := defScope s_law_is_triple) (by decide +kernel)) (fun _ _ _ _ _ => (g_nm (i := 2) sc_law_is_triple.nd)) (fun _ _ _ _ _ => (ts_nil (p := true))) (fun _ _ _ _ _ => (c_and (p := true) (q := true) (c_isi (p := true) (t := .int) (c_v 2) (by decide) n_isinstance n_int PyProof.Rows.boot_int) (c_one (c_not (c_isi (p := true) (t := .bl) (c_v 2) (by decide) n_isinstance n_bool PyProof.Rows.boot_bool))))))) a_nil)))) (b_one (s_ret (o_of_e (p := true) c_bl))) b_nil) (b_one (s_ret (o_of_e (p := false) (z_cb (p := false) (p_all rfl) n_all PyProof.Rows.boot_all (a_cons (p := false) (q := true) (e_of_o (o_lc (p := true) (q := true) (js := [1]) (own := [("feature", 1)]) rfl sc_law_is_triple.nd (i_seq (p := true) (z_ix (p := true) (q := true) (c_v 0) c_int)) (blkOk_by (own := [("feature", 1)]) (N := ["thing", "feature", "number"]) (sc := defScope s_law_is_triple) (by decide +kernel)) (fun _ _ _ _ _ => (g_nm (i := 1) sc_law_is_triple.nd)) (fun _ _ _ _ _ => (ts_nil (p := true))) (fun _ _ _ _ _ => (c_isi (p := true) (t := .str) (c_v 1) (by decide) n_isinstance n_str PyProof.Rows.boot_str)))) a_nil))))))))
theorem sc_locks_of : FnScope ["installation", "name", "version", "features"] ["installation"] (defScope s_locks_of) := ⟨rfl, rfl, rfl, by decide +kernel, rfl, by decide +kernel, by decide +kernel⟩
theorem ok_locks_of {P : Program} {w : World} {K : PySem.W.Frag} {mg : Str → Option Value} {base : Heap} (F : IsDef K mg "locks_of" s_locks_of) (n_tuple : mg "tuple" = none) : Def P w K mg base 1 "locks_of" 1 d_locks_of :=
  def_ok F sc_locks_of rfl (fun _ _ _ _ _ _ _ us hl => match us, hl with | [_], _ => rfl) fun f cdv A outer s H E hr => (b_one (s_ret (o_of_e (p := false) (z_ct (p := false) p_tuple n_tuple PyProof.Rows.boot_tuple (a_cons (p := false) (q := true) (e_of_o (o_lc (p := true) (q := false) (js := [1, 2, 3]) (own := [("name", 1), ("version", 2), ("features", 3)]) rfl sc_locks_of.nd (i_seq (p := true) (c_v 0)) (blkOk_by (own := [("name", 1), ("version", 2), ("features", 3)]) (N := ["installation", "name", "version", "features"]) (sc := defScope s_locks_of) (by decide +kernel)) (fun _ _ _ _ _ => (g_tup 3 rfl (g_cons (g_nm (i := 1) sc_locks_of.nd) (g_cons (g_nm (i := 2) sc_locks_of.nd) (g_cons (g_nm (i := 3) sc_locks_of.nd) (g_nil (js := []))))))) (fun _ _ _ _ _ => (ts_nil (p := true))) (fun _ _ _ _ _ => (c_tup (p := true) (a_cons (p := true) (q := true) (c_v 1) (a_cons (p := true) (q := true) (c_v 2) a_nil)))))) a_nil)))))
theorem sc_is_integer : FnScope ["thing"] ["thing"] (defScope s_is_integer) := ⟨rfl, rfl, rfl, by decide +kernel, rfl, by decide +kernel, by decide +kernel⟩
theorem ok_is_integer {P : Program} {w : World} {K : PySem.W.Frag} {mg : Str → Option Value} {base : Heap} (F : IsDef K mg "is_integer" s_is_integer) (n_isinstance : mg "isinstance" = none) (n_int : mg "int" = none) (n_bool : mg "bool" = none) : Def P w K mg base 1 "is_integer" 1 d_is_integer :=
  def_ok F sc_is_integer rfl (fun _ _ _ _ _ _ _ us hl => match us, hl with | [_], _ => rfl) fun f cdv A outer s H E hr => (b_one (s_ret (o_of_e (p := true) (c_and (p := true) (q := true) (c_isi (p := true) (t := .int) (c_v 0) (by decide) n_isinstance n_int PyProof.Rows.boot_int) (c_one (c_not (c_isi (p := true) (t := .bl) (c_v 0) (by decide) n_isinstance n_bool PyProof.Rows.boot_bool)))))))
theorem sc_is_within : FnScope ["thing", "least", "most"] ["thing", "least", "most"] (defScope s_is_within) := ⟨rfl, rfl, rfl, by decide +kernel, rfl, by decide +kernel, by decide +kernel⟩
theorem ok_is_within {P : Program} {w : World} {K : PySem.W.Frag} {mg : Str → Option Value} {base : Heap} (F : IsDef K mg "is_within" s_is_within) (h_is_integer : Def P w K mg base 1 "is_integer" 1 d_is_integer) : Def P w K mg base 2 "is_within" 3 d_is_within :=
  def_ok F sc_is_within rfl (fun _ _ _ _ _ _ _ us hl => match us, hl with | [_, _, _], _ => rfl) fun f cdv A outer s H E hr => (b_one (s_ret (o_of_e (p := false) (c_and (p := false) (q := true) (e_of_o (c_call (p := true) h_is_integer hr (a_cons (p := true) (q := true) (c_v 0) a_nil) (ln_cons ln_nil))) (c_one (z_ch (p := true) (q := true) (r := true) (p_le (u0 hr)) (p_le (u0 hr)) (c_v 1) (c_v 0) (c_v 2)))))))
theorem sc_is_version : FnScope ["thing", "number"] ["thing"] (defScope s_is_version) := ⟨rfl, rfl, rfl, by decide +kernel, rfl, by decide +kernel, by decide +kernel⟩
theorem ok_is_version {P : Program} {w : World} {K : PySem.W.Frag} {mg : Str → Option Value} {base : Heap} (F : IsDef K mg "is_version" s_is_version) (h_is_within : Def P w K mg base 2 "is_within" 3 d_is_within) (n_isinstance : mg "isinstance" = none) (n_tuple : mg "tuple" = none) (n_len : mg "len" = none) (n_all : mg "all" = none) (c_GREATEST : IsC K mg "GREATEST" k_GREATEST) : Def P w K mg base 3 "is_version" 1 d_is_version :=
  def_ok F sc_is_version rfl (fun _ _ _ _ _ _ _ us hl => match us, hl with | [_], _ => rfl) fun f cdv A outer s H E hr => (b_one (s_ret (o_of_e (p := false) (c_and (p := true) (q := false) (c_isi (p := true) (t := .tup) (c_v 0) (by decide) n_isinstance n_tuple PyProof.Rows.boot_tuple) (c_and (p := true) (q := false) (z_cmp (p := true) (q := true) (p_eq hr.units) (z_cb (p := true) p_len n_len PySem.boot_len (a_cons (p := true) (q := true) (c_v 0) a_nil)) c_int) (c_one (z_cb (p := false) (p_all rfl) n_all PyProof.Rows.boot_all (a_cons (p := false) (q := true) (e_of_o (o_lc (p := true) (q := false) (js := [1]) (own := [("number", 1)]) rfl sc_is_version.nd (i_seq (p := true) (c_v 0)) (blkOk_by (own := [("number", 1)]) (N := ["thing", "number"]) (sc := defScope s_is_version) (by decide +kernel)) (fun _ _ _ _ _ => (g_nm (i := 1) sc_is_version.nd)) (fun _ _ _ _ _ => (ts_nil (p := true))) (fun _ _ _ _ _ => (e_of_o (c_call (p := true) h_is_within hr (a_cons (p := true) (q := true) (c_v 1) (a_cons (p := true) (q := true) c_int (a_cons (p := true) (q := true) (z_gl c_GREATEST) a_nil))) (ln_cons (ln_cons (ln_cons ln_nil)))))))) a_nil))))))))
theorem sc_is_stretch : FnScope ["thing"] ["thing"] (defScope s_is_stretch) := ⟨rfl, rfl, rfl, by decide +kernel, rfl, by decide +kernel, by decide +kernel⟩
theorem ok_is_stretch {P : Program} {w : World} {K : PySem.W.Frag} {mg : Str → Option Value} {base : Heap} (F : IsDef K mg "is_stretch" s_is_stretch) (h_is_version : Def P w K mg base 3 "is_version" 1 d_is_version) (n_isinstance : mg "isinstance" = none) (n_tuple : mg "tuple" = none) (n_len : mg "len" = none) : Def P w K mg base 4 "is_stretch" 1 d_is_stretch :=
  def_ok F sc_is_stretch rfl (fun _ _ _ _ _ _ _ us hl => match us, hl with | [_], _ => rfl) fun f cdv A outer s H E hr => (b_cons (s_if (p := false) (PW.pt (w_or (p := true) (q := false) (t_not (t_e (p := true) (c_isi (p := true) (t := .tup) (c_v 0) (by decide) n_isinstance n_tuple PyProof.Rows.boot_tuple))) (w_or (p := true) (q := false) (y_cmp (p := true) (q := true) (p_ne hr.units) (z_cb (p := true) p_len n_len PySem.boot_len (a_cons (p := true) (q := true) (c_v 0) a_nil)) c_int) (w_or1 (t_not (t_e (p := false) (e_of_o (c_call (p := true) h_is_version hr (a_cons (p := true) (q := true) (z_ix (p := true) (q := true) (c_v 0) c_int) a_nil) (ln_cons ln_nil))))))))) (b_one (s_ret (o_of_e (p := true) c_bl))) b_nil) (b_one (s_ret (o_of_e (p := false) (c_or (p := true) (q := false) (z_cmp (p := true) (q := true) p_is (z_ix (p := true) (q := true) (c_v 0) c_int) c_non) (c_one (c_and (p := false) (q := true) (e_of_o (c_call (p := true) h_is_version hr (a_cons (p := true) (q := true) (z_ix (p := true) (q := true) (c_v 0) c_int) a_nil) (ln_cons ln_nil))) (c_one (z_cmp (p := true) (q := true) (p_lt (u0 hr)) (z_ix (p := true) (q := true) (c_v 0) c_int) (z_ix (p := true) (q := true) (c_v 0) c_int))))))))))
theorem sc_is_range : FnScope ["thing", "at", "stretch"] ["thing"] (defScope s_is_range) := ⟨rfl, rfl, rfl, by decide +kernel, rfl, by decide +kernel, by decide +kernel⟩
theorem ok_is_range {P : Program} {w : World} {K : PySem.W.Frag} {mg : Str → Option Value} {base : Heap} (F : IsDef K mg "is_range" s_is_range) (h_is_stretch : Def P w K mg base 4 "is_stretch" 1 d_is_stretch) (n_isinstance : mg "isinstance" = none) (n_tuple : mg "tuple" = none) (n_all : mg "all" = none) (n_len : mg "len" = none) (n_range : mg "range" = none) : Def P w K mg base 5 "is_range" 1 d_is_range :=
  def_ok F sc_is_range rfl (fun _ _ _ _ _ _ _ us hl => match us, hl with | [_], _ => rfl) fun f cdv A outer s H E hr => (b_cons (s_if (p := false) (PW.pt (w_or (p := true) (q := false) (t_not (t_e (p := true) (c_isi (p := true) (t := .tup) (c_v 0) (by decide) n_isinstance n_tuple PyProof.Rows.boot_tuple))) (w_or1 (t_not (t_e (p := false) (z_cb (p := false) (p_all rfl) n_all PyProof.Rows.boot_all (a_cons (p := false) (q := true) (e_of_o (o_lc (p := true) (q := false) (js := [2]) (own := [("stretch", 2)]) rfl sc_is_range.nd (i_seq (p := true) (c_v 0)) (blkOk_by (own := [("stretch", 2)]) (N := ["thing", "at", "stretch"]) (sc := defScope s_is_range) (by decide +kernel)) (fun _ _ _ _ _ => (g_nm (i := 2) sc_is_range.nd)) (fun _ _ _ _ _ => (ts_nil (p := true))) (fun _ _ _ _ _ => (e_of_o (c_call (p := true) h_is_stretch hr (a_cons (p := true) (q := true) (c_v 2) a_nil) (ln_cons ln_nil)))))) a_nil))))))) (b_one (s_ret (o_of_e (p := true) c_bl))) b_nil) (b_cons (s_for (js := [1]) PassesOwn.never rfl (i_rg1 (p := true) n_range (z_op (p := true) (q := true) p_sub (z_cb (p := true) p_len n_len PySem.boot_len (a_cons (p := true) (q := true) (c_v 0) a_nil)) c_int)) (g_nm (i := 1) sc_is_range.nd) (b_one (s_if (p := true) (PW.pt (w_or (p := true) (q := true) (y_cmp (p := true) (q := true) p_is (z_ix (p := true) (q := true) (z_ix (p := true) (q := true) (c_v 0) (c_v 1)) c_int) c_non) (w_or1 (t_not (y_cmp (p := true) (q := true) (p_lt (u0 hr)) (z_ix (p := true) (q := true) (z_ix (p := true) (q := true) (c_v 0) (c_v 1)) c_int) (z_ix (p := true) (q := true) (z_ix (p := true) (q := true) (c_v 0) (z_op (p := true) (q := true) p_add (c_v 1) c_int)) c_int)))))) (b_one (s_ret (o_of_e (p := true) c_bl))) b_nil))) (b_one (s_ret (o_of_e (p := true) c_bl)))))
theorem sc_is_lot_of_names : FnScope ["thing", "most", "name"] ["thing", "most"] (defScope s_is_lot_of_names) := ⟨rfl, rfl, rfl, by decide +kernel, rfl, by decide +kernel, by decide +kernel⟩
theorem ok_is_lot_of_names {P : Program} {w : World} {K : PySem.W.Frag} {mg : Str → Option Value} {base : Heap} (F : IsDef K mg "is_lot_of_names" s_is_lot_of_names) (h_is_name : Def P w K mg base 1 "is_name" 1 d_is_name) (h_is_rising : Def P w K mg base 1 "is_rising" 1 d_is_rising) (n_isinstance : mg "isinstance" = none) (n_tuple : mg "tuple" = none) (n_len : mg "len" = none) (n_all : mg "all" = none) : Def P w K mg base 2 "is_lot_of_names" 2 d_is_lot_of_names :=
  def_ok F sc_is_lot_of_names rfl (fun _ _ _ _ _ _ _ us hl => match us, hl with | [_, _], _ => rfl) fun f cdv A outer s H E hr => (b_cons (s_if (p := false) (PW.pt (w_or (p := true) (q := false) (t_not (t_e (p := true) (c_isi (p := true) (t := .tup) (c_v 0) (by decide) n_isinstance n_tuple PyProof.Rows.boot_tuple))) (w_or (p := true) (q := false) (y_cmp (p := true) (q := true) p_gt (z_cb (p := true) p_len n_len PySem.boot_len (a_cons (p := true) (q := true) (c_v 0) a_nil)) (c_v 1)) (w_or1 (t_not (t_e (p := false) (z_cb (p := false) (p_all rfl) n_all PyProof.Rows.boot_all (a_cons (p := false) (q := true) (e_of_o (o_lc (p := true) (q := false) (js := [2]) (own := [("name", 2)]) rfl sc_is_lot_of_names.nd (i_seq (p := true) (c_v 0)) (blkOk_by (own := [("name", 2)]) (N := ["thing", "most", "name"]) (sc := defScope s_is_lot_of_names) (by decide +kernel)) (fun _ _ _ _ _ => (g_nm (i := 2) sc_is_lot_of_names.nd)) (fun _ _ _ _ _ => (ts_nil (p := true))) (fun _ _ _ _ _ => (e_of_o (c_call (p := true) h_is_name hr (a_cons (p := true) (q := true) (c_v 2) a_nil) (ln_cons ln_nil)))))) a_nil)))))))) (b_one (s_ret (o_of_e (p := true) c_bl))) b_nil) (b_one (s_ret (c_call (p := true) h_is_rising hr (a_cons (p := true) (q := true) (c_v 0) a_nil) (ln_cons ln_nil)))))
theorem sc_is_wish : FnScope ["thing"] ["thing"] (defScope s_is_wish) := ⟨rfl, rfl, rfl, by decide +kernel, rfl, by decide +kernel, by decide +kernel⟩
theorem ok_is_wish {P : Program} {w : World} {K : PySem.W.Frag} {mg : Str → Option Value} {base : Heap} (F : IsDef K mg "is_wish" s_is_wish) (h_is_name : Def P w K mg base 1 "is_name" 1 d_is_name) (h_is_range : Def P w K mg base 5 "is_range" 1 d_is_range) (h_is_lot_of_names : Def P w K mg base 2 "is_lot_of_names" 2 d_is_lot_of_names) (n_isinstance : mg "isinstance" = none) (n_tuple : mg "tuple" = none) (n_len : mg "len" = none) (c_MOST_WANTED : IsC K mg "MOST_WANTED" k_MOST_WANTED) : Def P w K mg base 6 "is_wish" 1 d_is_wish :=
  def_ok F sc_is_wish rfl (fun _ _ _ _ _ _ _ us hl => match us, hl with | [_], _ => rfl) fun f cdv A outer s H E hr => (b_cons (s_if (p := false) (PW.pt (w_or (p := true) (q := false) (t_not (t_e (p := true) (c_isi (p := true) (t := .tup) (c_v 0) (by decide) n_isinstance n_tuple PyProof.Rows.boot_tuple))) (w_or (p := true) (q := false) (y_cmp (p := true) (q := true) (p_ne hr.units) (z_cb (p := true) p_len n_len PySem.boot_len (a_cons (p := true) (q := true) (c_v 0) a_nil)) c_int) (w_or1 (t_not (t_e (p := false) (e_of_o (c_call (p := true) h_is_name hr (a_cons (p := true) (q := true) (z_ix (p := true) (q := true) (c_v 0) c_int) a_nil) (ln_cons ln_nil))))))))) (b_one (s_ret (o_of_e (p := true) c_bl))) b_nil) (b_one (s_ret (o_of_e (p := false) (c_and (p := false) (q := false) (e_of_o (c_call (p := true) h_is_range hr (a_cons (p := true) (q := true) (z_ix (p := true) (q := true) (c_v 0) c_int) a_nil) (ln_cons ln_nil))) (c_one (e_of_o (c_call (p := true) h_is_lot_of_names hr (a_cons (p := true) (q := true) (z_ix (p := true) (q := true) (c_v 0) c_int) (a_cons (p := true) (q := true) (z_gl c_MOST_WANTED) a_nil)) (ln_cons (ln_cons ln_nil))))))))))
theorem sc_are_locks : FnScope ["thing", "pair"] ["thing"] (defScope s_are_locks) := ⟨rfl, rfl, rfl, by decide +kernel, rfl, by decide +kernel, by decide +kernel⟩
theorem ok_are_locks {P : Program} {w : World} {K : PySem.W.Frag} {mg : Str → Option Value} {base : Heap} (F : IsDef K mg "are_locks" s_are_locks) (h_is_name : Def P w K mg base 1 "is_name" 1 d_is_name) (h_is_version : Def P w K mg base 3 "is_version" 1 d_is_version) (h_is_rising : Def P w K mg base 1 "is_rising" 1 d_is_rising) (n_isinstance : mg "isinstance" = none) (n_tuple : mg "tuple" = none) (n_len : mg "len" = none) (n_all : mg "all" = none) (c_MOST_LOCKS : IsC K mg "MOST_LOCKS" k_MOST_LOCKS) : Def P w K mg base 4 "are_locks" 1 d_are_locks :=
  def_ok F sc_are_locks rfl (fun _ _ _ _ _ _ _ us hl => match us, hl with | [_], _ => rfl) fun f cdv A outer s H E hr => (b_cons (s_if (p := true) (PW.pt (w_or (p := true) (q := true) (t_not (t_e (p := true) (c_isi (p := true) (t := .tup) (c_v 0) (by decide) n_isinstance n_tuple PyProof.Rows.boot_tuple))) (w_or1 (y_cmp (p := true) (q := true) p_gt (z_cb (p := true) p_len n_len PySem.boot_len (a_cons (p := true) (q := true) (c_v 0) a_nil)) (z_gl c_MOST_LOCKS))))) (b_one (s_ret (o_of_e (p := true) c_bl))) b_nil) (b_cons (s_if (p := false) (t_not (t_e (p := false) (z_cb (p := false) (p_all rfl) n_all PyProof.Rows.boot_all (a_cons (p := false) (q := true) (e_of_o (o_lc (p := true) (q := false) (js := [1]) (own := [("pair", 1)]) rfl sc_are_locks.nd (i_seq (p := true) (c_v 0)) (blkOk_by (own := [("pair", 1)]) (N := ["thing", "pair"]) (sc := defScope s_are_locks) (by decide +kernel)) (fun _ _ _ _ _ => (g_nm (i := 1) sc_are_locks.nd)) (fun _ _ _ _ _ => (ts_nil (p := true))) (fun _ _ _ _ _ => (c_and (p := true) (q := false) (c_isi (p := true) (t := .tup) (c_v 1) (by decide) n_isinstance n_tuple PyProof.Rows.boot_tuple) (c_and (p := true) (q := false) (z_cmp (p := true) (q := true) (p_eq hr.units) (z_cb (p := true) p_len n_len PySem.boot_len (a_cons (p := true) (q := true) (c_v 1) a_nil)) c_int) (c_one (e_of_o (c_call (p := true) h_is_name hr (a_cons (p := true) (q := true) (z_ix (p := true) (q := true) (c_v 1) c_int) a_nil) (ln_cons ln_nil))))))))) a_nil)))) (b_one (s_ret (o_of_e (p := true) c_bl))) b_nil) (b_one (s_ret (o_of_e (p := false) (c_and (p := false) (q := false) (z_cb (p := false) (p_all rfl) n_all PyProof.Rows.boot_all (a_cons (p := false) (q := true) (e_of_o (o_lc (p := true) (q := false) (js := [1]) (own := [("pair", 1)]) rfl sc_are_locks.nd (i_seq (p := true) (c_v 0)) (blkOk_by (own := [("pair", 1)]) (N := ["thing", "pair"]) (sc := defScope s_are_locks) (by decide +kernel)) (fun _ _ _ _ _ => (g_nm (i := 1) sc_are_locks.nd)) (fun _ _ _ _ _ => (ts_nil (p := true))) (fun _ _ _ _ _ => (e_of_o (c_call (p := true) h_is_version hr (a_cons (p := true) (q := true) (z_ix (p := true) (q := true) (c_v 1) c_int) a_nil) (ln_cons ln_nil)))))) a_nil)) (c_one (e_of_o (c_call (p := false) h_is_rising hr (a_cons (p := false) (q := true) (e_of_o (o_lc (p := true) (q := true) (js := [1]) (own := [("pair", 1)]) rfl sc_are_locks.nd (i_seq (p := true) (c_v 0)) (blkOk_by (own := [("pair", 1)]) (N := ["thing", "pair"]) (sc := defScope s_are_locks) (by decide +kernel)) (fun _ _ _ _ _ => (g_nm (i := 1) sc_are_locks.nd)) (fun _ _ _ _ _ => (ts_nil (p := true))) (fun _ _ _ _ _ => (z_ix (p := true) (q := true) (c_v 1) c_int)))) a_nil) (ln_cons ln_nil))))))))))
theorem sc_Question : FnScope ["self", "wishes", "locks", "at", "wish"] ["self", "wishes", "locks"] (defScope s_Question) := ⟨rfl, rfl, rfl, by decide +kernel, rfl, by decide +kernel, by decide +kernel⟩
theorem ok_Question {P : Program} {w : World} {K : PySem.W.Frag} {mg : Str → Option Value} {base : Heap} (F : IsIni K mg "Question" "Question.__init__" s_Question) (h_is_wish : Def P w K mg base 6 "is_wish" 1 d_is_wish) (h_are_locks : Def P w K mg base 4 "are_locks" 1 d_are_locks) (n_isinstance : mg "isinstance" = none) (n_tuple : mg "tuple" = none) (n_len : mg "len" = none) (n_enumerate : mg "enumerate" = none) (c_MOST_WISHES : IsC K mg "MOST_WISHES" k_MOST_WISHES) (b_wishes : ∀ c ∈ fi_wishes, NoAttr K (He.ga K c) "wishes") (b_locks : ∀ c ∈ fi_locks, NoAttr K (He.ga K c) "locks") : MadeI P w K mg base 7 "Question" 3 d_Question :=
  ini_def F sc_Question rfl (fun _ _ _ _ _ _ _ us hl => match us, hl with | [_, _, _], _ => rfl) fun f cdv A outer s H E hr => (b_cons (s_if (p := true) (PW.pt (w_or (p := true) (q := true) (t_not (t_e (p := true) (c_isi (p := true) (t := .tup) (c_v 1) (by decide) n_isinstance n_tuple PyProof.Rows.boot_tuple))) (w_or1 (y_cmp (p := true) (q := true) p_gt (z_cb (p := true) p_len n_len PySem.boot_len (a_cons (p := true) (q := true) (c_v 1) a_nil)) (z_gl c_MOST_WISHES))))) (b_one s_never) b_nil) (b_cons (s_for (js := [3, 4]) PassesOwn.never rfl (i_en (p := true) n_enumerate (c_v 1)) (g_tup 2 rfl (g_cons (g_nm (i := 3) sc_Question.nd) (g_cons (g_nm (i := 4) sc_Question.nd) (g_nil (js := []))))) (b_one (s_if (p := false) (t_not (t_e (p := false) (e_of_o (c_call (p := true) h_is_wish hr (a_cons (p := true) (q := true) (c_v 4) a_nil) (ln_cons ln_nil))))) (b_one s_never) b_nil))) (b_cons (s_if (p := false) (t_not (t_e (p := false) (e_of_o (c_call (p := true) h_are_locks hr (a_cons (p := true) (q := true) (c_v 2) a_nil) (ln_cons ln_nil))))) (b_one s_never) b_nil) (b_cons (s_fld (p := true) (q := true) b_wishes (c_v 1) (c_v 0)) (b_one (s_fld (p := true) (q := true) b_locks (c_v 2) (c_v 0)))))))
theorem sc_law_is_right : FnScope ["installation", "text", "back", "locks", "due", "triple", "pair"] ["installation"] (defScope s_law_is_right) := ⟨rfl, rfl, rfl, by decide +kernel, rfl, by decide +kernel, by decide +kernel⟩
theorem ok_law_is_right {P : Program} {w : World} {K : PySem.W.Frag} {mg : Str → Option Value} {base : Heap} (F : IsDef K mg "_law_is_right" s_law_is_right) (h_lock_text : Def P w K mg base 3 "lock_text" 1 d_lock_text) (h_law_text : Def P w K mg base 2 "_law_text" 1 d_law_text) (h_read_lock : Def P w K mg base 4 "read_lock" 1 d_read_lock) (h_law_is_triple : Def P w K mg base 1 "_law_is_triple" 1 d_law_is_triple) (h_locks_of : Def P w K mg base 1 "locks_of" 1 d_locks_of) (h_Question : MadeI P w K mg base 7 "Question" 3 d_Question) (n_isinstance : mg "isinstance" = none) (n_str : mg "str" = none) (n_tuple : mg "tuple" = none) (n_all : mg "all" = none) (n_len : mg "len" = none) (b_locks : ∀ c ∈ fi_locks, NoAttr K (He.ga K c) "locks") : Def P w K mg base 9 "_law_is_right" 1 d_law_is_right :=
  def_ok F sc_law_is_right rfl (fun _ _ _ _ _ _ _ us hl => match us, hl with | [_], _ => rfl) fun f cdv A outer s H E hr => (b_cons (s_asg (i := 1) sc_law_is_right.nd (c_call (p := true) h_lock_text hr (a_cons (p := true) (q := true) (c_v 0) a_nil) (ln_cons ln_nil))) (b_cons (s_if (p := false) (PW.pt (w_or (p := true) (q := false) (t_not (t_e (p := true) (c_isi (p := true) (t := .str) (c_v 1) (by decide) n_isinstance n_str PyProof.Rows.boot_str))) (w_or1 (y_cmp (p := true) (q := false) (p_ne hr.units) (c_v 1) (e_of_o (c_call (p := true) h_law_text hr (a_cons (p := true) (q := true) (c_v 0) a_nil) (ln_cons ln_nil))))))) (b_one (s_ret (o_of_e (p := true) c_bl))) b_nil) (b_cons (s_asg (i := 2) sc_law_is_right.nd (c_call (p := true) h_read_lock hr (a_cons (p := true) (q := true) (c_v 1) a_nil) (ln_cons ln_nil))) (b_cons (s_if (p := false) (PW.pt (w_or (p := true) (q := false) (t_not (t_e (p := true) (c_isi (p := true) (t := .tup) (c_v 2) (by decide) n_isinstance n_tuple PyProof.Rows.boot_tuple))) (w_or (p := false) (q := true) (t_not (t_e (p := false) (z_cb (p := false) (p_all rfl) n_all PyProof.Rows.boot_all (a_cons (p := false) (q := true) (e_of_o (o_lc (p := true) (q := false) (js := [5]) (own := [("triple", 5)]) rfl sc_law_is_right.nd (i_seq (p := true) (c_v 2)) (blkOk_by (own := [("triple", 5)]) (N := ["installation", "text", "back", "locks", "due", "triple", "pair"]) (sc := defScope s_law_is_right) (by decide +kernel)) (fun _ _ _ _ _ => (g_nm (i := 5) sc_law_is_right.nd)) (fun _ _ _ _ _ => (ts_nil (p := true))) (fun _ _ _ _ _ => (e_of_o (c_call (p := true) h_law_is_triple hr (a_cons (p := true) (q := true) (c_v 5) a_nil) (ln_cons ln_nil)))))) a_nil)))) (w_or1 (y_cmp (p := true) (q := true) (p_ne hr.units) (c_v 2) (c_v 0)))))) (b_one (s_ret (o_of_e (p := true) c_bl))) b_nil) (b_cons (s_asg (i := 3) sc_law_is_right.nd (c_call (p := true) h_locks_of hr (a_cons (p := true) (q := true) (c_v 0) a_nil) (ln_cons ln_nil))) (b_cons (s_asg (i := 4) sc_law_is_right.nd (o_of_e (p := false) (z_ct (p := false) p_tuple n_tuple PyProof.Rows.boot_tuple (a_cons (p := false) (q := true) (e_of_o (o_lc (p := true) (q := false) (js := [5]) (own := [("triple", 5)]) rfl sc_law_is_right.nd (i_seq (p := true) (c_v 0)) (blkOk_by (own := [("triple", 5)]) (N := ["installation", "text", "back", "locks", "due", "triple", "pair"]) (sc := defScope s_law_is_right) (by decide +kernel)) (fun _ _ _ _ _ => (g_nm (i := 5) sc_law_is_right.nd)) (fun _ _ _ _ _ => (ts_nil (p := true))) (fun _ _ _ _ _ => (c_tup (p := true) (a_cons (p := true) (q := true) (z_ix (p := true) (q := true) (c_v 5) c_int) (a_cons (p := true) (q := true) (z_ix (p := true) (q := true) (c_v 5) c_int) a_nil)))))) a_nil)))) (b_cons (s_if (p := false) (PW.pt (w_or (p := true) (q := false) (t_not (t_e (p := true) (c_isi (p := true) (t := .tup) (c_v 3) (by decide) n_isinstance n_tuple PyProof.Rows.boot_tuple))) (w_or (p := false) (q := true) (t_not (t_e (p := false) (z_cb (p := false) (p_all rfl) n_all PyProof.Rows.boot_all (a_cons (p := false) (q := true) (e_of_o (o_lc (p := true) (q := true) (js := [6]) (own := [("pair", 6)]) rfl sc_law_is_right.nd (i_seq (p := true) (c_v 3)) (blkOk_by (own := [("pair", 6)]) (N := ["installation", "text", "back", "locks", "due", "triple", "pair"]) (sc := defScope s_law_is_right) (by decide +kernel)) (fun _ _ _ _ _ => (g_nm (i := 6) sc_law_is_right.nd)) (fun _ _ _ _ _ => (ts_nil (p := true))) (fun _ _ _ _ _ => (c_isi (p := true) (t := .tup) (c_v 6) (by decide) n_isinstance n_tuple PyProof.Rows.boot_tuple)))) a_nil)))) (w_or1 (y_cmp (p := true) (q := true) (p_ne hr.units) (c_v 3) (c_v 4)))))) (b_one (s_ret (o_of_e (p := true) c_bl))) b_nil) (b_one (s_ret (o_of_e (p := false) (c_or (p := true) (q := false) (z_cmp (p := true) (q := true) p_gt (z_cb (p := true) p_len n_len PySem.boot_len (a_cons (p := true) (q := true) (c_v 3) a_nil)) c_int) (c_one (z_cmp (p := false) (q := true) (p_eq hr.units) (c_fl (p := false) b_locks (e_of_o (c_new (p := false) h_Question hr (a_cons (p := false) (q := true) (c_tup (p := true) a_nil) (a_cons (p := true) (q := true) (c_v 3) a_nil)) (ln_io (ln_cons (ln_cons ln_nil)))))) (c_v 4))))))))))))))
theorem sc_law : FnScope ["script", "hand", "turn", "one", "other"] ["script"] (defScope s_law) := ⟨rfl, rfl, rfl, by decide +kernel, rfl, by decide +kernel, by decide +kernel⟩
theorem ok_law {P : Program} {w : World} {K : PySem.W.Frag} {mg : Str → Option Value} {base : Heap} {f : Addr} {fd : FuncData} (F : FunD K "law" "law" (defArgs s_law) (defBody s_law) (defScope s_law) [] [] f fd) (h_law_hand : Def P w K mg base 1 "_law_hand" 1 d_law_hand) (h_law_installation : Def P w K mg base 4 "_law_installation" 1 d_law_installation) (h_law_unlike : Def P w K mg base 3 "_law_unlike" 2 d_law_unlike) (h_law_is_right : Def P w K mg base 9 "_law_is_right" 1 d_law_is_right) (h_lock_text : Def P w K mg base 3 "lock_text" 1 d_lock_text) (n_range : mg "range" = none) : FnOk P w K mg base CX0 10 f fd ["script"] (spF K 1 d_law) :=
  def_okF F sc_law rfl fun f cdv A outer s H E hr => (b_cons (s_asg (i := 1) sc_law.nd (c_call (p := true) h_law_hand hr (a_cons (p := true) (q := true) (c_v 0) a_nil) (ln_cons ln_nil))) (b_cons (s_for (js := [2]) PassesOwn.never rfl (i_rg1 (p := true) n_range c_int) (g_nm (i := 2) sc_law.nd) (b_cons (s_asg (i := 3) sc_law.nd (c_io (p := true) 1 h_law_installation hr a_nil (ln_io ln_nil))) (b_cons (s_asg (i := 4) sc_law.nd (c_io (p := true) 1 h_law_unlike hr (a_cons (p := true) (q := true) (c_v 3) a_nil) (ln_io (ln_cons ln_nil)))) (b_cons (s_if (p := false) (PW.pt (w_or (p := false) (q := false) (t_not (t_e (p := false) (e_of_o (c_call (p := true) h_law_is_right hr (a_cons (p := true) (q := true) (c_v 3) a_nil) (ln_cons ln_nil))))) (w_or1 (t_not (t_e (p := false) (e_of_o (c_call (p := true) h_law_is_right hr (a_cons (p := true) (q := true) (c_v 4) a_nil) (ln_cons ln_nil)))))))) (b_one (s_ret (o_of_e (p := true) c_bl))) b_nil) (b_one (s_if (p := false) (y_cmp (p := false) (q := true) (p_ne hr.units) (z_cmp (p := false) (q := false) (p_eq hr.units) (e_of_o (c_call (p := true) h_lock_text hr (a_cons (p := true) (q := true) (c_v 3) a_nil) (ln_cons ln_nil))) (e_of_o (c_call (p := true) h_lock_text hr (a_cons (p := true) (q := true) (c_v 4) a_nil) (ln_cons ln_nil)))) (z_cmp (p := true) (q := true) (p_eq hr.units) (c_v 3) (c_v 4))) (b_one (s_ret (o_of_e (p := true) c_bl))) b_nil)))))) (b_one (s_ret (o_of_e (p := true) c_bl)))))
end K41

end

section
set_option Elab.async false
set_option linter.all false
set_option maxRecDepth 100000
set_option maxHeartbeats 0
namespace K41
open PySem L2 DL TL
theorem F_law_hand {a0 : T} {Q : T → List T → Prop} (h : W (m_law_hand [some a0, none, none]) (Kfn io_law_hand [a0] Q)) : Fok (d_law_hand [a0]) Q := Fok_fnD h
theorem F_law_draw {a0 a1 : T} {Q : T → List T → Prop} (h : W (m_law_draw [some a0, some a1, none, none, none]) (Kfn io_law_draw [a0, a1] Q)) : Fok (d_law_draw [a0, a1]) Q := Fok_fnD h
theorem F_law_any {a0 a1 : T} {Q : T → List T → Prop} (h : W (m_law_any [some a0, some a1]) (Kfn io_law_any [a0, a1] Q)) : Fok (d_law_any [a0, a1]) Q := Fok_fnD h
theorem F_law_name {a0 : T} {Q : T → List T → Prop} (h : W (m_law_name [some a0, none, none]) (Kfn io_law_name [a0] Q)) : Fok (d_law_name [a0]) Q := Fok_fnD h
theorem F_law_installation {a0 : T} {Q : T → List T → Prop} (h : W (m_law_installation [some a0, none, none, none, none, none]) (Kfn io_law_installation [a0] Q)) : Fok (d_law_installation [a0]) Q := Fok_fnD h
theorem F_law_unlike {a0 a1 : T} {Q : T → List T → Prop} (h : W (m_law_unlike [some a0, some a1, none, none, none, none, none, none, none, none, none, none, none, none]) (Kfn io_law_unlike [a0, a1] Q)) : Fok (d_law_unlike [a0, a1]) Q := Fok_fnD h
theorem F_version_text {a0 : T} {Q : T → List T → Prop} (h : W (m_version_text [some a0, none]) (Kfn io_version_text [a0] Q)) : Fok (d_version_text [a0]) Q := Fok_fnD h
theorem F_triple_text {a0 : T} {Q : T → List T → Prop} (h : W (m_triple_text [some a0]) (Kfn io_triple_text [a0] Q)) : Fok (d_triple_text [a0]) Q := Fok_fnD h
theorem F_check_of {a0 : T} {Q : T → List T → Prop} (h : W (m_check_of [some a0, none, none]) (Kfn io_check_of [a0] Q)) : Fok (d_check_of [a0]) Q := Fok_fnD h
theorem F_lock_text {a0 : T} {Q : T → List T → Prop} (h : W (m_lock_text [some a0, none, none]) (Kfn io_lock_text [a0] Q)) : Fok (d_lock_text [a0]) Q := Fok_fnD h
theorem F_law_line {a0 : T} {Q : T → List T → Prop} (h : W (m_law_line [some a0, none, none, none, none, none]) (Kfn io_law_line [a0] Q)) : Fok (d_law_line [a0]) Q := Fok_fnD h
theorem F_law_check {a0 : T} {Q : T → List T → Prop} (h : W (m_law_check [some a0, none, none, none]) (Kfn io_law_check [a0] Q)) : Fok (d_law_check [a0]) Q := Fok_fnD h
theorem F_law_text {a0 : T} {Q : T → List T → Prop} (h : W (m_law_text [some a0, none, none]) (Kfn io_law_text [a0] Q)) : Fok (d_law_text [a0]) Q := Fok_fnD h
theorem F_is_name {a0 : T} {Q : T → List T → Prop} (h : W (m_is_name [some a0, none]) (Kfn io_is_name [a0] Q)) : Fok (d_is_name [a0]) Q := Fok_fnD h
theorem F_number_told {a0 a1 : T} {Q : T → List T → Prop} (h : W (m_number_told [some a0, some a1, none]) (Kfn io_number_told [a0, a1] Q)) : Fok (d_number_told [a0, a1]) Q := Fok_fnD h
theorem F_version_told {a0 : T} {Q : T → List T → Prop} (h : W (m_version_told [some a0, none, none]) (Kfn io_version_told [a0] Q)) : Fok (d_version_told [a0]) Q := Fok_fnD h
theorem F_is_rising {a0 : T} {Q : T → List T → Prop} (h : W (m_is_rising [some a0, none]) (Kfn io_is_rising [a0] Q)) : Fok (d_is_rising [a0]) Q := Fok_fnD h
theorem F_triple_told {a0 : T} {Q : T → List T → Prop} (h : W (m_triple_told [some a0, none, none, none, none]) (Kfn io_triple_told [a0] Q)) : Fok (d_triple_told [a0]) Q := Fok_fnD h
theorem F_ended {a0 a1 a2 a3 a4 : T} {Q : T → List T → Prop} (h : W (m_ended [some a0, some a1, some a2, some a3, some a4]) (Kfn io_ended [a0, a1, a2, a3, a4] Q)) : Fok (d_ended [a0, a1, a2, a3, a4]) Q := Fok_fnD h
theorem F_read_lock {a0 : T} {Q : T → List T → Prop} (h : W (m_read_lock [some a0, none, none, none, none, none, none]) (Kfn io_read_lock [a0] Q)) : Fok (d_read_lock [a0]) Q := Fok_fnD h
theorem F_law_is_triple {a0 : T} {Q : T → List T → Prop} (h : W (m_law_is_triple [some a0, none, none]) (Kfn io_law_is_triple [a0] Q)) : Fok (d_law_is_triple [a0]) Q := Fok_fnD h
theorem F_locks_of {a0 : T} {Q : T → List T → Prop} (h : W (m_locks_of [some a0, none, none, none]) (Kfn io_locks_of [a0] Q)) : Fok (d_locks_of [a0]) Q := Fok_fnD h
theorem F_is_integer {a0 : T} {Q : T → List T → Prop} (h : W (m_is_integer [some a0]) (Kfn io_is_integer [a0] Q)) : Fok (d_is_integer [a0]) Q := Fok_fnD h
theorem F_is_within {a0 a1 a2 : T} {Q : T → List T → Prop} (h : W (m_is_within [some a0, some a1, some a2]) (Kfn io_is_within [a0, a1, a2] Q)) : Fok (d_is_within [a0, a1, a2]) Q := Fok_fnD h
theorem F_is_version {a0 : T} {Q : T → List T → Prop} (h : W (m_is_version [some a0, none]) (Kfn io_is_version [a0] Q)) : Fok (d_is_version [a0]) Q := Fok_fnD h
theorem F_is_stretch {a0 : T} {Q : T → List T → Prop} (h : W (m_is_stretch [some a0]) (Kfn io_is_stretch [a0] Q)) : Fok (d_is_stretch [a0]) Q := Fok_fnD h
theorem F_is_range {a0 : T} {Q : T → List T → Prop} (h : W (m_is_range [some a0, none, none]) (Kfn io_is_range [a0] Q)) : Fok (d_is_range [a0]) Q := Fok_fnD h
theorem F_is_lot_of_names {a0 a1 : T} {Q : T → List T → Prop} (h : W (m_is_lot_of_names [some a0, some a1, none]) (Kfn io_is_lot_of_names [a0, a1] Q)) : Fok (d_is_lot_of_names [a0, a1]) Q := Fok_fnD h
theorem F_is_wish {a0 : T} {Q : T → List T → Prop} (h : W (m_is_wish [some a0]) (Kfn io_is_wish [a0] Q)) : Fok (d_is_wish [a0]) Q := Fok_fnD h
theorem F_are_locks {a0 : T} {Q : T → List T → Prop} (h : W (m_are_locks [some a0, none]) (Kfn io_are_locks [a0] Q)) : Fok (d_are_locks [a0]) Q := Fok_fnD h
theorem F_Question {a0 a1 a2 : T} {Q : T → List T → Prop} (h : W (m_Question [some a0, some a1, some a2, none, none]) (Kfn io_Question [a0, a1, a2] Q)) : Fok (d_Question [a0, a1, a2]) Q := Fok_fnD h
theorem F_law_is_right {a0 : T} {Q : T → List T → Prop} (h : W (m_law_is_right [some a0, none, none, none, none, none, none]) (Kfn io_law_is_right [a0] Q)) : Fok (d_law_is_right [a0]) Q := Fok_fnD h
theorem F_law {a0 : T} {Q : T → List T → Prop} (h : W (m_law [some a0, none, none, none, none]) (Kfn io_law [a0] Q)) : Fok (d_law [a0]) Q := Fok_fnD h
end K41

end

section
set_option Elab.async false
set_option linter.all false
set_option maxRecDepth 100000
set_option maxHeartbeats 0
namespace K41
open PySem PySem.Spec PyProof.Rows L2 DL TL
def hd_fr : List Str := ["int", "abs", "len", "range", "sorted", "set", "tuple", "str", "enumerate", "ord", "sum", "isinstance", "all", "bool"]
def hd_cs : List (Str × D) := [("BY", k_BY), ("CHECK", k_CHECK), ("MOST_SIGNS", k_MOST_SIGNS), ("SMALL", k_SMALL), ("FIGURES", k_FIGURES), ("GREATEST", k_GREATEST), ("MOST_WANTED", k_MOST_WANTED), ("MOST_LOCKS", k_MOST_LOCKS), ("MOST_WISHES", k_MOST_WISHES)]
def hd_fn : List (Str × Stmt) := ([("is_integer", s_is_integer), ("is_within", s_is_within), ("is_name", s_is_name), ("is_rising", s_is_rising), ("is_lot_of_names", s_is_lot_of_names), ("number_told", s_number_told), ("is_version", s_is_version), ("is_stretch", s_is_stretch), ("is_range", s_is_range), ("version_text", s_version_text), ("version_told", s_version_told), ("check_of", s_check_of), ("triple_text", s_triple_text), ("lock_text", s_lock_text), ("triple_told", s_triple_told), ("read_lock", s_read_lock), ("ended", s_ended), ("locks_of", s_locks_of), ("is_wish", s_is_wish), ("are_locks", s_are_locks)] : List (Str × Stmt)) ++ ([("_law_hand", s_law_hand), ("_law_draw", s_law_draw), ("_law_any", s_law_any), ("_law_name", s_law_name), ("_law_installation", s_law_installation), ("_law_check", s_law_check), ("_law_line", s_law_line), ("_law_text", s_law_text), ("_law_is_triple", s_law_is_triple), ("_law_is_right", s_law_is_right), ("_law_unlike", s_law_unlike), ("law", s_law)] : List (Str × Stmt))
abbrev R : PySem.W.OpenRow := PySem.W.OpenLaw.row PySem.Challenge.rw_pinforge_k41_whole_locks_there_and_back
def hx : HX := { P := PySem.Challenge.pw_pinforge_k41_whole_locks_there_and_back, fr := hd_fr, cs := hd_cs, fn := hd_fn, es := [], er := [], tabs := [], iss := [], nas := [("Question", "wishes"), ("Question", "locks")] }
def hy : HY := { x := hx, ins := [("Question", "Question.__init__", s_Question)] }
abbrev hk : PySem.W.Hook := hookY 4 hy
def ob (s : PySem.W.SharedT) : AlY := obsYG 4 hy (HandSHeadRun.getT s)
theorem ob_eq (s : PySem.W.SharedT) : ob s = hk.obs s.abs := obsYG_eq (HandSHeadRun.getT_eq s)
def loose : List Str := (["is_integer", "is_within", "is_name", "is_rising", "is_lot_of_names", "number_told", "is_version", "is_stretch", "is_range", "version_text", "version_told", "check_of", "triple_text", "lock_text", "triple_told", "read_lock", "ended", "locks_of", "is_wish", "are_locks"] : List Str) ++ (["_law_hand", "_law_draw", "_law_any", "_law_name", "_law_installation", "_law_check", "_law_line", "_law_text", "_law_is_triple", "_law_is_right", "_law_unlike", "SMALL", "FIGURES", "MOST_SIGNS", "GREATEST", "CHECK", "BY", "MOST_WANTED", "MOST_WISHES", "MOST_LOCKS"] : List Str) ++ (["LockError", "BadLine", "BadQuestion", "Question"] : List Str)
theorem run (w : World) : HandSHeadRun.RunEq R (PySem.W.view R.prog [50]) hk ob 60000 loose w := by
  intro os
  kernel_rfl
theorem facts {P : Program} {w : World} {K : PySem.W.Frag} {h : Heap} {mg : Str → Option Value} {f : Addr} (X : K.In h) (G : h.Ns mainGlobals mg) (hfa : mg ("law" : Str) = some (.ref f)) (hP : hx.P = P) (htop : (P.main.scope.names.lookup ("super" : Str)).isSome = false) (c : SaysY hy K) :
    ∃ fd : FuncData, (∀ (s : Shared) (v : Value), BindsTo s fd ⟨[v], []⟩ [("script", v)]) ∧ ∀ base : Heap, K.In base → base.Ns mainGlobals mg → FnOk P w K mg base CX0 10 f fd ["script"] (spF K 1 d_law) := by
  have cy := c
  have c := cy.x
  obtain ⟨fd, F, g⟩ := c.fun_ X G 31 (x := "law") (st := s_law) rfl
  cases hfa.symm.trans g
  have b := FunD.bindsA (ps := ["script"]) F fun _ _ _ _ _ _ us hl => match us, hl with | [_], _ => rfl
  refine ⟨fd, fun s v => b s [v] rfl, fun base _ _ => ?_⟩
  have n_int : mg "int" = none := c.free X G 0 rfl
  have n_abs : mg "abs" = none := c.free X G 1 rfl
  have n_len : mg "len" = none := c.free X G 2 rfl
  have n_range : mg "range" = none := c.free X G 3 rfl
  have n_sorted : mg "sorted" = none := c.free X G 4 rfl
  have n_set : mg "set" = none := c.free X G 5 rfl
  have n_tuple : mg "tuple" = none := c.free X G 6 rfl
  have n_str : mg "str" = none := c.free X G 7 rfl
  have n_enumerate : mg "enumerate" = none := c.free X G 8 rfl
  have n_ord : mg "ord" = none := c.free X G 9 rfl
  have n_sum : mg "sum" = none := c.free X G 10 rfl
  have n_isinstance : mg "isinstance" = none := c.free X G 11 rfl
  have n_all : mg "all" = none := c.free X G 12 rfl
  have n_bool : mg "bool" = none := c.free X G 13 rfl
  have c_BY : IsC K mg "BY" k_BY := c.con X G 0 rfl
  have c_CHECK : IsC K mg "CHECK" k_CHECK := c.con X G 1 rfl
  have c_MOST_SIGNS : IsC K mg "MOST_SIGNS" k_MOST_SIGNS := c.con X G 2 rfl
  have c_SMALL : IsC K mg "SMALL" k_SMALL := c.con X G 3 rfl
  have c_FIGURES : IsC K mg "FIGURES" k_FIGURES := c.con X G 4 rfl
  have c_GREATEST : IsC K mg "GREATEST" k_GREATEST := c.con X G 5 rfl
  have c_MOST_WANTED : IsC K mg "MOST_WANTED" k_MOST_WANTED := c.con X G 6 rfl
  have c_MOST_LOCKS : IsC K mg "MOST_LOCKS" k_MOST_LOCKS := c.con X G 7 rfl
  have c_MOST_WISHES : IsC K mg "MOST_WISHES" k_MOST_WISHES := c.con X G 8 rfl
  have b_wishes : ∀ c ∈ fi_wishes, NoAttr K (He.ga K c) "wishes" := fun z hz => c.nat (x := z) (f := "wishes") (by revert z; decide)
  have b_locks : ∀ c ∈ fi_locks, NoAttr K (He.ga K c) "locks" := fun z hz => c.nat (x := z) (f := "locks") (by revert z; decide)
  have h_law_hand := ok_law_hand (P := P) (w := w) (base := base) (c.def_ X G 20 (x := "_law_hand") (st := s_law_hand) rfl) n_int n_abs n_len
  have h_law_draw := ok_law_draw (P := P) (w := w) (base := base) (c.def_ X G 21 (x := "_law_draw") (st := s_law_draw) rfl) n_len n_int
  have h_law_any := ok_law_any (P := P) (w := w) (base := base) (c.def_ X G 22 (x := "_law_any") (st := s_law_any) rfl) h_law_draw n_len
  have h_law_name := ok_law_name (P := P) (w := w) (base := base) (c.def_ X G 23 (x := "_law_name") (st := s_law_name) rfl) h_law_draw h_law_any n_range
  have h_law_installation := ok_law_installation (P := P) (w := w) (base := base) (c.def_ X G 24 (x := "_law_installation") (st := s_law_installation) rfl) h_law_any h_law_name h_law_draw n_range n_sorted n_set n_tuple
  have h_law_unlike := ok_law_unlike (P := P) (w := w) (base := base) (c.def_ X G 30 (x := "_law_unlike") (st := s_law_unlike) rfl) h_law_draw h_law_any n_len n_sorted n_set n_tuple
  have h_version_text := ok_version_text (P := P) (w := w) (base := base) (c.def_ X G 9 (x := "version_text") (st := s_version_text) rfl) n_str
  have h_triple_text := ok_triple_text (P := P) (w := w) (base := base) (c.def_ X G 12 (x := "triple_text") (st := s_triple_text) rfl) h_version_text
  have h_check_of := ok_check_of (P := P) (w := w) (base := base) (c.def_ X G 11 (x := "check_of") (st := s_check_of) rfl) n_enumerate n_ord n_sum c_BY
  have h_lock_text := ok_lock_text (P := P) (w := w) (base := base) (c.def_ X G 13 (x := "lock_text") (st := s_lock_text) rfl) h_triple_text h_check_of n_str c_CHECK
  have h_law_line := ok_law_line (P := P) (w := w) (base := base) (c.def_ X G 26 (x := "_law_line") (st := s_law_line) rfl) n_str
  have h_law_check := ok_law_check (P := P) (w := w) (base := base) (c.def_ X G 25 (x := "_law_check") (st := s_law_check) rfl) n_ord n_int
  have h_law_text := ok_law_text (P := P) (w := w) (base := base) (c.def_ X G 27 (x := "_law_text") (st := s_law_text) rfl) h_law_line h_law_check n_str
  have h_is_name := ok_is_name (P := P) (w := w) (base := base) (c.def_ X G 2 (x := "is_name") (st := s_is_name) rfl) n_isinstance n_str n_len n_all c_MOST_SIGNS c_SMALL
  have h_number_told := ok_number_told (P := P) (w := w) (base := base) (c.def_ X G 5 (x := "number_told") (st := s_number_told) rfl) n_len n_all n_int c_MOST_SIGNS c_FIGURES
  have h_version_told := ok_version_told (P := P) (w := w) (base := base) (c.def_ X G 10 (x := "version_told") (st := s_version_told) rfl) h_number_told n_tuple n_len c_GREATEST
  have h_is_rising := ok_is_rising (P := P) (w := w) (base := base) (c.def_ X G 3 (x := "is_rising") (st := s_is_rising) rfl) n_len n_range n_all
  have h_triple_told := ok_triple_told (P := P) (w := w) (base := base) (c.def_ X G 14 (x := "triple_told") (st := s_triple_told) rfl) h_is_name h_version_told h_is_rising n_len n_tuple n_all
  have h_ended := ok_ended (P := P) (w := w) (base := base) (c.def_ X G 16 (x := "ended") (st := s_ended) rfl) h_number_told h_check_of n_len n_tuple c_CHECK c_BY
  have h_read_lock := ok_read_lock (P := P) (w := w) (base := base) (c.def_ X G 15 (x := "read_lock") (st := s_read_lock) rfl) h_triple_told h_ended n_isinstance n_str n_enumerate n_len
  have h_law_is_triple := ok_law_is_triple (P := P) (w := w) (base := base) (c.def_ X G 28 (x := "_law_is_triple") (st := s_law_is_triple) rfl) n_isinstance n_tuple n_len n_str n_int n_bool n_all
  have h_locks_of := ok_locks_of (P := P) (w := w) (base := base) (c.def_ X G 17 (x := "locks_of") (st := s_locks_of) rfl) n_tuple
  have h_is_integer := ok_is_integer (P := P) (w := w) (base := base) (c.def_ X G 0 (x := "is_integer") (st := s_is_integer) rfl) n_isinstance n_int n_bool
  have h_is_within := ok_is_within (P := P) (w := w) (base := base) (c.def_ X G 1 (x := "is_within") (st := s_is_within) rfl) h_is_integer
  have h_is_version := ok_is_version (P := P) (w := w) (base := base) (c.def_ X G 6 (x := "is_version") (st := s_is_version) rfl) h_is_within n_isinstance n_tuple n_len n_all c_GREATEST
  have h_is_stretch := ok_is_stretch (P := P) (w := w) (base := base) (c.def_ X G 7 (x := "is_stretch") (st := s_is_stretch) rfl) h_is_version n_isinstance n_tuple n_len
  have h_is_range := ok_is_range (P := P) (w := w) (base := base) (c.def_ X G 8 (x := "is_range") (st := s_is_range) rfl) h_is_stretch n_isinstance n_tuple n_all n_len n_range
  have h_is_lot_of_names := ok_is_lot_of_names (P := P) (w := w) (base := base) (c.def_ X G 4 (x := "is_lot_of_names") (st := s_is_lot_of_names) rfl) h_is_name h_is_rising n_isinstance n_tuple n_len n_all
  have h_is_wish := ok_is_wish (P := P) (w := w) (base := base) (c.def_ X G 18 (x := "is_wish") (st := s_is_wish) rfl) h_is_name h_is_range h_is_lot_of_names n_isinstance n_tuple n_len c_MOST_WANTED
  have h_are_locks := ok_are_locks (P := P) (w := w) (base := base) (c.def_ X G 19 (x := "are_locks") (st := s_are_locks) rfl) h_is_name h_is_version h_is_rising n_isinstance n_tuple n_len n_all c_MOST_LOCKS
  have h_Question := ok_Question (P := P) (w := w) (base := base) (cy.ini X G 0 (e := ("Question", "Question.__init__", s_Question)) rfl) h_is_wish h_are_locks n_isinstance n_tuple n_len n_enumerate c_MOST_WISHES b_wishes b_locks
  have h_law_is_right := ok_law_is_right (P := P) (w := w) (base := base) (c.def_ X G 29 (x := "_law_is_right") (st := s_law_is_right) rfl) h_lock_text h_law_text h_read_lock h_law_is_triple h_locks_of h_Question n_isinstance n_str n_tuple n_all n_len b_locks
  exact ok_law F h_law_hand h_law_installation h_law_unlike h_law_is_right h_lock_text n_range
end K41

end

section
set_option Elab.async false
set_option linter.all false
set_option maxRecDepth 100000
set_option maxHeartbeats 0
open PySem PySem.W PySem.Calls PyProof.Rows
theorem K41.fin (yes : DL.LawYes K41.d_law) : PySem.Challenge.rw_pinforge_k41_whole_locks_there_and_back.Holds := by
  w_on; o_law
  refine HandSHeadRun.head_any (r := OpenLaw.row PySem.Challenge.rw_pinforge_k41_whole_locks_there_and_back) (q := view (OpenLaw.row PySem.Challenge.rw_pinforge_k41_whole_locks_there_and_back).prog [50]) (H := K41.hk) (ob := K41.ob) (M := 60000) (loose := K41.loose) (d := HandSHeadRun.topDef (OpenLaw.row PySem.Challenge.rw_pinforge_k41_whole_locks_there_and_back).prog 50) (kwd := []) K41.ob_eq
    (by kernel_rfl) (fun s => by kernel_rfl) K41.run (by kernel_rfl) (by kernel_rfl) (by kernel_rfl) (by rfl) (by first | assumption | decide +kernel) (by decide +kernel) ⟨rfl, rfl, rfl, rfl, rfl, by decide +kernel⟩ ?hw ?hc
  case hw => w_witness2
  case hc =>
    refine L2.walk_ofE (l := PySem.Challenge.rw_pinforge_k41_whole_locks_there_and_back) (n := 63) (k := 10) (x := "script") (CX := L2.CX0) rfl (by decide) (by kernel_rfl) ⟨rfl, by decide, by decide⟩ ?F (fun _ _ _ _ z => z)
    intro w mg fa h Y G hmg0
    obtain ⟨K, KX, c⟩ := Y
    have hmg : mg ("law" : PySem.Str) = some (.ref fa) := by
      have e : (HandSHeadRun.topDef (OpenLaw.row PySem.Challenge.rw_pinforge_k41_whole_locks_there_and_back).prog 50).name = ("law" : PySem.Str) := by kernel_rfl
      rw [← e]
      exact hmg0
    obtain ⟨fd, hb, hF⟩ := K41.facts (P := (PySem.Challenge.rw_pinforge_k41_whole_locks_there_and_back).prog) (w := w) KX G hmg rfl (by decide +kernel) c
    exact ⟨K, fd, DL.spF K 1 K41.d_law, KX, hb, fun H a ns hl _ hS => DL.law_sp yes hl hS, hF⟩

end

section
set_option maxHeartbeats 0
set_option maxRecDepth 100000
set_option linter.all false
open PySem L2 DL TL NT LM
local macro_rules | `(tactic| k_call_by "lf" 0) => `(tactic| first
  | (with_reducible exact sh_map)
  | (with_reducible exact sh_5)
  | (with_reducible exact sh_0)
  | (with_reducible exact sh_fz)
  | ((with_reducible apply sh_nd); k_call_by "fz" 0)
  | exact rfl)
local macro_rules | `(tactic| k_call_by "fz" 0) => `(tactic| first
  | (with_reducible exact fzs_n)
  | (with_reducible exact fzs_map _)
  | ((with_reducible apply fzs_c); k_call_by "fz" 0))
local macro_rules | `(tactic| k_call_by "mu" 0) => `(tactic| first
  | exact fSet_0
  | exact fSet_1
  | exact fSet_2
  | exact fSet_3
  | exact fSet_4
  | exact fSet_5
  | exact fSet_6
  | exact fSet_7
  | exact fApp_map (by first | assumption | (simp; done) | (simp; omega))
  | exact fExt_map (by first | assumption | (simp; done) | (simp; omega))
  | exact fApp_ok (by first | assumption | (simp; done) | (simp; omega))
  | exact fExt_ok (by first | assumption | (simp; done) | (simp; omega))
  | assumption
  | exact rfl)
local macro_rules | `(tactic| k_call_by "td" 0) => `(tactic| first
  | (with_reducible exact toDs_n)
  | (with_reducible exact toDs_fz _)
  | ((with_reducible apply toDs_c); k_call_by "td" 0)
  | ((with_reducible apply toDs_nd); k_call_by "td" 0; k_call_by "td" 0)
  | exact rfl)
local macro_rules | `(tactic| k_call_by "tz" 0) => `(tactic| first
  | (with_reducible exact toD_fz)
  | (with_reducible exact toD_map)
  | ((with_reducible apply toD_nd); k_call_by "td" 0)
  | exact rfl)
local macro_rules | `(tactic| k_call_by "call" 0) => `(tactic| fail)
local macro_rules | `(tactic| k_call_by "wA" 0) => `(tactic| first
  | ((with_reducible apply W_eVf); exact rfl)
  | ((with_reducible apply W_eVr); exact rfl)
  | with_reducible apply W_eK
  | with_reducible apply W_eB
  | with_reducible apply W_eCB
  | with_reducible apply W_eO
  | with_reducible apply W_eTup
  | with_reducible apply W_isi
  | with_reducible apply W_isi2
  | with_reducible apply W_eAnd
  | with_reducible apply W_eOr
  | with_reducible apply W_eNot
  | with_reducible apply W_eIf
  | with_reducible apply W_eU1
  | with_reducible apply W_eSl
  | with_reducible apply W_eCh
  | with_reducible apply W_eMu
  | with_reducible apply W_eBm
  | with_reducible apply W_eDic
  | with_reducible apply W_eXf
  | with_reducible apply W_eIsT
  | with_reducible apply W_eFl)
local macro_rules | `(tactic| k_call_by "wS" 0) => `(tactic| first
  | with_reducible apply W_sSq
  | with_reducible apply W_sIf
  | with_reducible apply W_sRt
  | with_reducible apply W_sAs
  | with_reducible apply W_sSub
  | with_reducible apply W_sNx
  | with_reducible apply W_sEx
  | with_reducible apply W_sTg
  | with_reducible apply W_sFor
  | with_reducible apply W_sPar
  | with_reducible apply W_sBk
  | with_reducible apply W_sCt
  | with_reducible apply W_sRtN
  | with_reducible apply W_for_n
  | ((with_reducible apply W_sAug); exact rfl)
  | with_reducible apply W_sTry
  | with_reducible apply W_sRs1
  | with_reducible apply W_sXE
  | with_reducible apply W_sXR
  | with_reducible apply W_sXA
  | with_reducible apply W_sFl)
local macro_rules | `(tactic| k_call_by "wB" 0) => `(tactic| first
  | with_reducible apply W_tB
  | with_reducible apply W_tM
  | with_reducible apply W_tAnd
  | with_reducible apply W_tOr
  | with_reducible apply W_tNt
  | with_reducible apply W_mYes
  | with_reducible apply W_tBx)
local macro_rules | `(tactic| k_call_by "wO" 0) => `(tactic| first
  | with_reducible apply W_oE
  | with_reducible apply W_oCall
  | with_reducible apply W_oLc
  | with_reducible apply W_oLs
  | with_reducible apply W_oDic0
  | ((with_reducible apply W_oV); exact rfl)
  | ((with_reducible apply W_oIO); exact rfl)
  | with_reducible apply W_oDicF
  | with_reducible apply W_oNew)
local macro_rules | `(tactic| k_call_by "wL" 0) => `(tactic| first
  | with_reducible apply W_mNil
  | with_reducible apply W_mCons
  | with_reducible apply W_mAllN
  | with_reducible apply W_mAllC)
local macro_rules | `(tactic| k_call_by "wD" 0) => `(tactic| first
  | with_reducible apply W_iSq
  | with_reducible apply W_iRg1
  | with_reducible apply W_iEn
  | with_reducible apply W_iSt
  | with_reducible apply W_iEnTx
  | with_reducible apply W_iRg2)
local macro_rules | `(tactic| k_call_by "wP" 0) => `(tactic| first
  | with_reducible apply W_pN
  | with_reducible apply W_pM)
local macro_rules | `(tactic| k_call_by "wT" 0) => `(tactic| first
  | with_reducible apply W_osN
  | with_reducible apply W_osC)
local macro_rules | `(tactic| k_call_by "wF" 0) => `(tactic| first
  | with_reducible apply FB_add
  | with_reducible apply FB_addI
  | with_reducible apply FB_sub
  | with_reducible apply FB_lt
  | with_reducible apply FB_le
  | with_reducible apply FB_gt
  | with_reducible apply FB_ge
  | with_reducible apply FB_ltT
  | with_reducible apply FB_leT
  | with_reducible apply FB_maxT
  | with_reducible apply FB_abs
  | with_reducible apply FB_int
  | with_reducible apply FB_slT
  | with_reducible apply FB_slL
  | with_reducible apply FB_slLL
  | with_reducible apply FB_rev
  | with_reducible apply FB_neg
  | with_reducible apply FB_der
  | ((with_reducible apply FB_mul); (first | assumption | exact cMul_r (by decide) | exact cMul_l (by decide) | exact cMul_fm (by decide) | exact cMul_l (by omega) | exact cMul_r (by omega) | assumption))
  | ((with_reducible apply FB_div); (first | decide | assumption | omega))
  | ((with_reducible apply FB_mod); (first | decide | assumption | omega))
  | ((with_reducible apply FB_pow); (first | exact rfl | decide))
  | ((with_reducible apply FB_eq_y); (first | exact eqD_ii | exact eqD_bb | assumption | exact eqD_sL (by decide) (by decide)); assumption)
  | ((with_reducible apply FB_eq_n); (first | exact eqD_ii | exact eqD_bb | assumption | exact eqD_sL (by decide) (by decide)); assumption)
  | ((with_reducible apply FB_ne_y); (first | exact eqD_ii | exact eqD_bb | assumption | exact eqD_sL (by decide) (by decide)); assumption)
  | ((with_reducible apply FB_ne_n); (first | exact eqD_ii | exact eqD_bb | assumption | exact eqD_sL (by decide) (by decide)); assumption)
  | ((with_reducible apply FB_eq); (first | exact eqD_ii | exact eqD_bb | assumption | exact eqD_sL (by decide) (by decide)))
  | ((with_reducible apply FB_ne); (first | exact eqD_ii | exact eqD_bb | assumption | exact eqD_sL (by decide) (by decide)))
  | ((with_reducible apply FB_ix); (first | assumption | exact rfl); exact rfl)
  | ((with_reducible apply FB_len); exact rfl)
  | ((with_reducible apply FB_tuple); exact rfl)
  | ((with_reducible apply FB_list); exact rfl)
  | ((with_reducible apply FB_all); exact rfl; (first | assumption | exact bls_map _ _ | exact rfl))
  | ((with_reducible apply FB_any); exact rfl; (first | assumption | exact bls_map _ _ | exact rfl))
  | ((with_reducible apply FB_catT); (first | decide | assumption | (simp only [List.length_map, List.length_append, List.length_cons, List.length_nil]; omega)))
  | ((with_reducible apply FB_catL); (first | decide | assumption | (simp only [List.length_map, List.length_append, List.length_cons, List.length_nil]; omega)))
  | ((with_reducible apply FB_de0); exact rfl; k_call_by "lf" 0)
  | ((with_reducible apply FB_t); exact rfl)
  | ((with_reducible apply FB_is_y); exact rfl)
  | ((with_reducible apply FB_is_n); exact rfl)
  | ((with_reducible apply FB_isn_y); exact rfl)
  | ((with_reducible apply FB_isn_n); exact rfl)
  | with_reducible apply FB_is
  | with_reducible apply FB_isn
  | ((with_reducible apply FB_str); (first | assumption | omega))
  | with_reducible apply FB_intI
  | ((with_reducible apply FB_intS); assumption; assumption)
  | ((with_reducible apply FB_split); assumption)
  | ((with_reducible apply FB_join); exact rfl; (first | exact rfl | assumption); (first | assumption | (simp only [List.length_append, List.length_cons, List.length_nil, List.length_map] at *; omega)))
  | ((with_reducible apply FB_catS); (first | assumption | (simp only [List.length_append, List.length_cons, List.length_nil, List.length_map] at *; omega)))
  | ((with_reducible apply FB_slS); (first | assumption | (simp only [List.length_append, List.length_cons, List.length_nil, List.length_map] at *; omega)))
  | ((with_reducible apply FB_lenS); (first | assumption | (simp only [List.length_append, List.length_cons, List.length_nil, List.length_map] at *; omega)))
  | with_reducible apply FB_inS
  | ((with_reducible apply FB_ixS); (first | assumption | exact rfl); (first | assumption | (simp only [List.length_append, List.length_cons, List.length_nil, List.length_map] at *; omega)))
  | ((with_reducible apply FB_inQ); exact rfl)
  | ((with_reducible apply FB_ninQ); exact rfl)
  | ((with_reducible apply FB_maxU); (first | assumption | (intro z; cases z; done)))
  | ((with_reducible apply FB_ixD); exact rfl; exact rfl)
  | ((with_reducible apply FB_xf); exact rfl)
  | ((with_reducible apply FB_isT); exact rfl)
  | with_reducible apply FB_geI
  | with_reducible apply FB_geS
  | with_reducible apply FB_ltS
  | with_reducible apply FB_min2
  | with_reducible apply FB_max2
  | with_reducible apply FB_find
  | with_reducible apply FB_ord
  | with_reducible apply FB_iaI
  | ((with_reducible apply FB_iaS); (first | assumption | (simp only [List.length_append, List.length_cons, List.length_nil, List.length_map] at *; omega)))
  | ((with_reducible apply FB_sum); (first | exact rfl | assumption))
  | ((with_reducible apply FB_revS); (first | assumption | (simp only [List.length_append, List.length_cons, List.length_nil, List.length_map] at *; omega)))
  | ((with_reducible apply FB_sorA); (first | exact rfl | assumption); (first | assumption | omega))
  | ((with_reducible apply FB_sorAT); (first | exact rfl | assumption); (first | assumption | omega))
  | ((with_reducible apply FB_fl); (exact fFl_ (by decide) rfl)))
local macro_rules | `(tactic| k_call_by "wK" 0) => `(tactic| first
  | with_reducible apply KB2_vv
  | ((with_reducible apply KB2_0v); exact rfl; k_call_by "lf" 0)
  | with_reducible apply KtB_
  | with_reducible apply Ksq_nx
  | with_reducible apply Kfrz_v
  | with_reducible apply KC_v
  | with_reducible apply Kder_n
  | with_reducible apply Kder_v
  | with_reducible apply Kset_0
  | with_reducible apply Kset_s
  | with_reducible apply Kput_0
  | with_reducible apply Kput_s
  | with_reducible apply Kif_t
  | with_reducible apply Kif_f
  | with_reducible apply KG_nm
  | with_reducible apply Kfrl_n
  | with_reducible apply Kfrl_c
  | with_reducible apply KeO_f
  | with_reducible apply KeO_m
  | ((with_reducible apply KB2_v0); exact rfl; k_call_by "lf" 0)
  | ((with_reducible apply Kder_0); exact rfl; k_call_by "lf" 0)
  | with_reducible apply KtM_b
  | with_reducible apply KNot_t
  | with_reducible apply KNot_f
  | with_reducible apply KtNot_t
  | with_reducible apply KtNot_f
  | ((with_reducible apply KNot_y); assumption)
  | ((with_reducible apply KNot_n); assumption)
  | ((with_reducible apply KtNot_y); assumption)
  | ((with_reducible apply KtNot_n); assumption)
  | with_reducible apply KNot_
  | with_reducible apply KtNot_
  | with_reducible apply KC_0
  | with_reducible apply Ksq_rt
  | with_reducible apply Ksq_bk
  | with_reducible apply Ksq_ct
  | with_reducible apply KAnd_t
  | with_reducible apply KAnd_f
  | with_reducible apply KOr_t
  | with_reducible apply KOr_f
  | with_reducible apply KU1_v
  | with_reducible apply Kwipe_nil
  | with_reducible apply Kwipe_cons
  | with_reducible apply Krest_nil
  | with_reducible apply Kfn_rt
  | with_reducible apply Kfn_nx
  | with_reducible apply KCall_1
  | with_reducible apply KCall_2
  | with_reducible apply KCall_3
  | with_reducible apply KCall_4
  | with_reducible apply KIO_0
  | with_reducible apply KIO_1
  | with_reducible apply KIO_2
  | with_reducible apply KIO_3
  | with_reducible apply KIO_4
  | with_reducible apply Kts
  | with_reducible apply Ksb
  | with_reducible apply Kdp
  | with_reducible apply KpM_
  | with_reducible apply KSl_v
  | with_reducible apply KtAnd_t
  | with_reducible apply KtAnd_f
  | with_reducible apply KtOr_t
  | with_reducible apply KtOr_f
  | with_reducible apply KCh1_vv
  | with_reducible apply kbl
  | with_reducible apply ib_t
  | with_reducible apply ib_f
  | with_reducible apply KGs_n
  | with_reducible apply KGs_c
  | with_reducible apply Kpar
  | with_reducible apply Kfor_nx
  | with_reducible apply Kfor_ct
  | with_reducible apply Kfor_bk
  | with_reducible apply Kfor_rt
  | with_reducible apply Kinv_nx
  | with_reducible apply Kinv_ct
  | with_reducible apply Kinv_bk
  | with_reducible apply Kinv_rt
  | with_reducible apply KLc_t
  | with_reducible apply KLc_f
  | ((with_reducible apply Kfrz_0); exact rfl; k_call_by "tz" 0)
  | ((with_reducible apply Kout_); exact rfl)
  | ((with_reducible apply Krest_n); exact rfl)
  | ((with_reducible apply Krest_f); exact rfl)
  | ((with_reducible apply Kmut_); exact rfl; k_call_by "mu" 0)
  | ((with_reducible apply KMu_0); exact rfl)
  | ((with_reducible apply KU1_0); exact rfl; k_call_by "lf" 0)
  | ((with_reducible apply KSl_0); exact rfl; k_call_by "lf" 0)
  | ((with_reducible apply KtM_v); exact rfl)
  | ((with_reducible apply KtM_0); exact rfl; k_call_by "lf" 0; exact rfl)
  | ((with_reducible apply KeO_n); k_call_by "td" 0)
  | ((with_reducible apply KeS); (first | exact rfl | assumption))
  | ((with_reducible apply KG_tp); exact rfl)
  | ((with_reducible apply Kseq_); exact rfl)
  | ((with_reducible apply KRg_); (first | decide | omega | (simp only [List.length_map, List.length_append, List.length_cons, List.length_reverse]; omega)))
  | ((with_reducible apply Kisi_y); (first | exact rfl | assumption))
  | ((with_reducible apply Kisi_n); (first | exact rfl | assumption))
  | ((with_reducible apply KeI2_y); (first | exact rfl | assumption))
  | ((with_reducible apply KeI2_n); (first | exact rfl | assumption))
  | ((with_reducible apply Kif_y); (first | exact rfl | assumption))
  | ((with_reducible apply Kif_n); (first | exact rfl | assumption))
  | ((with_reducible apply KtAnd_y); (first | exact rfl | assumption))
  | ((with_reducible apply KtAnd_n); (first | exact rfl | assumption))
  | ((with_reducible apply KtOr_y); (first | exact rfl | assumption))
  | ((with_reducible apply KtOr_n); (first | exact rfl | assumption))
  | ((with_reducible apply KAnd_y); (first | exact rfl | assumption))
  | ((with_reducible apply KAnd_n); (first | exact rfl | assumption))
  | ((with_reducible apply KOr_y); (first | exact rfl | assumption))
  | ((with_reducible apply KOr_n); (first | exact rfl | assumption))
  | ((with_reducible apply ib_y); (first | exact rfl | assumption))
  | ((with_reducible apply ib_n); (first | exact rfl | assumption))
  | with_reducible apply Kisi_
  | ((with_reducible apply eq_and); exact rfl)
  | (refine ⟨?_, ?_⟩; first | exact (rfl : decide _ = true) | exact decide_eq_true (by assumption))
  | ((with_reducible apply KBm_v); exact rfl)
  | with_reducible apply KSt_
  | with_reducible apply Ktry_nx
  | with_reducible apply Ktry_bk
  | with_reducible apply Ktry_ct
  | with_reducible apply Ktry_rt
  | with_reducible apply Kcat_nx
  | with_reducible apply Kcat_bk
  | with_reducible apply Kcat_ct
  | with_reducible apply Kcat_rt
  | with_reducible apply Kcat_nx0
  | with_reducible apply Kcat_bk0
  | with_reducible apply Kcat_ct0
  | with_reducible apply Kcat_rt0
  | ((with_reducible apply Ktry_so); exact rfl)
  | ((with_reducible apply Ktry_no); exact rfl)
  | ((with_reducible apply Ktry_mi); exact rfl)
  | with_reducible apply Kfx_rt
  | with_reducible apply Kfx_nx
  | with_reducible apply Kfx_ex
  | with_reducible apply Ksq_ex
  | with_reducible apply Kfor_ex
  | with_reducible apply Kinv_ex
  | with_reducible apply Kx_rt
  | with_reducible apply Kx_ex
  | with_reducible apply KXc_1
  | with_reducible apply KXc_2
  | with_reducible apply KXc_3
  | with_reducible apply KXc_4
  | with_reducible apply KXc_5
  | ((with_reducible apply KEnx_); (first | decide | assumption | omega))
  | ((with_reducible apply KRg2_); (first | decide | assumption | omega | (simp only [List.length_map, List.length_append, List.length_cons, List.length_reverse]; omega)))
  | with_reducible apply KNew_2
  | with_reducible apply KNew_3
  | with_reducible apply KNew_5)
local macro_rules | `(tactic| k_call_by "wX" 0) => `(tactic| first
  | with_reducible apply W_xCall
  | with_reducible apply W_xTup
  | with_reducible apply W_xPure)
local macro_rules | `(tactic| k_call_by "wY" 0) => `(tactic| first
  | with_reducible apply W_xNil
  | with_reducible apply W_xM
  | with_reducible apply W_xX)
local macro_rules | `(tactic| k_call_by "ev1" 0) => `(tactic| first
  | ((with_reducible show @W DL.Arg _ _); k_call_by "wA" 0)
  | ((with_reducible show @W DL.Fl _ _); k_call_by "wS" 0)
  | ((with_reducible show @W Bool _ _); k_call_by "wB" 0)
  | ((with_reducible show @W (List DL.Arg) _ _); k_call_by "wL" 0)
  | ((with_reducible show @W DL.T _ _); k_call_by "wO" 0)
  | ((with_reducible show @FB _ _ _); k_call_by "wF" 0)
  | ((with_reducible show @W (List DL.D) _ _); k_call_by "wD" 0)
  | ((with_reducible show @W (Option Int) _ _); k_call_by "wP" 0)
  | ((with_reducible show @W (List DL.T) _ _); k_call_by "wT" 0)
  | ((with_reducible show @W DL.Rs _ _); k_call_by "wX" 0)
  | ((with_reducible show @W DL.RsL _ _); k_call_by "wY" 0)
  | k_call_by "call" 0
  | k_call_by "wK" 0)
local macro_rules | `(tactic| k_call_by "ev" 0) => `(tactic| repeat k_call_by "ev1" 0)
local macro_rules | `(tactic| k_call_by "sp" 0) => `(tactic| first
  | ((with_reducible apply Kif_s) <;> intro _)
  | ((with_reducible apply KtAnd_s) <;> intro _)
  | ((with_reducible apply KtOr_s) <;> intro _)
  | ((with_reducible apply KAnd_s) <;> intro _)
  | ((with_reducible apply KOr_s) <;> intro _)
  | ((with_reducible apply ib_s) <;> intro _))
local macro_rules | `(tactic| k_call_by "evs" 0) => `(tactic| repeat' (first | k_call_by "ev1" 0 | k_call_by "sp" 0))

section

namespace K41
abbrev hks : List Key := [Sum.inr (sL [99, 101, 108, 108, 115]), Sum.inr (sL [97, 116]), Sum.inr (sL [108, 101, 102, 116]), Sum.inr (sL [115, 101, 101, 100]), Sum.inr (sL [116, 117, 114, 110])]
structure HandOk (t : T) : Prop where
  ex : ∃ (cs : List Int) (i j k l : Int), (∀ c ∈ cs, 0 ≤ c) ∧ 0 ≤ i ∧ 0 ≤ j ∧ t = .nd (.dic hks) [.fz (.nd .lst (cs.map .int)), .fz (.int i), .fz (.int j), .fz (.int k), .fz (.int l)]
theorem at_int {cs : List Int} {i : Int} (hi : 0 ≤ i) (hl : i < cs.length) : ∃ c, c ∈ cs ∧ atI (cs.map D.int) i = some (.int c) := by
  have hn : i.toNat < cs.length := by omega
  refine ⟨cs[i.toNat], List.getElem_mem hn, ?_⟩
  have e : (i.toNat : Int) = i := by omega
  have z := atN (xs := cs.map D.int) (n := i.toNat) (x := D.int cs[i.toNat]) (by simp [hn])
  rw [e] at z
  exact z
theorem draw_ok {t : T} {m : Int} {Q : T → List T → Prop} (h : HandOk t) (hm : 1 ≤ m ∧ m < 1073741824) (k : ∀ r t', 0 ≤ r → r < m → HandOk t' → Q (.fz (.int r)) [t', .fz (.int m)]) : Fok (d_law_draw [t, .fz (.int m)]) Q := by
  obtain ⟨cs, i, j, kk, l, hc, hi, hj, rfl⟩ := h.ex
  refine F_law_draw ?_
  unfold m_law_draw
  have m0 : m ≠ 0 := by omega
  have fin : ∀ (x i j kk l : Int), 0 ≤ i → 0 ≤ j → Q (.fz (.int (x.fmod m))) [.nd (.dic hks) [.fz (.nd .lst (cs.map .int)), .fz (.int i), .fz (.int j), .fz (.int kk), .fz (.int l)], .fz (.int m)] := fun x i j kk l h1 h2 => k _ _ (Int.fmod_nonneg_of_pos _ (by omega)) (Int.fmod_lt_of_pos _ (by omega)) ⟨cs, i, j, kk, l, hc, h1, h2, rfl⟩
  have dv : ∀ x : Int, 0 ≤ x → 0 ≤ x.fdiv m := fun x hx => Int.fdiv_nonneg hx (by omega)
  by_cases hl : i < cs.length
  · obtain ⟨c, c0, ec⟩ := at_int hi hl
    have c0 := hc c c0
    k_call_by "evs" 0
    all_goals first
      | exact fin _ _ _ _ _ (by omega) (by omega)
      | exact fin _ _ _ _ _ (by omega) (dv _ (by omega))
      | exact fin _ _ _ _ _ (by omega) hj
  · k_call_by "evs" 0
    all_goals first
      | exact fin _ _ _ _ _ (by omega) (by omega)
      | exact fin _ _ _ _ _ (by omega) (dv _ (by omega))
      | exact fin _ _ _ _ _ (by omega) hj
      | (simp only [decide_eq_true_eq, List.length_map] at *; omega)
end K41

end
section

namespace K41
theorem any_ok {t : T} {ds : List D} {Q : T → List T → Prop} (h : HandOk t) (hl : 1 ≤ ds.length ∧ ds.length < 1073741824) (k : ∀ d t', d ∈ ds → HandOk t' → Q (.fz d) [t', .fz (.nd .lst ds)]) : Fok (d_law_any [t, .fz (.nd .lst ds)]) Q := by
  have h0 := h
  obtain ⟨cs, i, j, kk, l, hc, hi, hj, rfl⟩ := h.ex
  refine F_law_any ?_
  unfold m_law_any
  k_call_by "ev" 0
  refine draw_ok h0 (by omega) fun r t' h1 h2 ht' => ?_
  have hn : r.toNat < ds.length := by omega
  have z := atN (xs := ds) (n := r.toNat) (x := ds[r.toNat]) (by simp [hn])
  rw [show (r.toNat : Int) = r by omega] at z
  k_call_by "ev" 0
  exact k _ _ (List.getElem_mem hn) ht'
theorem hand_ok {ns : List Int} {Q : T → List T → Prop} (k : ∀ t ts, HandOk t → Q t ts) : Fok (d_law_hand [script ns]) Q := by
  refine F_law_hand ?_
  unfold m_law_hand script
  k_call_by "ev" 0
  rw [show (63 : Int) = ((63 : Nat) : Int) from rfl, cut_take, ← List.map_take]
  refine lc_fun (fun d => match d with
    | .int i => .int (if i < 0 then -i else i)
    | d => d) (fun ρ => ρ = [some (.fz (.nd .ll (ns.map .int))), none, none]) (fun d ρ hd hr => ?_) rfl fun ρ' hr => ?_
  · subst hr
    obtain ⟨i, _, rfl⟩ := List.mem_map.mp hd
    k_call_by "ev" 0
    rfl
  · subst hr
    have e : ((ns.take 63).map D.int).map (fun d => match d with
      | .int i => .int (if i < 0 then -i else i)
      | d => d) = ((ns.take 63).map fun i => if i < 0 then -i else i).map D.int := by
      rw [List.map_map, List.map_map]
      rfl
    rw [e]
    refine ⟨small_of (by simp; omega), ?_⟩
    k_call_by "ev" 0
    refine k _ _ ⟨_, 0, 0, _, 0, ?_, by omega, by omega, rfl⟩
    intro c hc
    obtain ⟨i, _, rfl⟩ := List.mem_map.mp hc
    split <;> omega
local macro_rules | `(tactic| k_call_by "call" 0) => `(tactic| first
  | ((with_reducible apply draw_ok); assumption; (first | decide | omega); intro _ _ _ _ _))
def abc : List Nat := [97, 98, 99, 100, 101, 102, 103, 104, 105, 106, 107, 108, 109, 110, 111, 112, 113, 114, 115, 116, 117, 118, 119, 120, 121, 122]
theorem abc_ok : ∀ c ∈ abc, 97 ≤ c ∧ c ≤ 122 := by decide
theorem join_ones : ∀ cs : List Nat, joinL [] (cs.map fun c => [c]) = cs
  | [] => rfl
  | [c] => rfl
  | c :: d :: r => congrArg (c :: ·) (join_ones (d :: r))
def nms : List (List Nat) := [[99, 104, 101, 99, 107], [101, 100, 105, 116, 105, 111, 110], [100, 111, 110, 101], [97], [122, 122], [99, 104, 101, 99, 107, 99, 104, 101, 99, 107, 97, 98]]
theorem nms_ok : ∀ n ∈ nms, Nm n := by
  have h1 : ∀ n ∈ nms, 1 ≤ n.length ∧ n.length ≤ 12 := by decide
  have h2 : ∀ n ∈ nms, ∀ c ∈ n, 97 ≤ c ∧ c ≤ 122 := by decide
  exact fun n h => ⟨h1 n h, h2 n h⟩
theorem int_in {ns : List Int} {d : D} (h : d ∈ ns.map D.int) : ∃ n ∈ ns, d = .int n := let ⟨n, h1, h2⟩ := List.mem_map.mp h; ⟨n, h1, h2.symm⟩
theorem name_ok {t : T} {Q : T → List T → Prop} (h : HandOk t) (k : ∀ l t', Nm l → HandOk t' → Q (.fz (.str (sL l))) [t']) : Fok (d_law_name [t]) Q := by
  refine F_law_name ?_
  unfold m_law_name
  k_call_by "ev" 0
  rename_i n t1 n0 n1 h1
  by_cases z : n = 0
  · have d0 : decide (n = 0) = true := decide_eq_true z
    k_call_by "ev" 0
    refine any_ok h1 ⟨Nat.le_of_ble_eq_true rfl, Nat.le_of_ble_eq_true rfl⟩ fun d t2 hd h2 => ?_
    obtain ⟨l, hl, rfl⟩ := List.mem_map.mp (show d ∈ nms.map (fun l => D.str (sL l)) from hd)
    k_call_by "ev" 0
    exact k l _ (nms_ok l hl) h2
  · have d0 : decide (n = 0) = false := decide_eq_false z
    k_call_by "ev" 0
    refine any_ok h1 ⟨Nat.le_of_ble_eq_true rfl, Nat.le_of_ble_eq_true rfl⟩ fun d t2 hd h2 => ?_
    obtain ⟨m, hm, rfl⟩ := int_in (ns := [0, 0, 1, 2, 4, 11]) hd
    have hm : 0 ≤ m ∧ m ≤ 11 := by
      have : ∀ m ∈ ([0, 0, 1, 2, 4, 11] : List Int), 0 ≤ m ∧ m ≤ 11 := by decide
      exact this m hm
    k_call_by "ev" 0
    refine lc_map (P := fun _ r => ∃ c, (97 ≤ c ∧ c ≤ 122) ∧ r = .str (sL [c])) (fun ρ => ∃ t, HandOk t ∧ ρ = [some t, some (.fz (.str (sL abc))), none]) (fun d ρ hr => ?_) _ ⟨t2, h2, rfl⟩ fun rs ρ' f hr => ?_
    · obtain ⟨t3, h3, rfl⟩ := hr
      k_call_by "ev" 0
      rename_i r t4 r0 r1 h4
      obtain ⟨i, rfl⟩ := nat_of r0
      have hi : i < abc.length := by show i < 26; omega
      have e := atN (List.getElem?_eq_getElem hi)
      have l1 : abc.length ≤ 100000 := by decide
      k_call_by "ev" 0
      refine ⟨⟨_, abc_ok _ (List.getElem_mem hi), rfl⟩, ?_⟩
      k_call_by "ev" 0
      exact ⟨_, h4, rfl⟩
    · obtain ⟨t3, h3, rfl⟩ := hr
      obtain ⟨cs, rfl, e2, e3⟩ := F2_map (R := fun c : Nat => 97 ≤ c ∧ c ≤ 122) (f := fun c => .str (sL [c])) f fun a b h => h
      rw [rng_len] at e2
      refine ⟨small_of (by rw [List.length_map]; omega), ?_⟩
      have e4 : cs.map (fun c => D.str (sL [c])) = (cs.map fun c => [c]).map fun l => D.str (sL l) := by rw [List.map_map]; rfl
      rw [e4]
      have hz : ((cs.map fun c => [c]).map List.length).sum + (cs.map fun c => [c]).length * ([] : List Nat).length ≤ 16777216 := by
        rw [List.map_map]
        have : ∀ l : List Nat, (l.map (List.length ∘ fun c => [c])).sum = l.length := fun l => by
          induction l with
          | nil => rfl
          | cons c l ih => rw [List.map_cons, List.sum_cons, ih, List.length_cons]; show 1 + _ = _; omega
        rw [this]
        simp only [List.length_nil, Nat.mul_zero]
        omega
      k_call_by "ev" 0
      rw [join_ones]
      exact k cs _ ⟨by omega, e3⟩ h3
end K41

end
section

namespace K41
local macro_rules | `(tactic| k_call_by "call" 0) => `(tactic| first
  | ((with_reducible apply draw_ok); assumption; (first | decide | omega); intro _ _ _ _ _)
  | ((with_reducible apply name_ok); assumption; intro _ _ _ _))
theorem inst_ok {t : T} {Q : T → List T → Prop} (h : HandOk t) (k : ∀ ts t', Ok ts → Sz ts → (∀ t ∈ ts, t.fs.length ≤ 9) → HandOk t' → Q (.fz (.nd .tup (ts.map tD))) [t']) : Fok (d_law_installation [t]) Q := by
  refine F_law_installation ?_
  unfold m_law_installation
  k_call_by "ev" 0
  refine any_ok h ⟨Nat.le_of_ble_eq_true rfl, Nat.le_of_ble_eq_true rfl⟩ fun d t2 hd h2 => ?_
  obtain ⟨m, hm, rfl⟩ := int_in (ns := [0, 1, 1, 2, 2, 3, 3, 4, 4, 5, 6, 60]) hd
  have hm : 0 ≤ m ∧ m ≤ 60 := by
    have : ∀ m ∈ ([0, 1, 1, 2, 2, 3, 3, 4, 4, 5, 6, 60] : List Int), 0 ≤ m ∧ m ≤ 60 := by decide
    exact this m hm
  k_call_by "ev" 0
  refine lc_map (P := fun _ r => ∃ l : List Nat, Nm l ∧ r = .str (sL l)) (fun ρ => ∃ t, HandOk t ∧ ρ = [some t, some (.nd .lst []), none, none, none, none]) (fun d ρ hr => ?_) _ ⟨t2, h2, rfl⟩ fun rs ρ' f hr => ?_
  · obtain ⟨t3, h3, rfl⟩ := hr
    k_call_by "ev" 0
    rename_i l t4 hl h4
    refine ⟨⟨l, hl, rfl⟩, ?_⟩
    k_call_by "ev" 0
    exact ⟨_, h4, rfl⟩
  · obtain ⟨t3, h3, rfl⟩ := hr
    obtain ⟨ns, rfl, e2, e3⟩ := F2_map (R := Nm) (f := fun l => .str (sL l)) f fun a b h => h
    rw [rng_len] at e2
    have hnl : ns.length ≤ 4000 := by omega
    have hsn : ∀ x ∈ sortN ns, Nm x := fun x hx => e3 x (sortN_mem.mp hx)
    have hsl := sortN_len ns
    have hsa := sortN_asc ns
    refine ⟨small_of (by rw [List.length_map]; omega), ?_⟩
    k_call_by "ev" 0
    generalize sortN ns = ss at *
    refine for_map (fun l : List Nat => D.str (sL l)) (fun dn ρ => ∃ t ts x2 x3 x4, HandOk t ∧ ts.map (·.nm) = dn ∧ (∀ t ∈ ts, t.Ok) ∧ (∀ t ∈ ts, t.fs.length ≤ 9) ∧ ρ = [some t, some (.nd .lst ((ts.map tD).map .fz)), x2, x3, x4, none]) (fun dn l rest ρ e hI => ?_) (fun ρ hI => ?_) ⟨t3, [], _, _, _, h3, rfl, fun _ h => (nomatch h), fun _ h => (nomatch h), rfl⟩
    · obtain ⟨t, ts, x2, x3, x4, ht, hn, hok, hf, rfl⟩ := hI
      have hl : Nm l := hsn l (by rw [e]; simp)
      have hdl := congrArg List.length e
      rw [List.length_append, List.length_cons, ← hn, List.length_map] at hdl
      k_call_by "ev" 0
      refine lc_map (P := fun _ r => ∃ x : Int, (0 ≤ x ∧ x ≤ 1000000) ∧ r = .int x) (fun ρ => ∃ t, HandOk t ∧ ρ = [some t, some (.nd .lst ((ts.map tD).map .fz)), some (.fz (.str (sL l))), x3, x4, none]) (fun d ρ hr => ?_) _ ⟨t, ht, rfl⟩ fun rs ρ' f hr => ?_
      · obtain ⟨t5, h5, rfl⟩ := hr
        k_call_by "ev" 0
        rename_i x t6 x0 x1 h6
        refine any_ok h6 ⟨Nat.le_of_ble_eq_true rfl, Nat.le_of_ble_eq_true rfl⟩ fun d t7 hd h7 => ?_
        obtain ⟨y, hy, rfl⟩ := int_in (ns := [0, 1, 9, 10, 1000000, x]) hd
        have hy : 0 ≤ y ∧ y ≤ 1000000 := by
          simp only [List.mem_cons, List.not_mem_nil, or_false] at hy
          rcases hy with rfl | rfl | rfl | rfl | rfl | rfl <;> omega
        k_call_by "ev" 0
        refine ⟨⟨y, hy, rfl⟩, ?_⟩
        k_call_by "ev" 0
        exact ⟨_, h7, rfl⟩
      · obtain ⟨t5, h5, rfl⟩ := hr
        obtain ⟨vs, rfl, v2, v3⟩ := F2_map (R := fun x : Int => 0 ≤ x ∧ x ≤ 1000000) (f := D.int) f fun a b h => h
        have v2 : vs.length = 3 := v2
        refine ⟨small_of (by rw [List.length_map]; omega), ?_⟩
        k_call_by "ev" 0
        refine any_ok h5 ⟨Nat.le_of_ble_eq_true rfl, Nat.le_of_ble_eq_true rfl⟩ fun d t7 hd h7 => ?_
        obtain ⟨y, hy, rfl⟩ := int_in (ns := [0, 0, 0, 0, 1, 2, 3, 9]) hd
        have hy : 0 ≤ y ∧ y ≤ 9 := by
          have : ∀ m ∈ ([0, 0, 0, 0, 1, 2, 3, 9] : List Int), 0 ≤ m ∧ m ≤ 9 := by decide
          exact this y hy
        k_call_by "ev" 0
        refine lc_map (P := fun _ r => ∃ l : List Nat, Nm l ∧ r = .str (sL l)) (fun ρ => ∃ t, HandOk t ∧ ρ = [some t, some (.nd .lst ((ts.map tD).map .fz)), some (.fz (.str (sL l))), some (.nd .lst ((vs.map D.int).map .fz)), x4, none]) (fun d ρ hr => ?_) _ ⟨t7, h7, rfl⟩ fun rs ρ' f hr => ?_
        · obtain ⟨t8, h8, rfl⟩ := hr
          k_call_by "ev" 0
          rename_i l1 t9 hl1 h9
          refine ⟨⟨l1, hl1, rfl⟩, ?_⟩
          k_call_by "ev" 0
          exact ⟨_, h9, rfl⟩
        · obtain ⟨t8, h8, rfl⟩ := hr
          obtain ⟨fs, rfl, f2, f3⟩ := F2_map (R := Nm) (f := fun l => .str (sL l)) f fun a b h => h
          rw [rng_len] at f2
          have hfl : fs.length ≤ 4000 := by omega
          have gsl := sortN_len fs
          have gsa := sortN_asc fs
          have gsn : ∀ x ∈ sortN fs, Nm x := fun x hx => f3 x (sortN_mem.mp hx)
          refine ⟨small_of (by rw [List.length_map]; omega), ?_⟩
          have hlen : (ts.map tD).length < 100000 := by rw [List.length_map]; omega
          k_call_by "ev" 0
          generalize sortN fs = gs at *
          refine ⟨_, ts ++ [⟨l, vs, gs⟩], _, _, _, h8, by rw [List.map_append, hn]; rfl, fun u hu => ?_, fun u hu => ?_, by simp only [List.map_append]; rfl⟩
          · rcases List.mem_append.mp hu with hu | hu
            · exact hok u hu
            · rw [List.mem_singleton.mp hu]; exact ⟨hl, ⟨v2, v3⟩, gsn, gsa⟩
          · rcases List.mem_append.mp hu with hu | hu
            · exact hf u hu
            · rw [List.mem_singleton.mp hu]; show gs.length ≤ 9; omega
    · obtain ⟨t, ts, x2, x3, x4, ht, hn, hok, hf, rfl⟩ := hI
      k_call_by "ev" 0
      have e5 := congrArg List.length hn
      rw [List.length_map] at e5
      exact k ts t ⟨hok, by rw [hn]; exact hsa⟩ ⟨by omega, fun t ht => by have := hf t ht; omega⟩ hf ht
end K41

end
section

namespace K41
theorem vtext_ok {v : List Int} {Q : T → List T → Prop} (hv : Ver v) (k : Q (.fz (.str (sL (vT v)))) [.fz (vD v)]) : Fok (d_version_text [.fz (vD v)]) Q := by
  refine F_version_text ?_
  unfold m_version_text
  k_call_by "ev" 0
  refine lc_mapf D.int (fun i : Int => D.str (num i.toNat)) (fun ρ => ρ = [some (.fz (vD v)), none]) v (fun i ρ hi hr => ?_) rfl fun ρ' hr => ?_
  · subst hr
    have hb := hv.2 i hi
    k_call_by "ev" 0
    rfl
  · subst hr
    refine ⟨small_of (by rw [List.length_map, hv.1]; decide), ?_⟩
    have e1 : (v.map fun i : Int => D.str (num i.toNat)) = (v.map fun i => numL i.toNat).map fun l => D.str (sL l) := by rw [List.map_map]; rfl
    have e2 : ((v.map fun i => numL i.toNat).map List.length).sum + (v.map fun i => numL i.toNat).length * ([46] : List Nat).length ≤ 16777216 := by
      obtain ⟨a, b, c, rfl, ha, hb, hc⟩ := vT3 hv
      have := numL_small ha
      have := numL_small hb
      have := numL_small hc
      simp only [List.map_cons, List.map_nil, List.sum_cons, List.sum_nil, List.length_cons, List.length_nil, Int.toNat_natCast]
      omega
    k_call_by "ev" 0
    exact k
theorem sum_len_le {n : Nat} : ∀ {xs : List (List Nat)}, (∀ x ∈ xs, x.length ≤ n) → (xs.map List.length).sum ≤ xs.length * n
  | [], _ => Nat.zero_le _
  | x :: xs, h => by
    have h1 := h x (by simp)
    have h2 := sum_len_le (xs := xs) fun y hy => h y (by simp [hy])
    rw [List.map_cons, List.sum_cons, List.length_cons, Nat.succ_mul]
    omega
theorem words_sum {t : Tri} (h : t.Ok) (hf : t.fs.length ≤ 10) : ((words t).map List.length).sum + (words t).length * ([32] : List Nat).length ≤ 16777216 := by
  have h1 := sum_len_le (n := 23) (xs := words t) fun x hx => by
    rcases List.mem_cons.mp hx with rfl | hx
    · have := h.nm.1.2; omega
    · rcases List.mem_cons.mp hx with rfl | hx
      · exact vT_len h.vs
      · have := (h.fs x hx).1.2; omega
  have h2 : (words t).length ≤ 12 := by show t.fs.length + 1 + 1 ≤ 12; omega
  have h3 : (words t).length * 23 ≤ 12 * 23 := Nat.mul_le_mul_right _ h2
  have h4 : (words t).length * ([32] : List Nat).length ≤ 12 * 1 := Nat.mul_le_mul_right _ h2
  omega
theorem ttext_ok {t : Tri} {Q : T → List T → Prop} (h : t.Ok) (hf : t.fs.length ≤ 10) (k : Q (.fz (.str (sL (line t)))) [.fz (tD t)]) : Fok (d_triple_text [.fz (tD t)]) Q := by
  refine F_triple_text ?_
  unfold m_triple_text
  have hs := words_sum h hf
  have hv := h.vs
  have em : [D.str (sL t.nm), D.str (sL (vT t.vs))] ++ (t.fs.map fun f => D.str (sL f)) = (words t).map fun l => D.str (sL l) := rfl
  have kk : Q (.fz (.str (sL (joinL [32] (words t))))) [.fz (tD t)] := k
  unfold tD at *
  k_call_by "ev" 0
  refine vtext_ok hv ?_
  k_call_by "ev" 0
  exact kk
theorem mem_zip {l : List Nat} {c : Nat × Nat} {k : Nat} (h : c ∈ l.zipIdx k) : c.1 ∈ l := by
  obtain ⟨a, b⟩ := c
  exact List.fst_mem_of_mem_zipIdx h
theorem check_ok {l : List Nat} {Q : T → List T → Prop} (ha : Asc l) (hl : l.length ≤ 99000) (k : Q (.fz (.int (chk l : Int))) [.fz (.str (sL l))]) : Fok (d_check_of [.fz (.str (sL l))]) Q := by
  refine F_check_of ?_
  unfold m_check_of k_BY
  k_call_by "ev" 0
  refine lc_mapf (fun c : Nat × Nat => D.nd .tup [.int (1 + (c.2 : Int)), .str (sL [c.1])]) (fun c => D.int ((c.1 : Int) * (1 + (c.2 : Int)))) (fun ρ => ρ = [some (.fz (.str (sL l))), none, none]) l.zipIdx (fun c ρ hc hr => ?_) rfl fun ρ' hr => ?_
  · subst hr
    have := ha c.1 (mem_zip hc)
    have hm : cMul (c.1 : Int) (1 + (c.2 : Int)) = true := cMul_l (by omega)
    k_call_by "ev" 0
    rfl
  · subst hr
    refine ⟨small_of (by rw [List.length_map, List.length_zipIdx]; omega), ?_⟩
    have e : (l.zipIdx.map fun c : Nat × Nat => D.int ((c.1 : Int) * (1 + (c.2 : Int)))) = (l.zipIdx.map fun c : Nat × Nat => (c.1 : Int) * (1 + (c.2 : Int))).map D.int := by rw [List.map_map]; rfl
    k_call_by "ev" 0
    rw [wt_zip, fmod_chk]
    exact k
theorem ltext_ok {ts : List Tri} {Q : T → List T → Prop} (h : ∀ t ∈ ts, t.Ok) (s : Sz ts) (k : Q (.fz (.str (sL (text ts)))) [.fz (.nd .tup (ts.map tD))]) : Fok (d_lock_text [.fz (.nd .tup (ts.map tD))]) Q := by
  refine F_lock_text ?_
  unfold m_lock_text k_CHECK
  k_call_by "ev" 0
  refine lc_mapf tD (fun t => D.str (sL (line t ++ [10]))) (fun ρ => ρ = [some (.fz (.nd .tup (ts.map tD))), none, none]) ts (fun t ρ ht hr => ?_) rfl fun ρ' hr => ?_
  · subst hr
    have h2 := line_len (h t ht) (s.f t ht)
    k_call_by "ev" 0
    refine ttext_ok (h t ht) (s.f t ht) ?_
    k_call_by "ev" 0
    rfl
  · subst hr
    refine ⟨small_of (by rw [List.length_map]; have := s.n; omega), ?_⟩
    have e : (ts.map fun t => D.str (sL (line t ++ [10]))) = (ts.map fun t => line t ++ [10]).map fun l => D.str (sL l) := by rw [List.map_map]; rfl
    rw [e]
    have hz : ((ts.map fun t => line t ++ [10]).map List.length).sum + (ts.map fun t => line t ++ [10]).length * ([] : List Nat).length ≤ 16777216 := by
      have h1 := sum_len_le (n := 167) (xs := ts.map fun t => line t ++ [10]) fun x hx => by
        obtain ⟨t, ht, rfl⟩ := List.mem_map.mp hx
        have := line_len (h t ht) (s.f t ht)
        rw [List.length_append]
        show _ + 1 ≤ 167
        omega
      have h2 : (ts.map fun t => line t ++ [10]).length * 167 ≤ 60 * 167 := Nat.mul_le_mul_right _ (by rw [List.length_map]; exact s.n)
      simp only [List.length_nil, Nat.mul_zero]
      omega
    k_call_by "ev" 0
    rw [joinL_nil, ← List.flatMap_def]
    have eb : (ts.flatMap fun t => line t ++ [10]) = body ts := rfl
    rw [eb]
    have bl := body_len h s
    have ba : Asc (body ts) := fun c hc => by have := body_mem h hc; omega
    have cl := chk_lt (body ts)
    have nl := chk_len (body ts)
    have z1 : (body ts).length + ([99, 104, 101, 99, 107, 32] : List Nat).length ≤ 100000 := by show _ + 6 ≤ _; omega
    have z2 : (body ts ++ [99, 104, 101, 99, 107, 32]).length + (numL (chk (body ts))).length ≤ 100000 := by rw [List.length_append]; show _ + 6 + _ ≤ _; omega
    have z3 : (body ts ++ [99, 104, 101, 99, 107, 32] ++ numL (chk (body ts))).length + ([10] : List Nat).length ≤ 100000 := by rw [List.length_append, List.length_append]; show _ + 6 + _ + 1 ≤ _; omega
    have z4 : 0 ≤ ((chk (body ts) : Nat) : Int) ∧ ((chk (body ts) : Nat) : Int) < 2 ^ 64 := by omega
    k_call_by "ev" 0
    refine check_ok ba (by omega) ?_
    k_call_by "ev" 0
    have et : body ts ++ [99, 104, 101, 99, 107, 32] ++ numL (chk (body ts)) ++ [10] = text ts := by
      unfold text ctail CHK
      simp
    rw [← et] at k
    exact k
theorem lline_ok {t : Tri} {Q : T → List T → Prop} (h : t.Ok) (hf : t.fs.length ≤ 10) (k : Q (.fz (.str (sL (line t ++ [10])))) [.fz (tD t)]) : Fok (d_law_line [.fz (tD t)]) Q := by
  refine F_law_line ?_
  unfold m_law_line
  obtain ⟨a, b, c, ev, ha, hb, hc⟩ := vT3 h.vs
  have hl := line_len h hf
  have hn := h.nm.1
  have na := numL_small ha
  have nb := numL_small hb
  have nc := numL_small hc
  have es : (t.fs.map fun f => D.str (sL ([32] ++ f))) = (t.fs.map fun f => [32] ++ f).map fun l => D.str (sL l) := by rw [List.map_map]; rfl
  have hz : ((t.fs.map fun f => [32] ++ f).map List.length).sum + (t.fs.map fun f => [32] ++ f).length * ([] : List Nat).length ≤ 16777216 := by
    have h1 := sum_len_le (n := 13) (xs := t.fs.map fun f => [32] ++ f) fun x hx => by
      obtain ⟨f, hf2, rfl⟩ := List.mem_map.mp hx
      have := (h.fs f hf2).1.2
      rw [List.length_append]
      show 1 + _ ≤ 13
      omega
    have h2 : (t.fs.map fun f => [32] ++ f).length * 13 ≤ 10 * 13 := Nat.mul_le_mul_right _ (by rw [List.length_map]; exact hf)
    simp only [List.length_nil, Nat.mul_zero]
    omega
  have el : t.nm ++ [32] ++ numL a ++ [46] ++ numL b ++ [46] ++ numL c ++ (t.fs.flatMap fun f => [32] ++ f) = line t := by
    unfold line words
    rw [joinL_flat, List.flatMap_cons, ev, vT_eq]
    simp
  have zl := congrArg List.length el
  simp only [List.length_append, List.length_cons, List.length_nil] at zl
  have ek : Q (.fz (.str (sL (t.nm ++ [32] ++ numL a ++ [46] ++ numL b ++ [46] ++ numL c ++ (t.fs.flatMap fun f => [32] ++ f) ++ [10])))) [.fz (tD t)] := by rw [el]; exact k
  have i1 : 0 ≤ (a : Int) ∧ (a : Int) < 2 ^ 64 := by omega
  have i2 : 0 ≤ (b : Int) ∧ (b : Int) < 2 ^ 64 := by omega
  have i3 : 0 ≤ (c : Int) ∧ (c : Int) < 2 ^ 64 := by omega
  have y1 : (t.nm ++ [32]).length + (numL a).length ≤ 100000 := by simp only [List.length_append, List.length_cons, List.length_nil]; omega
  have y2 : (t.nm ++ [32] ++ numL a ++ [46]).length + (numL b).length ≤ 100000 := by simp only [List.length_append, List.length_cons, List.length_nil]; omega
  have y3 : (t.nm ++ [32] ++ numL a ++ [46] ++ numL b ++ [46]).length + (numL c).length ≤ 100000 := by simp only [List.length_append, List.length_cons, List.length_nil]; omega
  have y4 : (t.nm ++ [32] ++ numL a).length + ([46] : List Nat).length ≤ 100000 := by simp only [List.length_append, List.length_cons, List.length_nil]; omega
  have y5 : (t.nm ++ [32] ++ numL a ++ [46] ++ numL b).length + ([46] : List Nat).length ≤ 100000 := by simp only [List.length_append, List.length_cons, List.length_nil]; omega
  have y6 : (t.nm ++ [32] ++ numL a ++ [46] ++ numL b ++ [46] ++ numL c).length + (t.fs.flatMap fun f => [32] ++ f).length ≤ 100000 := by simp only [List.length_append, List.length_cons, List.length_nil]; omega
  have y7 : (t.nm ++ [32] ++ numL a ++ [46] ++ numL b ++ [46] ++ numL c ++ (t.fs.flatMap fun f => [32] ++ f)).length + ([10] : List Nat).length ≤ 100000 := by rw [el]; show _ + 1 ≤ _; omega
  clear zl
  obtain ⟨tn, tv, tf⟩ := t
  dsimp only at *
  subst ev
  unfold tD at *
  dsimp only at *
  k_call_by "ev" 0
  refine lc_mapf (fun f : List Nat => D.str (sL f)) (fun f => D.str (sL ([32] ++ f))) (fun ρ => ρ = [some (.fz (.nd .tup [.str (sL tn), vD [(a : Int), b, c], .nd .tup (tf.map fun f => .str (sL f))])), some (.fz (.str (sL (tn ++ [32] ++ numL a ++ [46] ++ numL b ++ [46] ++ numL c)))), some (.fz (.str (sL tn))), some (.fz (vD [(a : Int), b, c])), some (.fz (.nd .tup (tf.map fun f => .str (sL f)))), none]) tf (fun f ρ hf2 hr => ?_) rfl fun ρ' hr => ?_
  · subst hr
    have := (h.fs f hf2).1.2
    have y8 : ([32] : List Nat).length + f.length ≤ 100000 := by show 1 + _ ≤ _; omega
    k_call_by "ev" 0
    rfl
  · subst hr
    refine ⟨small_of (by rw [List.length_map]; omega), ?_⟩
    rw [es]
    k_call_by "ev" 0
    rw [joinL_nil, ← List.flatMap_def]
    k_call_by "ev" 0
    exact ek
theorem lcheck_ok {l : List Nat} {Q : T → List T → Prop} (ha : Asc l) (hl : l.length ≤ 99000) (k : Q (.fz (.int (chk l : Int))) [.fz (.str (sL l))]) : Fok (d_law_check [.fz (.str (sL l))]) Q := by
  refine F_law_check ?_
  unfold m_law_check
  have hl5 : l.length ≤ 100000 := by omega
  k_call_by "ev" 0
  refine for_map (fun c : Nat => D.str (sL [c])) (fun dn ρ => ∃ x1, ρ = [some (.fz (.str (sL l))), x1, some (.fz (.int ((dn.foldl stp (0, 0)).1 : Int))), some (.fz (.int ((dn.foldl stp (0, 0)).2 : Int)))]) (fun dn c rest ρ e hI => ?_) (fun ρ hI => ?_) ⟨_, rfl⟩
  · obtain ⟨x1, rfl⟩ := hI
    rw [List.foldl_append]
    k_call_by "ev" 0
    exact ⟨some (.fz (.str (sL [c]))), by
      show _ = [_, _, some (T.fz (.int (((dn.foldl stp (0, 0)).1 + c : Nat) : Int))), some (T.fz (.int (((dn.foldl stp (0, 0)).2 + ((dn.foldl stp (0, 0)).1 + c) : Nat) : Int)))]
      simp only [Int.natCast_add]⟩
  · obtain ⟨x1, rfl⟩ := hI
    rw [stp_rev]
    k_call_by "ev" 0
    rw [fmod_chk]
    exact k
theorem lltext_ok {ts : List Tri} {Q : T → List T → Prop} (h : ∀ t ∈ ts, t.Ok) (s : Sz ts) (k : Q (.fz (.str (sL (text ts)))) [.fz (.nd .tup (ts.map tD))]) : Fok (d_law_text [.fz (.nd .tup (ts.map tD))]) Q := by
  refine F_law_text ?_
  unfold m_law_text
  k_call_by "ev" 0
  refine lc_mapf tD (fun t => D.str (sL (line t ++ [10]))) (fun ρ => ρ = [some (.fz (.nd .tup (ts.map tD))), none, none]) ts (fun t ρ ht hr => ?_) rfl fun ρ' hr => ?_
  · subst hr
    k_call_by "ev" 0
    refine lline_ok (h t ht) (s.f t ht) ?_
    k_call_by "ev" 0
    rfl
  · subst hr
    refine ⟨small_of (by rw [List.length_map]; have := s.n; omega), ?_⟩
    have e : (ts.map fun t => D.str (sL (line t ++ [10]))) = (ts.map fun t => line t ++ [10]).map fun l => D.str (sL l) := by rw [List.map_map]; rfl
    rw [e]
    have hz : ((ts.map fun t => line t ++ [10]).map List.length).sum + (ts.map fun t => line t ++ [10]).length * ([] : List Nat).length ≤ 16777216 := by
      have h1 := sum_len_le (n := 167) (xs := ts.map fun t => line t ++ [10]) fun x hx => by
        obtain ⟨t, ht, rfl⟩ := List.mem_map.mp hx
        have := line_len (h t ht) (s.f t ht)
        rw [List.length_append]
        show _ + 1 ≤ 167
        omega
      have h2 : (ts.map fun t => line t ++ [10]).length * 167 ≤ 60 * 167 := Nat.mul_le_mul_right _ (by rw [List.length_map]; exact s.n)
      simp only [List.length_nil, Nat.mul_zero]
      omega
    k_call_by "ev" 0
    rw [joinL_nil, ← List.flatMap_def]
    have eb : (ts.flatMap fun t => line t ++ [10]) = body ts := rfl
    rw [eb]
    have bl := body_len h s
    have ba : Asc (body ts) := fun c hc => by have := body_mem h hc; omega
    have cl := chk_lt (body ts)
    have nl := chk_len (body ts)
    have z1 : (body ts).length + ([99, 104, 101, 99, 107, 32] : List Nat).length ≤ 100000 := by show _ + 6 ≤ _; omega
    have z2 : (body ts ++ [99, 104, 101, 99, 107, 32]).length + (numL (chk (body ts))).length ≤ 100000 := by rw [List.length_append]; show _ + 6 + _ ≤ _; omega
    have z3 : (body ts ++ [99, 104, 101, 99, 107, 32] ++ numL (chk (body ts))).length + ([10] : List Nat).length ≤ 100000 := by rw [List.length_append, List.length_append]; show _ + 6 + _ + 1 ≤ _; omega
    have z4 : 0 ≤ ((chk (body ts) : Nat) : Int) ∧ ((chk (body ts) : Nat) : Int) < 2 ^ 64 := by omega
    k_call_by "ev" 0
    refine lcheck_ok ba (by omega) ?_
    k_call_by "ev" 0
    have et : body ts ++ [99, 104, 101, 99, 107, 32] ++ numL (chk (body ts)) ++ [10] = text ts := by
      unfold text ctail CHK
      simp
    rw [← et] at k
    exact k
end K41

end
section

namespace K41
/-! names, numbers read -/
def sma (c : Nat) : Bool := decide (c ∈ abc)
theorem sma_iff {c : Nat} : sma c = true ↔ 97 ≤ c ∧ c ≤ 122 := by
  unfold sma abc
  rw [decide_eq_true_iff]
  simp only [List.mem_cons, List.not_mem_nil, or_false]
  omega
def nmB (l : List Nat) : Bool := (decide (1 ≤ l.length) && decide (l.length ≤ 12)) && l.all sma
theorem nmB_iff {l : List Nat} : nmB l = true ↔ Nm l := by
  unfold nmB Nm
  rw [Bool.and_eq_true, Bool.and_eq_true, decide_eq_true_eq, decide_eq_true_eq, List.all_eq_true]
  exact ⟨fun ⟨a, b⟩ => ⟨a, fun c hc => sma_iff.mp (b c hc)⟩, fun ⟨a, b⟩ => ⟨a, fun c hc => sma_iff.mpr (b c hc)⟩⟩
theorem all_map {α : Type} (f : α → Bool) (l : List α) : (l.map f).all id = l.all f := by rw [List.all_map]; rfl
theorem isname_ok {l : List Nat} {Q : T → List T → Prop} (hl : l.length ≤ 100000) (k : Q (.fz (.bl (nmB l))) [.fz (.str (sL l))]) : Fok (d_is_name [.fz (.str (sL l))]) Q := by
  refine F_is_name ?_
  unfold m_is_name k_SMALL k_MOST_SIGNS
  unfold nmB at k
  by_cases h1 : 1 ≤ l.length
  · have d1 : decide ((1 : Int) ≤ (l.length : Int)) = true := decide_eq_true (by omega)
    by_cases h2 : l.length ≤ 12
    · have d2 : decide ((l.length : Int) ≤ 12) = true := decide_eq_true (by omega)
      rw [decide_eq_true h1, decide_eq_true h2, Bool.true_and, Bool.true_and] at k
      k_call_by "ev" 0
      refine lc_mapf (fun c => D.str (sL [c])) (fun c => .bl (sma c)) (fun ρ => ρ = [some (.fz (.str (sL l))), none]) l (fun x ρ hx hr => ?_) rfl fun ρ' hr => ?_
      · subst hr
        k_call_by "ev" 0
        rfl
      · subst hr
        refine ⟨small_of (by rw [List.length_map]; exact hl), ?_⟩
        have b1 : bls (l.map fun c => D.bl (sma c)) = some (l.map sma) := bls_map sma l
        k_call_by "ev" 0
        rw [all_map]
        exact k
    · have d2 : decide ((l.length : Int) ≤ 12) = false := decide_eq_false (by omega)
      rw [decide_eq_false h2, Bool.and_false, Bool.false_and] at k
      k_call_by "ev" 0
      exact k
  · have d1 : decide ((1 : Int) ≤ (l.length : Int)) = false := decide_eq_false (by omega)
    rw [decide_eq_false h1, Bool.false_and, Bool.false_and] at k
    k_call_by "ev" 0
    exact k
theorem num_len {m : Nat} {l : List Nat} (hm : m < 10 ^ 12) (h : isNum m l) : 1 ≤ l.length ∧ l.length ≤ 12 := by
  obtain ⟨n, h1, rfl⟩ := h
  refine ⟨?_, numL_len (by decide) (by omega)⟩
  have := numL_ne n
  cases e : numL n with
  | nil => exact absurd e this
  | cons _ _ => rw [List.length_cons]; omega
theorem num_dig {m : Nat} {l : List Nat} (h : isNum m l) : l.all dig = true := by
  obtain ⟨n, h1, rfl⟩ := h
  exact List.all_eq_true.mpr fun c hc => dig_iff.mpr (numL_dig hc)
theorem num_head {n c : Nat} {r : List Nat} (e : numL n = c :: r) (hc : c = 48) : r = [] := by
  by_cases hz : n = 0
  · rw [hz, numL_zero] at e
    cases e
    rfl
  · obtain ⟨c', r', e', hc'⟩ := numL_head (n := n) (by omega)
    rw [e] at e'
    cases e'
    exact absurd hc hc'
theorem number_o {m : Nat} {l : List Nat} {Q : T → List T → Prop} (hm : m < 10 ^ 12) (ha : Asc l) (hl : l.length ≤ 100000) (k : Q (.fz (nD (numM m l))) [.fz (.str (sL l)), .fz (.int (m : Int))]) : Fok (d_number_told [.fz (.str (sL l)), .fz (.int (m : Int))]) Q := by
  refine F_number_told ?_
  unfold m_number_told k_MOST_SIGNS k_FIGURES
  have no : ¬ isNum m l → Q (.fz .non) [.fz (.str (sL l)), .fz (.int (m : Int))] := fun h => by rw [numM_not h] at k; exact k
  by_cases h1 : 1 ≤ l.length
  · have d1 : decide ((1 : Int) ≤ (l.length : Int)) = true := decide_eq_true (by omega)
    by_cases h2 : l.length ≤ 12
    · have d2 : decide ((l.length : Int) ≤ 12) = true := decide_eq_true (by omega)
      obtain ⟨c, r, e⟩ : ∃ c r, l = c :: r := by
        cases l with
        | nil => simp at h1
        | cons c r => exact ⟨c, r, rfl⟩
      have a0 : atI l 0 = some c := atN (n := 0) (by rw [e]; rfl)
      have q1 : eqD (.str (sL [c])) (.str (sL [48])) = some (decide ([c] = [48])) := eqD_sL (fun x hx => by
        have : x = c := by simpa using hx
        exact ha x (by rw [e, this]; exact List.mem_cons_self ..)) (by decide)
      have q2 : eqD (.str (sL l)) (.str (sL [48])) = some (decide (l = [48])) := eqD_sL ha (by decide)
      k_call_by "ev" 0
      refine lc_mapf (fun c => D.str (sL [c])) (fun c => .bl (dig c)) (fun ρ => ρ = [some (.fz (.str (sL l))), some (.fz (.int (m : Int))), none]) l (fun x ρ hx hr => ?_) rfl fun ρ' hr => ?_
      · subst hr
        k_call_by "ev" 0
        rfl
      · subst hr
        refine ⟨small_of (by rw [List.length_map]; exact hl), ?_⟩
        have b1 : bls (l.map fun c => D.bl (dig c)) = some (l.map dig) := bls_map dig l
        by_cases hd : (l.map dig).all id = true
        · have hd' : ∀ c ∈ l, 48 ≤ c ∧ c ≤ 57 := fun c hc => dig_iff.mp (List.all_eq_true.mp hd (dig c) (List.mem_map_of_mem hc))
          by_cases hz : c = 48 ∧ l ≠ [48]
          · have e1 : decide ([c] = [48]) = true := decide_eq_true (by rw [hz.1])
            have e2 : decide (l = [48]) = false := decide_eq_false hz.2
            k_call_by "ev" 0
            refine no fun ⟨n, _, en⟩ => hz.2 ?_
            have := num_head (en.symm.trans e) hz.1
            rw [e, this, hz.1]
          · obtain ⟨n, hnum⟩ := canon_num l (by rw [e]; simp) hd' (fun r' hr' => by
              apply Classical.byContradiction
              intro q
              refine hz ⟨?_, ?_⟩
              · rw [e] at hr'; cases hr'; rfl
              · rw [hr']; exact fun z => q (by cases z; rfl))
            have i1 : intText? (sL l) = some (n : Int) := by
              have := intText_numL (n := n) (by rw [← hnum]; omega)
              rw [hnum]
              exact this
            have i2 : (sL l).length ≤ 640 := by rw [len_tl]; show l.length ≤ 640; omega
            have fin : Q (.fz (if decide ((m : Int) < (n : Int)) = true then .non else .int (n : Int))) [.fz (.str (sL l)), .fz (.int (m : Int))] := by
              by_cases q : n ≤ m
              · rw [show decide ((m : Int) < (n : Int)) = false from decide_eq_false (by omega), if_neg (fun z => nomatch z)]
                rw [hnum, numM_of q, ← hnum] at k
                exact k
              · rw [show decide ((m : Int) < (n : Int)) = true from decide_eq_true (by omega), if_pos rfl]
                exact no fun ⟨x, hx, ex⟩ => q (by rw [numL_inj (hnum.symm.trans ex)]; exact hx)
            by_cases hc : c = 48
            · have e1 : decide ([c] = [48]) = true := decide_eq_true (by rw [hc])
              have hw : l = [48] := Classical.byContradiction fun z => hz ⟨hc, z⟩
              have e2 : decide (l = [48]) = true := decide_eq_true hw
              cases d3 : decide ((m : Int) < (n : Int)) with
              | true =>
                rw [d3, if_pos rfl] at fin
                k_call_by "ev" 0
                exact fin
              | false =>
                rw [d3, if_neg (fun z => nomatch z)] at fin
                k_call_by "ev" 0
                exact fin
            · have e1 : decide ([c] = [48]) = false := decide_eq_false (fun z => hc (by simpa using z))
              cases d3 : decide ((m : Int) < (n : Int)) with
              | true =>
                rw [d3, if_pos rfl] at fin
                k_call_by "ev" 0
                exact fin
              | false =>
                rw [d3, if_neg (fun z => nomatch z)] at fin
                k_call_by "ev" 0
                exact fin
        · have hd2 : (l.map dig).all id = false := by simpa using hd
          k_call_by "ev" 0
          refine no fun z => hd ?_
          rw [all_map]
          exact num_dig z
    · have d2 : decide ((l.length : Int) ≤ 12) = false := decide_eq_false (by omega)
      k_call_by "ev" 0
      exact no fun z => h2 (num_len hm z).2
  · have d1 : decide ((1 : Int) ≤ (l.length : Int)) = false := decide_eq_false (by omega)
    k_call_by "ev" 0
    exact no fun z => h1 (num_len hm z).1
theorem val_lt : ∀ (l : List Nat) (a : Nat), NumText.AllDigits l → l.foldl (fun acc c => acc * 10 + (c - 48)) a + 1 ≤ (a + 1) * 10 ^ l.length
  | [], a, _ => by simp
  | c :: r, a, h => by
    have hc := h.head
    have ih := val_lt r (a * 10 + (c - 48)) h.tail
    rw [List.foldl_cons, List.length_cons, Nat.pow_succ]
    have h2 : (a * 10 + (c - 48) + 1) * 10 ^ r.length ≤ ((a + 1) * 10) * 10 ^ r.length := Nat.mul_le_mul_right _ (by omega)
    have h3 : ((a + 1) * 10) * 10 ^ r.length = (a + 1) * (10 ^ r.length * 10) := by rw [Nat.mul_assoc, Nat.mul_comm 10]
    omega
end K41

end
section

namespace K41
noncomputable abbrev numO (l : List Nat) : Option Nat := numM 1000000 l
theorem number_6 {l : List Nat} {Q : T → List T → Prop} (ha : Asc l) (hl : l.length ≤ 100000) (k : Q (.fz (nD (numO l))) [.fz (.str (sL l)), .fz (.int 1000000)]) : Fok (d_number_told [.fz (.str (sL l)), .fz (.int 1000000)]) Q := number_o (m := 1000000) (by decide) ha hl k
theorem number_9 {l : List Nat} {Q : T → List T → Prop} (ha : Asc l) (hl : l.length ≤ 100000) (k : Q (.fz (nD (numM 99991 l))) [.fz (.str (sL l)), .fz (.int 99991)]) : Fok (d_number_told [.fz (.str (sL l)), .fz (.int 99991)]) Q := number_o (m := 99991) (by decide) ha hl k
local macro_rules | `(tactic| k_call_by "call" 0) => `(tactic| ((with_reducible apply number_6); (first | assumption | omega); (first | assumption | omega)))
theorem vtold_all {l : List Nat} {Q : T → List T → Prop} (ha : Asc l) (hl : l.length ≤ 99000) (hy : ∀ v, isVer l v → Q (.fz (vD v)) [.fz (.str (sL l))]) (hn : (∀ v, ¬ isVer l v) → Q (.fz .non) [.fz (.str (sL l))]) : Fok (d_version_told [.fz (.str (sL l))]) Q := by
  refine F_version_told ?_
  unfold m_version_told k_GREATEST
  have hs : ([46] : List Nat) ≠ [] ∧ ([46] : List Nat).all (fun c => decide (c < 256)) = true ∧ l.length ≤ 100000 := ⟨by decide, by decide, by omega⟩
  k_call_by "ev" 0
  refine lc_mapf (fun p : List Nat => D.str (sL p)) (fun p => nD (numO p)) (fun ρ => ρ = [some (.fz (.str (sL l))), none, none]) (spl [46] 0 [] l) (fun p ρ hp hr => ?_) rfl fun ρ' hr => ?_
  · subst hr
    have h1 : Asc p := fun c hc => by
      rcases spl_mem l _ _ p hp c hc with h | h
      · cases h
      · exact ha c h
    have h2 : p.length ≤ 100000 := by
      have := spl_sz l _ _ p hp
      rw [List.length_nil] at this
      omega
    k_call_by "ev" 0
    rfl
  · subst hr
    refine ⟨small_of (by rw [List.length_map]; have := spl_many (S := [46]) l 0 []; omega), ?_⟩
    have e4 : (scal D.non && (DK.isQ .tup && ((spl [46] 0 [] l).map fun p => nD (numO p)).all scal)) = true := by
      show (((spl [46] 0 [] l).map fun p => nD (numO p)).all scal) = true
      rw [List.all_map]
      refine List.all_eq_true.mpr fun p _ => ?_
      show scal (nD (numO p)) = true
      cases numO p <;> rfl
    have e5 : inD .non ((spl [46] 0 [] l).map fun p => nD (numO p)) = ((spl [46] 0 [] l).map numO).any Option.isNone := by
      rw [← inD_nD, List.map_map]
      rfl
    by_cases h3 : (spl [46] 0 [] l).length = 3
    · have e3 : decide ((((spl [46] 0 [] l).map fun p => nD (numO p)).length : Int) = 3) = true := decide_eq_true (by rw [List.length_map, h3]; rfl)
      k_call_by "ev" 0
      refine FB_ninQ e4 ?_
      rw [e5]
      obtain ⟨a, b, c, eq⟩ : ∃ a b c, spl [46] 0 [] l = [a, b, c] := by
        match q : spl [46] 0 [] l, h3 with
        | [a, b, c], _ => exact ⟨a, b, c, rfl⟩
      have inv := spl_inv (s := 46) l []
      rw [eq] at inv
      have nums : ∀ v, isVer l v → isNum 1000000 a ∧ isNum 1000000 b ∧ isNum 1000000 c := fun v hv => by
        have e6 := spl_vT hv.1
        rw [← hv.2, eq] at e6
        obtain ⟨x, y, z, rfl, hx, hy2, hz⟩ := vT3 hv.1
        have e7 : [a, b, c] = [numL x, numL y, numL z] := e6
        cases e7
        exact ⟨⟨x, hx, rfl⟩, ⟨y, hy2, rfl⟩, ⟨z, hz, rfl⟩⟩
      rw [eq]
      cases oa : numO a with
      | none =>
        rw [show List.any (List.map numO [a, b, c]) Option.isNone = true by simp [oa]]
        k_call_by "ev" 0
        exact hn fun v hv => numM_none oa (nums v hv).1
      | some x =>
        cases ob : numO b with
        | none =>
          rw [show List.any (List.map numO [a, b, c]) Option.isNone = true by simp [ob]]
          k_call_by "ev" 0
          exact hn fun v hv => numM_none ob (nums v hv).2.1
        | some y =>
          cases oc : numO c with
          | none =>
            rw [show List.any (List.map numO [a, b, c]) Option.isNone = true by simp [oc]]
            k_call_by "ev" 0
            exact hn fun v hv => numM_none oc (nums v hv).2.2
          | some z =>
            rw [show List.any (List.map numO [a, b, c]) Option.isNone = false by simp [oa, ob, oc]]
            have e8 : [a, b, c].map (fun p => nD (numO p)) = ([(x : Int), (y : Int), (z : Int)] : List Int).map D.int := by
              show [nD (numO a), nD (numO b), nD (numO c)] = _
              rw [oa, ob, oc]
              rfl
            rw [e8]
            k_call_by "ev" 0
            obtain ⟨a1, a2⟩ := numM_some oa
            obtain ⟨b1, b2⟩ := numM_some ob
            obtain ⟨c1, c2⟩ := numM_some oc
            refine hy [(x : Int), (y : Int), (z : Int)] ⟨⟨rfl, fun i hi => ?_⟩, ?_⟩
            · simp only [List.mem_cons, List.not_mem_nil, or_false] at hi
              rcases hi with rfl | rfl | rfl <;> omega
            · rw [vT_eq, ← a2, ← b2, ← c2]
              exact inv.symm
    · have e3 : decide ((((spl [46] 0 [] l).map fun p => nD (numO p)).length : Int) = 3) = false := decide_eq_false (by rw [List.length_map]; omega)
      k_call_by "ev" 0
      refine hn fun v hv => h3 ?_
      rw [hv.2, spl_vT hv.1, List.length_map, hv.1.1]

theorem pw_adj : ∀ {xs : List (List Nat)}, (∀ i, i + 1 < xs.length → xs.getD i [] < xs.getD (i + 1) []) ↔ xs.Pairwise (· < ·)
  | [] => ⟨fun _ => .nil, fun _ i h => by simp at h⟩
  | [x] => ⟨fun _ => List.pairwise_singleton _ _, fun _ i h => by simp at h⟩
  | x :: y :: r => by
    have ih := pw_adj (xs := y :: r)
    constructor
    · intro h
      have h1 := ih.mp fun i hi => by
        have := h (i + 1) (by simp at hi ⊢; omega)
        simpa using this
      have h0 : x < y := by
        have := h 0 (by simp)
        simpa using this
      refine List.pairwise_cons.mpr ⟨fun z hz => ?_, h1⟩
      rcases List.mem_cons.mp hz with rfl | hz
      · exact h0
      · exact List.lt_trans h0 ((List.pairwise_cons.mp h1).1 z hz)
    · intro h i hi
      obtain ⟨h1, h2⟩ := List.pairwise_cons.mp h
      cases i with
      | zero => exact h1 y (by simp)
      | succ i =>
        have := ih.mpr h2 i (by simp at hi ⊢; omega)
        simpa using this
theorem rising_ok {xs : List (List Nat)} {Q : T → List T → Prop} (hl : xs.length ≤ 90000) (k : Q (.fz (.bl (decide (xs.Pairwise (· < ·))))) [.fz (.nd .tup (xs.map fun l => .str (sL l)))]) : Fok (d_is_rising [.fz (.nd .tup (xs.map fun l => .str (sL l)))]) Q := by
  refine F_is_rising ?_
  unfold m_is_rising
  have hr : -(2 ^ 62) ≤ (((xs.map fun l => D.str (sL l)).length : Nat) : Int) - 1 ∧ (((xs.map fun l => D.str (sL l)).length : Nat) : Int) - 1 < 2 ^ 62 := by rw [List.length_map]; omega
  k_call_by "ev" 0
  rw [show ((((xs.map fun l => D.str (sL l)).length : Nat) : Int) - 1).toNat = xs.length - 1 by rw [List.length_map]; omega, rng_map]
  refine lc_mapf (fun i : Nat => D.int (i : Int)) (fun i => .bl (decide (xs.getD i [] < xs.getD (i + 1) []))) (fun ρ => ρ = [some (.fz (.nd .tup (xs.map fun l => .str (sL l)))), none]) (List.range (xs.length - 1)) (fun i ρ hi hr => ?_) rfl fun ρ' hr => ?_
  · subst hr
    have hi := List.mem_range.mp hi
    have a0 : atI (xs.map fun l => D.str (sL l)) (i : Int) = some (.str (sL (xs.getD i []))) := atN (by rw [List.getElem?_map, List.getElem?_eq_getElem (by omega), List.getD_eq_getElem?_getD, List.getElem?_eq_getElem (by omega)]; rfl)
    have a1 : atI (xs.map fun l => D.str (sL l)) ((i : Int) + 1) = some (.str (sL (xs.getD (i + 1) []))) := atI_1 (by rw [List.getElem?_map, List.getElem?_eq_getElem (by omega), List.getD_eq_getElem?_getD, List.getElem?_eq_getElem (by omega)]; rfl)
    k_call_by "ev" 0
    rfl
  · subst hr
    refine ⟨small_of (by rw [List.length_map, List.length_range]; omega), ?_⟩
    have b1 : bls ((List.range (xs.length - 1)).map fun i => D.bl (decide (xs.getD i [] < xs.getD (i + 1) []))) = some ((List.range (xs.length - 1)).map fun i => decide (xs.getD i [] < xs.getD (i + 1) [])) := bls_map (fun i => decide (xs.getD i [] < xs.getD (i + 1) [])) _
    k_call_by "ev" 0
    have e : ((List.range (xs.length - 1)).map fun i => decide (xs.getD i [] < xs.getD (i + 1) [])).all id = decide (xs.Pairwise (· < ·)) := by
      rw [all_map, Bool.eq_iff_iff, decide_eq_true_iff, List.all_eq_true, ← pw_adj]
      exact ⟨fun h i hi => of_decide_eq_true (h i (List.mem_range.mpr (by omega))), fun h i hi => decide_eq_true (h i (by have := List.mem_range.mp hi; omega))⟩
    rw [e]
    exact k
def triD : Option Tri → D
  | none => .non
  | some t => tD t
theorem map_str_ix {w0 w1 : List Nat} {fs : List (List Nat)} : atI ((w0 :: w1 :: fs).map fun l => D.str (sL l)) 0 = some (.str (sL w0)) ∧ atI ((w0 :: w1 :: fs).map fun l => D.str (sL l)) 1 = some (.str (sL w1)) := ⟨atN (n := 0) rfl, atN (n := 1) rfl⟩
theorem tri_parts {l w0 w1 : List Nat} {fs : List (List Nat)} (e : spl [32] 0 [] l = w0 :: w1 :: fs) {t : Tri} (h : isTri l t) : w0 = t.nm ∧ w1 = vT t.vs ∧ fs = t.fs := by
  have e1 := spl_line h.1
  rw [← h.2, e] at e1
  have e2 : w0 :: w1 :: fs = t.nm :: vT t.vs :: t.fs := e1
  simp only [List.cons.injEq] at e2
  exact e2
theorem tri_make {l w0 w1 : List Nat} {v : List Int} {fs : List (List Nat)} (e : spl [32] 0 [] l = w0 :: w1 :: fs) (h0 : Nm w0) (h1 : isVer w1 v) (h2 : ∀ f ∈ fs, Nm f) (h3 : fs.Pairwise (· < ·)) : triO l = some ⟨w0, v, fs⟩ := by
  have ok : Tri.Ok ⟨w0, v, fs⟩ := ⟨h0, h1.1, h2, h3⟩
  have el : l = line ⟨w0, v, fs⟩ := by
    have := spl_inv (s := 32) l []
    rw [e, List.nil_append] at this
    rw [← this, h1.2]
    rfl
  rw [el]
  exact triO_of ok
theorem spl_facts {s : Nat} {l p : List Nat} (ha : Asc l) (h : p ∈ spl [s] 0 [] l) : Asc p ∧ p.length ≤ l.length := by
  refine ⟨fun c hc => ?_, ?_⟩
  · rcases spl_mem l _ _ p h c hc with z | z
    · cases z
    · exact ha c z
  · have := spl_sz l _ _ p h
    rw [List.length_nil] at this
    omega
theorem triple_ok {l : List Nat} {Q : T → List T → Prop} (ha : Asc l) (hl : l.length ≤ 90000) (k : Q (.fz (triD (triO l))) [.fz (.str (sL l))]) : Fok (d_triple_told [.fz (.str (sL l))]) Q := by
  refine F_triple_told ?_
  unfold m_triple_told
  have no : (∀ t, ¬ isTri l t) → Q (.fz .non) [.fz (.str (sL l))] := fun h => by rw [triO_not h] at k; exact k
  have hs : ([32] : List Nat) ≠ [] ∧ ([32] : List Nat).all (fun c => decide (c < 256)) = true ∧ l.length ≤ 100000 := ⟨by decide, by decide, by omega⟩
  have hm := spl_many (S := [32]) l 0 []
  by_cases h2 : 2 ≤ (spl [32] 0 [] l).length
  · obtain ⟨w0, w1, fs, e⟩ : ∃ w0 w1 fs, spl [32] 0 [] l = w0 :: w1 :: fs := by
      match q : spl [32] 0 [] l, h2 with
      | w0 :: w1 :: fs, _ => exact ⟨w0, w1, fs, rfl⟩
    have hmem : ∀ p ∈ w0 :: w1 :: fs, Asc p ∧ p.length ≤ l.length := fun p hp => spl_facts ha (by rw [e]; exact hp)
    obtain ⟨a0, l0⟩ := hmem w0 (by simp)
    obtain ⟨a1, l1⟩ := hmem w1 (by simp)
    obtain ⟨i0, i1⟩ := @map_str_ix w0 w1 fs
    have d1 : decide ((((w0 :: w1 :: fs).map fun l => D.str (sL l)).length : Int) < 2) = false := decide_eq_false (by simp; omega)
    rw [e] at hm
    k_call_by "ev" 0
    rw [e]
    k_call_by "ev" 0
    refine isname_ok (by omega) ?_
    by_cases n0 : Nm w0
    · rw [nmB_iff.mpr n0]
      k_call_by "ev" 0
      have ec : cutD ((w0 :: w1 :: fs).map fun l => D.str (sL l)) (some 2) none = fs.map fun l => D.str (sL l) := by
        rw [show (2 : Int) = ((2 : Nat) : Int) from rfl, cut_drop]
        rfl
      rw [List.length_cons, List.length_cons] at hm
      refine vtold_all a1 (by omega) (fun v hv => ?_) fun hv => ?_
      · k_call_by "ev" 0
        rw [ec]
        refine lc_mapf (fun f : List Nat => D.str (sL f)) (fun f => .bl (nmB f)) (fun ρ => ρ = [some (.fz (.str (sL l))), some (.fz (.nd .lst ((w0 :: w1 :: fs).map fun l => D.str (sL l)))), some (.fz (vD v)), some (.fz (.nd .tup (fs.map fun l => D.str (sL l)))), none]) fs (fun f ρ hf hr => ?_) rfl fun ρ' hr => ?_
        · subst hr
          obtain ⟨af, lf⟩ := hmem f (by simp [hf])
          k_call_by "ev" 0
          refine isname_ok (by omega) ?_
          k_call_by "ev" 0
          rfl
        · subst hr
          refine ⟨small_of (by rw [List.length_map]; omega), ?_⟩
          have b1 : bls (fs.map fun f => D.bl (nmB f)) = some (fs.map nmB) := bls_map nmB fs
          by_cases hd : (fs.map nmB).all id = true
          · have hd2 : ∀ f ∈ fs, Nm f := fun f hf => nmB_iff.mp (List.all_eq_true.mp hd (nmB f) (List.mem_map_of_mem hf))
            k_call_by "ev" 0
            refine rising_ok (by omega) ?_
            by_cases hp : fs.Pairwise (· < ·)
            · rw [decide_eq_true hp]
              rw [tri_make e n0 hv hd2 hp] at k
              k_call_by "ev" 0
              exact k
            · rw [decide_eq_false hp]
              k_call_by "ev" 0
              exact no fun t ht => hp (by rw [(tri_parts e ht).2.2]; exact ht.1.asc)
          · have hd2 : (fs.map nmB).all id = false := by simpa using hd
            k_call_by "ev" 0
            refine no fun t ht => hd ?_
            rw [all_map, List.all_eq_true]
            exact fun f hf => nmB_iff.mpr (ht.1.fs f (by rw [← (tri_parts e ht).2.2]; exact hf))
      · k_call_by "ev" 0
        exact no fun t ht => hv t.vs ⟨ht.1.vs, (tri_parts e ht).2.1⟩
    · have n1 : nmB w0 = false := by
        cases z : nmB w0 with
        | true => exact absurd (nmB_iff.mp z) n0
        | false => rfl
      rw [n1]
      k_call_by "ev" 0
      exact no fun t ht => n0 (by rw [(tri_parts e ht).1]; exact ht.1.nm)
  · have d1 : decide ((((spl [32] 0 [] l).map fun l => D.str (sL l)).length : Int) < 2) = true := decide_eq_true (by rw [List.length_map]; omega)
    k_call_by "ev" 0
    refine no fun t ht => h2 ?_
    rw [ht.2, spl_line ht.1]
    show 2 ≤ t.fs.length + 1 + 1
    omega
end K41

end
section

namespace K41
theorem eqD_nI {o : Option Nat} {c : Nat} : eqD (nD o) (.int (c : Int)) = some (decide (o = some c)) := by
  cases o with
  | none =>
    rw [decide_eq_false (fun z => nomatch z)]
    exact eqD_ne (n := 1) (by decide) rfl rfl fun z => nomatch z
  | some x =>
    show eqD (.int (x : Int)) (.int (c : Int)) = _
    rw [eqD_ii]
    congr 1
    rw [decide_eq_decide]
    simp
    omega
theorem isChk_eq {l : List Nat} {fd : List Tri} {m : Nat} (hm : 99990 ≤ m) : isChk l fd = (decide (l.take 6 = CHK) && decide (numM m (l.drop 6) = some (chk (body fd)))) := by
  unfold isChk
  have h := chk_lt (body fd)
  rw [Bool.eq_iff_iff, Bool.and_eq_true, decide_eq_true_iff, decide_eq_true_iff, decide_eq_true_iff]
  constructor
  · rintro ⟨h1, h2⟩
    exact ⟨h1, by rw [h2]; exact numM_of (by omega)⟩
  · rintro ⟨h1, h2⟩
    exact ⟨h1, (numM_some h2).2⟩
noncomputable def endR (init : List (List Nat)) (z : List Nat) (n : Nat) (l : List Nat) (fd : List Tri) : Res := if isChk l fd = true then (if isEnd (init ++ [z]) n = true then .told fd else .ref (n + 2)) else .ref (n + 1)
theorem ended_told {init : List (List Nat)} {z l : List Nat} {fd : List Tri} {n : Nat} {Q : T → List T → Prop} (hn : n < init.length) (hil : init.length ≤ 90000) (hz : Asc z) (ha : Asc l) (hl : l.length ≤ 90000) (hb : Asc (body fd)) (hbl : (body fd).length ≤ 90000) (hfl : fd.length ≤ 90000)
    (h1 : isChk l fd = true) (h2 : isEnd (init ++ [z]) n = true) (k : Q (.fz (.nd .tup (fd.map tD))) [.fz (.nd .lst ((init ++ [z]).map fun l => .str (sL l))), .fz (.int (n : Int)), .fz (.str (sL l)), .fz (.str (sL (body fd))), .fz (.nd .lst (fd.map tD))]) :
    Fok (d_ended [.fz (.nd .lst ((init ++ [z]).map fun l => .str (sL l))), .fz (.int (n : Int)), .fz (.str (sL l)), .fz (.str (sL (body fd))), .fz (.nd .lst (fd.map tD))]) Q := by
  refine F_ended ?_
  unfold m_ended k_CHECK k_BY
  have hl5 : l.length ≤ 100000 := by omega
  have c6 : ([99, 104, 101, 99, 107, 32] : List Nat).length ≤ 100000 := by decide
  have e1 : cutL l none (some ((([99, 104, 101, 99, 107, 32] : List Nat).length : Nat) : Int)) = l.take 6 := cutL_take
  have e2 : cutL l (some ((([99, 104, 101, 99, 107, 32] : List Nat).length : Nat) : Int)) none = l.drop 6 := cutL_drop
  have q1 : eqD (.str (sL (cutL l none (some ((([99, 104, 101, 99, 107, 32] : List Nat).length : Nat) : Int))))) (.str (sL [99, 104, 101, 99, 107, 32])) = some (decide (l.take 6 = CHK)) := by
    rw [e1]
    exact eqD_sL (fun c hc => ha c (List.mem_of_mem_take hc)) (by decide)
  have hda : Asc (l.drop 6) := fun c hc => ha c (List.mem_of_mem_drop hc)
  have hdl : (l.drop 6).length ≤ 100000 := by rw [List.length_drop]; omega
  have q2 := @eqD_nI (numM 99991 (l.drop 6)) (chk (body fd))
  rw [isChk_eq (m := 99991) (by decide), Bool.and_eq_true] at h1
  obtain ⟨d3, d4⟩ := h1
  obtain ⟨f1, f2⟩ := of_decide_eq_true h2
  have hz0 : z = [] := by simpa using f2
  subst hz0
  have q3 : eqD (.str (sL [])) (.str (sL [])) = some true := by rw [eqD_sL (by decide) (by decide)]; rfl
  have a1 : atI ((init ++ [[]]).map fun l => D.str (sL l)) (-1) = some (.str (sL [])) := by rw [List.map_append]; exact atI_last
  have d1 : decide ((n : Int) + 2 < (((init ++ [[]]).map fun l => D.str (sL l)).length : Int)) = false := decide_eq_false (by rw [List.length_map]; omega)
  k_call_by "ev" 0
  rw [e2]
  refine number_9 hda hdl ?_
  k_call_by "ev" 0
  refine check_ok hb (by omega) ?_
  k_call_by "ev" 0
  exact k
theorem FB_tD0 {t : Tri} {Q : D → Prop} (h : Q (.str (sL t.nm))) : FB (fIx (tD t) (.int 0)) Q := ⟨_, rfl, h⟩
theorem nil_or_snoc {α : Type} (l : List α) : l = [] ∨ ∃ r x, l = r ++ [x] := by
  cases e : l.getLast? with
  | none => exact .inl (List.getLast?_eq_none_iff.mp e)
  | some x =>
    obtain ⟨r, h⟩ := List.getLast?_eq_some_iff.mp e
    exact .inr ⟨r, x, h⟩
theorem badTop_snoc {r : List Tri} {u t : Tri} : badTop (r ++ [u]) t = !decide (u.nm < t.nm) := by
  unfold badTop
  rw [List.getLast?_concat]
/-- a text's rows, the last one apart -/
theorem rows_of (l : List Nat) : ∃ init z, spl [10] 0 [] l = init ++ [z] ∧ (spl [10] 0 [] l).dropLast = init := by
  refine ⟨_, _, (List.dropLast_concat_getLast (spl_ne l 0 [])).symm, rfl⟩
theorem body_pre {l : List Nat} {init : List (List Nat)} {z : List Nat} {fd : List Tri} {n : Nat} (e : spl [10] 0 [] l = init ++ [z]) (h : init.take n = fd.map line) : l = body fd ++ joinL [10] (init.drop n ++ [z]) := by
  have h1 := spl_inv (s := 10) l []
  rw [e, List.nil_append, ← List.take_append_drop n init, h, List.append_assoc, joinL_body _ (by simp)] at h1
  exact h1.symm
structure St (init : List (List Nat)) (z : List Nat) (n : Nat) (fd : List Tri) : Prop where
  ok : ∀ t ∈ fd, t.Ok
  tk : init.take n = fd.map line
  go : go (init ++ [z]) 0 [] init = go (init ++ [z]) n fd (init.drop n)
theorem St.zero (init : List (List Nat)) (z : List Nat) : St init z 0 [] := ⟨fun _ h => (nomatch h), rfl, rfl⟩
theorem St.len {init : List (List Nat)} {z : List Nat} {n : Nat} {fd : List Tri} (h : St init z n fd) (hn : n ≤ init.length) : fd.length = n := by
  have := congrArg List.length h.tk
  rw [List.length_take, List.length_map] at this
  omega
theorem St.next {init : List (List Nat)} {z x : List Nat} {n : Nat} {fd : List Tri} {t : Tri} (h : St init z n fd) (hx : init[n]? = some x) (ht : triO x = some t) (hb : badTop fd t = false) : St init z (n + 1) (fd ++ [t]) := by
  obtain ⟨hn, hx⟩ := List.getElem?_eq_some_iff.mp hx
  obtain ⟨h1, h2⟩ := triO_some ht
  refine ⟨fun u hu => ?_, ?_, ?_⟩
  · rcases List.mem_append.mp hu with hu | hu
    · exact h.ok u hu
    · rw [List.mem_singleton.mp hu]; exact h1
  · rw [List.take_succ, h.tk, List.getElem?_eq_getElem hn, hx, h2, List.map_append]
    rfl
  · rw [h.go, List.drop_eq_getElem_cons hn, hx]
    show (match triO x with
      | some t => _
      | none => _) = _
    rw [ht]
    show (if badTop fd t = true then _ else _) = _
    rw [hb, if_neg (fun z => nomatch z)]
theorem St.bad {init : List (List Nat)} {z x : List Nat} {n : Nat} {fd : List Tri} {t : Tri} (h : St init z n fd) (hx : init[n]? = some x) (ht : triO x = some t) (hb : badTop fd t = true) : LM.go (init ++ [z]) 0 [] init = .ref (n + 1) := by
  obtain ⟨hn, hx⟩ := List.getElem?_eq_some_iff.mp hx
  rw [h.go, List.drop_eq_getElem_cons hn, hx]
  show (match triO x with
    | some t => _
    | none => _) = _
  rw [ht]
  show (if badTop fd t = true then _ else _) = _
  rw [hb, if_pos rfl]
theorem St.fin {init : List (List Nat)} {z x : List Nat} {n : Nat} {fd : List Tri} (h : St init z n fd) (hx : init[n]? = some x) (ht : triO x = none) : LM.go (init ++ [z]) 0 [] init = endR init z n x fd := by
  obtain ⟨hn, hx⟩ := List.getElem?_eq_some_iff.mp hx
  rw [h.go, List.drop_eq_getElem_cons hn, hx]
  show (match triO x with
    | some t => _
    | none => _) = _
  rw [ht]
  rfl
theorem St.done {init : List (List Nat)} {z : List Nat} {fd : List Tri} (h : St init z init.length fd) : LM.go (init ++ [z]) 0 [] init = .ref (init ++ [z]).length := by
  rw [h.go, List.drop_length]
  rfl
end K41

end
section

namespace K41
theorem KCall_fr {ρ : DL.Env} {fn : Fn} {ys : List DL.Arg} {Q : T → DL.Env → Prop} (h : Kfrl ρ ys fun ds ρ' => bDs ρ ys = some ds ∧ Fok (fn (ds.map .fz)) fun r _ => (∃ k es, r = .fz (.nd k es)) ∧ Q r ρ') : KCall fn Q ys ρ := by
  obtain ⟨ds, ρ', e1, e2, r, ts, e3, ⟨k, es, rfl⟩, h⟩ := h
  refine ⟨_, ρ', ?_, h⟩
  show (match callB fn ρ ys with
    | some d => some (T.fz d, ρ)
    | none => (frzL ρ ys).bind fun z => (fn (z.1.map .fz)).bind fun r => some (r.1, z.2)) = _
  have c : callB fn ρ ys = none := by
    unfold callB
    rw [e2]
    show (fn (ds.map .fz)).bind _ = _
    rw [e3] <;> rfl
  rw [c]
  show (frzL ρ ys).bind _ = _
  rw [e1]
  show (fn (ds.map .fz)).bind _ = _
  rw [e3] <;> rfl
theorem read_told {l : List Nat} {ts : List Tri} {Q : T → List T → Prop} (ha : Asc l) (hl : l.length ≤ 40000) (hd0 : due l = .told ts) (k : Q (.fz (.nd .tup (ts.map tD))) [.fz (.str (sL l))]) : Fok (d_read_lock [.fz (.str (sL l))]) Q := by
  refine F_read_lock ?_
  unfold m_read_lock
  have hs : ([10] : List Nat) ≠ [] ∧ ([10] : List Nat).all (fun c => decide (c < 256)) = true ∧ l.length ≤ 100000 := ⟨by decide, by decide, by omega⟩
  obtain ⟨init, z, er, ei⟩ := rows_of l
  have hmany := spl_many (S := [10]) l 0 []
  have hfac : ∀ p ∈ init ++ [z], Asc p ∧ p.length ≤ l.length := fun p hp => spl_facts ha (by rw [er]; exact hp)
  have hdue : due l = LM.go (init ++ [z]) 0 [] init := by unfold due; rw [ei, er]
  rw [hdue] at hd0
  rw [er, List.length_append, List.length_singleton] at hmany
  have ecut : cutD ((init ++ [z]).map fun l => D.str (sL l)) none (some (-1)) = init.map fun l => D.str (sL l) := by rw [List.map_append]; exact cut_init
  k_call_by "ev" 0
  rw [er]
  k_call_by "ev" 0
  rw [ecut]
  refine for_enum (fun n ρ => n ≤ init.length ∧ ∃ fd x4 x5 x6, St init z n fd ∧ ρ = [some (.fz (.str (sL l))), some (.fz (.nd .lst ((init ++ [z]).map fun l => .str (sL l)))), some (.nd .lst ((fd.map tD).map .fz)), some (.fz (.str (sL (body fd)))), x4, x5, x6]) (fun n d ρ hd hI => ?_) (fun ρ hI => ?_) ⟨Nat.zero_le _, [], _, _, _, St.zero init z, rfl⟩
  · obtain ⟨hn, fd, x4, x5, x6, hS, rfl⟩ := hI
    rw [List.getElem?_map] at hd
    obtain ⟨x, hx, rfl⟩ := Option.map_eq_some_iff.mp hd
    obtain ⟨hn2, _⟩ := List.getElem?_eq_some_iff.mp hx
    have hxm : x ∈ init ++ [z] := List.mem_append_left _ (List.mem_of_getElem? hx)
    obtain ⟨xa, xl⟩ := hfac x hxm
    have hfl := hS.len hn
    have hbp := body_pre er hS.tk
    have hbl : (body fd).length ≤ l.length := by
      have := congrArg List.length hbp
      rw [List.length_append] at this
      omega
    have hba : Asc (body fd) := fun c hc => ha c (by rw [hbp]; exact List.mem_append_left _ hc)
    k_call_by "ev" 0
    refine triple_ok xa (by omega) ?_
    cases ht : triO x with
    | none =>
      have he := hS.fin hx ht
      rw [hd0] at he
      rw [show triD none = D.non from rfl]
      unfold endR at he
      by_cases h1 : isChk x fd = true
      · rw [if_pos h1] at he
        by_cases h2 : isEnd (init ++ [z]) n = true
        · rw [if_pos h2] at he
          injection he with he
          subst he
          k_call_by "ev" 0
          refine KCall_fr ?_
          iterate 14 k_call_by "ev1" 0
          refine ⟨congrArg (fun d => some [_, _, _, _, d]) toD_map, ?_⟩
          refine ended_told hn2 (by omega) (hfac z (by simp)).1 xa (by omega) hba (by omega) (by omega) h1 h2 ?_
          refine ⟨⟨_, _, rfl⟩, ?_⟩
          k_call_by "ev" 0
          exact k
        · rw [if_neg h2] at he; cases he
      · rw [if_neg h1] at he; cases he
    | some t =>
      rw [show triD (some t) = tD t from rfl]
      have hok := (triO_some ht).1
      have step : badTop fd t = false → n + 1 ≤ init.length ∧ ∃ fd' x4 x5 x6, St init z (n + 1) fd' ∧ ([some (.fz (.str (sL l))), some (.fz (.nd .lst ((init ++ [z]).map fun l => .str (sL l)))), some (.nd .lst (((fd ++ [t]).map tD).map .fz)), some (.fz (.str (sL (body (fd ++ [t]))))), some (.fz (.int (n : Int))), some (.fz (.str (sL x))), some (.fz (tD t))] : DL.Env) = [some (.fz (.str (sL l))), some (.fz (.nd .lst ((init ++ [z]).map fun l => .str (sL l)))), some (.nd .lst ((fd'.map tD).map .fz)), some (.fz (.str (sL (body fd')))), x4, x5, x6] := fun hb => ⟨hn2, fd ++ [t], _, _, _, hS.next hx ht hb, rfl⟩
      have e : (fd ++ [t]).map tD = fd.map tD ++ [tD t] := by rw [List.map_append]; rfl
      rw [e, body_snoc, ← (triO_some ht).2] at step
      rcases nil_or_snoc fd with rfl | ⟨r, u, rfl⟩
      · have step := step rfl
        k_call_by "ev" 0
        exact step
      · rw [badTop_snoc] at step
        have a1 : atI ((r ++ [u]).map tD) (-1) = some (tD u) := by rw [List.map_append]; exact atI_last
        have g1 : decide (0 < (((r ++ [u]).map tD).length : Int)) = true := decide_eq_true (by rw [List.length_map, List.length_append, List.length_singleton]; omega)
        have hlen : ((r ++ [u]).map tD).length < 100000 := by rw [List.length_map, hfl]; omega
        by_cases d1 : u.nm < t.nm
        · have step := step (by rw [decide_eq_true d1]; rfl)
          have d1 := decide_eq_true d1
          k_call_by "ev" 0
          refine FB_tD0 ?_
          k_call_by "ev" 0
          refine FB_tD0 ?_
          k_call_by "ev" 0
          exact step
        · have hb : badTop (r ++ [u]) t = true := by rw [badTop_snoc, decide_eq_false d1]; rfl
          have he := hS.bad hx ht hb
          rw [hd0] at he
          cases he
  · obtain ⟨hn, fd, x4, x5, x6, hS, rfl⟩ := hI
    rw [List.length_map] at hS
    have he := hS.done
    rw [hd0] at he
    cases he
end K41

end
section

namespace K41
theorem istri_ok {t : Tri} {Q : T → List T → Prop} (h : t.Ok) (hf : t.fs.length ≤ 90000) (k : Q (.fz (.bl true)) [.fz (tD t)]) : Fok (d_law_is_triple [.fz (tD t)]) Q := by
  refine F_law_is_triple ?_
  unfold m_law_is_triple
  obtain ⟨nm, vs, fs⟩ := t
  have hv : vs.length = 3 := h.vs.1
  unfold tD vD at *
  dsimp only at *
  have d3 : decide ((((vs.map D.int).length : Nat) : Int) = 3) = true := decide_eq_true (by rw [List.length_map, hv]; rfl)
  k_call_by "ev" 0
  have all_true : ∀ {α : Type} (l : List α), ((l.map fun _ => true).all id) = true := fun l => by
    rw [List.all_map]
    exact List.all_eq_true.mpr fun _ _ => rfl
  have g1 : (!((vs.map fun _ => true).all id)) = false := by rw [all_true] <;> rfl
  refine lc_mapf D.int (fun _ => .bl true) (fun ρ => ρ = [some (.fz (.nd .tup [.str (sL nm), .nd .tup (vs.map D.int), .nd .tup (fs.map fun f => .str (sL f))])), none, none]) vs (fun t ρ ht hr => ?_) rfl fun ρ' hr => ?_
  · subst hr
    k_call_by "ev" 0
    try rfl
  · subst hr
    refine ⟨small_of (by rw [List.length_map]; omega), ?_⟩
    k_call_by "ev" 0
    refine lc_mapf (fun f => D.str (sL f)) (fun _ => .bl true) (fun ρ => ρ = [some (.fz (.nd .tup [.str (sL nm), .nd .tup (vs.map D.int), .nd .tup (fs.map fun f => .str (sL f))])), none, none]) fs (fun t ρ ht hr => ?_) rfl fun ρ' hr => ?_
    · subst hr
      k_call_by "ev" 0
      try rfl
    · subst hr
      refine ⟨small_of (by rw [List.length_map]; omega), ?_⟩
      k_call_by "ev" 0
      rw [all_true]
      exact k
theorem locks_ok {ts : List Tri} {Q : T → List T → Prop} (hl : ts.length ≤ 90000) (k : Q (.fz (.nd .tup (ts.map fun t => .nd .tup [.str (sL t.nm), vD t.vs]))) [.fz (.nd .tup (ts.map tD))]) : Fok (d_locks_of [.fz (.nd .tup (ts.map tD))]) Q := by
  refine F_locks_of ?_
  unfold m_locks_of
  k_call_by "ev" 0
  refine lc_mapf tD (fun t => .nd .tup [.str (sL t.nm), vD t.vs]) (fun ρ => ρ = [some (.fz (.nd .tup (ts.map tD))), none, none, none]) ts (fun t ρ ht hr => ?_) rfl fun ρ' hr => ?_
  · subst hr
    unfold tD
    k_call_by "ev" 0
    try rfl
  · subst hr
    refine ⟨small_of (by rw [List.length_map]; omega), ?_⟩
    k_call_by "ev" 0
    exact k
end K41

end
section

namespace K41
theorem isint_ok {i : Int} {Q : T → List T → Prop} (k : Q (.fz (.bl true)) [.fz (.int i)]) : Fok (d_is_integer [.fz (.int i)]) Q := by
  refine F_is_integer ?_
  unfold m_is_integer
  k_call_by "ev" 0
  exact k
theorem within_ok {i a b : Int} {Q : T → List T → Prop} (h1 : a ≤ i) (h2 : i ≤ b) (k : Q (.fz (.bl true)) [.fz (.int i), .fz (.int a), .fz (.int b)]) : Fok (d_is_within [.fz (.int i), .fz (.int a), .fz (.int b)]) Q := by
  refine F_is_within ?_
  unfold m_is_within
  k_call_by "ev" 0
  refine isint_ok ?_
  have d1 : decide (a ≤ i) = true := decide_eq_true h1
  have d2 : decide (i ≤ b) = true := decide_eq_true h2
  k_call_by "ev" 0
  rw [d2]
  exact k
theorem isver_ok {v : List Int} {Q : T → List T → Prop} (h : Ver v) (k : Q (.fz (.bl true)) [.fz (vD v)]) : Fok (d_is_version [.fz (vD v)]) Q := by
  refine F_is_version ?_
  unfold m_is_version k_GREATEST vD
  have hv : v.length = 3 := h.1
  have d3 : decide ((((v.map D.int).length : Nat) : Int) = 3) = true := decide_eq_true (by rw [List.length_map, hv]; rfl)
  have all_true : ∀ {α : Type} (l : List α), ((l.map fun _ => true).all id) = true := fun l => by
    rw [List.all_map]
    exact List.all_eq_true.mpr fun _ _ => rfl
  k_call_by "ev" 0
  refine lc_mapf D.int (fun _ => .bl true) (fun ρ => ρ = [some (.fz (.nd .tup (v.map D.int))), none]) v (fun t ρ ht hr => ?_) rfl fun ρ' hr => ?_
  · subst hr
    have ht2 := h.2 t ht
    k_call_by "ev" 0
    refine within_ok ht2.1 ht2.2 ?_
    k_call_by "ev" 0
    try rfl
  · subst hr
    refine ⟨small_of (by rw [List.length_map]; omega), ?_⟩
    k_call_by "ev" 0
    rw [all_true]
    exact k
theorem rising_lst {xs : List (List Nat)} {Q : T → List T → Prop} (hl : xs.length ≤ 90000) (k : Q (.fz (.bl (decide (xs.Pairwise (· < ·))))) [.fz (.nd .lst (xs.map fun l => .str (sL l)))]) : Fok (d_is_rising [.fz (.nd .lst (xs.map fun l => .str (sL l)))]) Q := by
  refine F_is_rising ?_
  unfold m_is_rising
  have hr : -(2 ^ 62) ≤ (((xs.map fun l => D.str (sL l)).length : Nat) : Int) - 1 ∧ (((xs.map fun l => D.str (sL l)).length : Nat) : Int) - 1 < 2 ^ 62 := by rw [List.length_map]; omega
  k_call_by "ev" 0
  rw [show ((((xs.map fun l => D.str (sL l)).length : Nat) : Int) - 1).toNat = xs.length - 1 by rw [List.length_map]; omega, rng_map]
  refine lc_mapf (fun i : Nat => D.int (i : Int)) (fun i => .bl (decide (xs.getD i [] < xs.getD (i + 1) []))) (fun ρ => ρ = [some (.fz (.nd .lst (xs.map fun l => .str (sL l)))), none]) (List.range (xs.length - 1)) (fun i ρ hi hr => ?_) rfl fun ρ' hr => ?_
  · subst hr
    have hi := List.mem_range.mp hi
    have a0 : atI (xs.map fun l => D.str (sL l)) (i : Int) = some (.str (sL (xs.getD i []))) := atN (by rw [List.getElem?_map, List.getElem?_eq_getElem (by omega), List.getD_eq_getElem?_getD, List.getElem?_eq_getElem (by omega)]; rfl)
    have a1 : atI (xs.map fun l => D.str (sL l)) ((i : Int) + 1) = some (.str (sL (xs.getD (i + 1) []))) := atI_1 (by rw [List.getElem?_map, List.getElem?_eq_getElem (by omega), List.getD_eq_getElem?_getD, List.getElem?_eq_getElem (by omega)]; rfl)
    k_call_by "ev" 0
    rfl
  · subst hr
    refine ⟨small_of (by rw [List.length_map, List.length_range]; omega), ?_⟩
    have b1 : bls ((List.range (xs.length - 1)).map fun i => D.bl (decide (xs.getD i [] < xs.getD (i + 1) []))) = some ((List.range (xs.length - 1)).map fun i => decide (xs.getD i [] < xs.getD (i + 1) [])) := bls_map (fun i => decide (xs.getD i [] < xs.getD (i + 1) [])) _
    k_call_by "ev" 0
    have e : ((List.range (xs.length - 1)).map fun i => decide (xs.getD i [] < xs.getD (i + 1) [])).all id = decide (xs.Pairwise (· < ·)) := by
      rw [all_map, Bool.eq_iff_iff, decide_eq_true_iff, List.all_eq_true, ← pw_adj]
      exact ⟨fun h i hi => of_decide_eq_true (h i (List.mem_range.mpr (by omega))), fun h i hi => decide_eq_true (h i (by have := List.mem_range.mp hi; omega))⟩
    rw [e]
    exact k
theorem arelocks_ok {ts : List Tri} {Q : T → List T → Prop} (o : Ok ts) (hl : ts.length ≤ 40) (k : Q (.fz (.bl true)) [.fz (.nd .tup (ts.map fun t => .nd .tup [.str (sL t.nm), vD t.vs]))]) : Fok (d_are_locks [.fz (.nd .tup (ts.map fun t => .nd .tup [.str (sL t.nm), vD t.vs]))]) Q := by
  refine F_are_locks ?_
  unfold m_are_locks k_MOST_LOCKS
  have d1 : decide ((40 : Int) < (((ts.map fun t => D.nd .tup [.str (sL t.nm), vD t.vs]).length : Nat) : Int)) = false := decide_eq_false (by rw [List.length_map]; omega)
  have all_true : ∀ {α : Type} (l : List α), ((l.map fun _ => true).all id) = true := fun l => by
    rw [List.all_map]
    exact List.all_eq_true.mpr fun _ _ => rfl
  have g1 : (!((ts.map fun _ => true).all id)) = false := by rw [all_true] <;> rfl
  k_call_by "ev" 0
  refine lc_mapf (fun t => .nd .tup [.str (sL t.nm), vD t.vs]) (fun _ => .bl true) (fun ρ => ρ = [some (.fz (.nd .tup (ts.map fun t => .nd .tup [.str (sL t.nm), vD t.vs]))), none]) ts (fun t ρ ht hr => ?_) rfl fun ρ' hr => ?_
  · subst hr
    have hn := (o.ok t ht).nm
    have hb : nmB t.nm = true := nmB_iff.mpr hn
    k_call_by "ev" 0
    refine isname_ok (by have := hn.1.2; omega) ?_
    rw [hb]
    k_call_by "ev" 0
    try rfl
  · subst hr
    refine ⟨small_of (by rw [List.length_map]; omega), ?_⟩
    k_call_by "ev" 0
    refine lc_mapf (fun t => .nd .tup [.str (sL t.nm), vD t.vs]) (fun _ => .bl true) (fun ρ => ρ = [some (.fz (.nd .tup (ts.map fun t => .nd .tup [.str (sL t.nm), vD t.vs]))), none]) ts (fun t ρ ht hr => ?_) rfl fun ρ' hr => ?_
    · subst hr
      k_call_by "ev" 0
      refine isver_ok (o.ok t ht).vs ?_
      k_call_by "ev" 0
      try rfl
    · subst hr
      refine ⟨small_of (by rw [List.length_map]; omega), ?_⟩
      k_call_by "ev" 0
      rw [all_true]
      k_call_by "ev" 0
      refine lc_mapf (fun t => .nd .tup [.str (sL t.nm), vD t.vs]) (fun t => .str (sL t.nm)) (fun ρ => ρ = [some (.fz (.nd .tup (ts.map fun t => .nd .tup [.str (sL t.nm), vD t.vs]))), none]) ts (fun t ρ ht hr => ?_) rfl fun ρ' hr => ?_
      · subst hr
        k_call_by "ev" 0
        try rfl
      · subst hr
        refine ⟨small_of (by rw [List.length_map]; omega), ?_⟩
        k_call_by "ev" 0
        rw [show (ts.map fun t => D.str (sL t.nm)) = (ts.map (·.nm)).map fun l => D.str (sL l) by rw [List.map_map]; rfl]
        refine rising_lst (by rw [List.length_map]; omega) ?_
        rw [decide_eq_true o.asc]
        k_call_by "ev" 0
        exact k
end K41

end
section

namespace K41
def lkD (ts : List Tri) : D := .nd .tup (ts.map fun t => .nd .tup [.str (sL t.nm), vD t.vs])
theorem question_ok {ts : List Tri} {Q : T → List T → Prop} (o : Ok ts) (hl : ts.length ≤ 40) (k : Q (.fz .non) [.nd (.ins "Question" ["wishes", "locks"]) [.fz (.nd .tup []), .fz (lkD ts)], .fz (.nd .tup []), .fz (lkD ts)]) : Fok (d_Question [.nd (.ins "Question" []) [], .fz (.nd .tup []), .fz (lkD ts)]) Q := by
  unfold lkD at *
  refine F_Question ?_
  unfold m_Question k_MOST_WISHES
  k_call_by "ev" 0
  rw [show enumD 0 [] = ([] : List D) from rfl]
  k_call_by "ev" 0
  refine arelocks_ok o hl ?_
  k_call_by "ev" 0
  exact k
end K41

end
section

namespace K41
theorem ok_vD (v : List Int) (n : Nat) : DL.okE (n + 1) (vD v) = true := by
  show (v.map D.int).all (DL.okE n) = true
  rw [List.all_map]
  exact List.all_eq_true.mpr fun x _ => by cases n <;> rfl
theorem ok_tD {t : Tri} (h : t.Ok) : DL.okE 3 (tD t) = true := by
  show (PyData.strOk (sL t.nm) && (DL.okE 2 (vD t.vs) && ((t.fs.map fun f => D.str (sL f)).all (DL.okE 1) && true))) = true
  have h1 : PyData.strOk (sL t.nm) = true := strOk_sL fun c hc => by have := h.nm.2 c hc; omega
  have h3 : (t.fs.map fun f => D.str (sL f)).all (DL.okE 1) = true := by
    rw [List.all_map]
    exact List.all_eq_true.mpr fun x hx => strOk_sL fun c hc => by have := (h.fs x hx).2 c hc; omega
  rw [h1, ok_vD, h3]
  rfl
theorem right_ok {ts : List Tri} {Q : T → List T → Prop} (o : Ok ts) (s : Sz ts) (k : Q (.fz (.bl true)) [.fz (.nd .tup (ts.map tD))]) : Fok (d_law_is_right [.fz (.nd .tup (ts.map tD))]) Q := by
  refine F_law_is_right ?_
  unfold m_law_is_right
  have hl := text_len' o.ok s
  have ha : Asc (text ts) := fun c hc => by have := text_asc o.ok c hc; omega
  have qt : eqD (.str (sL (text ts))) (.str (sL (text ts))) = some true := by rw [eqD_sL ha ha]; exact congrArg some (decide_eq_true rfl)
  have all_true : ∀ {α : Type} (l : List α), ((l.map fun _ => true).all id) = true := fun l => by
    rw [List.all_map]
    exact List.all_eq_true.mpr fun _ _ => rfl
  have hn := s.n
  k_call_by "ev" 0
  refine ltext_ok o.ok s ?_
  k_call_by "ev" 0
  refine lltext_ok o.ok s ?_
  k_call_by "ev" 0
  refine read_told ha (by omega) (due_text o) ?_
  k_call_by "ev" 0
  refine lc_mapf tD (fun _ => .bl true) (fun ρ => ρ = [some (.fz (.nd .tup (ts.map tD))), some (.fz (.str (sL (text ts)))), some (.fz (.nd .tup (ts.map tD))), none, none, none, none]) ts (fun t ρ ht hr => ?_) rfl fun ρ' hr => ?_
  · subst hr
    k_call_by "ev" 0
    refine istri_ok (o.ok t ht) (by have := s.f t ht; omega) ?_
    k_call_by "ev" 0
    try rfl
  · subst hr
    refine ⟨small_of (by rw [List.length_map]; omega), ?_⟩
    have g1 : (!((ts.map fun _ => true).all id)) = false := by rw [all_true] <;> rfl
    have qb : eqD (.nd .tup (ts.map tD)) (.nd .tup (ts.map tD)) = some true := eqD_self (n := 4) (by decide) (by
      show (ts.map tD).all (DL.okE 3) = true
      rw [List.all_map]
      exact List.all_eq_true.mpr fun x hx => ok_tD (o.ok x hx))
    k_call_by "ev" 0
    refine locks_ok (by omega) ?_
    k_call_by "ev" 0
    refine lc_mapf tD (fun t => .nd .tup [.str (sL t.nm), vD t.vs]) (fun ρ => ρ = [some (.fz (.nd .tup (ts.map tD))), some (.fz (.str (sL (text ts)))), some (.fz (.nd .tup (ts.map tD))), some (.fz (.nd .tup (ts.map fun t => .nd .tup [.str (sL t.nm), vD t.vs]))), none, none, none]) ts (fun t ρ ht hr => ?_) rfl fun ρ' hr => ?_
    · subst hr
      unfold tD
      k_call_by "ev" 0
      try rfl
    · subst hr
      refine ⟨small_of (by rw [List.length_map]; omega), ?_⟩
      k_call_by "ev" 0
      have ql : eqD (.nd .tup (ts.map fun t => .nd .tup [.str (sL t.nm), vD t.vs])) (.nd .tup (ts.map fun t => .nd .tup [.str (sL t.nm), vD t.vs])) = some true := eqD_self (n := 3) (by decide) (by
        show (ts.map fun t => D.nd .tup [.str (sL t.nm), vD t.vs]).all (DL.okE 2) = true
        rw [List.all_map]
        refine List.all_eq_true.mpr fun x hx => ?_
        show (PyData.strOk (sL x.nm) && (DL.okE 1 (vD x.vs) && true)) = true
        rw [ok_vD, strOk_sL fun c hc => by have := (o.ok x hx).nm.2 c hc; omega]
        rfl)
      refine lc_mapf (fun t => .nd .tup [.str (sL t.nm), vD t.vs]) (fun _ => .bl true) (fun ρ => ρ = [some (.fz (.nd .tup (ts.map tD))), some (.fz (.str (sL (text ts)))), some (.fz (.nd .tup (ts.map tD))), some (.fz (.nd .tup (ts.map fun t => .nd .tup [.str (sL t.nm), vD t.vs]))), some (.fz (.nd .tup (ts.map fun t => .nd .tup [.str (sL t.nm), vD t.vs]))), none, none]) ts (fun t ρ ht hr => ?_) rfl fun ρ' hr => ?_
      · subst hr
        k_call_by "ev" 0
        try rfl
      · subst hr
        refine ⟨small_of (by rw [List.length_map]; omega), ?_⟩
        by_cases h40 : ts.length ≤ 40
        · have d1 : decide ((40 : Int) < (((ts.map fun t => D.nd .tup [.str (sL t.nm), vD t.vs]).length : Nat) : Int)) = false := decide_eq_false (by rw [List.length_map]; omega)
          k_call_by "ev" 0
          refine question_ok o h40 ?_
          refine ⟨rfl, _, _, rfl, ?_⟩
          unfold lkD
          k_call_by "ev" 0
          exact k
        · have d1 : decide ((40 : Int) < (((ts.map fun t => D.nd .tup [.str (sL t.nm), vD t.vs]).length : Nat) : Int)) = true := decide_eq_true (by rw [List.length_map]; omega)
          k_call_by "ev" 0
          exact k
end K41

end
section

namespace K41
theorem inD_str {a : List Nat} : ∀ {xs : List (List Nat)}, inD (.str (sL a)) (xs.map fun l => .str (sL l)) = decide (a ∈ xs)
  | [] => rfl
  | x :: xs => by
    have h : inD (.str (sL a)) ((x :: xs).map fun l => .str (sL l)) = (eqV (D.v (.str (sL x))) (D.v (.str (sL a))) || inD (.str (sL a)) (xs.map fun l => .str (sL l))) := rfl
    rw [h, inD_str (xs := xs)]
    have e : eqV (D.v (.str (sL x))) (D.v (.str (sL a))) = decide (sL x = sL a) := rfl
    rw [e]
    by_cases z : a = x
    · subst z; simp
    · have z1 : ¬ sL x = sL a := fun y => z (sL_inj y).symm
      rw [decide_eq_false z1]
      simp [z]
/-- one triple otherwise -/
theorem ok_set {I : List Tri} {n : Nat} {u v : Tri} (o : Ok I) (hu : I[n]? = some u) (hv : v.Ok) (hn : v.nm = u.nm) : Ok (I.take n ++ [v] ++ I.drop (n + 1)) := by
  obtain ⟨hl, rfl⟩ := List.getElem?_eq_some_iff.mp hu
  refine ⟨fun t ht => ?_, ?_⟩
  · rcases List.mem_append.mp ht with ht | ht
    · rcases List.mem_append.mp ht with ht | ht
      · exact o.ok t (List.mem_of_mem_take ht)
      · rw [List.mem_singleton.mp ht]; exact hv
    · exact o.ok t (List.mem_of_mem_drop ht)
  · have e : (I.take n ++ [v] ++ I.drop (n + 1)).map (·.nm) = I.map (·.nm) := by
      conv => rhs; rw [← List.take_append_drop n I, List.drop_eq_getElem_cons hl]
      simp only [List.map_append, List.map_cons, List.map_nil, List.append_assoc, List.cons_append, List.nil_append, hn]
    rw [e]
    exact o.asc
theorem sz_set {I : List Tri} {n : Nat} {v : Tri} (s : Sz I) (hn : n < I.length) (hv : v.fs.length ≤ 10) : Sz (I.take n ++ [v] ++ I.drop (n + 1)) := by
  refine ⟨?_, fun t ht => ?_⟩
  · have := s.n
    simp only [List.length_append, List.length_take, List.length_drop, List.length_singleton]
    omega
  · rcases List.mem_append.mp ht with ht | ht
    · rcases List.mem_append.mp ht with ht | ht
      · exact s.f t (List.mem_of_mem_take ht)
      · rw [List.mem_singleton.mp ht]; exact hv
    · exact s.f t (List.mem_of_mem_drop ht)
theorem ok_out {I : List Tri} {n : Nat} (o : Ok I) : Ok (I.take n ++ I.drop (n + 1)) := by
  have hs : (I.take n ++ I.drop (n + 1)).Sublist I := by
    conv => rhs; rw [← List.take_append_drop n I]
    refine List.Sublist.append (List.Sublist.refl _) ?_
    rw [← List.drop_drop]
    exact List.drop_sublist _ _
  exact ⟨fun t ht => o.ok t (hs.subset ht), o.asc.sublist (hs.map _)⟩
theorem sz_out {I : List Tri} {n : Nat} (s : Sz I) : Sz (I.take n ++ I.drop (n + 1)) := by
  refine ⟨?_, fun t ht => ?_⟩
  · have := s.n
    simp only [List.length_append, List.length_take, List.length_drop]
    omega
  · rcases List.mem_append.mp ht with ht | ht
    · exact s.f t (List.mem_of_mem_take ht)
    · exact s.f t (List.mem_of_mem_drop ht)
local macro_rules | `(tactic| k_call_by "call" 0) => `(tactic| first
  | ((with_reducible apply draw_ok); assumption; (first | assumption | decide | omega); intro _ _ _ _ _))
def u0 : Tri := ⟨[97], [0, 0, 0], []⟩
theorem ok_u0 : Ok [u0] := ⟨fun t ht => by
  rw [List.mem_singleton.mp ht]
  exact ⟨⟨by decide, by decide⟩, ⟨by decide, by decide⟩, (fun _ h => nomatch h), .nil⟩, by simp⟩
theorem ver_rev {v : List Int} (h : Ver v) : Ver v.reverse := ⟨by rw [List.length_reverse]; exact h.1, fun x hx => h.2 x (List.mem_reverse.mp hx)⟩
theorem ver_set {v : List Int} {k : Nat} {y : Int} (h : Ver v) (hk : k < 3) (hy : 0 ≤ y ∧ y ≤ 1000000) : Ver (v.take k ++ [y] ++ v.drop (k + 1)) := by
  refine ⟨?_, fun x hx => ?_⟩
  · have := h.1
    simp only [List.length_append, List.length_take, List.length_drop, List.length_singleton]
    omega
  · rcases List.mem_append.mp hx with hx | hx
    · rcases List.mem_append.mp hx with hx | hx
      · exact h.2 x (List.mem_of_mem_take hx)
      · rw [List.mem_singleton.mp hx]; exact hy
    · exact h.2 x (List.mem_of_mem_drop hx)
theorem unlike_ok {t : T} {I : List Tri} {Q : T → List T → Prop} (h : HandOk t) (o : Ok I) (s : Sz I) (s9 : ∀ t ∈ I, t.fs.length ≤ 9) (k : ∀ J t', Ok J → Sz J → HandOk t' → Q (.fz (.nd .tup (J.map tD))) [t', .fz (.nd .tup (I.map tD))]) : Fok (d_law_unlike [t, .fz (.nd .tup (I.map tD))]) Q := by
  refine F_law_unlike ?_
  unfold m_law_unlike
  have hn := s.n
  have hml : (I.map tD).length = I.length := List.length_map ..
  by_cases h0 : I.length = 0
  · rw [List.length_eq_zero_iff.mp h0] at k ⊢
    k_call_by "ev" 0
    exact k [u0] _ ok_u0 ⟨by decide, by decide⟩ h
  · have d0 : decide ((((I.map tD).length : Nat) : Int) = 0) = false := decide_eq_false (by omega)
    have m1 : 1 ≤ ((I.map tD).length : Int) ∧ ((I.map tD).length : Int) < 1073741824 := by omega
    k_call_by "ev" 0
    rename_i r t1 r0 r1 h1
    obtain ⟨n, rfl⟩ := nat_of r0
    have hnl : n < I.length := by omega
    have hu := List.getElem?_eq_getElem hnl
    generalize hue : I[n] = u at hu
    have hum : u ∈ I := List.mem_of_getElem? hu
    have uo := o.ok u hum
    have u9 := s9 u hum
    obtain ⟨unm, uvs, ufs⟩ := u
    have uv : Ver uvs := uo.vs
    have un : Nm unm := uo.nm
    have uf : ∀ f ∈ ufs, Nm f := uo.fs
    have ua : ufs.Pairwise (· < ·) := uo.asc
    have ul : ufs.length ≤ 9 := u9
    have e1 : atI (I.map tD) (n : Int) = some (.nd .tup [.str (sL unm), .nd .tup (uvs.map D.int), .nd .tup (ufs.map fun f => .str (sL f))]) := atN (by rw [List.getElem?_map, hu]; rfl)
    k_call_by "ev" 0
    rename_i kk t2 k0 k1 h2
    obtain ⟨kn, rfl⟩ := nat_of k0
    have hk3 : kn < 3 := by omega
    refine any_ok h2 ⟨Nat.le_of_ble_eq_true rfl, Nat.le_of_ble_eq_true rfl⟩ fun d t3 hd h3 => ?_
    have hw : ∃ w : List Nat, Nm w ∧ d = .str (sL w) := by
      simp only [List.mem_cons, List.not_mem_nil, or_false] at hd
      rcases hd with rfl | rfl | rfl
      · exact ⟨_, ⟨by decide, by decide⟩, rfl⟩
      · exact ⟨_, ⟨by decide, by decide⟩, rfl⟩
      · exact ⟨_, ⟨by decide, by decide⟩, rfl⟩
    obtain ⟨w, hw, rfl⟩ := hw
    have hkl : kn < uvs.length := by rw [uv.1]; exact hk3
    have hx := List.getElem?_eq_getElem hkl
    generalize uvs[kn] = x at hx
    have xb := uv.2 x (List.mem_of_getElem? hx)
    have e2 : atI (uvs.map D.int) (kn : Int) = some (.int x) := atN (by rw [List.getElem?_map, hx]; rfl)
    k_call_by "ev" 0
    refine any_ok h3 ⟨Nat.le_of_ble_eq_true rfl, Nat.le_of_ble_eq_true rfl⟩ fun d t4 hd h4 => ?_
    obtain ⟨y, hy, rfl⟩ := int_in (ns := [0, 1, 10, 1000000, x.fdiv 10]) hd
    have hy : 0 ≤ y ∧ y ≤ 1000000 := by
      have : 0 ≤ x.fdiv 10 ∧ x.fdiv 10 ≤ 1000000 := by rw [Int.fdiv_eq_ediv_of_nonneg _ (by decide)]; omega
      simp only [List.mem_cons, List.not_mem_nil, or_false] at hy
      rcases hy with rfl | rfl | rfl | rfl | rfl <;> omega
    k_call_by "ev" 0
    refine Kif.imp (R := fun a ρ' => ∃ y' : Int, (0 ≤ y' ∧ y' ≤ 1000000) ∧ a = Arg.vl (.int y') ∧ ρ' = [some t4, some (.fz (.nd .tup (I.map tD))), some (.fz (.int (n : Int))), some (.fz (.int y)), none, none, none, some (.fz (.str (sL unm))), some (.fz (.nd .tup (uvs.map D.int))), some (.fz (.nd .tup (ufs.map fun f => .str (sL f)))), some (.fz (.int (kn : Int))), some (.fz (.str (sL w))), none, none]) ?_ fun a ρ' hR => ?_
    · by_cases dy : y = x
      · have dy : decide (y = x) = true := decide_eq_true dy
        k_call_by "ev" 0
        refine ⟨_, ?_, rfl, rfl⟩
        rw [Int.fmod_eq_emod_of_nonneg _ (by decide)]
        omega
      · have dy : decide (y = x) = false := decide_eq_false dy
        k_call_by "ev" 0
        exact ⟨_, hy, rfl, rfl⟩
    · obtain ⟨y', hy', rfl, rfl⟩ := hR
      have c1 : cutD (uvs.map D.int) none (some (kn : Int)) = (uvs.take kn).map D.int := by rw [cut_take, List.map_take]
      have c2 : cutD (uvs.map D.int) (some ((kn : Int) + 1)) none = (uvs.drop (kn + 1)).map D.int := by rw [show (kn : Int) + 1 = ((kn + 1 : Nat) : Int) from rfl, cut_drop, List.map_drop]
      have c3 : cutD (I.map tD) none (some (n : Int)) = (I.take n).map tD := by rw [cut_take, List.map_take]
      have c4 : cutD (I.map tD) (some ((n : Int) + 1)) none = (I.drop (n + 1)).map tD := by rw [show (n : Int) + 1 = ((n + 1 : Nat) : Int) from rfl, cut_drop, List.map_drop]
      have z1 : (cutD (uvs.map D.int) none (some (kn : Int))).length + [D.int y'].length ≤ 100000 := by
        have := uv.1
        rw [c1, List.length_map, List.length_take]
        show _ + 1 ≤ _
        omega
      have z2 : (cutD (uvs.map D.int) none (some (kn : Int)) ++ [D.int y']).length + (cutD (uvs.map D.int) (some ((kn : Int) + 1)) none).length ≤ 100000 := by
        have := uv.1
        rw [c1, c2, List.length_append, List.length_map, List.length_map, List.length_take, List.length_drop]
        show _ + 1 + _ ≤ _
        omega
      have hv := ver_set uv hk3 hy'
      have ev : cutD (uvs.map D.int) none (some (kn : Int)) ++ [D.int y'] ++ cutD (uvs.map D.int) (some ((kn : Int) + 1)) none = (uvs.take kn ++ [y'] ++ uvs.drop (kn + 1)).map D.int := by rw [c1, c2, List.map_append, List.map_append]; rfl
      generalize uvs.take kn ++ [y'] ++ uvs.drop (kn + 1) = v2 at hv ev
      k_call_by "ev" 0
      rw [ev]
      have sc : (scal (.str (sL w)) && (DK.tup.isQ && (ufs.map fun f => D.str (sL f)).all scal)) = true := by
        show (true && (true && (ufs.map fun f => D.str (sL f)).all scal)) = true
        rw [List.all_map]
        simp only [Bool.true_and]
        exact List.all_eq_true.mpr fun x _ => rfl
      refine FB_ninQ sc ?_
      rw [inD_str]
      k_call_by "ev" 0
      refine Kif.imp (R := fun a ρ' => ∃ fs : List (List Nat), (∀ f ∈ fs, Nm f) ∧ fs.Pairwise (· < ·) ∧ fs.length ≤ 10 ∧ a = Arg.vl (.nd .tup (fs.map fun f => .str (sL f))) ∧ ρ' = [some t4, some (.fz (.nd .tup (I.map tD))), some (.fz (.int (n : Int))), some (.fz (.int y')), some (.fz (.nd .tup (v2.map D.int))), none, none, some (.fz (.str (sL unm))), some (.fz (.nd .tup (uvs.map D.int))), some (.fz (.nd .tup (ufs.map fun f => .str (sL f)))), some (.fz (.int (kn : Int))), some (.fz (.str (sL w))), none, none]) ?_ fun a ρ' hR => ?_
      · by_cases dw : w ∈ ufs
        · have dn : (!decide (w ∈ ufs)) = false := by rw [decide_eq_true dw]; rfl
          k_call_by "ev" 0
          refine lc_filt (fun l : List Nat => D.str (sL l)) (fun l => .str (sL l)) (fun l => !decide (l = w)) (fun ρ => ρ = [some t4, some (.fz (.nd .tup (I.map tD))), some (.fz (.int (n : Int))), some (.fz (.int y')), some (.fz (.nd .tup (v2.map D.int))), none, none, some (.fz (.str (sL unm))), some (.fz (.nd .tup (uvs.map D.int))), some (.fz (.nd .tup (ufs.map fun f => .str (sL f)))), some (.fz (.int (kn : Int))), some (.fz (.str (sL w))), none, none]) ufs (fun x ρ hx hr => ?_) rfl fun ρ' hr => ?_
          · subst hr
            have qx : eqD (.str (sL x)) (.str (sL w)) = some (decide (x = w)) := eqD_sL (fun c hc => by have := (uf x hx).2 c hc; omega) (fun c hc => by have := hw.2 c hc; omega)
            k_call_by "ev" 0
            refine ⟨fun z => ?_, fun z => ?_⟩
            · k_call_by "ev" 0
              try rfl
            · k_call_by "ev" 0
              try rfl
          · subst hr
            refine ⟨small_of (by rw [List.length_map]; have := List.length_filter_le (fun l => !decide (l = w)) ufs; omega), ?_⟩
            k_call_by "ev" 0
            exact ⟨_, fun f hf => uf f (List.mem_filter.mp hf).1, ua.sublist List.filter_sublist, by have := List.length_filter_le (fun l => !decide (l = w)) ufs; omega, rfl, rfl⟩
        · have dn : (!decide (w ∈ ufs)) = true := by rw [decide_eq_false dw]; rfl
          have z3 : (ufs.map fun f => D.str (sL f)).length + [D.str (sL w)].length ≤ 100000 := by rw [List.length_map]; show _ + 1 ≤ _; omega
          have z4 : (ufs.map fun f => D.str (sL f)) ++ [D.str (sL w)] = (ufs ++ [w]).map fun l => D.str (sL l) := by rw [List.map_append]; rfl
          have z5 : (ufs ++ [w]).length ≤ 4000 := by rw [List.length_append]; show _ + 1 ≤ _; omega
          k_call_by "ev" 0
          have hsl := sortN_len (ufs ++ [w])
          rw [List.length_append, List.length_singleton] at hsl
          refine ⟨_, fun f hf => ?_, sortN_asc (ufs ++ [w]), by omega, rfl, rfl⟩
          rcases List.mem_append.mp (sortN_mem.mp hf) with hf | hf
          · exact uf f hf
          · rw [List.mem_singleton.mp hf]; exact hw
      · obtain ⟨fs, f1, f2, f3, rfl, rfl⟩ := hR
        k_call_by "ev" 0
        rw [← List.map_reverse]
        have y1 : ∀ x : Tri, (cutD (I.map tD) none (some (n : Int))).length + [tD x].length ≤ 100000 := fun x => by
          rw [c3, List.length_map, List.length_take]
          show _ + 1 ≤ _
          omega
        have y2 : ∀ x : Tri, (cutD (I.map tD) none (some (n : Int)) ++ [tD x]).length + (cutD (I.map tD) (some ((n : Int) + 1)) none).length ≤ 100000 := fun x => by
          rw [c3, c4, List.length_append, List.length_map, List.length_map, List.length_take, List.length_drop]
          show _ + 1 + _ ≤ _
          omega
        have y3 : (cutD (I.map tD) none (some (n : Int))).length + (cutD (I.map tD) (some ((n : Int) + 1)) none).length ≤ 100000 := by
          rw [c3, c4, List.length_map, List.length_map, List.length_take, List.length_drop]
          omega
        refine lc_mapf tD (fun u => .nd .tup ((I.take n ++ [u] ++ I.drop (n + 1)).map tD)) (fun ρ => ρ = _) [⟨unm, v2, ufs⟩, ⟨unm, uvs, fs⟩, ⟨unm, uvs.reverse, ufs⟩] (fun x ρ hx hr => ?_) rfl fun ρ' hr => ?_
        · subst hr
          have y1 := y1 x
          have y2 := y2 x
          k_call_by "ev" 0
          refine ⟨by rw [c3, c4, List.map_append, List.map_append]; rfl, ?_⟩
          k_call_by "ev" 0
          rfl
        · subst hr
          refine ⟨small_of (by show 3 ≤ _; omega), ?_⟩
          k_call_by "ev" 0
          refine any_ok h4 ⟨Nat.le_of_ble_eq_true rfl, Nat.le_of_ble_eq_true rfl⟩ fun d t5 hd h5 => ?_
          have hJ : ∃ J, Ok J ∧ Sz J ∧ d = .nd .tup (J.map tD) := by
            rcases List.mem_append.mp hd with hd | hd
            · obtain ⟨v, hv, rfl⟩ := List.mem_map.mp hd
              have hv2 : v.Ok ∧ v.nm = unm ∧ v.fs.length ≤ 10 := by
                simp only [List.mem_cons, List.not_mem_nil, or_false] at hv
                rcases hv with rfl | rfl | rfl
                · exact ⟨⟨un, hv, uf, ua⟩, rfl, by show ufs.length ≤ 10; omega⟩
                · exact ⟨⟨un, uv, f1, f2⟩, rfl, f3⟩
                · exact ⟨⟨un, ver_rev uv, uf, ua⟩, rfl, by show ufs.length ≤ 10; omega⟩
              exact ⟨_, ok_set o hu hv2.1 hv2.2.1, sz_set s hnl hv2.2.2, rfl⟩
            · rw [List.mem_singleton.mp hd]
              exact ⟨_, ok_out o, sz_out s, by rw [c3, c4, List.map_append]⟩
          obtain ⟨J, j1, j2, rfl⟩ := hJ
          have k := k J _ j1 j2 h5
          k_call_by "ev" 0
          exact k
end K41

end
section

namespace K41
theorem tD_inj {t u : Tri} (h : tD t = tD u) : t = u := by
  obtain ⟨a, b, c⟩ := t
  obtain ⟨x, y, z⟩ := u
  have h : D.nd .tup [.str (sL a), .nd .tup (b.map D.int), .nd .tup (c.map fun f => .str (sL f))] = D.nd .tup [.str (sL x), .nd .tup (y.map D.int), .nd .tup (z.map fun f => .str (sL f))] := h
  injection h with _ h
  injection h with h1 h
  injection h with h2 h
  injection h with h3 _
  injection h1 with h1
  injection h2 with _ h2
  injection h3 with _ h3
  have e2 : b = y := (List.map_inj_right fun p q e => by injection e).mp h2
  have e3 : c = z := (List.map_inj_right fun p q e => sL_inj (by injection e)).mp h3
  rw [sL_inj h1, e2, e3]
theorem eq_two {I J : List Tri} (o : Ok I) (o' : Ok J) : eqD (.str (sL (text I))) (.str (sL (text J))) = some (decide (text I = text J)) ∧ eqD (.nd .tup (I.map tD)) (.nd .tup (J.map tD)) = some (decide (text I = text J)) := by
  have a1 : Asc (text I) := fun c hc => by have := text_asc o.ok c hc; omega
  have a2 : Asc (text J) := fun c hc => by have := text_asc o'.ok c hc; omega
  refine ⟨eqD_sL a1 a2, ?_⟩
  have ok3 : ∀ {I : List Tri}, Ok I → DL.okE 4 (.nd .tup (I.map tD)) = true := fun {I} o => by
    show (I.map tD).all (DL.okE 3) = true
    rw [List.all_map]
    exact List.all_eq_true.mpr fun x hx => ok_tD (o.ok x hx)
  have c := eqD_cases (n := 4) (by decide) (ok3 o) (ok3 o')
  by_cases z : text I = text J
  · have e : Res.told I = Res.told J := by rw [← due_text o, z, due_text o']
    injection e with e
    rw [decide_eq_true z]
    exact c.1 (by rw [e])
  · rw [decide_eq_false z]
    refine c.2 fun e => z ?_
    injection e with _ e
    rw [(List.map_inj_right fun p q e => tD_inj e).mp e]
theorem law_yes : LawYes d_law := fun ns _ => by
  suffices h : Fok (d_law [script ns]) fun r _ => r = .fz (.bl true) by
    obtain ⟨r, ts, e, rfl⟩ := h
    exact ⟨ts, e⟩
  refine F_law ?_
  unfold m_law
  have hs : script ns = .fz (.nd .ll (ns.map D.int)) := rfl
  k_call_by "ev" 0
  refine hand_ok fun t _ ht => ?_
  k_call_by "ev" 0
  refine for_inv (fun _ ρ => ∃ t x2 x3 x4, HandOk t ∧ ρ = [some (script ns), some t, x2, x3, x4]) (fun d ds ρ hI => ?_) (fun ρ hI => ?_) _ ⟨t, _, _, _, ht, rfl⟩
  · obtain ⟨t, x2, x3, x4, ht, rfl⟩ := hI
    k_call_by "ev" 0
    refine inst_ok ht fun I t1 o s s9 h1 => ?_
    k_call_by "ev" 0
    refine unlike_ok h1 o s s9 fun J t2 o2 s2 h2 => ?_
    k_call_by "ev" 0
    refine right_ok o s ?_
    k_call_by "ev" 0
    refine right_ok o2 s2 ?_
    obtain ⟨q1, q2⟩ := eq_two o o2
    have q3 : (!(decide (text I = text J) == decide (text I = text J))) = false := by simp
    k_call_by "ev" 0
    refine ltext_ok o.ok s ?_
    k_call_by "ev" 0
    refine ltext_ok o2.ok s2 ?_
    k_call_by "ev" 0
    exact ⟨_, _, _, _, h2, rfl⟩
  · obtain ⟨t, x2, x3, x4, ht, rfl⟩ := hI
    k_call_by "ev" 0
    rfl
end K41

end
end

theorem PySem.Challenge.cw_pinforge_k41_whole_locks_there_and_back_holds : PySem.Challenge.rw_pinforge_k41_whole_locks_there_and_back.Holds :=
  K41.fin K41.law_yes